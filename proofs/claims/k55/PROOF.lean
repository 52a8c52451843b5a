import PyProof.Rows.All
import Wide.All
import OpenK.AllK
import Wide.FinOn
import HandS.ForMost
import HandS.Walk
import HandS.Wide
import HandS.Strs
import HandS.IsInst
import PySem.Challenge.RW_noughtmeet_k55_echelon_forms
set_option Elab.async false
set_option linter.all false
set_option maxRecDepth 100000
set_option maxHeartbeats 4000000
/-! DL: data without a heap over the layer HandS: what an expression evaluates to, what a statement leads to. -/
namespace DL
open PySem PySem.Spec PyProof.Rows L2

inductive D where
  | non | bl (b : Bool) | int (i : Int) | str (x : Str)
  | lst (xs : List D) | tup (xs : List D) | scr (ns : List Int)
  /-- a list that is new since the def was entered -/
  | fl (xs : List D)

mutual
def Rep (K : PySem.W.Frag) (F : Addr → Prop) (I : Hp) : D → V → Prop
  | .non, v => v = .non
  | .bl b, v => v = .bl b
  | .int i, v => v = .int i
  | .str x, v => v = .str x
  | .lst ds, v => ∃ a vs, v = .ref a ∧ I a = some (.lst vs) ∧ Reps K F I ds vs
  | .tup ds, v => ∃ a vs, v = .ref a ∧ I a = some (.tup vs) ∧ Reps K F I ds vs
  | .scr ns, v => ∃ a, v = .ref a ∧ SqL K I a (ns.map V.int)
  | .fl ds, v => ∃ a vs, v = .ref a ∧ F a ∧ I a = some (.lst vs) ∧ Reps K F I ds vs
def Reps (K : PySem.W.Frag) (F : Addr → Prop) (I : Hp) : List D → List V → Prop
  | [], vs => vs = []
  | d :: ds, vs => ∃ v r, vs = v :: r ∧ Rep K F I d v ∧ Reps K F I ds r
end
mutual
theorem Rep.mono {K : PySem.W.Frag} {F : Addr → Prop} {I I' : Hp} (s : Same I I') : ∀ {d : D} {v : V}, Rep K F I d v → Rep K F I' d v
  | .non, _, h => by unfold Rep at h ⊢; exact h
  | .bl _, _, h => by unfold Rep at h ⊢; exact h
  | .int _, _, h => by unfold Rep at h ⊢; exact h
  | .str _, _, h => by unfold Rep at h ⊢; exact h
  | .lst _, _, h => by
    unfold Rep at h ⊢
    obtain ⟨a, vs, e, h1, h2⟩ := h
    exact ⟨a, vs, e, s _ _ h1, Reps.mono s h2⟩
  | .tup _, _, h => by
    unfold Rep at h ⊢
    obtain ⟨a, vs, e, h1, h2⟩ := h
    exact ⟨a, vs, e, s _ _ h1, Reps.mono s h2⟩
  | .scr _, _, h => by
    unfold Rep at h ⊢
    obtain ⟨a, e, h1⟩ := h
    exact ⟨a, e, s.seq h1⟩
  | .fl _, _, h => by
    unfold Rep at h ⊢
    obtain ⟨a, vs, e, f, h1, h2⟩ := h
    exact ⟨a, vs, e, f, s _ _ h1, Reps.mono s h2⟩
theorem Reps.mono {K : PySem.W.Frag} {F : Addr → Prop} {I I' : Hp} (s : Same I I') : ∀ {ds : List D} {vs : List V}, Reps K F I ds vs → Reps K F I' ds vs
  | [], _, h => by unfold Reps at h ⊢; exact h
  | _ :: _, _, h => by
    unfold Reps at h ⊢
    obtain ⟨v, r, e, h1, h2⟩ := h
    exact ⟨v, r, e, Rep.mono s h1, Reps.mono s h2⟩
end
section
variable {K : PySem.W.Frag} {F F' : Addr → Prop} {I I' H H' H0 I0 I1 H1 : Hp}
theorem rep_non {v : V} : Rep K F I .non v ↔ v = .non := by unfold Rep; exact Iff.rfl
theorem rep_bl {b : Bool} {v : V} : Rep K F I (.bl b) v ↔ v = .bl b := by unfold Rep; exact Iff.rfl
theorem rep_int {i : Int} {v : V} : Rep K F I (.int i) v ↔ v = .int i := by unfold Rep; exact Iff.rfl
theorem rep_str {i : Str} {v : V} : Rep K F I (.str i) v ↔ v = .str i := by unfold Rep; exact Iff.rfl
theorem rep_lst {ds : List D} {v : V} : Rep K F I (.lst ds) v ↔ ∃ a vs, v = .ref a ∧ I a = some (.lst vs) ∧ Reps K F I ds vs := by unfold Rep; exact Iff.rfl
theorem rep_tup {ds : List D} {v : V} : Rep K F I (.tup ds) v ↔ ∃ a vs, v = .ref a ∧ I a = some (.tup vs) ∧ Reps K F I ds vs := by unfold Rep; exact Iff.rfl
theorem rep_scr {ns : List Int} {v : V} : Rep K F I (.scr ns) v ↔ ∃ a, v = .ref a ∧ SqL K I a (ns.map V.int) := by unfold Rep; exact Iff.rfl
theorem rep_fl {ds : List D} {v : V} : Rep K F I (.fl ds) v ↔ ∃ a vs, v = .ref a ∧ F a ∧ I a = some (.lst vs) ∧ Reps K F I ds vs := by unfold Rep; exact Iff.rfl
theorem reps_nil {vs : List V} : Reps K F I [] vs ↔ vs = [] := by unfold Reps; exact Iff.rfl
theorem reps_cons {d : D} {ds : List D} {vs : List V} : Reps K F I (d :: ds) vs ↔ ∃ v r, vs = v :: r ∧ Rep K F I d v ∧ Reps K F I ds r := by
  constructor
  · intro h; unfold Reps at h; exact h
  · intro h; unfold Reps; exact h
theorem Reps.len : ∀ {ds : List D} {vs : List V}, Reps K F I ds vs → vs.length = ds.length
  | [], _, h => by rw [reps_nil] at h; rw [h]; rfl
  | _ :: ds, _, h => by
    obtain ⟨v, r, rfl, _, h2⟩ := reps_cons.mp h
    rw [List.length_cons, List.length_cons, Reps.len h2]
theorem Reps.get : ∀ {ds : List D} {vs : List V} {i : Nat} {d : D}, Reps K F I ds vs → ds[i]? = some d → ∃ v, vs[i]? = some v ∧ Rep K F I d v
  | [], _, _, _, _, e => by simp at e
  | _ :: ds, _, 0, d, h, e => by
    obtain ⟨v, r, rfl, h1, h2⟩ := reps_cons.mp h
    rw [List.getElem?_cons_zero] at e
    cases e
    exact ⟨v, rfl, h1⟩
  | _ :: ds, _, i + 1, d, h, e => by
    obtain ⟨v, r, rfl, h1, h2⟩ := reps_cons.mp h
    have e' : ds[i]? = some d := by simpa using e
    obtain ⟨w, f1, f2⟩ := Reps.get h2 e'
    exact ⟨w, by simpa using f1, f2⟩
theorem Reps.getV {ds : List D} {vs : List V} {i : Nat} {v : V} (h : Reps K F I ds vs) (e : vs[i]? = some v) : ∃ d, ds[i]? = some d ∧ Rep K F I d v := by
  have hi : i < ds.length := by
    rw [← h.len]
    exact (List.getElem?_eq_some_iff.mp e).1
  obtain ⟨w, f1, f2⟩ := h.get (List.getElem?_eq_getElem hi)
  rw [f1] at e
  cases e
  exact ⟨ds[i], List.getElem?_eq_getElem hi, f2⟩
theorem Reps.append : ∀ {ds es : List D} {vs ws : List V}, Reps K F I ds vs → Reps K F I es ws → Reps K F I (ds ++ es) (vs ++ ws)
  | [], _, _, _, h, g => by rw [reps_nil] at h; rw [h]; exact g
  | _ :: ds, _, _, _, h, g => by
    obtain ⟨v, r, rfl, h1, h2⟩ := reps_cons.mp h
    exact reps_cons.mpr ⟨v, r ++ _, rfl, h1, Reps.append h2 g⟩
theorem Reps.one {d : D} {v : V} (h : Rep K F I d v) : Reps K F I [d] [v] := reps_cons.mpr ⟨v, [], rfl, h, reps_nil.mpr rfl⟩
theorem Reps.snoc {ds : List D} {d : D} {vs : List V} {v : V} (h : Reps K F I ds vs) (g : Rep K F I d v) : Reps K F I (ds ++ [d]) (vs ++ [v]) := h.append (.one g)
theorem Reps.take : ∀ {ds : List D} {vs : List V} (n : Nat), Reps K F I ds vs → Reps K F I (ds.take n) (vs.take n)
  | _, _, 0, _ => by rw [List.take_zero, List.take_zero]; exact reps_nil.mpr rfl
  | [], _, n + 1, h => by rw [reps_nil] at h; rw [h]; exact reps_nil.mpr rfl
  | _ :: ds, _, n + 1, h => by
    obtain ⟨v, r, rfl, h1, h2⟩ := reps_cons.mp h
    exact reps_cons.mpr ⟨v, r.take n, rfl, h1, Reps.take n h2⟩
theorem Reps.drop : ∀ {ds : List D} {vs : List V} (n : Nat), Reps K F I ds vs → Reps K F I (ds.drop n) (vs.drop n)
  | _, _, 0, h => h
  | [], _, n + 1, h => by rw [reps_nil] at h; rw [h]; exact reps_nil.mpr rfl
  | _ :: ds, _, n + 1, h => by
    obtain ⟨v, r, rfl, h1, h2⟩ := reps_cons.mp h
    exact Reps.drop n h2
theorem Reps.set : ∀ {ds : List D} {vs : List V} (n : Nat) {d : D} {v : V}, Reps K F I ds vs → Rep K F I d v → Reps K F I (ds.set n d) (vs.set n v)
  | [], _, _, _, _, h, _ => by rw [reps_nil] at h; rw [h]; exact reps_nil.mpr rfl
  | _ :: ds, _, 0, _, _, h, g => by
    obtain ⟨v, r, rfl, h1, h2⟩ := reps_cons.mp h
    exact reps_cons.mpr ⟨_, r, rfl, g, h2⟩
  | _ :: ds, _, n + 1, _, _, h, g => by
    obtain ⟨v, r, rfl, h1, h2⟩ := reps_cons.mp h
    exact reps_cons.mpr ⟨v, r.set n _, rfl, h1, Reps.set n h2 g⟩
theorem Reps.ints : ∀ {ns : List Int} {vs : List V}, Reps K F I (ns.map D.int) vs → vs = ns.map V.int
  | [], _, h => reps_nil.mp h
  | n :: ns, _, h => by
    obtain ⟨v, r, rfl, h1, h2⟩ := reps_cons.mp h
    rw [rep_int.mp h1, Reps.ints h2]
    rfl
theorem reps_ints : ∀ {ns : List Int}, Reps K F I (ns.map D.int) (ns.map V.int)
  | [] => reps_nil.mpr rfl
  | n :: ns => reps_cons.mpr ⟨_, _, rfl, rep_int.mpr rfl, reps_ints⟩

mutual
theorem Rep.monoF (f : ∀ a, F a → F' a) : ∀ {d : D} {v : V}, Rep K F I d v → Rep K F' I d v
  | .non, _, h => rep_non.mpr (rep_non.mp h)
  | .bl _, _, h => rep_bl.mpr (rep_bl.mp h)
  | .int _, _, h => rep_int.mpr (rep_int.mp h)
  | .str _, _, h => rep_str.mpr (rep_str.mp h)
  | .lst _, _, h => by
    obtain ⟨a, vs, e, h1, h2⟩ := rep_lst.mp h
    exact rep_lst.mpr ⟨a, vs, e, h1, Reps.monoF f h2⟩
  | .tup _, _, h => by
    obtain ⟨a, vs, e, h1, h2⟩ := rep_tup.mp h
    exact rep_tup.mpr ⟨a, vs, e, h1, Reps.monoF f h2⟩
  | .scr _, _, h => rep_scr.mpr (rep_scr.mp h)
  | .fl _, _, h => by
    obtain ⟨a, vs, e, h0, h1, h2⟩ := rep_fl.mp h
    exact rep_fl.mpr ⟨a, vs, e, f a h0, h1, Reps.monoF f h2⟩
theorem Reps.monoF (f : ∀ a, F a → F' a) : ∀ {ds : List D} {vs : List V}, Reps K F I ds vs → Reps K F' I ds vs
  | [], _, h => reps_nil.mpr (reps_nil.mp h)
  | _ :: _, _, h => by
    obtain ⟨v, r, e, h1, h2⟩ := reps_cons.mp h
    exact reps_cons.mpr ⟨v, r, e, Rep.monoF f h1, Reps.monoF f h2⟩
end
mutual
/-- nothing in it is said to be new -/
def noF : D → Bool
  | .lst ds => noFs ds | .tup ds => noFs ds | .fl _ => false
  | .non => true | .bl _ => true | .int _ => true | .str _ => true | .scr _ => true
def noFs : List D → Bool
  | [] => true
  | d :: ds => noF d && noFs ds
end
mutual
theorem Rep.noF : ∀ {d : D} {v : V}, noF d = true → Rep K F I d v → Rep K F' I d v
  | .non, _, _, h => rep_non.mpr (rep_non.mp h)
  | .bl _, _, _, h => rep_bl.mpr (rep_bl.mp h)
  | .int _, _, _, h => rep_int.mpr (rep_int.mp h)
  | .str _, _, _, h => rep_str.mpr (rep_str.mp h)
  | .lst _, _, q, h => by
    unfold DL.noF at q
    obtain ⟨a, vs, e, h1, h2⟩ := rep_lst.mp h
    exact rep_lst.mpr ⟨a, vs, e, h1, Reps.noF q h2⟩
  | .tup _, _, q, h => by
    unfold DL.noF at q
    obtain ⟨a, vs, e, h1, h2⟩ := rep_tup.mp h
    exact rep_tup.mpr ⟨a, vs, e, h1, Reps.noF q h2⟩
  | .scr _, _, _, h => rep_scr.mpr (rep_scr.mp h)
  | .fl _, _, q, _ => by unfold DL.noF at q; cases q
theorem Reps.noF : ∀ {ds : List D} {vs : List V}, noFs ds = true → Reps K F I ds vs → Reps K F' I ds vs
  | [], _, _, h => reps_nil.mpr (reps_nil.mp h)
  | _ :: _, _, q, h => by
    unfold DL.noFs at q
    rw [Bool.and_eq_true] at q
    obtain ⟨v, r, e, h1, h2⟩ := reps_cons.mp h
    exact reps_cons.mpr ⟨v, r, e, Rep.noF q.1 h1, Reps.noF q.2 h2⟩
end
theorem noFs_map {α : Type} {en : α → D} (h : ∀ x, noF (en x) = true) : ∀ xs : List α, noFs (xs.map en) = true
  | [] => by simp [DL.noFs]
  | x :: xs => by rw [List.map_cons]; unfold DL.noFs; rw [h x, noFs_map h xs]; rfl

/-- the written part I of the tracked heap H grows, nothing that was tracked changes -/
structure Grow (I H I' H' : Hp) : Prop where
  i : Same I I'
  h : Same H H'
  s : Same I' H'
  n : ∀ a, I a = none → I' a ≠ none → H a = none
theorem Grow.refl (s : Same I H) : Grow I H I H := ⟨.refl _, .refl _, s, fun _ h g => absurd h g⟩
theorem Grow.trans {I2 H2 : Hp} (a : Grow I H I1 H1) (b : Grow I1 H1 I2 H2) : Grow I H I2 H2 :=
  ⟨a.i.trans b.i, a.h.trans b.h, b.s, fun p h g => by
    cases e : I1 p with
    | some o => exact a.n p h (by rw [e]; exact fun z => by cases z)
    | none => exact a.h.free (b.n p e g)⟩
theorem same_new {p : Addr} {o : HO} (h : H p = none) : Same H (upd H p o) := fun b x e => by
  rw [upd_ne (ne_of_none e h)]
  exact e
theorem same_upd2 {p : Addr} {o : HO} (s : Same I H) : Same (upd I p o) (upd H p o) := fun b x e => by
  by_cases hb : b = p
  · subst hb
    rw [upd_same] at e ⊢
    exact e
  · rw [upd_ne hb] at e ⊢
    exact s b x e
theorem same_mut {p : Addr} {o : HO} (s : Same I H) (h : I p = none) : Same I (upd H p o) := fun b x e => by
  rw [upd_ne (ne_of_none e h)]
  exact s b x e
/-- a new object, written for good -/
theorem Grow.new {p : Addr} {o : HO} (s : Same I H) (h : H p = none) : Grow I H (upd I p o) (upd H p o) :=
  ⟨same_new (s.free h), same_new h, same_upd2 s, fun a e g => by
    by_cases ha : a = p
    · rw [ha]; exact h
    · rw [upd_ne ha] at g
      exact absurd e g⟩
/-- a new object that may change -/
theorem Grow.tmp {p : Addr} {o : HO} (s : Same I H) (h : H p = none) : Grow I H I (upd H p o) :=
  ⟨.refl _, same_new h, same_mut s (s.free h), fun _ e g => absurd e g⟩

/-! ### a frame's slots -/
/-- what an owned object holds -/
inductive OD where
  | lst (ds : List D)
def OwnRep (K : PySem.W.Frag) (F : Addr → Prop) (I : Hp) : OD → HO → Prop
  | .lst ds, ho => ∃ vs, ho = .lst vs ∧ Reps K F I ds vs
theorem OwnRep.mono (s : Same I I') : ∀ {o : OD} {ho : HO}, OwnRep K F I o ho → OwnRep K F I' o ho
  | .lst _, _, ⟨vs, e, h⟩ => ⟨vs, e, h.mono s⟩
inductive Slot where
  | un | im (d : D) | ow (o : OD)
abbrev Rho := List Slot
/-- new since the heap was H0 -/
def Fr (H0 : Hp) : Addr → Prop := fun a => H0 a = none
def SlotOk (K : PySem.W.Frag) (H0 I H : Hp) (x : Option (Option V)) : Slot → Prop
  | .un => True
  | .im d => ∃ v, x = some (some v) ∧ Rep K (Fr H0) I d v
  | .ow o => ∃ p ho, x = some (some (.ref p)) ∧ I p = none ∧ H0 p = none ∧ H p = some ho ∧ OwnRep K (Fr H0) I o ho
structure RS (K : PySem.W.Frag) (H0 I H : Hp) (σ : L2.St) (ρ : Rho) : Prop where
  s : Same I H
  h0 : Same H0 H
  len : σ.length = ρ.length
  sl : ∀ (i : Nat) (s : Slot), ρ[i]? = some s → SlotOk K H0 I H σ[i]? s
  di : ∀ (i j : Nat) (p : Addr) (oi oj : OD), ρ[i]? = some (.ow oi) → ρ[j]? = some (.ow oj) → σ[i]? = some (some (.ref p)) → σ[j]? = some (some (.ref p)) → i = j
variable {σ : L2.St} {ρ : Rho}
theorem RS.grow (r : RS K H0 I H σ ρ) (g : Grow I H I' H') : RS K H0 I' H' σ ρ := by
  refine ⟨g.s, r.h0.trans g.h, r.len, fun i s e => ?_, r.di⟩
  have h := r.sl i s e
  cases s with
  | un => trivial
  | im d => obtain ⟨v, e1, h1⟩ := h; exact ⟨v, e1, h1.mono g.i⟩
  | ow o =>
    obtain ⟨p, ho, e1, n1, n0, h1, w⟩ := h
    refine ⟨p, ho, e1, ?_, n0, g.h _ _ h1, w.mono g.i⟩
    cases e2 : I' p with
    | none => rfl
    | some u =>
      have := g.n p n1 (by rw [e2]; exact fun z => by cases z)
      rw [h1] at this
      cases this
theorem RS.im (r : RS K H0 I H σ ρ) {i : Nat} {d : D} (e : ρ[i]? = some (.im d)) : ∃ v, σ[i]? = some (some v) ∧ Rep K (Fr H0) I d v := r.sl i _ e
theorem RS.ow (r : RS K H0 I H σ ρ) {i : Nat} {o : OD} (e : ρ[i]? = some (.ow o)) : ∃ p ho, σ[i]? = some (some (.ref p)) ∧ I p = none ∧ H0 p = none ∧ H p = some ho ∧ OwnRep K (Fr H0) I o ho := r.sl i _ e
/-- a slot is stored: a value -/
theorem RS.set (r : RS K H0 I H σ ρ) {i : Nat} {d : D} {v : V} (h : Rep K (Fr H0) I d v) : RS K H0 I H (σ.set i (some v)) (ρ.set i (.im d)) := by
  refine ⟨r.s, r.h0, by rw [List.length_set, List.length_set]; exact r.len, fun j s e => ?_, fun j k p oj ok e1 e2 e3 e4 => ?_⟩
  · by_cases hj : i = j
    · subst hj
      have hi : i < ρ.length := by
        have := (List.getElem?_eq_some_iff.mp e).1
        rwa [List.length_set] at this
      rw [List.getElem?_set_self hi] at e
      cases e
      exact ⟨v, by rw [List.getElem?_set_self (by rw [r.len]; exact hi)], h⟩
    · rw [List.getElem?_set_ne hj] at e
      rw [List.getElem?_set_ne hj]
      exact r.sl j s e
  · have f : ∀ {j : Nat} {o : OD}, (ρ.set i (.im d))[j]? = some (.ow o) → i ≠ j ∧ ρ[j]? = some (.ow o) := fun {j o} e => by
      by_cases hj : i = j
      · subst hj
        have hi : i < ρ.length := by
          have := (List.getElem?_eq_some_iff.mp e).1
          rwa [List.length_set] at this
        rw [List.getElem?_set_self hi] at e
        cases e
      · rw [List.getElem?_set_ne hj] at e
        exact ⟨hj, e⟩
    obtain ⟨n1, g1⟩ := f e1
    obtain ⟨n2, g2⟩ := f e2
    rw [List.getElem?_set_ne n1] at e3
    rw [List.getElem?_set_ne n2] at e4
    exact r.di j k p oj ok g1 g2 e3 e4
/-- forgetting what a slot holds -/
theorem RS.forget (r : RS K H0 I H σ ρ) {i : Nat} {x : Option V} : RS K H0 I H (σ.set i x) (ρ.set i .un) := by
  refine ⟨r.s, r.h0, by rw [List.length_set, List.length_set]; exact r.len, fun j s e => ?_, fun j k p oj ok e1 e2 e3 e4 => ?_⟩
  · by_cases hj : i = j
    · subst hj
      have hi : i < ρ.length := by
        have := (List.getElem?_eq_some_iff.mp e).1
        rwa [List.length_set] at this
      rw [List.getElem?_set_self hi] at e
      cases e
      trivial
    · rw [List.getElem?_set_ne hj] at e
      rw [List.getElem?_set_ne hj]
      exact r.sl j s e
  · have f : ∀ {j : Nat} {o : OD}, (ρ.set i .un)[j]? = some (.ow o) → i ≠ j ∧ ρ[j]? = some (.ow o) := fun {j o} e => by
      by_cases hj : i = j
      · subst hj
        have hi : i < ρ.length := by
          have := (List.getElem?_eq_some_iff.mp e).1
          rwa [List.length_set] at this
        rw [List.getElem?_set_self hi] at e
        cases e
      · rw [List.getElem?_set_ne hj] at e
        exact ⟨hj, e⟩
    obtain ⟨n1, g1⟩ := f e1
    obtain ⟨n2, g2⟩ := f e2
    rw [List.getElem?_set_ne n1] at e3
    rw [List.getElem?_set_ne n2] at e4
    exact r.di j k p oj ok g1 g2 e3 e4
/-- weaker knowledge of the slots -/
def Weak : Rho → Rho → Prop := fun ρ ρ' => ρ'.length = ρ.length ∧ ∀ (i : Nat) (s : Slot), ρ'[i]? = some s → s = .un ∨ ρ[i]? = some s
theorem RS.weak {ρ' : Rho} (r : RS K H0 I H σ ρ) (w : Weak ρ ρ') : RS K H0 I H σ ρ' := by
  refine ⟨r.s, r.h0, by rw [w.1]; exact r.len, fun i s e => ?_, fun i j p oi oj e1 e2 => ?_⟩
  · rcases w.2 i s e with rfl | h
    · trivial
    · exact r.sl i s h
  · rcases w.2 _ _ e1 with z | f1
    · cases z
    · rcases w.2 _ _ e2 with z | f2
      · cases z
      · exact r.di i j p oi oj f1 f2
theorem Weak.refl (ρ : Rho) : Weak ρ ρ := ⟨rfl, fun _ _ h => .inr h⟩
/-- a new owned object at slot i -/
theorem RS.setOw (r : RS K H0 I H σ ρ) {i : Nat} {o : OD} {p : Addr} {ho : HO} (hI : I p = none) (h0 : H0 p = none) (hp : H p = some ho) (w : OwnRep K (Fr H0) I o ho)
    (hn : ∀ j o', i ≠ j → ρ[j]? = some (.ow o') → σ[j]? ≠ some (some (.ref p))) : RS K H0 I H (σ.set i (some (.ref p))) (ρ.set i (.ow o)) := by
  refine ⟨r.s, r.h0, by rw [List.length_set, List.length_set]; exact r.len, fun j s e => ?_, fun j k q oj ok e1 e2 e3 e4 => ?_⟩
  · by_cases hj : i = j
    · subst hj
      have hi : i < ρ.length := by
        have := (List.getElem?_eq_some_iff.mp e).1
        rwa [List.length_set] at this
      rw [List.getElem?_set_self hi] at e
      cases e
      exact ⟨p, ho, by rw [List.getElem?_set_self (by rw [r.len]; exact hi)], hI, h0, hp, w⟩
    · rw [List.getElem?_set_ne hj] at e
      rw [List.getElem?_set_ne hj]
      exact r.sl j s e
  · by_cases hj : i = j
    · by_cases hk : i = k
      · omega
      · subst hj
        rw [List.getElem?_set_ne hk] at e2 e4
        have hi : i < σ.length := by
          have := (List.getElem?_eq_some_iff.mp e3).1
          rwa [List.length_set] at this
        rw [List.getElem?_set_self hi] at e3
        cases e3
        exact absurd e4 (hn k ok hk e2)
    · rw [List.getElem?_set_ne hj] at e1 e3
      by_cases hk : i = k
      · subst hk
        have hi : i < σ.length := by
          have := (List.getElem?_eq_some_iff.mp e4).1
          rwa [List.length_set] at this
        rw [List.getElem?_set_self hi] at e4
        cases e4
        exact absurd e3 (hn j oj hj e1)
      · rw [List.getElem?_set_ne hk] at e2 e4
        exact r.di j k q oj ok e1 e2 e3 e4
/-- the owned object at slot i is written -/
theorem RS.write (r : RS K H0 I H σ ρ) {i : Nat} {o o' : OD} {p : Addr} {ho : HO} (e : ρ[i]? = some (.ow o)) (ep : σ[i]? = some (some (.ref p))) (w : OwnRep K (Fr H0) I o' ho) :
    RS K H0 I (upd H p ho) σ (ρ.set i (.ow o')) := by
  obtain ⟨p', _, e1, hI, h0, hp, _⟩ := r.ow e
  rw [ep] at e1
  cases e1
  have hi : i < ρ.length := (List.getElem?_eq_some_iff.mp e).1
  refine ⟨same_mut r.s hI, same_mut r.h0 h0, by rw [List.length_set]; exact r.len, fun j s es => ?_, fun j k q oj ok e1 e2 e3 e4 => ?_⟩
  · by_cases hj : i = j
    · subst hj
      rw [List.getElem?_set_self hi] at es
      cases es
      exact ⟨p, ho, ep, hI, h0, upd_same, w⟩
    · rw [List.getElem?_set_ne hj] at es
      have h := r.sl j s es
      cases s with
      | un => trivial
      | im d => exact h
      | ow u =>
        obtain ⟨q, hq, f1, f2, f3, f4, f5⟩ := h
        refine ⟨q, hq, f1, f2, f3, ?_, f5⟩
        rw [upd_ne]
        · exact f4
        · intro z
          subst z
          exact hj (r.di i j q o u e es ep f1)
  · have f : ∀ {j : Nat} {u : OD}, (ρ.set i (.ow o'))[j]? = some (.ow u) → ∃ u', ρ[j]? = some (.ow u') := fun {j u} e3 => by
      by_cases hj : i = j
      · subst hj; exact ⟨o, e⟩
      · rw [List.getElem?_set_ne hj] at e3; exact ⟨u, e3⟩
    obtain ⟨_, g1⟩ := f e1
    obtain ⟨_, g2⟩ := f e2
    exact r.di j k q _ _ g1 g2 e3 e4
/-- the owned list at slot i is written for good -/
theorem RS.freeze (r : RS K H0 I H σ ρ) {i : Nat} {ds : List D} (e : ρ[i]? = some (.ow (.lst ds))) :
    ∃ I', Same I I' ∧ (∀ a, I a = none → I' a ≠ none → H0 a = none) ∧ RS K H0 I' H σ (ρ.set i (.im (.lst ds))) := by
  obtain ⟨p, ho, e1, hI, h0, hp, vs, rfl, w⟩ := r.ow e
  have hi : i < ρ.length := (List.getElem?_eq_some_iff.mp e).1
  have sI : Same I (upd I p (.lst vs)) := same_new hI
  refine ⟨upd I p (.lst vs), sI, fun a ea g => ?_, ?_, r.h0, by rw [List.length_set]; exact r.len, fun j s es => ?_, fun j k q oj ok e1' e2 e3 e4 => ?_⟩
  · by_cases ha : a = p
    · rw [ha]; exact h0
    · rw [upd_ne ha] at g; exact absurd ea g
  · intro b x eb
    by_cases hb : b = p
    · subst hb; rw [upd_same] at eb; cases eb; exact hp
    · rw [upd_ne hb] at eb; exact r.s b x eb
  · by_cases hj : i = j
    · subst hj
      rw [List.getElem?_set_self hi] at es
      cases es
      exact ⟨.ref p, e1, rep_lst.mpr ⟨p, vs, rfl, upd_same, w.mono sI⟩⟩
    · rw [List.getElem?_set_ne hj] at es
      have h := r.sl j s es
      cases s with
      | un => trivial
      | im d => obtain ⟨v, f1, f2⟩ := h; exact ⟨v, f1, f2.mono sI⟩
      | ow u =>
        obtain ⟨q, hq, f1, f2, f3, f4, f5⟩ := h
        refine ⟨q, hq, f1, ?_, f3, f4, f5.mono sI⟩
        rw [upd_ne]
        · exact f2
        · intro z
          subst z
          exact hj (r.di i j q _ u e es e1 f1)
  · have f : ∀ {j : Nat} {u : OD}, (ρ.set i (.im (.lst ds)))[j]? = some (.ow u) → ρ[j]? = some (.ow u) := fun {j u} e3 => by
      by_cases hj : i = j
      · subst hj; rw [List.getElem?_set_self hi] at e3; cases e3
      · rw [List.getElem?_set_ne hj] at e3; exact e3
    exact r.di j k q _ _ (f e1') (f e2) e3 e4
end
end DL
namespace DL
open PySem PySem.Spec PyProof.Rows L2

/-! ### judgements -/
def tE (K : PySem.W.Frag) (ρ : Rho) (d : D) : TE := fun σ H Q => ∃ H0 I, RS K H0 I H σ ρ ∧ ∀ v I' H', Grow I H I' H' → Rep K (Fr H0) I' d v → Q v H'
def tB1 (K : PySem.W.Frag) (ρ : Rho) (b : Bool) : TT := fun σ H Q => ∃ H0 I, RS K H0 I H σ ρ ∧ ∀ I' H', Grow I H I' H' → Q b H'
def tA1 (K : PySem.W.Frag) (ρ : Rho) (ds : List D) : TA := fun σ H Q => ∃ H0 I, RS K H0 I H σ ρ ∧ ∀ vs I' H', Grow I H I' H' → Reps K (Fr H0) I' ds vs → Q vs H'
/-- a list to be read, of one's own or written for good -/
def tV1 (K : PySem.W.Frag) (ρ : Rho) (ds : List D) : TE := fun σ H Q => ∃ H0 I, RS K H0 I H σ ρ ∧ ∀ a vs I' H', Grow I H I' H' → SqL K H' a vs → Reps K (Fr H0) I' ds vs → Q (.ref a) H'
/-- .. no locked one -/
def tVs (K : PySem.W.Frag) (ρ : Rho) (ds : List D) : TE := fun σ H Q => ∃ H0 I, RS K H0 I H σ ρ ∧ ∀ a vs I' H', Grow I H I' H' → H' a = some (.lst vs) → Reps K (Fr H0) I' ds vs → Q (.ref a) H'
/-- e evaluates to d -/
structure DE (X : Cx) (e : Expr) (ρ : Rho) (d : D) : Prop where
  pe : PE X e (tE X.K ρ d)
structure DB (X : Cx) (e : Expr) (ρ : Rho) (b : Bool) : Prop where
  pt : PT X e (tB1 X.K ρ b)
structure DA (X : Cx) (es : List Expr) (ρ : Rho) (ds : List D) : Prop where
  pa : PA X es (tA1 X.K ρ ds)
structure DV (X : Cx) (e : Expr) (ρ : Rho) (ds : List D) : Prop where
  pe : PE X e (tV1 X.K ρ ds)
structure DVs (X : Cx) (e : Expr) (ρ : Rho) (ds : List D) : Prop where
  pe : PE X e (tVs X.K ρ ds)
section
variable {X : Cx} {a b e : Expr} {ρ : Rho} {x y z d : D}
theorem peSub {t t' : TE} (h : PE X e t) (w : ∀ σ H Q, t' σ H Q → t σ H Q) : PE X e t' := ⟨fun pins s σ H Q I q => h.run pins s σ H Q I (w _ _ _ q)⟩
theorem ptSub {t t' : TT} (h : PT X e t) (w : ∀ σ H Q, t' σ H Q → t σ H Q) : PT X e t' := ⟨fun pins s σ H Q I q => h.run pins s σ H Q I (w _ _ _ q)⟩
theorem paSub {es : List Expr} {t t' : TA} (h : PA X es t) (w : ∀ σ H Q, t' σ H Q → t σ H Q) : PA X es t' := ⟨fun pos pins s σ H Q I q => h.run pos pins s σ H Q I (w _ _ _ q)⟩
theorem psSub {st : Stmt} {t t' : TS} (h : PS X st t) (w : ∀ D σ H, t' D σ H → t D σ H) : PS X st t' := ⟨fun pins s σ H D I q => h.run pins s σ H D I (w _ _ _ q)⟩
theorem pssSub {st : List Stmt} {t t' : TS} (h : PSs X st t) (w : ∀ D σ H, t' D σ H → t D σ H) : PSs X st t' := ⟨fun pins s σ H D I q => h.run pins s σ H D I (w _ _ _ q)⟩
theorem DE.to {d' : D} (h : DE X e ρ d) (q : d = d') : DE X e ρ d' := q ▸ h
theorem DB.to {b b' : Bool} (h : DB X e ρ b) (q : b = b') : DB X e ρ b' := q ▸ h

/-! ### names, constants -/
theorem de_var {i : Nat} (h : PE X e (tVar i)) (hr : ρ[i]? = some (.im d)) : DE X e ρ d := ⟨peSub h fun σ H Q ⟨H0, I, r, k⟩ => by
  obtain ⟨v, e1, h1⟩ := r.im hr
  exact ⟨v, e1, k v I H (.refl r.s) h1⟩⟩
theorem de_c {v : V} (h : PE X e (tC v)) (hr : ∀ K F I, Rep K F I d v) : DE X e ρ d := ⟨peSub h fun σ H Q ⟨H0, I, r, k⟩ => k v I H (.refl r.s) (hr _ _ _)⟩
theorem de_int {i j pos} : DE X (.Constant (.int i) j pos) ρ (.int i) := de_c pe_int fun _ _ _ => rep_int.mpr rfl
theorem de_bl {i j pos} : DE X (.Constant (.bool i) j pos) ρ (.bl i) := de_c pe_bl fun _ _ _ => rep_bl.mpr rfl
theorem de_non {j pos} : DE X (.Constant .none j pos) ρ .non := de_c pe_non fun _ _ _ => rep_non.mpr rfl
theorem de_str {i j pos} : DE X (.Constant (.str i) j pos) ρ (.str i) := de_c pe_str fun _ _ _ => rep_str.mpr rfl

/-! ### operators by values -/
def RD (K : PySem.W.Frag) (r : R2) (x y z : D) : Prop := ∀ F I H v u Q, Same I H → Rep K F I x v → Rep K F I y u → (∀ w I' H', Grow I H I' H' → Rep K F I' z w → Q w H') → r v u H Q
theorem de_op {op : Operator} {pos : Pos} {r : R2} (ho : OpR X (binaryOp op) r) (ha : DE X a ρ x) (hb : DE X b ρ y) (hr : RD X.K r x y z) : DE X (.BinOp a op b pos) ρ z :=
  ⟨peSub (pe_op ho ha.pe hb.pe) fun σ H Q ⟨H0, I, r1, k⟩ => ⟨H0, I, r1, fun v I1 H1 g1 h1 => ⟨H0, I1, r1.grow g1, fun u I2 H2 g2 h2 =>
    hr _ I2 H2 v u Q g2.s (h1.mono g2.i) h2 fun w I3 H3 g3 h3 => k w I3 H3 ((g1.trans g2).trans g3) h3⟩⟩⟩
theorem de_cmp {op : CmpOp} {pos : Pos} {r : R2} (ho : OpR X (compareOp op) r) (ha : DE X a ρ x) (hb : DE X b ρ y) (hr : RD X.K r x y z) (hm : behindInMarks op b = false) : DE X (.Compare a [op] [b] pos) ρ z :=
  ⟨peSub (pe_cmpR ho ha.pe hb.pe hm) fun σ H Q ⟨H0, I, r1, k⟩ => ⟨H0, I, r1, fun v I1 H1 g1 h1 => ⟨H0, I1, r1.grow g1, fun u I2 H2 g2 h2 =>
    hr _ I2 H2 v u Q g2.s (h1.mono g2.i) h2 fun w I3 H3 g3 h3 => k w I3 H3 ((g1.trans g2).trans g3) h3⟩⟩⟩
theorem rd_val {r : R2} {K : PySem.W.Frag} {z : D} {w : V} (hz : ∀ F I, Rep K F I z w) (h : ∀ F I H v u Q, Same I H → Rep K F I x v → Rep K F I y u → Q w H → r v u H Q) : RD K r x y z :=
  fun F I H v u Q s h1 h2 k => h F I H v u Q s h1 h2 (k w I H (.refl s) (hz F I))
theorem rd_I0 {K : PySem.W.Frag} {g : Int → Int → V} {i j : Int} {z : D} (hz : ∀ F I, Rep K F I z (g i j)) : RD K (rI0 g) (.int i) (.int j) z :=
  rd_val hz fun F I H v u Q s h1 h2 q => ⟨i, j, rep_int.mp h1, rep_int.mp h2, q⟩
theorem rd_I {K : PySem.W.Frag} {C : Int → Int → Prop} {g : Int → Int → V} {i j : Int} {z : D} (hz : ∀ F I, Rep K F I z (g i j)) (hc : C i j) : RD K (rI C g) (.int i) (.int j) z :=
  rd_val hz fun F I H v u Q s h1 h2 q => ⟨i, j, rep_int.mp h1, rep_int.mp h2, hc, q⟩
section
variable {i j : Int} {pos : Pos} (ha : DE X a ρ (.int i)) (hb : DE X b ρ (.int j))
include ha hb
theorem de_add : DE X (.BinOp a .Add b pos) ρ (.int (i + j)) := de_op op_add ha hb (rd_I0 fun _ _ => rep_int.mpr rfl)
theorem de_sub : DE X (.BinOp a .Sub b pos) ρ (.int (i - j)) := de_op op_sub ha hb (rd_I0 fun _ _ => rep_int.mpr rfl)
theorem de_mul (h : CMul i j) : DE X (.BinOp a .Mult b pos) ρ (.int (i * j)) := de_op op_mul ha hb (rd_I (fun _ _ => rep_int.mpr rfl) h)
theorem de_mod (h : 0 < j) : DE X (.BinOp a .Mod b pos) ρ (.int (i % j)) := de_op op_mod ha hb (rd_I (fun _ _ => rep_int.mpr rfl) h)
theorem de_div (h : CDiv i j) : DE X (.BinOp a .FloorDiv b pos) ρ (.int (i / j)) := de_op op_fdiv ha hb (rd_I (fun _ _ => rep_int.mpr rfl) h)
theorem de_pow (h : CPow i j) : DE X (.BinOp a .Pow b pos) ρ (.int (i ^ j.toNat)) := de_op op_pow ha hb (rd_I (fun _ _ => rep_int.mpr rfl) h)
theorem de_shl (h : CPow i j) : DE X (.BinOp a .LShift b pos) ρ (.int (i * 2 ^ j.toNat)) := de_op op_shl ha hb (rd_I (fun _ _ => rep_int.mpr rfl) h)
theorem de_shr (h : 0 ≤ j) : DE X (.BinOp a .RShift b pos) ρ (.int (i / 2 ^ j.toNat)) := de_op op_shr ha hb (rd_I (fun _ _ => rep_int.mpr rfl) h)
theorem de_and : DE X (.BinOp a .BitAnd b pos) ρ (.int (Builtin.bitAnd i j)) := de_op op_and ha hb (rd_I0 fun _ _ => rep_int.mpr rfl)
theorem de_lt : DE X (.Compare a [.Lt] [b] pos) ρ (.bl (decide (i < j))) := de_cmp op_lt ha hb (rd_I0 fun _ _ => rep_bl.mpr rfl) (nomark _)
theorem de_le : DE X (.Compare a [.LtE] [b] pos) ρ (.bl (decide (i ≤ j))) := de_cmp op_le ha hb (rd_I0 fun _ _ => rep_bl.mpr rfl) (nomark _)
theorem de_gt : DE X (.Compare a [.Gt] [b] pos) ρ (.bl (decide (j < i))) := de_cmp op_gt ha hb (rd_I0 fun _ _ => rep_bl.mpr rfl) (nomark _)
theorem de_ge : DE X (.Compare a [.GtE] [b] pos) ρ (.bl (decide (j ≤ i))) := de_cmp op_ge ha hb (rd_I0 fun _ _ => rep_bl.mpr rfl) (nomark _)
theorem de_eqI : DE X (.Compare a [.Eq] [b] pos) ρ (.bl (decide (i = j))) := de_cmp op_eq ha hb (rd_val (w := .bl (decide (i = j))) (fun _ _ => rep_bl.mpr rfl) fun F I H v u Q s h1 h2 q => by
  rw [rep_int.mp h1, rep_int.mp h2]
  refine ⟨rfl, ?_⟩
  rw [dec_int, Bool.beq_eq_decide_eq]
  exact q) (nomark _)
theorem de_neI : DE X (.Compare a [.NotEq] [b] pos) ρ (.bl (!decide (i = j))) := de_cmp op_ne ha hb (rd_val (w := .bl (!decide (i = j))) (fun _ _ => rep_bl.mpr rfl) fun F I H v u Q s h1 h2 q => by
  rw [rep_int.mp h1, rep_int.mp h2]
  refine ⟨rfl, ?_⟩
  rw [dec_int, Bool.beq_eq_decide_eq]
  exact q) (nomark _)
end
theorem de_neg {i : Int} {pos : Pos} (ha : DE X a ρ (.int i)) : DE X (.UnaryOp .USub a pos) ρ (.int (-i)) :=
  ⟨peSub (pe_un un_neg ha.pe) fun σ H Q ⟨H0, I, r1, k⟩ => ⟨H0, I, r1, fun v I1 H1 g1 h1 => ⟨i, rep_int.mp h1, k _ I1 H1 g1 (rep_int.mpr rfl)⟩⟩⟩
/-- is None -/
def isNon : D → Bool
  | .non => true
  | _ => false
theorem isNon_v {K : PySem.W.Frag} {F : Addr → Prop} {I : Hp} {v : V} : ∀ {d : D}, Rep K F I d v → decide (v = .non) = isNon d
  | .non, h => by rw [rep_non.mp h]; rfl
  | .bl _, h => by rw [rep_bl.mp h]; rfl
  | .int _, h => by rw [rep_int.mp h]; rfl
  | .str _, h => by rw [rep_str.mp h]; rfl
  | .lst _, h => by obtain ⟨a, vs, rfl, _⟩ := rep_lst.mp h; rfl
  | .tup _, h => by obtain ⟨a, vs, rfl, _⟩ := rep_tup.mp h; rfl
  | .scr _, h => by obtain ⟨a, rfl, _⟩ := rep_scr.mp h; rfl
  | .fl _, h => by obtain ⟨a, vs, rfl, _⟩ := rep_fl.mp h; rfl
theorem de_isN {pos p j} (ha : DE X a ρ x) : DE X (.Compare a [.Is] [.Constant .none j p] pos) ρ (.bl (isNon x)) :=
  ⟨peSub (pe_cmp (pc_isN ha.pe) rfl) fun σ H Q ⟨H0, I, r1, k⟩ => ⟨H0, I, r1, fun v I1 H1 g1 h1 => by
    show Q (.bl (decide (v = .non))) H1
    rw [isNon_v h1]
    exact k _ I1 H1 g1 (rep_bl.mpr rfl)⟩⟩
theorem de_notN {pos p j} (ha : DE X a ρ x) : DE X (.Compare a [.IsNot] [.Constant .none j p] pos) ρ (.bl (!isNon x)) :=
  ⟨peSub (pe_cmp (pc_notN ha.pe) rfl) fun σ H Q ⟨H0, I, r1, k⟩ => ⟨H0, I, r1, fun v I1 H1 g1 h1 => by
    show Q (.bl (!decide (v = .non))) H1
    rw [isNon_v h1]
    exact k _ I1 H1 g1 (rep_bl.mpr rfl)⟩⟩

/-! ### tests -/
theorem db_val {c : Bool} (h : DE X e ρ (.bl c)) (he : ∀ whole, isTrue e X.env whole = (do let v ← whole; standAt e.pos; holding [v] (truthy v)) := by intro _; rfl) : DB X e ρ c :=
  ⟨ptSub (pt_val h.pe he) fun σ H Q ⟨H0, I, r1, k⟩ => ⟨H0, I, r1, fun v I1 H1 g1 h1 => ⟨c, rep_bl.mp h1, k I1 H1 g1⟩⟩⟩
theorem PTsub1 {op : CmpOp} {r : R2} {pos : Pos} {c : Bool} (ho : OpR X (compareOp op) r) (ha : DE X a ρ x) (hb : DE X b ρ y) (hr : RD X.K r x y (.bl c)) (hm : behindInMarks op b = false) : DB X (.Compare a [op] [b] pos) ρ c :=
  ⟨ptSub (pt_cmpR ho ha.pe hb.pe hm) fun σ H Q ⟨H0, I, r1, k⟩ => ⟨H0, I, r1, fun v I1 H1 g1 h1 => ⟨H0, I1, r1.grow g1, fun u I2 H2 g2 h2 =>
    hr _ I2 H2 v u _ g2.s (h1.mono g2.i) h2 fun w I3 H3 g3 h3 => ⟨c, rep_bl.mp h3, k I3 H3 ((g1.trans g2).trans g3)⟩⟩⟩⟩
section
variable {i j : Int} {pos : Pos} (ha : DE X a ρ (.int i)) (hb : DE X b ρ (.int j))
include ha hb
theorem db_lt : DB X (.Compare a [.Lt] [b] pos) ρ (decide (i < j)) := PTsub1 op_lt ha hb (rd_I0 fun _ _ => rep_bl.mpr rfl) (nomark _)
theorem db_le : DB X (.Compare a [.LtE] [b] pos) ρ (decide (i ≤ j)) := PTsub1 op_le ha hb (rd_I0 fun _ _ => rep_bl.mpr rfl) (nomark _)
theorem db_gt : DB X (.Compare a [.Gt] [b] pos) ρ (decide (j < i)) := PTsub1 op_gt ha hb (rd_I0 fun _ _ => rep_bl.mpr rfl) (nomark _)
theorem db_ge : DB X (.Compare a [.GtE] [b] pos) ρ (decide (j ≤ i)) := PTsub1 op_ge ha hb (rd_I0 fun _ _ => rep_bl.mpr rfl) (nomark _)
theorem db_eqI : DB X (.Compare a [.Eq] [b] pos) ρ (decide (i = j)) := PTsub1 op_eq ha hb (rd_val (w := .bl (decide (i = j))) (fun _ _ => rep_bl.mpr rfl) fun F I H v u Q s h1 h2 q => by
  rw [rep_int.mp h1, rep_int.mp h2]
  refine ⟨rfl, ?_⟩
  rw [dec_int, Bool.beq_eq_decide_eq]
  exact q) (nomark _)
theorem db_neI : DB X (.Compare a [.NotEq] [b] pos) ρ (!decide (i = j)) := PTsub1 op_ne ha hb (rd_val (w := .bl (!decide (i = j))) (fun _ _ => rep_bl.mpr rfl) fun F I H v u Q s h1 h2 q => by
  rw [rep_int.mp h1, rep_int.mp h2]
  refine ⟨rfl, ?_⟩
  rw [dec_int, Bool.beq_eq_decide_eq]
  exact q) (nomark _)
end
theorem db_isN {pos p j} (ha : DE X a ρ x) : DB X (.Compare a [.Is] [.Constant .none j p] pos) ρ (isNon x) :=
  ⟨ptSub (pt_cmp (pc_isN ha.pe) rfl) fun σ H Q ⟨H0, I, r1, k⟩ => ⟨H0, I, r1, fun v I1 H1 g1 h1 => ⟨isNon x, by rw [isNon_v h1], k I1 H1 g1⟩⟩⟩
theorem db_notN {pos p j} (ha : DE X a ρ x) : DB X (.Compare a [.IsNot] [.Constant .none j p] pos) ρ (!isNon x) :=
  ⟨ptSub (pt_cmp (pc_notN ha.pe) rfl) fun σ H Q ⟨H0, I, r1, k⟩ => ⟨H0, I, r1, fun v I1 H1 g1 h1 => ⟨!isNon x, by rw [isNon_v h1], k I1 H1 g1⟩⟩⟩
theorem db_not {c : Bool} {pos : Pos} (ha : DB X a ρ c) : DB X (.UnaryOp .Not a pos) ρ (!c) :=
  ⟨ptSub (pt_not ha.pt) fun σ H Q ⟨H0, I, r1, k⟩ => ⟨H0, I, r1, fun I1 H1 g1 => k I1 H1 g1⟩⟩
/-- .. within and, or -/
structure DW (X : Cx) (e : Expr) (ρ : Rho) (b : Bool) : Prop where
  pw : PW X e (tB1 X.K ρ b)
theorem pwSub {t t' : TT} (h : PW X e t) (w : ∀ σ H Q, t' σ H Q → t σ H Q) : PW X e t' := ⟨fun wh pins s σ H Q I q => h.run wh pins s σ H Q I (w _ _ _ q)⟩
theorem dw_and1 {c : Bool} {pos : Pos} (h : DB X a ρ c) : DW X (.BoolOp .And [a] pos) ρ c := ⟨pw_and1 h.pt⟩
theorem dw_or1 {c : Bool} {pos : Pos} (h : DB X a ρ c) : DW X (.BoolOp .Or [a] pos) ρ c := ⟨pw_or1 h.pt⟩
theorem dw_and {c c' : Bool} {pos : Pos} {rest : List Expr} (h : DB X a ρ c) (h' : c = true → DW X (.BoolOp .And (b :: rest) pos) ρ c') : DW X (.BoolOp .And (a :: b :: rest) pos) ρ (c && c') := by
  cases c with
  | true =>
    exact ⟨pwSub (pw_and h.pt (h' rfl).pw) fun σ H Q ⟨H0, I, r1, k⟩ => ⟨H0, I, r1, fun I1 H1 g1 => iteT ⟨H0, I1, r1.grow g1, fun I2 H2 g2 => k I2 H2 (g1.trans g2)⟩⟩⟩
  | false =>
    have hn : PW X (.BoolOp .And (b :: rest) pos) (fun _ _ _ => False) := ⟨fun _ _ _ _ _ _ _ z => z.elim⟩
    exact ⟨pwSub (pw_and h.pt hn) fun σ H Q ⟨H0, I, r1, k⟩ => ⟨H0, I, r1, fun I1 H1 g1 => iteF (k I1 H1 g1)⟩⟩
theorem dw_or {c c' : Bool} {pos : Pos} {rest : List Expr} (h : DB X a ρ c) (h' : c = false → DW X (.BoolOp .Or (b :: rest) pos) ρ c') : DW X (.BoolOp .Or (a :: b :: rest) pos) ρ (c || c') := by
  cases c with
  | false =>
    exact ⟨pwSub (pw_or h.pt (h' rfl).pw) fun σ H Q ⟨H0, I, r1, k⟩ => ⟨H0, I, r1, fun I1 H1 g1 => iteF ⟨H0, I1, r1.grow g1, fun I2 H2 g2 => k I2 H2 (g1.trans g2)⟩⟩⟩
  | true =>
    have hn : PW X (.BoolOp .Or (b :: rest) pos) (fun _ _ _ => False) := ⟨fun _ _ _ _ _ _ _ z => z.elim⟩
    exact ⟨pwSub (pw_or h.pt hn) fun σ H Q ⟨H0, I, r1, k⟩ => ⟨H0, I, r1, fun I1 H1 g1 => iteT (k I1 H1 g1)⟩⟩
theorem DW.db {c : Bool} (h : DW X e ρ c) : DB X e ρ c := ⟨h.pw.pt⟩
/-- .. as values -/
theorem de_one {op} {pos : Pos} (h : DE X a ρ x) : DE X (.BoolOp op [a] pos) ρ x := ⟨pe_one h.pe⟩
theorem de_andV {c : Bool} {d : D} {pos : Pos} {rest : List Expr} (h : DE X a ρ (.bl c)) (h' : c = true → DE X (.BoolOp .And (b :: rest) pos) ρ d) (hd : c = false → d = .bl false) : DE X (.BoolOp .And (a :: b :: rest) pos) ρ d := by
  cases c with
  | true =>
    exact ⟨peSub (pe_and h.pe (h' rfl).pe) fun σ H Q ⟨H0, I, r1, k⟩ => ⟨H0, I, r1, fun v I1 H1 g1 h1 => ⟨true, rep_bl.mp h1, iteT ⟨H0, I1, r1.grow g1, fun w I2 H2 g2 h2 => k w I2 H2 (g1.trans g2) h2⟩⟩⟩⟩
  | false =>
    have hn : PE X (.BoolOp .And (b :: rest) pos) (fun _ _ _ => False) := ⟨fun _ _ _ _ _ _ z => z.elim⟩
    refine ⟨peSub (pe_and h.pe hn) fun σ H Q ⟨H0, I, r1, k⟩ => ⟨H0, I, r1, fun v I1 H1 g1 h1 => ⟨false, rep_bl.mp h1, iteF (k _ I1 H1 g1 ?_)⟩⟩⟩
    rw [hd rfl]
    exact rep_bl.mpr rfl
theorem de_orV {c : Bool} {d : D} {pos : Pos} {rest : List Expr} (h : DE X a ρ (.bl c)) (h' : c = false → DE X (.BoolOp .Or (b :: rest) pos) ρ d) (hd : c = true → d = .bl true) : DE X (.BoolOp .Or (a :: b :: rest) pos) ρ d := by
  cases c with
  | false =>
    exact ⟨peSub (pe_or h.pe (h' rfl).pe) fun σ H Q ⟨H0, I, r1, k⟩ => ⟨H0, I, r1, fun v I1 H1 g1 h1 => ⟨false, rep_bl.mp h1, iteF ⟨H0, I1, r1.grow g1, fun w I2 H2 g2 h2 => k w I2 H2 (g1.trans g2) h2⟩⟩⟩⟩
  | true =>
    have hn : PE X (.BoolOp .Or (b :: rest) pos) (fun _ _ _ => False) := ⟨fun _ _ _ _ _ _ z => z.elim⟩
    refine ⟨peSub (pe_or h.pe hn) fun σ H Q ⟨H0, I, r1, k⟩ => ⟨H0, I, r1, fun v I1 H1 g1 h1 => ⟨true, rep_bl.mp h1, iteT (k _ I1 H1 g1 ?_)⟩⟩⟩
    rw [hd rfl]
    exact rep_bl.mpr rfl
theorem de_notV {c : Bool} {pos : Pos} (h : DE X a ρ (.bl c)) : DE X (.UnaryOp .Not a pos) ρ (.bl !c) :=
  ⟨peSub (pe_not h.pe) fun σ H Q ⟨H0, I, r1, k⟩ => ⟨H0, I, r1, fun v I1 H1 g1 h1 => ⟨c, rep_bl.mp h1, k _ I1 H1 g1 (rep_bl.mpr rfl)⟩⟩⟩
theorem de_if {c : Expr} {t : Bool} {pos : Pos} (hc : DB X c ρ t) (h1 : t = true → DE X a ρ d) (h2 : t = false → DE X b ρ d) : DE X (.IfExp c a b pos) ρ d := by
  cases t with
  | true =>
    have hn : PE X b (fun _ _ _ => False) := ⟨fun _ _ _ _ _ _ z => z.elim⟩
    exact ⟨peSub (pe_ifExp hc.pt (h1 rfl).pe hn) fun σ H Q ⟨H0, I, r1, k⟩ => ⟨H0, I, r1, fun I1 H1 g1 => iteT ⟨H0, I1, r1.grow g1, fun w I2 H2 g2 h2 => k w I2 H2 (g1.trans g2) h2⟩⟩⟩
  | false =>
    have hn : PE X a (fun _ _ _ => False) := ⟨fun _ _ _ _ _ _ z => z.elim⟩
    exact ⟨peSub (pe_ifExp hc.pt hn (h2 rfl).pe) fun σ H Q ⟨H0, I, r1, k⟩ => ⟨H0, I, r1, fun I1 H1 g1 => iteF ⟨H0, I1, r1.grow g1, fun w I2 H2 g2 h2 => k w I2 H2 (g1.trans g2) h2⟩⟩⟩

/-! ### lists to be read -/
theorem DV.of {ds : List D} (h : DE X e ρ (.lst ds)) : DV X e ρ ds := ⟨peSub h.pe fun σ H Q ⟨H0, I, r1, k⟩ => ⟨H0, I, r1, fun v I1 H1 g1 h1 => by
  obtain ⟨a, vs, rfl, h2, h3⟩ := rep_lst.mp h1
  exact k a vs I1 H1 g1 (.inl (.inl (g1.s _ _ h2))) h3⟩⟩
theorem DVs.of {ds : List D} (h : DE X e ρ (.lst ds)) : DVs X e ρ ds := ⟨peSub h.pe fun σ H Q ⟨H0, I, r1, k⟩ => ⟨H0, I, r1, fun v I1 H1 g1 h1 => by
  obtain ⟨a, vs, rfl, h2, h3⟩ := rep_lst.mp h1
  exact k a vs I1 H1 g1 (g1.s _ _ h2) h3⟩⟩
/-- what is new is a list -/
theorem DE.unF {ds : List D} (h : DE X e ρ (.fl ds)) : DE X e ρ (.lst ds) := ⟨peSub h.pe fun σ H Q ⟨H0, I, r1, k⟩ => ⟨H0, I, r1, fun v I1 H1 g1 h1 => by
  obtain ⟨a, vs, rfl, _, h2, h3⟩ := rep_fl.mp h1
  exact k _ I1 H1 g1 (rep_lst.mpr ⟨a, vs, rfl, h2, h3⟩)⟩⟩
theorem DV.scr {ns : List Int} (h : DE X e ρ (.scr ns)) : DV X e ρ (ns.map .int) := ⟨peSub h.pe fun σ H Q ⟨H0, I, r1, k⟩ => ⟨H0, I, r1, fun v I1 H1 g1 h1 => by
  obtain ⟨a, rfl, h2⟩ := rep_scr.mp h1
  exact k a _ I1 H1 g1 (g1.s.seq h2) reps_ints⟩⟩
theorem DVs.dv {ds : List D} (h : DVs X e ρ ds) : DV X e ρ ds := ⟨peSub h.pe fun σ H Q ⟨H0, I, r1, k⟩ => ⟨H0, I, r1, fun a vs I1 H1 g1 h1 h2 => k a vs I1 H1 g1 (.inl (.inl h1)) h2⟩⟩
/-- one's own list, at slot i -/
theorem dvs_own {i : Nat} {ds : List D} (h : PE X e (tVar i)) (hr : ρ[i]? = some (.ow (.lst ds))) : DVs X e ρ ds := ⟨peSub h fun σ H Q ⟨H0, I, r, k⟩ => by
  obtain ⟨p, ho, e1, h1, h2, h3, vs, rfl, h4⟩ := r.ow hr
  exact ⟨.ref p, e1, k p vs I H (.refl r.s) h3 h4⟩⟩
theorem dv_own {i : Nat} {ds : List D} (h : PE X e (tVar i)) (hr : ρ[i]? = some (.ow (.lst ds))) : DV X e ρ ds := (dvs_own h hr).dv
theorem rd_ixT {K : PySem.W.Frag} {ds : List D} {i : Int} (h : atI ds i = some z) : RD K (rIxT K) (.tup ds) (.int i) z := fun F I H v u Q s h1 h2 k => by
  obtain ⟨a, vs, rfl, f1, f2⟩ := rep_tup.mp h1
  obtain ⟨j, hj, g1, g2, _⟩ : ∃ j, ixN ds.length i = some j ∧ ds[j]? = some z ∧ j < ds.length ∧ True := by
    unfold atI at h
    cases e : ixN ds.length i with
    | none => rw [e] at h; cases h
    | some j => rw [e] at h; exact ⟨j, rfl, h, (ixN_seq e).2.1, trivial⟩
  obtain ⟨w, w1, w2⟩ := f2.get g1
  refine ⟨a, vs, i, w, rfl, rep_int.mp h2, .inl (.inl (s _ _ f1)), ?_, k w I H (.refl s) w2⟩
  unfold atI
  rw [f2.len, hj]
  exact w1
theorem de_ixT {ds : List D} {i : Int} {pos : Pos} (ha : DE X a ρ (.tup ds)) (hb : DE X b ρ (.int i)) (h : atI ds i = some z) (hs : PlainIx b := by exact fun _ _ => rfl) : DE X (.Subscript a b pos) ρ z :=
  ⟨peSub (pe_ix ix_tup ha.pe hb.pe hs) fun σ H Q ⟨H0, I, r1, k⟩ => ⟨H0, I, r1, fun v I1 H1 g1 h1 => ⟨H0, I1, r1.grow g1, fun u I2 H2 g2 h2 =>
    rd_ixT h _ I2 H2 v u Q g2.s (h1.mono g2.i) h2 fun w I3 H3 g3 h3 => k w I3 H3 ((g1.trans g2).trans g3) h3⟩⟩⟩
theorem de_ixL {ds : List D} {i : Int} {pos : Pos} (ha : DV X a ρ ds) (hb : DE X b ρ (.int i)) (h : atI ds i = some z) (hs : PlainIx b := by exact fun _ _ => rfl) : DE X (.Subscript a b pos) ρ z :=
  ⟨peSub (pe_ix ix_list ha.pe hb.pe hs) fun σ H Q ⟨H0, I, r1, k⟩ => ⟨H0, I, r1, fun p vs I1 H1 g1 s1 h1 => ⟨H0, I1, r1.grow g1, fun u I2 H2 g2 h2 => by
    obtain ⟨j, hj, q1, _⟩ : ∃ j, ixN ds.length i = some j ∧ ds[j]? = some z ∧ True := by
      unfold atI at h
      cases e : ixN ds.length i with
      | none => rw [e] at h; cases h
      | some j => rw [e] at h; exact ⟨j, rfl, h, trivial⟩
    obtain ⟨w, w1, w2⟩ := h1.get q1
    refine ⟨p, vs, i, w, rfl, rep_int.mp h2, g2.h.seq s1, ?_, k w I2 H2 (g1.trans g2) (w2.mono g2.i)⟩
    unfold atI
    rw [h1.len, hj]
    exact w1⟩⟩⟩

/-! ### argument lists, displays -/
theorem da_nil : DA X [] ρ [] := ⟨paSub pa_nil fun σ H Q ⟨H0, I, r1, k⟩ => k [] I H (.refl r1.s) (reps_nil.mpr rfl)⟩
theorem da_cons {es : List Expr} {ds : List D} (h : DE X e ρ d) (ht : DA X es ρ ds) (hs : starEach (e :: es) X.env = (false, eval e X.env) :: starEach es X.env := by rfl) : DA X (e :: es) ρ (d :: ds) :=
  ⟨paSub (pa_cons h.pe ht.pa hs) fun σ H Q ⟨H0, I, r1, k⟩ => ⟨H0, I, r1, fun v I1 H1 g1 h1 => ⟨H0, I1, r1.grow g1, fun vs I2 H2 g2 h2 =>
    k (v :: vs) I2 H2 (g1.trans g2) (reps_cons.mpr ⟨v, vs, rfl, h1.mono g2.i, h2⟩)⟩⟩⟩
theorem de_lst {es : List Expr} {ds : List D} {pos : Pos} (h : DA X es ρ ds) (hz : ds.length ≤ sizeLine) : DE X (.List es pos) ρ (.lst ds) :=
  ⟨peSub (pe_lst h.pa) fun σ H Q ⟨H0, I, r1, k⟩ => ⟨H0, I, r1, fun vs I1 H1 g1 h1 => ⟨by rw [h1.len]; exact hz, fun p hp =>
    k (.ref p) (upd I1 p (.lst vs)) _ (g1.trans (.new g1.s hp)) (rep_lst.mpr ⟨p, vs, rfl, upd_same, h1.mono (same_new (g1.s.free hp))⟩)⟩⟩⟩
theorem de_tup {es : List Expr} {ds : List D} {k : Nat} {pos : Pos} (h : DA X es ρ ds) (hz : ds.length ≤ sizeLine) : DE X (.Tuple es k pos) ρ (.tup ds) :=
  ⟨peSub (pe_tup h.pa) fun σ H Q ⟨H0, I, r1, k⟩ => ⟨H0, I, r1, fun vs I1 H1 g1 h1 => ⟨by rw [h1.len]; exact hz, fun p hp =>
    k (.ref p) (upd I1 p (.tup vs)) _ (g1.trans (.new g1.s hp)) (rep_tup.mpr ⟨p, vs, rfl, upd_same, h1.mono (same_new (g1.s.free hp))⟩)⟩⟩⟩

/-! ### calls of the program's own defs -/
/-- the promise: R tells what is given back of what arguments -/
def spD (K : PySem.W.Frag) (R : List D → D → Prop) : Sp := fun vs H Q _ => ∃ I ds r, Same I H ∧ noFs ds = true ∧ Reps K (Fr H) I ds vs ∧ R ds r ∧ ∀ v I' H', Grow I H I' H' → Rep K (Fr H) I' r v → Q v H'
section
variable {es : List Expr} {ds : List D} {k : Nat} {f : Addr} {fd : FuncData} {ps : List Str} {R : List D → D → Prop} {n : Str} {p pos : Pos} {r : D}
theorem de_call (F : FnOk X.prog X.w X.K X.mg X.base CX0 k f fd ps (spD X.K R)) (hr : Room k X.A) (hg : Gl X n) (hm : X.mg n = some (.ref f)) (hk : PySem.W.keepIn X.K (.ref f) = true) (hb : Binds X.K fd ps [])
    (ha : DA X (e :: es) ρ ds) (hR : R ds r) (hF : noFs ds = true) (hdb : (n == ("__debug__" : Str)) = false := by decide) (he : starEach (e :: es) X.env = (false, eval e X.env) :: starEach es X.env := by rfl) (hpl : (backTo pos (starEach es X.env)).any (·.1) = false := by rfl) :
    DE X (.Call (.Name n p) (e :: es) [] pos) ρ r :=
  ⟨peSub (pe_call F hr hg hm hk hb .nil pass0 ha.pa hdb he hpl) fun σ H Q ⟨H0, I, r1, k⟩ => ⟨H0, I, r1, fun vs I1 H1 g1 h1 => by
    show spD X.K R (vs ++ []) H1 Q E0
    rw [List.append_nil]
    exact ⟨I1, ds, r, g1.s, hF, h1.noF hF, hR, fun v I2 H2 g2 h2 => k v I2 H2 (g1.trans g2) (h2.monoF fun a ha => (r1.grow g1).h0.free ha)⟩⟩⟩
end

/-! ### calls of what is built in -/
def CD (K : PySem.W.Frag) (r : List V → Hp → VK → Prop) (ds : List D) (z : D) : Prop := ∀ F I H vs Q, Same I H → Reps K F I ds vs → (∀ w I' H', Grow I H I' H' → Rep K F I' z w → Q w H') → r vs H Q
section
variable {es : List Expr} {ds : List D} {r : List V → Hp → VK → Prop} {x : Str} {id : String} {p pos : Pos}
theorem de_callB (hc : CallR X (.builtin id) r) (hg : Gl X x) (hm : X.mg x = none) (hv : bootBuiltins x = some (.builtin id)) (ha : DA X (e :: es) ρ ds) (hr : CD X.K r ds z) (hn : x ≠ "__name__" := by decide) (hdb : (x == ("__debug__" : Str)) = false := by decide)
    (he : starEach (e :: es) X.env = (false, eval e X.env) :: starEach es X.env := by rfl) (hpl : (backTo pos (starEach es X.env)).any (·.1) = false := by rfl) : DE X (.Call (.Name x p) (e :: es) [] pos) ρ z :=
  ⟨peSub (pe_callB hc hg hm hv ha.pa hn hdb he hpl) fun σ H Q ⟨H0, I, r1, k⟩ => ⟨H0, I, r1, fun vs I1 H1 g1 h1 => hr _ I1 H1 vs Q g1.s h1 fun w I2 H2 g2 h2 => k w I2 H2 (g1.trans g2) h2⟩⟩
theorem de_callTy (hc : CallR X (.type id) r) (hg : Gl X x) (hm : X.mg x = none) (hv : bootBuiltins x = some (.type id)) (ha : DA X (e :: es) ρ ds) (hr : CD X.K r ds z) (hn : x ≠ "__name__" := by decide) (hdb : (x == ("__debug__" : Str)) = false := by decide)
    (he : starEach (e :: es) X.env = (false, eval e X.env) :: starEach es X.env := by rfl) (hpl : (backTo pos (starEach es X.env)).any (·.1) = false := by rfl) : DE X (.Call (.Name x p) (e :: es) [] pos) ρ z :=
  ⟨peSub (pe_callTy hc hg hm hv ha.pa hn hdb he hpl) fun σ H Q ⟨H0, I, r1, k⟩ => ⟨H0, I, r1, fun vs I1 H1 g1 h1 => hr _ I1 H1 vs Q g1.s h1 fun w I2 H2 g2 h2 => k w I2 H2 (g1.trans g2) h2⟩⟩
end
end
end DL
namespace DL
open PySem PySem.Spec PyProof.Rows L2

/-! ### new lists -/
/-- e evaluates to a list of its own, new -/
def tN (K : PySem.W.Frag) (ρ : Rho) (ds : List D) : TE := fun σ H Q => ∃ H0 I, RS K H0 I H σ ρ ∧ ∀ p vs I' H', Grow I H I' H' → I' p = none → H p = none → H' p = some (.lst vs) → Reps K (Fr H0) I' ds vs → Q (.ref p) H'
structure DN (X : Cx) (e : Expr) (ρ : Rho) (ds : List D) : Prop where
  pe : PE X e (tN X.K ρ ds)
theorem Grow.frz {I H I' H' : Hp} {p : Addr} {o : HO} (g : Grow I H I' H') (hI : I' p = none) (hp : H p = none) (h : H' p = some o) : Grow I H (upd I' p o) H' :=
  ⟨g.i.trans (same_new hI), g.h, fun b x e => by
    by_cases hb : b = p
    · subst hb; rw [upd_same] at e; cases e; exact h
    · rw [upd_ne hb] at e; exact g.s b x e, fun a e q => by
    by_cases ha : a = p
    · rw [ha]; exact hp
    · rw [upd_ne ha] at q; exact g.n a e q⟩
section
variable {X : Cx} {a b e : Expr} {ρ : Rho} {x y z d : D} {ds es : List D} {pos : Pos}
theorem DN.de (h : DN X e ρ ds) : DE X e ρ (.lst ds) := ⟨peSub h.pe fun σ H Q ⟨H0, I, r1, k⟩ => ⟨H0, I, r1, fun p vs I1 H1 g1 n1 n2 h1 h2 =>
  k (.ref p) _ _ (g1.frz n1 n2 h1) (rep_lst.mpr ⟨p, vs, rfl, upd_same, h2.mono (same_new n1)⟩)⟩⟩
/-- a new list, said to be new -/
theorem DN.fl (h : DN X e ρ ds) : DE X e ρ (.fl ds) := ⟨peSub h.pe fun σ H Q ⟨H0, I, r1, k⟩ => ⟨H0, I, r1, fun p vs I1 H1 g1 n1 n2 h1 h2 =>
  k (.ref p) _ _ (g1.frz n1 n2 h1) (rep_fl.mpr ⟨p, vs, rfl, r1.h0.free n2, upd_same, h2.mono (same_new n1)⟩)⟩⟩
theorem DN.dvs (h : DN X e ρ ds) : DVs X e ρ ds := .of h.de
theorem DN.dv (h : DN X e ρ ds) : DV X e ρ ds := .of h.de
theorem DN.to (h : DN X e ρ ds) (q : ds = es) : DN X e ρ es := q ▸ h
/-- a reading that lays a new list behind all -/
theorem Grow.lay {I H : Hp} {p : Addr} {o : HO} (s : Same I H) (hp : H p = none) : Grow I H I (upd H p o) ∧ I p = none ∧ (upd H p o) p = some o := ⟨.tmp s hp, s.free hp, upd_same⟩
theorem dn_lst {es : List Expr} (h : DA X es ρ ds) (hz : ds.length ≤ sizeLine) : DN X (.List es pos) ρ ds :=
  ⟨peSub (pe_lst h.pa) fun σ H Q ⟨H0, I, r1, k⟩ => ⟨H0, I, r1, fun vs I1 H1 g1 h1 => ⟨by rw [h1.len]; exact hz, fun p hp =>
    k p vs I1 _ (g1.trans (.tmp g1.s hp)) (g1.s.free hp) (g1.h.free hp) upd_same h1⟩⟩⟩
theorem dn_nil : DN X (.List [] pos) ρ [] := dn_lst da_nil (Nat.zero_le _)
theorem dn_cat (ha : DVs X a ρ ds) (hb : DVs X b ρ es) (hz : ds.length + es.length ≤ sizeLine) : DN X (.BinOp a .Add b pos) ρ (ds ++ es) :=
  ⟨peSub (pe_op op_cat ha.pe hb.pe) fun σ H Q ⟨H0, I, r1, k⟩ => ⟨H0, I, r1, fun p vs I1 H1 g1 h1 r2 => ⟨H0, I1, r1.grow g1, fun q ws I2 H2 g2 h3 r3 =>
    ⟨p, q, vs, ws, rfl, rfl, g2.h _ _ h1, h3, by rw [r2.len, r3.len]; exact hz, fun l hl =>
      k l (vs ++ ws) I2 _ ((g1.trans g2).trans (.tmp g2.s hl)) (g2.s.free hl) ((g1.trans g2).h.free hl) upd_same ((r2.mono g2.i).append r3)⟩⟩⟩⟩
theorem reps_rep {K : PySem.W.Frag} {F : Addr → Prop} {I : Hp} {ds : List D} {vs : List V} (h : Reps K F I ds vs) : ∀ n : Nat, Reps K F I (List.replicate n ds).flatten (List.replicate n vs).flatten
  | 0 => reps_nil.mpr rfl
  | n + 1 => by
    rw [List.replicate_succ, List.replicate_succ, List.flatten_cons, List.flatten_cons]
    exact h.append (reps_rep h n)
theorem dn_rep {i : Int} (ha : DVs X a ρ ds) (hb : DE X b ρ (.int i)) (h1 : -(2 ^ 63) ≤ i) (h2 : i < 2 ^ 63) (hz : ds.length * i.toNat ≤ sizeLine) : DN X (.BinOp a .Mult b pos) ρ (List.replicate i.toNat ds).flatten :=
  ⟨peSub (pe_op op_rep ha.pe hb.pe) fun σ H Q ⟨H0, I, r1, k⟩ => ⟨H0, I, r1, fun p vs I1 H1 g1 h3 r2 => ⟨H0, I1, r1.grow g1, fun v I2 H2 g2 h4 =>
    ⟨p, i, vs, rfl, rep_int.mp h4, g2.h _ _ h3, h1, h2, by rw [r2.len]; exact hz, fun l hl =>
      k l _ I2 _ ((g1.trans g2).trans (.tmp g2.s hl)) (g2.s.free hl) ((g1.trans g2).h.free hl) upd_same (reps_rep (r2.mono g2.i) _)⟩⟩⟩⟩
theorem reps_cut {K : PySem.W.Frag} {F : Addr → Prop} {I : Hp} {ds : List D} {vs : List V} (h : Reps K F I ds vs) (lo hi : Option Int) :
    Reps K F I ((ds.drop (HT.sIx ds.length 0 lo)).take (HT.sIx ds.length ds.length hi - HT.sIx ds.length 0 lo)) (cutV vs lo hi) := by
  unfold cutV
  rw [h.len]
  exact (h.drop _).take _
structure DO (X : Cx) (e : Option Expr) (ρ : Rho) (o : Option Int) : Prop where
  po : PO X e (fun σ H Q => ∃ H0 I, RS X.K H0 I H σ ρ ∧ ∀ I' H', Grow I H I' H' → Q o H')
theorem poSub {e : Option Expr} {t t' : TO} (h : PO X e t) (w : ∀ σ H Q, t' σ H Q → t σ H Q) : PO X e t' := ⟨fun pins s σ H Q I q => h.run pins s σ H Q I (w _ _ _ q)⟩
theorem do_none : DO X none ρ none := ⟨poSub po_none fun σ H Q ⟨H0, I, r1, k⟩ => k I H (.refl r1.s)⟩
theorem do_some {i : Int} (h : DE X e ρ (.int i)) : DO X (some e) ρ (some i) := ⟨poSub (po_some h.pe) fun σ H Q ⟨H0, I, r1, k⟩ => ⟨H0, I, r1, fun v I1 H1 g1 h1 => ⟨i, rep_int.mp h1, k I1 H1 g1⟩⟩⟩
/-- the places of a slice -/
def cutD (ds : List D) (lo hi : Option Int) : List D := (ds.drop (HT.sIx ds.length 0 lo)).take (HT.sIx ds.length ds.length hi - HT.sIx ds.length 0 lo)
theorem dn_slice {lo hi : Option Expr} {l h : Option Int} {p2 : Pos} (he : DV X e ρ ds) (hl : DO X lo ρ l) (hh : DO X hi ρ h) : DN X (.Subscript e (.Slice lo hi none p2) pos) ρ (cutD ds l h) :=
  ⟨peSub (pe_slice sl_list he.pe hl.po hh.po) fun σ H Q ⟨H0, I, r1, k⟩ => ⟨H0, I, r1, fun p vs I1 H1 g1 h1 r2 => ⟨H0, I1, r1.grow g1, fun I2 H2 g2 => ⟨H0, I2, (r1.grow g1).grow g2, fun I3 H3 g3 =>
    ⟨p, vs, rfl, (g2.trans g3).h.seq h1, fun l hl => k l _ I3 _ (((g1.trans g2).trans g3).trans (.tmp g3.s hl)) (g3.s.free hl) (((g1.trans g2).trans g3).h.free hl) upd_same (reps_cut (r2.mono (g2.trans g3).i) _ _)⟩⟩⟩⟩⟩
/-- list(xs), xs a list -/
theorem dn_list {x : Str} {p : Pos} (hg : Gl X x) (hm : X.mg x = none) (hv : bootBuiltins x = some (.type "list")) (ha : DV X e ρ ds) (hn : x ≠ "__name__" := by decide) (hdb : (x == ("__debug__" : Str)) = false := by decide)
    (h1 : starEach [e] X.env = (false, eval e X.env) :: starEach [] X.env := by rfl) (hpl : (backTo pos (starEach [] X.env)).any (·.1) = false := by rfl) : DN X (.Call (.Name x p) [e] [] pos) ρ ds :=
  ⟨peSub (pe_callTy call_list_of hg hm hv (pa_cons ha.pe pa_nil h1) hn hdb h1 hpl) fun σ H Q ⟨H0, I, r1, k⟩ => ⟨H0, I, r1, fun p vs I1 H1 g1 h1 r2 =>
    ⟨p, vs, rfl, .inl h1, fun l hl => k l vs I1 _ (g1.trans (.tmp g1.s hl)) (g1.s.free hl) (g1.h.free hl) upd_same r2⟩⟩⟩
theorem dn_listT {x : Str} {p : Pos} (hg : Gl X x) (hm : X.mg x = none) (hv : bootBuiltins x = some (.type "list")) (ha : DE X e ρ (.tup ds)) (hn : x ≠ "__name__" := by decide) (hdb : (x == ("__debug__" : Str)) = false := by decide)
    (h1 : starEach [e] X.env = (false, eval e X.env) :: starEach [] X.env := by rfl) (hpl : (backTo pos (starEach [] X.env)).any (·.1) = false := by rfl) : DN X (.Call (.Name x p) [e] [] pos) ρ ds :=
  ⟨peSub (pe_callTy call_list_of hg hm hv (pa_cons ha.pe pa_nil h1) hn hdb h1 hpl) fun σ H Q ⟨H0, I, r1, k⟩ => ⟨H0, I, r1, fun v I1 H1 g1 h1 => by
    obtain ⟨p, vs, rfl, h2, r2⟩ := rep_tup.mp h1
    exact ⟨p, vs, rfl, .inr (.inl (.inl (g1.s _ _ h2))), fun l hl => k l vs I1 _ (g1.trans (.tmp g1.s hl)) (g1.s.free hl) (g1.h.free hl) upd_same r2⟩⟩⟩
/-- len of a list that is read -/
theorem de_len {x : Str} {p : Pos} (hg : Gl X x) (hm : X.mg x = none) (hv : bootBuiltins x = some (.builtin "len")) (ha : DV X e ρ ds) (hn : x ≠ "__name__" := by decide) (hdb : (x == ("__debug__" : Str)) = false := by decide)
    (h1 : starEach [e] X.env = (false, eval e X.env) :: starEach [] X.env := by rfl) (hpl : (backTo pos (starEach [] X.env)).any (·.1) = false := by rfl) : DE X (.Call (.Name x p) [e] [] pos) ρ (.int ds.length) :=
  ⟨peSub (pe_callB call_len_seq hg hm hv (pa_cons ha.pe pa_nil h1) hn hdb h1 hpl) fun σ H Q ⟨H0, I, r1, k⟩ => ⟨H0, I, r1, fun p vs I1 H1 g1 h1 r2 =>
    ⟨p, vs, rfl, .inl h1, by rw [r2.len]; exact k _ I1 H1 g1 (rep_int.mpr rfl)⟩⟩⟩
theorem de_lenT {x : Str} {p : Pos} (hg : Gl X x) (hm : X.mg x = none) (hv : bootBuiltins x = some (.builtin "len")) (ha : DE X e ρ (.tup ds)) (hn : x ≠ "__name__" := by decide) (hdb : (x == ("__debug__" : Str)) = false := by decide)
    (h1 : starEach [e] X.env = (false, eval e X.env) :: starEach [] X.env := by rfl) (hpl : (backTo pos (starEach [] X.env)).any (·.1) = false := by rfl) : DE X (.Call (.Name x p) [e] [] pos) ρ (.int ds.length) :=
  ⟨peSub (pe_callB call_len_seq hg hm hv (pa_cons ha.pe pa_nil h1) hn hdb h1 hpl) fun σ H Q ⟨H0, I, r1, k⟩ => ⟨H0, I, r1, fun v I1 H1 g1 h1 => by
    obtain ⟨p, vs, rfl, h2, r2⟩ := rep_tup.mp h1
    refine ⟨p, vs, rfl, .inr (.inl (.inl (g1.s _ _ h2))), ?_⟩
    rw [r2.len]
    exact k _ I1 H1 g1 (rep_int.mpr rfl)⟩⟩
theorem cd_int1 {K : PySem.W.Frag} {i : Int} : CD K (fun xs H Q => (∃ i, xs = [.int i] ∧ Q (.int i) H) ∨ ∃ k, xs = [.bl k] ∧ Q (.int (if k then 1 else 0)) H) [.int i] (.int i) := fun F I H vs Q s h k => by
  obtain ⟨v, r, rfl, h1, h2⟩ := reps_cons.mp h
  rw [rep_int.mp h1, reps_nil.mp h2]
  exact .inl ⟨i, rfl, k _ I H (.refl s) (rep_int.mpr rfl)⟩
theorem cd_intB {K : PySem.W.Frag} {b : Bool} : CD K (fun xs H Q => (∃ i, xs = [.int i] ∧ Q (.int i) H) ∨ ∃ k, xs = [.bl k] ∧ Q (.int (if k then 1 else 0)) H) [.bl b] (.int (if b then 1 else 0)) := fun F I H vs Q s h k => by
  obtain ⟨v, r, rfl, h1, h2⟩ := reps_cons.mp h
  rw [rep_bl.mp h1, reps_nil.mp h2]
  exact .inr ⟨b, rfl, k _ I H (.refl s) (rep_int.mpr rfl)⟩
section
variable {x : Str} {p : Pos} (hg : Gl X x) (hm : X.mg x = none) (hv : bootBuiltins x = some (.type "int"))
include hg hm hv
theorem de_int1 {i : Int} (ha : DE X e ρ (.int i)) (hn : x ≠ "__name__" := by decide) (hdb : (x == ("__debug__" : Str)) = false := by decide)
    (h1 : starEach [e] X.env = (false, eval e X.env) :: starEach [] X.env := by rfl) (hpl : (backTo pos (starEach [] X.env)).any (·.1) = false := by rfl) : DE X (.Call (.Name x p) [e] [] pos) ρ (.int i) :=
  de_callTy call_int1 hg hm hv (da_cons ha da_nil h1) cd_int1 hn hdb h1 hpl
theorem de_intB {b : Bool} (ha : DE X e ρ (.bl b)) (hn : x ≠ "__name__" := by decide) (hdb : (x == ("__debug__" : Str)) = false := by decide)
    (h1 : starEach [e] X.env = (false, eval e X.env) :: starEach [] X.env := by rfl) (hpl : (backTo pos (starEach [] X.env)).any (·.1) = false := by rfl) : DE X (.Call (.Name x p) [e] [] pos) ρ (.int (if b then 1 else 0)) :=
  de_callTy call_int1 hg hm hv (da_cons ha da_nil h1) cd_intB hn hdb h1 hpl
end

/-! ### reading one's own list as written for good, where what comes out is scalar -/
def isScal : D → Bool
  | .non => true | .bl _ => true | .int _ => true | .str _ => true
  | _ => false
theorem Rep.scal {K : PySem.W.Frag} {F : Addr → Prop} {I I' : Hp} {v : V} : ∀ {d : D}, isScal d = true → Rep K F I d v → Rep K F I' d v
  | .non, _, h => rep_non.mpr (rep_non.mp h)
  | .bl _, _, h => rep_bl.mpr (rep_bl.mp h)
  | .int _, _, h => rep_int.mpr (rep_int.mp h)
  | .str _, _, h => rep_str.mpr (rep_str.mp h)
theorem frz_grow {K : PySem.W.Frag} {H0 I H I2 H2 I' : Hp} {σ : L2.St} (r : RS K H0 I H σ ρ) (s1 : Same I I') (g : Grow I' H I2 H2) : Grow I H I H2 :=
  ⟨.refl _, g.h, r.s.trans g.h, fun _ e q => absurd e q⟩
theorem de_frz {i : Nat} (hr : ρ[i]? = some (.ow (.lst ds))) (h : DE X e (ρ.set i (.im (.lst ds))) d) (hs : isScal d = true) : DE X e ρ d :=
  ⟨peSub h.pe fun σ H Q ⟨H0, I, r1, k⟩ => by
    obtain ⟨I', s1, _, r2⟩ := r1.freeze hr
    exact ⟨H0, I', r2, fun v I2 H2 g2 h2 => k v I H2 (frz_grow r1 s1 g2) (h2.scal hs)⟩⟩
theorem db_frz {i : Nat} {c : Bool} (hr : ρ[i]? = some (.ow (.lst ds))) (h : DB X e (ρ.set i (.im (.lst ds))) c) : DB X e ρ c :=
  ⟨ptSub h.pt fun σ H Q ⟨H0, I, r1, k⟩ => by
    obtain ⟨I', s1, _, r2⟩ := r1.freeze hr
    exact ⟨H0, I', r2, fun I2 H2 g2 => k I H2 (frz_grow r1 s1 g2)⟩⟩

/-! ### targets -/
def Chg (is : List Nat) (σ σ' : L2.St) : Prop := σ'.length = σ.length ∧ ∀ k : Nat, k ∉ is → σ'[k]? = σ[k]?
theorem Chg.one {i : Nat} {σ : L2.St} {x : Option V} : Chg [i] σ (σ.set i x) := ⟨List.length_set, fun k hk => List.getElem?_set_ne (by intro e; exact hk (by simp [e]))⟩
theorem Chg.trans {is js : List Nat} {σ σ' σ'' : L2.St} (a : Chg is σ σ') (b : Chg js σ' σ'') : Chg (is ++ js) σ σ'' :=
  ⟨b.1.trans a.1, fun k hk => (b.2 k fun h => hk (List.mem_append_right _ h)).trans (a.2 k fun h => hk (List.mem_append_left _ h))⟩
theorem Chg.refl {σ : L2.St} : Chg [] σ σ := ⟨rfl, fun _ _ => rfl⟩
theorem wipe_in {σ : L2.St} {i : Nat} : ∀ {vs : List Nat}, i ∈ vs → i < σ.length → (wipe σ vs)[i]? = some none
  | [], h, _ => by simp at h
  | v :: vs, h, hi => by
    unfold wipe
    by_cases e : v = i
    · subst e
      rw [List.getElem?_set_self (by rw [wipe_length]; exact hi)]
    · rw [List.getElem?_set_ne e]
      exact wipe_in ((List.mem_cons.mp h).resolve_left (Ne.symm e)) hi
theorem Chg.wipe {vs : List Nat} {σ σ' : L2.St} (h : Chg vs (L2.wipe σ vs) σ') : L2.wipe σ' vs = L2.wipe σ vs := by
  have hl : σ'.length = σ.length := h.1.trans (wipe_length σ vs)
  apply List.ext_getElem?
  intro k
  by_cases hk : k ∈ vs
  · by_cases hl2 : k < σ.length
    · rw [wipe_in hk hl2, wipe_in hk (by omega)]
    · rw [List.getElem?_eq_none_iff.mpr (by rw [wipe_length]; omega), List.getElem?_eq_none_iff.mpr (by rw [wipe_length]; omega)]
  · rw [wipe_out hk, wipe_out hk, h.2 k hk, wipe_out hk]
def tG1 (K : PySem.W.Frag) (ρ : Rho) (d : D) (ρ' : Rho) (is : List Nat) : TG := fun v σ H Q => ∃ H0 I, RS K H0 I H σ ρ ∧ Rep K (Fr H0) I d v ∧ ∀ σ', RS K H0 I H σ' ρ' → Chg is σ σ' → Q σ' H
structure DG (X : Cx) (tg : Expr) (ρ : Rho) (d : D) (ρ' : Rho) (is : List Nat) : Prop where
  pg : PG X tg (tG1 X.K ρ d ρ' is)
def tGs1 (K : PySem.W.Frag) (ρ : Rho) (ds : List D) (ρ' : Rho) (is : List Nat) : TGs := fun vs σ H Q => ∃ H0 I, RS K H0 I H σ ρ ∧ Reps K (Fr H0) I ds vs ∧ ∀ σ', RS K H0 I H σ' ρ' → Chg is σ σ' → Q σ' H
structure DGs (X : Cx) (ts : List Expr) (ρ : Rho) (ds : List D) (ρ' : Rho) (is : List Nat) : Prop where
  pg : PGs X ts (tGs1 X.K ρ ds ρ' is)
theorem pgSub {tg : Expr} {t t' : TG} (h : PG X tg t) (w : ∀ v σ H Q, t' v σ H Q → t v σ H Q) : PG X tg t' := ⟨fun pins s σ H v u Q I r q => h.run pins s σ H v u Q I r (w _ _ _ _ q)⟩
theorem pgsSub {tg : List Expr} {t t' : TGs} (h : PGs X tg t) (w : ∀ v σ H Q, t' v σ H Q → t v σ H Q) : PGs X tg t' := ⟨fun pins s σ H v u Q I r q => h.run pins s σ H v u Q I r (w _ _ _ _ q)⟩
theorem dg_name {i : Nat} {tg : Expr} (h : PG X tg (gName i)) : DG X tg ρ d (ρ.set i (.im d)) [i] := ⟨pgSub h fun v σ H Q ⟨H0, I, r, h1, k⟩ => k _ (r.set h1) .one⟩
theorem dgs_nil : DGs X [] ρ [] ρ [] := ⟨pgsSub pgs_nil fun v σ H Q ⟨H0, I, r, h1, k⟩ => ⟨reps_nil.mp h1, k σ r .refl⟩⟩
theorem dgs_cons {e : Expr} {es : List Expr} {ρ1 ρ2 : Rho} {is js ks : List Nat} (h : DG X e ρ d ρ1 is) (ht : DGs X es ρ1 ds ρ2 js) (hk : is ++ js = ks) (hs : (assignEach (e :: es) X.env).map (·.2) = assign e X.env :: (assignEach es X.env).map (·.2) := by rfl) :
    DGs X (e :: es) ρ (d :: ds) ρ2 ks := hk ▸ ⟨pgsSub (pgs_cons h.pg ht.pg hs) fun v σ H Q ⟨H0, I, r, h1, k⟩ => by
  obtain ⟨w, ws, rfl, h2, h3⟩ := reps_cons.mp h1
  exact ⟨w, ws, rfl, H0, I, r, h2, fun σ1 r1 c1 => ⟨H0, I, r1, h3, fun σ2 r2 c2 => k σ2 r2 (c1.trans c2)⟩⟩⟩
theorem dg_tup {es : List Expr} {kk : Nat} {ρ' : Rho} {is : List Nat} (hc : X.calm = true) (h : DGs X es ρ ds ρ' is) (hn : (assignEach es X.env).length = ds.length := by rfl) (hst : (assignEach es X.env).findIdx? (·.1) = none := by rfl) :
    DG X (.Tuple es kk pos) ρ (.tup ds) ρ' is := ⟨pgSub (pg_tup (pos := pos) (k := kk) hc h.pg hn hst) fun v σ H Q ⟨H0, I, r, h1, k⟩ => by
  obtain ⟨a, vs, rfl, h2, h3⟩ := rep_tup.mp h1
  exact ⟨a, vs, rfl, .inl (.inl (r.s _ _ h2)), h3.len, H0, I, r, h3, k⟩⟩

/-! ### iteration -/
def IterC (K : PySem.W.Frag) (F : Addr → Prop) (J : It) (I' H' : Hp) (ds : List D) : Prop := ∃ (G : Hp → Prop) (Y : Nat → Hp → V → Hp → Prop), Walk J ds.length G Y ∧ (∀ H2, Same H' H2 → G H2) ∧
  ∀ i H v H2 I2, i < ds.length → Same H' H → Same I' I2 → Same I2 H → Y i H v H2 → ∃ I3 d, ds[i]? = some d ∧ Grow I2 H I3 H2 ∧ Rep K F I3 d v
/-- .. of what is written for good -/
def IterI (K : PySem.W.Frag) (F : Addr → Prop) (J : It) (I' : Hp) (ds : List D) : Prop := ∃ (G : Hp → Prop) (Y : Nat → Hp → V → Hp → Prop), Walk J ds.length G Y ∧ (∀ H2, Same I' H2 → G H2) ∧
  ∀ i H v H2 I2, i < ds.length → Same I' I2 → Same I2 H → Y i H v H2 → ∃ I3 d, ds[i]? = some d ∧ Grow I2 H I3 H2 ∧ Rep K F I3 d v
structure DI (X : Cx) (tg iter : Expr) (ρ : Rho) (ds : List D) : Prop where
  pi : PI X tg iter (fun σ H R => ∃ H0 I, RS X.K H0 I H σ ρ ∧ ∀ J I' H', Grow I H I' H' → IterI X.K (Fr H0) J I' ds → R J H')
structure DIc (X : Cx) (tg iter : Expr) (ρ : Rho) (ds : List D) : Prop where
  pi : PI X tg iter (fun σ H R => ∃ H0 I, RS X.K H0 I H σ ρ ∧ ∀ J I' H', Grow I H I' H' → IterC X.K (Fr H0) J I' H' ds → R J H')
theorem piSub {tg iter : Expr} {t t' : TI} (h : PI X tg iter t) (w : ∀ σ H R, t' σ H R → t σ H R) : PI X tg iter t' := ⟨fun pins s σ H R I q => h.run pins s σ H R I (w _ _ _ q)⟩
theorem DI.c {tg iter : Expr} (h : DI X tg iter ρ ds) : DIc X tg iter ρ ds := ⟨piSub h.pi fun σ H R ⟨H0, I, r, k⟩ => ⟨H0, I, r, fun J I' H' g ⟨G, Y, w, g1, y⟩ =>
  k J I' H' g ⟨G, Y, w, fun H2 s => g1 H2 (g.s.trans s), fun i H v H2 I2 hi _ s2 s3 q => y i H v H2 I2 hi s2 s3 q⟩⟩⟩
theorem iter_at {K : PySem.W.Frag} {F : Addr → Prop} {vs : List V} {I I2 H H2 : Hp} {i : Nat} {v : V} (h : Reps K F I ds vs) (s2 : Same I I2) (s3 : Same I2 H) (q : YAt vs i H v H2) : ∃ I3 d, ds[i]? = some d ∧ Grow I2 H I3 H2 ∧ Rep K F I3 d v := by
  obtain ⟨rfl, e⟩ := q
  obtain ⟨d, e1, h1⟩ := h.getV e
  exact ⟨I2, d, e1, .refl s3, h1.mono s2⟩
theorem di_list {tg iter : Expr} (h : DE X iter ρ (.lst ds)) : DI X tg iter ρ ds := ⟨piSub (pi_list h.pe) fun σ H R ⟨H0, I, r, k⟩ => ⟨H0, I, r, fun v I1 H1 g1 h1 => by
  obtain ⟨a, vs, rfl, h2, h3⟩ := rep_lst.mp h1
  refine ⟨a, rfl, ⟨vs, .inl (.inl (g1.s _ _ h2))⟩, k _ I1 H1 g1 ⟨_, _, h3.len ▸ walk_list, fun H2 s => .inl (.inl (s _ _ h2)), fun i H v H2 I2 hi s2 s3 q => iter_at h3 s2 s3 q⟩⟩⟩⟩
theorem dic_list {tg iter : Expr} (h : DV X iter ρ ds) : DIc X tg iter ρ ds := ⟨piSub (pi_list h.pe) fun σ H R ⟨H0, I, r, k⟩ => ⟨H0, I, r, fun a vs I1 H1 g1 h1 h3 =>
  ⟨a, rfl, ⟨vs, h1⟩, k _ I1 H1 g1 ⟨_, _, h3.len ▸ walk_list, fun H2 s => s.seq h1, fun i H v H2 I2 hi _ s2 s3 q => iter_at h3 s2 s3 q⟩⟩⟩⟩
theorem di_tup {tg iter : Expr} (h : DE X iter ρ (.tup ds)) : DI X tg iter ρ ds := ⟨piSub (pi_tup h.pe) fun σ H R ⟨H0, I, r, k⟩ => ⟨H0, I, r, fun v I1 H1 g1 h1 => by
  obtain ⟨a, vs, rfl, h2, h3⟩ := rep_tup.mp h1
  refine ⟨a, rfl, ⟨vs, .inl (.inl (g1.s _ _ h2))⟩, k _ I1 H1 g1 ⟨_, _, h3.len ▸ walk_tup, fun H2 s => .inl (.inl (s _ _ h2)), fun i H v H2 I2 hi s2 s3 q => iter_at h3 s2 s3 q⟩⟩⟩⟩
/-- the ints of a range -/
def rngD (lo : Int) (n : Nat) : List D := (List.range n).map fun i => .int (lo + (i : Nat))
theorem iter_range {K : PySem.W.Frag} {F : Addr → Prop} {I : Hp} {lo : Int} {n : Nat} : IterI K F (Itr lo n) I (rngD lo n) := by
  have hl : (rngD lo n).length = n := by unfold rngD; rw [List.length_map, List.length_range]
  refine ⟨fun _ => True, YFn fun i => .int (lo + (i : Nat)), by rw [hl]; exact walk_range, fun _ _ => trivial, fun i H v H2 I2 hi s2 s3 q => ?_⟩
  obtain ⟨rfl, rfl⟩ := q
  rw [hl] at hi
  refine ⟨I2, _, ?_, .refl s3, rep_int.mpr rfl⟩
  unfold rngD
  rw [List.getElem?_map, List.getElem?_range hi]
  rfl
theorem di_range1 {tg e : Expr} {j : Int} {p : Pos} (hg : Gl X "range") (hm : X.mg "range" = none) (h : DE X e ρ (.int j)) (h1 : -(2 ^ 62) ≤ j) (h2 : j < 2 ^ 62) (hs : starEach [e] X.env = [(false, eval e X.env)] := by rfl)
    (hs1 : starEach [e] X.env = (false, eval e X.env) :: starEach [] X.env := by rfl) : DI X tg (.Call (.Name "range" p) [e] [] pos) ρ (rngD 0 j.toNat) :=
  ⟨piSub (pi_range1 hg hm (pa_cons h.pe pa_nil hs1) hs) fun σ H R ⟨H0, I, r, k⟩ => ⟨H0, I, r, fun v I1 H1 g1 q1 => ⟨j, by rw [rep_int.mp q1], h1, h2, k _ I1 H1 g1 iter_range⟩⟩⟩
theorem di_range2 {tg e e2 : Expr} {i j : Int} {p : Pos} (hg : Gl X "range") (hm : X.mg "range" = none) (ha : DE X e ρ (.int i)) (hb : DE X e2 ρ (.int j)) (hh : -(2 ^ 62) ≤ i ∧ i < 2 ^ 62 ∧ -(2 ^ 62) ≤ j ∧ j < 2 ^ 62)
    (hs : starEach [e, e2] X.env = [(false, eval e X.env), (false, eval e2 X.env)] := by rfl) (hs2 : starEach [e2] X.env = [(false, eval e2 X.env)] := by rfl)
    (hs3 : starEach [e, e2] X.env = (false, eval e X.env) :: starEach [e2] X.env := by rfl) (hs4 : starEach [e2] X.env = (false, eval e2 X.env) :: starEach [] X.env := by rfl) : DI X tg (.Call (.Name "range" p) [e, e2] [] pos) ρ (rngD i (j - i).toNat) :=
  ⟨piSub (pi_range2 hg hm (pa_cons ha.pe (pa_cons hb.pe pa_nil hs4) hs3) hs hs2) fun σ H R ⟨H0, I, r, k⟩ => ⟨H0, I, r, fun v I1 H1 g1 q1 => ⟨H0, I1, r.grow g1, fun w I2 H2 g2 q2 =>
    ⟨i, j, by rw [rep_int.mp q1, rep_int.mp q2], hh, k _ I2 H2 (g1.trans g2) iter_range⟩⟩⟩⟩
/-- the pairs of enumerate -/
def enumD (ds : List D) : List D := (ds.zipIdx).map fun p => .tup [.int (p.2 : Nat), p.1]
theorem enumD_len : (enumD ds).length = ds.length := by unfold enumD; rw [List.length_map, List.length_zipIdx]
theorem enumD_get {i : Nat} {d : D} (h : ds[i]? = some d) : (enumD ds)[i]? = some (.tup [.int (i : Nat), d]) := by
  unfold enumD
  rw [List.getElem?_map, List.getElem?_zipIdx, h]
  simp
theorem iter_enum {K : PySem.W.Frag} {F : Addr → Prop} {vs : List V} {I I2 H H2 : Hp} {i : Nat} {v : V} (h : Reps K F I ds vs) (s2 : Same I I2) (s3 : Same I2 H) (q : YPair (fun i => some (.int (i : Nat))) (fun i => vs[i]?) i H v H2) :
    ∃ I3 d, (enumD ds)[i]? = some d ∧ Grow I2 H I3 H2 ∧ Rep K F I3 d v := by
  obtain ⟨T, x, y, rfl, hT, rfl, e1, e2⟩ := q
  cases e1
  obtain ⟨d, e3, h1⟩ := h.getV e2
  refine ⟨upd I2 T (.tup [.int (i : Nat), y]), _, enumD_get e3, .new s3 hT, rep_tup.mpr ⟨T, _, rfl, upd_same, reps_cons.mpr ⟨_, _, rfl, rep_int.mpr rfl, .one ((h1.mono s2).mono (same_new (s3.free hT)))⟩⟩⟩
theorem di_enum {elts : List Expr} {kk : Nat} {tpos p : Pos} {e : Expr} (hg : Gl X "enumerate") (hm : X.mg "enumerate" = none) (h : DE X e ρ (.lst ds)) (hs : starEach [e] X.env = [(false, eval e X.env)] := by rfl)
    (hs1 : starEach [e] X.env = (false, eval e X.env) :: starEach [] X.env := by rfl) : DI X (.Tuple elts kk tpos) (.Call (.Name "enumerate" p) [e] [] pos) ρ (enumD ds) :=
  ⟨piSub (pi_enum hg hm (pa_cons h.pe pa_nil hs1) hs) fun σ H R ⟨H0, I, r, k⟩ => ⟨H0, I, r, fun v I1 H1 g1 h1 => by
    obtain ⟨a, vs, rfl, h2, h3⟩ := rep_lst.mp h1
    exact ⟨a, vs, rfl, .inl (.inl (g1.s _ _ h2)), k _ I1 H1 g1 ⟨_, _, (h3.len.trans enumD_len.symm) ▸ walk_enum, fun H2 s => .inl (.inl (s _ _ h2)), fun i H v H2 I2 hi s2 s3 q => iter_enum h3 s2 s3 q⟩⟩⟩⟩
theorem dic_enum {elts : List Expr} {kk : Nat} {tpos p : Pos} {e : Expr} (hg : Gl X "enumerate") (hm : X.mg "enumerate" = none) (h : DV X e ρ ds) (hs : starEach [e] X.env = [(false, eval e X.env)] := by rfl)
    (hs1 : starEach [e] X.env = (false, eval e X.env) :: starEach [] X.env := by rfl) : DIc X (.Tuple elts kk tpos) (.Call (.Name "enumerate" p) [e] [] pos) ρ (enumD ds) :=
  ⟨piSub (pi_enum hg hm (pa_cons h.pe pa_nil hs1) hs) fun σ H R ⟨H0, I, r, k⟩ => ⟨H0, I, r, fun a vs I1 H1 g1 h1 h3 =>
    ⟨a, vs, rfl, h1, k _ I1 H1 g1 ⟨_, _, (h3.len.trans enumD_len.symm) ▸ walk_enum, fun H2 s => s.seq h1, fun i H v H2 I2 hi _ s2 s3 q => iter_enum h3 s2 s3 q⟩⟩⟩⟩
end
end DL
namespace DL
open PySem PySem.Spec PyProof.Rows L2

/-! ### comprehensions -/
def wipeR (ρ : Rho) : List Nat → Rho
  | [] => ρ
  | v :: vs => (wipeR ρ vs).set v .un
theorem RS.wipe {K : PySem.W.Frag} {H0 I H : Hp} {σ : L2.St} {ρ : Rho} (r : RS K H0 I H σ ρ) : ∀ vs : List Nat, RS K H0 I H (L2.wipe σ vs) (wipeR ρ vs)
  | [] => r
  | v :: vs => (RS.wipe r vs).forget
structure DTs (X : Cx) (ifs : List Expr) (ρ : Rho) (b : Bool) : Prop where
  pt : PTs X ifs (tB1 X.K ρ b)
section
variable {X : Cx} {a b e : Expr} {ρ : Rho} {x y z d : D} {ds es : List D} {pos : Pos}
theorem ptsSub {ifs : List Expr} {t t' : TT} (h : PTs X ifs t) (w : ∀ σ H Q, t' σ H Q → t σ H Q) : PTs X ifs t' := ⟨fun pins s σ H Q I q => h.run pins s σ H Q I (w _ _ _ q)⟩
theorem dts_nil : DTs X [] ρ true := ⟨ptsSub pts_nil fun σ H Q ⟨H0, I, r, k⟩ => k I H (.refl r.s)⟩
theorem dts_one {c : Bool} (h : DB X e ρ c) : DTs X [e] ρ c := ⟨pts_one h.pt⟩
/-- the block's context, whatever it is made of -/
abbrev Blk (X : Cx) (scope : Scope) : Shared → Hp → Addr → List (Str × Addr) → List Addr → Cx := fun s H C cl fp => X.blk s H scope (compEnvC scope cl C X.env) fp
section
variable {α : Type} {xs : List α} {en : α → D} {c : α → Bool} {f : α → D} {ρx : α → Rho} {tg iter elt : Expr} {ifs : List Expr} {scope : Scope} {own : List (Str × Nat)}
/-- what a turn of the block does -/
structure Turns (X : Cx) (xs : List α) (en : α → D) (c : α → Bool) (f : α → D) (ρ : Rho) (ρx : α → Rho) (tg elt : Expr) (ifs : List Expr) (scope : Scope) (own : List (Str × Nat)) : Prop where
  g : ∀ s H C cl fp, ∀ x ∈ xs, DG (Blk X scope s H C cl fp) tg (wipeR ρ (own.map (·.2))) (en x) (ρx x) (own.map (·.2))
  t : ∀ s H C cl fp, ∀ x ∈ xs, DTs (Blk X scope s H C cl fp) ifs (ρx x) (c x)
  e : ∀ s H C cl fp, ∀ x ∈ xs, c x = true → DE (Blk X scope s H C cl fp) elt (ρx x) (f x)
def lcG (X : Cx) {α : Type} (xs : List α) (en : α → D) (ρ : Rho) (ρx : α → Rho) (own : List (Str × Nat)) : TG := fun v σ H Q => ∃ x ∈ xs, tG1 X.K (wipeR ρ (own.map (·.2))) (en x) (ρx x) (own.map (·.2)) v σ H Q
def lcT (X : Cx) {α : Type} (xs : List α) (c : α → Bool) (ρx : α → Rho) : TT := fun σ H Q => ∃ x ∈ xs, tB1 X.K (ρx x) (c x) σ H Q
def lcE (X : Cx) {α : Type} (xs : List α) (c : α → Bool) (f : α → D) (ρx : α → Rho) : TE := fun σ H Q => ∃ x, ∃ (_ : x ∈ xs) (_ : c x = true), tE X.K (ρx x) (f x) σ H Q
/-- the reading of a comprehension, from the judgements of its parts -/
theorem lc_read (T : Turns X xs en c f ρ ρx tg elt ifs scope own) (hz : xs.length < sizeLine) {J : It} {H0 I I1 H H1 : Hp} {σ : L2.St} {Q : VK} (r : RS X.K H0 I H σ ρ) (g1 : Grow I H I1 H1) (it : IterC X.K (Fr H0) J I1 H1 (xs.map en))
    (k : ∀ p vs I' H', Grow I H I' H' → I' p = none → H p = none → H' p = some (.lst vs) → Reps X.K (Fr H0) I' ((xs.filter c).map f) vs → Q (.ref p) H') :
    ∀ D, H1 D = none → ∃ W : Nat → Nat → Hp → Prop, (∃ m, W 0 m (upd H1 D (.lst []))) ∧ ∀ i m H, W i m H →
      (J.stop i H ∧ Q (.ref D) H) ∨ (J.go i H ∧ ∃ Nx : Hp → Prop, (∀ H', Nx H' → ∃ m', m' < m ∧ W (i + 1) m' H') ∧ ∀ x H', J.yld i H x H' →
        (lcG X xs en ρ ρx own) x (wipe σ (own.map (·.2))) H' fun σ2 H2 => wipe σ2 (own.map (·.2)) = wipe σ (own.map (·.2)) ∧
        (lcT X xs c ρx) σ2 H2 fun b H3 =>
        if b = true then (lcE X xs c f ρx) σ2 H3 fun y H4 => ∃ acc, H4 D = some (.lst acc) ∧ acc.length < sizeLine ∧ Nx (upd H4 D (.lst (acc ++ [y]))) else Nx H3) := by
  intro D hD
  obtain ⟨G, Y, w, hG, hy⟩ := it
  rw [List.length_map] at w
  have nD : I1 D = none := g1.s.free hD
  have nDH : H D = none := g1.h.free hD
  -- after i turns
  refine lc_it w (g := lcG X xs en ρ ρx own) (tt := lcT X xs c ρx) (te := lcE X xs c f ρx) (vs := own.map (·.2)) (σ := σ) (Qd := Q (.ref D)) (fun i H2 => ∃ I2 acc, Grow I1 H1 I2 H2 ∧ RS X.K H0 I2 H2 (wipe σ (own.map (·.2))) (wipeR ρ (own.map (·.2))) ∧ I2 D = none ∧ H2 D = some (.lst acc) ∧ Reps X.K (Fr H0) I2 (((xs.take i).filter c).map f) acc)
    ⟨I1, [], .tmp g1.s hD, ((r.grow g1).grow (.tmp g1.s hD)).wipe _, nD, upd_same, reps_nil.mpr rfl⟩ (fun i H2 _ ⟨I2, acc, g2, _⟩ => hG H2 g2.h) (fun i x H2 H3 hi ⟨I2, acc, g2, r2, n2, e2, rep2⟩ y => ?_) (fun H2 ⟨I2, acc, g2, r2, n2, e2, rep2⟩ => ?_)
  · have hi' : i < (xs.map en).length := by rw [List.length_map]; exact hi
    obtain ⟨I3, d, ed, g3, rd⟩ := hy i H2 x H3 I2 hi' g2.h g2.i r2.s y
    have exi : (xs.map en)[i]? = some (en xs[i]) := by rw [List.getElem?_map, List.getElem?_eq_getElem hi]; rfl
    rw [exi] at ed
    cases ed
    have hm : xs[i] ∈ xs := List.getElem_mem hi
    have ndk : ∀ {I4 H4 : Hp}, Grow I2 H2 I4 H4 → I4 D = none ∧ H4 D = some (.lst acc) := fun {I4 H4} g => by
      refine ⟨?_, g.h _ _ e2⟩
      cases q : I4 D with
      | none => rfl
      | some u =>
        have := g.n D n2 (by rw [q]; exact fun z => by cases z)
        rw [e2] at this
        cases this
    have tk : (xs.take (i + 1)) = xs.take i ++ [xs[i]] := List.take_succ_eq_append_getElem hi
    have ln : acc.length < sizeLine := by
      rw [rep2.len, List.length_map]
      have h1 := List.length_filter_le c (xs.take i)
      have h2 : (xs.take i).length ≤ xs.length := by rw [List.length_take]; omega
      omega
    refine ⟨xs[i], hm, H0, I3, r2.grow g3, rd, fun σ2 r3 ch => ⟨ch.wipe, xs[i], hm, H0, I3, r3, fun I4 H4 g4 => ?_⟩⟩
    have g24 := g3.trans g4
    cases ec : c xs[i] with
    | true =>
      refine iteT ⟨xs[i], hm, ec, H0, I4, r3.grow g4, fun v I5 H5 g5 rv => ?_⟩
      have g25 := g24.trans g5
      obtain ⟨n5, e5⟩ := ndk g25
      refine ⟨acc, e5, ln, I5, acc ++ [v], ⟨(g2.trans g25).i, ?_, same_mut g25.s n5, ?_⟩, ?_, n5, upd_same, ?_⟩
      · exact same_mut (g2.trans g25).h hD
      · exact (g2.trans g25).n
      · refine ⟨same_mut g25.s n5, same_mut (r2.grow g25).h0 (r.h0.free nDH), (r2.grow g25).len, fun j s es => ?_, (r2.grow g25).di⟩
        have h := (r2.grow g25).sl j s es
        cases s with
        | un => trivial
        | im d => exact h
        | ow o =>
          obtain ⟨p, ho, q1, q2, q3, q4, q5⟩ := h
          refine ⟨p, ho, q1, q2, q3, ?_, q5⟩
          rw [upd_ne]
          · exact q4
          · intro z
            subst z
            -- an owned object of the frame is older than the new list
            have h0 := r.grow g1
            obtain ⟨hw1, hw2⟩ := wipe_some q1
            have es' : ∀ (vs : List Nat), j ∉ vs → (wipeR ρ vs)[j]? = ρ[j]? := fun vs => by
              induction vs with
              | nil => intro _; rfl
              | cons v vs ih =>
                intro hv
                unfold wipeR
                rw [List.getElem?_set_ne (fun e => hv (by simp [e]))]
                exact ih fun h => hv (List.mem_cons_of_mem _ h)
            rw [es' _ hw2] at es
            obtain ⟨p', ho', f1, f2, f3, f4, f5⟩ := h0.ow es
            rw [hw1] at f1
            cases f1
            rw [hD] at f4
            cases f4
      · rw [tk, List.filter_append, List.map_append]
        have e1 : [xs[i]].filter c = [xs[i]] := by simp [ec]
        rw [e1]
        exact (rep2.mono g25.i).snoc rv
    | false =>
      obtain ⟨n4, e4⟩ := ndk g24
      refine iteF ⟨I4, acc, g2.trans g24, r2.grow g24, n4, e4, ?_⟩
      rw [tk, List.filter_append]
      have e1 : [xs[i]].filter c = [] := by simp [ec]
      rw [e1, List.append_nil]
      exact rep2.mono g24.i
  · rw [List.take_length] at rep2
    exact k D acc I2 H2 (g1.trans g2) n2 nDH e2 rep2
variable (hc : X.calm = true) (hN : X.N.Nodup) (hi : DIc X tg iter ρ (xs.map en)) (ok : BlkOk X.N X.env.scope scope own) (T : Turns X xs en c f ρ ρx tg elt ifs scope own) (hz : xs.length < sizeLine)
include hc hN hi ok T hz
theorem dn_lc (hs : ∀ x, foldedSetIterable iter X.env x = pure x := by intro _; rfl) : DN X (.ListComp elt [⟨tg, iter, ifs, 0⟩] scope pos) ρ ((xs.filter c).map f) := by
  refine ⟨peSub (pe_lc hc hN hi.pi ok (g := lcG X xs en ρ ρx own) (tt := lcT X xs c ρx)
    (te := lcE X xs c f ρx)
    (fun s H C cl fp => ⟨fun pins s' σ H' v u Q I r ⟨x, hx, q⟩ => (T.g s H C cl fp x hx).pg.run pins s' σ H' v u Q I r q⟩)
    (fun s H C cl fp => ⟨fun pins s' σ H' Q I ⟨x, hx, q⟩ => (T.t s H C cl fp x hx).pt.run pins s' σ H' Q I q⟩)
    (fun s H C cl fp => ⟨fun pins s' σ H' Q I ⟨x, hx, ec, q⟩ => (T.e s H C cl fp x hx ec).pe.run pins s' σ H' Q I q⟩) hs) fun σ H Q ⟨H0, I, r, k⟩ => ⟨H0, I, r, fun J I1 H1 g1 it => lc_read T hz r g1 it k⟩⟩
end
end

/-! ### statements -/
inductive Out where
  | nx (ρ : Rho) | rt (d : D) | bk (ρ : Rho) | ct (ρ : Rho)
def wants (K : PySem.W.Frag) (H0 I0 : Hp) (E : Ends) : Out → Prop
  | .nx ρ => ∀ σ I H, RS K H0 I H σ ρ → Grow I0 H0 I H → E.nx σ H
  | .rt d => ∀ v I H, Grow I0 H0 I H → Rep K (Fr H0) I d v → E.rt v H
  | .bk ρ => ∀ σ I H, RS K H0 I H σ ρ → Grow I0 H0 I H → E.bk σ H
  | .ct ρ => ∀ σ I H, RS K H0 I H σ ρ → Grow I0 H0 I H → E.ct σ H
def tS1 (K : PySem.W.Frag) (ρ : Rho) (o : Out) : TS := fun E σ H => ∃ I0 H0 I, RS K H0 I H σ ρ ∧ Grow I0 H0 I H ∧ wants K H0 I0 E o
structure DS (X : Cx) (st : Stmt) (ρ : Rho) (o : Out) : Prop where
  ps : PS X st (tS1 X.K ρ o)
structure DSs (X : Cx) (sts : List Stmt) (ρ : Rho) (o : Out) : Prop where
  ps : PSs X sts (tS1 X.K ρ o)
/-- later than a later state -/
theorem Grow.base {I0 H0 I H I' H' : Hp} (a : Grow I0 H0 I H) (b : Grow I H I' H') : Grow I0 H0 I' H' := a.trans b
theorem Grow.rebase {I0 H0 I H I' H' : Hp} (a : Grow I0 H0 I H) (b : Grow I H0 I' H') : Grow I0 H0 I' H' :=
  ⟨a.i.trans b.i, b.h, b.s, fun p h g => by
    cases e : I p with
    | some o => exact a.n p h (by rw [e]; exact fun z => by cases z)
    | none => exact b.n p e g⟩
theorem Grow.self {I0 H0 I H : Hp} (a : Grow I0 H0 I H) : Grow I H0 I H := ⟨.refl _, a.h, a.s, fun _ h g => absurd h g⟩
section
variable {X : Cx} {st : Stmt} {rest sts : List Stmt} {a b e : Expr} {ρ ρ1 ρ2 : Rho} {o : Out} {x y z d : D} {ds es : List D} {pos : Pos}
theorem DS.to {o' : Out} (h : DS X st ρ o) (q : o = o') : DS X st ρ o' := q ▸ h
theorem DSs.to {o' : Out} (h : DSs X sts ρ o) (q : o = o') : DSs X sts ρ o' := q ▸ h
theorem DSs.at_ {ρ' : Rho} (h : DSs X sts ρ o) (q : ρ' = ρ) : DSs X sts ρ' o := q ▸ h
theorem dss_nil : DSs X [] ρ (.nx ρ) := ⟨pssSub pss_nil fun D σ H ⟨I0, H0, I, r, g, w⟩ => w σ I H r g⟩
theorem dss_cons (h : DS X st ρ (.nx ρ1)) (ht : DSs X rest ρ1 o) : DSs X (st :: rest) ρ o :=
  ⟨pssSub (pss_cons h.ps ht.ps) fun D σ H ⟨I0, H0, I, r, g, w⟩ => ⟨I0, H0, I, r, g, fun σ' I' H' r' g' => ⟨I0, H0, I', r', g', w⟩⟩⟩
def Out.leaves : Out → Bool
  | .nx _ => false
  | _ => true
theorem dss_stop (h : DS X st ρ o) (hl : o.leaves = true) : DSs X (st :: rest) ρ o := by
  have hn : PSs X rest (fun _ _ _ => False) := ⟨fun _ _ _ _ _ _ z => z.elim⟩
  refine ⟨pssSub (pss_cons h.ps hn) fun D σ H ⟨I0, H0, I, r, g, w⟩ => ⟨I0, H0, I, r, g, ?_⟩⟩
  cases o with
  | nx => cases hl
  | rt => exact w
  | bk => exact w
  | ct => exact w
theorem dss_one (h : DS X st ρ o) : DSs X [st] ρ o := by
  cases o with
  | nx => exact dss_cons h dss_nil
  | rt => exact dss_stop h rfl
  | bk => exact dss_stop h rfl
  | ct => exact dss_stop h rfl
/-- less is known -/
theorem dss_weak (w : Weak ρ ρ1) (h : DSs X sts ρ1 o) : DSs X sts ρ o := ⟨pssSub h.ps fun D σ H ⟨I0, H0, I, r, g, k⟩ => ⟨I0, H0, I, r.weak w, g, k⟩⟩
/-- a list of one's own is written for good -/
theorem dss_frz (i : Nat) (hr : ρ[i]? = some (.ow (.lst ds))) (h : DSs X sts (ρ.set i (.im (.lst ds))) o) : DSs X sts ρ o := ⟨pssSub h.ps fun D σ H ⟨I0, H0, I, r, g, k⟩ => by
  obtain ⟨I', s1, n1, r1⟩ := r.freeze hr
  refine ⟨I0, H0, I', r1, ⟨g.i.trans s1, g.h, r1.s, fun p h q => ?_⟩, k⟩
  cases e : I p with
  | some o => exact g.n p h (by rw [e]; exact fun z => by cases z)
  | none => exact n1 p e q⟩
theorem ds_pass : DS X (.Pass pos) ρ (.nx ρ) := ⟨psSub ps_pass fun D σ H ⟨I0, H0, I, r, g, w⟩ => w σ I H r g⟩
theorem ds_break : DS X (.Break pos) ρ (.bk ρ) := ⟨psSub ps_break fun D σ H ⟨I0, H0, I, r, g, w⟩ => w σ I H r g⟩
theorem ds_continue : DS X (.Continue pos) ρ (.ct ρ) := ⟨psSub ps_continue fun D σ H ⟨I0, H0, I, r, g, w⟩ => w σ I H r g⟩
theorem ds_ret (h : DE X e ρ d) : DS X (.Return (some e) pos) ρ (.rt d) := ⟨psSub (ps_ret h.pe) fun D σ H ⟨I0, H0, I, r, g, w⟩ => ⟨H0, I, r, fun v I' H' g' h' => w v I' H' (g.trans g') h'⟩⟩
theorem ds_retN : DS X (.Return none pos) ρ (.rt .non) := ⟨psSub ps_retN fun D σ H ⟨I0, H0, I, r, g, w⟩ => w _ I H g (rep_non.mpr rfl)⟩
theorem ds_if {c : Expr} {t : Bool} {sa sb : List Stmt} (hc : DB X c ρ t) (h1 : t = true → DSs X sa ρ o) (h2 : t = false → DSs X sb ρ o) : DS X (.If c sa sb pos) ρ o := by
  cases t with
  | true =>
    have hn : PSs X sb (fun _ _ _ => False) := ⟨fun _ _ _ _ _ _ z => z.elim⟩
    exact ⟨psSub (ps_if hc.pt (h1 rfl).ps hn) fun D σ H ⟨I0, H0, I, r, g, w⟩ => ⟨H0, I, r, fun I' H' g' => iteT ⟨I0, H0, I', r.grow g', g.trans g', w⟩⟩⟩
  | false =>
    have hn : PSs X sa (fun _ _ _ => False) := ⟨fun _ _ _ _ _ _ z => z.elim⟩
    exact ⟨psSub (ps_if hc.pt hn (h2 rfl).ps) fun D σ H ⟨I0, H0, I, r, g, w⟩ => ⟨H0, I, r, fun I' H' g' => iteF ⟨I0, H0, I', r.grow g', g.trans g', w⟩⟩⟩
/-- name = e: h is ps_set's own premises -/
theorem ds_asg {tg : Expr} {is : List Nat} (he : DE X e ρ d) (hg : DG X tg ρ d ρ1 is) (hs : swapsWithSole [tg] e pos.line X.env = pure false := by rfl) (hw : swappedStores [tg] e X.env = pure none := by rfl)
    (h1 : (assignEach [tg] X.env).map (·.2) = [assign tg X.env] := by rfl) : DS X (.Assign [tg] e pos) ρ (.nx ρ1) :=
  ⟨psSub (ps_asg he.pe hg.pg hs hw h1) fun D σ H ⟨I0, H0, I, r, g, w⟩ => ⟨H0, I, r, fun v I' H' g' h' => ⟨H0, I', r.grow g', h', fun σ' r' _ => w σ' I' H' r' (g.trans g')⟩⟩⟩
theorem ds_set {i : Nat} {n : Str} {pos' : Pos} (hN : X.N.Nodup) (hi : X.N[i]? = some n) (hx : Loc X.env.scope n) (he : DE X e ρ d) (hs : swapsWith e (some (.Name n pos')) pos.line X.env = pure false := by rfl)
    (hf : X.fn n = true ∨ X.env.scope.names.lookup n = some .local := by first | exact .inl rfl | exact .inr rfl | assumption) : DS X (.Assign [.Name n pos'] e pos) ρ (.nx (ρ.set i (.im d))) :=
  ⟨psSub (ps_set hN hi hx he.pe hs hf) fun D σ H ⟨I0, H0, I, r, g, w⟩ => ⟨H0, I, r, fun v I' H' g' h' => w _ I' H' ((r.grow g').set h') (g.trans g')⟩⟩
/-- a new list, kept as one's own -/
theorem ds_setN {i : Nat} {n : Str} {pos' : Pos} (hN : X.N.Nodup) (hi : X.N[i]? = some n) (hx : Loc X.env.scope n) (he : DN X e ρ ds) (hs : swapsWith e (some (.Name n pos')) pos.line X.env = pure false := by rfl)
    (hf : X.fn n = true ∨ X.env.scope.names.lookup n = some .local := by first | exact .inl rfl | exact .inr rfl | assumption) : DS X (.Assign [.Name n pos'] e pos) ρ (.nx (ρ.set i (.ow (.lst ds)))) :=
  ⟨psSub (ps_set hN hi hx he.pe hs hf) fun D σ H ⟨I0, H0, I, r, g, w⟩ => ⟨H0, I, r, fun p vs I' H' g' n1 n2 h1 h2 =>
    w _ I' H' ((r.grow g').setOw n1 (g.h.free n2) h1 ⟨vs, rfl, h2⟩ fun j o' _ e1 e2 => by
      obtain ⟨q, ho, f1, _, _, f4, _⟩ := r.ow e1
      rw [f1] at e2
      cases e2
      rw [n2] at f4
      cases f4) (g.trans g')⟩⟩
section
variable {α : Type} {xs : List α} {en : α → D} {c : α → Bool} {f : α → D} {ρx : α → Rho} {tg iter elt : Expr} {ifs : List Expr} {scope : Scope} {own : List (Str × Nat)} {i : Nat} {n : Str} {py lpos : Pos}
variable (hc : X.calm = true) (hN : X.N.Nodup) (hy : X.N[i]? = some n) (hyl : X.env.scope.names.lookup n = some .local) (hsw : swapsWith (.ListComp elt [⟨tg, iter, ifs, 0⟩] scope lpos) (some (.Name n py)) pos.line X.env = pure true)
  (hi : DIc X tg iter ρ (xs.map en)) (ok : BlkOk X.N X.env.scope scope own) (T : Turns X xs en c f ρ ρx tg elt ifs scope own) (hz : xs.length < sizeLine)
include hc hN hy hyl hsw hi ok T hz
/-- name = [..], the list one's own -/
theorem ds_setLc (hs : ∀ x, foldedSetIterable iter X.env x = pure x := by intro _; rfl) :
    DS X (.Assign [.Name n py] (.ListComp elt [⟨tg, iter, ifs, 0⟩] scope lpos) pos) ρ (.nx (ρ.set i (.ow (.lst ((xs.filter c).map f))))) := by
  refine ⟨psSub (ps_setLc hc hN hy hyl hsw hi.pi ok (g := lcG X xs en ρ ρx own) (tt := lcT X xs c ρx)
    (te := lcE X xs c f ρx)
    (fun s H C cl fp => ⟨fun pins s' σ H' v u Q I r ⟨x, hx, q⟩ => (T.g s H C cl fp x hx).pg.run pins s' σ H' v u Q I r q⟩)
    (fun s H C cl fp => ⟨fun pins s' σ H' Q I ⟨x, hx, q⟩ => (T.t s H C cl fp x hx).pt.run pins s' σ H' Q I q⟩)
    (fun s H C cl fp => ⟨fun pins s' σ H' Q I ⟨x, hx, ec, q⟩ => (T.e s H C cl fp x hx ec).pe.run pins s' σ H' Q I q⟩) hs) fun D σ H ⟨I0, H0, I, r, g, w⟩ => ?_⟩
  refine ⟨H0, I, r, fun J I1 H1 g1 it => lc_read (Q := fun x H1 => D.nx (σ.set i (some x)) H1) T hz r g1 it fun p vs I' H' g' n1 n2 h1 h2 => ?_⟩
  exact w _ I' H' ((r.grow g').setOw n1 (g.h.free n2) h1 ⟨vs, rfl, h2⟩ fun j o' _ e1 e2 => by
      obtain ⟨q, ho, f1, _, _, f4, _⟩ := r.ow e1
      rw [f1] at e2
      cases e2
      rw [n2] at f4
      cases f4) (g.trans g')
end
/-- x.append(e), x one's own -/
theorem ds_append {i : Nat} {o e : Expr} {apos cpos : Pos} (ho : PE X o (tVar i)) (hr : ρ[i]? = some (.ow (.lst ds))) (he : DE X e ρ d) (hz : ds.length < sizeLine)
    (hbase : attributeBase o "append" X.env (eval o X.env) = eval o X.env := by rfl)
    (hfew : ((backTo cpos (starEach (e :: []) X.env)).all (fun x => !x.1) && (backToKw cpos (keywordEach [] X.env)).all (fun x => x.1.isSome)
      && decide ((e :: []).length + ([] : List Keyword).length + (if ([] : List Keyword).isEmpty then 0 else 1) < 30)) = true := by rfl)
    (hline : (apos.endLine == cpos.line) = true := by rfl) (hs : starEach (e :: []) X.env = (false, eval e X.env) :: starEach [] X.env := by rfl) (hplain : (backTo cpos (starEach [] X.env)).any (·.1) = false := by rfl)
    (hsw : swapsWith (.Call (.Attribute o "append" apos) [e] [] cpos) none pos.line X.env = pure false := by rfl) :
    DS X (.Expr (.Call (.Attribute o "append" apos) [e] [] cpos) pos) ρ (.nx (ρ.set i (.ow (.lst (ds ++ [d]))))) :=
  ⟨psSub (ps_expr (pe_bm PySem.F.plainAttrs_list PySem.F.slot_list_append PySem.F.type_list_append mt_append ho (pa_cons he.pe pa_nil hs) hbase hfew hline hs hplain) hsw) fun D σ H ⟨I0, H0, I, r, g, w⟩ => by
    obtain ⟨p, ho, e1, n1, n0, h1, vs, rfl, rep⟩ := r.ow hr
    refine ⟨.ref p, e1, .inl ⟨rfl, _, .inl (.inl h1)⟩, H0, I, r, fun v I' H' g' h' => ⟨p, vs, v, rfl, rfl, g'.h _ _ h1, by rw [rep.len]; exact hz, ?_⟩⟩
    have r' := r.grow g'
    obtain ⟨q, ho', f1, f2, f3, f4, f5⟩ := r'.ow hr
    rw [e1] at f1
    cases f1
    refine w σ I' _ (r'.write hr e1 ⟨_, rfl, (rep.mono g'.i).snoc h'⟩) ⟨(g.trans g').i, same_mut (g.trans g').h n0, same_mut g'.s f2, (g.trans g').n⟩⟩
/-- x[k] = e, x one's own -/
theorem ds_setIx {i : Nat} {ox ix : Expr} {k : Int} {j : Nat} {p1 : Pos} (ho : PE X ox (tVar i)) (hr : ρ[i]? = some (.ow (.lst ds))) (he : DE X e ρ d) (hk : DE X ix ρ (.int k)) (hj : ixN ds.length k = some j)
    (ha : ∀ v, assign (.Subscript ox ix p1) X.env v = (do
      let ov ← holding [v] (eval ox X.env)
      let iv ← holding [v, ov] (eval ix X.env)
      standAt p1
      holding [v, ov, iv] (setItem ov iv v)
      release [v, ov, iv] []) := by intro _; rfl) (hs : swapsWithSole [.Subscript ox ix p1] e pos.line X.env = pure false := by rfl) (hw : swappedStores [.Subscript ox ix p1] e X.env = pure none := by rfl)
    (h1 : (assignEach [.Subscript ox ix p1] X.env).map (·.2) = [assign (.Subscript ox ix p1) X.env] := by rfl) :
    DS X (.Assign [.Subscript ox ix p1] e pos) ρ (.nx (ρ.set i (.ow (.lst (ds.set j d))))) :=
  ⟨psSub (ps_asg he.pe (pg_sub ho hk.pe set_list ha) hs hw h1) fun D σ H ⟨I0, H0, I, r, g, w⟩ => ⟨H0, I, r, fun v I1 H1 g1 q1 => by
    obtain ⟨p, ho, e1, n1, n0, h1, vs, rfl, rep⟩ := (r.grow g1).ow hr
    refine ⟨.ref p, e1, H0, I1, r.grow g1, fun u I2 H2 g2 q2 => ⟨p, vs, k, j, rfl, rep_int.mp q2, g2.h _ _ h1, by rw [rep.len]; exact hj, ?_⟩⟩
    have r' := (r.grow g1).grow g2
    obtain ⟨q, ho', f1, f2, f3, f4, f5⟩ := r'.ow hr
    rw [e1] at f1
    cases f1
    have g' := (g.trans g1).trans g2
    exact w σ I2 _ (r'.write hr e1 ⟨_, rfl, (rep.mono g2.i).set j (q1.mono g2.i)⟩) ⟨g'.i, same_mut g'.h n0, same_mut g'.s f2, g'.n⟩⟩⟩
/-- x += e, ints -/
theorem ds_aug {i : Nat} {n : Str} {op : Operator} {fi : Int → Int → Int} {u v : Int} {pos' : Pos} (hN : X.N.Nodup) (hi : X.N[i]? = some n) (hx : Loc X.env.scope n) (hr : ρ[i]? = some (.im (.int u))) (he : DE X e ρ (.int v)) (ho : PIp X op (ipI fi))
    (hf : X.fn n = true ∨ X.env.scope.names.lookup n = some .local := by first | exact .inl rfl | exact .inr rfl | assumption) : DS X (.AugAssign (.Name n pos') op e pos) ρ (.nx (ρ.set i (.im (.int (fi u v))))) :=
  ⟨psSub (ps_aug hN hi hx he.pe ho hf) fun D σ H ⟨I0, H0, I, r, g, w⟩ => by
    obtain ⟨x, e1, h1⟩ := r.im hr
    refine ⟨x, e1, H0, I, r, fun y I1 H1 g1 q1 => ⟨u, v, rep_int.mp h1, rep_int.mp q1, ?_⟩⟩
    exact w _ I1 H1 ((r.grow g1).set (rep_int.mpr rfl)) (g.trans g1)⟩
end
end DL
namespace DL
open PySem PySem.Spec PyProof.Rows L2

/-! ### for -/
/-- how a turn of a loop ends, towards the state of the next turn -/
inductive Step : Out → Rho → Prop where
  | nx {ρ ρ' : Rho} : Weak ρ ρ' → Step (.nx ρ) ρ'
  | ct {ρ ρ' : Rho} : Weak ρ ρ' → Step (.ct ρ) ρ'
theorem Step.nx' {ρ : Rho} : Step (.nx ρ) ρ := .nx (.refl _)
theorem Step.ct' {ρ : Rho} : Step (.ct ρ) ρ := .ct (.refl _)
/-- how a loop ends in its last turn -/
inductive Last : Out → Out → Prop where
  | rt {d : D} : Last (.rt d) (.rt d)
  | bk {ρ : Rho} : Last (.bk ρ) (.nx ρ)
section
variable {X : Cx} {α : Type} {xs : List α} {en : α → D} {tg iter : Expr} {body : List Stmt} {ρ : Rho} {pos : Pos} {o : Out}
/-- n whole turns, then the end or a last turn that leaves -/
theorem ds_forN (hp : PassesOwn (model X.prog X.w) X.A X.env X.xe) (hc : X.calm = true) (hi : DI X tg iter ρ (xs.map en)) (n : Nat) (hn : n ≤ xs.length) (ρs : Nat → Rho) (ρx : Nat → Rho) (os : Nat → Out) (is : Nat → List Nat) (h0 : Weak ρ (ρs 0))
    (hg : ∀ i x, xs[i]? = some x → i ≤ n → DG X tg (ρs i) (en x) (ρx i) (is i)) (hb : ∀ i x, xs[i]? = some x → i ≤ n → DSs X body (ρx i) (os i)) (hstep : ∀ i, i < n → Step (os i) (ρs (i + 1)))
    (hlast : (n = xs.length ∧ o = .nx (ρs n)) ∨ (n < xs.length ∧ Last (os n) o)) (hs : ∀ x, foldedSetIterable iter X.env x = pure x := by intro _; rfl) : DS X (.For tg iter body [] pos) ρ o := by
  refine ⟨psSub (ps_for (g := fun v σ H Q => ∃ i x, xs[i]? = some x ∧ i ≤ n ∧ tG1 X.K (ρs i) (en x) (ρx i) (is i) v σ H Q) (tb := fun E σ H => ∃ i x, xs[i]? = some x ∧ i ≤ n ∧ tS1 X.K (ρx i) (os i) E σ H) hp hc hi.pi
    ⟨fun pins s σ H v u Q I r ⟨i, x, hx, hin, q⟩ => (hg i x hx hin).pg.run pins s σ H v u Q I r q⟩ ⟨fun pins s σ H E I ⟨i, x, hx, hin, q⟩ => (hb i x hx hin).ps.run pins s σ H E I q⟩ hs) fun E σ H ⟨I0, H0, I, r, g, w⟩ => ⟨H0, I, r, fun J I1 H1 g1 ⟨G, Y, wk, hG, hy⟩ => ?_⟩⟩
  rw [List.length_map] at wk
  have gb : Grow I0 H0 I1 H1 := g.trans g1
  refine ⟨fun i m σ' H' => m = xs.length - i ∧ i ≤ n ∧ ∃ I', RS X.K H0 I' H' σ' (ρs i) ∧ Grow I1 H0 I' H', ⟨_, rfl, Nat.zero_le _, I1, (r.grow g1).weak h0, gb.self⟩, ?_⟩
  rintro i m σ' H' ⟨rfl, hin, I', r', g'⟩
  have sH : Same I1 H' := g'.i.trans g'.s
  have turn : ∀ {N : L2.St → Hp → Prop} {x : α} {v : V} {H2 : Hp}, xs[i]? = some x → Y i H' v H2 →
      (∀ I3, Grow I' H' I3 H2 → RS X.K H0 I3 H2 σ' (ρs i) → ∀ σ2, RS X.K H0 I3 H2 σ2 (ρx i) → tS1 X.K (ρx i) (os i) { E with nx := N, ct := N, bk := E.nx } σ2 H2) →
      ∃ i' x', xs[i']? = some x' ∧ i' ≤ n ∧ tG1 X.K (ρs i') (en x') (ρx i') (is i') v σ' H2 fun σ2 H2 => ∃ i x, xs[i]? = some x ∧ i ≤ n ∧ tS1 X.K (ρx i) (os i) { E with nx := N, ct := N, bk := E.nx } σ2 H2 := by
    intro N x v H2 hx y kk
    have hlt : i < xs.length := (List.getElem?_eq_some_iff.mp hx).1
    obtain ⟨I3, d, e1, g3, rd⟩ := hy i H' v H2 I' (by rw [List.length_map]; exact hlt) g'.i r'.s y
    rw [List.getElem?_map, hx] at e1
    cases e1
    exact ⟨i, x, hx, hin, H0, I3, r'.grow g3, rd, fun σ2 r2 _ => ⟨i, x, hx, hin, kk I3 g3 (r'.grow g3) σ2 r2⟩⟩
  by_cases hi2 : i < n
  · have hlt : i < xs.length := by omega
    have hx : xs[i]? = some xs[i] := List.getElem?_eq_getElem hlt
    refine .inr ⟨wk.goes i H' hlt (hG H' sH), fun σ'' H'' => ∃ I'', RS X.K H0 I'' H'' σ'' (ρs (i + 1)) ∧ Grow I1 H0 I'' H'', fun σ'' H'' q => ⟨xs.length - (i + 1), by omega, rfl, by omega, q⟩, fun v H2 y => turn hx (wk.yields i H' v H2 hlt (hG H' sH) y) fun I3 g3 _ σ2 r2 => ⟨I3, H0, I3, r2, (g'.rebase ((g'.self).trans g3)).self, ?_⟩⟩
    have gg : Grow I1 H0 I3 H2 := g'.trans g3
    have hst := hstep i hi2
    revert hst
    generalize os i = oi
    intro hst
    cases hst with
    | nx wk => exact fun σ4 I4 H4 r4 g4 => ⟨I4, r4.weak wk, gg.rebase g4⟩
    | ct wk => exact fun σ4 I4 H4 r4 g4 => ⟨I4, r4.weak wk, gg.rebase g4⟩
  · have hie : i = n := by omega
    subst hie
    rcases hlast with ⟨e1, e2⟩ | ⟨hlt, hl⟩
    · subst e2
      refine .inl ⟨?_, w σ' I' H' r' (gb.rebase g')⟩
      rw [e1]
      exact wk.stops H' (hG H' sH)
    · have hx : xs[i]? = some xs[i] := List.getElem?_eq_getElem hlt
      refine .inr ⟨wk.goes i H' hlt (hG H' sH), fun _ _ => False, fun _ _ z => z.elim, fun v H2 y => turn hx (wk.yields i H' v H2 hlt (hG H' sH) y) fun I3 g3 _ σ2 r2 => ⟨I0, H0, I3, r2, gb.rebase (g'.trans g3), ?_⟩⟩
      revert hl
      generalize os i = oi
      intro hl
      cases hl with
      | rt => exact w
      | bk => exact w
/-- all turns -/
theorem ds_for (hp : PassesOwn (model X.prog X.w) X.A X.env X.xe) (hc : X.calm = true) (hi : DI X tg iter ρ (xs.map en)) (ρs : Nat → Rho) (ρx : Nat → Rho) (os : Nat → Out) (is : Nat → List Nat) (h0 : Weak ρ (ρs 0))
    (hg : ∀ i x, xs[i]? = some x → DG X tg (ρs i) (en x) (ρx i) (is i)) (hb : ∀ i x, xs[i]? = some x → DSs X body (ρx i) (os i)) (hstep : ∀ i, i < xs.length → Step (os i) (ρs (i + 1)))
    (hs : ∀ x, foldedSetIterable iter X.env x = pure x := by intro _; rfl) : DS X (.For tg iter body [] pos) ρ (.nx (ρs xs.length)) :=
  ds_forN hp hc hi xs.length (Nat.le_refl _) ρs ρx os is h0 (fun i x h _ => hg i x h) (fun i x h _ => hb i x h) hstep (.inl ⟨rfl, rfl⟩) hs
/-! ### while -/
theorem ds_whileN {c : Expr} (hp : PassesOwn (model X.prog X.w) X.A X.env X.xe) (n : Nat) (ρs : Nat → Rho) (os : Nat → Out) (ts : Nat → Bool) (h0 : Weak ρ (ρs 0)) (hc : ∀ i, i ≤ n → DB X c (ρs i) (ts i)) (ht : ∀ i, i < n → ts i = true)
    (hb : ∀ i, i ≤ n → ts i = true → DSs X body (ρs i) (os i)) (hstep : ∀ i, i < n → Step (os i) (ρs (i + 1))) (hlast : (ts n = false ∧ o = .nx (ρs n)) ∨ (ts n = true ∧ Last (os n) o)) : DS X (.While c body [] pos) ρ o := by
  refine ⟨psSub (ps_while (tc := fun σ H Q => ∃ i, i ≤ n ∧ tB1 X.K (ρs i) (ts i) σ H Q) (tb := fun E σ H => ∃ i, ∃ (_ : i ≤ n) (_ : ts i = true), tS1 X.K (ρs i) (os i) E σ H) hp
    ⟨fun pins s σ H Q I ⟨i, hin, q⟩ => (hc i hin).pt.run pins s σ H Q I q⟩ ⟨fun pins s σ H E I ⟨i, hin, e, q⟩ => (hb i hin e).ps.run pins s σ H E I q⟩) fun E σ H ⟨I0, H0, I, r, g, w⟩ => ?_⟩
  refine ⟨fun m σ' H' => ∃ i, m = n - i ∧ i ≤ n ∧ ∃ I', RS X.K H0 I' H' σ' (ρs i) ∧ Grow I0 H0 I' H', ⟨_, 0, rfl, Nat.zero_le _, I, r.weak h0, g⟩, ?_⟩
  rintro m σ' H' ⟨i, rfl, hin, I', r', g'⟩
  refine ⟨i, hin, H0, I', r', fun I2 H2 g2 => ?_⟩
  have r2 := r'.grow g2
  have gg := g'.trans g2
  by_cases hi2 : i < n
  · rw [ht i hi2]
    refine iteT ⟨fun σ'' H'' => ∃ I'', RS X.K H0 I'' H'' σ'' (ρs (i + 1)) ∧ Grow I0 H0 I'' H'', fun σ'' H'' q => ⟨n - (i + 1), by omega, i + 1, rfl, by omega, q⟩, i, hin, ht i hi2, I0, H0, I2, r2, gg, ?_⟩
    have hst := hstep i hi2
    revert hst
    generalize os i = oi
    intro hst
    cases hst with
    | nx wk => exact fun σ4 I4 H4 r4 g4 => ⟨I4, r4.weak wk, g4⟩
    | ct wk => exact fun σ4 I4 H4 r4 g4 => ⟨I4, r4.weak wk, g4⟩
  · have hie : i = n := by omega
    subst hie
    rcases hlast with ⟨e1, e2⟩ | ⟨e1, hl⟩
    · subst e2
      rw [e1]
      exact iteF (w σ' I2 H2 r2 gg)
    · rw [e1]
      refine iteT ⟨fun _ _ => False, fun _ _ z => z.elim, i, hin, e1, I0, H0, I2, r2, gg, ?_⟩
      revert hl
      generalize os i = oi
      intro hl
      cases hl with
      | rt => exact w
      | bk => exact w
end

/-! ### defs -/
def ims (ds : List D) (n : Nat) : Rho := ds.map .im ++ List.replicate (n - ds.length) .un
theorem reps_len {K : PySem.W.Frag} {F : Addr → Prop} {I : Hp} {ds : List D} {vs : List V} (h : Reps K F I ds vs) : vs.length = ds.length := h.len
theorem rs_start {K : PySem.W.Frag} {I H : Hp} {ds : List D} {vs : List V} {N : List Str} (s : Same I H) (h : Reps K (Fr H) I ds vs) (hl : ds.length ≤ N.length) : RS K H I H (L2.start N vs) (ims ds N.length) := by
  have e : vs.length = ds.length := h.len
  refine ⟨s, .refl _, ?_, fun i s es => ?_, fun i j p oi oj e1 => ?_⟩
  · unfold L2.start ims
    rw [List.length_append, List.length_append, List.length_map, List.length_map, List.length_replicate, List.length_replicate, e]
  · unfold ims at es
    by_cases hi : i < ds.length
    · rw [List.getElem?_append_left (by rw [List.length_map]; exact hi), List.getElem?_map] at es
      rw [List.getElem?_eq_getElem hi] at es
      cases es
      obtain ⟨v, e1, h1⟩ := h.get (List.getElem?_eq_getElem hi)
      refine ⟨v, ?_, h1⟩
      unfold L2.start
      rw [List.getElem?_append_left (by rw [List.length_map, e]; exact hi), List.getElem?_map, e1]
      rfl
    · rw [List.getElem?_append_right (by rw [List.length_map]; omega)] at es
      have e2 := List.eq_of_mem_replicate (List.mem_of_getElem? es)
      subst e2
      trivial
  · exfalso
    unfold ims at e1
    by_cases hi : i < ds.length
    · rw [List.getElem?_append_left (by rw [List.length_map]; exact hi), List.getElem?_map, List.getElem?_eq_getElem hi] at e1
      cases e1
    · rw [List.getElem?_append_right (by rw [List.length_map]; omega)] at e1
      have e2 := List.eq_of_mem_replicate (List.mem_of_getElem? e1)
      cases e2
/-- how a def's body ends: what it hands back -/
inductive Gives : Out → D → Prop where
  | rt {d : D} : Gives (.rt d) d
  | nx {ρ : Rho} : Gives (.nx ρ) .non
section
variable {P : Program} {w : World} {K : PySem.W.Frag} {mg : Str → Option Value} {base : Heap}
/-- the rule for a def without exceptions -/
theorem fn_ok {x qual : Str} {st : Stmt} {f : Addr} {fd : FuncData} {N ps : List Str} {k : Nat} {R : List D → D → Prop} (F : Fun K x qual st f fd) (S : FnScope N ps (defScope st)) (hlen : ∀ ds r, R ds r → ds.length = ps.length) (hN : ps.length ≤ N.length)
    (hbody : ∀ (cdv : Value) (A : Around) (outer : List Env) (s : Shared) (H : Hp) (E : XK), Room k (A.deeper (envOfC qual (defScope st) s.heap.objs.size f cdv)) → ∀ ds r, R ds r →
      ∃ o, Gives o r ∧ DSs (cxOf CX0 P w K mg base N qual (defScope st) f cdv A outer s H E).nox (defBody st) (ims ds N.length) o) : FnOk P w K mg base CX0 (k + 1) f fd ps (spD K R) := by
  refine F.ok S (fun vs H Q E ⟨I, ds, r, s, _, h, hR, _⟩ => ?_) (fun cdv A outer s H vs Q E hr ⟨I, ds, r, s1, _, h, hR, q⟩ => ?_)
  · rw [h.len]
    exact hlen ds r hR
  · obtain ⟨o, hg, hb⟩ := hbody cdv A outer s H E hr ds r hR
    refine ⟨_, hb.ps, I, H, I, rs_start s1 h (by rw [hlen ds r hR]; exact hN), .refl s1, ?_⟩
    cases hg with
    | rt => exact fun v I' H' g h' => q v I' H' g h'
    | nx => exact fun σ I' H' r' g => q .non I' H' g (rep_non.mpr rfl)
end
end DL
namespace DL
open PySem PySem.Spec PyProof.Rows L2

/-! ### == of data -/
mutual
def pyD : D → PyData
  | .non => .none | .bl b => .bool b | .int i => .int i | .str x => .str x
  | .lst ds => .list (pyDs ds) | .tup ds => .tuple (pyDs ds) | .scr _ => .none | .fl ds => .list (pyDs ds)
def pyDs : List D → List PyData
  | [] => []
  | d :: ds => pyD d :: pyDs ds
end
mutual
/-- what may be compared: no script, nested at most n deep -/
def okD : Nat → D → Bool
  | _, .non => true | _, .bl _ => true | _, .int _ => true | _, .str x => PyData.strOk x
  | 0, .lst _ => false | 0, .tup _ => false
  | n + 1, .lst ds => okDs n ds | n + 1, .tup ds => okDs n ds | _, .scr _ => false
  | 0, .fl _ => false | n + 1, .fl ds => okDs n ds
def okDs : Nat → List D → Bool
  | _, [] => true
  | n, d :: ds => okD n d && okDs n ds
end
mutual
theorem okD.lay : ∀ {n : Nat} {d : D}, okD n d = true → (pyD d).canLay0 = true ∧ (pyD d).depth ≤ n
  | n, .non, _ => by unfold pyD; exact ⟨rfl, by simp [PyData.depth]⟩
  | n, .bl _, _ => by unfold pyD; exact ⟨rfl, by simp [PyData.depth]⟩
  | n, .int _, _ => by unfold pyD; exact ⟨rfl, by simp [PyData.depth]⟩
  | n, .str x, h => by
    unfold pyD
    unfold okD at h
    exact ⟨by rw [PyData.canLay0]; exact h, by simp [PyData.depth]⟩
  | 0, .lst _, h => by simp [okD] at h
  | 0, .tup _, h => by simp [okD] at h
  | n + 1, .lst ds, h => by
    unfold okD at h
    unfold pyD
    have := okDs.lay h
    exact ⟨by rw [PyData.canLay0]; exact this.1, by rw [PyData.depth]; omega⟩
  | n + 1, .tup ds, h => by
    unfold okD at h
    unfold pyD
    have := okDs.lay h
    exact ⟨by rw [PyData.canLay0]; exact this.1, by rw [PyData.depth]; omega⟩
  | 0, .fl _, h => by simp [okD] at h
  | n + 1, .fl ds, h => by
    unfold okD at h
    unfold pyD
    have := okDs.lay h
    exact ⟨by rw [PyData.canLay0]; exact this.1, by rw [PyData.depth]; omega⟩
  | 0, .scr _, h => by simp [okD] at h
  | _ + 1, .scr _, h => by simp [okD] at h
theorem okDs.lay : ∀ {n : Nat} {ds : List D}, okDs n ds = true → PyData.canLayAll0 (pyDs ds) = true ∧ PyData.depthAll (pyDs ds) ≤ n
  | n, [], _ => by unfold pyDs; exact ⟨rfl, by simp [PyData.depthAll]⟩
  | n, d :: ds, h => by
    unfold okDs at h
    rw [Bool.and_eq_true] at h
    unfold pyDs
    have h1 := okD.lay h.1
    have h2 := okDs.lay h.2
    exact ⟨by rw [PyData.canLayAll0, h1.1, h2.1]; rfl, by rw [PyData.depthAll]; omega⟩
end
theorem okD.shaped {n : Nat} {d : D} (h : okD n d = true) (hn : n ≤ 64) : SeqAt.shaped (pyD d) = true := by
  have := okD.lay h
  unfold SeqAt.shaped
  rw [this.1, Bool.true_and]
  exact decide_eq_true (by omega)
mutual
theorem okD.dp {K : PySem.W.Frag} {F : Addr → Prop} {I H : Hp} (s : Same I H) : ∀ {n : Nat} {d : D} {v : V}, okD n d = true → Rep K F I d v → Dp K H v (pyD d)
  | _, .non, _, _, r => by rw [rep_non.mp r]; unfold pyD; exact .non
  | _, .bl b, _, _, r => by rw [rep_bl.mp r]; unfold pyD; exact .bl b
  | _, .int b, _, _, r => by rw [rep_int.mp r]; unfold pyD; exact .int b
  | _, .str b, _, _, r => by rw [rep_str.mp r]; unfold pyD; exact .str b
  | 0, .lst _, _, h, _ => by simp [okD] at h
  | 0, .tup _, _, h, _ => by simp [okD] at h
  | n + 1, .lst ds, _, h, r => by
    unfold okD at h
    obtain ⟨a, vs, rfl, h1, h2⟩ := rep_lst.mp r
    unfold pyD
    exact .lst (.inl (.inl (s _ _ h1))) (okDs.dp s h h2)
  | n + 1, .tup ds, _, h, r => by
    unfold okD at h
    obtain ⟨a, vs, rfl, h1, h2⟩ := rep_tup.mp r
    unfold pyD
    exact .tup (.inl (.inl (s _ _ h1))) (okDs.dp s h h2)
  | 0, .fl _, _, h, _ => by simp [okD] at h
  | n + 1, .fl ds, _, h, r => by
    unfold okD at h
    obtain ⟨a, vs, rfl, _, h1, h2⟩ := rep_fl.mp r
    unfold pyD
    exact .lst (.inl (.inl (s _ _ h1))) (okDs.dp s h h2)
  | 0, .scr _, _, h, _ => by simp [okD] at h
  | _ + 1, .scr _, _, h, _ => by simp [okD] at h
theorem okDs.dp {K : PySem.W.Frag} {F : Addr → Prop} {I H : Hp} (s : Same I H) : ∀ {n : Nat} {ds : List D} {vs : List V}, okDs n ds = true → Reps K F I ds vs → DpAll K H vs (pyDs ds)
  | _, [], _, _, r => by rw [reps_nil.mp r]; unfold pyDs; exact .nil
  | n, d :: ds, _, h, r => by
    unfold okDs at h
    rw [Bool.and_eq_true] at h
    obtain ⟨v, w, rfl, h1, h2⟩ := reps_cons.mp r
    unfold pyDs
    exact .cons (okD.dp s h.1 h1) (okDs.dp s h.2 h2)
end
def eqD (d e : D) : Bool := PyData.eqv (pyD d) (pyD e)
theorem rd_eqD {K : PySem.W.Frag} {n m : Nat} {x y : D} (hx : okD n x = true) (hy : okD m y = true) (hn : n ≤ 64) (hm : m ≤ 64) : RD K (rEqD K) x y (.bl (eqD x y)) := fun F I H v u Q s h1 h2 k =>
  ⟨pyD x, pyD y, okD.dp s hx h1, okD.dp s hy h2, okD.shaped hx hn, okD.shaped hy hm, k _ I H (.refl s) (rep_bl.mpr rfl)⟩
theorem rd_neD {K : PySem.W.Frag} {n m : Nat} {x y : D} (hx : okD n x = true) (hy : okD m y = true) (hn : n ≤ 64) (hm : m ≤ 64) : RD K (rNeD K) x y (.bl (!eqD x y)) := fun F I H v u Q s h1 h2 k =>
  ⟨pyD x, pyD y, okD.dp s hx h1, okD.dp s hy h2, okD.shaped hx hn, okD.shaped hy hm, k _ I H (.refl s) (rep_bl.mpr rfl)⟩
def IL (xs : List Int) : D := .lst (xs.map .int)
def IT (xs : List Int) : D := .tup (xs.map .int)
def LL {α : Type} (en : α → D) (xs : List α) : D := .lst (xs.map en)
/-- new ones -/
def FL (xs : List Int) : D := .fl (xs.map .int)
def LF {α : Type} (en : α → D) (xs : List α) : D := .fl (xs.map en)
def TL {α : Type} (en : α → D) (xs : List α) : D := .tup (xs.map en)
/-- numbers, their lists, lists of these .. -/
class Plain {α : Type} (en : α → D) (n : outParam Nat) : Prop where
  ok : ∀ x, okD n (en x) = true
  eq : ∀ x y, eqD (en x) (en y) = true ↔ x = y
theorem okDs_map {α : Type} {en : α → D} {n : Nat} (h : ∀ x, okD n (en x) = true) : ∀ xs : List α, okDs n (xs.map en) = true
  | [] => by simp [okDs]
  | x :: xs => by rw [List.map_cons]; unfold okDs; rw [h x, okDs_map h xs]; rfl
theorem eqvAll_map {α : Type} {en : α → D} (h : ∀ x y, eqD (en x) (en y) = true ↔ x = y) : ∀ xs ys : List α, PyData.eqvAll (pyDs (xs.map en)) (pyDs (ys.map en)) = true ↔ xs = ys
  | [], [] => by simp [pyDs, PyData.eqvAll]
  | [], _ :: _ => by simp [pyDs, PyData.eqvAll]
  | _ :: _, [] => by simp [pyDs, PyData.eqvAll]
  | x :: xs, y :: ys => by
    rw [List.map_cons, List.map_cons]
    unfold pyDs
    rw [PyData.eqvAll, Bool.and_eq_true, eqvAll_map h xs ys, List.cons.injEq]
    have := h x y
    unfold eqD at this
    rw [this]
instance plainInt : Plain D.int 0 := ⟨fun x => by simp [okD], fun x y => by simp [eqD, pyD, PyData.eqv]⟩
instance plainBl : Plain D.bl 0 := ⟨fun x => by simp [okD], fun x y => by simp [eqD, pyD, PyData.eqv]⟩
instance plainLL {α : Type} {en : α → D} {n : Nat} [p : Plain en n] : Plain (LL en) (n + 1) :=
  ⟨fun x => by unfold LL okD; exact okDs_map p.ok x, fun x y => by
    unfold eqD LL pyD
    rw [PyData.eqv]
    exact eqvAll_map p.eq x y⟩
instance plainTL {α : Type} {en : α → D} {n : Nat} [p : Plain en n] : Plain (TL en) (n + 1) :=
  ⟨fun x => by unfold TL okD; exact okDs_map p.ok x, fun x y => by
    unfold eqD TL pyD
    rw [PyData.eqv]
    exact eqvAll_map p.eq x y⟩
instance plainLF {α : Type} {en : α → D} {n : Nat} [p : Plain en n] : Plain (LF en) (n + 1) :=
  ⟨fun x => by unfold LF okD; exact okDs_map p.ok x, fun x y => by
    unfold eqD LF pyD
    rw [PyData.eqv]
    exact eqvAll_map p.eq x y⟩
instance plainFL : Plain FL 1 := (plainLF : Plain (LF D.int) 1)
/-- nothing is said to be new -/
class NoF {α : Type} (en : α → D) : Prop where
  no : ∀ x, noF (en x) = true
instance nofInt : NoF D.int := ⟨fun _ => by unfold noF; rfl⟩
instance nofBl : NoF D.bl := ⟨fun _ => by unfold noF; rfl⟩
instance nofStr : NoF D.str := ⟨fun _ => by unfold noF; rfl⟩
instance nofLL {α : Type} {en : α → D} [p : NoF en] : NoF (LL en) := ⟨fun x => by unfold LL noF; exact noFs_map p.no x⟩
instance nofTL {α : Type} {en : α → D} [p : NoF en] : NoF (TL en) := ⟨fun x => by unfold TL noF; exact noFs_map p.no x⟩
instance nofIL : NoF IL := (nofLL : NoF (LL D.int))
instance nofIT : NoF IT := (nofTL : NoF (TL D.int))
instance plainIL : Plain IL 1 := (plainLL : Plain (LL D.int) 1)
instance plainIT : Plain IT 1 := (plainTL : Plain (TL D.int) 1)
theorem eqD_of {α : Type} [DecidableEq α] {en : α → D} {n : Nat} [p : Plain en n] (x y : α) : eqD (en x) (en y) = decide (x = y) := by
  rw [Bool.eq_iff_iff, p.eq, decide_eq_true_iff]
section
variable {X : Cx} {a b e : Expr} {ρ : Rho} {x y z d : D} {ds es : List D} {pos : Pos} {k : Nat}
section
variable {α : Type} [DecidableEq α] {en : α → D} {n : Nat} [p : Plain en n] {u v : α} (ha : DE X a ρ (en u)) (hb : DE X b ρ (en v)) (hr : Room k X.A) (hn : n ≤ 64 := by decide)
include p ha hb hr hn
theorem de_eqD : DE X (.Compare a [.Eq] [b] pos) ρ (.bl (decide (u = v))) := by
  have h := de_cmp (pos := pos) (op_eqD hr.units) ha hb (rd_eqD (p.ok u) (p.ok v) hn hn) (nomark _)
  rw [eqD_of] at h
  exact h
theorem de_neD : DE X (.Compare a [.NotEq] [b] pos) ρ (.bl (!decide (u = v))) := by
  have h := de_cmp (pos := pos) (op_neD hr.units) ha hb (rd_neD (p.ok u) (p.ok v) hn hn) (nomark _)
  rw [eqD_of] at h
  exact h
theorem db_eqD : DB X (.Compare a [.Eq] [b] pos) ρ (decide (u = v)) := by
  have h := PTsub1 (pos := pos) (op_eqD hr.units) ha hb (rd_eqD (p.ok u) (p.ok v) hn hn) (nomark _)
  rw [eqD_of] at h
  exact h
theorem db_neD : DB X (.Compare a [.NotEq] [b] pos) ρ (!decide (u = v)) := by
  have h := PTsub1 (pos := pos) (op_neD hr.units) ha hb (rd_neD (p.ok u) (p.ok v) hn hn) (nomark _)
  rw [eqD_of] at h
  exact h
end
/-! compared with [] -/
section
variable {α : Type} {en : α → D} {n : Nat} [p : Plain en n] {u : List α} {p2 : Pos} (ha : DE X a ρ (.lst (u.map en))) (hr : Room k X.A) (hn : n + 1 ≤ 64 := by decide)
include p ha hr hn
theorem de_eqNil : DE X (.Compare a [.Eq] [.List [] p2] pos) ρ (.bl u.isEmpty) := by
  have h := de_cmp (pos := pos) (op_eqD hr.units) ha (dn_nil (pos := p2)).de (rd_eqD (n := n + 1) (m := 1) (by unfold okD; exact okDs_map p.ok u) (by simp [okD, okDs]) hn (by decide)) (nomark _)
  have e : eqD (.lst (u.map en)) (.lst []) = u.isEmpty := by cases u <;> simp [eqD, pyD, pyDs, PyData.eqv, PyData.eqvAll]
  rw [e] at h
  exact h
theorem de_neNil : DE X (.Compare a [.NotEq] [.List [] p2] pos) ρ (.bl (!u.isEmpty)) := by
  have h := de_cmp (pos := pos) (op_neD hr.units) ha (dn_nil (pos := p2)).de (rd_neD (n := n + 1) (m := 1) (by unfold okD; exact okDs_map p.ok u) (by simp [okD, okDs]) hn (by decide)) (nomark _)
  have e : eqD (.lst (u.map en)) (.lst []) = u.isEmpty := by cases u <;> simp [eqD, pyD, pyDs, PyData.eqv, PyData.eqvAll]
  rw [e] at h
  exact h
theorem db_eqNil : DB X (.Compare a [.Eq] [.List [] p2] pos) ρ u.isEmpty := by
  have h := PTsub1 (pos := pos) (op_eqD hr.units) ha (dn_nil (pos := p2)).de (rd_eqD (n := n + 1) (m := 1) (by unfold okD; exact okDs_map p.ok u) (by simp [okD, okDs]) hn (by decide)) (nomark _)
  have e : eqD (.lst (u.map en)) (.lst []) = u.isEmpty := by cases u <;> simp [eqD, pyD, pyDs, PyData.eqv, PyData.eqvAll]
  rw [e] at h
  exact h
theorem db_neNil : DB X (.Compare a [.NotEq] [.List [] p2] pos) ρ (!u.isEmpty) := by
  have h := PTsub1 (pos := pos) (op_neD hr.units) ha (dn_nil (pos := p2)).de (rd_neD (n := n + 1) (m := 1) (by unfold okD; exact okDs_map p.ok u) (by simp [okD, okDs]) hn (by decide)) (nomark _)
  have e : eqD (.lst (u.map en)) (.lst []) = u.isEmpty := by cases u <;> simp [eqD, pyD, pyDs, PyData.eqv, PyData.eqvAll]
  rw [e] at h
  exact h
end
/-! ### isinstance of a built-in type -/
def tyD : D → String
  | .non => "NoneType" | .bl _ => "bool" | .int _ => "int" | .str _ => "str" | .lst _ => "list" | .tup _ => "tuple" | .scr _ => "list" | .fl _ => "list"
theorem tyX_of {K : PySem.W.Frag} {F : Addr → Prop} {I H : Hp} (s : Same I H) : ∀ {d : D} {v : V}, Rep K F I d v → TyX K H v (.type (tyD d))
  | .non, _, h => by rw [rep_non.mp h]; exact .base .non
  | .bl _, _, h => by rw [rep_bl.mp h]; exact .base (.bl _)
  | .int _, _, h => by rw [rep_int.mp h]; exact .base (.int _)
  | .str _, _, h => by rw [rep_str.mp h]; exact .base (.str _)
  | .lst _, _, h => by obtain ⟨a, vs, rfl, h1, _⟩ := rep_lst.mp h; exact .base (.lst (s _ _ h1))
  | .tup _, _, h => by obtain ⟨a, vs, rfl, h1, _⟩ := rep_tup.mp h; exact .base (.tup (s _ _ h1))
  | .fl _, _, h => by obtain ⟨a, vs, rfl, _, h1, _⟩ := rep_fl.mp h; exact .base (.lst (s _ _ h1))
  | .scr _, _, h => by
    obtain ⟨a, rfl, h1⟩ := rep_scr.mp h
    rcases h1 with (h1 | ⟨o, h1⟩) | ⟨o, its, n, h1, h2, _⟩
    · exact .base (.lst (s _ _ h1))
    · exact .base (.frz (s _ _ h1))
    · exact .kList h1 h2
theorem de_isi {n : Str} {t : String} {c : Bool} {p p2 : Pos} (hg : Gl X "isinstance") (hm : X.mg "isinstance" = none) (ha : DE X a ρ x) (hg2 : Gl X n) (hm2 : X.mg n = none) (hv : bootBuiltins n = some (.type t)) (hk : kitB (tyD x) t = some c)
    (hn2 : n ≠ "__name__" := by decide) (hd2 : (n == ("__debug__" : Str)) = false := by decide)
    (hs : starEach [a, .Name n p2] X.env = (false, eval a X.env) :: starEach [.Name n p2] X.env := by rfl) (hs2 : starEach [.Name n p2] X.env = (false, eval (.Name n p2) X.env) :: starEach [] X.env := by rfl) (hpl : (backTo pos (starEach [.Name n p2] X.env)).any (·.1) = false := by rfl) :
    DE X (.Call (.Name "isinstance" p) [a, .Name n p2] [] pos) ρ (.bl c) :=
  ⟨peSub (pe_callB call_isi hg hm (by decide +kernel) (pa_cons ha.pe (pa_cons (pe_bltn (v := .ty t) hg2 hm2 hv rfl hn2 hd2) pa_nil hs2) hs) (by decide) (by decide) hs hpl) fun σ H Q ⟨H0, I, r, k⟩ => ⟨H0, I, r, fun v I1 H1 g1 h1 =>
    ⟨v, .ty t, _, _, c, rfl, .ty t, tyX_of g1.s h1, kit_ty hk, k _ I1 H1 g1 (rep_bl.mpr rfl)⟩⟩⟩
/-! ### items by place, typed -/
def nth {α : Type} [Inhabited α] (xs : List α) (i : Int) : α := xs.getD i.toNat default
theorem atI_nth {α : Type} [Inhabited α] {f : α → D} {xs : List α} {i : Int} (h0 : 0 ≤ i) (h1 : i < xs.length) : atI (xs.map f) i = some (f (nth xs i)) := by
  have e : i = ((i.toNat : Nat) : Int) := by omega
  have h2 : i.toNat < xs.length := by omega
  rw [e]
  refine atI_nat ?_
  unfold nth
  rw [List.getElem?_map, List.getElem?_eq_getElem h2, List.getD_eq_getElem?_getD]
  simp only [Int.toNat_natCast]
  rw [List.getElem?_eq_getElem h2]
  rfl
theorem de_ixN {α : Type} [Inhabited α] {f : α → D} {xs : List α} {i : Int} (ha : DV X a ρ (xs.map f)) (hb : DE X b ρ (.int i)) (h0 : 0 ≤ i) (h1 : i < xs.length) (hs : PlainIx b := by exact fun _ _ => rfl) : DE X (.Subscript a b pos) ρ (f (nth xs i)) :=
  de_ixL ha hb (atI_nth h0 h1) hs
theorem de_ixNT {α : Type} [Inhabited α] {f : α → D} {xs : List α} {i : Int} (ha : DE X a ρ (.tup (xs.map f))) (hb : DE X b ρ (.int i)) (h0 : 0 ≤ i) (h1 : i < xs.length) (hs : PlainIx b := by exact fun _ _ => rfl) : DE X (.Subscript a b pos) ρ (f (nth xs i)) :=
  de_ixT ha hb (atI_nth h0 h1) hs
/-- the last item, xs[-1] -/
theorem atI_lastD {α : Type} [Inhabited α] {f : α → D} {xs : List α} (h : xs ≠ []) : atI (xs.map f) (-1) = some (f (xs.getLastD default)) := by
  have e : xs = xs.dropLast ++ [xs.getLast h] := (List.dropLast_concat_getLast h).symm
  have e2 : xs.getLastD default = xs.getLast h := by
    cases xs with
    | nil => exact absurd rfl h
    | cons x r => rw [List.getLastD_cons]; rw [List.getLast_eq_getLastD]
  rw [e2]
  conv => lhs; rw [e]
  rw [List.map_append, List.map_singleton]
  exact atI_last _ _
theorem de_ixLast {α : Type} [Inhabited α] {f : α → D} {xs : List α} {j : Int} (ha : DV X a ρ (xs.map f)) (hb : DE X b ρ (.int j)) (hj : j = -1) (h : xs ≠ []) (hs : PlainIx b := by exact fun _ _ => rfl) : DE X (.Subscript a b pos) ρ (f (xs.getLastD default)) := by
  subst hj
  exact de_ixL ha hb (atI_lastD h) hs
/-! ### the program's defs, by name -/
structure Has (P : Program) (w : World) (K : PySem.W.Frag) (mg : Str → Option Value) (base : Heap) (n : Str) (k : Nat) (ps : List Str) (R : List D → D → Prop) : Prop where
  ex : ∃ f fd, FnOk P w K mg base CX0 k f fd ps (spD K R) ∧ mg n = some (.ref f) ∧ PySem.W.keepIn K (.ref f) = true ∧ L2.Binds K fd ps [] ∧ ∀ ds r, R ds r → noFs ds = true
theorem de_callH {n : Str} {j : Nat} {ps : List Str} {R : List D → D → Prop} {es : List Expr} {p : Pos} {r : D} (ha : DA X (e :: es) ρ ds) (F : Has X.prog X.w X.K X.mg X.base n k ps R) (hR : R ds r) (hr : Room j X.A) (hk : k ≤ j) (hg : Gl X n)
    (hdb : (n == ("__debug__" : Str)) = false := by decide) (he : starEach (e :: es) X.env = (false, eval e X.env) :: starEach es X.env := by rfl) (hpl : (backTo pos (starEach es X.env)).any (·.1) = false := by rfl) :
    DE X (.Call (.Name n p) (e :: es) [] pos) ρ r := by
  obtain ⟨f, fd, h1, h2, h3, h4, h5⟩ := F.ex
  exact de_call h1 (hr.mono hk) hg h2 h3 h4 ha hR (h5 _ _ hR) hdb he hpl
/-! ### more built-ins -/
theorem de_max2 {i j : Int} {p : Pos} (hg : Gl X "max") (hm : X.mg "max" = none) (hc : X.calm = true) (ha : DE X a ρ (.int i)) (hb : DE X b ρ (.int j))
    (hs : starEach [a, b] X.env = (false, eval a X.env) :: starEach [b] X.env := by rfl) (hs2 : starEach [b] X.env = (false, eval b X.env) :: starEach [] X.env := by rfl) (hpl : (backTo pos (starEach [b] X.env)).any (·.1) = false := by rfl) :
    DE X (.Call (.Name "max" p) [a, b] [] pos) ρ (.int (max i j)) :=
  de_callB (call_max2 hc) hg hm (by decide +kernel) (da_cons ha (da_cons hb da_nil hs2) hs) (fun F I H vs Q s h k => by
    obtain ⟨v, r, rfl, h1, h2⟩ := reps_cons.mp h
    obtain ⟨v2, r2, rfl, h3, h4⟩ := reps_cons.mp h2
    rw [rep_int.mp h1, rep_int.mp h3, reps_nil.mp h4]
    refine ⟨i, j, rfl, k _ I H (.refl s) (rep_int.mpr ?_)⟩
    congr 1
    split <;> omega) (by decide) (by decide) hs hpl
theorem de_sum {ns : List Int} {p : Pos} {r : List V → Hp → VK → Prop} (hg : Gl X "sum") (hm : X.mg "sum" = none) (ha : DV X a ρ (ns.map .int)) (hc : CallR X (.builtin "sum") (rSum X.K))
    (hs : starEach [a] X.env = (false, eval a X.env) :: starEach [] X.env := by rfl) (hpl : (backTo pos (starEach [] X.env)).any (·.1) = false := by rfl) : DE X (.Call (.Name "sum" p) [a] [] pos) ρ (.int ns.sum) :=
  ⟨peSub (pe_callB hc hg hm (by decide +kernel) (pa_cons ha.pe pa_nil hs) (by decide) (by decide) hs hpl) fun σ H Q ⟨H0, I, r, k⟩ => ⟨H0, I, r, fun q vs I1 H1 g1 h1 h2 => ⟨q, ns, rfl, by rw [← Reps.ints h2]; exact h1, k _ I1 H1 g1 (rep_int.mpr rfl)⟩⟩⟩
end
end DL
namespace DL
open PySem PySem.Spec PyProof.Rows L2
section
variable {X : Cx} {a b e : Expr} {ρ : Rho} {x y z d : D} {ds es : List D} {pos : Pos} {k : Nat} {α β : Type} {en : α → D} {xs ys : List α}
theorem isP {P : Prop} (h : P) : P := h
theorem idE (h : DE X e ρ d) : DE X e ρ d := h
theorem idB {c : Bool} (h : DB X e ρ c) : DB X e ρ c := h
theorem idV (h : DV X e ρ ds) : DV X e ρ ds := h
theorem idVs (h : DVs X e ρ ds) : DVs X e ρ ds := h
theorem idN (h : DN X e ρ ds) : DN X e ρ ds := h
theorem idA {es : List Expr} (h : DA X es ρ ds) : DA X es ρ ds := h
theorem idW {c : Bool} (h : DW X e ρ c) : DW X e ρ c := h
theorem idO {e : Option Expr} {o : Option Int} (h : DO X e ρ o) : DO X e ρ o := h
/-! ### lists of one type -/
theorem dn_catT (ha : DVs X a ρ (xs.map en)) (hb : DVs X b ρ (ys.map en)) (hz : xs.length + ys.length ≤ sizeLine) : DN X (.BinOp a .Add b pos) ρ ((xs ++ ys).map en) := by
  rw [List.map_append]
  exact dn_cat ha hb (by rw [List.length_map, List.length_map]; exact hz)
theorem dn_repT {i : Int} (ha : DVs X a ρ (xs.map en)) (hb : DE X b ρ (.int i)) (h0 : 0 ≤ i) (h2 : i < 2 ^ 63) (hz : xs.length * i.toNat ≤ sizeLine) : DN X (.BinOp a .Mult b pos) ρ ((List.replicate i.toNat xs).flatten.map en) := by
  have h := dn_rep (pos := pos) ha hb (by omega) h2 (by rw [List.length_map]; exact hz)
  rw [← List.map_replicate, ← List.map_flatten] at h
  exact h
/-- [c] * n -/
theorem dn_rep1 {i : Int} {u : α} (ha : DVs X a ρ [en u]) (hb : DE X b ρ (.int i)) (h0 : 0 ≤ i) (h2 : i ≤ sizeLine) : DN X (.BinOp a .Mult b pos) ρ ((List.replicate i.toNat u).map en) := by
  have hs : sizeLine = 16777216 := sizeLine_eq
  have h := dn_repT (pos := pos) (xs := [u]) (en := en) ha hb h0 (by omega) (by simp; omega)
  have e : (List.replicate i.toNat [u]).flatten = List.replicate i.toNat u := by
    induction i.toNat with
    | zero => rfl
    | succ n ih => rw [List.replicate_succ, List.flatten_cons, ih, List.replicate_succ]; rfl
  rw [e] at h
  exact h
theorem cutD_to {i : Int} (h0 : 0 ≤ i) : cutD (xs.map en) none (some i) = (xs.take i.toNat).map en := by
  have e : i = ((i.toNat : Nat) : Int) := by omega
  unfold cutD
  rw [HT.sIx_none, e, HT.sIx_nat]
  simp only [List.length_map, List.drop_zero, Nat.sub_zero, Int.toNat_natCast, List.map_take]
  rw [List.take_eq_take_iff]
  simp
theorem cutD_from {i : Int} (h0 : 0 ≤ i) : cutD (xs.map en) (some i) none = (xs.drop i.toNat).map en := by
  have e : i = ((i.toNat : Nat) : Int) := by omega
  unfold cutD
  rw [HT.sIx_none, e, HT.sIx_nat]
  simp only [List.length_map, Int.toNat_natCast]
  rw [List.take_of_length_le (by simp), ← List.map_drop]
  by_cases h : i.toNat ≤ xs.length
  · rw [Nat.min_eq_left h]
  · rw [Nat.min_eq_right (by omega), List.drop_eq_nil_of_le (Nat.le_refl _), List.drop_eq_nil_of_le (by omega)]
theorem dn_to {i : Int} {p2 : Pos} (he : DV X e ρ (xs.map en)) (hb : DE X b ρ (.int i)) (h0 : 0 ≤ i) : DN X (.Subscript e (.Slice none (some b) none p2) pos) ρ ((xs.take i.toNat).map en) := by
  have h := dn_slice (pos := pos) (p2 := p2) he do_none (do_some hb)
  rw [cutD_to h0] at h
  exact h
theorem dn_from {i : Int} {p2 : Pos} (he : DV X e ρ (xs.map en)) (hb : DE X b ρ (.int i)) (h0 : 0 ≤ i) : DN X (.Subscript e (.Slice (some b) none none p2) pos) ρ ((xs.drop i.toNat).map en) := by
  have h := dn_slice (pos := pos) (p2 := p2) he (do_some hb) do_none
  rw [cutD_from h0] at h
  exact h
/-- displays -/
structure DAT (X : Cx) {α : Type} (en : α → D) (es : List Expr) (ρ : Rho) (xs : List α) : Prop where
  da : DA X es ρ (xs.map en)
theorem dat_nil : DAT X en [] ρ [] := ⟨da_nil⟩
theorem dat_cons {u : α} {es : List Expr} (h : DE X e ρ (en u)) (ht : DAT X en es ρ xs) (hs : starEach (e :: es) X.env = (false, eval e X.env) :: starEach es X.env := by rfl) : DAT X en (e :: es) ρ (u :: xs) := ⟨da_cons h ht.da hs⟩
theorem dn_lstT {es : List Expr} (h : DAT X en es ρ xs) (hz : xs.length ≤ sizeLine) : DN X (.List es pos) ρ (xs.map en) := dn_lst h.da (by rw [List.length_map]; exact hz)
theorem idAT {es : List Expr} (h : DAT X en es ρ xs) : DAT X en es ρ xs := h
/-! ### walks of one type -/
theorem rng_nat {n : Nat} : rngD 0 n = (List.range n).map fun i : Nat => D.int (i : Nat) := by
  unfold rngD
  congr 1
  funext i
  rw [Int.zero_add]
theorem di_rng1 {tg e : Expr} {j : Int} {p : Pos} (hg : Gl X "range") (hm : X.mg "range" = none) (h : DE X e ρ (.int j)) (h1 : -(2 ^ 62) ≤ j) (h2 : j < 2 ^ 62) (hs : starEach [e] X.env = [(false, eval e X.env)] := by rfl)
    (hs1 : starEach [e] X.env = (false, eval e X.env) :: starEach [] X.env := by rfl) : DI X tg (.Call (.Name "range" p) [e] [] pos) ρ ((List.range j.toNat).map fun i : Nat => D.int (i : Nat)) := by
  have q := di_range1 (pos := pos) (p := p) (tg := tg) hg hm h h1 h2 hs hs1
  rw [rng_nat] at q
  exact q
theorem di_rng2 {tg e e2 : Expr} {i j : Int} {p : Pos} (hg : Gl X "range") (hm : X.mg "range" = none) (ha : DE X e ρ (.int i)) (hb : DE X e2 ρ (.int j)) (hh : -(2 ^ 62) ≤ i ∧ i < 2 ^ 62 ∧ -(2 ^ 62) ≤ j ∧ j < 2 ^ 62)
    (hs : starEach [e, e2] X.env = [(false, eval e X.env), (false, eval e2 X.env)] := by rfl) (hs2 : starEach [e2] X.env = [(false, eval e2 X.env)] := by rfl)
    (hs3 : starEach [e, e2] X.env = (false, eval e X.env) :: starEach [e2] X.env := by rfl) (hs4 : starEach [e2] X.env = (false, eval e2 X.env) :: starEach [] X.env := by rfl) :
    DI X tg (.Call (.Name "range" p) [e, e2] [] pos) ρ ((List.range (j - i).toNat).map fun n : Nat => D.int (i + (n : Nat))) := di_range2 hg hm ha hb hh hs hs2 hs3 hs4
theorem enum_map : enumD (xs.map en) = xs.zipIdx.map fun p => D.tup [.int (p.2 : Nat), en p.1] := by
  unfold enumD
  rw [List.zipIdx_map, List.map_map]
  rfl
theorem di_enumT {elts : List Expr} {kk : Nat} {tpos p : Pos} {e : Expr} (hg : Gl X "enumerate") (hm : X.mg "enumerate" = none) (h : DE X e ρ (.lst (xs.map en))) (hs : starEach [e] X.env = [(false, eval e X.env)] := by rfl)
    (hs1 : starEach [e] X.env = (false, eval e X.env) :: starEach [] X.env := by rfl) : DI X (.Tuple elts kk tpos) (.Call (.Name "enumerate" p) [e] [] pos) ρ (xs.zipIdx.map fun p => D.tup [.int (p.2 : Nat), en p.1]) := by
  have q := di_enum (pos := pos) (p := p) (elts := elts) (kk := kk) (tpos := tpos) hg hm h hs hs1
  rw [enum_map] at q
  exact q
theorem dic_enumT {elts : List Expr} {kk : Nat} {tpos p : Pos} {e : Expr} (hg : Gl X "enumerate") (hm : X.mg "enumerate" = none) (h : DV X e ρ (xs.map en)) (hs : starEach [e] X.env = [(false, eval e X.env)] := by rfl)
    (hs1 : starEach [e] X.env = (false, eval e X.env) :: starEach [] X.env := by rfl) : DIc X (.Tuple elts kk tpos) (.Call (.Name "enumerate" p) [e] [] pos) ρ (xs.zipIdx.map fun p => D.tup [.int (p.2 : Nat), en p.1]) := by
  have q := dic_enum (pos := pos) (p := p) (elts := elts) (kk := kk) (tpos := tpos) hg hm h hs hs1
  rw [enum_map] at q
  exact q
theorem idI {tg iter : Expr} (h : DI X tg iter ρ ds) : DI X tg iter ρ ds := h
theorem idIc {tg iter : Expr} (h : DIc X tg iter ρ ds) : DIc X tg iter ρ ds := h
theorem idG {tg : Expr} {ρ' : Rho} {is : List Nat} (h : DG X tg ρ d ρ' is) : DG X tg ρ d ρ' is := h
theorem idGs {tg : List Expr} {ρ' : Rho} {is : List Nat} (h : DGs X tg ρ ds ρ' is) : DGs X tg ρ ds ρ' is := h
theorem idTs {es : List Expr} {c : Bool} (h : DTs X es ρ c) : DTs X es ρ c := h
/-! ### comprehensions of one type -/
section
variable {c : α → Bool} {g : α → β} {eb : β → D} {ρx : α → Rho} {tg iter elt : Expr} {ifs : List Expr} {scope : Scope} {own : List (Str × Nat)}
theorem dn_lcT (hc : X.calm = true) (hN : X.N.Nodup) (ok : BlkOk X.N X.env.scope scope own) (hi : DIc X tg iter ρ (xs.map en)) (T : Turns X xs en c (fun x => eb (g x)) ρ ρx tg elt ifs scope own) (hz : xs.length < sizeLine)
    (hs : ∀ x, foldedSetIterable iter X.env x = pure x := by intro _; rfl) : DN X (.ListComp elt [⟨tg, iter, ifs, 0⟩] scope pos) ρ (((xs.filter c).map g).map eb) := by
  rw [List.map_map]
  exact dn_lc (f := fun x => eb (g x)) hc hN hi ok T hz hs
/-- .. without a test -/
theorem dn_lcA (hc : X.calm = true) (hN : X.N.Nodup) (ok : BlkOk X.N X.env.scope scope own) (hi : DIc X tg iter ρ (xs.map en)) (T : Turns X xs en (fun _ => true) (fun x => eb (g x)) ρ ρx tg elt ifs scope own) (hz : xs.length < sizeLine)
    (hs : ∀ x, foldedSetIterable iter X.env x = pure x := by intro _; rfl) : DN X (.ListComp elt [⟨tg, iter, ifs, 0⟩] scope pos) ρ ((xs.map g).map eb) := by
  have h := dn_lcT (pos := pos) (eb := eb) (g := g) hc hN ok hi T hz hs
  have e : xs.filter (fun _ => true) = xs := by simp
  rw [e] at h
  exact h
/-- .. of the items as they are -/
theorem dn_lcF (hc : X.calm = true) (hN : X.N.Nodup) (ok : BlkOk X.N X.env.scope scope own) (hi : DIc X tg iter ρ (xs.map en)) (T : Turns X xs en c en ρ ρx tg elt ifs scope own) (hz : xs.length < sizeLine)
    (hs : ∀ x, foldedSetIterable iter X.env x = pure x := by intro _; rfl) : DN X (.ListComp elt [⟨tg, iter, ifs, 0⟩] scope pos) ρ ((xs.filter c).map en) := dn_lc hc hN hi ok T hz hs
variable {i : Nat} {n : Str} {py lpos : Pos}
theorem ds_lcT (hc : X.calm = true) (hN : X.N.Nodup) (hy : X.N[i]? = some n) (hyl : X.env.scope.names.lookup n = some .local) (hsw : swapsWith (.ListComp elt [⟨tg, iter, ifs, 0⟩] scope lpos) (some (.Name n py)) pos.line X.env = pure true)
    (ok : BlkOk X.N X.env.scope scope own) (hi : DIc X tg iter ρ (xs.map en)) (T : Turns X xs en c (fun x => eb (g x)) ρ ρx tg elt ifs scope own) (hz : xs.length < sizeLine) (hs : ∀ x, foldedSetIterable iter X.env x = pure x := by intro _; rfl) :
    DS X (.Assign [.Name n py] (.ListComp elt [⟨tg, iter, ifs, 0⟩] scope lpos) pos) ρ (.nx (ρ.set i (.ow (.lst (((xs.filter c).map g).map eb))))) := by
  rw [List.map_map]
  exact ds_setLc (f := fun x => eb (g x)) hc hN hy hyl hsw hi ok T hz hs
theorem ds_lcA (hc : X.calm = true) (hN : X.N.Nodup) (hy : X.N[i]? = some n) (hyl : X.env.scope.names.lookup n = some .local) (hsw : swapsWith (.ListComp elt [⟨tg, iter, ifs, 0⟩] scope lpos) (some (.Name n py)) pos.line X.env = pure true)
    (ok : BlkOk X.N X.env.scope scope own) (hi : DIc X tg iter ρ (xs.map en)) (T : Turns X xs en (fun _ => true) (fun x => eb (g x)) ρ ρx tg elt ifs scope own) (hz : xs.length < sizeLine) (hs : ∀ x, foldedSetIterable iter X.env x = pure x := by intro _; rfl) :
    DS X (.Assign [.Name n py] (.ListComp elt [⟨tg, iter, ifs, 0⟩] scope lpos) pos) ρ (.nx (ρ.set i (.ow (.lst ((xs.map g).map eb))))) := by
  have h := ds_lcT (pos := pos) (py := py) (eb := eb) (g := g) hc hN hy hyl hsw ok hi T hz hs
  have e : xs.filter (fun _ => true) = xs := by simp
  rw [e] at h
  exact h
theorem ds_lcF (hc : X.calm = true) (hN : X.N.Nodup) (hy : X.N[i]? = some n) (hyl : X.env.scope.names.lookup n = some .local) (hsw : swapsWith (.ListComp elt [⟨tg, iter, ifs, 0⟩] scope lpos) (some (.Name n py)) pos.line X.env = pure true)
    (ok : BlkOk X.N X.env.scope scope own) (hi : DIc X tg iter ρ (xs.map en)) (T : Turns X xs en c en ρ ρx tg elt ifs scope own) (hz : xs.length < sizeLine) (hs : ∀ x, foldedSetIterable iter X.env x = pure x := by intro _; rfl) :
    DS X (.Assign [.Name n py] (.ListComp elt [⟨tg, iter, ifs, 0⟩] scope lpos) pos) ρ (.nx (ρ.set i (.ow (.lst ((xs.filter c).map en))))) := ds_setLc hc hN hy hyl hsw hi ok T hz hs
/-- x.extend(e), x one's own -/
theorem ds_extend {i : Nat} {o e : Expr} {apos cpos : Pos} {ds es : List D} (ho : PE X o (tVar i)) (hr : ρ[i]? = some (.ow (.lst ds))) (he : DVs X e ρ es) (hz : ds.length + es.length ≤ sizeLine)
    (hbase : attributeBase o "extend" X.env (eval o X.env) = eval o X.env := by rfl)
    (hfew : ((backTo cpos (starEach (e :: []) X.env)).all (fun x => !x.1) && (backToKw cpos (keywordEach [] X.env)).all (fun x => x.1.isSome)
      && decide ((e :: []).length + ([] : List Keyword).length + (if ([] : List Keyword).isEmpty then 0 else 1) < 30)) = true := by rfl)
    (hline : (apos.endLine == cpos.line) = true := by rfl) (hs : starEach (e :: []) X.env = (false, eval e X.env) :: starEach [] X.env := by rfl) (hplain : (backTo cpos (starEach [] X.env)).any (·.1) = false := by rfl)
    (hsw : swapsWith (.Call (.Attribute o "extend" apos) [e] [] cpos) none pos.line X.env = pure false := by rfl) :
    DS X (.Expr (.Call (.Attribute o "extend" apos) [e] [] cpos) pos) ρ (.nx (ρ.set i (.ow (.lst (ds ++ es))))) :=
  ⟨psSub (ps_expr (pe_bm PySem.F.plainAttrs_list PySem.F.slot_list_extend PySem.F.type_list_extend mt_extend ho (pa_cons he.pe pa_nil hs) hbase hfew hline hs hplain) hsw) fun E σ H ⟨I0, H0, I, r, g, w⟩ => by
    obtain ⟨p, ho, e1, n1, n0, h1, vs, rfl, rep⟩ := r.ow hr
    refine ⟨.ref p, e1, .inl ⟨rfl, _, .inl (.inl h1)⟩, H0, I, r, fun q ws I' H' g' h' r2 => ⟨p, q, vs, ws, rfl, rfl, g'.h _ _ h1, h', by rw [rep.len, r2.len]; exact hz, ?_⟩⟩
    have r' := r.grow g'
    obtain ⟨q, ho', f1, f2, f3, f4, f5⟩ := r'.ow hr
    rw [e1] at f1
    cases f1
    refine w σ I' _ (r'.write hr e1 ⟨_, rfl, (rep.mono g'.i).append r2⟩) ⟨(g.trans g').i, same_mut (g.trans g').h n0, same_mut g'.s f2, (g.trans g').n⟩⟩
/-- x.pop(), dropped; x one's own -/
theorem ds_popS {i : Nat} {o : Expr} {apos cpos : Pos} {ds : List D} {d : D} (ho : PE X o (tVar i)) (hr : ρ[i]? = some (.ow (.lst (ds ++ [d]))))
    (hbase : attributeBase o "pop" X.env (eval o X.env) = eval o X.env := by rfl) (hline : (apos.endLine == cpos.line) = true := by rfl)
    (hsw : swapsWith (.Call (.Attribute o "pop" apos) [] [] cpos) none pos.line X.env = pure false := by rfl) :
    DS X (.Expr (.Call (.Attribute o "pop" apos) [] [] cpos) pos) ρ (.nx (ρ.set i (.ow (.lst ds)))) :=
  ⟨psSub (ps_expr (pe_bm0 PySem.F.plainAttrs_list PySem.F.slot_list_pop PySem.F.type_list_pop mt_pop ho hbase hline) hsw) fun E σ H ⟨I0, H0, I, r, g, w⟩ => by
    obtain ⟨p, ho, e1, n1, n0, h1, vs, rfl, rep⟩ := r.ow hr
    have hl : vs.length = ds.length + 1 := by rw [rep.len, List.length_append]; rfl
    have hv : vs[vs.length - 1]? = some (vs[vs.length - 1]'(by omega)) := List.getElem?_eq_getElem (by omega)
    refine ⟨.ref p, e1, .inl ⟨rfl, _, .inl (.inl h1)⟩, p, vs, _, rfl, rfl, h1, hv, ?_⟩
    have e2 : vs.dropLast = vs.take ds.length := by rw [List.dropLast_eq_take, hl]; rfl
    have rep2 : Reps X.K (Fr H0) I ds vs.dropLast := by
      rw [e2]
      have := rep.take ds.length
      rw [List.take_left'] at this
      · exact this
      · rfl
    exact w σ I _ (r.write hr e1 ⟨_, rfl, rep2⟩) ⟨g.i, same_mut g.h n0, same_mut g.s n1, g.n⟩⟩
end
end
end DL
namespace DL
open PySem PySem.Spec PyProof.Rows L2
/-- a while's run -/
inductive Wh (X : Cx) (c : Expr) (body : List Stmt) : Rho → Out → Prop where
  | stop {ρ ρ' : Rho} : DB X c ρ false → Weak ρ ρ' → Wh X c body ρ (.nx ρ')
  | step {ρ ρ1 : Rho} {o out : Out} : DB X c ρ true → DSs X body ρ o → Step o ρ1 → Wh X c body ρ1 out → Wh X c body ρ out
  | last {ρ : Rho} {o out : Out} : DB X c ρ true → DSs X body ρ o → Last o out → Wh X c body ρ out
def shift {α : Type} (a : α) (f : Nat → α) : Nat → α
  | 0 => a
  | n + 1 => f n
section
variable {X : Cx} {st : Stmt} {sts : List Stmt} {ρ ρ1 ρ2 : Rho}
theorem DS.weak (h : DS X st ρ (.nx ρ1)) (w : Weak ρ1 ρ2) : DS X st ρ (.nx ρ2) := ⟨psSub h.ps fun E σ H ⟨I0, H0, I, r, g, k⟩ => ⟨I0, H0, I, r, g, fun σ' I' H' r' g' => k σ' I' H' (r'.weak w) g'⟩⟩
theorem dss_or {o1 o : Out} {rest : List Stmt} (h : DS X st ρ o1) (h1 : ∀ ρ1, o1 = .nx ρ1 → DSs X rest ρ1 o) (h2 : o1.leaves = true → o = o1) : DSs X (st :: rest) ρ o := by
  cases o1 with
  | nx ρ1 => exact dss_cons h (h1 ρ1 rfl)
  | rt d => rw [h2 rfl]; exact dss_stop h rfl
  | bk d => rw [h2 rfl]; exact dss_stop h rfl
  | ct d => rw [h2 rfl]; exact dss_stop h rfl
theorem DSs.weak (h : DSs X sts ρ (.nx ρ1)) (w : Weak ρ1 ρ2) : DSs X sts ρ (.nx ρ2) := ⟨pssSub h.ps fun E σ H ⟨I0, H0, I, r, g, k⟩ => ⟨I0, H0, I, r, g, fun σ' I' H' r' g' => k σ' I' H' (r'.weak w) g'⟩⟩
end
section
variable {X : Cx} {c : Expr} {body : List Stmt} {pos : Pos} {ρ : Rho} {o : Out}
theorem Wh.seq (h : Wh X c body ρ o) : ∃ (n : Nat) (ρs : Nat → Rho) (os : Nat → Out) (ts : Nat → Bool), ρs 0 = ρ ∧ (∀ i, i ≤ n → DB X c (ρs i) (ts i)) ∧ (∀ i, i < n → ts i = true) ∧
    (∀ i, i ≤ n → ts i = true → DSs X body (ρs i) (os i)) ∧ (∀ i, i < n → Step (os i) (ρs (i + 1))) ∧ ((ts n = false ∧ ∃ ρ', o = .nx ρ' ∧ Weak (ρs n) ρ') ∨ (ts n = true ∧ Last (os n) o)) := by
  induction h with
  | @stop ρ ρ' h w => exact ⟨0, fun _ => ρ, fun _ => .nx ρ, fun _ => false, rfl, fun _ _ => h, fun _ h => absurd h (Nat.not_lt_zero _), fun _ _ h => (by cases h), fun _ h => absurd h (Nat.not_lt_zero _), .inl ⟨rfl, ρ', rfl, w⟩⟩
  | @last ρ o out h1 h2 h3 => exact ⟨0, fun _ => ρ, fun _ => o, fun _ => true, rfl, fun _ _ => h1, fun _ h => absurd h (Nat.not_lt_zero _), fun _ _ _ => h2, fun _ h => absurd h (Nat.not_lt_zero _), .inr ⟨rfl, h3⟩⟩
  | @step ρ ρ1 o out h1 h2 h3 h4 ih =>
    obtain ⟨n, ρs, os, ts, e0, a1, a2, a3, a4, a5⟩ := ih
    refine ⟨n + 1, shift ρ ρs, shift o os, shift true ts, rfl, fun i hi => ?_, fun i hi => ?_, fun i hi e => ?_, fun i hi => ?_, a5⟩
    · cases i with
      | zero => exact h1
      | succ i => exact a1 i (by omega)
    · cases i with
      | zero => rfl
      | succ i => exact a2 i (by omega)
    · cases i with
      | zero => exact h2
      | succ i => exact a3 i (by omega) e
    · cases i with
      | zero => show Step o (ρs 0); rw [e0]; exact h3
      | succ i => exact a4 i (by omega)
theorem ds_while (hp : PassesOwn (model X.prog X.w) X.A X.env X.xe) (h : Wh X c body ρ o) : DS X (.While c body [] pos) ρ o := by
  obtain ⟨n, ρs, os, ts, e0, a1, a2, a3, a4, a5⟩ := h.seq
  rcases a5 with ⟨e1, ρ', rfl, w⟩ | a5
  · exact (ds_whileN hp n ρs os ts (by rw [e0]; exact .refl _) a1 a2 a3 a4 (.inl ⟨e1, rfl⟩)).weak w
  · exact ds_whileN hp n ρs os ts (by rw [e0]; exact .refl _) a1 a2 a3 a4 (.inr a5)
/-- a while by a state, a word of it and a measure -/
theorem wh_ind {St : Type} (ρ_ : St → Rho) (out : St → Out) (m : St → Nat) (P : St → Prop) (h : ∀ st, P st → (DB X c (ρ_ st) false ∧ ∃ ρ', out st = .nx ρ' ∧ Weak (ρ_ st) ρ') ∨
    (∃ o, DB X c (ρ_ st) true ∧ DSs X body (ρ_ st) o ∧ ((∃ st', Step o (ρ_ st') ∧ P st' ∧ m st' < m st ∧ out st' = out st) ∨ Last o (out st)))) : ∀ (n : Nat) (st : St), m st < n → P st → Wh X c body (ρ_ st) (out st)
  | 0, _, h0, _ => absurd h0 (Nat.not_lt_zero _)
  | n + 1, st, hn, p => by
    rcases h st p with ⟨h1, ρ', e, w⟩ | ⟨o, h1, h2, ⟨st', h3, h4, h5, h6⟩ | h3⟩
    · rw [e]; exact .stop h1 w
    · rw [← h6]; exact .step h1 h2 h3 (wh_ind ρ_ out m P h n st' (by omega) h4)
    · exact .last h1 h2 h3
end
/-- a for's run over the items -/
inductive Fo (X : Cx) (tg : Expr) (body : List Stmt) {α : Type} (en : α → D) : List α → Rho → Out → Prop where
  | nil {ρ : Rho} : Fo X tg body en [] ρ (.nx ρ)
  | cons {x : α} {xs : List α} {ρ ρ1 ρ2 : Rho} {o out : Out} {is : List Nat} : DG X tg ρ (en x) ρ1 is → DSs X body ρ1 o → Step o ρ2 → Fo X tg body en xs ρ2 out → Fo X tg body en (x :: xs) ρ out
  | last {x : α} {xs : List α} {ρ ρ1 : Rho} {o out : Out} {is : List Nat} : DG X tg ρ (en x) ρ1 is → DSs X body ρ1 o → Last o out → Fo X tg body en (x :: xs) ρ out
section
variable {X : Cx} {tg iter : Expr} {body : List Stmt} {pos : Pos} {ρ : Rho} {o : Out} {α : Type} {en : α → D} {xs : List α}
theorem Fo.seq (h : Fo X tg body en xs ρ o) : ∃ (n : Nat) (ρs : Nat → Rho) (ρx : Nat → Rho) (os : Nat → Out) (is : Nat → List Nat), n ≤ xs.length ∧ ρs 0 = ρ ∧ (∀ i x, xs[i]? = some x → i ≤ n → DG X tg (ρs i) (en x) (ρx i) (is i)) ∧
    (∀ i x, xs[i]? = some x → i ≤ n → DSs X body (ρx i) (os i)) ∧ (∀ i, i < n → Step (os i) (ρs (i + 1))) ∧ ((n = xs.length ∧ o = .nx (ρs n)) ∨ (n < xs.length ∧ Last (os n) o)) := by
  induction h with
  | @nil ρ => exact ⟨0, fun _ => ρ, fun _ => ρ, fun _ => .nx ρ, fun _ => [], Nat.le_refl _, rfl, fun i x h => (by simp at h), fun i x h => (by simp at h), fun _ h => absurd h (Nat.not_lt_zero _), .inl ⟨rfl, rfl⟩⟩
  | @last x xs ρ ρ1 o out is h1 h2 h3 =>
    refine ⟨0, fun _ => ρ, fun _ => ρ1, fun _ => o, fun _ => is, Nat.zero_le _, rfl, fun i y h hi => ?_, fun i y h hi => h2, fun _ h => absurd h (Nat.not_lt_zero _), .inr ⟨by simp, h3⟩⟩
    have : i = 0 := by omega
    subst this
    have e : x = y := by simpa using h
    subst e
    exact h1
  | @cons x xs ρ ρ1 ρ2 o out is h1 h2 h3 h4 ih =>
    obtain ⟨n, ρs, ρx, os, iss, a0, e0, a1, a2, a3, a4⟩ := ih
    refine ⟨n + 1, shift ρ ρs, shift ρ1 ρx, shift o os, shift is iss, by simpa using a0, rfl, fun i y h hi => ?_, fun i y h hi => ?_, fun i hi => ?_, ?_⟩
    · cases i with
      | zero =>
        have e : x = y := by simpa using h
        subst e
        exact h1
      | succ i => exact a1 i y (by simpa using h) (by omega)
    · cases i with
      | zero => exact h2
      | succ i => exact a2 i y (by simpa using h) (by omega)
    · cases i with
      | zero => show Step o (ρs 0); rw [e0]; exact h3
      | succ i => exact a3 i (by omega)
    · rcases a4 with ⟨e1, e2⟩ | ⟨e1, e2⟩
      · exact .inl ⟨by simp [e1], e2⟩
      · exact .inr ⟨by simpa using e1, e2⟩
theorem ds_forF (hp : PassesOwn (model X.prog X.w) X.A X.env X.xe) (hc : X.calm = true) (hi : DI X tg iter ρ (xs.map en)) (h : Fo X tg body en xs ρ o) (hs : ∀ x, foldedSetIterable iter X.env x = pure x := by intro _; rfl) : DS X (.For tg iter body [] pos) ρ o := by
  obtain ⟨n, ρs, ρx, os, is, a0, e0, a1, a2, a3, a4⟩ := h.seq
  exact ds_forN hp hc hi n a0 ρs ρx os is (by rw [e0]; exact .refl _) a1 a2 a3 a4 hs
end
section
variable {X : Cx} {tg : Expr} {body : List Stmt} {α : Type} {en : α → D}
/-- a for by a state that each turn maps -/
theorem fo_fold {St : Type} (ρ_ : St → Rho) (f : St → α → St) (P : List α → St → Prop) (h : ∀ x xs st, P (x :: xs) st → ∃ ρ1 is o, DG X tg (ρ_ st) (en x) ρ1 is ∧ DSs X body ρ1 o ∧ Step o (ρ_ (f st x)) ∧ P xs (f st x)) :
    ∀ (xs : List α) (st : St), P xs st → Fo X tg body en xs (ρ_ st) (.nx (ρ_ (xs.foldl f st)))
  | [], _, _ => .nil
  | x :: xs, st, p => by
    obtain ⟨ρ1, is, o, h1, h2, h3, h4⟩ := h x xs st p
    exact .cons h1 h2 h3 (fo_fold ρ_ f P h xs (f st x) h4)
/-- a for that may be left -/
theorem fo_ind {St : Type} (ρ_ : St → Rho) (out : List α → St → Out) (P : List α → St → Prop) (h0 : ∀ st, P [] st → out [] st = .nx (ρ_ st))
    (h : ∀ x xs st, P (x :: xs) st → ∃ ρ1 is o, DG X tg (ρ_ st) (en x) ρ1 is ∧ DSs X body ρ1 o ∧ ((∃ st', Step o (ρ_ st') ∧ P xs st' ∧ out (x :: xs) st = out xs st') ∨ Last o (out (x :: xs) st))) :
    ∀ (xs : List α) (st : St), P xs st → Fo X tg body en xs (ρ_ st) (out xs st)
  | [], st, p => by rw [h0 st p]; exact .nil
  | x :: xs, st, p => by
    obtain ⟨ρ1, is, o, h1, h2, ⟨st', h3, h4, h5⟩ | h3⟩ := h x xs st p
    · rw [h5]; exact .cons h1 h2 h3 (fo_ind ρ_ out P h0 h xs st' h4)
    · exact .last h1 h2 h3
end
/-! less is known -/
theorem weak_set {ρ : Rho} {i : Nat} : Weak ρ (ρ.set i .un) := ⟨List.length_set, fun j s e => by
  by_cases h : i = j
  · subst h
    have hi : i < ρ.length := by
      have := (List.getElem?_eq_some_iff.mp e).1
      rwa [List.length_set] at this
    rw [List.getElem?_set_self hi] at e
    cases e
    exact .inl rfl
  · rw [List.getElem?_set_ne h] at e
    exact .inr e⟩
theorem weak_nil : Weak [] [] := .refl _
theorem weak_same {s : Slot} {ρ ρ' : Rho} (h : Weak ρ ρ') : Weak (s :: ρ) (s :: ρ') := ⟨by rw [List.length_cons, List.length_cons, h.1], fun i t e => by
  cases i with
  | zero => right; simpa using e
  | succ i => rcases h.2 i t (by simpa using e) with h | h
              · exact .inl h
              · right; simpa using h⟩
theorem weak_drop {s : Slot} {ρ ρ' : Rho} (h : Weak ρ ρ') : Weak (s :: ρ) (.un :: ρ') := ⟨by rw [List.length_cons, List.length_cons, h.1], fun i t e => by
  cases i with
  | zero => left; simpa using e.symm
  | succ i => rcases h.2 i t (by simpa using e) with h | h
              · exact .inl h
              · right; simpa using h⟩
/-- raising a bound on a level -/
theorem Has.mono {P : Program} {w : World} {K : PySem.W.Frag} {mg : Str → Option Value} {base : Heap} {n : Str} {k k' : Nat} {ps : List Str} {R : List D → D → Prop} (h : Has P w K mg base n k ps R) (hk : k ≤ k') : Has P w K mg base n k' ps R := by
  obtain ⟨f, fd, h1, h2, h3, h4, h5⟩ := h.ex
  exact ⟨f, fd, h1.mono hk, h2, h3, h4, h5⟩
theorem Has.imp {P : Program} {w : World} {K : PySem.W.Frag} {mg : Str → Option Value} {base : Heap} {n : Str} {k : Nat} {ps : List Str} {R R' : List D → D → Prop} (h : Has P w K mg base n k ps R) (hk : ∀ ds r, R' ds r → R ds r) : Has P w K mg base n k ps R' := by
  obtain ⟨f, fd, h1, h2, h3, h4, h5⟩ := h.ex
  exact ⟨f, fd, h1.imp fun vs H Q E ⟨I, ds, r, a, n, b, c, d⟩ => ⟨I, ds, r, a, n, b, hk ds r c, d⟩, h2, h3, h4, fun ds r q => h5 ds r (hk ds r q)⟩
end DL
namespace DL
open PySem PySem.Spec PyProof.Rows L2
/-! ### a new base, where nothing is owned and nothing is said to be new -/
def calmS : Slot → Bool
  | .un => true | .im d => noF d | .ow _ => false
section
variable {K : PySem.W.Frag} {H0 H1 I H : Hp} {σ : L2.St} {ρ : Rho}
theorem OwnRep.monoF {F F' : Addr → Prop} (f : ∀ a, F a → F' a) : ∀ {o : OD} {ho : HO}, OwnRep K F I o ho → OwnRep K F' I o ho
  | .lst _, _, ⟨vs, e, h⟩ => ⟨vs, e, h.monoF f⟩
theorem RS.base (r : RS K H1 I H σ ρ) (s : Same H0 H1) : RS K H0 I H σ ρ := by
  refine ⟨r.s, s.trans r.h0, r.len, fun i sl e => ?_, r.di⟩
  have h := r.sl i sl e
  cases sl with
  | un => trivial
  | im d => obtain ⟨v, e1, h1⟩ := h; exact ⟨v, e1, h1.monoF fun a ha => s.free ha⟩
  | ow o => obtain ⟨p, ho, e1, n1, n0, h1, w⟩ := h; exact ⟨p, ho, e1, n1, s.free n0, h1, w.monoF fun a ha => s.free ha⟩
theorem RS.now (r : RS K H0 I H σ ρ) (h : ρ.all calmS = true) : RS K H I H σ ρ := by
  have hc : ∀ {i : Nat} {s : Slot}, ρ[i]? = some s → calmS s = true := fun e => List.all_eq_true.mp h _ (List.mem_of_getElem? e)
  refine ⟨r.s, .refl _, r.len, fun i sl e => ?_, fun i j p oi oj e1 => ?_⟩
  · have h1 := r.sl i sl e
    have h2 := hc e
    cases sl with
    | un => trivial
    | im d => obtain ⟨v, e1, q⟩ := h1; exact ⟨v, e1, q.noF h2⟩
    | ow o => cases h2
  · have h2 := hc e1
    cases h2
theorem wants.base {I0 I1 : Hp} {E : Ends} {o : Out} (w : wants K H0 I0 E o) (g : Grow I0 H0 I1 H1) : wants K H1 I1 E o := by
  cases o with
  | nx ρ => exact fun σ I H r g' => w σ I H (r.base g.h) (g.trans g')
  | bk ρ => exact fun σ I H r g' => w σ I H (r.base g.h) (g.trans g')
  | ct ρ => exact fun σ I H r g' => w σ I H (r.base g.h) (g.trans g')
  | rt d => exact fun v I H g' h => w v I H (g.trans g') (h.monoF fun a ha => g.h.free ha)
variable {X : Cx} {sts : List Stmt} {o : Out}
theorem dss_now (hc : ρ.all calmS = true) (h : PSs X sts fun E σ H => ∃ I, RS X.K H I H σ ρ ∧ wants X.K H I E o) : DSs X sts ρ o :=
  ⟨pssSub h fun E σ H ⟨I0, H0, I, r, g, w⟩ => ⟨I, r.now hc, w.base g⟩⟩
end
mutual
/-- nothing is said to be new any more -/
def strip : D → D
  | .lst ds => .lst (strips ds) | .tup ds => .tup (strips ds) | .fl ds => .lst (strips ds)
  | .non => .non | .bl b => .bl b | .int i => .int i | .str x => .str x | .scr ns => .scr ns
def strips : List D → List D
  | [] => []
  | d :: ds => strip d :: strips ds
end
mutual
theorem Rep.strip {K : PySem.W.Frag} {F : Addr → Prop} {I : Hp} : ∀ {d : D} {v : V}, Rep K F I d v → Rep K F I (strip d) v
  | .non, _, h => by unfold DL.strip; exact h
  | .bl _, _, h => by unfold DL.strip; exact h
  | .int _, _, h => by unfold DL.strip; exact h
  | .str _, _, h => by unfold DL.strip; exact h
  | .scr _, _, h => by unfold DL.strip; exact h
  | .lst _, _, h => by
    unfold DL.strip
    obtain ⟨a, vs, e, h1, h2⟩ := rep_lst.mp h
    exact rep_lst.mpr ⟨a, vs, e, h1, Reps.strip h2⟩
  | .tup _, _, h => by
    unfold DL.strip
    obtain ⟨a, vs, e, h1, h2⟩ := rep_tup.mp h
    exact rep_tup.mpr ⟨a, vs, e, h1, Reps.strip h2⟩
  | .fl _, _, h => by
    unfold DL.strip
    obtain ⟨a, vs, e, _, h1, h2⟩ := rep_fl.mp h
    exact rep_lst.mpr ⟨a, vs, e, h1, Reps.strip h2⟩
theorem Reps.strip {K : PySem.W.Frag} {F : Addr → Prop} {I : Hp} : ∀ {ds : List D} {vs : List V}, Reps K F I ds vs → Reps K F I (strips ds) vs
  | [], _, h => by unfold DL.strips; exact h
  | _ :: _, _, h => by
    unfold DL.strips
    obtain ⟨v, r, e, h1, h2⟩ := reps_cons.mp h
    exact reps_cons.mpr ⟨v, r, e, Rep.strip h1, Reps.strip h2⟩
end
theorem strips_map {α : Type} {en en' : α → D} (h : ∀ x, strip (en x) = en' x) : ∀ xs : List α, strips (xs.map en) = xs.map en'
  | [] => by simp [strips]
  | x :: xs => by rw [List.map_cons, List.map_cons]; unfold strips; rw [h x, strips_map h xs]
theorem strip_FL (xs : List Int) : strip (FL xs) = IL xs := by
  unfold FL strip IL
  rw [strips_map (en' := D.int) fun x => by unfold strip; rfl]
theorem strip_LFFL (xs : List (List Int)) : strip (LF FL xs) = LL IL xs := by
  unfold LF strip LL
  rw [strips_map strip_FL]
section
variable {X : Cx} {st : Stmt} {sts : List Stmt} {e : Expr} {ρ : Rho} {d : D} {ds : List D} {o : Out}
theorem DE.strip (h : DE X e ρ d) : DE X e ρ (strip d) := ⟨peSub h.pe fun σ H Q ⟨H0, I, r1, k⟩ => ⟨H0, I, r1, fun v I1 H1 g1 h1 => k v I1 H1 g1 h1.strip⟩⟩
theorem DE.unFF {xs : List (List Int)} (h : DE X e ρ (LF FL xs)) : DE X e ρ (LL IL xs) := strip_LFFL xs ▸ h.strip
/-- a list of one's own is written for good, and said to be new -/
theorem dss_frzF (i : Nat) (hr : ρ[i]? = some (.ow (.lst ds))) (h : DSs X sts (ρ.set i (.im (.fl ds))) o) : DSs X sts ρ o := ⟨pssSub h.ps fun E σ H ⟨I0, H0, I, r, g, k⟩ => by
  obtain ⟨p, ho, e1, nI, n0, hp, vs, rfl, w⟩ := r.ow hr
  have sI : Same I (upd I p (.lst vs)) := same_new nI
  obtain ⟨I', s1, n1, r1⟩ := r.freeze hr
  refine ⟨I0, H0, upd I p (.lst vs), ⟨?_, r.h0, by rw [List.length_set]; exact r.len, fun j s es => ?_, fun j k q oj ok e1' e2 e3 e4 => ?_⟩, ⟨g.i.trans sI, g.h, ?_, fun a ea q => ?_⟩, k⟩
  · intro b x eb
    by_cases hb : b = p
    · subst hb; rw [upd_same] at eb; cases eb; exact hp
    · rw [upd_ne hb] at eb; exact r.s b x eb
  · have hi : i < ρ.length := (List.getElem?_eq_some_iff.mp hr).1
    by_cases hj : i = j
    · subst hj
      rw [List.getElem?_set_self hi] at es
      cases es
      exact ⟨.ref p, e1, rep_fl.mpr ⟨p, vs, rfl, n0, upd_same, w.mono sI⟩⟩
    · rw [List.getElem?_set_ne hj] at es
      have h := r.sl j s es
      cases s with
      | un => trivial
      | im d => obtain ⟨v, f1, f2⟩ := h; exact ⟨v, f1, f2.mono sI⟩
      | ow u =>
        obtain ⟨q, hq, f1, f2, f3, f4, f5⟩ := h
        refine ⟨q, hq, f1, ?_, f3, f4, f5.mono sI⟩
        rw [upd_ne]
        · exact f2
        · intro z
          subst z
          exact hj (r.di i j q _ u hr es e1 f1)
  · have hi : i < ρ.length := (List.getElem?_eq_some_iff.mp hr).1
    have f : ∀ {j : Nat} {u : OD}, (ρ.set i (.im (.fl ds)))[j]? = some (.ow u) → ρ[j]? = some (.ow u) := fun {j u} e3 => by
      by_cases hj : i = j
      · subst hj; rw [List.getElem?_set_self hi] at e3; cases e3
      · rw [List.getElem?_set_ne hj] at e3; exact e3
    exact r.di j k q _ _ (f e1') (f e2) e3 e4
  · intro b x eb
    by_cases hb : b = p
    · subst hb; rw [upd_same] at eb; cases eb; exact hp
    · rw [upd_ne hb] at eb; exact r.s b x eb
  · by_cases ha : a = p
    · rw [ha]; exact n0
    · rw [upd_ne ha] at q; exact g.n a ea q⟩
end
end DL
namespace DL
open PySem PySem.Spec PyProof.Rows L2
theorem bt_int : bootBuiltins "int" = some (.type "int") := by decide +kernel
theorem bt_list : bootBuiltins "list" = some (.type "list") := by decide +kernel
theorem bt_tuple : bootBuiltins "tuple" = some (.type "tuple") := by decide +kernel
theorem bt_str : bootBuiltins "str" = some (.type "str") := by decide +kernel
theorem bt_bool : bootBuiltins "bool" = some (.type "bool") := by decide +kernel
theorem bt_len : bootBuiltins "len" = some (.builtin "len") := by decide +kernel
end DL
namespace DL
open PySem PySem.Spec PyProof.Rows L2
section
variable {X : Cx} {e : Expr} {ρ : Rho} {pos : Pos} {x : Str} {p : Pos} {i : Int} {b : Bool}
theorem de_intI (hg : Gl X x) (hm : X.mg x = none) (hv : bootBuiltins x = some (.type "int")) (ha : DE X e ρ (.int i)) (hn : x ≠ "__name__" := by decide) (hdb : (x == ("__debug__" : Str)) = false := by decide)
    (h1 : starEach [e] X.env = (false, eval e X.env) :: starEach [] X.env := by rfl) (hpl : (backTo pos (starEach [] X.env)).any (·.1) = false := by rfl) : DE X (.Call (.Name x p) [e] [] pos) ρ (.int i) := de_int1 hg hm hv ha hn hdb h1 hpl
theorem de_intBl (hg : Gl X x) (hm : X.mg x = none) (hv : bootBuiltins x = some (.type "int")) (ha : DE X e ρ (.bl b)) (hn : x ≠ "__name__" := by decide) (hdb : (x == ("__debug__" : Str)) = false := by decide)
    (h1 : starEach [e] X.env = (false, eval e X.env) :: starEach [] X.env := by rfl) (hpl : (backTo pos (starEach [] X.env)).any (·.1) = false := by rfl) : DE X (.Call (.Name x p) [e] [] pos) ρ (.int (if b then 1 else 0)) := de_intB hg hm hv ha hn hdb h1 hpl
end
end DL
namespace DL
open PySem PySem.Spec PyProof.Rows L2
theorem di_rngN {X : Cx} {ρ : Rho} {pos : Pos} {tg e : Expr} {n : Nat} {p : Pos} (hg : Gl X "range") (hm : X.mg "range" = none) (h : DE X e ρ (.int (n : Nat))) (h2 : n < 1000000000) (hs : starEach [e] X.env = [(false, eval e X.env)] := by rfl)
    (hs1 : starEach [e] X.env = (false, eval e X.env) :: starEach [] X.env := by rfl) : DI X tg (.Call (.Name "range" p) [e] [] pos) ρ ((List.range n).map fun i : Nat => D.int (i : Nat)) :=
  di_rng1 (j := (n : Nat)) hg hm h (by omega) (by omega) hs hs1
end DL
namespace DL
open PySem PySem.Spec PyProof.Rows L2
/-- a call that is handed a list of one's own and hands back a new list of numbers -/
theorem de_callOwn {X : Cx} {e : Expr} {ρ : Rho} {pos : Pos} {k : Nat} {ds qs : List D} {xs : List Int} {n : Str} {j i : Nat} {ps : List Str} {R : List D → D → Prop} {es : List Expr} {p : Pos} (hi : ρ[i]? = some (.ow (.lst qs))) (ha : DA X (e :: es) (ρ.set i (.im (.lst qs))) ds) (F : Has X.prog X.w X.K X.mg X.base n k ps R) (hR : R ds (FL xs)) (hr : Room j X.A) (hk : k ≤ j) (hg : Gl X n)
    (hdb : (n == ("__debug__" : Str)) = false := by decide) (he : starEach (e :: es) X.env = (false, eval e X.env) :: starEach es X.env := by rfl) (hpl : (backTo pos (starEach es X.env)).any (·.1) = false := by rfl) :
    DE X (.Call (.Name n p) (e :: es) [] pos) ρ (FL xs) := by
  obtain ⟨f, fd, h1, h2, h3, h4, h5⟩ := F.ex
  refine ⟨peSub (pe_call h1 (hr.mono hk) hg h2 h3 h4 .nil pass0 ha.pa hdb he hpl) fun σ H Q ⟨H0, I, r1, k⟩ => ?_⟩
  obtain ⟨I', s1, _, r2⟩ := r1.freeze hi
  refine ⟨H0, I', r2, fun vs I1 H1 g1 q1 => ?_⟩
  show spD X.K R (vs ++ []) H1 Q E0
  rw [List.append_nil]
  refine ⟨I1, ds, _, g1.s, h5 _ _ hR, q1.noF (h5 _ _ hR), hR, fun v I2 H2 g2 q2 => ?_⟩
  obtain ⟨a, us, rfl, fa, ea, ru⟩ := rep_fl.mp q2
  have na : H a = none := g1.h.free fa
  have nI : I a = none := r1.s.free na
  refine k (.ref a) (upd I a (.lst us)) H2 ⟨same_new nI, g1.h.trans g2.h, fun b x eb => ?_, fun b eb q => ?_⟩ (rep_fl.mpr ⟨a, us, rfl, r1.h0.free na, upd_same, ?_⟩)
  · by_cases hb : b = a
    · subst hb; rw [upd_same] at eb; cases eb; exact g2.s _ _ ea
    · rw [upd_ne hb] at eb; exact g2.h _ _ (g1.h _ _ (r1.s b x eb))
  · by_cases hb : b = a
    · rw [hb]; exact na
    · rw [upd_ne hb] at q; exact absurd eb q
  · rw [Reps.ints ru]
    exact reps_ints
end DL
namespace DL
open PySem PySem.Spec PyProof.Rows L2
/-! ### a list of new lists is told, looked at, and spoiled -/
theorem Reps.fls {K : PySem.W.Frag} {F : Addr → Prop} {I : Hp} : ∀ {E : List (List Int)} {vs : List V}, Reps K F I (E.map FL) vs → ∀ v ∈ vs, ∃ q ns, ns ∈ E ∧ v = .ref q ∧ F q ∧ I q = some (.lst (ns.map V.int))
  | [], _, h => by rw [reps_nil.mp h]; intro v hv; cases hv
  | x :: E, _, h => by
    obtain ⟨v, r, rfl, h1, h2⟩ := reps_cons.mp h
    intro u hu
    rcases List.mem_cons.mp hu with rfl | hu
    · obtain ⟨q, ws, rfl, f, e, rs⟩ := rep_fl.mp h1
      rw [rs.ints] at e
      exact ⟨q, x, List.mem_cons_self, rfl, f, e⟩
    · obtain ⟨q, ns, m, a, b, c⟩ := Reps.fls h2 u hu
      exact ⟨q, ns, List.mem_cons_of_mem _ m, a, b, c⟩
section
variable {X : Cx} {ρ : Rho} {iA iR : Nat} {nA nR : Str} {E : List (List Int)} {c e : Expr} {thn rest : List Stmt} {o : Out} {p1 p2 p3 p4 p5 p6 p7 p8 p9 p10 p11 p12 p13 p14 p15 : Pos} {j7 j10 j12 : Nat}
theorem dss_spoil (hc : ρ.all calmS = true) (hne : iA ≠ iR) (lA : iA < ρ.length) (hu1 : ρ[iA]? = some .un) (hu2 : ρ[iR]? = some .un) (hcalm : X.calm = true) (hp : PassesOwn (model X.prog X.w) X.A X.env X.xe)
    (hset : PS X (.Assign [.Name nA p1] e p2) (tAsg (tE X.K ρ (LF FL E)) (gName iA))) (hpos : ∀ s ∈ E, s ≠ []) (hcond : DB X c (ρ.set iA (.im (LF FL E))) false)
    (vA : PE X (.Name nA p5) (tVar iA)) (v6 : PE X (.Name nR p6) (tVar iR)) (v9 : PE X (.Name nR p9) (tVar iR)) (gR : PG X (.Name nR p4) (gName iR))
    (hw : swapsWithSole [.Subscript (.Name nR p6) (.Constant (.int 0) j7 p7) p8] (.BinOp (.Subscript (.Name nR p9) (.Constant (.int 0) j10 p10) p11) .Add (.Constant (.int 1) j12 p12) p13) p14.line X.env = pure false)
    (hw2 : swappedStores [.Subscript (.Name nR p6) (.Constant (.int 0) j7 p7) p8] (.BinOp (.Subscript (.Name nR p9) (.Constant (.int 0) j10 p10) p11) .Add (.Constant (.int 1) j12 p12) p13) X.env = pure none)
    (hrest : DSs X rest ρ o) :
    DSs X (.Assign [.Name nA p1] e p2 :: .If c thn [] p3 :: .For (.Name nR p4) (.Name nA p5) [.Assign [.Subscript (.Name nR p6) (.Constant (.int 0) j7 p7) p8] (.BinOp (.Subscript (.Name nR p9) (.Constant (.int 0) j10 p10) p11) .Add (.Constant (.int 1) j12 p12) p13) p14] [] p15 :: rest) ρ o := by
  refine dss_now hc ?_
  have hbody := pss_one (ps_asg (pos := p14) (pe_op (pos := p13) op_add (pe_ix (pos := p11) (X := X) (ix_list (X := X)) v9 (pe_int (j := j10) (pos := p10) (i := 0)) (fun _ _ => rfl)) (pe_int (X := X) (j := j12) (pos := p12) (i := 1))) (pg_sub (pos := p8) v6 (pe_int (X := X) (j := j7) (pos := p7) (i := 0)) set_list) hw hw2 rfl)
  have hfor := ps_for (pos := p15) hp hcalm (pi_list vA) gR hbody
  refine pssSub (pss_cons hset (pss_cons (ps_if (pos := p3) hcond.pt pss_never pss_nil) (pss_cons hfor hrest.ps))) fun En σ H ⟨I, r, w⟩ => ?_
  refine ⟨H, I, r, fun v I1 H1 g1 q1 => ?_⟩
  have r1 := (r.grow g1).set (i := iA) q1
  obtain ⟨a, vs, rfl, fa, ea, ra⟩ := rep_fl.mp q1
  refine ⟨H, I1, r1, fun I2 H2 g2 => ?_⟩
  refine iteF ?_
  have rows := ra.fls
  have e1 : (σ.set iA (some (.ref a)))[iA]? = some (some (.ref a)) := List.getElem?_set_self (by rw [r.len]; exact lA)
  have hlen : iR < ρ.length := (List.getElem?_eq_some_iff.mp hu2).1
  refine ⟨.ref a, e1, a, rfl, ⟨vs, .inl (.inl (g2.s _ _ (g2.i _ _ ea)))⟩, fun i m σ' H' => m = vs.length - i ∧ i ≤ vs.length ∧ σ'.length = ρ.length ∧ (∀ j, j ≠ iR → σ'[j]? = (σ.set iA (some (.ref a)))[j]?) ∧ Same H H' ∧ H' a = some (.lst vs) ∧ ∀ v ∈ vs, ∃ q z zs, v = .ref q ∧ H q = none ∧ q ≠ a ∧ H' q = some (.lst (.int z :: zs)), ⟨_, rfl, Nat.zero_le _, by rw [List.length_set]; exact r.len, fun _ _ => rfl, g1.h.trans g2.h, g2.s _ _ (g2.i _ _ ea), fun v hv => ?_⟩, ?_⟩
  · obtain ⟨q, ns, m, e2, f, e3⟩ := rows v hv
    have np := hpos ns m
    cases ns with
    | nil => exact absurd rfl np
    | cons z zs =>
      refine ⟨q, z, zs.map V.int, e2, f, fun eq => ?_, g2.s _ _ (g2.i _ _ e3)⟩
      subst eq
      rw [ea] at e3
      cases e3
      rw [e2] at hv
      obtain ⟨y, _, hy⟩ := List.mem_map.mp hv
      cases hy
  · rintro i m σ' H' ⟨rfl, hi, hl, hσ, hs, ha, hrows⟩
    have wk := walk_list (K := X.K) (a := a) (xs := vs)
    by_cases hlt : i < vs.length
    · refine .inr ⟨wk.goes i H' hlt (.inl (.inl ha)), fun σ'' H'' => (σ''.length = ρ.length ∧ (∀ j, j ≠ iR → σ''[j]? = (σ.set iA (some (.ref a)))[j]?) ∧ Same H H'' ∧ H'' a = some (.lst vs) ∧ ∀ v ∈ vs, ∃ q z zs, v = .ref q ∧ H q = none ∧ q ≠ a ∧ H'' q = some (.lst (.int z :: zs))), fun σ'' H'' q => ⟨vs.length - (i + 1), by omega, rfl, by omega, q⟩, fun x H2' y => ?_⟩
      obtain ⟨rfl, ex⟩ := wk.yields i H' x H2' hlt (.inl (.inl ha)) y
      have hx : x ∈ vs := List.mem_of_getElem? ex
      obtain ⟨q, z, zs, rfl, fq, nq, eq⟩ := hrows x hx
      have e2 : (σ'.set iR (some (.ref q)))[iR]? = some (some (.ref q)) := List.getElem?_set_self (by rw [hl]; exact hlen)
      refine ⟨.ref q, e2, q, .int z :: zs, 0, .int z, rfl, rfl, .inl (.inl eq), by unfold atI ixN; simp, z, 1, rfl, rfl, ?_⟩
      refine ⟨.ref q, e2, q, .int z :: zs, 0, 0, rfl, rfl, eq, ?_, ?_⟩
      · unfold ixN; simp
      · refine ⟨by rw [List.length_set]; exact hl, fun j hj => by rw [List.getElem?_set_ne (fun e => hj e.symm)]; exact hσ j hj, same_mut hs fq, by rw [upd_ne (fun e => nq e.symm)]; exact ha, fun v hv => ?_⟩
        obtain ⟨q', z', zs', e3, f', n', e4⟩ := hrows v hv
        by_cases hq : q' = q
        · subst hq
          exact ⟨q', z + 1, zs, e3, f', n', upd_same⟩
        · exact ⟨q', z', zs', e3, f', n', by rw [upd_ne hq]; exact e4⟩
    · have hie : i = vs.length := by omega
      subst hie
      refine .inl ⟨wk.stops H' (.inl (.inl ha)), I, H, I, ⟨r.s.trans hs, hs, hl, fun j sl ej => ?_, fun j k p oj ok e1 => ?_⟩, ⟨.refl _, hs, r.s.trans hs, fun _ z1 z2 => absurd z1 z2⟩, w⟩
      · have hcs := List.all_eq_true.mp hc _ (List.mem_of_getElem? ej)
        cases sl with
        | un => trivial
        | ow o => cases hcs
        | im d =>
          have j1 : j ≠ iA := fun h => by subst h; rw [hu1] at ej; cases ej
          have j2 : j ≠ iR := fun h => by subst h; rw [hu2] at ej; cases ej
          obtain ⟨v, ev, rv⟩ := r.sl j _ ej
          refine ⟨v, ?_, rv⟩
          rw [hσ j j2, List.getElem?_set_ne (fun h => j1 h.symm)]
          exact ev
      · have hcs := List.all_eq_true.mp hc _ (List.mem_of_getElem? e1)
        cases hcs
end
end DL
/-! echelon forms, in plain Lean: the functions -/
namespace EM
open DL
def firstC (row : List Int) : Option Nat := row.findIdx? (fun x => x != 0)
def lead (row : List Int) : Nat := (firstC row).getD 0
def inv (p n : Int) : Int := n ^ (p - 2).toNat % p
def lessM (p : Int) (row other : List Int) (n : Int) : List Int := row.zipIdx.map fun x => (x.1 - n * nth other (x.2 : Nat)) % p
def monicM (p : Int) (row : List Int) : List Int := match firstC row with
  | none => row
  | some c => row.map fun x => x * inv p (nth row (c : Nat)) % p
def clear1 (p : Int) (left s : List Int) : List Int := if nth left (lead s : Nat) = 0 then left else lessM p left s (nth left (lead s : Nat))
def clearM (p : Int) (row : List Int) (steps : List (List Int)) : List Int := steps.foldl (clear1 p) row
def othersM (p : Int) (steps : List (List Int)) (step : List Int) : List (List Int) := steps.map fun o => lessM p o step (nth o (lead step : Nat))
def withM (p : Int) (steps : List (List Int)) (row : List Int) : List (List Int) :=
  (othersM p steps (monicM p row)).filter (fun o => decide (lead o < lead (monicM p row))) ++ [monicM p row] ++ (othersM p steps (monicM p row)).filter fun o => decide (lead (monicM p row) < lead o)
def echStep (p : Int) (steps : List (List Int)) (row : List Int) : List (List Int) := if (firstC (clearM p row steps)).isSome then withM p steps (clearM p row steps) else steps
def echM (p : Int) (rows : List (List Int)) : List (List Int) := rows.foldl (echStep p) []
def Red (p : Int) (xs : List Int) : Prop := ∀ x ∈ xs, 0 ≤ x ∧ x < p
structure Good (p : Int) : Prop where
  lo : 2 ≤ p
  hi : p ≤ 97
  inv : ∀ a : Int, 0 < a → a < p → a * inv p a % p = 1
/-- rows of one width of reduced numbers -/
def Rows (p : Int) (w : Nat) (rows : List (List Int)) : Prop := ∀ r ∈ rows, r.length = w ∧ Red p r
end EM
namespace EM
open DL
/-! ### entries -/
theorem nth_nat {xs : List Int} {j : Nat} (h : j < xs.length) : nth xs (j : Nat) = xs[j] := by
  unfold nth
  rw [Int.toNat_natCast, List.getD_eq_getElem?_getD, List.getElem?_eq_getElem h]
  rfl
theorem ext_nth {xs ys : List Int} (h : xs.length = ys.length) (e : ∀ j : Nat, j < xs.length → nth xs (j : Nat) = nth ys (j : Nat)) : xs = ys := by
  apply List.ext_getElem h
  intro j h1 h2
  rw [← nth_nat h1, ← nth_nat h2]
  exact e j h1
theorem red_at {p : Int} {xs : List Int} (h : Red p xs) {j : Nat} (hj : j < xs.length) : 0 ≤ nth xs (j : Nat) ∧ nth xs (j : Nat) < p := by
  rw [nth_nat hj]
  exact h _ (List.getElem_mem hj)
theorem firstC_iff {row : List Int} {c : Nat} : firstC row = some c ↔ c < row.length ∧ nth row (c : Nat) ≠ 0 ∧ ∀ j : Nat, j < c → nth row (j : Nat) = 0 := by
  unfold firstC
  rw [List.findIdx?_eq_some_iff_getElem]
  constructor
  · rintro ⟨h1, h2, h3⟩
    refine ⟨h1, ?_, fun j hj => ?_⟩
    · rw [nth_nat h1]; simpa using h2
    · rw [nth_nat (by omega)]; simpa using h3 j hj
  · rintro ⟨h1, h2, h3⟩
    refine ⟨h1, ?_, fun j hj => ?_⟩
    · rw [nth_nat h1] at h2; simpa using h2
    · have := h3 j hj
      rw [nth_nat (by omega)] at this
      simpa using this
theorem firstC_none {row : List Int} : firstC row = none ↔ ∀ j : Nat, j < row.length → nth row (j : Nat) = 0 := by
  constructor
  · intro h j hj
    unfold firstC at h
    rw [List.findIdx?_eq_none_iff] at h
    have := h row[j] (List.getElem_mem hj)
    rw [nth_nat hj]
    simpa using this
  · intro h
    cases e : firstC row with
    | none => rfl
    | some c =>
      obtain ⟨h1, h2, _⟩ := firstC_iff.mp e
      exact absurd (h c h1) h2
theorem lead_eq {row : List Int} {c : Nat} (h1 : c < row.length) (h2 : nth row (c : Nat) ≠ 0) (h3 : ∀ j : Nat, j < c → nth row (j : Nat) = 0) : lead row = c ∧ firstC row = some c := by
  have e := firstC_iff.mpr ⟨h1, h2, h3⟩
  exact ⟨by unfold lead; rw [e]; rfl, e⟩
theorem lead_spec {row : List Int} (h : firstC row ≠ none) : lead row < row.length ∧ nth row (lead row : Nat) ≠ 0 ∧ (∀ j : Nat, j < lead row → nth row (j : Nat) = 0) ∧ firstC row = some (lead row) := by
  obtain ⟨c, hc⟩ := Option.ne_none_iff_exists'.mp h
  have e : lead row = c := by unfold lead; rw [hc]; rfl
  obtain ⟨a, b, d⟩ := firstC_iff.mp hc
  rw [e]
  exact ⟨a, b, d, hc⟩
theorem lessM_length (p : Int) (row other : List Int) (n : Int) : (lessM p row other n).length = row.length := by unfold lessM; rw [List.length_map, List.length_zipIdx]
theorem nth_lessM {p : Int} {row other : List Int} {n : Int} {j : Nat} (h : j < row.length) : nth (lessM p row other n) (j : Nat) = (nth row (j : Nat) - n * nth other (j : Nat)) % p := by
  rw [nth_nat (by rw [lessM_length]; exact h), nth_nat h]
  unfold lessM
  rw [List.getElem_map, List.getElem_zipIdx]
  simp only [Nat.zero_add]
theorem lessM_Red {p : Int} (h : 0 < p) (row other : List Int) (n : Int) : Red p (lessM p row other n) := fun x hx => by
  unfold lessM at hx
  obtain ⟨y, _, rfl⟩ := List.mem_map.mp hx
  exact ⟨Int.emod_nonneg _ (by omega), Int.emod_lt_of_pos _ h⟩
theorem monicM_length (p : Int) (row : List Int) : (monicM p row).length = row.length := by
  unfold monicM
  cases firstC row with
  | none => rfl
  | some c => rw [List.length_map]
/-! ### reduced echelon rows -/
structure RRE (p : Int) (w : Nat) (S : List (List Int)) : Prop where
  rows : Rows p w S
  nz : ∀ s ∈ S, firstC s ≠ none
  one : ∀ s ∈ S, nth s (lead s : Nat) = 1
  cl : ∀ s ∈ S, ∀ t ∈ S, lead s ≠ lead t → nth t (lead s : Nat) = 0
  ord : S.Pairwise fun s t => lead s < lead t
theorem rre_nil (p : Int) (w : Nat) : RRE p w [] := ⟨fun _ h => absurd h (by simp), fun _ h => absurd h (by simp), fun _ h => absurd h (by simp), fun _ h => absurd h (by simp), .nil⟩
theorem RRE.llt {p : Int} {w : Nat} {S : List (List Int)} (R : RRE p w S) {s : List Int} (h : s ∈ S) : lead s < w := by
  have := (lead_spec (R.nz s h)).1
  rw [(R.rows s h).1] at this
  exact this
theorem clear1_ok {p : Int} {w : Nat} (hp : 2 ≤ p) {left s : List Int} (hl : left.length = w) (hr : Red p left) : (clear1 p left s).length = w ∧ Red p (clear1 p left s) := by
  unfold clear1
  split
  · exact ⟨hl, hr⟩
  · exact ⟨by rw [lessM_length]; exact hl, lessM_Red (by omega) _ _ _⟩
theorem clear1_at {p : Int} {left s : List Int} (h1 : lead s < left.length) (ho : nth s (lead s : Nat) = 1) : nth (clear1 p left s) (lead s : Nat) = 0 := by
  unfold clear1
  split
  · assumption
  · rw [nth_lessM h1, ho, Int.mul_one, Int.sub_self, Int.zero_emod]
theorem clear1_keep {p : Int} {left s : List Int} {j : Nat} (hj : j < left.length) (h : nth left (j : Nat) = 0) (hs : nth s (j : Nat) = 0) : nth (clear1 p left s) (j : Nat) = 0 := by
  unfold clear1
  split
  · exact h
  · rw [nth_lessM hj, h, hs, Int.mul_zero, Int.sub_zero, Int.zero_emod]
theorem clear_gen {p : Int} {w : Nat} {S : List (List Int)} (hp : 2 ≤ p) (R : RRE p w S) : ∀ (todo : List (List Int)) (left : List Int) (done : List (List Int)), (∀ s ∈ todo, s ∈ S) → (∀ s ∈ done, s ∈ S) → (∀ s ∈ S, s ∈ todo ∨ s ∈ done) →
    todo.Pairwise (fun s t => lead s ≠ lead t) → (∀ s ∈ todo, ∀ t ∈ done, lead s ≠ lead t) → left.length = w → Red p left → (∀ s ∈ done, nth left (lead s : Nat) = 0) →
    (todo.foldl (clear1 p) left).length = w ∧ Red p (todo.foldl (clear1 p) left) ∧ ∀ s ∈ S, nth (todo.foldl (clear1 p) left) (lead s : Nat) = 0
  | [], left, done, _, _, h3, _, _, h5, h6, h7 => ⟨h5, h6, fun s hs => h7 s ((h3 s hs).resolve_left (by simp))⟩
  | x :: todo, left, done, h1, h2, h3, h4, h4', h5, h6, h7 => by
    have hx := h1 x List.mem_cons_self
    have ok := clear1_ok (s := x) hp h5 h6
    rw [List.pairwise_cons] at h4
    refine clear_gen hp R todo (clear1 p left x) (x :: done) (fun s hs => h1 s (List.mem_cons_of_mem _ hs)) (fun s hs => ?_) (fun s hs => ?_) h4.2 (fun s hs t ht => ?_) ok.1 ok.2 fun s hs => ?_
    · rcases List.mem_cons.mp hs with rfl | h
      · exact hx
      · exact h2 s h
    · rcases h3 s hs with h | h
      · rcases List.mem_cons.mp h with rfl | h
        · exact .inr List.mem_cons_self
        · exact .inl h
      · exact .inr (List.mem_cons_of_mem _ h)
    · rcases List.mem_cons.mp ht with rfl | h
      · exact fun e => h4.1 s hs e.symm
      · exact h4' s (List.mem_cons_of_mem _ hs) t h
    · rcases List.mem_cons.mp hs with rfl | h
      · exact clear1_at (by rw [h5]; exact R.llt hx) (R.one _ hx)
      · have hsS := h2 s h
        exact clear1_keep (by rw [h5]; exact R.llt hsS) (h7 s h) (R.cl s hsS x hx (fun e => h4' x List.mem_cons_self s h e.symm))
theorem clear_ok {p : Int} {w : Nat} {S : List (List Int)} (hp : 2 ≤ p) (R : RRE p w S) {row : List Int} (hl : row.length = w) (hr : Red p row) :
    (clearM p row S).length = w ∧ Red p (clearM p row S) ∧ ∀ s ∈ S, nth (clearM p row S) (lead s : Nat) = 0 :=
  clear_gen hp R S row [] (fun _ h => h) (fun _ h => absurd h (by simp)) (fun _ h => .inl h) (R.ord.imp fun h => Nat.ne_of_lt h) (fun _ _ _ h => absurd h (by simp)) hl hr fun _ h => absurd h (by simp)
/-! ### the monic row -/
theorem nth_monic {p : Int} {row : List Int} (h : firstC row ≠ none) {j : Nat} (hj : j < row.length) : nth (monicM p row) (j : Nat) = nth row (j : Nat) * inv p (nth row (lead row : Nat)) % p := by
  obtain ⟨_, _, _, e⟩ := lead_spec h
  rw [nth_nat (by rw [monicM_length]; exact hj), nth_nat hj]
  unfold monicM
  simp only [e]
  rw [List.getElem_map]
theorem monic_ok {p : Int} (G : Good p) {row : List Int} (hr : Red p row) (h : firstC row ≠ none) :
    Red p (monicM p row) ∧ firstC (monicM p row) ≠ none ∧ lead (monicM p row) = lead row ∧ nth (monicM p row) (lead row : Nat) = 1 := by
  obtain ⟨h1, h2, h3, e⟩ := lead_spec h
  have hb := red_at hr h1
  have e1 : nth (monicM p row) (lead row : Nat) = 1 := by
    rw [nth_monic h h1]
    exact G.inv _ (by omega) hb.2
  have hl := lead_eq (row := monicM p row) (c := lead row) (by rw [monicM_length]; exact h1) (by rw [e1]; decide) fun j hj => by
    rw [nth_monic h (by omega), h3 j hj, Int.zero_mul, Int.zero_emod]
  refine ⟨fun x hx => ?_, by rw [hl.2]; exact fun z => (by cases z), hl.1, e1⟩
  obtain ⟨j, hj, rfl⟩ := List.mem_iff_getElem.mp hx
  rw [monicM_length] at hj
  rw [← nth_nat, nth_monic h hj]
  have := G.lo
  exact ⟨Int.emod_nonneg _ (by omega), Int.emod_lt_of_pos _ (by omega)⟩
/-! ### one row more -/
theorem emod_red {x p : Int} (h : 0 ≤ x ∧ x < p) : x % p = x := Int.emod_eq_of_lt h.1 h.2
section
variable {p : Int} {w : Nat} {S : List (List Int)} {left : List Int}
theorem other_ok (G : Good p) (R : RRE p w S) (hl : left.length = w) (hr : Red p left) (hz : ∀ s ∈ S, nth left (lead s : Nat) = 0) (hn : firstC left ≠ none) {o : List Int} (ho : o ∈ S) :
    (lessM p o (monicM p left) (nth o (lead left : Nat))).length = w ∧ Red p (lessM p o (monicM p left) (nth o (lead left : Nat))) ∧ firstC (lessM p o (monicM p left) (nth o (lead left : Nat))) ≠ none ∧
    lead (lessM p o (monicM p left) (nth o (lead left : Nat))) = lead o ∧ nth (lessM p o (monicM p left) (nth o (lead left : Nat))) (lead o : Nat) = 1 ∧ lead o ≠ lead left ∧
    nth (lessM p o (monicM p left) (nth o (lead left : Nat))) (lead left : Nat) = 0 ∧ (∀ s ∈ S, lead s ≠ lead o → nth (lessM p o (monicM p left) (nth o (lead left : Nat))) (lead s : Nat) = 0) := by
  obtain ⟨h1, h2, h3, e⟩ := lead_spec hn
  obtain ⟨m1, m2, m3, m4⟩ := monic_ok G hr hn
  obtain ⟨o1, o2, o3, oe⟩ := lead_spec (R.nz o ho)
  obtain ⟨ol, or'⟩ := R.rows o ho
  have hpl := G.lo
  have ne : lead o ≠ lead left := fun e => h2 (by rw [← e]; exact hz o ho)
  -- the monic row at the leads
  have mz : ∀ s ∈ S, nth (monicM p left) (lead s : Nat) = 0 := fun s hs => by
    rw [nth_monic hn (by rw [hl]; exact R.llt hs), hz s hs, Int.zero_mul, Int.zero_emod]
  have mb : ∀ j : Nat, j < lead left → nth (monicM p left) (j : Nat) = 0 := fun j hj => by
    rw [nth_monic hn (by omega), h3 j hj, Int.zero_mul, Int.zero_emod]
  have low : ∀ j : Nat, j < o.length → nth (monicM p left) (j : Nat) = 0 ∨ nth o (lead left : Nat) = 0 → nth (lessM p o (monicM p left) (nth o (lead left : Nat))) (j : Nat) = nth o (j : Nat) := fun j hj h => by
    rw [nth_lessM hj]
    have e0 : nth o (lead left : Nat) * nth (monicM p left) (j : Nat) = 0 := by
      rcases h with h | h
      · rw [h, Int.mul_zero]
      · rw [h, Int.zero_mul]
    rw [e0, Int.sub_zero, emod_red (red_at or' hj)]
  have att : nth (lessM p o (monicM p left) (nth o (lead left : Nat))) (lead o : Nat) = 1 := by
    rw [low _ o1 (.inl (mz o ho))]
    exact R.one o ho
  have hlead := lead_eq (row := lessM p o (monicM p left) (nth o (lead left : Nat))) (c := lead o) (by rw [lessM_length]; exact o1) (by rw [att]; decide) fun j hj => by
    by_cases hlt : lead o < lead left
    · rw [low j (by omega) (.inl (mb j (by omega)))]
      exact o3 j hj
    · have hz0 : nth o (lead left : Nat) = 0 := o3 _ (by omega)
      rw [low j (by omega) (.inr hz0)]
      exact o3 j hj
  refine ⟨by rw [lessM_length]; exact ol, lessM_Red (by omega) _ _ _, by rw [hlead.2]; exact fun z => (by cases z), hlead.1, att, ne, ?_, fun s hs hne => ?_⟩
  · rw [nth_lessM (by omega), m4, Int.mul_one, Int.sub_self, Int.zero_emod]
  · rw [nth_lessM (by rw [ol]; exact R.llt hs), mz s hs, Int.mul_zero, Int.sub_zero, R.cl s hs o ho hne, Int.zero_emod]
theorem with_ok (G : Good p) (R : RRE p w S) (hl : left.length = w) (hr : Red p left) (hz : ∀ s ∈ S, nth left (lead s : Nat) = 0) (hn : firstC left ≠ none) : RRE p w (withM p S left) := by
  obtain ⟨m1, m2, m3, m4⟩ := monic_ok G hr hn
  obtain ⟨h1, h2, h3, e⟩ := lead_spec hn
  have oo := fun o ho => other_ok (o := o) G R hl hr hz hn ho
  have mz : ∀ s ∈ S, nth (monicM p left) (lead s : Nat) = 0 := fun s hs => by
    rw [nth_monic hn (by rw [hl]; exact R.llt hs), hz s hs, Int.zero_mul, Int.zero_emod]
  have mem : ∀ s, s ∈ withM p S left → s = monicM p left ∨ ∃ o ∈ S, s = lessM p o (monicM p left) (nth o (lead left : Nat)) := fun s hs => by
    unfold withM othersM at hs
    rw [m3] at hs
    simp only [List.mem_append, List.mem_filter, List.mem_map, List.mem_singleton] at hs
    rcases hs with (⟨⟨o, ho, rfl⟩, _⟩ | rfl) | ⟨⟨o, ho, rfl⟩, _⟩
    · exact .inr ⟨o, ho, rfl⟩
    · exact .inl rfl
    · exact .inr ⟨o, ho, rfl⟩
  refine ⟨fun s hs => ?_, fun s hs => ?_, fun s hs => ?_, fun s hs t ht hne => ?_, ?_⟩
  · rcases mem s hs with rfl | ⟨o, ho, rfl⟩
    · exact ⟨by rw [monicM_length]; exact hl, m1⟩
    · exact ⟨(oo o ho).1, (oo o ho).2.1⟩
  · rcases mem s hs with rfl | ⟨o, ho, rfl⟩
    · exact m2
    · exact (oo o ho).2.2.1
  · rcases mem s hs with rfl | ⟨o, ho, rfl⟩
    · rw [m3]; exact m4
    · rw [(oo o ho).2.2.2.1]; exact (oo o ho).2.2.2.2.1
  · rcases mem s hs with rfl | ⟨o, ho, rfl⟩
    · rcases mem t ht with rfl | ⟨o', ho', rfl⟩
      · exact absurd rfl hne
      · rw [m3]; exact (oo o' ho').2.2.2.2.2.2.1
    · rw [(oo o ho).2.2.2.1] at hne ⊢
      rcases mem t ht with rfl | ⟨o', ho', rfl⟩
      · exact mz o ho
      · rw [(oo o' ho').2.2.2.1] at hne
        exact (oo o' ho').2.2.2.2.2.2.2 o ho hne
  · unfold withM othersM
    rw [m3]
    have pw : (S.map fun o => lessM p o (monicM p left) (nth o (lead left : Nat))).Pairwise fun s t => lead s < lead t := by
      rw [List.pairwise_map]
      refine (List.Pairwise.and_mem.mp R.ord).imp fun {a b} h => ?_
      rw [(oo a h.1).2.2.2.1, (oo b h.2.1).2.2.2.1]
      exact h.2.2
    rw [List.pairwise_append, List.pairwise_append]
    refine ⟨⟨pw.filter _, List.pairwise_singleton _ _, fun a ha b hb => ?_⟩, pw.filter _, fun a ha b hb => ?_⟩
    · rw [List.mem_singleton.mp hb, m3]
      exact of_decide_eq_true (List.mem_filter.mp ha).2
    · have hb2 : lead left < lead b := of_decide_eq_true (List.mem_filter.mp hb).2
      rcases List.mem_append.mp ha with ha | ha
      · have : lead a < lead left := of_decide_eq_true (List.mem_filter.mp ha).2
        omega
      · rw [List.mem_singleton.mp ha, m3]
        exact hb2
end
end EM
namespace EM
open DL
theorem filter_two {α : Type} (f g : α → Bool) (h : ∀ x, f x = true → g x = false) : ∀ xs : List α, (xs.filter f).length + (xs.filter g).length ≤ xs.length
  | [] => Nat.le_refl _
  | x :: xs => by
    have ih := filter_two f g h xs
    rw [List.filter_cons, List.filter_cons, List.length_cons]
    cases ef : f x with
    | true =>
      rw [h x ef]
      simp only [if_true, Bool.false_eq_true, if_false, List.length_cons]
      omega
    | false =>
      cases g x <;> simp only [if_true, Bool.false_eq_true, if_false, List.length_cons] <;> omega
theorem withM_len (p : Int) (S : List (List Int)) (row : List Int) : (withM p S row).length ≤ S.length + 1 := by
  unfold withM
  have h := filter_two (fun o => decide (lead o < lead (monicM p row))) (fun o => decide (lead (monicM p row) < lead o)) (fun x hx => by
    have := of_decide_eq_true hx
    exact decide_eq_false (by omega)) (othersM p S (monicM p row))
  have e : (othersM p S (monicM p row)).length = S.length := by unfold othersM; rw [List.length_map]
  rw [List.length_append, List.length_append, List.length_singleton]
  omega
theorem ech_step_ok {p : Int} {w : Nat} (G : Good p) {S : List (List Int)} (R : RRE p w S) {row : List Int} (hl : row.length = w) (hr : Red p row) : RRE p w (echStep p S row) ∧ (echStep p S row).length ≤ S.length + 1 := by
  obtain ⟨c1, c2, c3⟩ := clear_ok G.lo R hl hr
  unfold echStep
  cases e : firstC (clearM p row S) with
  | none => exact ⟨R, by simp⟩
  | some c => exact ⟨with_ok G R c1 c2 c3 (by rw [e]; exact fun z => by cases z), by simpa using withM_len p S _⟩
theorem ech_fold_ok {p : Int} {w : Nat} (G : Good p) : ∀ (rows S : List (List Int)), Rows p w rows → RRE p w S → RRE p w (rows.foldl (echStep p) S) ∧ (rows.foldl (echStep p) S).length ≤ S.length + rows.length
  | [], S, _, R => ⟨R, Nat.le_refl _⟩
  | r :: rows, S, h, R => by
    obtain ⟨a, b⟩ := ech_step_ok G R (h r List.mem_cons_self).1 (h r List.mem_cons_self).2
    obtain ⟨c, d⟩ := ech_fold_ok G rows _ (fun s hs => h s (List.mem_cons_of_mem _ hs)) a
    exact ⟨c, by rw [List.length_cons]; show (List.foldl (echStep p) (echStep p S r) rows).length ≤ _; omega⟩
theorem ech_ok {p : Int} {w : Nat} (G : Good p) {rows : List (List Int)} (h : Rows p w rows) : RRE p w (echM p rows) ∧ (echM p rows).length ≤ rows.length := by
  have := ech_fold_ok G rows [] h (rre_nil p w)
  rw [List.length_nil, Nat.zero_add] at this
  exact this
end EM
/-! the law's own echelon form -/
namespace EM
open DL
def elimStep (p : Int) (row : List Int) (found c : Nat) (l : List (List Int)) (k : Nat) : List (List Int) :=
  if k ≠ found ∧ nth (nth l (k : Nat)) (c : Nat) ≠ 0 then l.set k (lessM p (nth l (k : Nat)) row (nth (nth l (k : Nat)) (c : Nat))) else l
def placesM (l : List (List Int)) (found c : Nat) : List Int := ((List.range (l.length - found)).map fun i : Nat => (found : Int) + (i : Nat)).filter fun k => !decide (nth (nth l k) (c : Nat) = 0)
def pivotM (p : Int) (l : List (List Int)) (found c pl : Nat) : List Int := (nth l (pl : Nat)).map fun x => x * inv p (nth (nth l (pl : Nat)) (c : Nat)) % p
def swapM (p : Int) (l : List (List Int)) (found c pl : Nat) : List (List Int) := (l.set pl (nth l (found : Nat))).set found (pivotM p l found c pl)
def colStep (p : Int) (st : List (List Int) × Nat) (c : Nat) : List (List Int) × Nat :=
  match placesM st.1 st.2 c with
  | [] => st
  | pl :: _ => ((List.range st.1.length).foldl (elimStep p (pivotM p st.1 st.2 c pl.toNat) st.2 c) (swapM p st.1 st.2 c pl.toNat), st.2 + 1)
def widthM (rows : List (List Int)) : Nat := match rows with
  | [] => 0
  | r :: _ => r.length
def lawE (p : Int) (rows : List (List Int)) : List (List Int) :=
  ((List.range (widthM rows)).foldl (colStep p) (rows.map fun r => r.map fun x => x % p, 0)).1.take ((List.range (widthM rows)).foldl (colStep p) (rows.map fun r => r.map fun x => x % p, 0)).2
theorem set_rows {p : Int} {w : Nat} {l : List (List Int)} (h : Rows p w l) {r : List Int} (hr : r.length = w ∧ Red p r) (i : Nat) : Rows p w (l.set i r) := fun x hx => by
  rcases List.mem_or_eq_of_mem_set hx with hx | rfl
  · exact h x hx
  · exact hr
theorem nth_row {α : Type} [Inhabited α] {l : List α} {k : Nat} (h : k < l.length) : nth l (k : Nat) = l[k] := by
  unfold nth
  rw [Int.toNat_natCast, List.getD_eq_getElem?_getD, List.getElem?_eq_getElem h]
  rfl
theorem rows_nth {p : Int} {w : Nat} {l : List (List Int)} (h : Rows p w l) {k : Nat} (hk : k < l.length) : (nth l (k : Nat)).length = w ∧ Red p (nth l (k : Nat)) := by
  rw [nth_row hk]
  exact h _ (List.getElem_mem hk)
theorem elim_ok {p : Int} {w : Nat} (hp : 0 < p) {l : List (List Int)} (h : Rows p w l) (row : List Int) (found c k : Nat) : (elimStep p row found c l k).length = l.length ∧ Rows p w (elimStep p row found c l k) := by
  unfold elimStep
  split
  · refine ⟨List.length_set, ?_⟩
    by_cases hk : k < l.length
    · exact set_rows h ⟨by rw [lessM_length]; exact (rows_nth h hk).1, lessM_Red hp _ _ _⟩ k
    · rw [List.set_eq_of_length_le (by omega)]; exact h
  · exact ⟨rfl, h⟩
theorem elims_ok {p : Int} {w : Nat} (hp : 0 < p) (row : List Int) (found c : Nat) : ∀ (ks : List Nat) (l : List (List Int)), Rows p w l → (ks.foldl (elimStep p row found c) l).length = l.length ∧ Rows p w (ks.foldl (elimStep p row found c) l)
  | [], l, h => ⟨rfl, h⟩
  | k :: ks, l, h => by
    obtain ⟨a, b⟩ := elim_ok hp h row found c k
    obtain ⟨d, e⟩ := elims_ok hp row found c ks _ b
    exact ⟨d.trans a, e⟩
theorem places_mem {l : List (List Int)} {found c : Nat} {pl : Int} (h : pl ∈ placesM l found c) : found ≤ pl.toNat ∧ pl.toNat < l.length ∧ 0 ≤ pl ∧ nth (nth l (pl.toNat : Nat)) (c : Nat) ≠ 0 := by
  unfold placesM at h
  obtain ⟨h1, h2⟩ := List.mem_filter.mp h
  obtain ⟨i, hi, rfl⟩ := List.mem_map.mp h1
  have := List.mem_range.mp hi
  have e : ((found : Int) + (i : Nat)).toNat = found + i := by omega
  rw [e]
  have e2 : ((found : Int) + (i : Nat)) = ((found + i : Nat) : Int) := by omega
  rw [e2] at h2
  refine ⟨by omega, by omega, by omega, by simpa using h2⟩
theorem pivot_ok {p : Int} {w : Nat} (hp : 0 < p) {l : List (List Int)} (h : Rows p w l) {found c pl : Nat} (hl : pl < l.length) : (pivotM p l found c pl).length = w ∧ Red p (pivotM p l found c pl) := by
  unfold pivotM
  refine ⟨by rw [List.length_map]; exact (rows_nth h hl).1, fun x hx => ?_⟩
  obtain ⟨y, _, rfl⟩ := List.mem_map.mp hx
  exact ⟨Int.emod_nonneg _ (by omega), Int.emod_lt_of_pos _ hp⟩
theorem swap_ok {p : Int} {w : Nat} (hp : 0 < p) {l : List (List Int)} (h : Rows p w l) {found c pl : Nat} (hf : found < l.length) (hl : pl < l.length) : (swapM p l found c pl).length = l.length ∧ Rows p w (swapM p l found c pl) := by
  unfold swapM
  exact ⟨by rw [List.length_set, List.length_set], set_rows (set_rows h (rows_nth h hf) pl) (pivot_ok hp h hl) found⟩
theorem col_ok {p : Int} {w : Nat} (hp : 0 < p) {st : List (List Int) × Nat} (h : Rows p w st.1) (hf : st.2 ≤ st.1.length) (c : Nat) : (colStep p st c).1.length = st.1.length ∧ Rows p w (colStep p st c).1 ∧ (colStep p st c).2 ≤ st.1.length := by
  unfold colStep
  cases e : placesM st.1 st.2 c with
  | nil => exact ⟨rfl, h, hf⟩
  | cons pl r =>
    obtain ⟨h1, h2, _, _⟩ := places_mem (l := st.1) (found := st.2) (c := c) (pl := pl) (by rw [e]; exact List.mem_cons_self)
    obtain ⟨s1, s2⟩ := swap_ok (c := c) hp h (show st.2 < st.1.length by omega) h2
    obtain ⟨e1, e2⟩ := elims_ok hp (pivotM p st.1 st.2 c pl.toNat) st.2 c (List.range st.1.length) _ s2
    exact ⟨e1.trans s1, e2, by show st.2 + 1 ≤ _; omega⟩
theorem cols_ok {p : Int} {w : Nat} (hp : 0 < p) : ∀ (cs : List Nat) (st : List (List Int) × Nat), Rows p w st.1 → st.2 ≤ st.1.length →
    (cs.foldl (colStep p) st).1.length = st.1.length ∧ Rows p w (cs.foldl (colStep p) st).1 ∧ (cs.foldl (colStep p) st).2 ≤ st.1.length
  | [], st, h, hf => ⟨rfl, h, hf⟩
  | c :: cs, st, h, hf => by
    obtain ⟨a, b, d⟩ := col_ok hp h hf c
    obtain ⟨e, f, g⟩ := cols_ok hp cs (colStep p st c) b (by omega)
    exact ⟨e.trans a, f, by rw [List.foldl_cons]; omega⟩
theorem mod_rows {p : Int} {w : Nat} (hp : 0 < p) {rows : List (List Int)} (h : Rows p w rows) : (rows.map fun r => r.map fun x => x % p) = rows := by
  conv => rhs; rw [← List.map_id rows]
  apply List.map_congr_left
  intro r hr
  conv => rhs; rw [id, ← List.map_id r]
  apply List.map_congr_left
  intro x hx
  exact Int.emod_eq_of_lt ((h r hr).2 x hx).1 ((h r hr).2 x hx).2
/-- the row that is taken off, place by place -/
theorem range_less {p : Int} {a b : List Int} {f : Int} : ((List.range a.length).map fun j : Nat => (nth a (j : Nat) - f * nth b (j : Nat)) % p) = lessM p a b f := by
  refine ext_nth (by rw [List.length_map, List.length_range, lessM_length]) fun j hj => ?_
  rw [List.length_map, List.length_range] at hj
  rw [nth_lessM hj, nth_nat (by rw [List.length_map, List.length_range]; exact hj), List.getElem_map, List.getElem_range]
theorem mul_mod_l (a b p : Int) : (a % p) * b % p = a * b % p := by rw [Int.mul_emod, Int.emod_emod_of_dvd a (Int.dvd_refl p), ← Int.mul_emod]
theorem mul_mod_r (a b p : Int) : a * (b % p) % p = a * b % p := by rw [Int.mul_comm, mul_mod_l, Int.mul_comm]
/-- the inverse that is found by trying -/
theorem over_ok {p n : Int} (G : Good p) (h0 : 0 < n) (h1 : n < p) : 0 < ((List.range p.toNat).filter fun x : Nat => decide ((x : Int) * n % p = 1)).length ∧
    ((nth ((List.range p.toNat).filter fun x : Nat => decide ((x : Int) * n % p = 1)) 0 : Nat) : Int) = inv p n := by
  have hp := G.lo
  have hi := G.inv n h0 h1
  have b0 : 0 ≤ inv p n := Int.emod_nonneg _ (by omega)
  have b1 : inv p n < p := Int.emod_lt_of_pos _ (by omega)
  have hm : (inv p n).toNat ∈ (List.range p.toNat).filter fun x : Nat => decide ((x : Int) * n % p = 1) := by
    rw [List.mem_filter, List.mem_range, decide_eq_true_iff]
    refine ⟨by omega, ?_⟩
    rw [Int.toNat_of_nonneg b0, Int.mul_comm]
    exact hi
  have hl := List.length_pos_of_mem hm
  refine ⟨hl, ?_⟩
  have e : nth ((List.range p.toNat).filter fun x : Nat => decide ((x : Int) * n % p = 1)) 0 = ((List.range p.toNat).filter fun x : Nat => decide ((x : Int) * n % p = 1))[0] := nth_row (k := 0) hl
  rw [e]
  have hx : ((List.range p.toNat).filter fun x : Nat => decide ((x : Int) * n % p = 1))[0] ∈ (List.range p.toNat).filter fun x : Nat => decide ((x : Int) * n % p = 1) := List.getElem_mem hl
  generalize ((List.range p.toNat).filter fun x : Nat => decide ((x : Int) * n % p = 1))[0] = x at hx
  rw [List.mem_filter, List.mem_range, decide_eq_true_iff] at hx
  obtain ⟨x1, x2⟩ := hx
  have q1 : ((x : Int) * n % p) * inv p n % p = inv p n := by rw [x2, Int.one_mul, Int.emod_eq_of_lt b0 b1]
  have q2 : ((x : Int) * n % p) * inv p n % p = (x : Int) := by
    have : ((x : Int) * n % p) * inv p n % p = (x : Int) * (n * inv p n % p) % p := by
      rw [mul_mod_l, Int.mul_assoc, mul_mod_r]
    rw [this, hi, Int.mul_one, Int.emod_eq_of_lt (by omega) (by omega)]
  omega
end EM
/-! two reduced echelon forms of one span are one -/
namespace EM
open DL
/-! ### spans -/
def zeroR (w : Nat) : List Int := List.replicate w 0
inductive Sp (p : Int) (w : Nat) (S : List (List Int)) : List Int → Prop
  | zero : Sp p w S (zeroR w)
  | add {v s : List Int} {c : Int} : Sp p w S v → s ∈ S → Sp p w S (lessM p v s c)
theorem zeroR_len (w : Nat) : (zeroR w).length = w := List.length_replicate
theorem zeroR_nth (w j : Nat) : nth (zeroR w) (j : Nat) = 0 := by
  unfold zeroR nth
  rw [Int.toNat_natCast, List.getD_eq_getElem?_getD, List.getElem?_replicate]
  split <;> rfl
section
variable {p : Int} {w : Nat} {S T : List (List Int)}
theorem Sp.ok (hp : 0 < p) {v : List Int} (h : Sp p w S v) : v.length = w ∧ Red p v := by
  induction h with
  | zero => exact ⟨zeroR_len w, fun x hx => by rw [List.eq_of_mem_replicate hx]; omega⟩
  | add _ _ ih => exact ⟨by rw [lessM_length]; exact ih.1, lessM_Red hp _ _ _⟩
theorem emod_sub_l (a b p : Int) : (a % p - b) % p = (a - b) % p := by
  rw [Int.sub_emod, Int.emod_emod_of_dvd _ (Int.dvd_refl p), ← Int.sub_emod]
theorem emod_sub_r (a b p : Int) : (a - b % p) % p = (a - b) % p := by
  rw [Int.sub_emod, Int.emod_emod_of_dvd b (Int.dvd_refl p), ← Int.sub_emod]
/-- closed under differences of multiples -/
theorem Sp.sub (hp : 0 < p) {u v : List Int} (hu : Sp p w S u) (hv : Sp p w S v) : ∀ c : Int, Sp p w S (lessM p u v c) := by
  induction hv with
  | zero =>
    intro c
    have e : lessM p u (zeroR w) c = u := by
      obtain ⟨l, r⟩ := hu.ok hp
      refine ext_nth (lessM_length _ _ _ _) fun j hj => ?_
      rw [lessM_length] at hj
      rw [nth_lessM hj, zeroR_nth, Int.mul_zero, Int.sub_zero, emod_red (red_at r hj)]
    rw [e]
    exact hu
  | @add v s d hv hs ih =>
    intro c
    have e : lessM p u (lessM p v s d) c = lessM p (lessM p u v c) s (-(c * d)) := by
      obtain ⟨l, _⟩ := hu.ok hp
      obtain ⟨l2, _⟩ := hv.ok hp
      refine ext_nth (by rw [lessM_length, lessM_length, lessM_length]) fun j hj => ?_
      rw [lessM_length] at hj
      rw [nth_lessM hj, nth_lessM (by omega), nth_lessM (by rw [lessM_length]; exact hj), nth_lessM hj, emod_sub_l]
      rw [show nth u (j : Nat) - c * ((nth v (j : Nat) - d * nth s (j : Nat)) % p) = nth u (j : Nat) - (c * ((nth v (j : Nat) - d * nth s (j : Nat)) % p)) from rfl]
      rw [← emod_sub_r _ (c * _), mul_mod_r, emod_sub_r]
      congr 1
      rw [Int.mul_sub, Int.neg_mul, Int.mul_assoc]
      omega
    rw [e]
    exact .add (ih c) hs
theorem Sp.of_mem (hp : 0 < p) {s : List Int} (hs : s ∈ S) (hl : s.length = w) (hr : Red p s) : Sp p w S s := by
  have h := Sp.add (c := -1) (Sp.zero (p := p) (w := w) (S := S)) hs
  have e : lessM p (zeroR w) s (-1) = s := by
    refine ext_nth (by rw [lessM_length, zeroR_len, hl]) fun j hj => ?_
    rw [lessM_length, zeroR_len] at hj
    rw [nth_lessM (by rw [zeroR_len]; exact hj), zeroR_nth]
    have e2 : (0 : Int) - -1 * nth s (j : Nat) = nth s (j : Nat) := by omega
    rw [e2, emod_red (red_at hr (by omega))]
  rw [e] at h
  exact h
theorem Sp.trans (hp : 0 < p) (h : ∀ s ∈ S, Sp p w T s) {v : List Int} (hv : Sp p w S v) : Sp p w T v := by
  induction hv with
  | zero => exact .zero
  | add _ hs ih => exact ih.sub hp (h _ hs) _
/-! ### coordinates -/
def sumAt (S : List (List Int)) (f : List Int → Int) (j : Nat) : Int := (S.map fun s => f s * nth s (j : Nat)).sum
theorem sumAt_sub (f g : List Int → Int) (c : Int) (j : Nat) : ∀ S : List (List Int), sumAt S (fun s => f s - c * g s) j = sumAt S f j - c * sumAt S g j
  | [] => by simp [sumAt]
  | s :: S => by
    have ih := sumAt_sub f g c j S
    unfold sumAt at ih ⊢
    rw [List.map_cons, List.map_cons, List.map_cons, List.sum_cons, List.sum_cons, List.sum_cons, ih, Int.sub_mul, Int.mul_add, Int.mul_assoc]
    omega
theorem sumAt_congr (hp : 0 < p) {f g : List Int → Int} (j : Nat) : ∀ S : List (List Int), (∀ s ∈ S, p ∣ f s - g s) → p ∣ sumAt S f j - sumAt S g j
  | [], _ => by simp [sumAt]
  | s :: S, h => by
    have ih := sumAt_congr hp j S fun t ht => h t (List.mem_cons_of_mem _ ht)
    unfold sumAt at ih ⊢
    rw [List.map_cons, List.map_cons, List.sum_cons, List.sum_cons]
    have e : f s * nth s (j : Nat) + (S.map fun s => f s * nth s (j : Nat)).sum - (g s * nth s (j : Nat) + (S.map fun s => g s * nth s (j : Nat)).sum) = (f s - g s) * nth s (j : Nat) + ((S.map fun s => f s * nth s (j : Nat)).sum - (S.map fun s => g s * nth s (j : Nat)).sum) := by
      rw [Int.sub_mul]; omega
    rw [e]
    exact Int.dvd_add (Int.dvd_trans (h s List.mem_cons_self) (Int.dvd_mul_right _ _)) ih
theorem sumAt_zero {f : List Int → Int} (j : Nat) : ∀ S : List (List Int), (∀ s ∈ S, f s * nth s (j : Nat) = 0) → sumAt S f j = 0
  | [], _ => by simp [sumAt]
  | s :: S, h => by
    have ih := sumAt_zero j S fun t ht => h t (List.mem_cons_of_mem _ ht)
    unfold sumAt at ih ⊢
    rw [List.map_cons, List.sum_cons, ih, h s List.mem_cons_self]
    omega
/-- all but one are 0 -/
theorem sumAt_one {f : List Int → Int} (j : Nat) {s0 : List Int} : ∀ S : List (List Int), S.Pairwise (fun s t => lead s < lead t) → s0 ∈ S → (∀ s ∈ S, lead s ≠ lead s0 → f s * nth s (j : Nat) = 0) → sumAt S f j = f s0 * nth s0 (j : Nat)
  | [], _, h, _ => absurd h (by simp)
  | s :: S, hp, hm, hz => by
    rw [List.pairwise_cons] at hp
    rcases List.mem_cons.mp hm with rfl | hm
    · have z := sumAt_zero (f := f) j S fun t ht => hz t (List.mem_cons_of_mem _ ht) (by have := hp.1 t ht; omega)
      unfold sumAt at z ⊢
      rw [List.map_cons, List.sum_cons, z]
      omega
    · have ih := sumAt_one (f := f) j S hp.2 hm fun t ht => hz t (List.mem_cons_of_mem _ ht)
      have := hp.1 s0 hm
      have e := hz s List.mem_cons_self (by omega)
      unfold sumAt at ih ⊢
      rw [List.map_cons, List.sum_cons, e, ih]
      omega
theorem coords (hp : 2 ≤ p) (R : RRE p w S) {v : List Int} (h : Sp p w S v) : ∀ j : Nat, j < w → p ∣ nth v (j : Nat) - sumAt S (fun s => nth v (lead s : Nat)) j := by
  induction h with
  | zero =>
    intro j _
    rw [zeroR_nth, sumAt_zero j S fun s _ => by rw [zeroR_nth, Int.zero_mul]]
    exact ⟨0, by simp⟩
  | @add v s0 c hv hs ih =>
    intro j hj
    obtain ⟨l, r⟩ := hv.ok (by omega)
    have l0 := (R.rows s0 hs).1
    rw [nth_lessM (by omega)]
    have cg := sumAt_congr (p := p) (by omega) (f := fun s => nth (lessM p v s0 c) (lead s : Nat)) (g := fun s => nth v (lead s : Nat) - c * nth s0 (lead s : Nat)) j S fun s hs' => by
      rw [nth_lessM (by rw [l]; exact R.llt hs')]
      exact Int.dvd_of_emod_eq_zero (by rw [emod_sub_l, Int.sub_self, Int.zero_emod])
    rw [sumAt_sub] at cg
    have one : sumAt S (fun s => nth s0 (lead s : Nat)) j = nth s0 (j : Nat) := by
      rw [sumAt_one (f := fun s => nth s0 (lead s : Nat)) j S R.ord hs fun s hs' hne => by rw [R.cl s hs' s0 hs hne, Int.zero_mul]]
      rw [R.one s0 hs, Int.one_mul]
    rw [one] at cg
    have d1 := ih j hj
    have d2 : p ∣ (nth v (j : Nat) - c * nth s0 (j : Nat)) % p - (nth v (j : Nat) - c * nth s0 (j : Nat)) := Int.dvd_of_emod_eq_zero (by rw [emod_sub_l, Int.sub_self, Int.zero_emod])
    have e : (nth v (j : Nat) - c * nth s0 (j : Nat)) % p - sumAt S (fun s => nth (lessM p v s0 c) (lead s : Nat)) j =
        ((nth v (j : Nat) - c * nth s0 (j : Nat)) % p - (nth v (j : Nat) - c * nth s0 (j : Nat))) + (nth v (j : Nat) - sumAt S (fun s => nth v (lead s : Nat)) j) - (sumAt S (fun s => nth (lessM p v s0 c) (lead s : Nat)) j - (sumAt S (fun s => nth v (lead s : Nat)) j - c * nth s0 (j : Nat))) := by omega
    rw [e]
    exact Int.dvd_sub (Int.dvd_add d2 d1) cg
theorem eq_of_dvd {x : Int} (h : p ∣ x) (h0 : 0 ≤ x) (h1 : x < p) : x = 0 := by
  have := Int.emod_eq_zero_of_dvd h
  rw [Int.emod_eq_of_lt h0 h1] at this
  exact this
/-- the leads of one are leads of the other -/
theorem lead_in (hp : 2 ≤ p) (R : RRE p w S) {t : List Int} (h : Sp p w S t) (hn : firstC t ≠ none) : ∃ s ∈ S, lead s = lead t := by
  obtain ⟨l, r⟩ := h.ok (by omega)
  obtain ⟨t1, t2, t3, _⟩ := lead_spec hn
  refine Classical.byContradiction fun hc => t2 ?_
  have d := coords hp R h (lead t) (by omega)
  rw [sumAt_zero (lead t) S fun s hs => ?_, Int.sub_zero] at d
  · exact eq_of_dvd d (red_at r t1).1 (red_at r t1).2
  · have ne : lead s ≠ lead t := fun e => hc ⟨s, hs, e⟩
    obtain ⟨s1, s2, s3, _⟩ := lead_spec (R.nz s hs)
    by_cases hlt : lead s < lead t
    · rw [t3 _ hlt, Int.zero_mul]
    · rw [s3 (lead t) (by omega), Int.mul_zero]
theorem mem_of_span (hp : 2 ≤ p) (R : RRE p w S) (R' : RRE p w T) (h1 : ∀ t ∈ T, Sp p w S t) (h2 : ∀ s ∈ S, Sp p w T s) {t : List Int} (ht : t ∈ T) : t ∈ S := by
  obtain ⟨s, hs, hl⟩ := lead_in hp R (h1 t ht) (R'.nz t ht)
  have l1 := R'.rows t ht
  have l2 := R.rows s hs
  have e : t = s := by
    refine ext_nth (by rw [l1.1, l2.1]) fun j hj => ?_
    have d := coords hp R (h1 t ht) j (by omega)
    have one : sumAt S (fun s' => nth t (lead s' : Nat)) j = nth t (lead s : Nat) * nth s (j : Nat) := by
      refine sumAt_one (f := fun s' => nth t (lead s' : Nat)) j S R.ord hs fun s' hs' hne => ?_
      obtain ⟨t', ht', hl'⟩ := lead_in hp R' (h2 s' hs') (R.nz s' hs')
      have : nth t (lead t' : Nat) = 0 := R'.cl t' ht' t ht (by omega)
      rw [← hl', this, Int.zero_mul]
    rw [one, hl, R'.one t ht, Int.one_mul] at d
    have b1 := red_at l1.2 hj
    have b2 := red_at l2.2 (j := j) (by omega)
    rcases Int.le_total (nth s (j : Nat)) (nth t (j : Nat)) with hle | hle
    · have := eq_of_dvd d (by omega) (by omega); omega
    · have d' : p ∣ nth s (j : Nat) - nth t (j : Nat) := by
        have := Int.dvd_neg.mpr d
        have e : -(nth t (j : Nat) - nth s (j : Nat)) = nth s (j : Nat) - nth t (j : Nat) := by omega
        rw [e] at this
        exact this
      have := eq_of_dvd d' (by omega) (by omega); omega
  rw [e]
  exact hs
theorem sorted_eq {α : Type} {f : α → Nat} : ∀ {xs ys : List α}, xs.Pairwise (fun a b => f a < f b) → ys.Pairwise (fun a b => f a < f b) → (∀ x, x ∈ xs ↔ x ∈ ys) → xs = ys
  | [], [], _, _, _ => rfl
  | [], y :: ys, _, _, h => absurd ((h y).mpr List.mem_cons_self) (by simp)
  | x :: xs, [], _, _, h => absurd ((h x).mp List.mem_cons_self) (by simp)
  | x :: xs, y :: ys, hx, hy, h => by
    rw [List.pairwise_cons] at hx hy
    have exy : x = y := by
      rcases List.mem_cons.mp ((h x).mp List.mem_cons_self) with e | h1
      · exact e
      · rcases List.mem_cons.mp ((h y).mpr List.mem_cons_self) with e | h2
        · exact e.symm
        · have a := hy.1 x h1
          have b := hx.1 y h2
          omega
    subst exy
    rw [sorted_eq hx.2 hy.2 fun z => ⟨fun hz => ?_, fun hz => ?_⟩]
    · rcases List.mem_cons.mp ((h z).mp (List.mem_cons_of_mem _ hz)) with e | h1
      · subst e; exact absurd (hx.1 z hz) (by omega)
      · exact h1
    · rcases List.mem_cons.mp ((h z).mpr (List.mem_cons_of_mem _ hz)) with e | h1
      · subst e; exact absurd (hy.1 z hz) (by omega)
      · exact h1
theorem rre_unique (hp : 2 ≤ p) (R : RRE p w S) (R' : RRE p w T) (h1 : ∀ t ∈ T, Sp p w S t) (h2 : ∀ s ∈ S, Sp p w T s) : S = T :=
  sorted_eq R.ord R'.ord fun _ => ⟨fun h => mem_of_span hp R' R h2 h1 h, fun h => mem_of_span hp R R' h1 h2 h⟩
end
end EM
/-! the two forms span the same, so they are one -/
namespace EM
open DL
section
variable {p : Int} {w : Nat} {S T : List (List Int)}
theorem Sp.mono (h : ∀ s ∈ S, s ∈ T) {v : List Int} (hv : Sp p w S v) : Sp p w T v := by
  induction hv with
  | zero => exact .zero
  | add _ hs ih => exact .add ih (h _ hs)
/-- a multiple -/
def scaleM (p : Int) (v : List Int) (c : Int) : List Int := v.map fun x => x * c % p
theorem scale_eq {v : List Int} (hl : v.length = w) (c : Int) : scaleM p v c = lessM p (zeroR w) v (-c) := by
  refine ext_nth (by unfold scaleM; rw [List.length_map, lessM_length, zeroR_len, hl]) fun j hj => ?_
  unfold scaleM at hj ⊢
  rw [List.length_map] at hj
  rw [nth_lessM (by rw [zeroR_len]; omega), zeroR_nth, nth_nat (by rw [List.length_map]; exact hj), List.getElem_map, nth_nat hj]
  congr 1
  rw [Int.neg_mul, Int.zero_sub, Int.neg_neg, Int.mul_comm]
theorem Sp.scale (hp : 0 < p) {v : List Int} (hv : Sp p w S v) (c : Int) : Sp p w S (scaleM p v c) := by
  rw [scale_eq (hv.ok hp).1]
  exact Sp.zero.sub hp hv _
theorem less_back {v s : List Int} (hr : Red p v) (c : Int) : lessM p (lessM p v s c) s (-c) = v := by
  refine ext_nth (by rw [lessM_length, lessM_length]) fun j hj => ?_
  rw [lessM_length, lessM_length] at hj
  rw [nth_lessM (by rw [lessM_length]; exact hj), nth_lessM hj, emod_sub_l, Int.neg_mul]
  have e : nth v (j : Nat) - c * nth s (j : Nat) - -(c * nth s (j : Nat)) = nth v (j : Nat) := by omega
  rw [e]
  exact emod_red (red_at hr hj)
theorem scale_back {v : List Int} (hr : Red p v) {a b : Int} (h : a * b % p = 1) : scaleM p (scaleM p v b) a = v := by
  unfold scaleM
  rw [List.map_map]
  conv => rhs; rw [← List.map_id v]
  apply List.map_congr_left
  intro x hx
  show (x * b % p) * a % p = x
  have e : x * b % p * a % p = x * (a * b % p) % p := by rw [mul_mod_l, mul_mod_r, Int.mul_assoc, Int.mul_comm b a]
  rw [e, h, Int.mul_one]
  exact emod_red (hr x hx)
theorem Sp.less_iff (hp : 0 < p) {v s : List Int} (hr : Red p v) (hs : Sp p w T s) (c : Int) : Sp p w T (lessM p v s c) ↔ Sp p w T v :=
  ⟨fun h => by have := h.sub hp hs (-c); rw [less_back hr] at this; exact this, fun h => h.sub hp hs c⟩
theorem clear_span (hp : 2 ≤ p) : ∀ (S : List (List Int)) (left : List Int), left.length = w → Red p left → (∀ s ∈ S, Sp p w T s) → (Sp p w T (S.foldl (clear1 p) left) ↔ Sp p w T left)
  | [], left, _, _, _ => Iff.rfl
  | s :: S, left, hl, hr, h => by
    obtain ⟨a, b⟩ := clear1_ok (s := s) hp hl hr
    rw [List.foldl_cons, clear_span hp S _ a b fun t ht => h t (List.mem_cons_of_mem _ ht)]
    unfold clear1
    split
    · exact Iff.rfl
    · exact Sp.less_iff (by omega) hr (h s List.mem_cons_self) _
theorem monic_scale {row : List Int} (h : firstC row ≠ none) : monicM p row = scaleM p row (inv p (nth row (lead row : Nat))) := by
  obtain ⟨_, _, _, e⟩ := lead_spec h
  unfold monicM
  simp only [e]
  rfl
theorem monic_span (G : Good p) {row : List Int} (hr : Red p row) (h : firstC row ≠ none) : Sp p w T (monicM p row) ↔ Sp p w T row := by
  have hp := G.lo
  obtain ⟨h1, h2, _, e⟩ := lead_spec h
  have hb := red_at hr h1
  rw [monic_scale h]
  exact ⟨fun q => by have := q.scale (by omega) (nth row (lead row : Nat)); rw [scale_back hr (G.inv _ (by omega) hb.2)] at this; exact this, fun q => q.scale (by omega) _⟩
theorem with_span (G : Good p) (R : RRE p w S) {left : List Int} (hl : left.length = w) (hr : Red p left) (hz : ∀ s ∈ S, nth left (lead s : Nat) = 0) (hn : firstC left ≠ none) :
    (∀ s ∈ withM p S left, Sp p w T s) ↔ (∀ s ∈ S, Sp p w T s) ∧ Sp p w T left := by
  have hp := G.lo
  obtain ⟨m1, m2, m3, m4⟩ := monic_ok G hr hn
  have oo := fun o ho => other_ok (o := o) G R hl hr hz hn ho
  constructor
  · intro h
    have hm : Sp p w T (monicM p left) := h _ (by unfold withM; simp)
    refine ⟨fun o ho => ?_, (monic_span G hr hn).mp hm⟩
    refine (Sp.less_iff (by omega) (R.rows o ho).2 hm (nth o (lead left : Nat))).mp (h _ ?_)
    unfold withM othersM
    rw [m3]
    simp only [List.mem_append, List.mem_filter, List.mem_map, List.mem_singleton, decide_eq_true_iff]
    have ll := (oo o ho).2.2.2.1
    have ne := (oo o ho).2.2.2.2.2.1
    rcases Nat.lt_or_gt_of_ne ne with h1 | h1
    · exact .inl (.inl ⟨⟨o, ho, rfl⟩, by rw [ll]; exact h1⟩)
    · exact .inr ⟨⟨o, ho, rfl⟩, by rw [ll]; exact h1⟩
  · rintro ⟨h1, h2⟩ s hs
    have hm := (monic_span (w := w) (T := T) G hr hn).mpr h2
    unfold withM othersM at hs
    simp only [List.mem_append, List.mem_filter, List.mem_map, List.mem_singleton] at hs
    rcases hs with (⟨⟨o, ho, rfl⟩, _⟩ | rfl) | ⟨⟨o, ho, rfl⟩, _⟩
    · exact (h1 o ho).sub (by omega) hm _
    · exact hm
    · exact (h1 o ho).sub (by omega) hm _
theorem step_span (G : Good p) (R : RRE p w S) {row : List Int} (hl : row.length = w) (hr : Red p row) : (∀ s ∈ echStep p S row, Sp p w T s) ↔ (∀ s ∈ S, Sp p w T s) ∧ Sp p w T row := by
  obtain ⟨c1, c2, c3⟩ := clear_ok G.lo R hl hr
  have cs := fun h => clear_span (w := w) (T := T) G.lo S row hl hr h
  unfold echStep
  cases e : firstC (clearM p row S) with
  | none =>
    simp only [Option.isSome_none, Bool.false_eq_true, if_false]
    refine ⟨fun h => ⟨h, (cs h).mp ?_⟩, fun h => h.1⟩
    have z : clearM p row S = zeroR w := by
      refine ext_nth (by rw [c1, zeroR_len]) fun j hj => ?_
      rw [firstC_none.mp e j hj, zeroR_nth]
    show Sp p w T (clearM p row S)
    rw [z]
    exact .zero
  | some c =>
    simp only [Option.isSome_some, if_true]
    rw [with_span G R c1 c2 c3 (by rw [e]; exact fun z => by cases z)]
    exact ⟨fun h => ⟨h.1, (cs h.1).mp h.2⟩, fun h => ⟨h.1, (cs h.1).mpr h.2⟩⟩
theorem fold_span (G : Good p) : ∀ (rows S : List (List Int)), Rows p w rows → RRE p w S → ((∀ s ∈ rows.foldl (echStep p) S, Sp p w T s) ↔ (∀ s ∈ S, Sp p w T s) ∧ ∀ r ∈ rows, Sp p w T r)
  | [], S, _, _ => by simp
  | r :: rows, S, h, R => by
    obtain ⟨l, r'⟩ := h r List.mem_cons_self
    rw [List.foldl_cons, fold_span G rows _ (fun s hs => h s (List.mem_cons_of_mem _ hs)) (ech_step_ok G R l r').1, step_span G R l r']
    simp only [List.mem_cons, forall_eq_or_imp]
    exact and_assoc
theorem ech_span (G : Good p) {rows : List (List Int)} (h : Rows p w rows) : (∀ s ∈ echM p rows, Sp p w T s) ↔ ∀ r ∈ rows, Sp p w T r := by
  unfold echM
  rw [fold_span G rows [] h (rre_nil p w)]
  simp
/-! ### the law's own -/
theorem less_zero {v s : List Int} (hr : Red p v) : lessM p v s 0 = v := by
  refine ext_nth (lessM_length _ _ _ _) fun j hj => ?_
  rw [lessM_length] at hj
  rw [nth_lessM hj, Int.zero_mul, Int.sub_zero]
  exact emod_red (red_at hr hj)
theorem nth_set_eq {l : List (List Int)} {k : Nat} {r : List Int} (h : k < l.length) : nth (l.set k r) (k : Nat) = r := by
  rw [nth_row (by rw [List.length_set]; exact h), List.getElem_set_self]
theorem nth_set_ne {l : List (List Int)} {k j : Nat} {r : List Int} (h : j < l.length) (hne : k ≠ j) : nth (l.set k r) (j : Nat) = nth l (j : Nat) := by
  rw [nth_row (by rw [List.length_set]; exact h), List.getElem_set_ne hne, nth_row h]
theorem elims_at (hp : 0 < p) (row : List Int) (f c : Nat) {l : List (List Int)} (h : Rows p w l) : ∀ n, n ≤ l.length → ∀ k, k < l.length →
    nth ((List.range n).foldl (elimStep p row f c) l) (k : Nat) = if k < n ∧ k ≠ f then lessM p (nth l (k : Nat)) row (nth (nth l (k : Nat)) (c : Nat)) else nth l (k : Nat)
  | 0, _, k, _ => by simp
  | n + 1, hn, k, hk => by
    obtain ⟨e1, e2⟩ := elims_ok hp row f c (List.range n) l h
    have ih := elims_at hp row f c h n (by omega)
    rw [List.range_succ, List.foldl_append, List.foldl_cons, List.foldl_nil]
    have ihn := ih n (by omega)
    rw [if_neg (by omega)] at ihn
    generalize (List.range n).foldl (elimStep p row f c) l = m at e1 e2 ih ihn ⊢
    unfold elimStep
    rw [ihn]
    split
    · rename_i hc
      by_cases hkn : k = n
      · subst hkn
        rw [nth_set_eq (by rw [e1]; exact hk), if_pos ⟨by omega, hc.1⟩]
      · rw [nth_set_ne (by rw [e1]; exact hk) (fun e => hkn e.symm), ih k hk]
        by_cases q : k < n ∧ k ≠ f
        · rw [if_pos q, if_pos ⟨by omega, q.2⟩]
        · rw [if_neg q, if_neg (by omega)]
    · rename_i hc
      rw [ih k hk]
      by_cases hkn : k = n
      · subst hkn
        rw [if_neg (by omega)]
        by_cases hf : k = f
        · rw [if_neg (by omega)]
        · rw [if_pos ⟨by omega, hf⟩]
          have : nth (nth l (k : Nat)) (c : Nat) = 0 := Classical.byContradiction fun hz => hc ⟨hf, hz⟩
          rw [this, less_zero (rows_nth h hk).2]
      · by_cases q : k < n ∧ k ≠ f
        · rw [if_pos q, if_pos ⟨by omega, q.2⟩]
        · rw [if_neg q, if_neg (by omega)]
/-- what holds before column c -/
structure Inv (p : Int) (w : Nat) (rows l : List (List Int)) (f c : Nat) : Prop where
  rw_ : Rows p w l
  ln : l.length = rows.length
  fl : f ≤ l.length
  nz : ∀ i, i < f → firstC (nth l (i : Nat)) ≠ none
  lt : ∀ i, i < f → lead (nth l (i : Nat)) < c
  one : ∀ i, i < f → nth (nth l (i : Nat)) (lead (nth l (i : Nat)) : Nat) = 1
  cl : ∀ i, i < f → ∀ k, k < l.length → k ≠ i → nth (nth l (k : Nat)) (lead (nth l (i : Nat)) : Nat) = 0
  ord : ∀ i j, i < j → j < f → lead (nth l (i : Nat)) < lead (nth l (j : Nat))
  low : ∀ k, f ≤ k → k < l.length → ∀ j, j < c → nth (nth l (k : Nat)) (j : Nat) = 0
  sp : ∀ T, (∀ k, k < l.length → Sp p w T (nth l (k : Nat))) ↔ ∀ r ∈ rows, Sp p w T r
theorem all_nth {l : List (List Int)} {P : List Int → Prop} : (∀ k, k < l.length → P (nth l (k : Nat))) ↔ ∀ r ∈ l, P r := by
  constructor
  · intro h r hr
    obtain ⟨k, hk, rfl⟩ := List.mem_iff_getElem.mp hr
    rw [← nth_row hk]
    exact h k hk
  · intro h k hk
    rw [nth_row hk]
    exact h _ (List.getElem_mem hk)
theorem inv0 {rows : List (List Int)} (h : Rows p w rows) : Inv p w rows rows 0 0 where
  rw_ := h
  ln := rfl
  fl := Nat.zero_le _
  nz := fun _ h => absurd h (by omega)
  lt := fun _ h => absurd h (by omega)
  one := fun _ h => absurd h (by omega)
  cl := fun _ h => absurd h (by omega)
  ord := fun _ _ _ h => absurd h (by omega)
  low := fun _ _ _ _ h => absurd h (by omega)
  sp := fun T => all_nth
theorem places_nil {l : List (List Int)} {f c : Nat} (h : placesM l f c = []) : ∀ k, f ≤ k → k < l.length → nth (nth l (k : Nat)) (c : Nat) = 0 := fun k h1 h2 => Classical.byContradiction fun hz => by
  have hm : ((k : Nat) : Int) ∈ placesM l f c := by
    unfold placesM
    rw [List.mem_filter, List.mem_map]
    refine ⟨⟨k - f, List.mem_range.mpr (by omega), by omega⟩, ?_⟩
    rw [decide_eq_false hz]
    rfl
  rw [h] at hm
  cases hm
theorem pivot_scale (l : List (List Int)) (f c pl : Nat) : pivotM p l f c pl = scaleM p (nth l (pl : Nat)) (inv p (nth (nth l (pl : Nat)) (c : Nat))) := rfl
theorem nth_scale {v : List Int} {c : Int} {j : Nat} (h : j < v.length) : nth (scaleM p v c) (j : Nat) = nth v (j : Nat) * c % p := by
  unfold scaleM
  rw [nth_nat (by rw [List.length_map]; exact h), List.getElem_map, nth_nat h]
theorem inv_step (G : Good p) {rows l : List (List Int)} {f c : Nat} (I : Inv p w rows l f c) (hc : c < w) : Inv p w rows (colStep p (l, f) c).1 (colStep p (l, f) c).2 (c + 1) := by
  have hp := G.lo
  unfold colStep
  cases e : placesM (l, f).1 (l, f).2 c with
  | nil =>
    have z := places_nil e
    show Inv p w rows l f (c + 1)
    exact { I with
      lt := fun i hi => by have := I.lt i hi; show _ < c + 1; omega
      low := fun k h1 h2 j hj => by
        by_cases hjc : j = c
        · subst hjc; exact z k h1 h2
        · exact I.low k h1 h2 j (by omega) }
  | cons q r =>
    obtain ⟨h1, h2, h3, h4⟩ := places_mem (l := l) (found := f) (c := c) (pl := q) (by rw [e]; exact List.mem_cons_self)
    simp only
    generalize q.toNat = pl at h1 h2 h4
    have hf : f < l.length := by omega
    obtain ⟨g1, g2⟩ := rows_nth I.rw_ h2
    have hb := red_at g2 (j := c) (by omega)
    obtain ⟨p1, p2⟩ := pivot_ok (p := p) (by omega) I.rw_ (found := f) (c := c) (pl := pl) h2
    obtain ⟨s1, s2⟩ := swap_ok (p := p) (c := c) (by omega) I.rw_ hf h2
    -- the pivot row
    have pa : ∀ j, j < w → nth (pivotM p l f c pl) (j : Nat) = nth (nth l (pl : Nat)) (j : Nat) * inv p (nth (nth l (pl : Nat)) (c : Nat)) % p := fun j hj => by rw [pivot_scale, nth_scale (by omega)]
    have pc : nth (pivotM p l f c pl) (c : Nat) = 1 := by rw [pa c hc]; exact G.inv _ (by omega) hb.2
    have pz : ∀ j, j < w → nth (nth l (pl : Nat)) (j : Nat) = 0 → nth (pivotM p l f c pl) (j : Nat) = 0 := fun j hj h => by rw [pa j hj, h, Int.zero_mul, Int.zero_emod]
    have plo : ∀ j, j < c → nth (pivotM p l f c pl) (j : Nat) = 0 := fun j hj => pz j (by omega) (I.low pl h1 h2 j hj)
    -- the swapped rows
    have sf : nth (swapM p l f c pl) (f : Nat) = pivotM p l f c pl := by unfold swapM; exact nth_set_eq (by rw [List.length_set]; exact hf)
    have so : ∀ k, k < l.length → k ≠ f → k ≠ pl → nth (swapM p l f c pl) (k : Nat) = nth l (k : Nat) := fun k hk n1 n2 => by
      unfold swapM
      rw [nth_set_ne (by rw [List.length_set]; exact hk) (fun e => n1 e.symm), nth_set_ne hk (fun e => n2 e.symm)]
    have sp : pl ≠ f → nth (swapM p l f c pl) (pl : Nat) = nth l (f : Nat) := fun n1 => by
      unfold swapM
      rw [nth_set_ne (by rw [List.length_set]; exact h2) (fun e => n1 e.symm), nth_set_eq h2]
    -- a row of the swapped is one of the old
    have sk : ∀ k, k < l.length → k ≠ f → ∃ k', k' < l.length ∧ nth (swapM p l f c pl) (k : Nat) = nth l (k' : Nat) ∧ (k < f → k' = k) ∧ (f ≤ k → f ≤ k') ∧ (∀ i, i < f → k ≠ i → k' ≠ i) := fun k hk n1 => by
      by_cases n2 : k = pl
      · subst n2
        exact ⟨f, hf, sp n1, fun h => by omega, fun _ => Nat.le_refl _, fun i hi _ => by omega⟩
      · exact ⟨k, hk, so k hk n1 n2, fun _ => rfl, fun h => h, fun _ _ h => h⟩
    generalize e2 : (List.range l.length).foldl (elimStep p (pivotM p l f c pl) f c) (swapM p l f c pl) = l2
    obtain ⟨t1, t2⟩ := elims_ok (p := p) (by omega) (pivotM p l f c pl) f c (List.range l.length) _ s2
    rw [e2] at t1 t2
    have at2 : ∀ k, k < l.length → nth l2 (k : Nat) = if k ≠ f then lessM p (nth (swapM p l f c pl) (k : Nat)) (pivotM p l f c pl) (nth (nth (swapM p l f c pl) (k : Nat)) (c : Nat)) else pivotM p l f c pl := fun k hk => by
      have := elims_at (p := p) (by omega) (pivotM p l f c pl) f c s2 l.length (by omega) k (by omega)
      rw [e2] at this
      rw [this]
      by_cases n1 : k = f
      · subst n1; rw [if_neg (by omega), if_neg (by omega), sf]
      · rw [if_pos ⟨hk, n1⟩, if_pos n1]
    have atf : nth l2 (f : Nat) = pivotM p l f c pl := by rw [at2 f hf, if_neg (by omega)]
    have atk : ∀ k, k < l.length → k ≠ f → nth l2 (k : Nat) = lessM p (nth (swapM p l f c pl) (k : Nat)) (pivotM p l f c pl) (nth (nth (swapM p l f c pl) (k : Nat)) (c : Nat)) := fun k hk n1 => by rw [at2 k hk, if_pos n1]
    have swl : ∀ k, k < l.length → (nth (swapM p l f c pl) (k : Nat)).length = w ∧ Red p (nth (swapM p l f c pl) (k : Nat)) := fun k hk => rows_nth s2 (by omega)
    -- entries where the pivot row is 0
    have keep : ∀ k, k < l.length → k ≠ f → ∀ j, j < w → nth (pivotM p l f c pl) (j : Nat) = 0 → nth (nth l2 (k : Nat)) (j : Nat) = nth (nth (swapM p l f c pl) (k : Nat)) (j : Nat) := fun k hk n1 j hj hz => by
      rw [atk k hk n1, nth_lessM (by rw [(swl k hk).1]; exact hj), hz, Int.mul_zero, Int.sub_zero, emod_red (red_at (swl k hk).2 (by rw [(swl k hk).1]; exact hj))]
    have atc : ∀ k, k < l.length → k ≠ f → nth (nth l2 (k : Nat)) (c : Nat) = 0 := fun k hk n1 => by
      rw [atk k hk n1, nth_lessM (by rw [(swl k hk).1]; exact hc), pc, Int.mul_one, Int.sub_self, Int.zero_emod]
    have lenl2 : l2.length = l.length := by rw [t1, s1]
    -- the old leads
    have old : ∀ i, i < f → lead (nth l2 (i : Nat)) = lead (nth l (i : Nat)) ∧ firstC (nth l2 (i : Nat)) = some (lead (nth l (i : Nat))) ∧ nth (nth l2 (i : Nat)) (lead (nth l (i : Nat)) : Nat) = 1 := fun i hi => by
      have hlt := I.lt i hi
      have hkeep : ∀ j, j < c → nth (nth l2 (i : Nat)) (j : Nat) = nth (nth l (i : Nat)) (j : Nat) := fun j hj => by
        rw [keep i (by omega) (by omega) j (by omega) (plo j hj), so i (by omega) (by omega) (by omega)]
      obtain ⟨a1, a2, a3, _⟩ := lead_spec (I.nz i hi)
      have h1' := hkeep _ hlt
      obtain ⟨b1, b2⟩ := lead_eq (row := nth l2 (i : Nat)) (c := lead (nth l (i : Nat))) (by rw [(rows_nth t2 (k := i) (by omega)).1]; omega) (by rw [h1']; exact a2) fun j hj => by rw [hkeep j (by omega), a3 j hj]
      exact ⟨b1, b2, by rw [h1']; exact I.one i hi⟩
    have new : lead (nth l2 (f : Nat)) = c ∧ firstC (nth l2 (f : Nat)) = some c := by
      rw [atf]
      exact lead_eq (by rw [p1]; exact hc) (by rw [pc]; decide) plo
    have fcase : ∀ i, i < f + 1 → i < f ∨ i = f := fun i hi => by omega
    refine ⟨t2, by rw [lenl2]; exact I.ln, by omega, fun i hi => ?_, fun i hi => ?_, fun i hi => ?_, fun i hi k hk hne => ?_, fun i j hij hj => ?_, fun k hk1 hk2 j hj => ?_, fun T => ?_⟩
    · rcases fcase i hi with h | rfl
      · rw [(old i h).2.1]; exact fun z => by cases z
      · rw [new.2]; exact fun z => by cases z
    · rcases fcase i hi with h | rfl
      · rw [(old i h).1]; have := I.lt i h; omega
      · rw [new.1]; omega
    · rcases fcase i hi with h | rfl
      · rw [(old i h).1]; exact (old i h).2.2
      · rw [new.1, atf]; exact pc
    · rcases fcase i hi with h | rfl
      · have hlt := I.lt i h
        rw [(old i h).1]
        by_cases hkf : k = f
        · subst hkf
          rw [atf]
          exact plo _ hlt
        · rw [keep k (by omega) hkf _ (by omega) (plo _ hlt)]
          obtain ⟨k', q1, q2, _, _, q5⟩ := sk k (by omega) hkf
          rw [q2]
          exact I.cl i h k' q1 (q5 i h hne)
      · rw [new.1]
        exact atc k (by omega) hne
    · rcases fcase j hj with h | rfl
      · rw [(old i (by omega)).1, (old j h).1]
        exact I.ord i j hij h
      · rw [(old i hij).1, new.1]
        exact I.lt i hij
    · by_cases hjc : j = c
      · subst hjc
        exact atc k (by omega) (by omega)
      · rw [keep k (by omega) (by omega) j (by omega) (plo j (by omega))]
        obtain ⟨k', q1, q2, _, q4, _⟩ := sk k (by omega) (by omega)
        rw [q2]
        exact I.low k' (q4 (by omega)) q1 j (by omega)
    · rw [← I.sp T]
      constructor
      · intro h
        have hrow : Sp p w T (pivotM p l f c pl) := by rw [← atf]; exact h f (by omega)
        have hs : ∀ k, k < l.length → k ≠ f → Sp p w T (nth (swapM p l f c pl) (k : Nat)) := fun k hk n1 => by
          have := h k (by omega)
          rw [atk k hk n1] at this
          exact (Sp.less_iff (by omega) (swl k hk).2 hrow _).mp this
        have hpl : Sp p w T (nth l (pl : Nat)) := by
          have := hrow.scale (by omega) (nth (nth l (pl : Nat)) (c : Nat))
          rw [pivot_scale, scale_back g2 (G.inv _ (by omega) hb.2)] at this
          exact this
        intro k hk
        by_cases n2 : k = pl
        · subst n2; exact hpl
        · by_cases n1 : k = f
          · subst n1
            have := hs pl h2 (fun e => n2 e.symm)
            rw [sp (fun e => n2 e.symm)] at this
            exact this
          · rw [← so k hk n1 n2]
            exact hs k hk n1
      · intro h k hk
        have hrow : Sp p w T (pivotM p l f c pl) := by rw [pivot_scale]; exact (h pl h2).scale (by omega) _
        by_cases n1 : k = f
        · subst n1; rw [atf]; exact hrow
        · rw [atk k (by omega) n1]
          obtain ⟨k', q1, q2, _⟩ := sk k (by omega) n1
          refine Sp.sub (by omega) ?_ hrow _
          rw [q2]
          exact h k' q1
theorem inv_all (G : Good p) {rows : List (List Int)} (h : Rows p w rows) : ∀ n, n ≤ w → Inv p w rows ((List.range n).foldl (colStep p) (rows, 0)).1 ((List.range n).foldl (colStep p) (rows, 0)).2 n
  | 0, _ => inv0 h
  | n + 1, hn => by
    rw [List.range_succ, List.foldl_append, List.foldl_cons, List.foldl_nil]
    exact inv_step G (inv_all G h n (by omega)) (by omega)
theorem take_nth {l : List (List Int)} {f : Nat} (hf : f ≤ l.length) {s : List Int} : s ∈ l.take f ↔ ∃ i, i < f ∧ s = nth l (i : Nat) := by
  rw [List.mem_iff_getElem]
  constructor
  · rintro ⟨i, hi, rfl⟩
    rw [List.length_take] at hi
    exact ⟨i, by omega, by rw [List.getElem_take, nth_row (by omega)]⟩
  · rintro ⟨i, hi, rfl⟩
    exact ⟨i, by rw [List.length_take]; omega, by rw [List.getElem_take, nth_row (by omega)]⟩
theorem inv_end {rows l : List (List Int)} {f : Nat} (I : Inv p w rows l f w) : RRE p w (l.take f) ∧ ∀ T, (∀ s ∈ l.take f, Sp p w T s) ↔ ∀ r ∈ rows, Sp p w T r := by
  have mt := fun s => take_nth (l := l) (s := s) I.fl
  have zr : ∀ k, f ≤ k → k < l.length → nth l (k : Nat) = zeroR w := fun k h1 h2 => by
    have hl := (rows_nth I.rw_ h2).1
    refine ext_nth (by rw [hl, zeroR_len]) fun j hj => ?_
    rw [zeroR_nth, I.low k h1 h2 j (by omega)]
  have fl := I.fl
  refine ⟨⟨fun s hs => ?_, fun s hs => ?_, fun s hs => ?_, fun s hs t ht hne => ?_, ?_⟩, fun T => ?_⟩
  · exact I.rw_ s (List.mem_of_mem_take hs)
  · obtain ⟨i, hi, rfl⟩ := (mt s).mp hs; exact I.nz i hi
  · obtain ⟨i, hi, rfl⟩ := (mt s).mp hs; exact I.one i hi
  · obtain ⟨i, hi, rfl⟩ := (mt s).mp hs
    obtain ⟨k, hk, rfl⟩ := (mt t).mp ht
    exact I.cl i hi k (by omega) fun e => hne (by rw [e])
  · rw [List.pairwise_iff_getElem]
    intro i j h1 h2 hij
    rw [List.length_take] at h1 h2
    rw [List.getElem_take, List.getElem_take, ← nth_row (by omega), ← nth_row (by omega)]
    exact I.ord i j hij (by omega)
  · rw [← I.sp T]
    constructor
    · intro h k hk
      by_cases hkf : k < f
      · exact h _ ((mt _).mpr ⟨k, hkf, rfl⟩)
      · rw [zr k (by omega) hk]; exact .zero
    · intro h s hs
      obtain ⟨i, hi, rfl⟩ := (mt s).mp hs
      exact h i (by omega)
theorem law_span (G : Good p) {rows : List (List Int)} (h : Rows p w rows) (hne : rows ≠ []) : RRE p w (lawE p rows) ∧ ∀ T, (∀ s ∈ lawE p rows, Sp p w T s) ↔ ∀ r ∈ rows, Sp p w T r := by
  have hw : widthM rows = w := by
    cases rows with
    | nil => exact absurd rfl hne
    | cons r rs => exact (h r List.mem_cons_self).1
  unfold lawE
  rw [mod_rows (by have := G.lo; omega) h, hw]
  exact inv_end (inv_all G h w (Nat.le_refl _))
/-- the two forms are one -/
theorem forms_one (G : Good p) {rows : List (List Int)} (h : Rows p w rows) : echM p rows = lawE p rows := by
  by_cases hne : rows = []
  · subst hne; rfl
  · have hp := G.lo
    obtain ⟨R1, _⟩ := ech_ok G h
    obtain ⟨R2, s2⟩ := law_span G h hne
    have self : ∀ {S : List (List Int)}, RRE p w S → ∀ s ∈ S, Sp p w S s := fun R s hs => Sp.of_mem (by omega) hs (R.rows s hs).1 (R.rows s hs).2
    exact rre_unique hp R1 R2 ((s2 _).mpr ((ech_span G h).mp (self R1))) ((ech_span G h).mpr ((s2 _).mp (self R2)))
theorem filter_all (f g : List Int → Bool) : ∀ xs : List (List Int), (∀ x ∈ xs, (f x = true ∧ g x = false) ∨ (f x = false ∧ g x = true)) → (xs.filter f).length + (xs.filter g).length = xs.length
  | [], _ => rfl
  | x :: xs, h => by
    have ih := filter_all f g xs fun y hy => h y (List.mem_cons_of_mem _ hy)
    rw [List.filter_cons, List.filter_cons, List.length_cons]
    rcases h x List.mem_cons_self with ⟨a, b⟩ | ⟨a, b⟩ <;> rw [a, b] <;> simp only [if_true, Bool.false_eq_true, if_false, List.length_cons] <;> omega
theorem with_len (G : Good p) (R : RRE p w S) {left : List Int} (hl : left.length = w) (hr : Red p left) (hz : ∀ s ∈ S, nth left (lead s : Nat) = 0) (hn : firstC left ≠ none) : (withM p S left).length = S.length + 1 := by
  obtain ⟨m1, m2, m3, m4⟩ := monic_ok G hr hn
  unfold withM
  have h := filter_all (fun o => decide (lead o < lead (monicM p left))) (fun o => decide (lead (monicM p left) < lead o)) (othersM p S (monicM p left)) fun x hx => by
    unfold othersM at hx
    obtain ⟨o, ho, rfl⟩ := List.mem_map.mp hx
    have oo := other_ok (o := o) G R hl hr hz hn ho
    rw [m3, oo.2.2.2.1]
    rcases Nat.lt_or_gt_of_ne oo.2.2.2.2.2.1 with h | h
    · exact .inl ⟨decide_eq_true h, decide_eq_false (by omega)⟩
    · exact .inr ⟨decide_eq_false (by omega), decide_eq_true h⟩
  have e : (othersM p S (monicM p left)).length = S.length := by unfold othersM; rw [List.length_map]
  rw [List.length_append, List.length_append, List.length_singleton]
  omega
/-- in the span where one row more finds no step more -/
theorem inside_iff (G : Good p) {rows : List (List Int)} (h : Rows p w rows) {row : List Int} (hl : row.length = w) (hr : Red p row) :
    (firstC (clearM p row (echM p rows))).isNone = decide ((lawE p (rows ++ [row])).length = (lawE p rows).length) := by
  obtain ⟨R1, _⟩ := ech_ok G h
  obtain ⟨c1, c2, c3⟩ := clear_ok G.lo R1 hl hr
  have h2 : Rows p w (rows ++ [row]) := fun r hr' => by
    rcases List.mem_append.mp hr' with q | q
    · exact h r q
    · rw [List.mem_singleton.mp q]; exact ⟨hl, hr⟩
  rw [← forms_one G h, ← forms_one G h2]
  have e : echM p (rows ++ [row]) = echStep p (echM p rows) row := by unfold echM; rw [List.foldl_append]; rfl
  rw [e]
  unfold echStep
  cases q : firstC (clearM p row (echM p rows)) with
  | none => simp
  | some c =>
    have := with_len G R1 c1 c2 c3 (by rw [q]; exact fun z => by cases z)
    simp only [Option.isSome_some, if_true, Option.isNone_some]
    rw [decide_eq_false (by omega)]
end
/-! ### the primes -/
def goodB (p : Nat) : Bool := (List.range p).all fun a => a == 0 || ((a : Int) * inv p (a : Int) % (p : Int) == 1)
theorem good_of {p : Nat} (h1 : 2 ≤ p) (h2 : p ≤ 97) (h : goodB p = true) : Good (p : Int) := ⟨by omega, by omega, fun a h0 h1 => by
  unfold goodB at h
  rw [List.all_eq_true] at h
  have := h a.toNat (List.mem_range.mpr (by omega))
  rw [Int.toNat_of_nonneg (by omega)] at this
  simp only [Bool.or_eq_true, beq_iff_eq] at this
  rcases this with q | q
  · omega
  · exact q⟩
theorem good_cases {p : Int} (h : p ∈ [(2 : Int), 3, 5, 7, 31, 97]) : Good p := by
  simp only [List.mem_cons, List.not_mem_nil, or_false] at h
  rcases h with rfl | rfl | rfl | rfl | rfl | rfl
  · exact good_of (p := 2) (by decide) (by decide) (by decide +kernel)
  · exact good_of (p := 3) (by decide) (by decide) (by decide +kernel)
  · exact good_of (p := 5) (by decide) (by decide) (by decide +kernel)
  · exact good_of (p := 7) (by decide) (by decide) (by decide +kernel)
  · exact good_of (p := 31) (by decide) (by decide) (by decide +kernel)
  · exact good_of (p := 97) (by decide) (by decide) (by decide +kernel)
end EM
namespace K55
open PySem PySem.Spec PyProof.Rows L2 DL EM
local macro_rules | `(tactic| walk_at "nm") => `(tactic| first | exact de_var (pv 0) rfl | exact de_var (pv 1) rfl | exact de_var (pv 2) rfl | exact de_var (pv 3) rfl | exact de_var (pv 4) rfl | exact de_var (pv 5) rfl | exact de_var (pv 6) rfl | exact de_var (pv 7) rfl | exact de_var (pv 8) rfl | exact de_var (pv 9) rfl | exact de_var (pv 10) rfl | exact de_var (pv 11) rfl | exact de_var (pv 12) rfl | exact de_var (pv 13) rfl | exact de_var (pv 14) rfl | exact de_var (pv 15) rfl | exact de_var (pv 16) rfl | exact de_var (pv 17) rfl)
local macro_rules | `(tactic| walk_at "ow") => `(tactic| first | exact dv_own (pv 0) rfl | exact dv_own (pv 1) rfl | exact dv_own (pv 2) rfl | exact dv_own (pv 3) rfl | exact dv_own (pv 4) rfl | exact dv_own (pv 5) rfl | exact dv_own (pv 6) rfl | exact dv_own (pv 7) rfl | exact dv_own (pv 8) rfl | exact dv_own (pv 9) rfl | exact dv_own (pv 10) rfl | exact dv_own (pv 11) rfl | exact dv_own (pv 12) rfl | exact dv_own (pv 13) rfl | exact dv_own (pv 14) rfl | exact dv_own (pv 15) rfl | exact dv_own (pv 16) rfl | exact dv_own (pv 17) rfl)
local macro_rules | `(tactic| walk_at "ows") => `(tactic| first | exact dvs_own (pv 0) rfl | exact dvs_own (pv 1) rfl | exact dvs_own (pv 2) rfl | exact dvs_own (pv 3) rfl | exact dvs_own (pv 4) rfl | exact dvs_own (pv 5) rfl | exact dvs_own (pv 6) rfl | exact dvs_own (pv 7) rfl | exact dvs_own (pv 8) rfl | exact dvs_own (pv 9) rfl | exact dvs_own (pv 10) rfl | exact dvs_own (pv 11) rfl | exact dvs_own (pv 12) rfl | exact dvs_own (pv 13) rfl | exact dvs_own (pv 14) rfl | exact dvs_own (pv 15) rfl | exact dvs_own (pv 16) rfl | exact dvs_own (pv 17) rfl)
local macro_rules | `(tactic| walk_at "isj") => `(tactic| first | (refine' idE _) | (refine' idB _) | (refine' idV _) | (refine' idVs _) | (refine' idN _) | (refine' idA _) | (refine' idW _) | (refine' idO _) | (refine' idAT _) | (refine' idI _) | (refine' idIc _) | (refine' idG _) | (refine' idGs _) | (refine' idTs _))
local macro_rules | `(tactic| walk_at "s") => `(tactic| first
  | (refine' isP ?_; first | with_reducible assumption | exact fun _ _ => rfl | exact rfl | (refine (@id (_ = _) ?_); with_reducible rfl) | omega | assumption)
  | skip)
local macro_rules | `(tactic| walk_at "d") => `(tactic| first
  | walk_at "nm" | exact de_int
  | (refine' de_add ?_ ?_ <;> walk_at "d") | (refine' de_sub ?_ ?_ <;> walk_at "d") | (refine' de_mod ?_ ?_ ?_ <;> walk_at "d") | (refine' de_mul ?_ ?_ ?_ <;> walk_at "d")
  | (refine' de_div ?_ ?_ ?_ <;> walk_at "d") | (refine' de_shr ?_ ?_ ?_ <;> walk_at "d") | (refine' de_and ?_ ?_ <;> walk_at "d") | (refine' de_pow ?_ ?_ ?_ <;> walk_at "d") | (refine' de_neg ?_ <;> walk_at "d")
  | (refine' de_ixN ?_ ?_ ?_ ?_ <;> walk_at "d") | (refine' de_ixNT ?_ ?_ ?_ ?_ <;> walk_at "d")
  | (refine' de_len rfl (by assumption) bt_len ?_ <;> walk_at "d")
  | (refine' de_intI rfl (by assumption) bt_int ?_ <;> walk_at "d") | (refine' de_intBl rfl (by assumption) bt_int ?_ <;> walk_at "d")
  | (refine' de_callH ?ha (by assumption) ?hR (by assumption) (by decide) rfl; (case' hR => constructor); (case' ha => walk_at "d"); all_goals (try (walk_at "s")))
  | exact de_bl | exact de_non | exact de_str
  | exact da_nil | (refine' da_cons ?_ ?_ <;> walk_at "d")
  | exact dat_nil | (refine' dat_cons ?_ ?_ <;> walk_at "d")
  | (refine' db_lt ?_ ?_ <;> walk_at "d") | (refine' db_le ?_ ?_ <;> walk_at "d") | (refine' db_gt ?_ ?_ <;> walk_at "d") | (refine' db_ge ?_ ?_ <;> walk_at "d") | (refine' db_eqI ?_ ?_ <;> walk_at "d") | (refine' db_neI ?_ ?_ <;> walk_at "d")
  | (refine' db_isN ?_ <;> walk_at "d") | (refine' db_notN ?_ <;> walk_at "d") | (refine' db_not ?_ <;> walk_at "d")
  | (refine' db_eqNil ?_ (by assumption) <;> walk_at "d") | (refine' db_neNil ?_ (by assumption) <;> walk_at "d")
  | (refine' db_val ?h0 (by intro _; rfl); case' h0 => walk_at "d")
  | (refine' DW.db ?h0; case' h0 => walk_at "d")
  | (refine' dw_and ?_ (fun hq => ?_) <;> walk_at "d") | (refine' dw_or ?_ (fun hq => ?_) <;> walk_at "d") | (refine' dw_and1 ?h0; case' h0 => walk_at "d") | (refine' dw_or1 ?h0; case' h0 => walk_at "d")
  | walk_at "ow" | walk_at "ows" | (refine' DVs.dv ?h0; case' h0 => walk_at "ows") | (refine' DV.of ?_ <;> walk_at "d") | (refine' DVs.of ?_ <;> walk_at "d") | (refine' DV.scr ?_ <;> walk_at "d")
  | (refine' DN.de ?_ <;> walk_at "d") | (refine' DN.fl ?_ <;> walk_at "d")
  | (refine' DE.unFF ?h0; case' h0 => walk_at "nm") | (refine' DE.unF ?_ <;> walk_at "d")
  | exact dn_nil | (refine' dn_lstT ?_ ?_ <;> walk_at "d")
  | (refine' dn_catT ?_ ?_ ?_ <;> walk_at "d") | (refine' dn_rep1 ?_ ?_ ?_ ?_ <;> walk_at "d")
  | (refine' dn_to ?_ ?_ ?_ <;> walk_at "d") | (refine' dn_from ?_ ?_ ?_ <;> walk_at "d")
  | (refine' dn_list rfl (by assumption) bt_list ?_ <;> walk_at "d")
  | (refine' di_rng1 rfl (by assumption) ?_ ?_ ?_ <;> walk_at "d") | (refine' di_rng2 rfl (by assumption) ?_ ?_ ?_ <;> walk_at "d") | (refine' di_enumT (en := D.int) rfl (by assumption) ?_ <;> walk_at "d") | (refine' dic_enumT (en := D.int) rfl (by assumption) ?_ <;> walk_at "d") | (refine' di_enumT (en := IL) rfl (by assumption) ?_ <;> walk_at "d") | (refine' dic_enumT (en := IL) rfl (by assumption) ?_ <;> walk_at "d")
  | (refine' di_list ?_ <;> walk_at "d") | (refine' dic_list ?_ <;> walk_at "d") | (refine' DI.c ?_ <;> walk_at "d")
  | exact dts_nil | (refine' dts_one ?_ <;> walk_at "d")
  | walk_at "g"
  | ((fail_if_success (walk_at "isj")); walk_at "s"))
local macro_rules | `(tactic| walk_at "g") => `(tactic| first | (refine' dg_name (i := 0) ?_; exact pg_name (by assumption) rfl (by first | exact Or.inl rfl | exact Or.inr rfl)) | (refine' dg_name (i := 1) ?_; exact pg_name (by assumption) rfl (by first | exact Or.inl rfl | exact Or.inr rfl)) | (refine' dg_name (i := 2) ?_; exact pg_name (by assumption) rfl (by first | exact Or.inl rfl | exact Or.inr rfl)) | (refine' dg_name (i := 3) ?_; exact pg_name (by assumption) rfl (by first | exact Or.inl rfl | exact Or.inr rfl)) | (refine' dg_name (i := 4) ?_; exact pg_name (by assumption) rfl (by first | exact Or.inl rfl | exact Or.inr rfl)) | (refine' dg_name (i := 5) ?_; exact pg_name (by assumption) rfl (by first | exact Or.inl rfl | exact Or.inr rfl)) | (refine' dg_name (i := 6) ?_; exact pg_name (by assumption) rfl (by first | exact Or.inl rfl | exact Or.inr rfl)) | (refine' dg_name (i := 7) ?_; exact pg_name (by assumption) rfl (by first | exact Or.inl rfl | exact Or.inr rfl)) | (refine' dg_name (i := 8) ?_; exact pg_name (by assumption) rfl (by first | exact Or.inl rfl | exact Or.inr rfl)) | (refine' dg_name (i := 9) ?_; exact pg_name (by assumption) rfl (by first | exact Or.inl rfl | exact Or.inr rfl)) | (refine' dg_name (i := 10) ?_; exact pg_name (by assumption) rfl (by first | exact Or.inl rfl | exact Or.inr rfl)) | (refine' dg_name (i := 11) ?_; exact pg_name (by assumption) rfl (by first | exact Or.inl rfl | exact Or.inr rfl)) | (refine' dg_name (i := 12) ?_; exact pg_name (by assumption) rfl (by first | exact Or.inl rfl | exact Or.inr rfl)) | (refine' dg_name (i := 13) ?_; exact pg_name (by assumption) rfl (by first | exact Or.inl rfl | exact Or.inr rfl)) | (refine' dg_name (i := 14) ?_; exact pg_name (by assumption) rfl (by first | exact Or.inl rfl | exact Or.inr rfl)) | (refine' dg_name (i := 15) ?_; exact pg_name (by assumption) rfl (by first | exact Or.inl rfl | exact Or.inr rfl)) | (refine' dg_name (i := 16) ?_; exact pg_name (by assumption) rfl (by first | exact Or.inl rfl | exact Or.inr rfl)) | (refine' dg_name (i := 17) ?_; exact pg_name (by assumption) rfl (by first | exact Or.inl rfl | exact Or.inr rfl)) | (refine' dg_tup rfl ?_ <;> walk_at "g") | exact dgs_nil | (refine' dgs_cons ?_ ?_ ?_ <;> walk_at "g") | ((fail_if_success (walk_at "isj")); walk_at "s"))
local macro_rules | `(tactic| walk_at "set") => `(tactic| ((first | refine' dss_cons (ds_set (i := 0) (by assumption) rfl (by first | exact Or.inl rfl | exact Or.inr rfl) ?e) ?k | refine' dss_cons (ds_set (i := 1) (by assumption) rfl (by first | exact Or.inl rfl | exact Or.inr rfl) ?e) ?k | refine' dss_cons (ds_set (i := 2) (by assumption) rfl (by first | exact Or.inl rfl | exact Or.inr rfl) ?e) ?k | refine' dss_cons (ds_set (i := 3) (by assumption) rfl (by first | exact Or.inl rfl | exact Or.inr rfl) ?e) ?k | refine' dss_cons (ds_set (i := 4) (by assumption) rfl (by first | exact Or.inl rfl | exact Or.inr rfl) ?e) ?k | refine' dss_cons (ds_set (i := 5) (by assumption) rfl (by first | exact Or.inl rfl | exact Or.inr rfl) ?e) ?k | refine' dss_cons (ds_set (i := 6) (by assumption) rfl (by first | exact Or.inl rfl | exact Or.inr rfl) ?e) ?k | refine' dss_cons (ds_set (i := 7) (by assumption) rfl (by first | exact Or.inl rfl | exact Or.inr rfl) ?e) ?k | refine' dss_cons (ds_set (i := 8) (by assumption) rfl (by first | exact Or.inl rfl | exact Or.inr rfl) ?e) ?k | refine' dss_cons (ds_set (i := 9) (by assumption) rfl (by first | exact Or.inl rfl | exact Or.inr rfl) ?e) ?k | refine' dss_cons (ds_set (i := 10) (by assumption) rfl (by first | exact Or.inl rfl | exact Or.inr rfl) ?e) ?k | refine' dss_cons (ds_set (i := 11) (by assumption) rfl (by first | exact Or.inl rfl | exact Or.inr rfl) ?e) ?k | refine' dss_cons (ds_set (i := 12) (by assumption) rfl (by first | exact Or.inl rfl | exact Or.inr rfl) ?e) ?k | refine' dss_cons (ds_set (i := 13) (by assumption) rfl (by first | exact Or.inl rfl | exact Or.inr rfl) ?e) ?k | refine' dss_cons (ds_set (i := 14) (by assumption) rfl (by first | exact Or.inl rfl | exact Or.inr rfl) ?e) ?k | refine' dss_cons (ds_set (i := 15) (by assumption) rfl (by first | exact Or.inl rfl | exact Or.inr rfl) ?e) ?k | refine' dss_cons (ds_set (i := 16) (by assumption) rfl (by first | exact Or.inl rfl | exact Or.inr rfl) ?e) ?k | refine' dss_cons (ds_set (i := 17) (by assumption) rfl (by first | exact Or.inl rfl | exact Or.inr rfl) ?e) ?k); (case' e => walk_at "d")))
local macro_rules | `(tactic| walk_at "own") => `(tactic| ((first | refine' dss_cons (ds_setN (i := 0) (by assumption) rfl (by first | exact Or.inl rfl | exact Or.inr rfl) ?e) ?k | refine' dss_cons (ds_setN (i := 1) (by assumption) rfl (by first | exact Or.inl rfl | exact Or.inr rfl) ?e) ?k | refine' dss_cons (ds_setN (i := 2) (by assumption) rfl (by first | exact Or.inl rfl | exact Or.inr rfl) ?e) ?k | refine' dss_cons (ds_setN (i := 3) (by assumption) rfl (by first | exact Or.inl rfl | exact Or.inr rfl) ?e) ?k | refine' dss_cons (ds_setN (i := 4) (by assumption) rfl (by first | exact Or.inl rfl | exact Or.inr rfl) ?e) ?k | refine' dss_cons (ds_setN (i := 5) (by assumption) rfl (by first | exact Or.inl rfl | exact Or.inr rfl) ?e) ?k | refine' dss_cons (ds_setN (i := 6) (by assumption) rfl (by first | exact Or.inl rfl | exact Or.inr rfl) ?e) ?k | refine' dss_cons (ds_setN (i := 7) (by assumption) rfl (by first | exact Or.inl rfl | exact Or.inr rfl) ?e) ?k | refine' dss_cons (ds_setN (i := 8) (by assumption) rfl (by first | exact Or.inl rfl | exact Or.inr rfl) ?e) ?k | refine' dss_cons (ds_setN (i := 9) (by assumption) rfl (by first | exact Or.inl rfl | exact Or.inr rfl) ?e) ?k | refine' dss_cons (ds_setN (i := 10) (by assumption) rfl (by first | exact Or.inl rfl | exact Or.inr rfl) ?e) ?k | refine' dss_cons (ds_setN (i := 11) (by assumption) rfl (by first | exact Or.inl rfl | exact Or.inr rfl) ?e) ?k | refine' dss_cons (ds_setN (i := 12) (by assumption) rfl (by first | exact Or.inl rfl | exact Or.inr rfl) ?e) ?k | refine' dss_cons (ds_setN (i := 13) (by assumption) rfl (by first | exact Or.inl rfl | exact Or.inr rfl) ?e) ?k | refine' dss_cons (ds_setN (i := 14) (by assumption) rfl (by first | exact Or.inl rfl | exact Or.inr rfl) ?e) ?k | refine' dss_cons (ds_setN (i := 15) (by assumption) rfl (by first | exact Or.inl rfl | exact Or.inr rfl) ?e) ?k | refine' dss_cons (ds_setN (i := 16) (by assumption) rfl (by first | exact Or.inl rfl | exact Or.inr rfl) ?e) ?k | refine' dss_cons (ds_setN (i := 17) (by assumption) rfl (by first | exact Or.inl rfl | exact Or.inr rfl) ?e) ?k); (case' e => walk_at "d")))
local macro_rules | `(tactic| walk_at "append") => `(tactic| ((first | refine' dss_cons (ds_append (i := 0) (pv 0) rfl ?e ?z) ?k | refine' dss_cons (ds_append (i := 1) (pv 1) rfl ?e ?z) ?k | refine' dss_cons (ds_append (i := 2) (pv 2) rfl ?e ?z) ?k | refine' dss_cons (ds_append (i := 3) (pv 3) rfl ?e ?z) ?k | refine' dss_cons (ds_append (i := 4) (pv 4) rfl ?e ?z) ?k | refine' dss_cons (ds_append (i := 5) (pv 5) rfl ?e ?z) ?k | refine' dss_cons (ds_append (i := 6) (pv 6) rfl ?e ?z) ?k | refine' dss_cons (ds_append (i := 7) (pv 7) rfl ?e ?z) ?k | refine' dss_cons (ds_append (i := 8) (pv 8) rfl ?e ?z) ?k | refine' dss_cons (ds_append (i := 9) (pv 9) rfl ?e ?z) ?k | refine' dss_cons (ds_append (i := 10) (pv 10) rfl ?e ?z) ?k | refine' dss_cons (ds_append (i := 11) (pv 11) rfl ?e ?z) ?k | refine' dss_cons (ds_append (i := 12) (pv 12) rfl ?e ?z) ?k | refine' dss_cons (ds_append (i := 13) (pv 13) rfl ?e ?z) ?k | refine' dss_cons (ds_append (i := 14) (pv 14) rfl ?e ?z) ?k | refine' dss_cons (ds_append (i := 15) (pv 15) rfl ?e ?z) ?k | refine' dss_cons (ds_append (i := 16) (pv 16) rfl ?e ?z) ?k | refine' dss_cons (ds_append (i := 17) (pv 17) rfl ?e ?z) ?k); (case' e => walk_at "d"); (case' z => walk_at "s")))
local macro_rules | `(tactic| walk_at "extend") => `(tactic| ((first | refine' dss_cons (ds_extend (i := 0) (pv 0) rfl ?e ?z) ?k | refine' dss_cons (ds_extend (i := 1) (pv 1) rfl ?e ?z) ?k | refine' dss_cons (ds_extend (i := 2) (pv 2) rfl ?e ?z) ?k | refine' dss_cons (ds_extend (i := 3) (pv 3) rfl ?e ?z) ?k | refine' dss_cons (ds_extend (i := 4) (pv 4) rfl ?e ?z) ?k | refine' dss_cons (ds_extend (i := 5) (pv 5) rfl ?e ?z) ?k | refine' dss_cons (ds_extend (i := 6) (pv 6) rfl ?e ?z) ?k | refine' dss_cons (ds_extend (i := 7) (pv 7) rfl ?e ?z) ?k | refine' dss_cons (ds_extend (i := 8) (pv 8) rfl ?e ?z) ?k | refine' dss_cons (ds_extend (i := 9) (pv 9) rfl ?e ?z) ?k | refine' dss_cons (ds_extend (i := 10) (pv 10) rfl ?e ?z) ?k | refine' dss_cons (ds_extend (i := 11) (pv 11) rfl ?e ?z) ?k | refine' dss_cons (ds_extend (i := 12) (pv 12) rfl ?e ?z) ?k | refine' dss_cons (ds_extend (i := 13) (pv 13) rfl ?e ?z) ?k | refine' dss_cons (ds_extend (i := 14) (pv 14) rfl ?e ?z) ?k | refine' dss_cons (ds_extend (i := 15) (pv 15) rfl ?e ?z) ?k | refine' dss_cons (ds_extend (i := 16) (pv 16) rfl ?e ?z) ?k | refine' dss_cons (ds_extend (i := 17) (pv 17) rfl ?e ?z) ?k); (case' e => walk_at "d"); (case' z => walk_at "s")))
local macro_rules | `(tactic| walk_at "setix") => `(tactic| ((first | refine' dss_cons (ds_setIx (i := 0) (pv 0) rfl ?e ?x ?j) ?k | refine' dss_cons (ds_setIx (i := 1) (pv 1) rfl ?e ?x ?j) ?k | refine' dss_cons (ds_setIx (i := 2) (pv 2) rfl ?e ?x ?j) ?k | refine' dss_cons (ds_setIx (i := 3) (pv 3) rfl ?e ?x ?j) ?k | refine' dss_cons (ds_setIx (i := 4) (pv 4) rfl ?e ?x ?j) ?k | refine' dss_cons (ds_setIx (i := 5) (pv 5) rfl ?e ?x ?j) ?k | refine' dss_cons (ds_setIx (i := 6) (pv 6) rfl ?e ?x ?j) ?k | refine' dss_cons (ds_setIx (i := 7) (pv 7) rfl ?e ?x ?j) ?k | refine' dss_cons (ds_setIx (i := 8) (pv 8) rfl ?e ?x ?j) ?k | refine' dss_cons (ds_setIx (i := 9) (pv 9) rfl ?e ?x ?j) ?k | refine' dss_cons (ds_setIx (i := 10) (pv 10) rfl ?e ?x ?j) ?k | refine' dss_cons (ds_setIx (i := 11) (pv 11) rfl ?e ?x ?j) ?k | refine' dss_cons (ds_setIx (i := 12) (pv 12) rfl ?e ?x ?j) ?k | refine' dss_cons (ds_setIx (i := 13) (pv 13) rfl ?e ?x ?j) ?k | refine' dss_cons (ds_setIx (i := 14) (pv 14) rfl ?e ?x ?j) ?k | refine' dss_cons (ds_setIx (i := 15) (pv 15) rfl ?e ?x ?j) ?k | refine' dss_cons (ds_setIx (i := 16) (pv 16) rfl ?e ?x ?j) ?k | refine' dss_cons (ds_setIx (i := 17) (pv 17) rfl ?e ?x ?j) ?k); (case' e => walk_at "d"); (case' x => walk_at "d")))
local macro_rules | `(tactic| walk_at "ret") => `(tactic| (refine' dss_one (ds_ret ?e); (case' e => walk_at "d")))
def topS (i : Nat) : Stmt := PySem.Challenge.pw_noughtmeet_k55_echelon_forms.main.body.getD i (.Pass ⟨0, 0, 0, 0⟩)
theorem cmul_l {p i j : Int} (h0 : 0 ≤ i) (h1 : i < p) (hp : p ≤ 97) : CMul i j := .inl ⟨by omega, by omega⟩
theorem cmul_r {p i j : Int} (h0 : 0 ≤ j) (h1 : j < p) (hp : p ≤ 97) : CMul i j := .inr ⟨by omega, by omega⟩
theorem mod_lo {x p : Int} (h : 0 < p) : 0 ≤ x % p := Int.emod_nonneg _ (by omega)
theorem mod_hi {x p : Int} (h : 0 < p) : x % p < p := Int.emod_lt_of_pos _ h
section
variable {P : Program} {w : World} {K : PySem.W.Frag} {mg : Str → Option Value} {base : Heap}
/-! raised -/
abbrev sRa : Stmt := topS 1
def nRa : List Str := ["prime", "number", "count", "found", "square"]
theorem scRa : FnScope nRa ["prime", "number", "count"] (defScope sRa) := ⟨rfl, rfl, rfl, by decide +kernel, rfl, by decide +kernel, by decide +kernel⟩
inductive rRa : List D → D → Prop
  | mk {p n c : Int} (h1 : 2 ≤ p) (h2 : p ≤ 97) (h3 : 0 ≤ c) : rRa [.int p, .int n, .int c] (.int (n ^ c.toNat % p))
theorem emod_mul_l (a b p : Int) : (a % p) * b % p = a * b % p := by rw [Int.mul_emod, Int.emod_emod_of_dvd a (Int.dvd_refl p), ← Int.mul_emod]
theorem emod_mul_r (a b p : Int) : a * (b % p) % p = a * b % p := by rw [Int.mul_comm, emod_mul_l, Int.mul_comm]
theorem emod_pow (a p : Int) : ∀ n : Nat, (a % p) ^ n % p = a ^ n % p
  | 0 => by rw [Int.pow_zero, Int.pow_zero]
  | n + 1 => by rw [Int.pow_succ, Int.pow_succ, emod_mul_r, Int.mul_emod, emod_pow a p n, ← Int.mul_emod]
theorem mul_pow_mod (f a p : Int) (n : Nat) : f * (a % p) ^ n % p = f * a ^ n % p := by rw [← emod_mul_r f ((a % p) ^ n), emod_pow, emod_mul_r]
theorem sq_pow (s : Int) : ∀ n : Nat, (s * s) ^ n = s ^ (2 * n)
  | 0 => by rw [Int.pow_zero, Nat.mul_zero, Int.pow_zero]
  | n + 1 => by rw [Int.pow_succ, sq_pow s n, show 2 * (n + 1) = 2 * n + 1 + 1 by omega, Int.pow_succ, Int.pow_succ, Int.mul_assoc]
theorem pow_half {p f s : Int} {c : Nat} (h : c % 2 = 1) : (f * s % p) * (s * s % p) ^ (c / 2) % p = f * s ^ c % p := by
  rw [mul_pow_mod, emod_mul_l, sq_pow, Int.mul_assoc]
  conv => rhs; rw [show c = 2 * (c / 2) + 1 by omega, Int.pow_succ, Int.mul_comm (s ^ _) s]
theorem pow_even {p f s : Int} {c : Nat} (h : c % 2 ≠ 1) : f * (s * s % p) ^ (c / 2) % p = f * s ^ c % p := by
  rw [mul_pow_mod, sq_pow]
  conv => rhs; rw [show c = 2 * (c / 2) by omega]
theorem ok_Ra {f : Addr} {fd : FuncData} (F : Fun K "raised" "raised" sRa f fd) : FnOk P w K mg base CX0 1 f fd ["prime", "number", "count"] (spD K rRa) := by
  refine fn_ok F scRa (fun ds r h => by cases h; rfl) (by decide) fun cdv A outer s H E hr ds r h => ?_
  cases h with
  | @mk p n c h1 h2 h3 =>
  have nd := scRa.nd
  refine ⟨_, .rt, ?_⟩
  walk_at "set"
  walk_at "set"
  refine dss_cons (ρ1 := [.im (.int p), .im (.int n), .im (.int 0), .im (.int (n ^ c.toNat % p)), .un]) (ds_while .never ?_) ?_
  · have e : Out.nx [.im (.int p), .im (.int n), .im (.int 0), .im (.int (n ^ c.toNat % p)), .un] = Out.nx [.im (.int p), .im (.int n), .im (.int 0), .im (.int (1 * (n % p) ^ c.toNat % p)), .un] := by
      rw [Int.one_mul, emod_pow]
    rw [e]
    refine wh_ind (St := Int × Int × Int) (fun st => [.im (.int p), .im (.int n), .im (.int st.1), .im (.int st.2.1), .im (.int st.2.2)])
      (fun st => .nx [.im (.int p), .im (.int n), .im (.int 0), .im (.int (st.2.1 * st.2.2 ^ st.1.toNat % p)), .un]) (fun st => st.1.toNat) (fun st => 0 ≤ st.1 ∧ 0 ≤ st.2.1 ∧ st.2.1 < p ∧ 0 ≤ st.2.2 ∧ st.2.2 < p) ?_ _ (c, 1, n % p) (Nat.lt_succ_self _) ⟨h3, by dsimp only; omega, by dsimp only; omega, mod_lo (by omega), mod_hi (by omega)⟩
    rintro ⟨c, fo, sq⟩ ⟨g1, g2, g3, g4, g5⟩
    dsimp only at g1 g2 g3 g4 g5 ⊢
    by_cases hc : 0 < c
    · right
      refine ⟨.nx [.im (.int p), .im (.int n), .im (.int (c / 2 ^ (1 : Int).toNat)), .im (.int (if c % 2 = 1 then fo * sq % p else fo)), .im (.int (sq * sq % p))], ?_, ?_, .inl ⟨(c / 2 ^ (1 : Int).toNat, if c % 2 = 1 then fo * sq % p else fo, sq * sq % p), .nx', ?_, ?_, ?_⟩⟩
      · refine DB.to ?_ (decide_eq_true hc)
        walk_at "d"
      · refine' dss_cons (ρ1 := [.im (.int p), .im (.int n), .im (.int c), .im (.int (if c % 2 = 1 then fo * sq % p else fo)), .im (.int sq)]) (ds_if ?t ?br1 ?br2) ?k
        case t => walk_at "d"
        case br1 =>
          intro h
          rw [bitAnd_m1, decide_eq_true_eq] at h
          rw [if_pos h]
          walk_at "set"
          · exact cmul_l g2 g3 h2
          · exact dss_nil
        case br2 =>
          intro h
          rw [bitAnd_m1, decide_eq_false_iff_not] at h
          rw [if_neg h]
          exact dss_nil
        walk_at "set"
        · exact cmul_l g4 g5 h2
        walk_at "set"
        exact dss_nil
      · dsimp only
        refine ⟨by simp; omega, ?_, ?_, mod_lo (by omega), mod_hi (by omega)⟩
        · split
          · exact mod_lo (by omega)
          · exact g2
        · split
          · exact mod_hi (by omega)
          · exact g3
      · have : (1 : Int).toNat = 1 := rfl
        show (c / 2 ^ (1 : Int).toNat).toNat < c.toNat
        rw [this]
        omega
      · have e1 : (c / 2 ^ (1 : Int).toNat).toNat = c.toNat / 2 := by rw [show (2 : Int) ^ (1 : Int).toNat = 2 from rfl]; omega
        show Out.nx _ = Out.nx _
        rw [e1]
        by_cases h : c % 2 = 1
        · rw [if_pos h, pow_half (by omega)]
        · rw [if_neg h, pow_even (by omega)]
    · left
      have e0 : c = 0 := by omega
      subst e0
      refine ⟨DB.to (by walk_at "d") (decide_eq_false hc), _, rfl, ?_⟩
      rw [show (0 : Int).toNat = 0 from rfl, Int.pow_zero, Int.mul_one, Int.emod_eq_of_lt g2 g3]
      exact weak_same (weak_same (weak_same (weak_same (weak_drop weak_nil))))
  walk_at "ret"
end
section
variable {P : Program} {w : World} {K : PySem.W.Frag} {mg : Str → Option Value} {base : Heap}
/-! inverse -/
abbrev sIn : Stmt := topS 2
def nIn : List Str := ["prime", "number"]
theorem scIn : FnScope nIn ["prime", "number"] (defScope sIn) := ⟨rfl, rfl, rfl, by decide +kernel, rfl, by decide +kernel, by decide +kernel⟩
inductive rIn : List D → D → Prop
  | mk {p n : Int} (h1 : 2 ≤ p) (h2 : p ≤ 97) : rIn [.int p, .int n] (.int (inv p n))
theorem ok_In {f : Addr} {fd : FuncData} (F : Fun K "inverse" "inverse" sIn f fd) (hRa : Has P w K mg base "raised" 1 ["prime", "number", "count"] rRa) : FnOk P w K mg base CX0 2 f fd ["prime", "number"] (spD K rIn) := by
  refine fn_ok F scIn (fun ds r h => by cases h; rfl) (by decide) fun cdv A outer s H E hr ds r h => ?_
  cases h with
  | @mk p n h1 h2 =>
  refine ⟨_, .rt, ?_⟩
  walk_at "ret"

/-! less_multiple -/
abbrev sLM : Stmt := topS 4
def nLM : List Str := ["prime", "row", "other", "number", "place", "entry"]
theorem scLM : FnScope nLM ["prime", "row", "other", "number"] (defScope sLM) := ⟨rfl, rfl, rfl, by decide +kernel, rfl, by decide +kernel, by decide +kernel⟩
inductive rLM : List D → D → Prop
  | mk {p n : Int} {row other : List Int} (hp : 0 < p) (hn : ∀ y, CMul n y) (hl : row.length ≤ other.length) (hz : row.length < sizeLine) : rLM [.int p, IL row, IL other, .int n] (FL (lessM p row other n))
theorem ok_LM {f : Addr} {fd : FuncData} (F : Fun K "less_multiple" "less_multiple" sLM f fd) (mE : mg "enumerate" = none) : FnOk P w K mg base CX0 1 f fd ["prime", "row", "other", "number"] (spD K rLM) := by
  refine fn_ok F scLM (fun ds r h => by cases h; rfl) (by decide) fun cdv A outer s H E hr ds r h => ?_
  cases h with
  | @mk p n row other hp hn hl hz =>
  have nd := scLM.nd
  refine ⟨_, .rt, ?_⟩
  refine dss_one (ds_ret (DN.fl (dn_lcA (own := [("place", 4), ("entry", 5)]) (xs := row.zipIdx) (en := fun x => D.tup [.int (x.2 : Nat), .int x.1]) rfl nd (blkOk_by (N := nLM) (sc := defScope sLM) (by decide +kernel)) ?hi
    (ρx := fun x => [.im (.int p), .im (IL row), .im (IL other), .im (.int n), .im (.int (x.2 : Nat)), .im (.int x.1)]) ⟨?tg, ?tt, ?te⟩ ?z)))
  case hi => walk_at "d"
  case tg => intro s1 H1 C cl fp x hx; walk_at "g"
  case tt => intro s1 H1 C cl fp x hx; walk_at "d"
  case te =>
    intro s1 H1 C cl fp x hx _
    have h1 := List.snd_lt_of_mem_zipIdx hx
    walk_at "d"
    all_goals exact hn _
  case z => rw [List.length_zipIdx]; exact hz
/-! first_column -/
abbrev sFC : Stmt := topS 5
def nFC : List Str := ["row", "column", "entry"]
theorem scFC : FnScope nFC ["row"] (defScope sFC) := ⟨rfl, rfl, rfl, by decide +kernel, rfl, by decide +kernel, by decide +kernel⟩
def optD : Option Nat → D
  | none => .non
  | some i => .int (i : Nat)
theorem first_zip (row : List Int) : ∀ k : Nat, (row.zipIdx k).find? (fun x => x.1 != 0) = (row.findIdx? (fun x => x != 0)).map fun i => (nth row (i : Nat), i + k) := by
  induction row with
  | nil => intro k; rfl
  | cons x xs ih =>
    intro k
    rw [List.zipIdx_cons, List.find?_cons, List.findIdx?_cons]
    by_cases h : x = 0
    · subst h
      have e1 : ((0 : Int) != 0) = false := rfl
      simp only [e1]
      rw [ih (k + 1)]
      cases List.findIdx? (fun x => x != 0) xs with
      | none => rfl
      | some i =>
        show some (nth xs (i : Nat), i + (k + 1)) = some (nth (0 :: xs) ((i + 1 : Nat) : Int), i + 1 + k)
        rw [show i + (k + 1) = i + 1 + k by omega]
        rfl
    · have e1 : (x != 0) = true := by simpa using h
      simp only [e1]
      show some (x, k) = some (nth (x :: xs) ((0 : Nat) : Int), 0 + k)
      rw [Nat.zero_add]
      rfl
inductive rFC : List D → D → Prop
  | mk {row : List Int} (hz : row.length < sizeLine) : rFC [IL row] (optD (firstC row))
theorem ok_FC {f : Addr} {fd : FuncData} (F : Fun K "first_column" "first_column" sFC f fd) (mE : mg "enumerate" = none) : FnOk P w K mg base CX0 1 f fd ["row"] (spD K rFC) := by
  refine fn_ok F scFC (fun ds r h => by cases h; rfl) (by decide) fun cdv A outer s H E hr ds r h => ?_
  cases h with
  | @mk row hz =>
  have nd := scFC.nd
  have fz := first_zip row 0
  refine ⟨.rt (optD (firstC row)), .rt, dss_or (o1 := match row.zipIdx.find? (fun x => x.1 != 0) with | some x => .rt (.int (x.2 : Nat)) | none => .nx [.im (IL row), .un, .un]) (ds_forF .never rfl (xs := row.zipIdx) (en := fun x => D.tup [.int (x.2 : Nat), .int x.1]) ?hi ?fo) ?k ?l⟩
  case hi => walk_at "d"
  case fo =>
    refine fo_ind (St := Unit) (fun _ => [.im (IL row), .un, .un]) (fun (xs : List (Int × Nat)) _ => match xs.find? (fun x => x.1 != 0) with | some x => .rt (.int (x.2 : Nat)) | none => .nx [.im (IL row), .un, .un]) (fun _ _ => True) (fun _ _ => rfl) (fun x xs _ _ => ?_) _ () trivial
    by_cases h : x.1 = 0
    · refine' ⟨_, _, _, ?tg, dss_one (ds_if ?t ?b1 ?b2), .inl ⟨(), .nx ?w, trivial, ?e⟩⟩
      case tg => walk_at "g"
      case t => walk_at "d"
      case b1 => intro q; simp [h] at q
      case b2 => intro q; exact dss_nil
      case w => exact weak_same (weak_drop (weak_drop weak_nil))
      case e =>
        have e1 : (x.1 != 0) = false := by simpa using h
        rw [List.find?_cons, e1]
    · refine' ⟨_, _, _, ?tg, dss_one (ds_if ?t ?b1 ?b2), .inr ?e⟩
      case tg => walk_at "g"
      case t => walk_at "d"
      case b1 => intro q; walk_at "ret"
      case b2 => intro q; simp [h] at q
      case e =>
        have e1 : (x.1 != 0) = true := by simpa using h
        rw [List.find?_cons, e1]
        exact .rt
  case k =>
    intro ρ1 e
    rw [fz] at e
    have hn : firstC row = none := by
      unfold firstC
      cases q : row.findIdx? (fun x => x != 0) with
      | none => rfl
      | some i => rw [q] at e; cases e
    rw [hn]
    exact dss_one (ds_ret de_non)
  case l =>
    intro q
    rw [fz] at q ⊢
    unfold firstC
    cases e : row.findIdx? (fun x => x != 0) with
    | none => rw [e] at q; cases q
    | some i => rfl
end
theorem firstC_some {row : List Int} {c : Nat} (h : firstC row = some c) : c < row.length ∧ nth row (c : Nat) ≠ 0 ∧ ∀ j : Nat, j < c → nth row (j : Nat) = 0 := by
  unfold firstC at h
  rw [List.findIdx?_eq_some_iff_getElem] at h
  obtain ⟨h1, h2, h3⟩ := h
  refine ⟨h1, ?_, fun j hj => ?_⟩
  · unfold nth
    rw [Int.toNat_natCast, List.getD_eq_getElem?_getD, List.getElem?_eq_getElem h1]
    simpa using h2
  · have := h3 j hj
    unfold nth
    rw [Int.toNat_natCast, List.getD_eq_getElem?_getD, List.getElem?_eq_getElem (by omega)]
    simpa using this
theorem inv_lo {p n : Int} (h : 2 ≤ p) : 0 ≤ inv p n := mod_lo (by omega)
theorem inv_hi {p n : Int} (h : 2 ≤ p) : inv p n < p := mod_hi (by omega)
theorem lessM_len (p : Int) (row other : List Int) (n : Int) : (lessM p row other n).length = row.length := by unfold lessM; rw [List.length_map, List.length_zipIdx]
theorem lessM_red {p : Int} (h : 0 < p) (row other : List Int) (n : Int) : Red p (lessM p row other n) := fun x hx => by
  unfold lessM at hx
  obtain ⟨y, _, rfl⟩ := List.mem_map.mp hx
  exact ⟨mod_lo h, mod_hi h⟩
theorem monicM_len (p : Int) (row : List Int) : (monicM p row).length = row.length := by
  unfold monicM
  cases firstC row with
  | none => rfl
  | some c => rw [List.length_map]
theorem red_nth {p : Int} {xs : List Int} (h : Red p xs) (i : Nat) (hi : i < xs.length) : 0 ≤ nth xs (i : Nat) ∧ nth xs (i : Nat) < p := by
  unfold nth
  rw [Int.toNat_natCast, List.getD_eq_getElem?_getD, List.getElem?_eq_getElem hi]
  exact h _ (List.getElem_mem hi)
section
variable {P : Program} {w : World} {K : PySem.W.Frag} {mg : Str → Option Value} {base : Heap}
/-! monic_row -/
abbrev sMo : Stmt := topS 6
def nMo : List Str := ["prime", "row", "column", "number", "entry"]
theorem scMo : FnScope nMo ["prime", "row"] (defScope sMo) := ⟨rfl, rfl, rfl, by decide +kernel, rfl, by decide +kernel, by decide +kernel⟩
inductive rMo : List D → D → Prop
  | mk {p : Int} {row : List Int} (h1 : 2 ≤ p) (h2 : p ≤ 97) (hz : row.length < sizeLine) : rMo [.int p, IL row] (FL (monicM p row))
theorem ok_Mo {f : Addr} {fd : FuncData} (F : Fun K "monic_row" "monic_row" sMo f fd) (hFC : Has P w K mg base "first_column" 1 ["row"] rFC) (hIn : Has P w K mg base "inverse" 2 ["prime", "number"] rIn) (mL : mg "list" = none) : FnOk P w K mg base CX0 3 f fd ["prime", "row"] (spD K rMo) := by
  refine fn_ok F scMo (fun ds r h => by cases h; rfl) (by decide) fun cdv A outer s H E hr ds r h => ?_
  cases h with
  | @mk p row h1 h2 hz =>
  have nd := scMo.nd
  refine ⟨_, .rt, ?_⟩
  walk_at "set"
  cases hf : firstC row with
  | none =>
    refine dss_stop (ds_if (db_isN (x := .non) (by walk_at "d")) (fun _ => ?_) (fun h => by cases h)) rfl
    have e : monicM p row = row := by unfold monicM; rw [hf]
    rw [e]
    exact dss_one (ds_ret (DN.fl (by walk_at "d")))
  | some c =>
    obtain ⟨c1, c2, c3⟩ := firstC_some hf
    refine dss_cons (ρ1 := [.im (.int p), .im (IL row), .im (.int (c : Nat)), .un, .un]) (ds_if (db_isN (x := .int (c : Nat)) (by walk_at "d")) (fun h => by cases h) (fun _ => dss_nil)) ?_
    walk_at "set"
    have e : monicM p row = row.map fun x => x * inv p (nth row (c : Nat)) % p := by unfold monicM; rw [hf]
    rw [e]
    refine dss_one (ds_ret (DN.fl (dn_lcA (own := [("entry", 4)]) (xs := row) (en := D.int) rfl nd (blkOk_by (N := nMo) (sc := defScope sMo) (by decide +kernel)) ?hi
      (ρx := fun x => [.im (.int p), .im (IL row), .im (.int (c : Nat)), .im (.int (inv p (nth row (c : Nat)))), .im (.int x)]) ⟨?tg, ?tt, ?te⟩ hz)))
    case hi => walk_at "d"
    case tg => intro s1 H1 C cl fp x hx; walk_at "g"
    case tt => intro s1 H1 C cl fp x hx; walk_at "d"
    case te =>
      intro s1 H1 C cl fp x hx _
      walk_at "d"
      exact cmul_r (inv_lo h1) (inv_hi h1) h2
/-! cleared -/
abbrev sCl : Stmt := topS 7
def nCl : List Str := ["prime", "row", "steps", "left", "step", "number"]
theorem scCl : FnScope nCl ["prime", "row", "steps"] (defScope sCl) := ⟨rfl, rfl, rfl, by decide +kernel, rfl, by decide +kernel, by decide +kernel⟩
inductive rCl : List D → D → Prop
  | mk {p : Int} {row : List Int} {steps : List (List Int)} (h1 : 2 ≤ p) (h2 : p ≤ 97) (hz : row.length < sizeLine) (hr : Red p row) (hs : ∀ s ∈ steps, s.length = row.length ∧ firstC s ≠ none) : rCl [.int p, IL row, LL IL steps] (IL (clearM p row steps))
theorem ok_Cl {f : Addr} {fd : FuncData} (F : Fun K "cleared" "cleared" sCl f fd) (hFC : Has P w K mg base "first_column" 1 ["row"] rFC) (hLM : Has P w K mg base "less_multiple" 1 ["prime", "row", "other", "number"] rLM) (mL : mg "list" = none) : FnOk P w K mg base CX0 2 f fd ["prime", "row", "steps"] (spD K rCl) := by
  refine fn_ok F scCl (fun ds r h => by cases h; rfl) (by decide) fun cdv A outer s H E hr ds r h => ?_
  cases h with
  | @mk p row steps h1 h2 hz hrd hs =>
  have nd := scCl.nd
  refine ⟨_, .rt, ?_⟩
  refine' dss_cons (ds_set (d := IL row) (i := 3) nd rfl (Or.inl rfl) ?e) ?k
  case e => walk_at "d"
  case k =>
  refine dss_cons (ds_forF .never rfl (xs := steps) (en := IL) ?hi (fo_fold (St := List Int) (fun st => [.im (.int p), .im (IL row), .im (LL IL steps), .im (IL st), .un, .un]) (clear1 p)
    (fun xs st => st.length = row.length ∧ Red p st ∧ ∀ s ∈ xs, s.length = row.length ∧ firstC s ≠ none) (fun x xs st hP => ?st) steps row ⟨rfl, hrd, hs⟩)) ?k2
  case hi => walk_at "d"
  case k2 => walk_at "ret"
  case st =>
    obtain ⟨q1, q2, q3⟩ := hP
    obtain ⟨q4, q5⟩ := q3 x List.mem_cons_self
    obtain ⟨c, hc⟩ := Option.ne_none_iff_exists'.mp q5
    obtain ⟨c1, c2, c3⟩ := firstC_some hc
    have el : lead x = c := by unfold lead; rw [hc]; rfl
    have hb := red_nth q2 c (by omega)
    have q6 : ∀ s ∈ xs, s.length = row.length ∧ firstC s ≠ none := fun s hs => q3 s (List.mem_cons_of_mem _ hs)
    refine' ⟨_, _, .nx [.im (.int p), .im (IL row), .im (LL IL steps), .im (IL (clear1 p st x)), .im (IL x), .im (.int (nth st (c : Nat)))], ?tg, ?b, .nx ?w, ?P⟩
    case tg => walk_at "g"
    case w => exact weak_same (weak_same (weak_same (weak_same (weak_drop (weak_drop weak_nil)))))
    case P =>
      refine ⟨?_, ?_, q6⟩
      · unfold clear1; split
        · exact q1
        · rw [lessM_len]; exact q1
      · unfold clear1; split
        · exact q2
        · exact lessM_red (by omega) _ _ _
    case b =>
      refine' dss_cons (ds_set (d := .int (nth st (c : Nat))) (i := 5) nd rfl (Or.inl rfl) ?e) ?k
      case e =>
        have call : optD (firstC x) = .int (c : Nat) := by rw [hc]; rfl
        refine' de_ixN (f := D.int) ?v (DE.to ?c call) ?_ ?_
        case v => walk_at "d"
        case c => walk_at "d"
        all_goals omega
      case k =>
        refine' dss_one (ds_if ?t ?b1 ?b2)
        case t => walk_at "d"
        case b1 =>
          intro h
          have h' : nth st (c : Nat) ≠ 0 := by simpa using h
          have e : clear1 p st x = lessM p st x (nth st (c : Nat)) := by unfold clear1; rw [el, if_neg h']
          rw [e]
          refine' dss_cons (ds_set (d := IL (lessM p st x (nth st (c : Nat)))) (i := 3) nd rfl (Or.inl rfl) ?e) dss_nil
          case e =>
            walk_at "d"
            · intro y; exact cmul_l hb.1 hb.2 h2
        case b2 =>
          intro h
          have h' : nth st (c : Nat) = 0 := by simpa using h
          have e : clear1 p st x = st := by unfold clear1; rw [el, if_pos h']
          rw [e]
          exact dss_nil
end
section
variable {P : Program} {w : World} {K : PySem.W.Frag} {mg : Str → Option Value} {base : Heap}
/-! with_step -/
abbrev sWs : Stmt := topS 8
def nWs : List Str := ["prime", "steps", "row", "step", "column", "others", "found", "other"]
theorem scWs : FnScope nWs ["prime", "steps", "row"] (defScope sWs) := ⟨rfl, rfl, rfl, by decide +kernel, rfl, by decide +kernel, by decide +kernel⟩
inductive rWs : List D → D → Prop
  | mk {p : Int} {steps : List (List Int)} {row : List Int} (h1 : 2 ≤ p) (h2 : p ≤ 97) (hz : row.length < sizeLine) (hs : ∀ s ∈ steps, s.length = row.length ∧ Red p s) (hn : steps.length ≤ 1000000) (hm : firstC (monicM p row) ≠ none)
    (ho : ∀ o ∈ othersM p steps (monicM p row), firstC o ≠ none) : rWs [.int p, LL IL steps, IL row] (LF FL (withM p steps row))
theorem lead_of {row : List Int} {c : Nat} (h : firstC row = some c) : lead row = c := by unfold lead; rw [h]; rfl
theorem optD_of {row : List Int} (h : firstC row ≠ none) : optD (firstC row) = .int (lead row : Nat) := by
  obtain ⟨c, hc⟩ := Option.ne_none_iff_exists'.mp h
  rw [hc, lead_of hc]
  rfl
theorem sl_lt : (2000001 : Nat) < sizeLine := by decide
theorem ok_Ws {f : Addr} {fd : FuncData} (F : Fun K "with_step" "with_step" sWs f fd) (hFC : Has P w K mg base "first_column" 1 ["row"] rFC) (hLM : Has P w K mg base "less_multiple" 1 ["prime", "row", "other", "number"] rLM)
    (hMo : Has P w K mg base "monic_row" 3 ["prime", "row"] rMo) : FnOk P w K mg base CX0 4 f fd ["prime", "steps", "row"] (spD K rWs) := by
  refine fn_ok F scWs (fun ds r h => by cases h; rfl) (by decide) fun cdv A outer s H E hr ds r h => ?_
  cases h with
  | @mk p steps row h1 h2 hz hs hn hm ho =>
  have nd := scWs.nd
  have sl := sl_lt
  have hml : (monicM p row).length = row.length := monicM_len p row
  obtain ⟨c, hc⟩ := Option.ne_none_iff_exists'.mp hm
  obtain ⟨c1, c2, c3⟩ := firstC_some hc
  have el := lead_of hc
  have hol : ∀ o ∈ othersM p steps (monicM p row), o.length = row.length := fun o h => by
    obtain ⟨x, hx, rfl⟩ := List.mem_map.mp h
    rw [lessM_len]; exact (hs x hx).1
  have hon : (othersM p steps (monicM p row)).length = steps.length := by unfold othersM; rw [List.length_map]
  refine ⟨_, .rt, ?_⟩
  walk_at "set"
  refine' dss_cons (ds_set (d := .int (c : Nat)) (i := 4) nd rfl (Or.inr rfl) (DE.to ?e (show optD (firstC (monicM p row)) = .int (c : Nat) by rw [hc]; rfl))) ?k
  case e => walk_at "d"
  case k =>
  refine dss_cons (ds_lcA (i := 5) (own := [("other", 7)]) (xs := steps) (en := IL) (g := fun o => lessM p o (monicM p row) (nth o (c : Nat))) (eb := FL)
    (ρx := fun o => [.im (.int p), .im (LL IL steps), .im (IL row), .im (FL (monicM p row)), .im (.int (c : Nat)), .un, .un, .im (IL o)]) rfl nd rfl rfl (sw_true rfl rfl rfl (by decide +kernel))
    (blkOk_by (N := nWs) (sc := defScope sWs) (by decide +kernel)) ?hi1 ⟨?tg1, ?tt1, ?te1⟩ (by omega)) ?k1
  case hi1 => walk_at "d"
  case tg1 => intro s1 H1 C cl fp x hx; walk_at "g"
  case tt1 => intro s1 H1 C cl fp x hx; walk_at "d"
  case te1 =>
    intro s1 H1 C cl fp x hx _
    obtain ⟨x1, x2⟩ := hs x hx
    have xb := red_nth x2 c (by omega)
    walk_at "d"
    exact fun y => cmul_l xb.1 xb.2 h2
  have eo : steps.map (fun o => lessM p o (monicM p row) (nth o (c : Nat))) = othersM p steps (monicM p row) := by unfold othersM; rw [el]
  rw [eo]
  refine dss_frz 5 rfl ?_
  have test : ∀ (X' : Cx) (e a b : Expr) (ρ : Rho) (pos : Pos), True := fun _ _ _ _ _ _ => trivial
  refine dss_cons (ds_lcF (i := 6) (own := [("other", 7)]) (xs := othersM p steps (monicM p row)) (en := FL) (c := fun o => decide (lead o < c))
    (ρx := fun o => [.im (.int p), .im (LL IL steps), .im (IL row), .im (FL (monicM p row)), .im (.int (c : Nat)), .im (.lst ((othersM p steps (monicM p row)).map FL)), .un, .im (FL o)]) rfl nd rfl rfl (sw_true rfl rfl rfl (by decide +kernel))
    (blkOk_by (N := nWs) (sc := defScope sWs) (by decide +kernel)) ?hi2 ⟨?tg2, ?tt2, ?te2⟩ (by omega)) ?k2
  case hi2 => walk_at "d"
  case tg2 => intro s1 H1 C cl fp x hx; walk_at "g"
  case tt2 =>
    intro s1 H1 C cl fp x hx
    have xl := hol x hx
    refine' dts_one (DB.to (db_lt (DE.to ?c2 (optD_of (ho x hx))) ?d2) ?e2)
    case c2 => walk_at "d"
    case d2 => walk_at "d"
    case e2 => simp
  case te2 =>
    intro s1 H1 C cl fp x hx _
    walk_at "nm"
  have fl1 := List.length_filter_le (fun o => decide (lead o < c)) (othersM p steps (monicM p row))
  have fl2 := List.length_filter_le (fun o => decide (c < lead o)) (othersM p steps (monicM p row))
  walk_at "append"
  · rw [List.length_map]; omega
  refine' dss_cons (ds_extend (i := 6) (pv 6) rfl (DN.dvs (dn_lcF (own := [("other", 7)]) (xs := othersM p steps (monicM p row)) (en := FL) (c := fun o => decide (c < lead o))
    (ρx := fun o => [.im (.int p), .im (LL IL steps), .im (IL row), .im (FL (monicM p row)), .im (.int (c : Nat)), .im (.lst ((othersM p steps (monicM p row)).map FL)), .ow (.lst (((othersM p steps (monicM p row)).filter fun o => decide (lead o < c)).map FL ++ [FL (monicM p row)])), .im (FL o)]) rfl nd
    (blkOk_by (N := nWs) (sc := defScope sWs) (by decide +kernel)) ?hi3 ⟨?tg3, ?tt3, ?te3⟩ ?z3)) ?zz3) ?k3
  case hi3 => walk_at "d"
  case z3 => omega
  case tg3 => intro s1 H1 C cl fp x hx; walk_at "g"
  case tt3 =>
    intro s1 H1 C cl fp x hx
    have xl := hol x hx
    refine' dts_one (DB.to (db_gt (DE.to ?c3 (optD_of (ho x hx))) ?d3) ?e3)
    case c3 => walk_at "d"
    case d3 => walk_at "d"
    case e3 => simp
  case te3 =>
    intro s1 H1 C cl fp x hx _
    walk_at "nm"
  case zz3 => rw [List.length_append, List.length_map, List.length_map, List.length_singleton]; omega
  refine dss_frzF 6 rfl ?_
  refine dss_one (ds_ret (DE.to (de_var (pv 6) rfl) ?_))
  unfold withM LF
  rw [el, List.map_append, List.map_append, List.map_singleton]
end
section
variable {P : Program} {w : World} {K : PySem.W.Frag} {mg : Str → Option Value} {base : Heap}
/-! echelon -/
abbrev sEc : Stmt := topS 9
def nEc : List Str := ["prime", "rows", "steps", "row", "left"]
theorem scEc : FnScope nEc ["prime", "rows"] (defScope sEc) := ⟨rfl, rfl, rfl, by decide +kernel, rfl, by decide +kernel, by decide +kernel⟩
inductive rEc : List D → D → Prop
  | mk {p : Int} {wd : Nat} {rows : List (List Int)} (G : Good p) (hr : Rows p wd rows) (hw : wd < sizeLine) (hn : rows.length ≤ 1000) : rEc [.int p, LL IL rows] (LF FL (echM p rows))
theorem ok_Ec {f : Addr} {fd : FuncData} (F : Fun K "echelon" "echelon" sEc f fd) (hFC : Has P w K mg base "first_column" 1 ["row"] rFC) (hCl : Has P w K mg base "cleared" 2 ["prime", "row", "steps"] rCl)
    (hWs : Has P w K mg base "with_step" 4 ["prime", "steps", "row"] rWs) : FnOk P w K mg base CX0 5 f fd ["prime", "rows"] (spD K rEc) := by
  refine fn_ok F scEc (fun ds r h => by cases h; rfl) (by decide) fun cdv A outer s H E hr ds r h => ?_
  cases h with
  | @mk p wd rows G hrs hw hn =>
  have nd := scEc.nd
  have g1 := G.lo
  have g2 := G.hi
  have sl := sl_lt
  refine ⟨_, .rt, ?_⟩
  refine' dss_cons (ds_set (d := LF FL []) (i := 2) nd rfl (Or.inl rfl) ?e1) ?k1
  case e1 => exact DN.fl dn_nil
  case k1 =>
  refine dss_cons (ds_forF .never rfl (xs := rows) (en := IL) ?hi (fo_fold (St := List (List Int)) (fun st => [.im (.int p), .im (LL IL rows), .im (LF FL st), .un, .un]) (echStep p)
    (fun xs st => Rows p wd xs ∧ RRE p wd st ∧ st.length + xs.length ≤ 1000) (fun x xs st hP => ?st) rows [] ⟨hrs, rre_nil p wd, by simpa using hn⟩)) ?k2
  case hi => walk_at "d"
  case k2 => walk_at "ret"
  case st =>
    obtain ⟨q1, R, q3⟩ := hP
    obtain ⟨x1, x2⟩ := q1 x List.mem_cons_self
    obtain ⟨c1, c2, c3⟩ := clear_ok g1 R x1 x2
    rw [List.length_cons] at q3
    have so := ech_step_ok G R x1 x2
    refine' ⟨_, _, .nx [.im (.int p), .im (LL IL rows), .im (LF FL (echStep p st x)), .im (IL x), .im (IL (clearM p x st))], ?tg, ?b, .nx ?w, ⟨fun s hs => q1 s (List.mem_cons_of_mem _ hs), so.1, by omega⟩⟩
    case tg => walk_at "g"
    case w => exact weak_same (weak_same (weak_same (weak_drop (weak_drop weak_nil))))
    case b =>
      walk_at "set"
      · exact fun s hs => ⟨by rw [(R.rows s hs).1, x1], R.nz s hs⟩
      refine' dss_one (ds_if (db_notN ?t) ?b1 ?b2)
      case t => walk_at "d"
      case b1 =>
        intro h
        have hn : firstC (clearM p x st) ≠ none := by
          intro e
          rw [e] at h
          cases h
        have e : echStep p st x = withM p st (clearM p x st) := by
          unfold echStep
          rw [if_pos (by cases q : firstC (clearM p x st) with | none => exact absurd q hn | some c => rfl)]
        rw [e]
        walk_at "set"
        · exact fun s hs => ⟨by rw [(R.rows s hs).1, c1], (R.rows s hs).2⟩
        · exact (monic_ok G c2 hn).2.1
        · intro o ho
          unfold othersM at ho
          rw [(monic_ok G c2 hn).2.2.1] at ho
          obtain ⟨y, hy, rfl⟩ := List.mem_map.mp ho
          exact (other_ok G R c1 c2 c3 hn hy).2.2.1
        exact dss_nil
      case b2 =>
        intro h
        have hn : firstC (clearM p x st) = none := by
          cases q : firstC (clearM p x st) with
          | none => rfl
          | some c => rw [q] at h; cases h
        have e : echStep p st x = st := by
          unfold echStep
          rw [hn]
          rfl
        rw [e]
        exact dss_nil
/-! rank -/
abbrev sRk : Stmt := topS 10
def nRk : List Str := ["prime", "rows"]
theorem scRk : FnScope nRk ["prime", "rows"] (defScope sRk) := ⟨rfl, rfl, rfl, by decide +kernel, rfl, by decide +kernel, by decide +kernel⟩
inductive rRk : List D → D → Prop
  | mk {p : Int} {wd : Nat} {rows : List (List Int)} (G : Good p) (hr : Rows p wd rows) (hw : wd < sizeLine) (hn : rows.length ≤ 1000) : rRk [.int p, LL IL rows] (.int (echM p rows).length)
theorem ok_Rk {f : Addr} {fd : FuncData} (F : Fun K "rank" "rank" sRk f fd) (mLen : mg "len" = none) (hEc : Has P w K mg base "echelon" 5 ["prime", "rows"] rEc) : FnOk P w K mg base CX0 6 f fd ["prime", "rows"] (spD K rRk) := by
  refine fn_ok F scRk (fun ds r h => by cases h; rfl) (by decide) fun cdv A outer s H E hr ds r h => ?_
  cases h with
  | @mk p wd rows G hrs hw hn =>
  have nd := scRk.nd
  refine ⟨_, .rt, ?_⟩
  refine dss_one (ds_ret (DE.to (d := .int ((echM p rows).map FL).length) ?h (by rw [List.length_map])))
  case h => walk_at "d"
/-! is_in_span -/
abbrev sIs : Stmt := topS 11
def nIs : List Str := ["prime", "rows", "row"]
theorem scIs : FnScope nIs ["prime", "rows", "row"] (defScope sIs) := ⟨rfl, rfl, rfl, by decide +kernel, rfl, by decide +kernel, by decide +kernel⟩
inductive rIs : List D → D → Prop
  | mk {p : Int} {wd : Nat} {rows : List (List Int)} {row : List Int} (G : Good p) (hr : Rows p wd rows) (hw : wd < sizeLine) (hn : rows.length ≤ 1000) (hl : row.length = wd) (hx : Red p row) : rIs [.int p, LL IL rows, IL row] (.bl (firstC (clearM p row (echM p rows))).isNone)
theorem ok_Is {f : Addr} {fd : FuncData} (F : Fun K "is_in_span" "is_in_span" sIs f fd) (hFC : Has P w K mg base "first_column" 1 ["row"] rFC) (hCl : Has P w K mg base "cleared" 2 ["prime", "row", "steps"] rCl)
    (hEc : Has P w K mg base "echelon" 5 ["prime", "rows"] rEc) : FnOk P w K mg base CX0 6 f fd ["prime", "rows", "row"] (spD K rIs) := by
  refine fn_ok F scIs (fun ds r h => by cases h; rfl) (by decide) fun cdv A outer s H E hr ds r h => ?_
  cases h with
  | @mk p wd rows row G hrs hw hn hl hx =>
  have nd := scIs.nd
  have g1 := G.lo
  have g2 := G.hi
  have sl := sl_lt
  have R := (ech_ok G hrs).1
  obtain ⟨c1, c2, c3⟩ := clear_ok g1 R hl hx
  refine ⟨_, .rt, ?_⟩
  refine dss_one (ds_ret (DE.to (de_isN (x := optD (firstC (clearM p row (echM p rows)))) ?h) (by cases firstC (clearM p row (echM p rows)) <;> rfl)))
  case h =>
    refine' de_callH ?ha hFC (rFC.mk (row := clearM p row (echM p rows)) (by omega)) (by assumption) (by decide) rfl
    refine' da_cons ?e da_nil
    refine' de_callH ?hb hCl (rCl.mk (p := p) (row := row) (steps := echM p rows) g1 g2 (by omega) hx (fun s hs => ⟨by rw [(R.rows s hs).1, hl], R.nz s hs⟩)) (by assumption) (by decide) rfl
    refine' da_cons ?_ (da_cons ?_ (da_cons ?_ da_nil))
    · walk_at "d"
    · walk_at "d"
    · refine' DE.unFF ?_
      walk_at "d"
end
/-! the law's own numbers -/
def cellM (ns : List Int) (k : Int) : Int :=
  if k < ns.length ∧ 1000000000 ≤ nth ns k then nth ns k else
    ((if 0 < ns.length then 7 * k + 1 + 31 * nth ns (k % ns.length) else 7 * k + 1) * 48271 + 69621 * k) % 2147483647 * 69621 % 2147483629
def cell1 (ns : List Int) (k : Int) : Int := ((if 0 < ns.length then 7 * k + 1 + 31 * nth ns (k % ns.length) else 7 * k + 1) * 48271 + 69621 * k) % 2147483647
def cell (ns : List Int) (k : Int) : Int := if k < ns.length ∧ 1000000000 ≤ nth ns k then nth ns k else (cell1 ns k * 69621 + 48271 * (cell1 ns k / 1000)) % 2147483629
theorem cell_nn (ns : List Int) (k : Int) : 0 ≤ cell ns k := by
  unfold cell
  split
  · rename_i h; omega
  · exact Int.emod_nonneg _ (by decide)
section
variable {P : Program} {w : World} {K : PySem.W.Frag} {mg : Str → Option Value} {base : Heap}
/-! _law_cell -/
abbrev sCe : Stmt := topS 13
def nCe : List Str := ["script", "k", "cell"]
theorem scCe : FnScope nCe ["script", "k"] (defScope sCe) := ⟨rfl, rfl, rfl, by decide +kernel, rfl, by decide +kernel, by decide +kernel⟩
inductive rCe : List D → D → Prop
  | mk {ns : List Int} {k : Int} (h0 : 0 ≤ k) : rCe [.scr ns, .int k] (.int (cell ns k))
theorem ok_Ce {f : Addr} {fd : FuncData} (F : Fun K "_law_cell" "_law_cell" sCe f fd) (mLen : mg "len" = none) (mInt : mg "int" = none) : FnOk P w K mg base CX0 1 f fd ["script", "k"] (spD K rCe) := by
  refine fn_ok F scCe (fun ds r h => by cases h; rfl) (by decide) fun cdv A outer s H E hr ds r h => ?_
  cases h with
  | @mk ns k h0 =>
  have nd := scCe.nd
  refine ⟨.rt (.int (cell ns k)), .rt, ?_⟩
  have t1 : ∀ c : Bool, (decide (k < ns.length) && c) = (decide (k < ns.length) && c) := fun _ => rfl
  refine dss_or (o1 := if k < ns.length ∧ 1000000000 ≤ nth ns k then .rt (.int (nth ns k)) else .nx [.im (.scr ns), .im (.int k), .un]) (ds_if (t := decide (k < ns.length ∧ 1000000000 ≤ nth ns k)) ?t ?b1 ?b2) ?k1 ?l1
  case t =>
    refine DB.to (b := decide (k < (ns.map D.int).length) && decide ((10 : Int) ^ (9 : Int).toNat ≤ nth ns k)) ?_ ?_
    · refine' DW.db (dw_and ?_ (fun hq => dw_and1 ?_))
      · walk_at "d"
      · have hq' := of_decide_eq_true hq
        rw [List.length_map] at hq'
        walk_at "d"
        exact ⟨by decide, by decide, by decide⟩
    · rw [List.length_map, show (10 : Int) ^ (9 : Int).toNat = 1000000000 from rfl, ← Bool.decide_and]
  case b1 =>
    intro q
    have q := of_decide_eq_true q
    rw [if_pos q]
    have q1 := q.1
    walk_at "ret"
  case b2 =>
    intro q
    rw [if_neg (of_decide_eq_false q)]
    exact dss_nil
  case l1 =>
    intro q
    by_cases c : k < ns.length ∧ 1000000000 ≤ nth ns k
    · rw [if_pos c]; unfold cell; rw [if_pos c]
    · rw [if_neg c] at q; cases q
  case k1 =>
    intro ρ1 q
    by_cases c : k < ns.length ∧ 1000000000 ≤ nth ns k
    · rw [if_pos c] at q; cases q
    rw [if_neg c] at q
    cases q
    have ec : cell ns k = (cell1 ns k * 69621 + 48271 * (cell1 ns k / 1000)) % 2147483629 := by unfold cell; rw [if_neg c]
    rw [ec]
    walk_at "set"
    · exact .inl ⟨by decide, by decide⟩
    refine dss_cons (ρ1 := [.im (.scr ns), .im (.int k), .im (.int (if 0 < ns.length then 7 * k + 1 + 31 * nth ns (k % ns.length) else 7 * k + 1))]) (ds_if (t := decide (0 < ns.length)) ?t2 ?b3 ?b4) ?k2
    case t2 =>
      refine DB.to (b := decide ((0 : Int) < (ns.map D.int).length)) ?_ (by rw [List.length_map]; congr 1; simp)
      walk_at "d"
    case b3 =>
      intro q
      have q := of_decide_eq_true q
      rw [if_pos q]
      have e1 := Int.emod_nonneg k (b := (ns.length : Int)) (by omega)
      have e2 := Int.emod_lt_of_pos k (b := (ns.length : Int)) (by omega)
      refine' dss_cons (ds_set (d := .int (7 * k + 1 + 31 * nth ns (k % ns.length))) (i := 2) nd rfl (Or.inl rfl) (de_add ?a1 (de_mul ?a2 ?a3 ?a4))) dss_nil
      case a1 => walk_at "d"
      case a2 => walk_at "d"
      case a3 =>
        refine' de_ixN (f := D.int) ?v (DE.to (d := .int (k % (ns.map D.int).length)) ?x (by rw [List.length_map])) e1 e2
        case v => walk_at "d"
        case x =>
          walk_at "d"
          rw [List.length_map]; omega
      case a4 => exact .inl ⟨by decide, by decide⟩
    case b4 =>
      intro q
      rw [if_neg (of_decide_eq_false q)]
      exact dss_nil
    case k2 =>
    refine' dss_cons (ds_set (d := .int (cell1 ns k)) (i := 2) nd rfl (Or.inl rfl) ?e3) ?k3
    case e3 =>
      unfold cell1
      walk_at "d"
      · exact .inr ⟨by decide, by decide⟩
      · exact .inl ⟨by decide, by decide⟩
    case k3 =>
      walk_at "ret"
      · exact .inr ⟨by decide, by decide⟩
      · exact ⟨by decide, by decide⟩
      · exact .inl ⟨by decide, by decide⟩
/-! _law_digits -/
def perM (b : Int) : Int := if b ≤ 5 then 12 else if b ≤ 9 then 9 else if b ≤ 31 then 6 else 4
def digStep (ns : List Int) (at_ b : Int) (st : List Int × Int) (k : Nat) : List Int × Int :=
  (st.1 ++ [(if (k : Int) % perM b = 0 then cell ns (at_ + k / perM b) else st.2) % b], (if (k : Int) % perM b = 0 then cell ns (at_ + k / perM b) else st.2) / b)
def digitsM (ns : List Int) (at_ : Int) (count : Nat) (b : Int) : List Int := ((List.range count).foldl (digStep ns at_ b) ([], 0)).1
theorem dig_fold (ns : List Int) (at_ b : Int) (hb : 0 < b) : ∀ (ks : List Nat) (st : List Int × Int), Red b st.1 → (ks.foldl (digStep ns at_ b) st).1.length = st.1.length + ks.length ∧ Red b (ks.foldl (digStep ns at_ b) st).1
  | [], st, h => ⟨rfl, h⟩
  | k :: ks, st, h => by
    have := dig_fold ns at_ b hb ks (digStep ns at_ b st k) (fun x hx => by
      rcases List.mem_append.mp hx with hx | hx
      · exact h x hx
      · rw [List.mem_singleton.mp hx]
        exact ⟨Int.emod_nonneg _ (by omega), Int.emod_lt_of_pos _ hb⟩)
    refine ⟨?_, this.2⟩
    rw [List.foldl_cons, this.1]
    show (st.1 ++ [_]).length + ks.length = st.1.length + (ks.length + 1)
    rw [List.length_append, List.length_singleton]
    omega
theorem digits_ok (ns : List Int) (at_ : Int) (count : Nat) (b : Int) (hb : 0 < b) : (digitsM ns at_ count b).length = count ∧ Red b (digitsM ns at_ count b) := by
  have := dig_fold ns at_ b hb (List.range count) ([], 0) (fun x hx => absurd hx (by simp))
  rw [List.length_range, List.length_nil, Nat.zero_add] at this
  exact this
theorem perM_pos (b : Int) : 0 < perM b ∧ perM b ≤ 12 := by unfold perM; split <;> (try split) <;> (try split) <;> omega
abbrev sDi : Stmt := topS 14
def nDi : List Str := ["script", "at", "count", "base", "per", "found", "cell", "k"]
theorem scDi : FnScope nDi ["script", "at", "count", "base"] (defScope sDi) := ⟨rfl, rfl, rfl, by decide +kernel, rfl, by decide +kernel, by decide +kernel⟩
inductive rDi : List D → D → Prop
  | mk {ns : List Int} {at_ : Int} {count : Int} {b : Int} (h0 : 0 ≤ at_) (h1 : 0 ≤ count) (h2 : count ≤ 1000) (h3 : 2 ≤ b) (h4 : b ≤ 97) : rDi [.scr ns, .int at_, .int count, .int b] (IL (digitsM ns at_ count.toNat b))
theorem ok_Di {f : Addr} {fd : FuncData} (F : Fun K "_law_digits" "_law_digits" sDi f fd) (mR : mg "range" = none) (mInt : mg "int" = none) (hCe : Has P w K mg base "_law_cell" 1 ["script", "k"] rCe) : FnOk P w K mg base CX0 2 f fd ["script", "at", "count", "base"] (spD K rDi) := by
  refine fn_ok F scDi (fun ds r h => by cases h; rfl) (by decide) fun cdv A outer s H E hr ds r h => ?_
  cases h with
  | @mk ns at_ count b h0 h1 h2 h3 h4 =>
  have nd := scDi.nd
  have sl := sl_lt
  obtain ⟨pp1, pp2⟩ := perM_pos b
  refine ⟨_, .rt, ?_⟩
  walk_at "set"
  refine dss_cons (ρ1 := [.im (.scr ns), .im (.int at_), .im (.int count), .im (.int b), .im (.int (if b ≤ 31 then 6 else 4)), .un, .un, .un]) (ds_if (t := decide (b ≤ 31)) (by walk_at "d") (fun q => ?a1) (fun q => ?a2)) ?a3
  case a1 => rw [if_pos (of_decide_eq_true q)]; walk_at "set"; exact dss_nil
  case a2 => rw [if_neg (of_decide_eq_false q)]; exact dss_nil
  refine dss_cons (ρ1 := [.im (.scr ns), .im (.int at_), .im (.int count), .im (.int b), .im (.int (if b ≤ 9 then 9 else if b ≤ 31 then 6 else 4)), .un, .un, .un]) (ds_if (t := decide (b ≤ 9)) (by walk_at "d") (fun q => ?b1) (fun q => ?b2)) ?b3
  case b1 => rw [if_pos (of_decide_eq_true q)]; walk_at "set"; exact dss_nil
  case b2 => rw [if_neg (of_decide_eq_false q)]; exact dss_nil
  refine dss_cons (ρ1 := [.im (.scr ns), .im (.int at_), .im (.int count), .im (.int b), .im (.int (perM b)), .un, .un, .un]) (ds_if (t := decide (b ≤ 5)) (by walk_at "d") (fun q => ?c1) (fun q => ?c2)) ?c3
  case c1 => unfold perM; rw [if_pos (of_decide_eq_true q)]; walk_at "set"; exact dss_nil
  case c2 => unfold perM; rw [if_neg (of_decide_eq_false q)]; exact dss_nil
  walk_at "own"
  walk_at "set"
  refine dss_cons (ds_forF .never rfl (xs := List.range count.toNat) (en := fun i : Nat => D.int (i : Nat)) ?hi (fo_fold (St := List Int × Int) (fun st => [.im (.scr ns), .im (.int at_), .im (.int count), .im (.int b), .im (.int (perM b)), .ow (.lst (st.1.map .int)), .im (.int st.2), .un]) (digStep ns at_ b)
    (fun xs st => st.1.length + xs.length ≤ 1000) (fun x xs st hP => ?st) (List.range count.toNat) ([], 0) (by rw [List.length_range]; show 0 + _ ≤ _; omega))) ?k2
  case hi => walk_at "d"
  case st =>
    rw [List.length_cons] at hP
    have y1 := Int.emod_nonneg (x : Int) (b := perM b) (by omega)
    have y2 : 0 ≤ (x : Int) / perM b := Int.ediv_nonneg (by omega) (by omega)
    refine' ⟨_, _, .nx [.im (.scr ns), .im (.int at_), .im (.int count), .im (.int b), .im (.int (perM b)), .ow (.lst ((digStep ns at_ b st x).1.map .int)), .im (.int (digStep ns at_ b st x).2), .im (.int (x : Nat))], ?tg, ?bo, .nx ?w, ?P⟩
    case tg => walk_at "g"
    case w => exact weak_same (weak_same (weak_same (weak_same (weak_same (weak_same (weak_same (weak_drop weak_nil)))))))
    case P =>
      show (st.1 ++ [_]).length + _ ≤ _
      rw [List.length_append, List.length_singleton]
      omega
    case bo =>
      refine dss_cons (ρ1 := [.im (.scr ns), .im (.int at_), .im (.int count), .im (.int b), .im (.int (perM b)), .ow (.lst (st.1.map .int)), .im (.int (if (x : Int) % perM b = 0 then cell ns (at_ + x / perM b) else st.2)), .im (.int (x : Nat))]) (ds_if (t := decide ((x : Int) % perM b = 0)) (by walk_at "d") (fun q => ?d1) (fun q => ?d2)) ?d3
      case d1 =>
        rw [if_pos (of_decide_eq_true q)]
        walk_at "set"
        · exact ⟨by omega, by omega⟩
        exact dss_nil
      case d2 => rw [if_neg (of_decide_eq_false q)]; exact dss_nil
      walk_at "append"
      · rw [List.length_map]; omega
      refine' dss_cons (ds_set (d := .int (digStep ns at_ b st x).2) (i := 6) nd rfl (Or.inl rfl) ?e9) ?k9
      case e9 =>
        unfold digStep
        walk_at "d"
        exact ⟨by omega, by omega⟩
      case k9 =>
        refine DSs.to dss_nil ?_
        unfold digStep
        rw [List.map_append]
        rfl
  case k2 =>
    refine dss_frz 5 rfl ?_
    exact dss_one (ds_ret (de_var (pv 5) rfl))
end
section
variable {P : Program} {w : World} {K : PySem.W.Frag} {mg : Str → Option Value} {base : Heap}
theorem kb_int_list : kitB "int" "list" = some false := by decide +kernel
theorem kb_int_tuple : kitB "int" "tuple" = some false := by decide +kernel
theorem kb_int_bool : kitB "int" "bool" = some false := by decide +kernel
theorem kb_int_str : kitB "int" "str" = some false := by decide +kernel
theorem kb_int_int : kitB "int" "int" = some true := by decide +kernel
theorem kb_bool_list : kitB "bool" "list" = some false := by decide +kernel
theorem kb_bool_tuple : kitB "bool" "tuple" = some false := by decide +kernel
theorem kb_bool_bool : kitB "bool" "bool" = some true := by decide +kernel
theorem kb_list_list : kitB "list" "list" = some true := by decide +kernel
theorem kb_list_tuple : kitB "list" "tuple" = some false := by decide +kernel
/-! _law_same -/
abbrev sSa : Stmt := topS 15
def nSa : List Str := ["told", "due", "k"]
theorem scSa : FnScope nSa ["told", "due"] (defScope sSa) := ⟨rfl, rfl, rfl, by decide +kernel, rfl, by decide +kernel, by decide +kernel⟩
inductive rSa : Nat → List D → D → Prop
  | int (n : Nat) (a b : Int) : rSa n [.int a, .int b] (.bl (decide (a = b)))
  | bl (n : Nat) (a b : Bool) : rSa n [.bl a, .bl b] (.bl (decide (a = b)))
  | ll (n : Nat) {α : Type} [DecidableEq α] [Inhabited α] (en : α → D) [NoF en] (xs ys : List α) (hx : xs.length ≤ 1000000) (hy : ys.length ≤ 1000000) (h : ∀ a ∈ xs, ∀ b ∈ ys, rSa n [en a, en b] (.bl (decide (a = b)))) :
      rSa (n + 1) [LL en xs, LL en ys] (.bl (decide (xs = ys)))
theorem rSa_no {n : Nat} {ds : List D} {r : D} (h : rSa n ds r) : noFs ds = true := by
  cases h with
  | int n a b => simp [noFs, noF]
  | bl n a b => simp [noFs, noF]
  | @ll n α _ _ en nf xs ys _ _ h =>
    have h1 := (nofLL (en := en)).no xs
    have h2 := (nofLL (en := en)).no ys
    unfold noFs noFs noFs
    rw [h1, h2]
    rfl
theorem eq_nth {α : Type} [DecidableEq α] [Inhabited α] {xs ys : List α} (h : xs.length = ys.length) : ((List.range ys.length).filter fun k : Nat => !decide (nth xs (k : Nat) = nth ys (k : Nat))).isEmpty = decide (xs = ys) := by
  rw [Bool.eq_iff_iff, decide_eq_true_iff, List.isEmpty_iff, List.filter_eq_nil_iff]
  constructor
  · intro q
    apply List.ext_getElem h
    intro i h1 h2
    have := q i (by simpa using h2)
    simp only [Bool.not_eq_true', decide_eq_false_iff_not, Classical.not_not] at this
    unfold nth at this
    rw [Int.toNat_natCast, List.getD_eq_getElem?_getD, List.getD_eq_getElem?_getD, List.getElem?_eq_getElem h1, List.getElem?_eq_getElem h2] at this
    simpa using this
  · intro q i hi
    rw [q]
    simp
theorem dw_orT {X : Cx} {a b : Expr} {rest : List Expr} {ρ : Rho} {pos : Pos} (h : DB X a ρ true) : DW X (.BoolOp .Or (a :: b :: rest) pos) ρ true := by
  have := dw_or (pos := pos) (b := b) (rest := rest) (c' := true) h (fun z => by cases z)
  exact this
theorem dw_orF {X : Cx} {a b : Expr} {rest : List Expr} {ρ : Rho} {pos : Pos} {c : Bool} (h : DB X a ρ false) (h2 : DW X (.BoolOp .Or (b :: rest) pos) ρ c) : DW X (.BoolOp .Or (a :: b :: rest) pos) ρ c := by
  have := dw_or (pos := pos) h (fun _ => h2)
  rw [Bool.false_or] at this
  exact this
theorem dw_andF {X : Cx} {a b : Expr} {rest : List Expr} {ρ : Rho} {pos : Pos} (h : DB X a ρ false) : DW X (.BoolOp .And (a :: b :: rest) pos) ρ false := by
  have := dw_and (pos := pos) (b := b) (rest := rest) (c' := true) h (fun z => by cases z)
  exact this
theorem dw_andT {X : Cx} {a b : Expr} {rest : List Expr} {ρ : Rho} {pos : Pos} {c : Bool} (h : DB X a ρ true) (h2 : DW X (.BoolOp .And (b :: rest) pos) ρ c) : DW X (.BoolOp .And (a :: b :: rest) pos) ρ c := by
  have := dw_and (pos := pos) h (fun _ => h2)
  rw [Bool.true_and] at this
  exact this
section
variable {α : Type} [DecidableEq α] [Inhabited α] {en : α → D} {xs ys : List α}
end
theorem ok_Sa {f : Addr} {fd : FuncData} (n : Nat) (F : Fun K "_law_same" "_law_same" sSa f fd) (mI : mg "isinstance" = none) (mL : mg "list" = none) (mT : mg "tuple" = none) (mB : mg "bool" = none) (mS : mg "str" = none) (mInt : mg "int" = none) (mLen : mg "len" = none) (mR : mg "range" = none)
    (hSa : n ≠ 0 → Has P w K mg base "_law_same" n ["told", "due"] (rSa (n - 1))) : FnOk P w K mg base CX0 (n + 1) f fd ["told", "due"] (spD K (rSa n)) := by
  refine fn_ok F scSa (fun ds r h => by cases h <;> rfl) (by decide) fun cdv A outer s H E hr ds r h => ?_
  have nd := scSa.nd
  have sl := sl_lt
  refine ⟨_, .rt, ?_⟩
  cases h with
  | int n a b =>
    refine' dss_cons (ρ1 := [.im (.int a), .im (.int b), .un]) (ds_if (t := false) ?it1 (fun q => by cases q) (fun _ => dss_nil)) ?ik1
    case it1 =>
      refine' DW.db (dw_orF (db_val (de_isi (x := .int b) rfl mI ?ia1 rfl mL bt_list kb_int_list) (by intro _; rfl)) (dw_or1 (db_val (de_isi (x := .int b) rfl mI ?ia2 rfl mT bt_tuple kb_int_tuple) (by intro _; rfl))))
      case ia1 => walk_at "d"
      case ia2 => walk_at "d"
    case ik1 =>
    refine' dss_cons (ρ1 := [.im (.int a), .im (.int b), .un]) (ds_if (t := false) (db_isN (x := .int b) ?it2) (fun q => by cases q) (fun _ => dss_nil)) ?ik2
    case it2 => walk_at "d"
    case ik2 =>
    refine' dss_cons (ρ1 := [.im (.int a), .im (.int b), .un]) (ds_if (t := false) ?it3 (fun q => by cases q) (fun _ => dss_nil)) ?ik3
    case it3 =>
      refine' db_val (de_isi (x := .int b) rfl mI ?ia3 rfl mB bt_bool kb_int_bool) (by intro _; rfl)
      case ia3 => walk_at "d"
    case ik3 =>
    refine' dss_cons (ρ1 := [.im (.int a), .im (.int b), .un]) (ds_if (t := false) ?it4 (fun q => by cases q) (fun _ => dss_nil)) ?ik4
    case it4 =>
      refine' db_val (de_isi (x := .int b) rfl mI ?ia4 rfl mS bt_str kb_int_str) (by intro _; rfl)
      case ia4 => walk_at "d"
    case ik4 =>
    refine' dss_one (ds_ret (de_andV (c := true) (de_isi (x := .int a) rfl mI ?ia5 rfl mInt bt_int kb_int_int) (fun _ => de_andV (c := true) (de_notV (c := false) (de_isi (x := .int a) rfl mI ?ia6 rfl mB bt_bool kb_int_bool)) (fun _ => de_one (de_eqI ?ia7 ?ia8)) (fun z => by cases z)) (fun z => by cases z)))
    all_goals walk_at "d"
  | bl n a b =>
    refine' dss_cons (ρ1 := [.im (.bl a), .im (.bl b), .un]) (ds_if (t := false) ?jt1 (fun q => by cases q) (fun _ => dss_nil)) ?jk1
    case jt1 =>
      refine' DW.db (dw_orF (db_val (de_isi (x := .bl b) rfl mI ?ja1 rfl mL bt_list kb_bool_list) (by intro _; rfl)) (dw_or1 (db_val (de_isi (x := .bl b) rfl mI ?ja2 rfl mT bt_tuple kb_bool_tuple) (by intro _; rfl))))
      case ja1 => walk_at "d"
      case ja2 => walk_at "d"
    case jk1 =>
    refine' dss_cons (ρ1 := [.im (.bl a), .im (.bl b), .un]) (ds_if (t := false) (db_isN (x := .bl b) ?jt2) (fun q => by cases q) (fun _ => dss_nil)) ?jk2
    case jt2 => walk_at "d"
    case jk2 =>
    refine' dss_stop (ds_if (t := true) ?jt3 (fun _ => ?jb3) (fun q => by cases q)) rfl
    case jt3 =>
      refine' db_val (de_isi (x := .bl b) rfl mI ?ja3 rfl mB bt_bool kb_bool_bool) (by intro _; rfl)
      case ja3 => walk_at "d"
    case jb3 =>
      refine' dss_one (ds_ret (de_andV (c := true) (de_isi (x := .bl a) rfl mI ?ja5 rfl mB bt_bool kb_bool_bool) (fun _ => de_one (de_eqD (en := D.bl) ?ja7 ?ja8 hr)) (fun z => by cases z)))
      all_goals walk_at "d"
  | @ll n α _ _ en nf xs ys hx hy h =>
    have hSa := hSa (Nat.succ_ne_zero _)
    rw [Nat.add_sub_cancel] at hSa
    refine' dss_stop (ds_if (t := true) ?mt1 (fun _ => ?mb1) (fun q => by cases q)) rfl
    case mt1 =>
      refine' DW.db (dw_orT (db_val (de_isi (x := LL en ys) rfl mI ?ma1 rfl mL bt_list kb_list_list) (by intro _; rfl)))
      case ma1 => walk_at "d"
    case mb1 =>
    refine' dss_cons (ρ1 := [.im (LL en xs), .im (LL en ys), .un]) (ds_if (t := false) ?mt2 (fun q => by cases q) (fun _ => dss_nil)) ?mk2
    case mt2 =>
      refine' DW.db (dw_orF ?mu1 (dw_or1 ?mu2))
      case mu1 =>
        refine' DW.db (dw_andT (db_val (de_isi (x := LL en ys) rfl mI ?ma2 rfl mL bt_list kb_list_list) (by intro _; rfl)) (dw_and1 (db_not (c := true) (db_val (de_isi (x := LL en xs) rfl mI ?ma3 rfl mL bt_list kb_list_list) (by intro _; rfl)))))
        all_goals walk_at "d"
      case mu2 =>
        refine' DW.db (dw_andF (db_val (de_isi (x := LL en ys) rfl mI ?ma4 rfl mT bt_tuple kb_list_tuple) (by intro _; rfl)))
        all_goals walk_at "d"
    case mk2 =>
    by_cases hl : xs.length = ys.length
    · refine' dss_cons (ρ1 := [.im (LL en xs), .im (LL en ys), .un]) (ds_if (t := !decide (((xs.map en).length : Int) = (ys.map en).length)) ?mt3 (fun q => by rw [List.length_map, List.length_map, hl] at q; simp at q) (fun _ => dss_nil)) ?mk3
      case mt3 => walk_at "d"
      case mk3 =>
      rw [← eq_nth hl]
      refine' dss_one (ds_ret (de_eqNil (n := 0) (u := (List.range ys.length).filter fun k : Nat => !decide (nth xs (k : Nat) = nth ys (k : Nat))) (en := fun i : Nat => D.int (i : Nat)) (p := ⟨fun x => by simp [okD], fun x y => by simp [eqD, pyD, PyData.eqv]; omega⟩) (DN.de (dn_lcF (own := [("k", 2)]) (xs := List.range ys.length) (en := fun i : Nat => D.int (i : Nat)) (c := fun k : Nat => !decide (nth xs (k : Nat) = nth ys (k : Nat)))
        (ρx := fun k => [.im (LL en xs), .im (LL en ys), .im (.int (k : Nat))]) rfl nd (blkOk_by (N := nSa) (sc := defScope sSa) (by decide +kernel)) ?mhi ⟨?mtg, ?mtt, ?mte⟩ (by rw [List.length_range]; omega))) hr))
      case mhi =>
        have e : ys.length = (((ys.map en).length : Nat) : Int).toNat := by rw [List.length_map, Int.toNat_natCast]
        rw [e]
        refine' DI.c (di_rng1 rfl mR ?ml1 (by omega) (by rw [List.length_map]; omega))
        case ml1 => walk_at "d"
      case mtg => intro s1 H1 C cl fp x hx; walk_at "g"
      case mtt =>
        intro s1 H1 C cl fp x hx
        have hxl := List.mem_range.mp hx
        have m1 : nth xs (x : Nat) ∈ xs := by
          unfold nth
          rw [Int.toNat_natCast, List.getD_eq_getElem?_getD, List.getElem?_eq_getElem (by omega)]
          exact List.getElem_mem _
        have m2 : nth ys (x : Nat) ∈ ys := by
          unfold nth
          rw [Int.toNat_natCast, List.getD_eq_getElem?_getD, List.getElem?_eq_getElem (by omega)]
          exact List.getElem_mem _
        refine' dts_one (db_not (db_val (de_callH ?mha hSa (h _ m1 _ m2) hr (Nat.le_refl _) rfl) (by intro _; rfl)))
        case mha =>
          refine' da_cons (de_ixN (f := en) (xs := xs) ?mv1 ?mv2 ?mv3 ?mv4) (da_cons (de_ixN (f := en) (xs := ys) ?mv5 ?mv6 ?mv7 ?mv8) da_nil)
          all_goals walk_at "d"
      case mte => intro s1 H1 C cl fp x hx _; walk_at "nm"
    · have e : decide (xs = ys) = false := decide_eq_false fun e => hl (by rw [e])
      rw [e]
      refine' dss_stop (ds_if (t := !decide (((xs.map en).length : Int) = (ys.map en).length)) ?mt3 (fun _ => dss_one (ds_ret de_bl)) (fun q => by rw [List.length_map, List.length_map] at q; simp at q; omega)) rfl
      case mt3 => walk_at "d"
end
section
variable {P : Program} {w : World} {K : PySem.W.Frag} {mg : Str → Option Value} {base : Heap}
/-! _law_over -/
abbrev sOv : Stmt := topS 16
def nOv : List Str := ["p", "number", "x"]
theorem scOv : FnScope nOv ["p", "number"] (defScope sOv) := ⟨rfl, rfl, rfl, by decide +kernel, rfl, by decide +kernel, by decide +kernel⟩
inductive rOv : List D → D → Prop
  | mk {p n : Int} (G : Good p) (h0 : 0 < n) (h1 : n < p) : rOv [.int p, .int n] (.int (inv p n))
theorem ok_Ov {f : Addr} {fd : FuncData} (F : Fun K "_law_over" "_law_over" sOv f fd) (mR : mg "range" = none) (mInt : mg "int" = none) : FnOk P w K mg base CX0 1 f fd ["p", "number"] (spD K rOv) := by
  refine fn_ok F scOv (fun ds r h => by cases h; rfl) (by decide) fun cdv A outer s H E hr ds r h => ?_
  cases h with
  | @mk p n G h0 h1 =>
  have nd := scOv.nd
  have sl := sl_lt
  have g1 := G.lo
  have g2 := G.hi
  obtain ⟨o1, o2⟩ := over_ok G h0 h1
  refine ⟨_, .rt, ?_⟩
  rw [← o2]
  refine' dss_one (ds_ret (de_ixN (f := fun i : Nat => D.int (i : Nat)) (i := 0) (DN.dv (dn_lcF (own := [("x", 2)]) (xs := List.range p.toNat) (en := fun i : Nat => D.int (i : Nat)) (c := fun x : Nat => decide ((x : Int) * n % p = 1))
    (ρx := fun x => [.im (.int p), .im (.int n), .im (.int (x : Nat))]) rfl nd (blkOk_by (N := nOv) (sc := defScope sOv) (by decide +kernel)) ?hi ⟨?tg, ?tt, ?te⟩ (by rw [List.length_range]; omega))) de_int (Int.le_refl 0) (by omega)))
  case hi => walk_at "d"
  case tg => intro s1 H1 C cl fp x hx; walk_at "g"
  case tt =>
    intro s1 H1 C cl fp x hx
    walk_at "d"
    exact .inr ⟨by omega, by omega⟩
  case te => intro s1 H1 C cl fp x hx _; walk_at "nm"
theorem de_ix2 {X : Cx} {ρ : Rho} {a b c : Expr} {l : List (List Int)} {i j : Int} {pos pos2 : Pos} (ha : DV X a ρ (l.map IL)) (hb : DE X b ρ (.int i)) (hc : DE X c ρ (.int j)) (h0 : 0 ≤ i) (h1 : i < l.length) (h2 : 0 ≤ j) (h3 : j < (nth l i).length)
    (hs : PlainIx b := by exact fun _ _ => rfl) (hs2 : PlainIx c := by exact fun _ _ => rfl) : DE X (.Subscript (.Subscript a b pos) c pos2) ρ (.int (nth (nth l i) j)) :=
  de_ixN (f := D.int) (DV.of (de_ixN (f := IL) ha hb h0 h1 hs)) hc h2 h3 hs2
theorem ixN_of {n : Nat} {k : Int} (h0 : 0 ≤ k) (h1 : k < n) : ixN n k = some k.toNat := by unfold ixN; rw [if_pos h0, if_pos h1]
/-! _law_echelon -/
abbrev sLE : Stmt := topS 17
def nLE : List Str := ["p", "rows", "left", "found", "width", "column", "places", "row", "number", "k", "factor", "entry", "j"]
theorem scLE : FnScope nLE ["p", "rows"] (defScope sLE) := ⟨rfl, rfl, rfl, by decide +kernel, rfl, by decide +kernel, by decide +kernel⟩
inductive rLE : List D → D → Prop
  | mk {p : Int} {wd : Nat} {rows : List (List Int)} (G : Good p) (hr : Rows p wd rows) (hw : wd ≤ 1000) (hn : rows.length ≤ 1000) : rLE [.int p, LL IL rows] (LL IL (lawE p rows))
/-- the state of the outer loop -/
def rhoLE (p : Int) (rows : List (List Int)) (wd : Nat) (st : List (List Int) × Nat) : Rho :=
  [.im (.int p), .im (LL IL rows), .ow (.lst (st.1.map IL)), .im (.int (st.2 : Nat)), .im (.int (wd : Nat)), .un, .un, .un, .un, .un, .un, .un, .un]
theorem ok_LE {f : Addr} {fd : FuncData} (F : Fun K "_law_echelon" "_law_echelon" sLE f fd) (mR : mg "range" = none) (mInt : mg "int" = none) (mLen : mg "len" = none) (hOv : Has P w K mg base "_law_over" 1 ["p", "number"] rOv) : FnOk P w K mg base CX0 2 f fd ["p", "rows"] (spD K rLE) := by
  refine fn_ok F scLE (fun ds r h => by cases h; rfl) (by decide) fun cdv A outer s H E hr ds r h => ?_
  cases h with
  | @mk p wd rows G hrs hw hn =>
  have nd := scLE.nd
  have sl := sl_lt
  have g1 := G.lo
  have g2 := G.hi
  have em := mod_rows (by omega) hrs
  have ewd : widthM rows ≤ 1000 := by
    unfold widthM
    cases rows with
    | nil => exact Nat.zero_le _
    | cons r rs =>
      show r.length ≤ 1000
      rw [(hrs r List.mem_cons_self).1]
      exact hw
  refine ⟨_, .rt, ?_⟩
  refine dss_cons (ds_setN (i := 2) nd rfl (Or.inr rfl) (dn_lcA (own := [("row", 7)]) (xs := rows) (en := IL) (g := fun r => r.map fun x => x % p) (eb := IL)
    (ρx := fun r => [.im (.int p), .im (LL IL rows), .un, .un, .un, .un, .un, .im (IL r), .un, .un, .un, .un, .un]) rfl nd
    (blkOk_by (N := nLE) (sc := defScope sLE) (by decide +kernel)) ?hi1 ⟨?tg1, ?tt1, ?te1⟩ (by omega))) ?k1
  case hi1 => walk_at "d"
  case tg1 => intro s1 H1 C cl fp x hx; walk_at "g"
  case tt1 => intro s1 H1 C cl fp x hx; walk_at "d"
  case te1 =>
    intro s1 H1 C cl fp x hx _
    have xl := (hrs x hx).1
    refine' DN.de (dn_lcA (own := [("entry", 11)]) (xs := x) (en := D.int) (ρx := fun e => [.im (.int p), .im (LL IL rows), .un, .un, .un, .un, .un, .im (IL x), .un, .un, .un, .im (.int e), .un]) rfl nd ?blk ?hi2 ⟨?tg2, ?tt2, ?te2⟩ (by omega))
    case blk => exact (show BlkOk nLE (relS _ (defScope sLE)) _ _ from blkOk_by (by decide +kernel))
    case hi2 => walk_at "d"
    case tg2 => intro s1 H1 C cl fp x hx; walk_at "g"
    case tt2 => intro s1 H1 C cl fp x hx; walk_at "d"
    case te2 => intro s1 H1 C cl fp x hx _; walk_at "d"
  rw [em]
  walk_at "set"
  refine' dss_cons (ds_set (d := .int (widthM rows : Nat)) (i := 4) nd rfl (by first | exact Or.inl rfl | exact Or.inr rfl) ?e3) ?k3
  case e3 =>
    cases rows with
    | nil =>
      refine' de_if (t := false) ?c3 (fun q => by cases q) (fun _ => de_int)
      case c3 =>
        refine' DB.to (db_neNil (u := ([] : List (List Int))) (en := IL) ?c4 hr) rfl
        case c4 => walk_at "d"
    | cons r rs =>
      refine' de_if (t := true) ?c5 (fun _ => ?c6) (fun q => by cases q)
      case c5 =>
        refine' DB.to (db_neNil (u := r :: rs) (en := IL) ?c7 hr) rfl
        case c7 => walk_at "d"
      case c6 =>
        refine' DE.to (d := .int ((r.map D.int).length : Nat)) ?c8 (by rw [List.length_map]; rfl)
        case c8 =>
          refine' de_len rfl mLen bt_len (DV.of (de_ixN (f := IL) (xs := r :: rs) (i := 0) ?c9 de_int (Int.le_refl 0) (by rw [List.length_cons]; omega)))
          case c9 => walk_at "d"
  case k3 =>
  have hcs : ∀ c ∈ List.range (widthM rows), c < wd := fun c hc => by
    rw [List.mem_range] at hc
    cases rows with
    | nil => exact absurd hc (Nat.not_lt_zero _)
    | cons r rs =>
      have : widthM (r :: rs) = wd := (hrs r List.mem_cons_self).1
      omega
  refine dss_cons (ds_forF .never rfl (xs := List.range (widthM rows)) (en := fun i : Nat => D.int (i : Nat)) ?hi3 (fo_fold (St := List (List Int) × Nat) (rhoLE p rows (widthM rows)) (colStep p)
    (fun xs st => Rows p wd st.1 ∧ st.2 ≤ st.1.length ∧ st.1.length = rows.length ∧ ∀ c ∈ xs, c < wd) (fun c xs st hP => ?st3) (List.range (widthM rows)) (rows, 0) ⟨hrs, Nat.zero_le _, rfl, hcs⟩)) ?k4
  case hi3 => exact di_rngN rfl mR (de_var (pv 4) rfl) (by omega)
  case k4 =>
    have fin := cols_ok (w := wd) (by omega) (List.range (widthM rows)) (rows, 0) hrs (Nat.zero_le _)
    refine' dss_one (ds_ret (DE.to (d := .lst (((((List.range (widthM rows)).foldl (colStep p) (rows, 0)).1).take (((List.range (widthM rows)).foldl (colStep p) (rows, 0)).2 : Int).toNat).map IL)) (DN.de (dn_to ?v4 ?f4 (by omega))) ?q4))
    case v4 => exact dv_own (pv 2) rfl
    case f4 => exact de_var (pv 3) rfl
    case q4 =>
      rw [Int.toNat_natCast]
      unfold lawE
      rw [em]
      rfl
  case st3 =>
    obtain ⟨l, fo⟩ := st
    obtain ⟨R, hf, hl, hc⟩ := hP
    dsimp only at R hf hl
    have hcw := hc c List.mem_cons_self
    have co := col_ok (by omega) (st := (l, fo)) R hf c
    refine' ⟨_, _, .nx (rhoLE p rows (widthM rows) (colStep p (l, fo) c)), ?tg3, ?b3, Step.nx', ⟨co.2.1, by have := co.1; have := co.2.2; dsimp only at *; omega, co.1.trans hl, fun c h => hc c (List.mem_cons_of_mem _ h)⟩⟩
    case tg3 =>
      refine' dg_name (i := 5) ?_
      exact pg_name nd rfl (Or.inr rfl)
    case b3 =>
    have rl : ∀ k : Int, 0 ≤ k → k < l.length → (nth l k).length = wd ∧ Red p (nth l k) := fun k h0 h1 => by
      have e : k = ((k.toNat : Nat) : Int) := by omega
      rw [e]
      exact rows_nth R (by omega)
    have hmem : ∀ k : Int, k ∈ (List.range (l.length - fo)).map (fun i : Nat => (fo : Int) + (i : Nat)) → (fo : Int) ≤ k ∧ k < l.length := fun k hk => by
      obtain ⟨i, hi, rfl⟩ := List.mem_map.mp hk
      have := List.mem_range.mp hi
      omega
    refine dss_cons (ds_lcF (i := 6) (own := [("k", 9)]) (xs := (List.range (l.length - fo)).map fun i : Nat => (fo : Int) + (i : Nat)) (en := D.int) (c := fun k => !decide (nth (nth l k) (c : Nat) = 0))
      (ρx := fun k => [.im (.int p), .im (LL IL rows), .ow (.lst (l.map IL)), .im (.int (fo : Nat)), .im (.int (widthM rows : Nat)), .im (.int (c : Nat)), .un, .un, .un, .im (.int k), .un, .un, .un]) rfl nd rfl rfl (sw_true rfl rfl rfl (by decide +kernel))
      (blkOk_by (N := nLE) (sc := defScope sLE) (by decide +kernel)) ?hi5 ⟨?tg5, ?tt5, ?te5⟩ (by rw [List.length_map, List.length_range]; omega)) ?k5
    case hi5 =>
      rw [List.map_map]
      have e : l.length - fo = ((((l.map IL).length : Nat) : Int) - (fo : Nat)).toNat := by rw [List.length_map]; omega
      rw [e]
      refine' DI.c (di_rng2 rfl mR ?a5 ?b5 (by rw [List.length_map]; omega))
      case a5 => exact de_var (pv 3) rfl
      case b5 => exact de_len rfl mLen bt_len (dv_own (pv 2) rfl)
    case tg5 => intro s1 H1 C cl fp x hx; walk_at "g"
    case tt5 =>
      intro s1 H1 C cl fp x hx
      obtain ⟨x0, x1⟩ := hmem x hx
      obtain ⟨r1, r2⟩ := rl x (by omega) x1
      refine' dts_one (db_neI (de_ix2 (l := l) (dv_own (pv 2) rfl) (de_var (pv 9) rfl) (de_var (pv 5) rfl) (by omega) x1 (by omega) (by omega)) de_int)
    case te5 => intro s1 H1 C cl fp x hx _; walk_at "nm"
    case k5 =>
    have epl : ((List.range (l.length - fo)).map fun i : Nat => (fo : Int) + (i : Nat)).filter (fun k => !decide (nth (nth l k) (c : Nat) = 0)) = placesM l fo c := rfl
    rw [epl]
    refine' dss_one (ds_if (t := !(placesM l fo c).isEmpty) ?t6 ?b6 ?c6)
    case t6 =>
      refine' db_frz (i := 6) rfl (db_neNil (u := placesM l fo c) (en := D.int) ?d6 hr)
      case d6 => exact de_var (pv 6) rfl
    case c6 =>
      intro q
      have e : placesM l fo c = [] := by
        cases h : placesM l fo c with
        | nil => rfl
        | cons a b => rw [h] at q; simp at q
      have e2 : colStep p (l, fo) c = (l, fo) := by unfold colStep; rw [e]
      rw [e2]
      refine DSs.weak dss_nil ?_
      exact weak_same (weak_same (weak_same (weak_same (weak_same (weak_drop (weak_drop (weak_same (weak_same (weak_same (weak_same (weak_same (weak_same weak_nil))))))))))))
    case b6 =>
      intro q
      cases h : placesM l fo c with
      | nil => rw [h] at q; simp at q
      | cons pl r =>
      rw [h] at q
      obtain ⟨p1, p2, p3, p4⟩ := places_mem (l := l) (found := fo) (c := c) (pl := pl) (by rw [h]; exact List.mem_cons_self)
      have epl2 : ((pl.toNat : Nat) : Int) = pl := by omega
      rw [epl2] at p4
      obtain ⟨r1, r2⟩ := rl pl p3 (by omega)
      have rb := red_at r2 (j := c) (by omega)
      have ecs : colStep p (l, fo) c = ((List.range l.length).foldl (elimStep p (pivotM p l fo c pl.toNat) fo c) (swapM p l fo c pl.toNat), fo + 1) := by unfold colStep; simp only [h]
      rw [ecs]
      refine' dss_cons (ds_set (d := IL (nth l pl)) (i := 7) nd rfl (by first | exact Or.inl rfl | exact Or.inr rfl) (de_ixN (f := IL) (xs := l) (dv_own (pv 2) rfl) (de_ixN (f := D.int) (xs := pl :: r) (i := 0) (dv_own (pv 6) rfl) de_int (Int.le_refl 0) (by rw [List.length_cons]; omega)) p3 (by omega))) ?k7
      case k7 =>
      refine' dss_cons (ds_setIx (i := 2) (ds := l.map IL) (d := IL (nth l (fo : Nat))) (k := pl) (j := pl.toNat) (pv 2) rfl (de_ixN (f := IL) (xs := l) (dv_own (pv 2) rfl) (de_var (pv 3) rfl) (by omega) (by omega)) (de_ixN (f := D.int) (xs := pl :: r) (i := 0) (dv_own (pv 6) rfl) de_int (Int.le_refl 0) (by rw [List.length_cons]; omega)) (ixN_of p3 (by rw [List.length_map]; omega))) ?k8
      case k8 =>
      rw [← List.map_set]
      -- the number over the pivot
      refine' dss_cons (ds_set (d := .int (inv p (nth (nth l pl) (c : Nat)))) (i := 8) nd rfl (by first | exact Or.inl rfl | exact Or.inr rfl) (de_callH (da_cons (de_var (pv 0) rfl) (da_cons (de_ixN (f := D.int) (xs := nth l pl) (DV.of (de_var (pv 7) rfl)) (de_var (pv 5) rfl) (by omega) (by omega)) da_nil)) hOv (rOv.mk G (by omega) (by omega)) hr (by decide) rfl)) ?k9
      case k9 =>
      have epiv : pivotM p l fo c pl.toNat = (nth l pl).map fun x => x * inv p (nth (nth l pl) (c : Nat)) % p := by unfold pivotM; rw [epl2]
      refine' dss_cons (ds_set (d := IL (pivotM p l fo c pl.toNat)) (i := 7) nd rfl (by first | exact Or.inl rfl | exact Or.inr rfl) ?e10) ?k10
      case e10 =>
        rw [epiv]
        refine' DN.de (dn_lcA (own := [("entry", 11)]) (xs := nth l pl) (en := D.int) (g := fun x => x * inv p (nth (nth l pl) (c : Nat)) % p) (eb := D.int)
          (ρx := fun x => [.im (.int p), .im (LL IL rows), .ow (.lst ((l.set pl.toNat (nth l (fo : Nat))).map IL)), .im (.int (fo : Nat)), .im (.int (widthM rows : Nat)), .im (.int (c : Nat)), .ow (.lst ((pl :: r).map D.int)), .im (IL (nth l pl)), .im (.int (inv p (nth (nth l pl) (c : Nat)))), .un, .un, .im (.int x), .un]) rfl nd
          (blkOk_by (N := nLE) (sc := defScope sLE) (by decide +kernel)) ?hi11 ⟨?tg11, ?tt11, ?te11⟩ (by omega))
        case hi11 => exact dic_list (DV.of (de_var (pv 7) rfl))
        case tg11 => intro s1 H1 C cl fp x hx; walk_at "g"
        case tt11 => intro s1 H1 C cl fp x hx; exact dts_nil
        case te11 =>
          intro s1 H1 C cl fp x hx _
          walk_at "d"
          exact cmul_r (inv_lo g1) (inv_hi g1) g2
      case k10 =>
      have sw := swap_ok (c := c) (by omega) R (show fo < l.length by omega) p2
      refine' dss_cons (ds_setIx (i := 2) (ds := (l.set pl.toNat (nth l (fo : Nat))).map IL) (d := IL (pivotM p l fo c pl.toNat)) (k := (fo : Nat)) (j := fo) (pv 2) rfl (de_var (pv 7) rfl) (de_var (pv 3) rfl) (by rw [ixN_of (by omega) (by rw [List.length_map, List.length_set]; omega)]; rfl)) ?k11
      case k11 =>
      rw [← List.map_set]
      have esw : (l.set pl.toNat (nth l (fo : Nat))).set fo (pivotM p l fo c pl.toNat) = swapM p l fo c pl.toNat := rfl
      rw [esw]
      have piv := pivot_ok (c := c) (found := fo) (p := p) (by omega) R p2
      refine' dss_cons (ρ1 := [.im (.int p), .im (LL IL rows), .ow (.lst (((List.range l.length).foldl (elimStep p (pivotM p l fo c pl.toNat) fo c) (swapM p l fo c pl.toNat)).map IL)), .im (.int (fo : Nat)), .im (.int (widthM rows : Nat)), .im (.int (c : Nat)), .ow (.lst ((pl :: r).map D.int)), .im (IL (pivotM p l fo c pl.toNat)), .im (.int (inv p (nth (nth l pl) (c : Nat)))), .un, .un, .un, .un]) (ds_forF .never rfl (xs := List.range l.length) (en := fun i : Nat => D.int (i : Nat)) ?hi12 ?fo12) ?k12
      case hi12 =>
        have e : l.length = ((swapM p l fo c pl.toNat).map IL).length := by rw [List.length_map]; exact sw.1.symm
        rw [e]
        exact di_rngN rfl mR (de_len rfl mLen bt_len (dv_own (pv 2) rfl)) (by rw [List.length_map, sw.1]; omega)
      case k12 =>
        refine' dss_cons (ds_set (d := .int ((fo + 1 : Nat) : Int)) (i := 3) nd rfl (by first | exact Or.inl rfl | exact Or.inr rfl) (DE.to (de_add (de_var (pv 3) rfl) de_int) (by rw [Int.natCast_add]; rfl))) ?k13
        case k13 =>
          refine DSs.weak dss_nil ?_
          exact weak_same (weak_same (weak_same (weak_same (weak_same (weak_drop (weak_drop (weak_drop (weak_drop (weak_same (weak_same (weak_same (weak_same weak_nil))))))))))))
      case fo12 =>
        have ew : widthM rows = wd := by
          cases rows with
          | nil => rw [List.length_nil] at hl; omega
          | cons r rs => exact (hrs r List.mem_cons_self).1
        generalize epv : pivotM p l fo c pl.toNat = pv' at piv
        generalize ein : inv p (nth (nth l pl) (c : Nat)) = iv
        refine fo_fold (St := List (List Int)) (fun l' => [.im (.int p), .im (LL IL rows), .ow (.lst (l'.map IL)), .im (.int (fo : Nat)), .im (.int (widthM rows : Nat)), .im (.int (c : Nat)), .ow (.lst ((pl :: r).map D.int)), .im (IL pv'), .im (.int iv), .un, .un, .un, .un])
          (elimStep p pv' fo c) (fun xs l' => Rows p wd l' ∧ l'.length = l.length ∧ ∀ k ∈ xs, k < l.length) (fun x xs l' hP => ?st13) (List.range l.length) (swapM p l fo c pl.toNat) ⟨sw.2, sw.1, fun k hk => List.mem_range.mp hk⟩
        case st13 =>
          obtain ⟨R', hl', hk⟩ := hP
          have hx := hk x List.mem_cons_self
          obtain ⟨q1, q2⟩ := rows_nth R' (k := x) (by omega)
          have q3 := red_at q2 (j := c) (by omega)
          have el := elim_ok (by omega) R' pv' fo c x
          refine' ⟨_, _, .nx [.im (.int p), .im (LL IL rows), .ow (.lst ((elimStep p pv' fo c l' x).map IL)), .im (.int (fo : Nat)), .im (.int (widthM rows : Nat)), .im (.int (c : Nat)), .ow (.lst ((pl :: r).map D.int)), .im (IL pv'), .im (.int iv), .im (.int (x : Nat)), .im (.int (nth (nth l' (x : Nat)) (c : Nat))), .un, .un], ?tg13, ?b13, .nx ?w13, ⟨el.2, el.1.trans hl', fun k h => hk k (List.mem_cons_of_mem _ h)⟩⟩
          case tg13 =>
            refine' dg_name (i := 9) ?_
            exact pg_name nd rfl (by first | exact Or.inl rfl | exact Or.inr rfl)
          case w13 => exact weak_same (weak_same (weak_same (weak_same (weak_same (weak_same (weak_same (weak_same (weak_same (weak_drop (weak_drop (weak_same (weak_same weak_nil))))))))))))
          case b13 =>
            refine' dss_cons (ds_set (d := .int (nth (nth l' (x : Nat)) (c : Nat))) (i := 10) nd rfl (by first | exact Or.inl rfl | exact Or.inr rfl) (de_ix2 (l := l') (dv_own (pv 2) rfl) (de_var (pv 9) rfl) (de_var (pv 5) rfl) (by omega) (by omega) (by omega) (by omega))) ?k14
            case k14 =>
            refine' dss_one (ds_if (t := !decide ((x : Int) = (fo : Nat)) && !decide (nth (nth l' (x : Nat)) (c : Nat) = 0)) (DW.db (dw_and (db_neI (de_var (pv 9) rfl) (de_var (pv 3) rfl)) (fun _ => dw_and1 (db_neI (de_var (pv 10) rfl) de_int)))) ?b15 ?c15)
            case c15 =>
              intro q
              have e : elimStep p pv' fo c l' x = l' := by
                unfold elimStep
                rw [if_neg]
                rintro ⟨h1, h2⟩
                have h3 : ¬ ((x : Int) = (fo : Nat)) := by omega
                simp [h3, h2] at q
              rw [e]
              exact dss_nil
            case b15 =>
              intro q
              simp only [Bool.and_eq_true, Bool.not_eq_true', decide_eq_false_iff_not] at q
              obtain ⟨h1, h2⟩ := q
              have e : elimStep p pv' fo c l' x = l'.set x (lessM p (nth l' (x : Nat)) pv' (nth (nth l' (x : Nat)) (c : Nat))) := by
                unfold elimStep
                rw [if_pos ⟨by omega, h2⟩]
              rw [e, List.map_set]
              refine' dss_cons (ds_setIx (i := 2) (ds := l'.map IL) (d := IL (lessM p (nth l' (x : Nat)) pv' (nth (nth l' (x : Nat)) (c : Nat)))) (k := (x : Nat)) (j := x) (pv 2) rfl ?e16 (de_var (pv 9) rfl) (by rw [ixN_of (by omega) (by rw [List.length_map]; omega)]; rfl)) dss_nil
              case e16 =>
                rw [← range_less, q1, ← ew]
                refine' DN.de (dn_lcA (own := [("j", 12)]) (xs := List.range (widthM rows)) (en := fun i : Nat => D.int (i : Nat)) (g := fun j : Nat => (nth (nth l' (x : Nat)) (j : Nat) - nth (nth l' (x : Nat)) (c : Nat) * nth pv' (j : Nat)) % p) (eb := D.int)
                  (ρx := fun j : Nat => [.im (.int p), .im (LL IL rows), .ow (.lst (l'.map IL)), .im (.int (fo : Nat)), .im (.int (widthM rows : Nat)), .im (.int (c : Nat)), .ow (.lst ((pl :: r).map D.int)), .im (IL pv'), .im (.int iv), .im (.int (x : Nat)), .im (.int (nth (nth l' (x : Nat)) (c : Nat))), .un, .im (.int (j : Nat))]) rfl nd
                  (blkOk_by (N := nLE) (sc := defScope sLE) (by decide +kernel)) ?hi17 ⟨?tg17, ?tt17, ?te17⟩ (by rw [List.length_range]; omega))
                case hi17 => exact DI.c (di_rngN rfl mR (de_var (pv 4) rfl) (by omega))
                case tg17 => intro s1 H1 C cl fp y hy; walk_at "g"
                case tt17 => intro s1 H1 C cl fp y hy; exact dts_nil
                case te17 =>
                  intro s1 H1 C cl fp y hy _
                  have hyl := List.mem_range.mp hy
                  refine' de_mod ?i18 (de_var (pv 0) rfl) (by omega)
                  case i18 =>
                    refine' de_intI rfl mInt bt_int ?i19
                    case i19 =>
                      refine' de_sub (de_ix2 (l := l') (dv_own (pv 2) rfl) (de_var (pv 9) rfl) (de_var (pv 12) rfl) (by omega) (by omega) (by omega) (by omega)) (de_mul (de_var (pv 10) rfl) (de_ixN (f := D.int) (xs := pv') (DV.of (de_var (pv 7) rfl)) (de_var (pv 12) rfl) (by omega) (by omega)) (cmul_l q3.1 q3.2 g2))
end
/-! sums of multiples of rows -/
def mixStep (p : Int) (rows : List (List Int)) (numbers : List Int) (found : List Int) (k : Nat) : List Int := (List.range found.length).map fun j : Nat => (nth found (j : Nat) + nth numbers (k : Nat) * nth (nth rows (k : Nat)) (j : Nat)) % p
def mixM (p : Int) (wd : Nat) (rows : List (List Int)) (numbers : List Int) : List Int := (List.range rows.length).foldl (mixStep p rows numbers) (List.replicate wd 0)
theorem mix_fold {p : Int} (hp : 0 < p) (rows : List (List Int)) (numbers : List Int) : ∀ (ks : List Nat) (found : List Int), Red p found → (ks.foldl (mixStep p rows numbers) found).length = found.length ∧ Red p (ks.foldl (mixStep p rows numbers) found)
  | [], _, h => ⟨rfl, h⟩
  | k :: ks, f, h => by
    have := mix_fold hp rows numbers ks (mixStep p rows numbers f k) (fun x hx => by
      obtain ⟨y, _, rfl⟩ := List.mem_map.mp hx
      exact ⟨mod_lo hp, mod_hi hp⟩)
    refine ⟨this.1.trans ?_, this.2⟩
    unfold mixStep
    rw [List.length_map, List.length_range]
theorem mix_ok {p : Int} (hp : 0 < p) (wd : Nat) (rows : List (List Int)) (numbers : List Int) : (mixM p wd rows numbers).length = wd ∧ Red p (mixM p wd rows numbers) := by
  have := mix_fold hp rows numbers (List.range rows.length) (List.replicate wd 0) (fun x hx => by rw [List.eq_of_mem_replicate hx]; omega)
  rw [List.length_replicate] at this
  exact this
section
variable {P : Program} {w : World} {K : PySem.W.Frag} {mg : Str → Option Value} {base : Heap}
abbrev sMi : Stmt := topS 18
def nMi : List Str := ["p", "rows", "numbers", "found", "k", "j"]
theorem scMi : FnScope nMi ["p", "rows", "numbers"] (defScope sMi) := ⟨rfl, rfl, rfl, by decide +kernel, rfl, by decide +kernel, by decide +kernel⟩
inductive rMi : List D → D → Prop
  | mk {p : Int} {wd : Nat} {rows : List (List Int)} {numbers : List Int} (g1 : 2 ≤ p) (g2 : p ≤ 97) (hr : Rows p wd rows) (hn : rows ≠ []) (hm : rows.length ≤ 1000) (hw : wd ≤ 1000) (hl : rows.length ≤ numbers.length) (hx : Red p numbers) : rMi [.int p, LL IL rows, IL numbers] (FL (mixM p wd rows numbers))
theorem ok_Mi {f : Addr} {fd : FuncData} (F : Fun K "_law_mixed" "_law_mixed" sMi f fd) (mR : mg "range" = none) (mInt : mg "int" = none) (mLen : mg "len" = none) : FnOk P w K mg base CX0 1 f fd ["p", "rows", "numbers"] (spD K rMi) := by
  refine fn_ok F scMi (fun ds r h => by cases h; rfl) (by decide) fun cdv A outer s H E hr ds r h => ?_
  cases h with
  | @mk p wd rows numbers g1 g2 R hn hm hw hl hx =>
  have nd := scMi.nd
  have sl := sl_lt
  have hpos : 0 < rows.length := List.length_pos_iff.mpr hn
  have r0 := (rows_nth R (k := 0) hpos).1
  refine ⟨_, .rt, ?_⟩
  refine' dss_cons (ds_set (d := FL (List.replicate wd 0)) (i := 3) nd rfl (by first | exact Or.inl rfl | exact Or.inr rfl) (DN.fl ?e1)) ?k1
  case e1 =>
    refine' DN.to (dn_rep1 (en := D.int) (u := 0) (i := (((nth rows ((0 : Nat) : Int)).map D.int).length : Nat)) ?a1 ?a2 (by omega) (by rw [List.length_map, r0]; omega)) (by rw [List.length_map, r0]; rfl)
    case a1 => exact DVs.of (dn_lst (da_cons de_int da_nil) (by decide)).de
    case a2 => exact de_len rfl mLen bt_len (DV.of (de_ixN (f := IL) (xs := rows) (i := ((0 : Nat) : Int)) (DV.of (de_var (pv 1) rfl)) de_int (by omega) (by omega)))
  case k1 =>
  refine dss_cons (ds_forF .never rfl (xs := List.range rows.length) (en := fun i : Nat => D.int (i : Nat)) ?hi1 (fo_fold (St := List Int) (fun st => [.im (.int p), .im (LL IL rows), .im (IL numbers), .im (FL st), .un, .un]) (mixStep p rows numbers)
    (fun xs st => st.length = wd ∧ Red p st ∧ ∀ k ∈ xs, k < rows.length) (fun x xs st hP => ?st1) (List.range rows.length) (List.replicate wd 0) ⟨List.length_replicate, fun x hx => by rw [List.eq_of_mem_replicate hx]; omega, fun k hk => List.mem_range.mp hk⟩)) ?k2
  case hi1 =>
    have e : rows.length = (rows.map IL).length := by rw [List.length_map]
    rw [e]
    exact di_rngN rfl mR (de_len rfl mLen bt_len (DV.of (de_var (pv 1) rfl))) (by rw [List.length_map]; omega)
  case k2 => exact dss_one (ds_ret (de_var (pv 3) rfl))
  case st1 =>
    obtain ⟨q1, q2, q3⟩ := hP
    have hx1 := q3 x List.mem_cons_self
    obtain ⟨r1, r2⟩ := rows_nth R hx1
    have nb := red_at hx (j := x) (by omega)
    refine' ⟨_, _, .nx [.im (.int p), .im (LL IL rows), .im (IL numbers), .im (FL (mixStep p rows numbers st x)), .im (.int (x : Nat)), .un], ?tg1, ?b1, .nx ?w1, ⟨by unfold mixStep; rw [List.length_map, List.length_range]; exact q1, fun y hy => ?rd, fun k h => q3 k (List.mem_cons_of_mem _ h)⟩⟩
    case tg1 =>
      refine' dg_name (i := 4) ?_
      exact pg_name nd rfl (by first | exact Or.inl rfl | exact Or.inr rfl)
    case w1 => exact weak_same (weak_same (weak_same (weak_same (weak_drop (weak_same weak_nil)))))
    case rd =>
      obtain ⟨z, _, rfl⟩ := List.mem_map.mp hy
      exact ⟨mod_lo (by omega), mod_hi (by omega)⟩
    case b1 =>
      refine' dss_cons (ds_set (d := FL (mixStep p rows numbers st x)) (i := 3) nd rfl (by first | exact Or.inl rfl | exact Or.inr rfl) (DN.fl (dn_lcA (own := [("j", 5)]) (xs := List.range st.length) (en := fun i : Nat => D.int (i : Nat)) (g := fun j : Nat => (nth st (j : Nat) + nth numbers (x : Nat) * nth (nth rows (x : Nat)) (j : Nat)) % p) (eb := D.int)
        (ρx := fun j : Nat => [.im (.int p), .im (LL IL rows), .im (IL numbers), .im (FL st), .im (.int (x : Nat)), .im (.int (j : Nat))]) rfl nd (blkOk_by (N := nMi) (sc := defScope sMi) (by decide +kernel)) ?hi2 ⟨?tg2, ?tt2, ?te2⟩ (by rw [List.length_range]; omega)))) dss_nil
      case hi2 =>
        have e : st.length = (st.map D.int).length := by rw [List.length_map]
        rw [e]
        exact DI.c (di_rngN rfl mR (de_len rfl mLen bt_len (DV.of (DE.unF (de_var (pv 3) rfl)))) (by rw [List.length_map]; omega))
      case tg2 => intro s1 H1 C cl fp y hy; walk_at "g"
      case tt2 => intro s1 H1 C cl fp y hy; exact dts_nil
      case te2 =>
        intro s1 H1 C cl fp y hy _
        have hyl := List.mem_range.mp hy
        refine' de_mod ?i1 (de_var (pv 0) rfl) (by omega)
        case i1 =>
          refine' de_intI rfl mInt bt_int ?i2
          case i2 =>
            exact de_add (de_ixN (f := D.int) (xs := st) (DV.of (DE.unF (de_var (pv 3) rfl))) (de_var (pv 5) rfl) (by omega) (by omega)) (de_mul (de_ixN (f := D.int) (xs := numbers) (DV.of (de_var (pv 2) rfl)) (de_var (pv 4) rfl) (by omega) (by omega)) (de_ix2 (l := rows) (DV.of (de_var (pv 1) rfl)) (de_var (pv 4) rfl) (de_var (pv 5) rfl) (by omega) (by omega) (by omega) (by omega)) (cmul_l nb.1 nb.2 g2))
end
/-! the drawn rows -/
def kindM (ns : List Int) (at_ : Int) (k : Nat) : Int := cell ns (at_ + 3 * (k : Nat) + 2)
def dr1 (ns : List Int) (at_ p : Int) (wd : Nat) (rows : List (List Int)) (k : Nat) : List Int :=
  if kindM ns at_ k / 97 % 3 = 1 ∧ 0 < k then mixM p wd rows ((List.range k).map fun j : Nat => kindM ns at_ k / (5 + (j : Nat)) % p) else digitsM ns (at_ + 3 * (k : Nat)) wd p
def dr2 (ns : List Int) (at_ p : Int) (wd : Nat) (rows : List (List Int)) (k : Nat) : List Int := if kindM ns at_ k / 97 % 9 = 2 then List.replicate wd 0 else dr1 ns at_ p wd rows k
def dr3 (ns : List Int) (at_ p : Int) (wd : Nat) (rows : List (List Int)) (k : Nat) : List Int :=
  if kindM ns at_ k / 97 % 9 = 5 then (List.range wd).map fun j : Nat => nth (dr2 ns at_ p wd rows k) (j : Nat) * (kindM ns at_ k / 2 ^ ((j : Nat) : Int).toNat % 2) else dr2 ns at_ p wd rows k
def drStep (ns : List Int) (at_ p : Int) (wd : Nat) (rows : List (List Int)) (k : Nat) : List (List Int) := rows ++ [dr3 ns at_ p wd rows k]
def drawnM (ns : List Int) (at_ p : Int) (wd many : Nat) : List (List Int) := (List.range many).foldl (drStep ns at_ p wd) []
theorem dr1_ok {p : Int} (hp : 0 < p) (ns : List Int) (at_ : Int) (wd : Nat) (rows : List (List Int)) (k : Nat) : (dr1 ns at_ p wd rows k).length = wd ∧ Red p (dr1 ns at_ p wd rows k) := by
  unfold dr1
  split
  · exact mix_ok hp _ _ _
  · exact digits_ok _ _ _ _ hp
theorem dr2_ok {p : Int} (hp : 0 < p) (ns : List Int) (at_ : Int) (wd : Nat) (rows : List (List Int)) (k : Nat) : (dr2 ns at_ p wd rows k).length = wd ∧ Red p (dr2 ns at_ p wd rows k) := by
  unfold dr2
  split
  · exact ⟨List.length_replicate, fun x hx => by rw [List.eq_of_mem_replicate hx]; omega⟩
  · exact dr1_ok hp _ _ _ _ _
theorem dr3_ok {p : Int} (hp : 0 < p) (ns : List Int) (at_ : Int) (wd : Nat) (rows : List (List Int)) (k : Nat) : (dr3 ns at_ p wd rows k).length = wd ∧ Red p (dr3 ns at_ p wd rows k) := by
  unfold dr3
  obtain ⟨a, b⟩ := dr2_ok hp ns at_ wd rows k
  split
  · refine ⟨by rw [List.length_map, List.length_range], fun x hx => ?_⟩
    obtain ⟨j, hj, rfl⟩ := List.mem_map.mp hx
    have hj := List.mem_range.mp hj
    obtain ⟨c, d⟩ := red_at b (j := j) (by omega)
    have e : kindM ns at_ k / 2 ^ ((j : Nat) : Int).toNat % 2 = 0 ∨ kindM ns at_ k / 2 ^ ((j : Nat) : Int).toNat % 2 = 1 := by omega
    rcases e with e | e <;> rw [e] <;> omega
  · exact ⟨a, b⟩
theorem dr_fold {p : Int} (hp : 0 < p) (ns : List Int) (at_ : Int) (wd : Nat) : ∀ (ks : List Nat) (rows : List (List Int)), Rows p wd rows → Rows p wd (ks.foldl (drStep ns at_ p wd) rows) ∧ (ks.foldl (drStep ns at_ p wd) rows).length = rows.length + ks.length
  | [], rows, h => ⟨h, rfl⟩
  | k :: ks, rows, h => by
    obtain ⟨a, b⟩ := dr_fold hp ns at_ wd ks (drStep ns at_ p wd rows k) (fun r hr => by
      rcases List.mem_append.mp hr with hr | hr
      · exact h r hr
      · rw [List.mem_singleton.mp hr]; exact dr3_ok hp _ _ _ _ _)
    refine ⟨a, b.trans ?_⟩
    unfold drStep
    rw [List.length_append, List.length_singleton, List.length_cons]
    omega
theorem drawn_ok {p : Int} (hp : 0 < p) (ns : List Int) (at_ : Int) (wd many : Nat) : Rows p wd (drawnM ns at_ p wd many) ∧ (drawnM ns at_ p wd many).length = many := by
  have := dr_fold hp ns at_ wd (List.range many) [] (fun _ h => absurd h (by simp))
  rw [List.length_nil, Nat.zero_add, List.length_range] at this
  exact this
section
variable {P : Program} {w : World} {K : PySem.W.Frag} {mg : Str → Option Value} {base : Heap}
abbrev sDr : Stmt := topS 19
def nDr : List Str := ["script", "at", "p", "width", "many", "rows", "k", "digits", "kind", "j"]
theorem scDr : FnScope nDr ["script", "at", "p", "width", "many"] (defScope sDr) := ⟨rfl, rfl, rfl, by decide +kernel, rfl, by decide +kernel, by decide +kernel⟩
inductive rDr : List D → D → Prop
  | mk {ns : List Int} {at_ p : Int} {wd many : Nat} (h0 : 0 ≤ at_) (g1 : 2 ≤ p) (g2 : p ≤ 97) (hw : wd ≤ 1000) (hm : many ≤ 1000) : rDr [.scr ns, .int at_, .int p, .int (wd : Nat), .int (many : Nat)] (LL IL (drawnM ns at_ p wd many))
theorem ok_Dr {f : Addr} {fd : FuncData} (F : Fun K "_law_drawn_rows" "_law_drawn_rows" sDr f fd) (mR : mg "range" = none) (mInt : mg "int" = none) (hCe : Has P w K mg base "_law_cell" 1 ["script", "k"] rCe) (hDi : Has P w K mg base "_law_digits" 2 ["script", "at", "count", "base"] rDi)
    (hMi : Has P w K mg base "_law_mixed" 1 ["p", "rows", "numbers"] rMi) : FnOk P w K mg base CX0 3 f fd ["script", "at", "p", "width", "many"] (spD K rDr) := by
  refine fn_ok F scDr (fun ds r h => by cases h; rfl) (by decide) fun cdv A outer s H E hr ds r h => ?_
  cases h with
  | @mk ns at_ p wd many h0 g1 g2 hw hm =>
  have nd := scDr.nd
  have sl := sl_lt
  have hp : 0 < p := by omega
  refine ⟨_, .rt, ?_⟩
  walk_at "own"
  refine dss_cons (ds_forF .never rfl (xs := List.range many) (en := fun i : Nat => D.int (i : Nat)) ?hi1 (fo_fold (St := List (List Int)) (fun st => [.im (.scr ns), .im (.int at_), .im (.int p), .im (.int (wd : Nat)), .im (.int (many : Nat)), .ow (.lst (st.map IL)), .un, .un, .un, .un]) (drStep ns at_ p wd)
    (fun xs st => Rows p wd st ∧ (st.length + xs.length = many) ∧ (xs = (List.range many).drop st.length)) (fun x xs st hP => ?st1) (List.range many) [] ⟨fun _ h => absurd h (by simp), by simp, rfl⟩)) ?k2
  case hi1 => exact di_rngN rfl mR (de_var (pv 4) rfl) (by omega)
  case k2 =>
    refine dss_frz 5 rfl ?_
    exact dss_one (ds_ret (de_var (pv 5) rfl))
  case st1 =>
    obtain ⟨R, q2, q3⟩ := hP
    rw [List.length_cons] at q2
    have hlt : st.length < (List.range many).length := by rw [List.length_range]; omega
    rw [List.drop_eq_getElem_cons hlt, List.getElem_range] at q3
    obtain ⟨ex, exs⟩ := List.cons.inj q3
    subst ex
    have o1 := dr1_ok hp ns at_ wd st st.length
    have o2 := dr2_ok hp ns at_ wd st st.length
    have o3 := dr3_ok hp ns at_ wd st st.length
    have kn : 0 ≤ kindM ns at_ st.length := cell_nn _ _
    refine' ⟨_, _, .nx [.im (.scr ns), .im (.int at_), .im (.int p), .im (.int (wd : Nat)), .im (.int (many : Nat)), .ow (.lst ((drStep ns at_ p wd st st.length).map IL)), .im (.int (st.length : Nat)), .im (IL (dr3 ns at_ p wd st st.length)), .im (.int (kindM ns at_ st.length)), .un], ?tg1, ?b1, .nx ?w1, ⟨fun r hr => ?rd, ?ln, ?dp⟩⟩
    case tg1 =>
      refine' dg_name (i := 6) ?_
      exact pg_name nd rfl (by first | exact Or.inl rfl | exact Or.inr rfl)
    case w1 => exact weak_same (weak_same (weak_same (weak_same (weak_same (weak_same (weak_drop (weak_drop (weak_drop (weak_same weak_nil)))))))))
    case rd =>
      rcases List.mem_append.mp hr with hr | hr
      · exact R r hr
      · rw [List.mem_singleton.mp hr]; exact o3
    case ln =>
      unfold drStep
      rw [List.length_append, List.length_singleton]
      omega
    case dp =>
      unfold drStep
      rw [List.length_append, List.length_singleton, exs]
    case b1 =>
      refine' dss_cons (ds_set (d := IL (digitsM ns (at_ + 3 * ((st.length : Nat) : Int)) ((wd : Nat) : Int).toNat p)) (i := 7) nd rfl (by first | exact Or.inl rfl | exact Or.inr rfl) (de_callH (da_cons (de_var (pv 0) rfl) (da_cons (de_add (de_var (pv 1) rfl) (de_mul de_int (de_var (pv 6) rfl) ?m1)) (da_cons (de_var (pv 3) rfl) (da_cons (de_var (pv 2) rfl) da_nil)))) hDi (.mk ?m2 ?m3 ?m4 g1 g2) hr (by decide) rfl)) ?k3
      case m1 => exact .inl ⟨by decide, by decide⟩
      case m2 => omega
      case m3 => omega
      case m4 => omega
      case k3 =>
      rw [Int.toNat_natCast]
      refine' dss_cons (ds_set (d := .int (kindM ns at_ st.length)) (i := 8) nd rfl (by first | exact Or.inl rfl | exact Or.inr rfl) (de_callH (da_cons (de_var (pv 0) rfl) (da_cons (de_add (de_add (de_var (pv 1) rfl) (de_mul de_int (de_var (pv 6) rfl) ?m5)) de_int) da_nil)) hCe (.mk ?m6) hr (by decide) rfl)) ?k4
      case m5 => exact .inl ⟨by decide, by decide⟩
      case m6 => omega
      case k4 =>
      refine' dss_cons (ρ1 := [.im (.scr ns), .im (.int at_), .im (.int p), .im (.int (wd : Nat)), .im (.int (many : Nat)), .ow (.lst (st.map IL)), .im (.int (st.length : Nat)), .im (IL (dr1 ns at_ p wd st st.length)), .im (.int (kindM ns at_ st.length)), .un])
        (ds_if (t := decide (kindM ns at_ st.length / 97 % 3 = 1) && decide (0 < ((st.length : Nat) : Int))) (DW.db (dw_and (db_eqI (de_mod (de_intI rfl mInt bt_int (de_div (de_var (pv 8) rfl) de_int ⟨by decide, by decide⟩)) de_int (by decide)) de_int) (fun _ => dw_and1 (db_gt (de_var (pv 6) rfl) de_int)))) ?b5 ?c5) ?k5
      case c5 =>
        intro q
        have e : dr1 ns at_ p wd st st.length = digitsM ns (at_ + 3 * ((st.length : Nat) : Int)) wd p := by
          unfold dr1
          rw [if_neg]
          rintro ⟨h1, h2⟩
          have h3 : 0 < ((st.length : Nat) : Int) := by omega
          rw [decide_eq_true h1, decide_eq_true h3] at q
          cases q
        rw [e]
        exact dss_nil
      case b5 =>
        intro q
        simp only [Bool.and_eq_true, decide_eq_true_eq] at q
        have e : dr1 ns at_ p wd st st.length = mixM p wd st ((List.range st.length).map fun j : Nat => kindM ns at_ st.length / (5 + (j : Nat)) % p) := by
          unfold dr1
          rw [if_pos ⟨q.1, by omega⟩]
        rw [e]
        refine' dss_cons (ds_set (d := IL (mixM p wd st ((List.range st.length).map fun j : Nat => kindM ns at_ st.length / (5 + (j : Nat)) % p))) (i := 7) nd rfl (by first | exact Or.inl rfl | exact Or.inr rfl)
          (DE.unF (de_callOwn (i := 5) (qs := st.map IL) rfl (da_cons (de_var (pv 2) rfl) (da_cons (de_var (d := LL IL st) (pv 5) rfl) (da_cons (d := IL ((List.range st.length).map fun j : Nat => kindM ns at_ st.length / (5 + (j : Nat)) % p)) (DN.de ?lc6) da_nil))) hMi (.mk g1 g2 R ?m7 ?m8 hw ?m9 ?m10) hr (by decide) rfl))) dss_nil
        case m7 => intro z; rw [z] at q; simp at q
        case m8 => omega
        case m9 => rw [List.length_map, List.length_range]; exact Nat.le_refl _
        case m10 =>
          intro y hy
          obtain ⟨z, _, rfl⟩ := List.mem_map.mp hy
          exact ⟨mod_lo hp, mod_hi hp⟩
        case lc6 =>
          refine' dn_lcA (own := [("j", 9)]) (xs := List.range st.length) (en := fun i : Nat => D.int (i : Nat)) (g := fun j : Nat => kindM ns at_ st.length / (5 + (j : Nat)) % p) (eb := D.int)
            (ρx := fun j : Nat => [.im (.scr ns), .im (.int at_), .im (.int p), .im (.int (wd : Nat)), .im (.int (many : Nat)), .im (LL IL st), .im (.int (st.length : Nat)), .im (IL (digitsM ns (at_ + 3 * ((st.length : Nat) : Int)) wd p)), .im (.int (kindM ns at_ st.length)), .im (.int (j : Nat))]) rfl nd (blkOk_by (N := nDr) (sc := defScope sDr) (by decide +kernel)) ?hi6 ⟨?tg6, ?tt6, ?te6⟩ (by rw [List.length_range]; omega)
          case hi6 => exact DI.c (di_rngN rfl mR (de_var (pv 6) rfl) (by omega))
          case tg6 => intro s1 H1 C cl fp y hy; walk_at "g"
          case tt6 => intro s1 H1 C cl fp y hy; exact dts_nil
          case te6 =>
            intro s1 H1 C cl fp y hy _
            have hyl := List.mem_range.mp hy
            exact de_mod (de_intI rfl mInt bt_int (de_div (de_var (pv 8) rfl) (de_add de_int (de_var (pv 9) rfl)) ⟨by omega, by omega⟩)) (de_var (pv 2) rfl) hp
      case k5 =>
      refine' dss_cons (ρ1 := [.im (.scr ns), .im (.int at_), .im (.int p), .im (.int (wd : Nat)), .im (.int (many : Nat)), .ow (.lst (st.map IL)), .im (.int (st.length : Nat)), .im (IL (dr2 ns at_ p wd st st.length)), .im (.int (kindM ns at_ st.length)), .un])
        (ds_if (t := decide (kindM ns at_ st.length / 97 % 9 = 2)) (db_eqI (de_mod (de_intI rfl mInt bt_int (de_div (de_var (pv 8) rfl) de_int ⟨by decide, by decide⟩)) de_int (by decide)) de_int) ?b7 ?c7) ?k7
      case c7 =>
        intro q
        have e : dr2 ns at_ p wd st st.length = dr1 ns at_ p wd st st.length := by unfold dr2; rw [if_neg (of_decide_eq_false q)]
        rw [e]
        exact dss_nil
      case b7 =>
        intro q
        have e : dr2 ns at_ p wd st st.length = List.replicate wd 0 := by unfold dr2; rw [if_pos (of_decide_eq_true q)]
        rw [e]
        refine' dss_cons (ds_set (d := IL (List.replicate wd 0)) (i := 7) nd rfl (by first | exact Or.inl rfl | exact Or.inr rfl) (DN.de (DN.to (dn_rep1 (en := D.int) (u := 0) (i := (wd : Nat)) (DVs.of (dn_lst (da_cons de_int da_nil) (by decide)).de) (de_var (pv 3) rfl) (by omega) (by omega)) (by rw [Int.toNat_natCast])))) dss_nil
      case k7 =>
      refine' dss_cons (ρ1 := [.im (.scr ns), .im (.int at_), .im (.int p), .im (.int (wd : Nat)), .im (.int (many : Nat)), .ow (.lst (st.map IL)), .im (.int (st.length : Nat)), .im (IL (dr3 ns at_ p wd st st.length)), .im (.int (kindM ns at_ st.length)), .un])
        (ds_if (t := decide (kindM ns at_ st.length / 97 % 9 = 5)) (db_eqI (de_mod (de_intI rfl mInt bt_int (de_div (de_var (pv 8) rfl) de_int ⟨by decide, by decide⟩)) de_int (by decide)) de_int) ?b8 ?c8) ?k8
      case c8 =>
        intro q
        have e : dr3 ns at_ p wd st st.length = dr2 ns at_ p wd st st.length := by unfold dr3; rw [if_neg (of_decide_eq_false q)]
        rw [e]
        exact dss_nil
      case b8 =>
        intro q
        have e : dr3 ns at_ p wd st st.length = (List.range wd).map fun j : Nat => nth (dr2 ns at_ p wd st st.length) (j : Nat) * (kindM ns at_ st.length / 2 ^ ((j : Nat) : Int).toNat % 2) := by unfold dr3; rw [if_pos (of_decide_eq_true q)]
        rw [e]
        refine' dss_cons (ds_set (d := IL _) (i := 7) nd rfl (by first | exact Or.inl rfl | exact Or.inr rfl) (DN.de (dn_lcA (own := [("j", 9)]) (xs := List.range wd) (en := fun i : Nat => D.int (i : Nat)) (g := fun j : Nat => nth (dr2 ns at_ p wd st st.length) (j : Nat) * (kindM ns at_ st.length / 2 ^ ((j : Nat) : Int).toNat % 2)) (eb := D.int)
            (ρx := fun j : Nat => [.im (.scr ns), .im (.int at_), .im (.int p), .im (.int (wd : Nat)), .im (.int (many : Nat)), .ow (.lst (st.map IL)), .im (.int (st.length : Nat)), .im (IL (dr2 ns at_ p wd st st.length)), .im (.int (kindM ns at_ st.length)), .im (.int (j : Nat))]) rfl nd (blkOk_by (N := nDr) (sc := defScope sDr) (by decide +kernel)) ?hi9 ⟨?tg9, ?tt9, ?te9⟩ (by rw [List.length_range]; omega)))) dss_nil
        case hi9 => exact DI.c (di_rngN rfl mR (de_var (pv 3) rfl) (by omega))
        case tg9 => intro s1 H1 C cl fp y hy; walk_at "g"
        case tt9 => intro s1 H1 C cl fp y hy; exact dts_nil
        case te9 =>
          intro s1 H1 C cl fp y hy _
          have hyl := List.mem_range.mp hy
          have b := red_at o2.2 (j := y) (by omega)
          exact de_mul (de_ixN (f := D.int) (xs := dr2 ns at_ p wd st st.length) (DV.of (de_var (pv 7) rfl)) (de_var (pv 9) rfl) (by omega) (by omega)) (de_intI rfl mInt bt_int (de_mod (de_intI rfl mInt bt_int (de_shr (de_var (pv 8) rfl) (de_var (pv 9) rfl) (by omega))) de_int (by decide))) (cmul_l b.1 b.2 g2)
      case k8 =>
      refine' dss_cons (ds_append (i := 5) (ds := st.map IL) (d := IL (dr3 ns at_ p wd st st.length)) (pv 5) rfl (de_var (pv 7) rfl) (by rw [List.length_map]; omega)) ?k9
      case k9 =>
        refine DSs.to dss_nil ?_
        unfold drStep
        rw [List.map_append]
        rfl
end
/-! the wide rows -/
def wr1 (ns : List Int) (at_ p : Int) (rows : List (List Int)) (k : Nat) : List Int :=
  if (nth (digitsM ns (at_ + 3 * (k : Nat)) 12 p) 0 + (k : Nat)) % 4 = 1 ∧ 1 < k then
    (List.range 12).map fun j : Nat => (nth (nth rows ((k : Nat) - 1 : Int)) (j : Nat) + nth (digitsM ns (at_ + 3 * (k : Nat)) 12 p) 1 * nth (nth rows ((k : Nat) - 2 : Int)) (j : Nat)) % p
  else digitsM ns (at_ + 3 * (k : Nat)) 12 p
def wr2 (ns : List Int) (at_ p : Int) (rows : List (List Int)) (k : Nat) : List Int :=
  if ((wr1 ns at_ p rows k).getLastD default + (k : Nat)) % 5 = 2 then [0, 0, 0] ++ (wr1 ns at_ p rows k).drop (3 : Int).toNat else wr1 ns at_ p rows k
def wrStep (ns : List Int) (at_ p : Int) (rows : List (List Int)) (k : Nat) : List (List Int) := rows ++ [wr2 ns at_ p rows k]
def wideM (ns : List Int) (at_ p : Int) (many : Nat) : List (List Int) := (List.range many).foldl (wrStep ns at_ p) []
theorem wr1_ok {p : Int} (hp : 0 < p) (ns : List Int) (at_ : Int) (rows : List (List Int)) (k : Nat) : (wr1 ns at_ p rows k).length = 12 ∧ Red p (wr1 ns at_ p rows k) := by
  unfold wr1
  split
  · refine ⟨by rw [List.length_map, List.length_range], fun x hx => ?_⟩
    obtain ⟨y, _, rfl⟩ := List.mem_map.mp hx
    exact ⟨mod_lo hp, mod_hi hp⟩
  · exact digits_ok _ _ _ _ hp
theorem wr2_ok {p : Int} (hp : 0 < p) (ns : List Int) (at_ : Int) (rows : List (List Int)) (k : Nat) : (wr2 ns at_ p rows k).length = 12 ∧ Red p (wr2 ns at_ p rows k) := by
  unfold wr2
  obtain ⟨a, b⟩ := wr1_ok hp ns at_ rows k
  split
  · refine ⟨by rw [List.length_append, List.length_drop, a]; rfl, fun x hx => ?_⟩
    rcases List.mem_append.mp hx with hx | hx
    · simp at hx; omega
    · exact b x (List.mem_of_mem_drop hx)
  · exact ⟨a, b⟩
theorem wr_fold {p : Int} (hp : 0 < p) (ns : List Int) (at_ : Int) : ∀ (ks : List Nat) (rows : List (List Int)), Rows p 12 rows → Rows p 12 (ks.foldl (wrStep ns at_ p) rows) ∧ (ks.foldl (wrStep ns at_ p) rows).length = rows.length + ks.length
  | [], rows, h => ⟨h, rfl⟩
  | k :: ks, rows, h => by
    obtain ⟨a, b⟩ := wr_fold hp ns at_ ks (wrStep ns at_ p rows k) (fun r hr => by
      rcases List.mem_append.mp hr with hr | hr
      · exact h r hr
      · rw [List.mem_singleton.mp hr]; exact wr2_ok hp _ _ _ _)
    refine ⟨a, b.trans ?_⟩
    unfold wrStep
    rw [List.length_append, List.length_singleton, List.length_cons]
    omega
theorem wide_ok {p : Int} (hp : 0 < p) (ns : List Int) (at_ : Int) (many : Nat) : Rows p 12 (wideM ns at_ p many) ∧ (wideM ns at_ p many).length = many := by
  have := wr_fold hp ns at_ (List.range many) [] (fun _ h => absurd h (by simp))
  rw [List.length_nil, Nat.zero_add, List.length_range] at this
  exact this
theorem rows_at {p : Int} {wd : Nat} {l : List (List Int)} (R : Rows p wd l) {k : Int} (h0 : 0 ≤ k) (h1 : k < l.length) : (nth l k).length = wd ∧ Red p (nth l k) := by
  have e : k = ((k.toNat : Nat) : Int) := by omega
  rw [e]
  exact rows_nth R (by omega)
section
variable {P : Program} {w : World} {K : PySem.W.Frag} {mg : Str → Option Value} {base : Heap}
abbrev sWr : Stmt := topS 20
def nWr : List Str := ["script", "at", "p", "width", "many", "rows", "k", "digits", "j"]
theorem scWr : FnScope nWr ["script", "at", "p", "width", "many"] (defScope sWr) := ⟨rfl, rfl, rfl, by decide +kernel, rfl, by decide +kernel, by decide +kernel⟩
inductive rWr : List D → D → Prop
  | mk {ns : List Int} {at_ p : Int} {many : Nat} (h0 : 0 ≤ at_) (g1 : 2 ≤ p) (g2 : p ≤ 97) (hm : many ≤ 1000) : rWr [.scr ns, .int at_, .int p, .int 12, .int (many : Nat)] (LL IL (wideM ns at_ p many))
theorem ok_Wr {f : Addr} {fd : FuncData} (F : Fun K "_law_wide_rows" "_law_wide_rows" sWr f fd) (mR : mg "range" = none) (mInt : mg "int" = none) (hDi : Has P w K mg base "_law_digits" 2 ["script", "at", "count", "base"] rDi) : FnOk P w K mg base CX0 3 f fd ["script", "at", "p", "width", "many"] (spD K rWr) := by
  refine fn_ok F scWr (fun ds r h => by cases h; rfl) (by decide) fun cdv A outer s H E hr ds r h => ?_
  cases h with
  | @mk ns at_ p many h0 g1 g2 hm =>
  have nd := scWr.nd
  have sl := sl_lt
  have hp : 0 < p := by omega
  refine ⟨_, .rt, ?_⟩
  walk_at "own"
  refine dss_cons (ds_forF .never rfl (xs := List.range many) (en := fun i : Nat => D.int (i : Nat)) ?hi1 (fo_fold (St := List (List Int)) (fun st => [.im (.scr ns), .im (.int at_), .im (.int p), .im (.int 12), .im (.int (many : Nat)), .ow (.lst (st.map IL)), .un, .un, .un]) (wrStep ns at_ p)
    (fun xs st => Rows p 12 st ∧ (st.length + xs.length = many) ∧ (xs = (List.range many).drop st.length)) (fun x xs st hP => ?st1) (List.range many) [] ⟨fun _ h => absurd h (by simp), by simp, rfl⟩)) ?k2
  case hi1 => exact di_rngN rfl mR (de_var (pv 4) rfl) (by omega)
  case k2 =>
    refine dss_frz 5 rfl ?_
    exact dss_one (ds_ret (de_var (pv 5) rfl))
  case st1 =>
    obtain ⟨R, q2, q3⟩ := hP
    rw [List.length_cons] at q2
    have hlt : st.length < (List.range many).length := by rw [List.length_range]; omega
    rw [List.drop_eq_getElem_cons hlt, List.getElem_range] at q3
    obtain ⟨ex, exs⟩ := List.cons.inj q3
    subst ex
    have o0 := digits_ok ns (at_ + 3 * ((st.length : Nat) : Int)) 12 p hp
    have o1 := wr1_ok hp ns at_ st st.length
    have o2 := wr2_ok hp ns at_ st st.length
    generalize edg : digitsM ns (at_ + 3 * ((st.length : Nat) : Int)) 12 p = dg at o0
    refine' ⟨_, _, .nx [.im (.scr ns), .im (.int at_), .im (.int p), .im (.int 12), .im (.int (many : Nat)), .ow (.lst ((wrStep ns at_ p st st.length).map IL)), .im (.int (st.length : Nat)), .im (IL (wr2 ns at_ p st st.length)), .un], ?tg1, ?b1, .nx ?w1, ⟨fun r hr => ?rd, ?ln, ?dp⟩⟩
    case tg1 =>
      refine' dg_name (i := 6) ?_
      exact pg_name nd rfl (by first | exact Or.inl rfl | exact Or.inr rfl)
    case w1 => exact weak_same (weak_same (weak_same (weak_same (weak_same (weak_same (weak_drop (weak_drop (weak_same weak_nil))))))))
    case rd =>
      rcases List.mem_append.mp hr with hr | hr
      · exact R r hr
      · rw [List.mem_singleton.mp hr]; exact o2
    case ln =>
      unfold wrStep
      rw [List.length_append, List.length_singleton]
      omega
    case dp =>
      unfold wrStep
      rw [List.length_append, List.length_singleton, exs]
    case b1 =>
      refine' dss_cons (ds_set (d := IL dg) (i := 7) nd rfl (by first | exact Or.inl rfl | exact Or.inr rfl) (DE.to (de_callH (da_cons (de_var (pv 0) rfl) (da_cons (de_add (de_var (pv 1) rfl) (de_mul de_int (de_var (pv 6) rfl) ?m1)) (da_cons (de_var (pv 3) rfl) (da_cons (de_var (pv 2) rfl) da_nil)))) hDi (.mk ?m2 ?m3 ?m4 g1 g2) hr (by decide) rfl) ?m0)) ?k3
      case m0 => rw [← edg]; rfl
      case m1 => exact .inl ⟨by decide, by decide⟩
      case m2 => omega
      case m3 => omega
      case m4 => omega
      case k3 =>
      have e0 : nth dg 0 = nth dg ((0 : Nat) : Int) := rfl
      refine' dss_cons (ρ1 := [.im (.scr ns), .im (.int at_), .im (.int p), .im (.int 12), .im (.int (many : Nat)), .ow (.lst (st.map IL)), .im (.int (st.length : Nat)), .im (IL (wr1 ns at_ p st st.length)), .un])
        (ds_if (t := decide ((nth dg 0 + ((st.length : Nat) : Int)) % 4 = 1) && decide (1 < ((st.length : Nat) : Int))) (DW.db (dw_and (db_eqI (de_mod (de_intI rfl mInt bt_int (de_add (de_ixN (f := D.int) (xs := dg) (DV.of (de_var (pv 7) rfl)) de_int (by omega) (by omega)) (de_var (pv 6) rfl))) de_int (by decide)) de_int) (fun _ => dw_and1 (db_gt (de_var (pv 6) rfl) de_int)))) ?b5 ?c5) ?k5
      case c5 =>
        intro q
        have e : wr1 ns at_ p st st.length = dg := by
          unfold wr1
          rw [edg, if_neg]
          rintro ⟨h1, h2⟩
          have h3 : 1 < ((st.length : Nat) : Int) := by omega
          rw [decide_eq_true h1, decide_eq_true h3] at q
          cases q
        rw [e]
        exact dss_nil
      case b5 =>
        intro q
        simp only [Bool.and_eq_true, decide_eq_true_eq] at q
        have e : wr1 ns at_ p st st.length = (List.range 12).map fun j : Nat => (nth (nth st (((st.length : Nat) : Int) - 1)) (j : Nat) + nth dg 1 * nth (nth st (((st.length : Nat) : Int) - 2)) (j : Nat)) % p := by
          unfold wr1
          rw [edg, if_pos ⟨q.1, by omega⟩]
        rw [e]
        obtain ⟨u1, u2⟩ := rows_at R (k := ((st.length : Nat) : Int) - 1) (by omega) (by omega)
        obtain ⟨v1, v2⟩ := rows_at R (k := ((st.length : Nat) : Int) - 2) (by omega) (by omega)
        have db := red_at o0.2 (j := 1) (by omega)
        refine' dss_cons (ds_set (d := IL _) (i := 7) nd rfl (by first | exact Or.inl rfl | exact Or.inr rfl) (DN.de (dn_lcA (own := [("j", 8)]) (xs := List.range 12) (en := fun i : Nat => D.int (i : Nat)) (g := fun j : Nat => (nth (nth st (((st.length : Nat) : Int) - 1)) (j : Nat) + nth dg 1 * nth (nth st (((st.length : Nat) : Int) - 2)) (j : Nat)) % p) (eb := D.int)
            (ρx := fun j : Nat => [.im (.scr ns), .im (.int at_), .im (.int p), .im (.int 12), .im (.int (many : Nat)), .ow (.lst (st.map IL)), .im (.int (st.length : Nat)), .im (IL dg), .im (.int (j : Nat))]) rfl nd (blkOk_by (N := nWr) (sc := defScope sWr) (by decide +kernel)) ?hi6 ⟨?tg6, ?tt6, ?te6⟩ (by rw [List.length_range]; omega)))) dss_nil
        case hi6 => exact DI.c (di_rngN (n := 12) rfl mR (de_var (pv 3) rfl) (by omega))
        case tg6 => intro s1 H1 C cl fp y hy; walk_at "g"
        case tt6 => intro s1 H1 C cl fp y hy; exact dts_nil
        case te6 =>
          intro s1 H1 C cl fp y hy _
          have hyl := List.mem_range.mp hy
          refine' de_mod ?i1 (de_var (pv 2) rfl) hp
          case i1 =>
            refine' de_intI rfl mInt bt_int ?i2
            case i2 =>
              exact de_add (de_ix2 (l := st) (dv_own (pv 5) rfl) (de_sub (de_var (pv 6) rfl) de_int) (de_var (pv 8) rfl) (by omega) (by omega) (by omega) (by omega)) (de_mul (de_ixN (f := D.int) (xs := dg) (DV.of (de_var (pv 7) rfl)) de_int (by omega) (by omega)) (de_ix2 (l := st) (dv_own (pv 5) rfl) (de_sub (de_var (pv 6) rfl) de_int) (de_var (pv 8) rfl) (by omega) (by omega) (by omega) (by omega)) (cmul_l db.1 db.2 g2))
      case k5 =>
      have ne1 : wr1 ns at_ p st st.length ≠ [] := fun z => by rw [z] at o1; simp at o1
      refine' dss_cons (ρ1 := [.im (.scr ns), .im (.int at_), .im (.int p), .im (.int 12), .im (.int (many : Nat)), .ow (.lst (st.map IL)), .im (.int (st.length : Nat)), .im (IL (wr2 ns at_ p st st.length)), .un])
        (ds_if (t := decide (((wr1 ns at_ p st st.length).getLastD default + ((st.length : Nat) : Int)) % 5 = 2)) (db_eqI (de_mod (de_intI rfl mInt bt_int (de_add (de_ixLast (f := D.int) (xs := wr1 ns at_ p st st.length) (DV.of (de_var (pv 7) rfl)) (de_neg de_int) rfl ne1) (de_var (pv 6) rfl))) de_int (by decide)) de_int) ?b7 ?c7) ?k7
      case c7 =>
        intro q
        have e : wr2 ns at_ p st st.length = wr1 ns at_ p st st.length := by unfold wr2; rw [if_neg (of_decide_eq_false q)]
        rw [e]
        exact dss_nil
      case b7 =>
        intro q
        have e : wr2 ns at_ p st st.length = [0, 0, 0] ++ (wr1 ns at_ p st st.length).drop (3 : Int).toNat := by unfold wr2; rw [if_pos (of_decide_eq_true q)]
        rw [e]
        refine' dss_cons (ds_set (d := IL ([0, 0, 0] ++ (wr1 ns at_ p st st.length).drop (3 : Int).toNat)) (i := 7) nd rfl (by first | exact Or.inl rfl | exact Or.inr rfl) (DN.de (dn_catT (en := D.int) (DVs.of (dn_lstT (dat_cons de_int (dat_cons de_int (dat_cons de_int dat_nil))) (by decide)).de) (DVs.of (dn_from (DV.of (de_var (pv 7) rfl)) de_int (by decide)).de) (by rw [List.length_drop, o1.1]; decide)))) dss_nil
      case k7 =>
      refine' dss_cons (ds_append (i := 5) (ds := st.map IL) (d := IL (wr2 ns at_ p st st.length)) (pv 5) rfl (de_var (pv 7) rfl) (by rw [List.length_map]; omega)) ?k9
      case k9 =>
        refine DSs.to dss_nil ?_
        unfold wrStep
        rw [List.map_append]
        rfl
end
/-! the law -/
def wdM (b : Int) : Nat := if b / 504 % 8 = 3 then 12 else (1 + b / 6 % 6).toNat
def manyM (b : Int) : Nat := if b / 504 % 8 = 3 then (9 + b / 4032 % 6).toNat else (b / 36 % 7).toNat
def rowsM (ns : List Int) (b p : Int) : List (List Int) := if b / 504 % 8 = 3 then wideM ns 2 p (manyM b) else drawnM ns 2 p (wdM b) (manyM b)
def askM (ns : List Int) (b p : Int) (wd many : Nat) (rows : List (List Int)) : List Int := if b / 252 % 2 = 0 ∧ 0 < many then mixM p wd rows (digitsM ns 50 many p) else digitsM ns 45 wd p
theorem rowsM_ok {p : Int} (hp : 0 < p) (ns : List Int) (b : Int) : Rows p (wdM b) (rowsM ns b p) ∧ (rowsM ns b p).length = manyM b ∧ 1 ≤ wdM b ∧ wdM b ≤ 12 ∧ manyM b ≤ 14 := by
  unfold rowsM
  by_cases h : b / 504 % 8 = 3
  · have e : wdM b = 12 := by unfold wdM; rw [if_pos h]
    have e2 : manyM b ≤ 14 := by unfold manyM; rw [if_pos h]; omega
    rw [if_pos h, e]
    exact ⟨(wide_ok hp ns 2 _).1, (wide_ok hp ns 2 _).2, by omega, by omega, e2⟩
  · have e : 1 ≤ wdM b ∧ wdM b ≤ 12 := by unfold wdM; rw [if_neg h]; omega
    have e2 : manyM b ≤ 14 := by unfold manyM; rw [if_neg h]; omega
    rw [if_neg h]
    exact ⟨(drawn_ok hp ns 2 _ _).1, (drawn_ok hp ns 2 _ _).2, e.1, e.2, e2⟩
theorem askM_ok {p : Int} (hp : 0 < p) (ns : List Int) (b : Int) (wd many : Nat) (rows : List (List Int)) : (askM ns b p wd many rows).length = wd ∧ Red p (askM ns b p wd many rows) := by
  unfold askM
  split
  · exact mix_ok hp _ _ _
  · exact digits_ok _ _ _ _ hp
section
variable {P : Program} {w : World} {K : PySem.W.Frag} {mg : Str → Option Value} {base : Heap}
abbrev sLa : Stmt := topS 21
def nLa : List Str := ["script", "base", "p", "width", "many", "rows", "due", "asked", "given", "told", "row", "inside"]
theorem scLa : FnScope nLa ["script"] (defScope sLa) := ⟨rfl, rfl, rfl, by decide +kernel, rfl, by decide +kernel, by decide +kernel⟩
inductive rLa : List D → D → Prop
  | mk {ns : List Int} : rLa [.scr ns] (.bl true)
theorem ok_La {f : Addr} {fd : FuncData} (F : Fun K "law" "law" sLa f fd) (mLen : mg "len" = none) (mInt : mg "int" = none) (mL : mg "list" = none)
    (hCe : Has P w K mg base "_law_cell" 1 ["script", "k"] rCe) (hDi : Has P w K mg base "_law_digits" 2 ["script", "at", "count", "base"] rDi) (hMi : Has P w K mg base "_law_mixed" 1 ["p", "rows", "numbers"] rMi)
    (hDr : Has P w K mg base "_law_drawn_rows" 3 ["script", "at", "p", "width", "many"] rDr) (hWr : Has P w K mg base "_law_wide_rows" 3 ["script", "at", "p", "width", "many"] rWr)
    (hLE : Has P w K mg base "_law_echelon" 2 ["p", "rows"] rLE) (hSa : Has P w K mg base "_law_same" 3 ["told", "due"] (rSa 2)) (hEc : Has P w K mg base "echelon" 5 ["prime", "rows"] rEc)
    (hRk : Has P w K mg base "rank" 6 ["prime", "rows"] rRk) (hIs : Has P w K mg base "is_in_span" 6 ["prime", "rows", "row"] rIs) : FnOk P w K mg base CX0 7 f fd ["script"] (spD K rLa) := by
  refine fn_ok F scLa (fun ds r h => by cases h; rfl) (by decide) fun cdv A outer s H E hr ds r h => ?_
  cases h with
  | @mk ns =>
  have nd := scLa.nd
  have sl := sl_lt
  refine ⟨_, .rt, ?_⟩
  have b0 : 0 ≤ cell ns 0 := cell_nn ns 0
  walk_at "set"
  generalize cell ns 0 = b at b0
  have hm : nth [(2 : Int), 3, 5, 7, 31, 97] (b % 6) ∈ [(2 : Int), 3, 5, 7, 31, 97] := by
    have e : b % 6 = (((b % 6).toNat : Nat) : Int) := by omega
    rw [e, nth_nat (by simp; omega)]
    exact List.getElem_mem _
  refine' dss_cons (ds_set (d := .int (nth [(2 : Int), 3, 5, 7, 31, 97] (b % 6))) (i := 2) nd rfl (by first | exact Or.inl rfl | exact Or.inr rfl) (de_ixN (f := D.int) (xs := [(2 : Int), 3, 5, 7, 31, 97]) ?e1 (de_mod (de_intI rfl mInt bt_int (de_var (pv 1) rfl)) de_int (by decide)) (by omega) (by simp; omega))) ?k1
  case e1 => exact DV.of (dn_lstT (dat_cons de_int (dat_cons de_int (dat_cons de_int (dat_cons de_int (dat_cons de_int (dat_cons de_int dat_nil)))))) (by decide)).de
  case k1 =>
  have G := good_cases hm
  generalize nth [(2 : Int), 3, 5, 7, 31, 97] (b % 6) = p at G
  have g1 := G.lo
  have g2 := G.hi
  have hp : 0 < p := by omega
  refine' dss_cons (ds_set (d := .int (((1 + b / 6 % 6).toNat : Nat) : Int)) (i := 3) nd rfl (by first | exact Or.inl rfl | exact Or.inr rfl) (DE.to (de_add de_int (de_mod (de_intI rfl mInt bt_int (de_div (de_var (pv 1) rfl) de_int ⟨by decide, by decide⟩)) de_int (by decide))) ?e2)) ?k2
  case e2 => rw [Int.toNat_of_nonneg (by omega)]
  case k2 =>
  refine' dss_cons (ds_set (d := .int (((b / 36 % 7).toNat : Nat) : Int)) (i := 4) nd rfl (by first | exact Or.inl rfl | exact Or.inr rfl) (DE.to (de_mod (de_intI rfl mInt bt_int (de_div (de_var (pv 1) rfl) de_int ⟨by decide, by decide⟩)) de_int (by decide)) ?e3)) ?k3
  case e3 => rw [Int.toNat_of_nonneg (by omega)]
  case k3 =>
  refine' dss_cons (ds_set (d := LL IL (drawnM ns 2 p (1 + b / 6 % 6).toNat (b / 36 % 7).toNat)) (i := 5) nd rfl (by first | exact Or.inl rfl | exact Or.inr rfl) (de_callH (da_cons (de_var (pv 0) rfl) (da_cons de_int (da_cons (de_var (pv 2) rfl) (da_cons (de_var (pv 3) rfl) (da_cons (de_var (pv 4) rfl) da_nil))))) hDr (.mk (by decide) g1 g2 (by omega) (by omega)) hr (by decide) rfl)) ?k4
  case k4 =>
  refine' dss_cons (ρ1 := [.im (.scr ns), .im (.int b), .im (.int p), .im (.int (wdM b : Nat)), .im (.int (manyM b : Nat)), .im (LL IL (rowsM ns b p)), .un, .un, .un, .un, .un, .un])
    (ds_if (t := decide (b / 504 % 8 = 3)) (db_eqI (de_mod (de_intI rfl mInt bt_int (de_div (de_var (pv 1) rfl) de_int ⟨by decide, by decide⟩)) de_int (by decide)) de_int) ?b5 ?c5) ?k5
  case c5 =>
    intro q
    have q := of_decide_eq_false q
    have e1 : wdM b = (1 + b / 6 % 6).toNat := by unfold wdM; rw [if_neg q]
    have e2 : manyM b = (b / 36 % 7).toNat := by unfold manyM; rw [if_neg q]
    have e3 : rowsM ns b p = drawnM ns 2 p (1 + b / 6 % 6).toNat (b / 36 % 7).toNat := by unfold rowsM; rw [if_neg q, e1, e2]
    rw [e1, e2, e3]
    exact dss_nil
  case b5 =>
    intro q
    have q := of_decide_eq_true q
    have e1 : wdM b = 12 := by unfold wdM; rw [if_pos q]
    have e2 : manyM b = (9 + b / 4032 % 6).toNat := by unfold manyM; rw [if_pos q]
    have e3 : rowsM ns b p = wideM ns 2 p (9 + b / 4032 % 6).toNat := by unfold rowsM; rw [if_pos q, e2]
    rw [e1, e2, e3]
    refine' dss_cons (ds_set (d := .int 12) (i := 3) nd rfl (by first | exact Or.inl rfl | exact Or.inr rfl) de_int) ?k6
    refine' dss_cons (ds_set (d := .int (((9 + b / 4032 % 6).toNat : Nat) : Int)) (i := 4) nd rfl (by first | exact Or.inl rfl | exact Or.inr rfl) (DE.to (de_add de_int (de_mod (de_intI rfl mInt bt_int (de_div (de_var (pv 1) rfl) de_int ⟨by decide, by decide⟩)) de_int (by decide))) ?e6)) ?k7
    case e6 => rw [Int.toNat_of_nonneg (by omega)]
    case k7 =>
    refine' dss_cons (ds_set (d := LL IL (wideM ns 2 p (9 + b / 4032 % 6).toNat)) (i := 5) nd rfl (by first | exact Or.inl rfl | exact Or.inr rfl) (de_callH (da_cons (de_var (pv 0) rfl) (da_cons de_int (da_cons (de_var (pv 2) rfl) (da_cons (de_var (pv 3) rfl) (da_cons (de_var (pv 4) rfl) da_nil))))) hWr (.mk (by decide) g1 g2 (by omega)) hr (by decide) rfl)) dss_nil
  case k5 =>
  obtain ⟨R, r1, r2, r3, r4⟩ := rowsM_ok hp ns b
  obtain ⟨a1, a2⟩ := askM_ok hp ns b (wdM b) (manyM b) (rowsM ns b p)
  generalize ea : askM ns b p (wdM b) (manyM b) (rowsM ns b p) = asked at a1 a2
  unfold askM at ea
  generalize wdM b = wd at R r1 r2 r3 r4 a1 a2 ea
  generalize manyM b = many at R r1 r2 r3 r4 a1 a2 ea
  generalize rowsM ns b p = rows at R r1 r2 r3 r4 a1 a2 ea
  have fo := forms_one G R
  have ins := inside_iff G R a1 a2
  rw [← fo] at ins
  obtain ⟨RE, leE⟩ := ech_ok G R
  -- due
  refine' dss_cons (ds_set (d := LL IL (echM p rows)) (i := 6) nd rfl (by first | exact Or.inl rfl | exact Or.inr rfl) (DE.to (de_callH (da_cons (de_var (pv 2) rfl) (da_cons (de_var (pv 5) rfl) da_nil)) hLE (.mk G R (by omega) (by omega)) hr (by decide) rfl) (by rw [fo]))) ?k8
  case k8 =>
  -- asked
  refine' dss_cons (ds_set (d := IL (digitsM ns 45 wd p)) (i := 7) nd rfl (by first | exact Or.inl rfl | exact Or.inr rfl) (DE.to (de_callH (da_cons (de_var (pv 0) rfl) (da_cons de_int (da_cons (de_var (pv 3) rfl) (da_cons (de_var (pv 2) rfl) da_nil)))) hDi (.mk (by decide) (by omega) (by omega) g1 g2) hr (by decide) rfl) (by rw [Int.toNat_natCast]))) ?k9
  case k9 =>
  refine' dss_cons (ρ1 := [.im (.scr ns), .im (.int b), .im (.int p), .im (.int (wd : Nat)), .im (.int (many : Nat)), .im (LL IL rows), .im (LL IL (echM p rows)), .im (IL asked), .un, .un, .un, .un])
    (ds_if (t := decide (b / 252 % 2 = 0) && decide (0 < ((many : Nat) : Int))) (DW.db (dw_and (db_eqI (de_mod (de_intI rfl mInt bt_int (de_div (de_var (pv 1) rfl) de_int ⟨by decide, by decide⟩)) de_int (by decide)) de_int) (fun _ => dw_and1 (db_gt (de_var (pv 4) rfl) de_int)))) ?b10 ?c10) ?k10
  case c10 =>
    intro q
    have e : asked = digitsM ns 45 wd p := by
      rw [← ea, if_neg]
      rintro ⟨h1, h2⟩
      have h3 : 0 < ((many : Nat) : Int) := by omega
      rw [decide_eq_true h1, decide_eq_true h3] at q
      cases q
    rw [e]
    exact dss_nil
  case b10 =>
    intro q
    simp only [Bool.and_eq_true, decide_eq_true_eq] at q
    have e : asked = mixM p wd rows (digitsM ns 50 many p) := by rw [← ea, if_pos ⟨q.1, by omega⟩]
    obtain ⟨d1, d2⟩ := digits_ok ns 50 many p hp
    rw [e]
    refine' dss_cons (ds_set (d := IL (mixM p wd rows (digitsM ns 50 many p))) (i := 7) nd rfl (by first | exact Or.inl rfl | exact Or.inr rfl) (DE.unF (de_callH (da_cons (de_var (pv 2) rfl) (da_cons (de_var (pv 5) rfl) (da_cons (d := IL (digitsM ns 50 many p)) ?e11 da_nil))) hMi (.mk g1 g2 R ?m1 (by omega) (by omega) (by omega) d2) hr (by decide) rfl))) dss_nil
    case m1 => intro z; rw [z] at r1; simp at r1; omega
    case e11 => exact DE.to (de_callH (da_cons (de_var (pv 0) rfl) (da_cons de_int (da_cons (de_var (pv 4) rfl) (da_cons (de_var (pv 2) rfl) da_nil)))) hDi (.mk (by decide) (by omega) (by omega) g1 g2) hr (by decide) rfl) (by rw [Int.toNat_natCast])
  case k10 =>
  -- given
  refine' dss_cons (ds_lcA (i := 8) (own := [("row", 10)]) (xs := rows) (en := IL) (g := fun r => r) (eb := IL)
    (ρx := fun r => [.im (.scr ns), .im (.int b), .im (.int p), .im (.int (wd : Nat)), .im (.int (many : Nat)), .im (LL IL rows), .im (LL IL (echM p rows)), .im (IL asked), .un, .un, .im (IL r), .un]) rfl nd rfl rfl rfl (blkOk_by (N := nLa) (sc := defScope sLa) (by decide +kernel)) ?hi12 ⟨?tg12, ?tt12, ?te12⟩ (by omega)) ?k12
  case hi12 => exact DI.c (di_list (de_var (pv 5) rfl))
  case tg12 => intro s1 H1 C cl fp y hy; walk_at "g"
  case tt12 => intro s1 H1 C cl fp y hy; exact dts_nil
  case te12 => intro s1 H1 C cl fp y hy _; exact DN.de (dn_list rfl mL bt_list (DV.of (de_var (pv 10) rfl)))
  case k12 =>
  refine dss_frz 8 rfl ?_
  rw [List.map_id' rows]
  refine DSs.at_ (ρ := [.im (.scr ns), .im (.int b), .im (.int p), .im (.int (wd : Nat)), .im (.int (many : Nat)), .im (LL IL rows), .im (LL IL (echM p rows)), .im (IL asked), .im (LL IL rows), .un, .un, .un]) ?_ rfl
  have sameL : ∀ xs : List (List Int), xs.length ≤ 1000 → (∀ a ∈ xs, a.length ≤ 1000) → rSa 2 [LL IL xs, LL IL xs] (.bl (decide (xs = xs))) := fun xs hx hy => rSa.ll 1 IL xs xs (by omega) (by omega) fun a ha c hc' => rSa.ll 0 D.int a c (by have := hy a ha; omega) (by have := hy c hc'; omega) fun x _ y _ => rSa.int 0 x y
  have lenE : ∀ a ∈ echM p rows, a.length ≤ 1000 := fun a ha => by have := (RE.rows a ha).1; omega
  have n1 : noF (LL IL rows) = true := NoF.no rows
  have n2 : noF (LL IL (echM p rows)) = true := NoF.no _
  have n3 : noF (IL asked) = true := NoF.no _
  refine dss_spoil (iA := 9) (iR := 10) (E := echM p rows) ?u1 (by decide) (by simp) rfl rfl rfl .never ?u2 ?u3 ?u4 (pv 9) (pv 10) (pv 10) ?u5 rfl rfl ?u6
  case u1 => simp [calmS, n1, n2, n3, noF]
  case u2 => exact ps_set (i := 9) nd rfl (by first | exact Or.inl rfl | exact Or.inr rfl) (DE.pe (de_callH (da_cons (de_var (pv 2) rfl) (da_cons (de_var (pv 8) rfl) da_nil)) hEc (.mk G R (by omega) (by omega)) hr (by decide) rfl))
  case u3 =>
    intro s hs z
    have := (RE.rows s hs).1
    rw [z] at this
    simp at this
    omega
  case u4 =>
    refine' DW.db (dw_orF (DB.to (db_not (db_val (de_callH (da_cons (DE.unFF (de_var (pv 9) rfl)) (da_cons (de_var (pv 6) rfl) da_nil)) hSa (sameL _ (by omega) lenE) hr (by decide) rfl))) (by simp)) (dw_or1 (DB.to (db_neD (en := LL IL) (u := rows) (v := rows) (de_var (pv 8) rfl) (de_var (pv 5) rfl) hr) (by simp))))
  case u5 => exact pg_name nd rfl (by first | exact Or.inl rfl | exact Or.inr rfl)
  case u6 =>
    refine' dss_cons (ds_if (t := false) (DW.db (dw_orF (DB.to (db_not (db_val (de_callH (da_cons (DE.unFF (de_callH (da_cons (de_var (pv 2) rfl) (da_cons (de_var (pv 8) rfl) da_nil)) hEc (.mk G R (by omega) (by omega)) hr (by decide) rfl)) (da_cons (de_var (pv 6) rfl) da_nil)) hSa (sameL _ (by omega) lenE) hr (by decide) rfl))) (by simp))
      (dw_or1 (DB.to (db_not (db_val (de_callH (da_cons (de_callH (da_cons (de_var (pv 2) rfl) (da_cons (de_var (pv 8) rfl) da_nil)) hRk (.mk G R (by omega) (by omega)) hr (by decide) rfl) (da_cons (DE.to (d' := .int (echM p rows).length) (de_len rfl mLen bt_len (DV.of (de_var (d := LL IL (echM p rows)) (pv 6) rfl))) (by rw [List.length_map])) da_nil)) hSa (rSa.int 2 _ _) hr (by decide) rfl))) (by simp))))) (fun q => by cases q) (fun _ => dss_nil)) ?k13
    case k13 =>
    have R2 : Rows p wd (rows ++ [asked]) := fun r hr' => by
      rcases List.mem_append.mp hr' with q | q
      · exact R r q
      · rw [List.mem_singleton.mp q]; exact ⟨a1, a2⟩
    refine' dss_cons (ds_set (d := .bl (decide (((lawE p (rows ++ [asked])).length : Int) = ((echM p rows).length : Int)))) (i := 11) nd rfl (by first | exact Or.inl rfl | exact Or.inr rfl)
      (de_eqI (DE.to (d' := .int (lawE p (rows ++ [asked])).length) (de_len rfl mLen bt_len (DV.of (ds := (lawE p (rows ++ [asked])).map IL) (de_callH (da_cons (de_var (pv 2) rfl) (da_cons (d := LL IL (rows ++ [asked])) ?e14 da_nil)) hLE (.mk G R2 (by omega) (by rw [List.length_append, List.length_singleton]; omega)) hr (by decide) rfl))) (by rw [List.length_map]))
        (DE.to (d' := .int (echM p rows).length) (de_len rfl mLen bt_len (DV.of (de_var (d := LL IL (echM p rows)) (pv 6) rfl))) (by rw [List.length_map])))) ?k14
    case e14 => exact DN.de (dn_catT (en := IL) (xs := rows) (ys := [asked]) (DVs.of (de_var (pv 5) rfl)) (DVs.of (dn_lstT (dat_cons (de_var (pv 7) rfl) dat_nil) (by rw [List.length_singleton]; omega)).de) (by rw [List.length_singleton]; omega))
    case k14 =>
    refine' dss_one (ds_ret (de_andV (c := true) (DE.to (de_callH (da_cons (de_callH (da_cons (de_var (pv 2) rfl) (da_cons (de_var (pv 8) rfl) (da_cons (d := IL asked) ?e15 da_nil))) hIs (.mk G R (by omega) (by omega) a1 a2) hr (by decide) rfl) (da_cons (de_var (pv 11) rfl) da_nil)) hSa (rSa.bl 2 _ _) hr (by decide) rfl) ?e16) (fun _ => de_one (DE.to (de_eqD (en := LL IL) (u := rows) (v := rows) (de_var (pv 8) rfl) (de_var (pv 5) rfl) hr) (by simp))) (fun z => by cases z)))
    case e15 => exact DN.de (dn_list rfl mL bt_list (DV.of (de_var (pv 7) rfl)))
    case e16 =>
      rw [ins]
      simp
      constructor <;> intro h <;> omega
end
/-! what the top has written, and the law's own head -/
theorem no_IL (xs : List Int) : noF (IL xs) = true := NoF.no xs
theorem no_LL (xs : List (List Int)) : noF (LL IL xs) = true := NoF.no xs
theorem has_mk {P : Program} {w : World} {K : PySem.W.Frag} {mg : Str → Option Value} {base : Heap} {n : Str} {st : Stmt} {f : Addr} {fd : FuncData} {k : Nat} {ps : List Str} {R : List D → D → Prop} (F : Fun K n n st f fd) (hm : mg n = some (.ref f)) (b : L2.Binds K fd ps [])
    (ok : FnOk P w K mg base CX0 k f fd ps (spD K R)) (no : ∀ ds r, R ds r → noFs ds = true) : Has P w K mg base n k ps R := ⟨f, fd, ok, hm, F.kp, b, no⟩
theorem all_mk {l : PySem.W.OpenLaw} {w : World} {K : PySem.W.Frag} {h : Heap} {mg : Str → Option Value} {fa f0 f1 f2 f3 f4 f5 f6 f7 f8 f9 f10 f11 f12 f13 f14 f15 f16 f17 f18 : Addr} (X : K.In h) (G : h.Ns mainGlobals mg) (hfa : mg "law" = some (.ref fa))
    {od0 an0 od1 an1 od2 an2 od3 an3 od4 an4 od5 an5 od6 an6 od7 an7 od8 an8 od9 an9 od10 an10 od11 an11 od12 an12 od13 an13 od14 an14 od15 an15 od16 an16 od17 an17 od18 an18 : Option Addr} {sl0 sl1 sl2 sl3 sl4 sl5 sl6 sl7 sl8 sl9 sl10 sl11 sl12 sl13 sl14 sl15 sl16 sl17 sl18 : Array (Option Value)} {oc0 kV0 dc0 pm0 cd0 ct0 oc1 kV1 dc1 pm1 cd1 ct1 oc2 kV2 dc2 pm2 cd2 ct2 oc3 kV3 dc3 pm3 cd3 ct3 oc4 kV4 dc4 pm4 cd4 ct4 oc5 kV5 dc5 pm5 cd5 ct5 oc6 kV6 dc6 pm6 cd6 ct6 oc7 kV7 dc7 pm7 cd7 ct7 oc8 kV8 dc8 pm8 cd8 ct8 oc9 kV9 dc9 pm9 cd9 ct9 oc10 kV10 dc10 pm10 cd10 ct10 oc11 kV11 dc11 pm11 cd11 ct11 oc12 kV12 dc12 pm12 cd12 ct12 oc13 kV13 dc13 pm13 cd13 ct13 oc14 kV14 dc14 pm14 cd14 ct14 oc15 kV15 dc15 pm15 cd15 ct15 oc16 kV16 dc16 pm16 cd16 ct16 oc17 kV17 dc17 pm17 cd17 ct17 oc18 kV18 dc18 pm18 cd18 ct18 : Value}
    (a0 : PySem.W.nsIn K mainGlobals "raised" = some (some (.ref f0))) (l0 : K.lookup f0 = some ⟨oc0, od0, .func (PySem.W.fnOf "raised" "raised" (defArgs sRa) (defBody sRa) (defScope sRa) .none kV0 dc0 pm0 an0 cd0 ct0), sl0⟩) (c0 : PySem.W.codeIn K cd0 "raised" = true) (k0 : PySem.W.keepIn K (.ref f0) = true)
    (a1 : PySem.W.nsIn K mainGlobals "inverse" = some (some (.ref f1))) (l1 : K.lookup f1 = some ⟨oc1, od1, .func (PySem.W.fnOf "inverse" "inverse" (defArgs sIn) (defBody sIn) (defScope sIn) .none kV1 dc1 pm1 an1 cd1 ct1), sl1⟩) (c1 : PySem.W.codeIn K cd1 "inverse" = true) (k1 : PySem.W.keepIn K (.ref f1) = true)
    (a2 : PySem.W.nsIn K mainGlobals "less_multiple" = some (some (.ref f2))) (l2 : K.lookup f2 = some ⟨oc2, od2, .func (PySem.W.fnOf "less_multiple" "less_multiple" (defArgs sLM) (defBody sLM) (defScope sLM) .none kV2 dc2 pm2 an2 cd2 ct2), sl2⟩) (c2 : PySem.W.codeIn K cd2 "less_multiple" = true) (k2 : PySem.W.keepIn K (.ref f2) = true)
    (a3 : PySem.W.nsIn K mainGlobals "first_column" = some (some (.ref f3))) (l3 : K.lookup f3 = some ⟨oc3, od3, .func (PySem.W.fnOf "first_column" "first_column" (defArgs sFC) (defBody sFC) (defScope sFC) .none kV3 dc3 pm3 an3 cd3 ct3), sl3⟩) (c3 : PySem.W.codeIn K cd3 "first_column" = true) (k3 : PySem.W.keepIn K (.ref f3) = true)
    (a4 : PySem.W.nsIn K mainGlobals "monic_row" = some (some (.ref f4))) (l4 : K.lookup f4 = some ⟨oc4, od4, .func (PySem.W.fnOf "monic_row" "monic_row" (defArgs sMo) (defBody sMo) (defScope sMo) .none kV4 dc4 pm4 an4 cd4 ct4), sl4⟩) (c4 : PySem.W.codeIn K cd4 "monic_row" = true) (k4 : PySem.W.keepIn K (.ref f4) = true)
    (a5 : PySem.W.nsIn K mainGlobals "cleared" = some (some (.ref f5))) (l5 : K.lookup f5 = some ⟨oc5, od5, .func (PySem.W.fnOf "cleared" "cleared" (defArgs sCl) (defBody sCl) (defScope sCl) .none kV5 dc5 pm5 an5 cd5 ct5), sl5⟩) (c5 : PySem.W.codeIn K cd5 "cleared" = true) (k5 : PySem.W.keepIn K (.ref f5) = true)
    (a6 : PySem.W.nsIn K mainGlobals "with_step" = some (some (.ref f6))) (l6 : K.lookup f6 = some ⟨oc6, od6, .func (PySem.W.fnOf "with_step" "with_step" (defArgs sWs) (defBody sWs) (defScope sWs) .none kV6 dc6 pm6 an6 cd6 ct6), sl6⟩) (c6 : PySem.W.codeIn K cd6 "with_step" = true) (k6 : PySem.W.keepIn K (.ref f6) = true)
    (a7 : PySem.W.nsIn K mainGlobals "echelon" = some (some (.ref f7))) (l7 : K.lookup f7 = some ⟨oc7, od7, .func (PySem.W.fnOf "echelon" "echelon" (defArgs sEc) (defBody sEc) (defScope sEc) .none kV7 dc7 pm7 an7 cd7 ct7), sl7⟩) (c7 : PySem.W.codeIn K cd7 "echelon" = true) (k7 : PySem.W.keepIn K (.ref f7) = true)
    (a8 : PySem.W.nsIn K mainGlobals "rank" = some (some (.ref f8))) (l8 : K.lookup f8 = some ⟨oc8, od8, .func (PySem.W.fnOf "rank" "rank" (defArgs sRk) (defBody sRk) (defScope sRk) .none kV8 dc8 pm8 an8 cd8 ct8), sl8⟩) (c8 : PySem.W.codeIn K cd8 "rank" = true) (k8 : PySem.W.keepIn K (.ref f8) = true)
    (a9 : PySem.W.nsIn K mainGlobals "is_in_span" = some (some (.ref f9))) (l9 : K.lookup f9 = some ⟨oc9, od9, .func (PySem.W.fnOf "is_in_span" "is_in_span" (defArgs sIs) (defBody sIs) (defScope sIs) .none kV9 dc9 pm9 an9 cd9 ct9), sl9⟩) (c9 : PySem.W.codeIn K cd9 "is_in_span" = true) (k9 : PySem.W.keepIn K (.ref f9) = true)
    (a10 : PySem.W.nsIn K mainGlobals "_law_cell" = some (some (.ref f10))) (l10 : K.lookup f10 = some ⟨oc10, od10, .func (PySem.W.fnOf "_law_cell" "_law_cell" (defArgs sCe) (defBody sCe) (defScope sCe) .none kV10 dc10 pm10 an10 cd10 ct10), sl10⟩) (c10 : PySem.W.codeIn K cd10 "_law_cell" = true) (k10 : PySem.W.keepIn K (.ref f10) = true)
    (a11 : PySem.W.nsIn K mainGlobals "_law_digits" = some (some (.ref f11))) (l11 : K.lookup f11 = some ⟨oc11, od11, .func (PySem.W.fnOf "_law_digits" "_law_digits" (defArgs sDi) (defBody sDi) (defScope sDi) .none kV11 dc11 pm11 an11 cd11 ct11), sl11⟩) (c11 : PySem.W.codeIn K cd11 "_law_digits" = true) (k11 : PySem.W.keepIn K (.ref f11) = true)
    (a12 : PySem.W.nsIn K mainGlobals "_law_same" = some (some (.ref f12))) (l12 : K.lookup f12 = some ⟨oc12, od12, .func (PySem.W.fnOf "_law_same" "_law_same" (defArgs sSa) (defBody sSa) (defScope sSa) .none kV12 dc12 pm12 an12 cd12 ct12), sl12⟩) (c12 : PySem.W.codeIn K cd12 "_law_same" = true) (k12 : PySem.W.keepIn K (.ref f12) = true)
    (a13 : PySem.W.nsIn K mainGlobals "_law_over" = some (some (.ref f13))) (l13 : K.lookup f13 = some ⟨oc13, od13, .func (PySem.W.fnOf "_law_over" "_law_over" (defArgs sOv) (defBody sOv) (defScope sOv) .none kV13 dc13 pm13 an13 cd13 ct13), sl13⟩) (c13 : PySem.W.codeIn K cd13 "_law_over" = true) (k13 : PySem.W.keepIn K (.ref f13) = true)
    (a14 : PySem.W.nsIn K mainGlobals "_law_echelon" = some (some (.ref f14))) (l14 : K.lookup f14 = some ⟨oc14, od14, .func (PySem.W.fnOf "_law_echelon" "_law_echelon" (defArgs sLE) (defBody sLE) (defScope sLE) .none kV14 dc14 pm14 an14 cd14 ct14), sl14⟩) (c14 : PySem.W.codeIn K cd14 "_law_echelon" = true) (k14 : PySem.W.keepIn K (.ref f14) = true)
    (a15 : PySem.W.nsIn K mainGlobals "_law_mixed" = some (some (.ref f15))) (l15 : K.lookup f15 = some ⟨oc15, od15, .func (PySem.W.fnOf "_law_mixed" "_law_mixed" (defArgs sMi) (defBody sMi) (defScope sMi) .none kV15 dc15 pm15 an15 cd15 ct15), sl15⟩) (c15 : PySem.W.codeIn K cd15 "_law_mixed" = true) (k15 : PySem.W.keepIn K (.ref f15) = true)
    (a16 : PySem.W.nsIn K mainGlobals "_law_drawn_rows" = some (some (.ref f16))) (l16 : K.lookup f16 = some ⟨oc16, od16, .func (PySem.W.fnOf "_law_drawn_rows" "_law_drawn_rows" (defArgs sDr) (defBody sDr) (defScope sDr) .none kV16 dc16 pm16 an16 cd16 ct16), sl16⟩) (c16 : PySem.W.codeIn K cd16 "_law_drawn_rows" = true) (k16 : PySem.W.keepIn K (.ref f16) = true)
    (a17 : PySem.W.nsIn K mainGlobals "_law_wide_rows" = some (some (.ref f17))) (l17 : K.lookup f17 = some ⟨oc17, od17, .func (PySem.W.fnOf "_law_wide_rows" "_law_wide_rows" (defArgs sWr) (defBody sWr) (defScope sWr) .none kV17 dc17 pm17 an17 cd17 ct17), sl17⟩) (c17 : PySem.W.codeIn K cd17 "_law_wide_rows" = true) (k17 : PySem.W.keepIn K (.ref f17) = true)
    (a18 : PySem.W.nsIn K mainGlobals "law" = some (some (.ref f18))) (l18 : K.lookup f18 = some ⟨oc18, od18, .func (PySem.W.fnOf "law" "law" (defArgs sLa) (defBody sLa) (defScope sLa) .none kV18 dc18 pm18 an18 cd18 ct18), sl18⟩) (c18 : PySem.W.codeIn K cd18 "law" = true) (k18 : PySem.W.keepIn K (.ref f18) = true)
    (z0 : PySem.W.nsIn K mainGlobals "enumerate" = some none) (z1 : PySem.W.nsIn K mainGlobals "len" = some none) (z2 : PySem.W.nsIn K mainGlobals "int" = some none) (z3 : PySem.W.nsIn K mainGlobals "list" = some none) (z4 : PySem.W.nsIn K mainGlobals "tuple" = some none) (z5 : PySem.W.nsIn K mainGlobals "bool" = some none) (z6 : PySem.W.nsIn K mainGlobals "str" = some none) (z7 : PySem.W.nsIn K mainGlobals "isinstance" = some none) (z8 : PySem.W.nsIn K mainGlobals "range" = some none) :
    ∃ fd : FuncData, (∀ (s : Shared) (v : Value), BindsTo s fd ⟨[v], []⟩ [("script", v)]) ∧ ∀ base : Heap, K.In base → base.Ns mainGlobals mg → FnOk l.prog w K mg base CX0 7 fa fd ["script"] (spD K rLa) := by
  have e := hfa.symm.trans (PySem.W.mg_of X G a18)
  cases e
  have FRa := fun_mk (st := sRa) l0 c0 k0
  have FIn := fun_mk (st := sIn) l1 c1 k1
  have FLM := fun_mk (st := sLM) l2 c2 k2
  have FFC := fun_mk (st := sFC) l3 c3 k3
  have FMo := fun_mk (st := sMo) l4 c4 k4
  have FCl := fun_mk (st := sCl) l5 c5 k5
  have FWs := fun_mk (st := sWs) l6 c6 k6
  have FEc := fun_mk (st := sEc) l7 c7 k7
  have FRk := fun_mk (st := sRk) l8 c8 k8
  have FIs := fun_mk (st := sIs) l9 c9 k9
  have FCe := fun_mk (st := sCe) l10 c10 k10
  have FDi := fun_mk (st := sDi) l11 c11 k11
  have FSa := fun_mk (st := sSa) l12 c12 k12
  have FOv := fun_mk (st := sOv) l13 c13 k13
  have FLE := fun_mk (st := sLE) l14 c14 k14
  have FMi := fun_mk (st := sMi) l15 c15 k15
  have FDr := fun_mk (st := sDr) l16 c16 k16
  have FWr := fun_mk (st := sWr) l17 c17 k17
  have FLa := fun_mk (st := sLa) l18 c18 k18
  have bRa := FRa.binds (ps := ["prime", "number", "count"]) fun _ _ _ _ _ _ us hl => match us, hl with | [_, _, _], _ => rfl
  have gRa := PySem.W.mg_of X G a0
  have bIn := FIn.binds (ps := ["prime", "number"]) fun _ _ _ _ _ _ us hl => match us, hl with | [_, _], _ => rfl
  have gIn := PySem.W.mg_of X G a1
  have bLM := FLM.binds (ps := ["prime", "row", "other", "number"]) fun _ _ _ _ _ _ us hl => match us, hl with | [_, _, _, _], _ => rfl
  have gLM := PySem.W.mg_of X G a2
  have bFC := FFC.binds (ps := ["row"]) fun _ _ _ _ _ _ us hl => match us, hl with | [_], _ => rfl
  have gFC := PySem.W.mg_of X G a3
  have bMo := FMo.binds (ps := ["prime", "row"]) fun _ _ _ _ _ _ us hl => match us, hl with | [_, _], _ => rfl
  have gMo := PySem.W.mg_of X G a4
  have bCl := FCl.binds (ps := ["prime", "row", "steps"]) fun _ _ _ _ _ _ us hl => match us, hl with | [_, _, _], _ => rfl
  have gCl := PySem.W.mg_of X G a5
  have bWs := FWs.binds (ps := ["prime", "steps", "row"]) fun _ _ _ _ _ _ us hl => match us, hl with | [_, _, _], _ => rfl
  have gWs := PySem.W.mg_of X G a6
  have bEc := FEc.binds (ps := ["prime", "rows"]) fun _ _ _ _ _ _ us hl => match us, hl with | [_, _], _ => rfl
  have gEc := PySem.W.mg_of X G a7
  have bRk := FRk.binds (ps := ["prime", "rows"]) fun _ _ _ _ _ _ us hl => match us, hl with | [_, _], _ => rfl
  have gRk := PySem.W.mg_of X G a8
  have bIs := FIs.binds (ps := ["prime", "rows", "row"]) fun _ _ _ _ _ _ us hl => match us, hl with | [_, _, _], _ => rfl
  have gIs := PySem.W.mg_of X G a9
  have bCe := FCe.binds (ps := ["script", "k"]) fun _ _ _ _ _ _ us hl => match us, hl with | [_, _], _ => rfl
  have gCe := PySem.W.mg_of X G a10
  have bDi := FDi.binds (ps := ["script", "at", "count", "base"]) fun _ _ _ _ _ _ us hl => match us, hl with | [_, _, _, _], _ => rfl
  have gDi := PySem.W.mg_of X G a11
  have bSa := FSa.binds (ps := ["told", "due"]) fun _ _ _ _ _ _ us hl => match us, hl with | [_, _], _ => rfl
  have gSa := PySem.W.mg_of X G a12
  have bOv := FOv.binds (ps := ["p", "number"]) fun _ _ _ _ _ _ us hl => match us, hl with | [_, _], _ => rfl
  have gOv := PySem.W.mg_of X G a13
  have bLE := FLE.binds (ps := ["p", "rows"]) fun _ _ _ _ _ _ us hl => match us, hl with | [_, _], _ => rfl
  have gLE := PySem.W.mg_of X G a14
  have bMi := FMi.binds (ps := ["p", "rows", "numbers"]) fun _ _ _ _ _ _ us hl => match us, hl with | [_, _, _], _ => rfl
  have gMi := PySem.W.mg_of X G a15
  have bDr := FDr.binds (ps := ["script", "at", "p", "width", "many"]) fun _ _ _ _ _ _ us hl => match us, hl with | [_, _, _, _, _], _ => rfl
  have gDr := PySem.W.mg_of X G a16
  have bWr := FWr.binds (ps := ["script", "at", "p", "width", "many"]) fun _ _ _ _ _ _ us hl => match us, hl with | [_, _, _, _, _], _ => rfl
  have gWr := PySem.W.mg_of X G a17
  have mE := PySem.W.mg_none_of X G z0
  have mLen := PySem.W.mg_none_of X G z1
  have mInt := PySem.W.mg_none_of X G z2
  have mL := PySem.W.mg_none_of X G z3
  have mT := PySem.W.mg_none_of X G z4
  have mB := PySem.W.mg_none_of X G z5
  have mS := PySem.W.mg_none_of X G z6
  have mI := PySem.W.mg_none_of X G z7
  have mR := PySem.W.mg_none_of X G z8
  refine ⟨PySem.W.fnOf "law" "law" (defArgs sLa) (defBody sLa) (defScope sLa) .none kV18 dc18 pm18 an18 cd18 ct18, fun s v => .of_eq rfl, fun base _ _ => ?_⟩
  have hRa : Has l.prog w K mg base "raised" 1 ["prime", "number", "count"] rRa := has_mk FRa gRa bRa (ok_Ra FRa ) fun ds r h => by cases h <;> simp [noFs, noF, no_IL, no_LL]
  have hIn : Has l.prog w K mg base "inverse" 2 ["prime", "number"] rIn := has_mk FIn gIn bIn (ok_In FIn hRa) fun ds r h => by cases h <;> simp [noFs, noF, no_IL, no_LL]
  have hLM : Has l.prog w K mg base "less_multiple" 1 ["prime", "row", "other", "number"] rLM := has_mk FLM gLM bLM (ok_LM FLM mE) fun ds r h => by cases h <;> simp [noFs, noF, no_IL, no_LL]
  have hFC : Has l.prog w K mg base "first_column" 1 ["row"] rFC := has_mk FFC gFC bFC (ok_FC FFC mE) fun ds r h => by cases h <;> simp [noFs, noF, no_IL, no_LL]
  have hMo : Has l.prog w K mg base "monic_row" 3 ["prime", "row"] rMo := has_mk FMo gMo bMo (ok_Mo FMo hFC hIn mL) fun ds r h => by cases h <;> simp [noFs, noF, no_IL, no_LL]
  have hCl : Has l.prog w K mg base "cleared" 2 ["prime", "row", "steps"] rCl := has_mk FCl gCl bCl (ok_Cl FCl hFC hLM mL) fun ds r h => by cases h <;> simp [noFs, noF, no_IL, no_LL]
  have hWs : Has l.prog w K mg base "with_step" 4 ["prime", "steps", "row"] rWs := has_mk FWs gWs bWs (ok_Ws FWs hFC hLM hMo) fun ds r h => by cases h <;> simp [noFs, noF, no_IL, no_LL]
  have hEc : Has l.prog w K mg base "echelon" 5 ["prime", "rows"] rEc := has_mk FEc gEc bEc (ok_Ec FEc hFC hCl hWs) fun ds r h => by cases h <;> simp [noFs, noF, no_IL, no_LL]
  have hRk : Has l.prog w K mg base "rank" 6 ["prime", "rows"] rRk := has_mk FRk gRk bRk (ok_Rk FRk mLen hEc) fun ds r h => by cases h <;> simp [noFs, noF, no_IL, no_LL]
  have hIs : Has l.prog w K mg base "is_in_span" 6 ["prime", "rows", "row"] rIs := has_mk FIs gIs bIs (ok_Is FIs hFC hCl hEc) fun ds r h => by cases h <;> simp [noFs, noF, no_IL, no_LL]
  have hCe : Has l.prog w K mg base "_law_cell" 1 ["script", "k"] rCe := has_mk FCe gCe bCe (ok_Ce FCe mLen mInt) fun ds r h => by cases h <;> simp [noFs, noF, no_IL, no_LL]
  have hDi : Has l.prog w K mg base "_law_digits" 2 ["script", "at", "count", "base"] rDi := has_mk FDi gDi bDi (ok_Di FDi mR mInt hCe) fun ds r h => by cases h <;> simp [noFs, noF, no_IL, no_LL]
  have hSa0 : Has l.prog w K mg base "_law_same" 1 ["told", "due"] (rSa 0) := has_mk FSa gSa bSa (ok_Sa 0 FSa mI mL mT mB mS mInt mLen mR (fun z => absurd rfl z)) fun ds r h => rSa_no h
  have hSa1 : Has l.prog w K mg base "_law_same" 2 ["told", "due"] (rSa 1) := has_mk FSa gSa bSa (ok_Sa 1 FSa mI mL mT mB mS mInt mLen mR (fun _ => hSa0)) fun ds r h => rSa_no h
  have hSa2 : Has l.prog w K mg base "_law_same" 3 ["told", "due"] (rSa 2) := has_mk FSa gSa bSa (ok_Sa 2 FSa mI mL mT mB mS mInt mLen mR (fun _ => hSa1)) fun ds r h => rSa_no h
  have hOv : Has l.prog w K mg base "_law_over" 1 ["p", "number"] rOv := has_mk FOv gOv bOv (ok_Ov FOv mR mInt) fun ds r h => by cases h <;> simp [noFs, noF, no_IL, no_LL]
  have hLE : Has l.prog w K mg base "_law_echelon" 2 ["p", "rows"] rLE := has_mk FLE gLE bLE (ok_LE FLE mR mInt mLen hOv) fun ds r h => by cases h <;> simp [noFs, noF, no_IL, no_LL]
  have hMi : Has l.prog w K mg base "_law_mixed" 1 ["p", "rows", "numbers"] rMi := has_mk FMi gMi bMi (ok_Mi FMi mR mInt mLen) fun ds r h => by cases h <;> simp [noFs, noF, no_IL, no_LL]
  have hDr : Has l.prog w K mg base "_law_drawn_rows" 3 ["script", "at", "p", "width", "many"] rDr := has_mk FDr gDr bDr (ok_Dr FDr mR mInt hCe hDi hMi) fun ds r h => by cases h <;> simp [noFs, noF, no_IL, no_LL]
  have hWr : Has l.prog w K mg base "_law_wide_rows" 3 ["script", "at", "p", "width", "many"] rWr := has_mk FWr gWr bWr (ok_Wr FWr mR mInt hDi) fun ds r h => by cases h <;> simp [noFs, noF, no_IL, no_LL]
  exact ok_La FLa mLen mInt mL hCe hDi hMi hDr hWr hLE hSa2 hEc hRk hIs
end K55
open PySem PySem.W PyProof.Rows
set_option maxHeartbeats 0 in
theorem PySem.Challenge.cw_noughtmeet_k55_echelon_forms_holds : PySem.Challenge.rw_noughtmeet_k55_echelon_forms.Holds := by
  w_on; o_law; k_head; (case hw => w_witness2)
  k_fill
  refine L2.walk_of (l := PySem.Challenge.rw_noughtmeet_k55_echelon_forms) (n := 63) (k := 7) (x := "script") (CX := fun _ => L2.CX0) (sp := fun w => DL.spD _ K55.rLa) rfl (by decide) rfl ⟨rfl, by decide, by decide⟩ (fun w h Y => PySem.W.kIn_of Y) ?F (fun w H a ns hl _ hS => ⟨H, [.scr ns], .bl true, .refl _, rfl, DL.reps_cons.mpr ⟨_, _, rfl, DL.rep_scr.mpr ⟨a, rfl, hS⟩, DL.reps_nil.mpr rfl⟩, .mk, fun v I' H' g h => DL.rep_bl.mp h⟩) (fun _ _ _ _ _ h => h)
  case F =>
    intro w mg fa h KX G hmg
    refine' K55.all_mk KX G hmg ?a0 ?l0 ?c0 ?k0 ?a1 ?l1 ?c1 ?k1 ?a2 ?l2 ?c2 ?k2 ?a3 ?l3 ?c3 ?k3 ?a4 ?l4 ?c4 ?k4 ?a5 ?l5 ?c5 ?k5 ?a6 ?l6 ?c6 ?k6 ?a7 ?l7 ?c7 ?k7 ?a8 ?l8 ?c8 ?k8 ?a9 ?l9 ?c9 ?k9 ?a10 ?l10 ?c10 ?k10 ?a11 ?l11 ?c11 ?k11 ?a12 ?l12 ?c12 ?k12 ?a13 ?l13 ?c13 ?k13 ?a14 ?l14 ?c14 ?k14 ?a15 ?l15 ?c15 ?k15 ?a16 ?l16 ?c16 ?k16 ?a17 ?l17 ?c17 ?k17 ?a18 ?l18 ?c18 ?k18 ?z0 ?z1 ?z2 ?z3 ?z4 ?z5 ?z6 ?z7 ?z8
    (case a0 => k_is); (case l0 => k_is); (case c0 => k_is); (case k0 => k_is); (case a1 => k_is); (case l1 => k_is); (case c1 => k_is); (case k1 => k_is); (case a2 => k_is); (case l2 => k_is); (case c2 => k_is); (case k2 => k_is); (case a3 => k_is); (case l3 => k_is); (case c3 => k_is); (case k3 => k_is); (case a4 => k_is); (case l4 => k_is); (case c4 => k_is); (case k4 => k_is); (case a5 => k_is); (case l5 => k_is); (case c5 => k_is); (case k5 => k_is); (case a6 => k_is); (case l6 => k_is); (case c6 => k_is); (case k6 => k_is); (case a7 => k_is); (case l7 => k_is); (case c7 => k_is); (case k7 => k_is); (case a8 => k_is); (case l8 => k_is); (case c8 => k_is); (case k8 => k_is); (case a9 => k_is); (case l9 => k_is); (case c9 => k_is); (case k9 => k_is); (case a10 => k_is); (case l10 => k_is); (case c10 => k_is); (case k10 => k_is); (case a11 => k_is); (case l11 => k_is); (case c11 => k_is); (case k11 => k_is); (case a12 => k_is); (case l12 => k_is); (case c12 => k_is); (case k12 => k_is); (case a13 => k_is); (case l13 => k_is); (case c13 => k_is); (case k13 => k_is); (case a14 => k_is); (case l14 => k_is); (case c14 => k_is); (case k14 => k_is); (case a15 => k_is); (case l15 => k_is); (case c15 => k_is); (case k15 => k_is); (case a16 => k_is); (case l16 => k_is); (case c16 => k_is); (case k16 => k_is); (case a17 => k_is); (case l17 => k_is); (case c17 => k_is); (case k17 => k_is); (case a18 => k_is); (case l18 => k_is); (case c18 => k_is); (case k18 => k_is); (case z0 => k_is); (case z1 => k_is); (case z2 => k_is); (case z3 => k_is); (case z4 => k_is); (case z5 => k_is); (case z6 => k_is); (case z7 => k_is); (case z8 => k_is)
