import PyProof.Rows.All
import Wide.All
import OpenK.AllK
import Wide.FinOn
import HandS.ForMost
import HandS.Exc
import HandS.ExcOwn
import HandS.TryOnly
import HandS.WordsExc
import HandS.CallSlots
import HandS.Wide
import HandS.TupAny
import HandS.TupLe
import HandS.Style
import HandS.IsInst
import HandS.TryMany
import HandS.Conv
import HandS.Iter
import HandS.Zip
import KE.GoesEnum
import KE.GoesZip
import KE.GoesMore
import PyProof.Draws
import PyProof.EnumMake
import HandS.Steps
import HandS.FStr
import HandS.Text
import HandS.More
import KE.IntTextLaws
import KE.IntTextText
import PyProof.Rows.StrDigitsNeg
import PySem.Challenge.RW_everyinput_k05_values_and_truths
/-! Pv1 -/
set_option Elab.async false
set_option linter.all false
set_option maxRecDepth 100000
set_option maxHeartbeats 1000000
/-! Pv: Python's values seen as plain data. A value is a tree D; a node that is owned may be changed, a frozen one may not. -/
namespace Pv
open PySem L2

/-- the kind of an object -/
inductive Kd where
  | lst | ro | tup | rt
  | dK (ks : List Key) | dT (ks : List (List Key))
  | ins (c : Nat) (ns : List Str)
  deriving DecidableEq
/-- data -/
inductive D where
  | non | bl (b : Bool) | int (i : Int) | str (x : Str)
  | nd (o : Bool) (k : Kd) (xs : List D)
abbrev D.lst (xs : List D) : D := .nd false .lst xs
abbrev D.tup (xs : List D) : D := .nd false .tup xs
abbrev D.own (xs : List D) : D := .nd true .lst xs
mutual
/-- all nodes frozen -/
def frz : D → D
  | .nd _ k xs => .nd false k (frzL xs)
  | .non => .non
  | .bl b => .bl b
  | .int i => .int i
  | .str x => .str x
def frzL : List D → List D
  | [] => []
  | x :: xs => frz x :: frzL xs
end
theorem frzL_eq : ∀ xs : List D, frzL xs = xs.map frz
  | [] => rfl
  | x :: xs => by rw [frzL, List.map_cons, frzL_eq xs]
/-- has the root no owner? (an owned node never stands below a frozen one) -/
def isF : D → Bool
  | .nd o _ _ => !o
  | _ => true

abbrev Ads := Addr → Prop
section
variable (K : PySem.W.Frag) (cl : Nat → Addr)
/-- an object that is read -/
def At (H : Hp) : Kd → Addr → List V → Prop
  | .lst, a, vs => H a = some (.lst vs)
  | .ro, a, vs => SqL K H a vs
  | .tup, a, vs => H a = some (.tup vs)
  | .rt, a, vs => SqT K H a vs
  | .dK ks, a, vs => ks.length = vs.length ∧ Rd H a (.dK (ks.zip vs))
  | .dT ks, a, vs => ks.length = vs.length ∧ Rd H a (.dT (ks.zip vs))
  | .ins c ns, a, vs => ns.length = vs.length ∧ ∃ dx, H a = some (.ins (cl c) dx (ns.zip vs))
/-- an object that may be changed -/
def Ob (H : Hp) : Kd → Addr → List V → Prop
  | .lst, a, vs => H a = some (.lst vs)
  | .dK ks, a, vs => (ks.length = vs.length ∧ ks.Nodup) ∧ H a = some (.dK (ks.zip vs))
  | .dT ks, a, vs => (ks.length = vs.length ∧ ks.Nodup) ∧ H a = some (.dT (ks.zip vs))
  | .ins c ns, a, vs => ns.length = vs.length ∧ ∃ dx, H a = some (.ins (cl c) dx (ns.zip vs))
  | _, _, _ => False
inductive Fz (F : Hp) : V → D → Prop where
  | non : Fz F .non .non
  | bl (b : Bool) : Fz F (.bl b) (.bl b)
  | int (i : Int) : Fz F (.int i) (.int i)
  | str (x : Str) : Fz F (.str x) (.str x)
  | nd {k : Kd} {a : Addr} {vs : List V} {xs : List D} (h : At K cl F k a vs) (l : vs.length = xs.length) (c : ∀ (i : Nat) (v : V) (x : D), vs[i]? = some v → xs[i]? = some x → Fz F v x) : Fz F (.ref a) (.nd false k xs)
/-- v is d; what is owned of it stands at A -/
inductive Own (F H : Hp) : V → D → Ads → Prop where
  | fz {v : V} {d : D} {A : Ads} (h : Fz K cl F v d) (e : ∀ a, ¬ A a) : Own F H v d A
  | nd {k : Kd} {a : Addr} {vs : List V} {xs : List D} {B : Nat → Ads} {A : Ads} (h : Ob cl H k a vs) (l : vs.length = xs.length)
      (c : ∀ (i : Nat) (v : V) (x : D), vs[i]? = some v → xs[i]? = some x → Own F H v x (B i)) (dj : ∀ (i j : Nat) (b : Addr), B i b → B j b → i = j) (na : ∀ i, ¬ B i a)
      (lt : ∀ (i : Nat) (b : Addr), B i b → i < xs.length) (hA : ∀ b, A b ↔ b = a ∨ ∃ i, B i b) : Own F H (.ref a) (.nd true k xs) A
end
section
variable {K : PySem.W.Frag} {cl : Nat → Addr} {F F' H H' : Hp} {v : V} {d : D} {A : Ads}
theorem Rd.same {u : HO} {a : Addr} (s : Same F F') (h : Rd F a u) : Rd F' a u := by
  rcases h with h | ⟨o, h⟩
  · exact .inl (s _ _ h)
  · exact .inr ⟨o, s _ _ h⟩
theorem sqT_same {K : PySem.W.Frag} {H H' : Hp} {a : Addr} {xs : List V} (e : Same H H') (h : SqT K H a xs) : SqT K H' a xs := by
  rcases h with (h | ⟨o, h⟩) | h
  · exact .inl (.inl (e _ _ h))
  · exact .inl (.inr ⟨o, e _ _ h⟩)
  · exact .inr h
theorem At.same {k : Kd} {a : Addr} {vs : List V} (s : Same F F') (h : At K cl F k a vs) : At K cl F' k a vs := by
  cases k with
  | lst => exact s _ _ h
  | ro => exact s.seq h
  | tup => exact s _ _ h
  | rt => exact sqT_same s h
  | dK ks => exact ⟨h.1, Rd.same s h.2⟩
  | dT ks => exact ⟨h.1, Rd.same s h.2⟩
  | ins c ns => obtain ⟨l, dx, e⟩ := h; exact ⟨l, dx, s _ _ e⟩
theorem Fz.same (s : Same F F') (h : Fz K cl F v d) : Fz K cl F' v d := by
  induction h with
  | non => exact .non
  | bl b => exact .bl b
  | int i => exact .int i
  | str x => exact .str x
  | nd h l c ih => exact .nd (h.same s) l ih
theorem Ob.at {k : Kd} {a : Addr} {vs : List V} (h : Ob cl H k a vs) : At K cl H k a vs := by
  cases k with
  | lst => exact h
  | ro => exact h.elim
  | tup => exact h.elim
  | rt => exact h.elim
  | dK ks => exact ⟨h.1.1, .inl h.2⟩
  | dT ks => exact ⟨h.1.1, .inl h.2⟩
  | ins c ns => exact h
theorem Ob.there {k : Kd} {a : Addr} {vs : List V} (h : Ob cl H k a vs) : ∃ o, H a = some o := by
  cases k with
  | lst => exact ⟨_, h⟩
  | ro => exact h.elim
  | tup => exact h.elim
  | rt => exact h.elim
  | dK ks => exact ⟨_, h.2⟩
  | dT ks => exact ⟨_, h.2⟩
  | ins c ns => obtain ⟨_, _, h⟩ := h; exact ⟨_, h⟩
theorem Ob.imp {k : Kd} {a : Addr} {vs : List V} (h : Ob cl H k a vs) (s : ∀ o, H a = some o → H' a = some o) : Ob cl H' k a vs := by
  cases k with
  | lst => exact s _ h
  | ro => exact h.elim
  | tup => exact h.elim
  | rt => exact h.elim
  | dK ks => exact ⟨h.1, s _ h.2⟩
  | dT ks => exact ⟨h.1, s _ h.2⟩
  | ins c ns => obtain ⟨l, dx, e⟩ := h; exact ⟨l, dx, s _ e⟩
/-- what is owned is there -/
theorem Own.there (h : Own K cl F H v d A) : ∀ a, A a → ∃ o, H a = some o := by
  induction h with
  | fz h e => exact fun a q => (e a q).elim
  | @nd k a vs xs B A h l c dj na lt hA ih =>
    intro b q
    rcases (hA b).mp q with rfl | ⟨i, q⟩
    · exact h.there
    · have hi := lt i b q
      have hv : i < vs.length := by omega
      exact ih i vs[i] xs[i] (by simp [hv]) (by simp [hi]) b q
theorem Own.frame (h : Own K cl F H v d A) (s : Same F F') (k : ∀ a o, A a → H a = some o → H' a = some o) : Own K cl F' H' v d A := by
  induction h with
  | fz h e => exact .fz (h.same s) e
  | @nd k₀ a vs xs B A h l c dj na lt hA ih =>
    refine .nd (h.imp fun o e => k a o ((hA a).mpr (.inl rfl)) e) l (fun i v x hv hx => ih i v x hv hx fun b o hb e => k b o ((hA b).mpr (.inr ⟨i, hb⟩)) e) dj na lt hA
theorem Own.iff {A' : Ads} (h : Own K cl F H v d A) (e : ∀ a, A a ↔ A' a) : Own K cl F H v d A' := by
  cases h with
  | fz h n => exact .fz h fun a q => n a ((e a).mpr q)
  | nd h l c dj na lt hA => exact .nd h l c dj na lt fun b => (e b).symm.trans (hA b)
/-- a frozen root owns nothing -/
theorem Own.isF (h : Own K cl F H v d A) (f : Pv.isF d = true) : Fz K cl F v d ∧ ∀ a, ¬ A a := by
  cases h with
  | fz h e => exact ⟨h, e⟩
  | nd => cases f
theorem Own.root (h : Own K cl F H v d A) (f : Pv.isF d = false) : ∃ a k xs, v = .ref a ∧ d = .nd true k xs ∧ A a := by
  cases h with
  | fz h e => cases h <;> cases f
  | @nd k a vs xs B A h l c dj na lt hA => exact ⟨a, k, xs, rfl, rfl, (hA a).mpr (.inl rfl)⟩
theorem frz_id_of (h : Fz K cl F v d) : frz d = d := by
  induction h with
  | non => rfl
  | bl b => rfl
  | int i => rfl
  | str x => rfl
  | @nd k a vs xs h l c ih =>
    rw [frz, frzL_eq]
    congr 1
    refine List.ext_getElem? fun i => ?_
    rw [List.getElem?_map]
    cases e : xs[i]? with
    | none => rfl
    | some x =>
      have hi : i < xs.length := (List.getElem?_eq_some_iff.mp e).1
      have hv : i < vs.length := by omega
      show some (frz x) = some x
      rw [ih i vs[i] x (by simp [hv]) e]
/-- to freeze: F grows by what was owned -/
theorem Own.freeze (h : Own K cl F H v d A) (s : Same F F') (k : ∀ a o, A a → H a = some o → F' a = some o) : Fz K cl F' v (frz d) := by
  induction h with
  | fz h e => rw [frz_id_of h]; exact h.same s
  | @nd k₀ a vs xs B A h l c dj na lt hA ih =>
    rw [frz, frzL_eq]
    refine .nd ((h.imp fun o e => k a o ((hA a).mpr (.inl rfl)) e).at) (by rw [List.length_map]; exact l) fun i v x hv hx => ?_
    rw [List.getElem?_map] at hx
    cases e : xs[i]? with
    | none => rw [e] at hx; cases hx
    | some y =>
      rw [e] at hx
      cases hx
      exact ih i v y hv e fun b o hb q => k b o ((hA b).mpr (.inr ⟨i, hb⟩)) q
/-- the frozen heap with what stands at A -/
noncomputable def glue (F H : Hp) (A : Ads) : Hp := fun a => by
  classical exact if A a then H a else F a
theorem glue_in {a : Addr} (h : A a) : glue F H A a = H a := by unfold glue; exact if_pos h
theorem glue_out {a : Addr} (h : ¬ A a) : glue F H A a = F a := by unfold glue; exact if_neg h
theorem glue_same (off : ∀ a, A a → F a = none) : Same F (glue F H A) := fun a o e => by
  rw [glue_out fun h => by rw [off a h] at e; cases e]; exact e
theorem glue_sub (s : Same F H) : Same (glue F H A) H := fun a o e => by
  by_cases h : A a
  · rw [glue_in h] at e; exact e
  · rw [glue_out h] at e; exact s a o e
end
end Pv

/-! Pv2 -/
set_option Elab.async false
set_option linter.all false
set_option maxRecDepth 100000
set_option maxHeartbeats 1000000
namespace Pv
open PySem L2
section
variable {K : PySem.W.Frag} {cl : Nat → Addr} {F F' H H' : Hp} {v : V} {d : D} {A : Ads}

theorem zip_inj {α β : Type} : ∀ {ks : List α} {vs ws : List β}, ks.length = vs.length → ks.length = ws.length → ks.zip vs = ks.zip ws → vs = ws
  | [], [], [], _, _, _ => rfl
  | k :: ks, v :: vs, w :: ws, h1, h2, e => by
    simp only [List.zip_cons_cons, List.cons.injEq, Prod.mk.injEq, true_and] at e
    rw [e.1, zip_inj (by simpa using h1) (by simpa using h2) e.2]
theorem Ob.inj {k : Kd} {a : Addr} {vs ws : List V} (h : Ob cl H k a vs) (h' : Ob cl H k a ws) : vs = ws := by
  cases k with
  | lst => have h : H a = _ := h; have h' : H a = _ := h'; rw [h] at h'; cases h'; rfl
  | ro => exact h.elim
  | tup => exact h.elim
  | rt => exact h.elim
  | dK ks => obtain ⟨l, h⟩ := h; obtain ⟨l', h'⟩ := h'; rw [h] at h'; exact zip_inj l.1 l'.1 (by injection (Option.some.inj h'))
  | dT ks => obtain ⟨l, h⟩ := h; obtain ⟨l', h'⟩ := h'; rw [h] at h'; exact zip_inj l.1 l'.1 (by injection (Option.some.inj h'))
  | ins c ns => obtain ⟨l, dx, h⟩ := h; obtain ⟨l', dx', h'⟩ := h'; rw [h] at h'; exact zip_inj l l' (by injection (Option.some.inj h'))

/-- the tree below a path, all of whose nodes are owned -/
inductive Pth (cl : Nat → Addr) (H : Hp) : V → D → List Nat → V → D → Prop where
  | nil {a : Addr} {k : Kd} {xs : List D} : Pth cl H (.ref a) (.nd true k xs) [] (.ref a) (.nd true k xs)
  | cons {a : Addr} {k : Kd} {xs : List D} {vs : List V} {j : Nat} {v1 v : V} {x1 d : D} {p : List Nat} (h : Ob cl H k a vs) (hv : vs[j]? = some v1) (hx : xs[j]? = some x1) (t : Pth cl H v1 x1 p v d) : Pth cl H (.ref a) (.nd true k xs) (j :: p) v d
/-- the tree with another one at a path -/
def putD : List Nat → D → D → D
  | [], new, _ => new
  | j :: p, new, .nd o k xs => .nd o k (xs.set j (putD p new (xs.getD j .non)))
  | _ :: _, _, d => d
theorem Pth.snoc {vr : V} {dr : D} {p : List Nat} {a b : Addr} {k k' : Kd} {xs xs' : List D} {vs : List V} {j : Nat} (t : Pth cl H vr dr p (.ref a) (.nd true k xs)) (h : Ob cl H k a vs) (hv : vs[j]? = some (.ref b)) (hx : xs[j]? = some (.nd true k' xs')) :
    Pth cl H vr dr (p ++ [j]) (.ref b) (.nd true k' xs') := by
  generalize hva : V.ref a = va at t
  generalize hda : D.nd true k xs = da at t
  induction t with
  | nil => cases hva; cases hda; exact .cons h hv hx .nil
  | cons h0 hv0 hx0 t ih => exact .cons h0 hv0 hx0 (ih hva hda)
theorem Pth.mono {vr : V} {dr : D} {p : List Nat} (t : Pth cl H vr dr p v d) (k : ∀ a o, H a = some o → A a → H' a = some o) (h : Own K cl F H vr dr A) : Pth cl H' vr dr p v d := by
  induction t generalizing A with
  | nil => exact .nil
  | @cons a kd xs vs j v1 v x1 d p h0 hv0 hx0 t ih =>
    cases h with
    | fz q e => cases q
    | @nd k₀ a₀ vs' xs' B _ q l c dj na lt hA =>
      have e := q.inj h0
      subst e
      exact .cons (h0.imp fun o e => k a o e ((hA a).mpr (.inl rfl))) hv0 hx0 (ih (fun b o e hb => k b o e ((hA b).mpr (.inr ⟨j, hb⟩))) (c j v1 x1 hv0 hx0))
theorem Own.focus {vr : V} {dr : D} {p : List Nat} (h : Own K cl F H vr dr A) (t : Pth cl H vr dr p v d) : ∃ A1 : Ads, Own K cl F H v d A1 ∧ (∀ b, A1 b → A b) ∧
    ∀ (F' H' : Hp) (d' : D) (A1' : Ads), Same F F' → Own K cl F' H' v d' A1' → (∀ b o, A b → ¬ A1 b → H b = some o → H' b = some o) → (∀ b, A1' b → A1 b ∨ ¬ A b) →
      Own K cl F' H' vr (putD p d' dr) (fun b => (A b ∧ ¬ A1 b) ∨ A1' b) := by
  induction t generalizing A with
  | nil => exact ⟨A, h, fun _ q => q, fun F' H' d' A1' s h' _ _ => h'.iff fun b => ⟨.inr, fun q => q.elim (fun q => (q.2 q.1).elim) id⟩⟩
  | @cons a kd xs vs j v1 v x1 d p h0 hv0 hx0 t ih =>
    cases h with
    | fz q e => cases q
    | @nd k₀ a₀ vs' xs' B _ q l c dj na lt hA =>
      have e := q.inj h0
      subst e
      obtain ⟨A1, o1, sub, rep⟩ := ih (c j v1 x1 hv0 hx0)
      have hj : j < xs.length := (List.getElem?_eq_some_iff.mp hx0).1
      refine ⟨A1, o1, fun b hb => (hA b).mpr (.inr ⟨j, sub b hb⟩), fun F' H' d' A1' s h' kp nw => ?_⟩
      have nw' : ∀ b, A1' b → A1 b ∨ ¬ B j b := fun b hb => (nw b hb).imp id fun z y => z ((hA b).mpr (.inr ⟨j, y⟩))
      have R := rep F' H' d' A1' s h' (fun b o hb hn e => kp b o ((hA b).mpr (.inr ⟨j, hb⟩)) hn e) nw'
      have na1 : ¬ A1 a := fun z => na j (sub a z)
      show Own K cl F' H' (.ref a) (.nd true kd (xs.set j (putD p d' (xs.getD j .non)))) _
      have gd : xs.getD j .non = x1 := by rw [List.getD_eq_getElem?_getD, hx0]; rfl
      rw [gd]
      refine .nd (k := kd) (a := a) (vs := vs') (xs := xs.set j (putD p d' x1)) (B := fun i b => if i = j then (B j b ∧ ¬ A1 b) ∨ A1' b else B i b) (h0.imp fun o e => kp a o ((hA a).mpr (.inl rfl)) na1 e) (by rw [List.length_set]; exact l) (fun i w y hw hy => ?_) (fun i i' b hb hb' => ?_) (fun i => ?_) (fun i b hb => ?_) fun b => ?_
      · by_cases hi : i = j
        · subst hi
          rw [List.getElem?_set_self hj] at hy
          cases hy
          rw [hv0] at hw
          cases hw
          refine R.iff fun b => ?_
          rw [if_pos rfl]
        · rw [List.getElem?_set_ne (Ne.symm hi)] at hy
          refine ((c i w y hw hy).frame s fun b o hb e => kp b o ((hA b).mpr (.inr ⟨i, hb⟩)) (fun z => hi (dj i j b hb (sub b z))) e).iff fun b => ?_
          rw [if_neg hi]
      · have key : ∀ i, i ≠ j → B i b → ¬ ((B j b ∧ ¬ A1 b) ∨ A1' b) := fun i hi hb z => by
          rcases z with ⟨z, _⟩ | z
          · exact hi (dj i j b hb z)
          · rcases nw b z with z | z
            · exact hi (dj i j b hb (sub b z))
            · exact z ((hA b).mpr (.inr ⟨i, hb⟩))
        by_cases hi : i = j <;> by_cases hi' : i' = j
        · rw [hi, hi']
        · rw [if_pos hi] at hb
          rw [if_neg hi'] at hb'
          exact (key i' hi' hb' hb).elim
        · rw [if_neg hi] at hb
          rw [if_pos hi'] at hb'
          exact (key i hi hb hb').elim
        · rw [if_neg hi] at hb
          rw [if_neg hi'] at hb'
          exact dj i i' b hb hb'
      · by_cases hi : i = j
        · rw [if_pos hi]
          rintro (⟨z, _⟩ | z)
          · exact na j z
          · rcases nw a z with z | z
            · exact na1 z
            · exact z ((hA a).mpr (.inl rfl))
        · rw [if_neg hi]
          exact na i
      · rw [List.length_set]
        by_cases hi : i = j
        · rw [hi]; exact hj
        · rw [if_neg hi] at hb
          exact lt i b hb
      · constructor
        · rintro (⟨q1, q2⟩ | q1)
          · rcases (hA b).mp q1 with rfl | ⟨i, q1⟩
            · exact .inl rfl
            · refine .inr ⟨i, ?_⟩
              by_cases hi : i = j
              · rw [if_pos hi]; rw [hi] at q1; exact .inl ⟨q1, q2⟩
              · rw [if_neg hi]; exact q1
          · exact .inr ⟨j, by rw [if_pos rfl]; exact .inr q1⟩
        · rintro (rfl | ⟨i, q1⟩)
          · exact .inl ⟨(hA b).mpr (.inl rfl), na1⟩
          · by_cases hi : i = j
            · rw [if_pos hi] at q1
              exact q1.imp (fun z => ⟨(hA b).mpr (.inr ⟨j, z.1⟩), z.2⟩) id
            · rw [if_neg hi] at q1
              exact .inl ⟨(hA b).mpr (.inr ⟨i, q1⟩), fun z => hi (dj i j b q1 (sub b z))⟩

/-! ### the state -/
abbrev Env := List (Option D)
structure StOk (K : PySem.W.Frag) (cl : Nat → Addr) (F H : Hp) (σ : L2.St) (ρ : Env) (As : Nat → Ads) : Prop where
  len : ρ.length = σ.length
  sl : ∀ (i : Nat) (d : D), ρ[i]? = some (some d) → ∃ v, σ[i]? = some (some v) ∧ Own K cl F H v d (As i)
  em : ∀ (i : Nat) (b : Addr), As i b → ∃ d, ρ[i]? = some (some d)
  dj : ∀ (i j : Nat) (b : Addr), As i b → As j b → i = j
  sub : Same F H
  off : ∀ (i : Nat) (b : Addr), As i b → F b = none
def U (As : Nat → Ads) : Ads := fun a => ∃ i, As i a
structure Step (F H : Hp) (O : Ads) (F' H' : Hp) (O' : Ads) : Prop where
  ff : Same F F'
  keep : ∀ a o, H a = some o → ¬ O a → H' a = some o
  own : ∀ a, O' a → O a ∨ H a = none
  fro : ∀ a o, F' a = some o → F a = some o ∨ O a ∨ H a = none
structure Tm (K : PySem.W.Frag) (cl : Nat → Addr) (F H : Hp) (v : V) (d : D) (A : Ads) : Prop where
  own : Own K cl F H v d A
  off : ∀ a, A a → F a = none
theorem Step.refl {O O' : Ads} (h : ∀ a, O' a → O a) : Step F H O F H O' := ⟨fun _ _ e => e, fun _ _ e _ => e, fun a q => .inl (h a q), fun _ _ e => .inl e⟩
theorem Step.trans {F1 H1 F2 H2 : Hp} {O O1 O1' O2 O3 : Ads} (a : Step F H O F1 H1 O1) (b : Step F1 H1 O1' F2 H2 O2) (h : ∀ a, O1' a → O1 a ∨ H1 a = none) (h' : ∀ a, O3 a → O2 a ∨ O1 a) : Step F H O F2 H2 O3 where
  ff := a.ff.trans b.ff
  keep := fun c o e n => b.keep c o (a.keep c o e n) fun z => by
    have k := a.keep c o e n
    rcases h c z with z | z
    · rcases a.own c z with z | z
      · exact n z
      · rw [e] at z; cases z
    · rw [k] at z; cases z
  own := fun c q => by
    have key : ∀ c, H1 c = none → O c ∨ H c = none := fun c e => by
      by_cases hc : O c
      · exact .inl hc
      · cases q : H c with
        | none => exact .inr rfl
        | some o => have := a.keep c o q hc; rw [e] at this; cases this
    rcases h' c q with q | q
    · rcases b.own c q with q | q
      · rcases h c q with q | q
        · exact a.own c q
        · exact key c q
      · exact key c q
    · exact a.own c q
  fro := fun c o q => by
    have key : ∀ c, H1 c = none → O c ∨ H c = none := fun c e => by
      by_cases hc : O c
      · exact .inl hc
      · cases q : H c with
        | none => exact .inr rfl
        | some o => have := a.keep c o q hc; rw [e] at this; cases this
    rcases b.fro c o q with q | q | q
    · exact a.fro c o q
    · rcases h c q with q | q
      · exact .inr (a.own c q)
      · exact .inr (key c q)
    · exact .inr (key c q)
theorem Step.weak {O O' O'' : Ads} (a : Step F H O F' H' O') (h : ∀ a, O'' a → O' a) : Step F H O F' H' O'' := ⟨a.ff, a.keep, fun c q => a.own c (h c q), a.fro⟩
/-- what is not of O stays -/
theorem Tm.carry {O O' : Ads} (t : Tm K cl F H v d A) (s : Step F H O F' H' O') (n : ∀ a, A a → ¬ O a) : Tm K cl F' H' v d A ∧ ∀ a, A a → ¬ O' a := by
  have there := t.own.there
  refine ⟨⟨t.own.frame s.ff fun a o hA e => s.keep a o e (n a hA), fun a hA => ?_⟩, fun a hA hO => ?_⟩
  · cases e : F' a with
    | none => rfl
    | some o =>
      obtain ⟨o', e'⟩ := there a hA
      rcases s.fro a o e with q | q | q
      · rw [t.off a hA] at q; cases q
      · exact (n a hA q).elim
      · rw [e'] at q; cases q
  · obtain ⟨o', e'⟩ := there a hA
    rcases s.own a hO with q | q
    · exact n a hA q
    · rw [e'] at q; cases q
/-- what an expression leaves alone -/
structure Keeps (ρ ρ' : Env) (As As' : Nat → Ads) (H H' : Hp) (T : List Nat) : Prop where
  k : ∀ j, j ∉ T → ρ'[j]? = ρ[j]? ∧ (∀ b, As' j b ↔ As j b) ∧ ∀ b o, As j b → H b = some o → H' b = some o
theorem Keeps.refl {ρ : Env} {As : Nat → Ads} {T : List Nat} : Keeps ρ ρ As As H H T := ⟨fun _ _ => ⟨rfl, fun _ => .rfl, fun _ _ _ e => e⟩⟩
theorem Keeps.trans {ρ ρ1 ρ2 : Env} {As As1 As2 : Nat → Ads} {H1 H2 : Hp} {T T' T'' : List Nat} (a : Keeps ρ ρ1 As As1 H H1 T) (b : Keeps ρ1 ρ2 As1 As2 H1 H2 T') (h : ∀ j, j ∉ T'' → j ∉ T ∧ j ∉ T') : Keeps ρ ρ2 As As2 H H2 T'' :=
  ⟨fun j hj => by
    obtain ⟨h1, h2⟩ := h j hj
    obtain ⟨e1, i1, k1⟩ := a.k j h1
    obtain ⟨e2, i2, k2⟩ := b.k j h2
    exact ⟨e2.trans e1, fun b => (i2 b).trans (i1 b), fun b o q e => k2 b o ((i1 b).mpr q) (k1 b o q e)⟩⟩
end
end Pv

/-! Pv3 -/
set_option Elab.async false
set_option linter.all false
set_option maxRecDepth 100000
set_option maxHeartbeats 1000000
namespace Pv
open PySem L2
/-- a result, or an exception of the class c -/
inductive Rs (α : Type) where
  | ok (a : α) | ex (c : Nat)
abbrev M (α : Type) := Env → Option (Rs α × Env)
def M.bind {α β : Type} (m : M α) (f : α → M β) : M β := fun ρ => match m ρ with
  | some (.ok a, ρ1) => f a ρ1
  | some (.ex c, ρ1) => some (.ex c, ρ1)
  | none => none
def M.ret {α : Type} (a : α) : M α := fun ρ => some (.ok a, ρ)
def M.lift {α : Type} (o : Option α) : M α := fun ρ => match o with
  | some a => some (.ok a, ρ)
  | none => none
theorem M.bind_some {α β : Type} {m : M α} {f : α → M β} {ρ : Env} {r : Rs β} {ρ' : Env} (h : m.bind f ρ = some (r, ρ')) :
    (∃ a ρ1, m ρ = some (.ok a, ρ1) ∧ f a ρ1 = some (r, ρ')) ∨ ∃ c, m ρ = some (.ex c, ρ') ∧ r = .ex c := by
  unfold M.bind at h
  split at h
  · rename_i a ρ1 e; exact .inl ⟨a, ρ1, e, h⟩
  · rename_i c ρ1 e; cases h; exact .inr ⟨c, e, rfl⟩
  · cases h
theorem M.lift_some {α : Type} {o : Option α} {ρ ρ' : Env} {r : Rs α} (h : M.lift o ρ = some (r, ρ')) : ∃ a, o = some a ∧ r = .ok a ∧ ρ' = ρ := by
  unfold M.lift at h
  cases o with
  | none => cases h
  | some a => cases h; exact ⟨a, rfl, rfl, rfl⟩
theorem M.ret_some {α : Type} {a : α} {ρ ρ' : Env} {r : Rs α} (h : M.ret a ρ = some (r, ρ')) : r = .ok a ∧ ρ' = ρ := by
  cases h; exact ⟨rfl, rfl⟩

abbrev Rel (α β : Type) := Hp → Hp → L2.St → Env → α → β → Ads → Prop
abbrev TX (β : Type) := L2.St → Hp → (β → Hp → Prop) → Prop
section
variable (K : PySem.W.Frag) (cl : Nat → Addr)
structure Aft {α β : Type} (R : Rel α β) (F H : Hp) (σ : L2.St) (ρ : Env) (As : Nat → Ads) (T : List Nat) (a : α) (ρ' : Env) (b : β) (F' H' : Hp) (As' : Nat → Ads) (A : Ads) : Prop where
  st : StOk K cl F' H' σ ρ' As'
  rel : R F' H' σ ρ' a b A
  ds : ∀ i c, As' i c → ¬ A c
  off : ∀ c, A c → F' c = none
  stp : Step F H (U As) F' H' (fun c => U As' c ∨ A c)
  kp : Keeps ρ ρ' As As' H H' T
structure AftX (F H : Hp) (σ : L2.St) (As : Nat → Ads) (ρ' : Env) (F' H' : Hp) (As' : Nat → Ads) : Prop where
  st : StOk K cl F' H' σ ρ' As'
  stp : Step F H (U As) F' H' (U As')
def Snd (W : WX) {α β : Type} (R : Rel α β) (t : TX β) (m : M α) (T : List Nat) : Prop :=
  ∀ (σ : L2.St) (H : Hp) (Q : β → Hp → Prop) (F : Hp) (ρ : Env) (As : Nat → Ads) (r : Rs α) (ρ' : Env), StOk K cl F H σ ρ As → m ρ = some (r, ρ') →
    (∀ a, r = .ok a → ∀ b F' H' As' A, Aft K cl R F H σ ρ As T a ρ' b F' H' As' A → Q b H') →
    (∀ c, r = .ex c → ∀ F' H' As', AftX K cl F H σ As ρ' F' H' As' → W (.ref (cl c)) none σ H') → t σ H Q
/-- an expression's value -/
def RE : Rel D V := fun F H _ _ d v A => Own K cl F H v d A
/-- a test's answer -/
def RT : Rel Bool Bool := fun _ _ _ _ b c A => b = c ∧ ∀ a, ¬ A a
end
section
variable {K : PySem.W.Frag} {cl : Nat → Addr} {W : WX} {F F' H H' F1 H1 : Hp} {σ : L2.St} {ρ ρ' ρ1 : Env} {As As' As1 : Nat → Ads} {T T1 T2 : List Nat} {A A1 : Ads} {v : V} {d : D}
theorem AftX.after {α β : Type} {R : Rel α β} {a : α} {b : β} (x : Aft K cl R F H σ ρ As T a ρ1 b F1 H1 As1 A1) (y : AftX K cl F1 H1 σ As1 ρ' F' H' As') : AftX K cl F H σ As ρ' F' H' As' :=
  ⟨y.st, x.stp.trans y.stp (fun _ q => .inl (.inl q)) fun _ q => .inl q⟩
theorem Snd.thn {α β γ : Type} {R : Rel α β} {t : TX β} {m : M α} {f : α → M γ} {r : Rs γ} {k : β → Hp → Prop} (h : Snd K cl W R t m T) (st : StOk K cl F H σ ρ As) (e : m.bind f ρ = some (r, ρ'))
    (hk : ∀ a ρ1 b F1 H1 As1 A1, Aft K cl R F H σ ρ As T a ρ1 b F1 H1 As1 A1 → f a ρ1 = some (r, ρ') → k b H1)
    (hx : ∀ c, r = .ex c → ∀ F' H' As', AftX K cl F H σ As ρ' F' H' As' → W (.ref (cl c)) none σ H') : t σ H k := by
  rcases M.bind_some e with ⟨a, ρ1, e1, e2⟩ | ⟨c, e1, rfl⟩
  · exact h σ H k F ρ As _ ρ1 st e1 (fun a' q b F' H' As' A x => by cases q; exact hk a ρ1 b F' H' As' A x e2) (fun c q => nomatch q)
  · exact h σ H k F ρ As _ ρ' st e1 (fun a' q => nomatch q) fun c' q => by cases q; exact hx c rfl
/-- the first one's value behind the second -/
theorem Aft.carry {a : D} {b : V} {F2 H2 : Hp} {O2 : Ads} (x : Aft K cl (RE K cl) F H σ ρ As T a ρ1 b F1 H1 As1 A1) (s : Step F1 H1 (U As1) F2 H2 O2) : Tm K cl F2 H2 b a A1 ∧ ∀ c, A1 c → ¬ O2 c :=
  Tm.carry ⟨x.rel, x.off⟩ s fun c q ⟨i, z⟩ => x.ds i c z q
theorem StOk.grow (st : StOk K cl F H σ ρ As) (s : Same F F') (s' : Same F' H) (n : ∀ i b, As i b → F' b = none) : StOk K cl F' H σ ρ As :=
  ⟨st.len, fun i d e => let ⟨v, h1, h2⟩ := st.sl i d e; ⟨v, h1, h2.frame s fun _ _ _ q => q⟩, st.em, st.dj, s', n⟩
/-- temporary values frozen -/
theorem StOk.ice (st : StOk K cl F H σ ρ As) (hd : ∀ i b, As i b → ¬ A b) (ho : ∀ b, A b → F b = none) : StOk K cl (glue F H A) H σ ρ As ∧ Same F (glue F H A) ∧ Step F H (fun c => U As c ∨ A c) (glue F H A) H (U As) := by
  have s1 : Same F (glue F H A) := glue_same ho
  refine ⟨st.grow s1 (glue_sub st.sub) fun i b q => by rw [glue_out (hd i b q)]; exact st.off i b q, s1, s1, fun _ _ e _ => e, fun _ q => .inl (.inl q), fun a o q => ?_⟩
  by_cases h : A a
  · exact .inr (.inl (.inr h))
  · rw [glue_out h] at q; exact .inl q
theorem Own.ice {A' : Ads} (h : Own K cl F H v d A') (ho : ∀ b, A b → F b = none) (s : ∀ b, A' b → A b) : Fz K cl (glue F H A) v (frz d) :=
  h.freeze (glue_same ho) fun a o q e => by rw [glue_in (s a q)]; exact e

/-! ### what is done with frozen values -/
/-- behind a step that makes at most new things -/
structure New (K : PySem.W.Frag) (cl : Nat → Addr) (F H : Hp) (v : V) (d : D) (F' H' : Hp) (A : Ads) : Prop where
  sub : Same F' H'
  own : Own K cl F' H' v d A
  off : ∀ b, A b → F' b = none
  stp : Step F H (fun _ => False) F' H' A
def Pr1 (K : PySem.W.Frag) (cl : Nat → Addr) (r : V → Hp → VK → Prop) (f : D → Option D) : Prop := ∀ (F H : Hp) (x : V) (dx d : D) (Q : VK), Same F H → Fz K cl F x dx → f dx = some d → (∀ v F' H' A, New K cl F H v d F' H' A → Q v H') → r x H Q
def Pr2 (K : PySem.W.Frag) (cl : Nat → Addr) (r : R2) (f : D → D → Option D) : Prop := ∀ (F H : Hp) (x y : V) (dx dy d : D) (Q : VK), Same F H → Fz K cl F x dx → Fz K cl F y dy → f dx dy = some d → (∀ v F' H' A, New K cl F H v d F' H' A → Q v H') → r x y H Q
inductive FzL (K : PySem.W.Frag) (cl : Nat → Addr) (F : Hp) : List V → List D → Prop where
  | nil : FzL K cl F [] []
  | cons {v d vs ds} (h : Fz K cl F v d) (t : FzL K cl F vs ds) : FzL K cl F (v :: vs) (d :: ds)
def PrN (K : PySem.W.Frag) (cl : Nat → Addr) (r : List V → Hp → VK → Prop) (f : List D → Option D) : Prop := ∀ (F H : Hp) (xs : List V) (ds : List D) (d : D) (Q : VK), Same F H → FzL K cl F xs ds → f ds = some d → (∀ v F' H' A, New K cl F H v d F' H' A → Q v H') → r xs H Q
theorem New.flat (s : Same F H) (h : Fz K cl F v d) : New K cl F H v d F H (fun _ => False) := ⟨s, .fz h fun _ z => z, fun _ z => z.elim, Step.refl fun _ z => z⟩
/-- a step by new things, carried through the state -/
theorem StOk.new (st : StOk K cl F H σ ρ As) (n : New K cl F H v d F' H' A) : StOk K cl F' H' σ ρ As ∧ (∀ i c, As i c → ¬ A c) ∧ Step F H (U As) F' H' (fun c => U As c ∨ A c) ∧ Keeps ρ ρ As As H H' T := by
  have there : ∀ i b, As i b → ∃ o, H b = some o := fun i b q => let ⟨d, e⟩ := st.em i b q; let ⟨v, _, h⟩ := st.sl i d e; h.there b q
  have kp : ∀ b o, H b = some o → H' b = some o := fun b o e => n.stp.keep b o e fun z => z
  refine ⟨⟨st.len, fun i d e => let ⟨v, h1, h2⟩ := st.sl i d e; ⟨v, h1, h2.frame n.stp.ff fun a o _ e => kp a o e⟩, st.em, st.dj, n.sub, fun i b q => ?_⟩, fun i c q z => ?_, ⟨n.stp.ff, fun a o e _ => kp a o e, fun a q => q.elim .inl fun z => ?_, fun a o q => ?_⟩, ⟨fun j _ => ⟨rfl, fun _ => .rfl, fun b o _ e => kp b o e⟩⟩⟩
  · cases e : F' b with
    | none => rfl
    | some o =>
      obtain ⟨o', e'⟩ := there i b q
      rcases n.stp.fro b o e with z | z | z
      · rw [st.off i b q] at z; cases z
      · exact z.elim
      · rw [e'] at z; cases z
  · obtain ⟨o', e'⟩ := there i c q
    rcases n.stp.own c z with z | z
    · exact z
    · rw [e'] at z; cases z
  · exact .inr ((n.stp.own a z).resolve_left fun z => z)
  · rcases n.stp.fro a o q with z | z | z
    · exact .inl z
    · exact z.elim
    · exact .inr (.inr z)
def mUn (f : D → Option D) (ma : M D) : M D := ma.bind fun a => M.lift (f (frz a))
def mBin (f : D → D → Option D) (ma mb : M D) : M D := ma.bind fun a => mb.bind fun b => M.lift (f (frz a) (frz b))
theorem s_un {t : TE} {r : V → Hp → VK → Prop} {f : D → Option D} {ma : M D} (ha : Snd K cl W (RE K cl) t ma T) (hf : Pr1 K cl r f) : Snd K cl W (RE K cl) (fun σ H Q => t σ H fun x H1 => r x H1 Q) (mUn f ma) T := by
  intro σ H Q F ρ As r' ρ' st e hq hx
  refine ha.thn st e (fun a ρ1 b F1 H1 As1 A1 x e1 => ?_) hx
  obtain ⟨d, ed, rfl, rfl⟩ := M.lift_some e1
  obtain ⟨st2, s2, p2⟩ := x.st.ice x.ds x.off
  refine hf (glue F1 H1 A1) H1 b (frz a) d Q st2.sub (x.rel.ice x.off fun _ q => q) ed fun v F2 H2 A2 n => ?_
  obtain ⟨st3, d3, p3, k3⟩ := st2.new (T := T) n
  exact hq d rfl v F2 H2 As1 A2 ⟨st3, n.own, d3, n.off, (x.stp.trans (p2.trans p3 (fun _ q => .inl q) fun _ q => .inl q) (fun _ q => .inl q) fun _ q => .inl q),
    x.kp.trans k3 fun j hj => ⟨hj, hj⟩⟩
theorem s_bin {ta tb : TE} {r : R2} {f : D → D → Option D} {ma mb : M D} (ha : Snd K cl W (RE K cl) ta ma T1) (hb : Snd K cl W (RE K cl) tb mb T2) (hf : Pr2 K cl r f) : Snd K cl W (RE K cl) (tOp r ta tb) (mBin f ma mb) (T1 ++ T2) := by
  intro σ H Q F ρ As r' ρ' st e hq hx
  refine ha.thn st e (fun a ρ1 x F1 H1 As1 A1 u e1 => ?_) hx
  refine hb.thn u.st e1 (fun b ρ2 y F2 H2 As2 A2 w e2 => ?_) fun c hc F' H' As' z => hx c hc F' H' As' (AftX.after u z)
  obtain ⟨d, ed, rfl, rfl⟩ := M.lift_some e2
  obtain ⟨tm, nO⟩ := u.carry w.stp
  have hds : ∀ i c, As2 i c → ¬ (A1 c ∨ A2 c) := fun i c q z => z.elim (fun z => nO c z (.inl ⟨i, q⟩)) fun z => w.ds i c q z
  have hof : ∀ c, A1 c ∨ A2 c → F2 c = none := fun c q => q.elim (tm.off c) (w.off c)
  obtain ⟨st3, s3, p3⟩ := w.st.ice (A := fun c => A1 c ∨ A2 c) hds hof
  refine hf (glue F2 H2 fun c => A1 c ∨ A2 c) H2 x y (frz a) (frz b) d Q st3.sub (tm.own.ice hof fun _ q => .inl q) (w.rel.ice hof fun _ q => .inr q) ed fun v F4 H4 A4 n => ?_
  obtain ⟨st4, d4, p4, k4⟩ := st3.new (T := T1 ++ T2) n
  refine hq d rfl v F4 H4 As2 A4 ⟨st4, n.own, d4, n.off, ?_, (u.kp.trans w.kp (T'' := T1 ++ T2) fun j hj => by simpa [not_or] using hj).trans k4 fun j hj => ⟨hj, hj⟩⟩
  have q1 : Step F H (U As) F2 H2 (fun c => U As2 c ∨ (A1 c ∨ A2 c)) := u.stp.trans w.stp (fun _ q => .inl (.inl q)) fun c q => q.elim (fun q => .inl (.inl q)) fun q => q.elim (fun q => .inr (.inr q)) fun q => .inl (.inr q)
  exact q1.trans (p3.trans p4 (fun _ q => .inl q) fun _ q => .inl q) (fun _ q => .inl q) fun _ q => .inl q
/-! ### constants, names -/
theorem s_c {v : V} {d : D} (h : ∀ F, Fz K cl F v d) : Snd K cl W (RE K cl) (tC v) (M.ret d) [] := by
  intro σ H Q F ρ As r' ρ' st e hq hx
  obtain ⟨rfl, rfl⟩ := M.ret_some e
  exact hq d rfl v F H As (fun _ => False) ⟨st, .fz (h F) fun _ z => z, fun _ _ _ z => z, fun _ z => z.elim, Step.refl fun a q => q.elim id False.elim, Keeps.refl⟩
theorem s_int {i : Int} : Snd K cl W (RE K cl) (tC (.int i)) (M.ret (.int i)) [] := s_c fun _ => .int i
theorem s_bl {i : Bool} : Snd K cl W (RE K cl) (tC (.bl i)) (M.ret (.bl i)) [] := s_c fun _ => .bl i
theorem s_non : Snd K cl W (RE K cl) (tC .non) (M.ret .non) [] := s_c fun _ => .non
theorem s_str {i : Str} : Snd K cl W (RE K cl) (tC (.str i)) (M.ret (.str i)) [] := s_c fun _ => .str i
/-! ### places -/
inductive PR where
  /-- an owned node below the root -/
  | pl (p : List Nat) (d : D)
  /-- a frozen value -/
  | vl (d : D)
def PR.tree : PR → D
  | .pl _ d => d
  | .vl d => d
def RP (K : PySem.W.Frag) (cl : Nat → Addr) (R : Nat) : Rel PR V := fun F H σ ρ r v A => (∀ a, ¬ A a) ∧ match r with
  | .vl d => Fz K cl F v d
  | .pl p d => ∃ vr dr, σ[R]? = some (some vr) ∧ ρ[R]? = some (some dr) ∧ Pth cl H vr dr p v d
/-- what is seen of a place: the node, its frozen children -/
def View (K : PySem.W.Frag) (cl : Nat → Addr) (F H : Hp) (v : V) (d : D) : Prop := Fz K cl F v d ∨ ∃ a k vs xs, v = .ref a ∧ d = .nd true k xs ∧ Ob cl H k a vs ∧ vs.length = xs.length ∧ ∀ (i : Nat) (u : V) (x : D), vs[i]? = some u → xs[i]? = some x → isF x = true → Fz K cl F u x
theorem Own.view (h : Own K cl F H v d A) : View K cl F H v d := by
  cases h with
  | fz h e => exact .inl h
  | @nd k a vs xs B _ h l c dj na lt hA => exact .inr ⟨a, k, vs, xs, rfl, rfl, h, l, fun i u x h1 h2 f => ((c i u x h1 h2).isF f).1⟩
theorem RP.view {R : Nat} {r : PR} (st : StOk K cl F H σ ρ As) (h : RP K cl R F H σ ρ r v A) : View K cl F H v r.tree := by
  cases r with
  | vl d => exact .inl h.2
  | pl p d =>
    obtain ⟨vr, dr, h1, h2, h3⟩ := h.2
    obtain ⟨vr', h1', o⟩ := st.sl R dr h2
    rw [h1] at h1'; cases h1'
    obtain ⟨A1, o1, _, _⟩ := o.focus h3
    exact o1.view
def mpVar (i : Nat) : M PR := fun ρ => match ρ[i]? with
  | some (some d) => some (.ok (if isF d = true then .vl d else .pl [] d), ρ)
  | _ => none
theorem sp_var {i : Nat} : Snd K cl W (RP K cl i) (tVar i) (mpVar i) [] := by
  intro σ H Q F ρ As r' ρ' st e hq hx
  unfold mpVar at e
  split at e
  · rename_i d ed
    cases e
    obtain ⟨v, hv, ho⟩ := st.sl i d ed
    refine ⟨v, hv, hq _ rfl v F H As (fun _ => False) ⟨st, ⟨fun _ z => z, ?_⟩, fun _ _ _ z => z, fun _ z => z.elim, Step.refl fun a q => q.elim id False.elim, Keeps.refl⟩⟩
    by_cases hf : isF d = true
    · rw [if_pos hf]
      exact (ho.isF hf).1
    · rw [if_neg hf]
      obtain ⟨a, k, xs, rfl, rfl, _⟩ := ho.root (by simpa using hf)
      exact ⟨_, _, hv, ed, .nil⟩
  · cases e
/-- a place that is carried through what leaves its root alone -/
theorem RP.carry {R : Nat} {r : PR} {F2 H2 : Hp} {ρ2 : Env} {As2 : Nat → Ads} {O2 : Ads} (st : StOk K cl F H σ ρ As) (h : RP K cl R F H σ ρ r v A) (s : Step F H (U As) F2 H2 O2) (k : Keeps ρ ρ2 As As2 H H2 T) (n : R ∉ T) : RP K cl R F2 H2 σ ρ2 r v A := by
  refine ⟨h.1, ?_⟩
  cases r with
  | vl d => exact h.2.same s.ff
  | pl p d =>
    obtain ⟨vr, dr, h1, h2, h3⟩ := h.2
    obtain ⟨vr', h1', o⟩ := st.sl R dr h2
    rw [h1] at h1'; cases h1'
    obtain ⟨e1, e2, e3⟩ := k.k R n
    exact ⟨vr, dr, h1, e1.trans h2, h3.mono (A := As R) (fun a o e q => e3 a o q e) o⟩
def mRd (m : M PR) : M D := m.bind fun r => match r with
  | .vl d => M.ret d
  | .pl _ _ => fun _ => none
theorem s_rd {R : Nat} {t : TE} {m : M PR} (h : Snd K cl W (RP K cl R) t m T) : Snd K cl W (RE K cl) t (mRd m) T := by
  intro σ H Q F ρ As r' ρ' st e hq hx
  refine h.thn st e (fun a ρ1 b F1 H1 As1 A1 x e1 => ?_) hx
  cases a with
  | pl p d => cases e1
  | vl d =>
    obtain ⟨rfl, rfl⟩ := M.ret_some e1
    exact hq d rfl b F1 H1 As1 A1 ⟨x.st, .fz x.rel.2 x.rel.1, x.ds, x.off, x.stp, x.kp⟩
/-- the tree at a slot changed -/
theorem StOk.slot {R : Nat} {vr : V} {dr dr' : D} {A' N : Ads} (st : StOk K cl F H σ ρ As) (h1 : σ[R]? = some (some vr)) (h2 : ρ[R]? = some (some dr)) (s : Same F F') (sub : Same F' H') (o : Own K cl F' H' vr dr' A') (hA : ∀ b, A' b → As R b ∨ N b) (hN : ∀ i b, As i b → ¬ N b)
    (kp : ∀ i b o, i ≠ R → As i b → H b = some o → H' b = some o) (of : ∀ i b, i ≠ R → As i b → F' b = none) (of' : ∀ b, A' b → F' b = none) : StOk K cl F' H' σ (ρ.set R (some dr')) (fun i => if i = R then A' else As i) := by
  have hR : R < ρ.length := (List.getElem?_eq_some_iff.mp h2).1
  refine ⟨by rw [List.length_set]; exact st.len, fun i d e => ?_, fun i b q => ?_, fun i j b q q' => ?_, sub, fun i b q => ?_⟩
  · by_cases hi : i = R
    · subst hi
      rw [List.getElem?_set_self hR] at e
      cases e
      exact ⟨vr, h1, by rw [if_pos rfl]; exact o⟩
    · rw [List.getElem?_set_ne (Ne.symm hi)] at e
      obtain ⟨v, e1, e2⟩ := st.sl i d e
      exact ⟨v, e1, by rw [if_neg hi]; exact e2.frame s fun a o q e => kp i a o hi q e⟩
  · by_cases hi : i = R
    · subst hi
      exact ⟨dr', by rw [List.getElem?_set_self hR]⟩
    · rw [if_neg hi] at q
      rw [List.getElem?_set_ne (Ne.symm hi)]
      exact st.em i b q
  · by_cases hi : i = R <;> by_cases hj : j = R
    · rw [hi, hj]
    · rw [if_pos hi] at q
      rw [if_neg hj] at q'
      rcases hA b q with z | z
      · exact (hj (st.dj _ _ b q' z)).elim
      · exact (hN j b q' z).elim
    · rw [if_neg hi] at q
      rw [if_pos hj] at q'
      rcases hA b q' with z | z
      · exact (hi (st.dj _ _ b q z)).elim
      · exact (hN i b q z).elim
    · rw [if_neg hi] at q
      rw [if_neg hj] at q'
      exact st.dj i j b q q'
  · by_cases hi : i = R
    · rw [if_pos hi] at q
      exact of' b q
    · rw [if_neg hi] at q
      exact of i b hi q
def mRdF (R : Nat) (m : M PR) : M D := m.bind fun r => match r with
  | .vl d => M.ret d
  | .pl p d => fun ρ => match ρ[R]? with
    | some (some dr) => some (.ok (frz d), ρ.set R (some (putD p (frz d) dr)))
    | _ => none
theorem s_rdF {R : Nat} {t : TE} {m : M PR} (h : Snd K cl W (RP K cl R) t m T) : Snd K cl W (RE K cl) t (mRdF R m) (R :: T) := by
  intro σ H Q F ρ As r' ρ' st e hq hx
  refine h.thn st e (fun a ρ1 b F1 H1 As1 A1 x e1 => ?_) hx
  cases a with
  | vl d =>
    obtain ⟨rfl, rfl⟩ := M.ret_some e1
    exact hq d rfl b F1 H1 As1 A1 ⟨x.st, .fz x.rel.2 x.rel.1, x.ds, x.off, x.stp, x.kp.trans Keeps.refl (T' := []) fun j hj => ⟨fun z => hj (List.mem_cons_of_mem _ z), by simp⟩⟩
  | pl p d =>
    obtain ⟨nA, vr, dr, h1, h2, h3⟩ := x.rel
    have e1 : (match ρ1[R]? with | some (some dr) => some (Rs.ok (frz d), ρ1.set R (some (putD p (frz d) dr))) | _ => none) = some (r', ρ') := e1
    rw [h2] at e1
    cases e1
    obtain ⟨vr', h1', o⟩ := x.st.sl R dr h2
    rw [h1] at h1'; cases h1'
    obtain ⟨B, ob, sub, rep⟩ := o.focus h3
    have hof : ∀ c, B c → F1 c = none := fun c q => x.st.off R c (sub c q)
    have s1 : Same F1 (glue F1 H1 B) := glue_same hof
    have fz : Fz K cl (glue F1 H1 B) b (frz d) := ob.ice hof fun _ q => q
    have R1 := rep (glue F1 H1 B) H1 (frz d) (fun _ => False) s1 (.fz fz fun _ z => z) (fun _ _ _ _ e => e) fun _ z => z.elim
    have st2 := x.st.slot (N := fun _ => False) h1 h2 s1 (glue_sub x.st.sub) R1 (fun b q => .inl (q.elim (fun q => q.1) False.elim)) (fun _ _ _ z => z) (fun _ _ _ _ _ e => e)
      (fun i b hi q => by rw [glue_out fun z => hi (x.st.dj i R b q (sub b z))]; exact x.st.off i b q) (fun b q => by rw [glue_out (q.elim (fun q => q.2) False.elim)]; exact x.st.off R b (q.elim (fun q => q.1) False.elim))
    refine hq _ rfl b (glue F1 H1 B) H1 _ (fun _ => False) ⟨st2, .fz fz fun _ z => z, fun _ _ _ z => z, fun _ z => z.elim, x.stp.trans (O1' := U As1) (O2 := fun c => U (fun i => if i = R then fun b => (As1 R b ∧ ¬B b) ∨ False else As1 i) c ∨ False) ⟨s1, fun _ _ e _ => e, fun a q => .inl ?_, fun a o q => ?_⟩ (fun _ q => .inl (.inl q)) fun _ q => .inl q, ⟨fun j hj => ?_⟩⟩
    · rcases q with ⟨i, q⟩ | q
      · by_cases hi : i = R
        · rw [if_pos hi] at q
          exact ⟨R, q.elim (fun q => q.1) False.elim⟩
        · rw [if_neg hi] at q
          exact ⟨i, q⟩
      · exact q.elim
    · by_cases hb : B a
      · exact .inr (.inl ⟨R, sub a hb⟩)
      · rw [glue_out hb] at q
        exact .inl q
    · have hj' : j ≠ R ∧ j ∉ T := by simpa [not_or] using hj
      obtain ⟨e1, e2, e3⟩ := x.kp.k j hj'.2
      refine ⟨by rw [List.getElem?_set_ne (Ne.symm hj'.1)]; exact e1, fun b => ?_, e3⟩
      rw [if_neg hj'.1]
      exact e2 b
end
end Pv

/-! Pv4 -/
set_option Elab.async false
set_option linter.all false
set_option maxRecDepth 100000
set_option maxHeartbeats 1000000
namespace Pv
open PySem L2
/-- an argument: a value of its own, or the thing that a slot holds -/
inductive Arg where
  | tmp (d : D) | sl (i : Nat)
section
variable (K : PySem.W.Frag) (cl : Nat → Addr) (F H : Hp) (σ : L2.St) (S : List Nat)
inductive ArgsOk : List Arg → List V → Ads → Prop where
  | nil {A : Ads} (h : ∀ a, ¬ A a) : ArgsOk [] [] A
  | tmp {d : D} {v : V} {as : List Arg} {vs : List V} {A A1 A2 : Ads} (h : Own K cl F H v d A1) (t : ArgsOk as vs A2) (n : ∀ a, A1 a → ¬ A2 a) (e : ∀ a, A a ↔ A1 a ∨ A2 a) : ArgsOk (.tmp d :: as) (v :: vs) A
  | sl {i : Nat} {v : V} {as : List Arg} {vs : List V} {A : Ads} (h : σ[i]? = some (some v)) (m : i ∈ S) (t : ArgsOk as vs A) : ArgsOk (.sl i :: as) (v :: vs) A
end
def RA (K : PySem.W.Frag) (cl : Nat → Addr) (S : List Nat) : Rel (List Arg) (List V) := fun F H σ _ as vs A => ArgsOk K cl F H σ S as vs A
def tmps : List Arg → Option (List D)
  | [] => some []
  | .tmp d :: as => (tmps as).map (d :: ·)
  | .sl _ :: _ => none
section
variable {K : PySem.W.Frag} {cl : Nat → Addr} {W : WX} {F F' H H' F1 H1 : Hp} {σ : L2.St} {ρ ρ' ρ1 : Env} {As As' As1 : Nat → Ads} {T T1 T2 S S1 S2 : List Nat} {A A1 : Ads} {v : V} {d : D}
theorem ArgsOk.mono {as : List Arg} {vs : List V} (h : ArgsOk K cl F H σ S as vs A) (s : ∀ i ∈ S, i ∈ S1) : ArgsOk K cl F H σ S1 as vs A := by
  induction h with
  | nil h => exact .nil h
  | tmp h t n e ih => exact .tmp h ih n e
  | sl h m t ih => exact .sl h (s _ m) ih
theorem ArgsOk.len {as : List Arg} {vs : List V} (h : ArgsOk K cl F H σ S as vs A) : as.length = vs.length := by
  induction h with
  | nil h => rfl
  | tmp h t n e ih => simp [ih]
  | sl h m t ih => simp [ih]
theorem ArgsOk.ice {as : List Arg} {vs : List V} {ds : List D} (h : ArgsOk K cl F H σ S as vs A) (e : tmps as = some ds) (s : Same F F1) (k : ∀ a o, A a → H a = some o → F1 a = some o) : FzL K cl F1 vs (ds.map frz) := by
  induction h generalizing ds with
  | nil h => cases e; exact .nil
  | @tmp d v as vs A A1 A2 h t n e' ih =>
    unfold tmps at e
    cases q : tmps as with
    | none => rw [q] at e; cases e
    | some ds' =>
      rw [q] at e
      cases e
      exact .cons (h.freeze s fun a o z r => k a o ((e' a).mpr (.inl z)) r) (ih q fun a o z r => k a o ((e' a).mpr (.inr z)) r)
  | sl h m t ih => cases e
def mNil : M (List Arg) := M.ret []
def mCons (ma : M D) (mr : M (List Arg)) : M (List Arg) := ma.bind fun a => mr.bind fun as => M.ret (.tmp a :: as)
def mConsS (i : Nat) (mr : M (List Arg)) : M (List Arg) := fun ρ => match ρ[i]? with
  | some (some _) => (mr.bind fun as => M.ret (.sl i :: as)) ρ
  | _ => none
theorem s_nil : Snd K cl W (RA K cl []) tNil mNil [] := by
  intro σ H Q F ρ As r' ρ' st e hq hx
  obtain ⟨rfl, rfl⟩ := M.ret_some e
  exact hq [] rfl [] F H As (fun _ => False) ⟨st, .nil fun _ z => z, fun _ _ _ z => z, fun _ z => z.elim, Step.refl fun a q => q.elim id False.elim, Keeps.refl⟩
theorem s_cons {ta : TE} {tr : TA} {ma : M D} {mr : M (List Arg)} (ha : Snd K cl W (RE K cl) ta ma T1) (hr : Snd K cl W (RA K cl S) tr mr T2) : Snd K cl W (RA K cl S) (tCons ta tr) (mCons ma mr) (T1 ++ T2) := by
  intro σ H Q F ρ As r' ρ' st e hq hx
  refine ha.thn st e (fun a ρ1 x F1 H1 As1 A1 u e1 => ?_) hx
  refine hr.thn u.st e1 (fun as ρ2 ys F2 H2 As2 A2 w e2 => ?_) fun c hc F' H' As' z => hx c hc F' H' As' (AftX.after u z)
  obtain ⟨rfl, rfl⟩ := M.ret_some e2
  obtain ⟨tm, nO⟩ := u.carry w.stp
  refine hq _ rfl _ F2 H2 As2 (fun c => A1 c ∨ A2 c) ⟨w.st, .tmp tm.own w.rel (fun a q z => nO a q (.inr z)) fun _ => .rfl, fun i c q z => z.elim (fun z => nO c z (.inl ⟨i, q⟩)) fun z => w.ds i c q z, fun c q => q.elim (tm.off c) (w.off c),
    u.stp.trans w.stp (fun _ q => .inl (.inl q)) fun c q => q.elim (fun q => .inl (.inl q)) fun q => q.elim (fun q => .inr (.inr q)) fun q => .inl (.inr q), u.kp.trans w.kp fun j hj => by simpa [not_or] using hj⟩
theorem s_consS {i : Nat} {tr : TA} {mr : M (List Arg)} (hr : Snd K cl W (RA K cl S) tr mr T) : Snd K cl W (RA K cl (i :: S)) (tCons (tVar i) tr) (mConsS i mr) T := by
  intro σ H Q F ρ As r' ρ' st e hq hx
  unfold mConsS at e
  split at e
  · rename_i d ed
    obtain ⟨v, hv, ho⟩ := st.sl i d ed
    refine ⟨v, hv, ?_⟩
    refine hr.thn st e (fun as ρ2 ys F2 H2 As2 A2 w e2 => ?_) hx
    obtain ⟨rfl, rfl⟩ := M.ret_some e2
    exact hq _ rfl _ F2 H2 As2 A2 ⟨w.st, .sl hv List.mem_cons_self (w.rel.mono fun _ z => List.mem_cons_of_mem _ z), w.ds, w.off, w.stp, w.kp⟩
  · cases e

/-! ### new objects -/
theorem new_ro (s : Same F H) {p : Addr} {o : HO} (hp : H p = none) {d : D} (hf : Fz K cl (upd F p o) (.ref p) d) : New K cl F H (.ref p) d (upd F p o) (upd H p o) (fun _ => False) := by
  have hF : F p = none := s.free hp
  refine ⟨fun a u q => ?_, .fz hf fun _ z => z, fun _ z => z.elim, fun a u q => ?_, fun a u q _ => ?_, fun _ z => z.elim, fun a u q => ?_⟩
  · by_cases h : a = p
    · subst h; rw [upd_same] at q ⊢; exact q
    · rw [upd_ne h] at q ⊢; exact s a u q
  · rw [upd_ne (ne_of_none q hF)]; exact q
  · rw [upd_ne (ne_of_none q hp)]; exact q
  · by_cases h : a = p
    · subst h; exact .inr (.inr hp)
    · rw [upd_ne h] at q; exact .inl q
theorem FzL.len {vs : List V} {ds : List D} (h : FzL K cl F vs ds) : vs.length = ds.length := by
  induction h with
  | nil => rfl
  | cons h t ih => simp [ih]
theorem FzL.get {vs : List V} {ds : List D} (h : FzL K cl F vs ds) : ∀ (i : Nat) (v : V) (d : D), vs[i]? = some v → ds[i]? = some d → Fz K cl F v d := by
  induction h with
  | nil => intro i v d e; simp at e
  | cons h t ih =>
    intro i v d e e'
    cases i with
    | zero => cases e; cases e'; exact h
    | succ i => exact ih i v d (by simpa using e) (by simpa using e')
theorem FzL.same {vs : List V} {ds : List D} (h : FzL K cl F vs ds) (s : Same F F1) : FzL K cl F1 vs ds := by
  induction h with
  | nil => exact .nil
  | cons h t ih => exact .cons (h.same s) ih
theorem FzL.of {vs : List V} : ∀ {ds : List D}, vs.length = ds.length → (∀ (i : Nat) (v : V) (d : D), vs[i]? = some v → ds[i]? = some d → Fz K cl F v d) → FzL K cl F vs ds := by
  induction vs with
  | nil => intro ds l h; cases ds with | nil => exact .nil | cons => cases l
  | cons v vs ih => intro ds l h; cases ds with
    | nil => cases l
    | cons d ds => exact .cons (h 0 v d rfl rfl) (ih (by simpa using l) fun i w e q r => h (i + 1) w e (by simpa using q) (by simpa using r))
theorem Fz.kids {v : V} {k : Kd} {xs : List D} (h : Fz K cl F v (.nd false k xs)) : ∃ a vs, v = .ref a ∧ At K cl F k a vs ∧ FzL K cl F vs xs := by
  cases h with
  | nd h l c => exact ⟨_, _, rfl, h, .of l c⟩
/-- a new tuple of frozen things -/
theorem new_tup (s : Same F H) {p : Addr} {vs : List V} {ds : List D} (hp : H p = none) (h : FzL K cl F vs ds) : New K cl F H (.ref p) (.tup ds) (upd F p (.tup vs)) (upd H p (.tup vs)) (fun _ => False) :=
  new_ro s hp (.nd (k := .tup) (show upd F p (.tup vs) p = _ from upd_same) h.len (h.same fun a u q => by rw [upd_ne (ne_of_none q (s.free hp))]; exact q).get)
/-- a new list of frozen things -/
theorem new_lst (s : Same F H) {p : Addr} {vs : List V} {ds : List D} (hp : H p = none) (h : FzL K cl F vs ds) : New K cl F H (.ref p) (.own ds) F (upd H p (.lst vs)) (fun a => a = p) := by
  have hF : F p = none := s.free hp
  have kp : ∀ a u, H a = some u → upd H p (.lst vs) a = some u := fun a u q => by rw [upd_ne (ne_of_none q hp)]; exact q
  refine ⟨fun a u q => kp a u (s a u q), .nd (k := .lst) (B := fun _ _ => False) (show upd H p (.lst vs) p = _ from upd_same) h.len (fun i v x q r => .fz (h.get i v x q r) fun _ z => z) (fun _ _ _ z => z.elim) (fun _ z => z) (fun _ _ z => z.elim) (fun b => ⟨.inl, fun z => z.elim id fun ⟨_, z⟩ => z.elim⟩), fun b e => by rw [e]; exact hF, fun _ _ q => q, fun a u q _ => kp a u q, fun a e => .inr (by rw [e]; exact hp), fun _ _ q => .inl q⟩

/-! ### displays -/
def mTup (ma : M (List Arg)) : M D := ma.bind fun as => M.lift ((tmps as).bind fun ds => if ds.length ≤ 16777216 then some (.tup (ds.map frz)) else none)
theorem s_argsFz {t : TA} {ma : M (List Arg)} {f : List D → Option D} {g : List V → Hp → VK → Prop} (ha : Snd K cl W (RA K cl S) t ma T)
    (hf : PrN K cl g f) : Snd K cl W (RE K cl) (fun σ H Q => t σ H fun xs H1 => g xs H1 Q) (ma.bind fun as => M.lift ((tmps as).bind fun ds => f (ds.map frz))) T := by
  intro σ H Q F ρ As r' ρ' st e hq hx
  refine ha.thn st e (fun as ρ1 vs F1 H1 As1 A1 x e1 => ?_) hx
  obtain ⟨d, ed, rfl, rfl⟩ := M.lift_some e1
  cases q : tmps as with
  | none => rw [q] at ed; cases ed
  | some ds =>
    rw [q] at ed
    obtain ⟨st2, s2, p2⟩ := x.st.ice x.ds x.off
    refine hf (glue F1 H1 A1) H1 vs (ds.map frz) d Q st2.sub (x.rel.ice q s2 fun a o z e => by rw [glue_in z]; exact e) ed fun v F2 H2 A2 n => ?_
    obtain ⟨st3, d3, p3, k3⟩ := st2.new (T := T) n
    exact hq d rfl v F2 H2 As1 A2 ⟨st3, n.own, d3, n.off, (x.stp.trans (p2.trans p3 (fun _ q => .inl q) fun _ q => .inl q) (fun _ q => .inl q) fun _ q => .inl q),
      x.kp.trans k3 fun j hj => ⟨hj, hj⟩⟩
theorem s_tup {t : TA} {ma : M (List Arg)} (ha : Snd K cl W (RA K cl S) t ma T) : Snd K cl W (RE K cl) (tTup t) (mTup ma) T := by
  have h := s_argsFz (g := fun xs H1 Q => xs.length ≤ sizeLine ∧ ∀ p, H1 p = none → Q (.ref p) (upd H1 p (.tup xs))) (f := fun ds => if ds.length ≤ 16777216 then some (.tup ds) else none) ha
    (fun F H xs ds d Q s h e k => by
      dsimp only at e
      split at e
      · rename_i hl
        cases e
        refine ⟨by rw [sizeLine_eq, h.len]; exact hl, fun p hp => k _ _ _ _ (new_tup s hp h)⟩
      · cases e)
  have e : mTup ma = (ma.bind fun as => M.lift ((tmps as).bind fun ds => (fun ds : List D => if ds.length ≤ 16777216 then some (D.tup ds) else none) (ds.map frz))) := by
    unfold mTup; simp only [List.length_map]
  rw [e]
  exact h
/-- a call of what is built in, by frozen values -/
def mCB (f : List D → Option D) (ma : M (List Arg)) : M D := ma.bind fun as => M.lift ((tmps as).bind fun ds => f (ds.map frz))
theorem s_cb {t : TA} {ma : M (List Arg)} {f : List D → Option D} {r : List V → Hp → VK → Prop} (hf : PrN K cl r f) (ha : Snd K cl W (RA K cl S) t ma T) : Snd K cl W (RE K cl) (tCB r t) (mCB f ma) T := s_argsFz ha hf

/-- a list of what the arguments are -/
theorem ArgsOk.owns {as : List Arg} {vs : List V} {ds : List D} (h : ArgsOk K cl F H σ S as vs A) (e : tmps as = some ds) : vs.length = ds.length ∧ ∃ B : Nat → Ads,
    (∀ (i : Nat) (v : V) (x : D), vs[i]? = some v → ds[i]? = some x → Own K cl F H v x (B i)) ∧ (∀ (i j : Nat) (b : Addr), B i b → B j b → i = j) ∧ (∀ (i : Nat) (b : Addr), B i b → i < ds.length) ∧ ∀ b, A b ↔ ∃ i, B i b := by
  induction h generalizing ds with
  | nil h => cases e; exact ⟨rfl, fun _ _ => False, fun i v x q => by simp at q, fun _ _ _ z => z.elim, fun _ _ z => z.elim, fun b => ⟨fun z => (h b z).elim, fun ⟨_, z⟩ => z.elim⟩⟩
  | @tmp d v as vs A A1 A2 h t n e' ih =>
    unfold tmps at e
    cases q : tmps as with
    | none => rw [q] at e; cases e
    | some ds' =>
      rw [q] at e
      cases e
      obtain ⟨l, B, o, dj, lt, eq⟩ := ih q
      refine ⟨by simp [l], fun i => match i with | 0 => A1 | i + 1 => B i, fun i w x hw hx => ?_, fun i j b hi hj => ?_, fun i b hb => ?_, fun b => ?_⟩
      · cases i with
        | zero => cases hw; cases hx; exact h
        | succ i => exact o i w x (by simpa using hw) (by simpa using hx)
      · cases i with
        | zero => cases j with
          | zero => rfl
          | succ j => exact (n b hi ((eq b).mpr ⟨j, hj⟩)).elim
        | succ i => cases j with
          | zero => exact (n b hj ((eq b).mpr ⟨i, hi⟩)).elim
          | succ j => rw [dj i j b hi hj]
      · cases i with
        | zero => simp
        | succ i => simpa using lt i b hb
      · rw [e']
        constructor
        · rintro (z | z)
          · exact ⟨0, z⟩
          · obtain ⟨i, z⟩ := (eq b).mp z
            exact ⟨i + 1, z⟩
        · rintro ⟨i, z⟩
          cases i with
          | zero => exact .inl z
          | succ i => exact .inr ((eq b).mpr ⟨i, z⟩)
  | sl h m t ih => cases e
def mLst (ma : M (List Arg)) : M D := ma.bind fun as => M.lift ((tmps as).bind fun ds => if ds.length ≤ 16777216 then some (.own ds) else none)
theorem s_lst {t : TA} {ma : M (List Arg)} (ha : Snd K cl W (RA K cl S) t ma T) : Snd K cl W (RE K cl) (tLst t) (mLst ma) T := by
  intro σ H Q F ρ As r' ρ' st e hq hx
  refine ha.thn st e (fun as ρ1 vs F1 H1 As1 A1 x e1 => ?_) hx
  obtain ⟨d, ed, rfl, rfl⟩ := M.lift_some e1
  cases q : tmps as with
  | none => rw [q] at ed; cases ed
  | some ds =>
    rw [q] at ed
    have ed : (if ds.length ≤ 16777216 then some (D.own ds) else none) = some d := ed
    split at ed
    · rename_i hl
      cases ed
      obtain ⟨l, B, o, dj, lt, eq⟩ := x.rel.owns q
      refine ⟨by rw [sizeLine_eq, l]; exact hl, fun p hp => ?_⟩
      have hF : F1 p = none := x.st.sub.free hp
      have kp : ∀ a u, H1 a = some u → upd H1 p (.lst vs) a = some u := fun a u q => by rw [upd_ne (ne_of_none q hp)]; exact q
      have there : ∀ i b, As1 i b → ∃ o, H1 b = some o := fun i b q => let ⟨d, e⟩ := x.st.em i b q; let ⟨v, _, h⟩ := x.st.sl i d e; h.there b q
      have thereA : ∀ b, A1 b → ∃ o, H1 b = some o := fun b q => by
        obtain ⟨i, z⟩ := (eq b).mp q
        have hi := lt i b z
        exact (o i (vs[i]'(by omega)) ds[i] (by simp [show i < vs.length by omega]) (by simp [hi])).there b z
      refine hq _ rfl (.ref p) F1 _ As1 (fun b => b = p ∨ A1 b) ⟨⟨x.st.len, fun i d e => let ⟨v, h1, h2⟩ := x.st.sl i d e; ⟨v, h1, h2.frame (fun _ _ q => q) fun a u _ q => kp a u q⟩, x.st.em, x.st.dj, fun a u q => kp a u (x.st.sub a u q), x.st.off⟩, ?_, fun i c q z => ?_, fun c z => ?_, ?_, x.kp.trans (T' := T) ⟨fun j _ => ⟨rfl, fun _ => .rfl, fun b o _ e => kp b o e⟩⟩ fun j hj => ⟨hj, hj⟩⟩
      · refine .nd (k := .lst) (B := B) (show upd H1 p (.lst vs) p = _ from upd_same) l (fun i v y h1 h2 => (o i v y h1 h2).frame (fun _ _ q => q) fun a u _ q => kp a u q) dj (fun i z => ?_) lt fun b => by rw [eq b]
        obtain ⟨u, hu⟩ := thereA p ((eq p).mpr ⟨i, z⟩)
        rw [hp] at hu; cases hu
      · rcases z with rfl | z
        · obtain ⟨u, hu⟩ := there i c q
          rw [hp] at hu; cases hu
        · exact x.ds i c q z
      · rcases z with rfl | z
        · exact hF
        · exact x.off c z
      · refine x.stp.trans (O1' := fun _ => False) (O2 := fun b => b = p) ⟨fun _ _ q => q, fun a u q _ => kp a u q, fun a e => .inr (by rw [e]; exact hp), fun _ _ q => .inl q⟩ (fun _ z => z.elim) fun c z => ?_
        rcases z with z | z | z
        · exact .inr (.inl z)
        · exact .inl z
        · exact .inr (.inr z)
    · cases ed
end
end Pv

/-! Pv5 -/
set_option Elab.async false
set_option linter.all false
set_option maxRecDepth 100000
set_option maxHeartbeats 1000000
namespace Pv
open PySem L2
abbrev Fn := List D → Option (Rs D × List (Option D))
section
variable (K : PySem.W.Frag) (cl : Nat → Addr)
structure RetOk (fx : List Bool) (vs : List V) (outs : List (Option D)) (F H : Hp) (O : Ads) (F' H' : Hp) (Bs : Nat → Ads) (A : Ads) : Prop where
  sub : Same F' H'
  out : ∀ (k : Nat) (v : V) (d : D), fx[k]? = some true → vs[k]? = some v → outs[k]? = some (some d) → Own K cl F' H' v d (Bs k)
  em : ∀ (k : Nat) (b : Addr), Bs k b → fx[k]? = some true ∧ ∃ d, outs[k]? = some (some d)
  dj : ∀ (i j : Nat) (b : Addr), Bs i b → Bs j b → i = j
  ds : ∀ (k : Nat) (b : Addr), Bs k b → ¬ A b
  off : ∀ (k : Nat) (b : Addr), Bs k b → F' b = none
  offA : ∀ b, A b → F' b = none
  stp : Step F H O F' H' (fun b => U Bs b ∨ A b)
/-- the promise of a def that does what fn says -/
def spP (np : Nat) (fx : List Bool) (fn : Fn) : Sp := fun vs H Q E => vs.length = np ∧ ∃ (F : Hp) (ds : List D) (Bs : Nat → Ads) (r : Rs D) (outs : List (Option D)), Same F H ∧ vs.length = ds.length ∧
  (∀ (k : Nat) (v : V) (d : D), vs[k]? = some v → ds[k]? = some d → Own K cl F H v d (Bs k)) ∧ (∀ (i j : Nat) (b : Addr), Bs i b → Bs j b → i = j) ∧ (∀ (k : Nat) (b : Addr), Bs k b → k < ds.length) ∧ (∀ (k : Nat) (b : Addr), Bs k b → F b = none) ∧ fn ds = some (r, outs) ∧
  (∀ d, r = .ok d → ∀ v F' H' Bs' A, Own K cl F' H' v d A → RetOk K cl fx vs outs F H (U Bs) F' H' Bs' A → Q v H') ∧
  (∀ c, r = .ex c → ∀ F' H' Bs', RetOk K cl fx vs outs F H (U Bs) F' H' Bs' (fun _ => False) → E (.ref (cl c)) none H')
end
def takeA : List Arg → Env → Option (List D × Env)
  | [], ρ => some ([], ρ)
  | .tmp d :: as, ρ => match takeA as ρ with
    | some (ds, ρ1) => some (d :: ds, ρ1)
    | none => none
  | .sl i :: as, ρ => match ρ[i]? with
    | some (some d) => (match takeA as (if isF d = true then ρ else ρ.set i none) with
      | some (ds, ρ1) => some (d :: ds, ρ1)
      | none => none)
    | _ => none
def putA : List Arg → List Bool → List (Option D) → Env → Env
  | .sl i :: as, b :: bs, o :: os, ρ => putA as bs os (match ρ[i]? with
    | some none => ρ.set i (if b = true then o else none)
    | _ => ρ)
  | .tmp _ :: as, _ :: bs, _ :: os, ρ => putA as bs os ρ
  | _, _, _, ρ => ρ
def mCall (fx : List Bool) (fn : Fn) (ma : M (List Arg)) : M D := ma.bind fun as => fun ρ => match takeA as ρ with
  | some (ds, ρ1) => (match fn ds with
    | some (r, outs) => some (r, putA as fx outs ρ1)
    | none => none)
  | none => none
section
variable {K : PySem.W.Frag} {cl : Nat → Addr} {W : WX} {F F' H H' F1 H1 : Hp} {σ σ' : L2.St} {ρ ρ' ρ1 : Env} {As As' As1 : Nat → Ads} {T T1 T2 S S1 S2 : List Nat} {A A1 O O' : Ads} {v : V} {d : D}
theorem StOk.there (st : StOk K cl F H σ ρ As) : ∀ i b, As i b → ∃ o, H b = some o := fun i b q => let ⟨d, e⟩ := st.em i b q; let ⟨v, _, h⟩ := st.sl i d e; h.there b q
theorem StOk.carry (st : StOk K cl F H σ ρ As) (s : Step F H O F' H' O') (n : ∀ i c, As i c → ¬ O c) (sub : Same F' H') : StOk K cl F' H' σ ρ As ∧ ∀ i c, As i c → ¬ O' c := by
  have kp : ∀ i b o, As i b → H b = some o → H' b = some o := fun i b o q e => s.keep b o e (n i b q)
  refine ⟨⟨st.len, fun i d e => let ⟨v, h1, h2⟩ := st.sl i d e; ⟨v, h1, h2.frame s.ff fun a o q e => kp i a o q e⟩, st.em, st.dj, sub, fun i b q => ?_⟩, fun i c q z => ?_⟩
  · cases e : F' b with
    | none => rfl
    | some o =>
      obtain ⟨o', e'⟩ := st.there i b q
      rcases s.fro b o e with z | z | z
      · rw [st.off i b q] at z; cases z
      · exact (n i b q z).elim
      · rw [e'] at z; cases z
  · obtain ⟨o', e'⟩ := st.there i c q
    rcases s.own c z with z | z
    · exact n i c q z
    · rw [e'] at z; cases z
/-- a slot emptied -/
theorem StOk.drop (st : StOk K cl F H σ ρ As) (i : Nat) : StOk K cl F H σ (ρ.set i none) (fun j => if j = i then fun _ => False else As j) := by
  refine ⟨by rw [List.length_set]; exact st.len, fun j d e => ?_, fun j b q => ?_, fun j k b q q' => ?_, st.sub, fun j b q => ?_⟩
  · by_cases hj : j = i
    · subst hj
      by_cases hl : j < ρ.length
      · rw [List.getElem?_set_self hl] at e; cases e
      · rw [List.getElem?_eq_none (by simpa using hl)] at e; cases e
    · rw [List.getElem?_set_ne (Ne.symm hj)] at e
      rw [if_neg hj]
      exact st.sl j d e
  · by_cases hj : j = i
    · rw [if_pos hj] at q; exact q.elim
    · rw [if_neg hj] at q
      rw [List.getElem?_set_ne (Ne.symm hj)]
      exact st.em j b q
  · by_cases hj : j = i
    · rw [if_pos hj] at q; exact q.elim
    · by_cases hk : k = i
      · rw [if_pos hk] at q'; exact q'.elim
      · rw [if_neg hj] at q; rw [if_neg hk] at q'; exact st.dj j k b q q'
  · by_cases hj : j = i
    · rw [if_pos hj] at q; exact q.elim
    · rw [if_neg hj] at q; exact st.off j b q
/-- an empty slot filled -/
theorem StOk.fill (st : StOk K cl F H σ ρ As) {i : Nat} (h1 : σ[i]? = some (some v)) (h2 : i < ρ.length) (o : Own K cl F H v d A) (hd : ∀ j b, j ≠ i → As j b → ¬ A b) (of : ∀ b, A b → F b = none) : StOk K cl F H σ (ρ.set i (some d)) (fun j => if j = i then A else As j) := by
  refine ⟨by rw [List.length_set]; exact st.len, fun j d e => ?_, fun j b q => ?_, fun j k b q q' => ?_, st.sub, fun j b q => ?_⟩
  · by_cases hj : j = i
    · subst hj
      rw [List.getElem?_set_self h2] at e
      cases e
      exact ⟨v, h1, by rw [if_pos rfl]; exact o⟩
    · rw [List.getElem?_set_ne (Ne.symm hj)] at e
      rw [if_neg hj]
      exact st.sl j d e
  · by_cases hj : j = i
    · subst hj
      exact ⟨d, by rw [List.getElem?_set_self h2]⟩
    · rw [if_neg hj] at q
      rw [List.getElem?_set_ne (Ne.symm hj)]
      exact st.em j b q
  · by_cases hj : j = i <;> by_cases hk : k = i
    · rw [hj, hk]
    · rw [if_pos hj] at q; rw [if_neg hk] at q'; exact (hd k b hk q' q).elim
    · rw [if_neg hj] at q; rw [if_pos hk] at q'; exact (hd j b hj q q').elim
    · rw [if_neg hj] at q; rw [if_neg hk] at q'; exact st.dj j k b q q'
  · by_cases hj : j = i
    · rw [if_pos hj] at q; exact of b q
    · rw [if_neg hj] at q; exact st.off j b q
/-- the arguments taken out of the state -/
theorem take_ok {as : List Arg} {vs : List V} (h : ArgsOk K cl F H σ S as vs A) : ∀ {ρ : Env} {As : Nat → Ads} {ds : List D} {ρ1 : Env}, StOk K cl F H σ ρ As → (∀ i c, As i c → ¬ A c) → (∀ c, A c → F c = none) → takeA as ρ = some (ds, ρ1) →
    vs.length = ds.length ∧ ∃ Bs As1 : Nat → Ads, (∀ (k : Nat) (v : V) (d : D), vs[k]? = some v → ds[k]? = some d → Own K cl F H v d (Bs k)) ∧ (∀ (i j : Nat) (b : Addr), Bs i b → Bs j b → i = j) ∧ (∀ (k : Nat) (b : Addr), Bs k b → k < ds.length) ∧ StOk K cl F H σ ρ1 As1 ∧
      (∀ i c, As1 i c → As i c) ∧ (∀ k c, Bs k c → U As c ∨ A c) ∧ (∀ k i c, Bs k c → ¬ As1 i c) ∧ (∀ k c, Bs k c → F c = none) ∧ ∀ j, j ∉ S → ρ1[j]? = ρ[j]? ∧ ∀ b, As1 j b ↔ As j b := by
  induction h with
  | nil h =>
    intro ρ As ds ρ1 st hd ho e
    cases e
    exact ⟨rfl, fun _ _ => False, As, fun k v d q => by simp at q, fun _ _ _ z => z.elim, fun _ _ z => z.elim, st, fun _ _ q => q, fun _ _ z => z.elim, fun _ _ _ z => z.elim, fun _ _ z => z.elim, fun _ _ => ⟨rfl, fun _ => .rfl⟩⟩
  | @tmp d v as vs A A1 A2 h t n e' ih =>
    intro ρ As ds ρ1 st hd ho e
    unfold takeA at e
    cases q : takeA as ρ with
    | none => rw [q] at e; cases e
    | some p =>
      obtain ⟨ds', ρ2⟩ := p
      rw [q] at e
      cases e
      obtain ⟨l, Bs, As1, o, dj, lt, st1, s1, s2, s3, s4, s5⟩ := ih st (fun i c q z => hd i c q ((e' c).mpr (.inr z))) (fun c q => ho c ((e' c).mpr (.inr q))) q
      refine ⟨by simp [l], fun k => match k with | 0 => A1 | k + 1 => Bs k, As1, fun k w x hw hx => ?_, fun i j b hi hj => ?_, fun k b hb => ?_, st1, s1, fun k c hb => ?_, fun k i c hb => ?_, fun k c hb => ?_, s5⟩
      · cases k with
        | zero => cases hw; cases hx; exact h
        | succ k => exact o k w x (by simpa using hw) (by simpa using hx)
      · have key : ∀ k b, A1 b → ¬ Bs k b := fun k b q z => by
          rcases s2 k b z with ⟨i, z⟩ | z
          · exact hd i b z ((e' b).mpr (.inl q))
          · exact n b q z
        cases i with
        | zero => cases j with
          | zero => rfl
          | succ j => exact (key j b hi hj).elim
        | succ i => cases j with
          | zero => exact (key i b hj hi).elim
          | succ j => rw [dj i j b hi hj]
      · cases k with
        | zero => simp
        | succ k => simpa using lt k b hb
      · cases k with
        | zero => exact .inr ((e' c).mpr (.inl hb))
        | succ k => exact (s2 k c hb).imp id fun z => (e' c).mpr (.inr z)
      · cases k with
        | zero => exact fun z => hd i c (s1 i c z) ((e' c).mpr (.inl hb))
        | succ k => exact s3 k i c hb
      · cases k with
        | zero => exact ho c ((e' c).mpr (.inl hb))
        | succ k => exact s4 k c hb
  | @sl i v as vs A h m t ih =>
    intro ρ As ds ρ1 st hd ho e
    unfold takeA at e
    cases ed : ρ[i]? with
    | none => rw [ed] at e; cases e
    | some od =>
      cases od with
      | none => rw [ed] at e; cases e
      | some d =>
        rw [ed] at e
        obtain ⟨v', hv', own⟩ := st.sl i d ed
        rw [h] at hv'; cases hv'
        have e : (match takeA as (if isF d = true then ρ else ρ.set i none) with | some (ds, ρ1) => some (d :: ds, ρ1) | none => none) = some (ds, ρ1) := e
        by_cases hf : isF d = true
        · rw [if_pos hf] at e
          cases q : takeA as ρ with
          | none => rw [q] at e; cases e
          | some p =>
            obtain ⟨ds', ρ2⟩ := p
            rw [q] at e
            cases e
            obtain ⟨l, Bs, As1, o, dj, lt, st1, s1, s2, s3, s4, s5⟩ := ih st hd ho q
            refine ⟨by simp [l], fun k => match k with | 0 => fun _ => False | k + 1 => Bs k, As1, fun k w x hw hx => ?_, fun i j b hi hj => ?_, fun k b hb => ?_, st1, s1, fun k c hb => ?_, fun k i c hb => ?_, fun k c hb => ?_, s5⟩
            · cases k with
              | zero => cases hw; cases hx; exact .fz (own.isF hf).1 fun _ z => z
              | succ k => exact o k w x (by simpa using hw) (by simpa using hx)
            · cases i with
              | zero => exact hi.elim
              | succ i => cases j with
                | zero => exact hj.elim
                | succ j => rw [dj i j b hi hj]
            · cases k with
              | zero => exact hb.elim
              | succ k => simpa using lt k b hb
            · cases k with
              | zero => exact hb.elim
              | succ k => exact s2 k c hb
            · cases k with
              | zero => exact hb.elim
              | succ k => exact s3 k i c hb
            · cases k with
              | zero => exact hb.elim
              | succ k => exact s4 k c hb
        · rw [if_neg hf] at e
          cases q : takeA as (ρ.set i none) with
          | none => rw [q] at e; cases e
          | some p =>
            obtain ⟨ds', ρ2⟩ := p
            rw [q] at e
            cases e
            have sub : ∀ j c, (if j = i then fun _ => False else As j : Ads) c → As j c := fun j c z => by
              by_cases hj : j = i
              · rw [if_pos hj] at z; exact z.elim
              · rw [if_neg hj] at z; exact z
            have nsub : ∀ j c, (if j = i then fun _ => False else As j : Ads) c → ¬ As i c := fun j c z z' => by
              by_cases hj : j = i
              · rw [if_pos hj] at z; exact z.elim
              · rw [if_neg hj] at z; exact hj (st.dj _ _ c z z')
            obtain ⟨l, Bs, As1, o, dj, lt, st1, s1, s2, s3, s4, s5⟩ := ih (st.drop i) (fun j c q => hd j c (sub j c q)) ho q
            refine ⟨by simp [l], fun k => match k with | 0 => As i | k + 1 => Bs k, As1, fun k w x hw hx => ?_, fun a j b hi hj => ?_, fun k b hb => ?_, st1, fun j c z => sub j c (s1 j c z), fun k c hb => ?_, fun k j c hb => ?_, fun k c hb => ?_, fun j hj => ?_⟩
            · cases k with
              | zero => cases hw; cases hx; exact own
              | succ k => exact o k w x (by simpa using hw) (by simpa using hx)
            · have key : ∀ k b, As i b → ¬ Bs k b := fun k b q z => by
                rcases s2 k b z with ⟨j, z⟩ | z
                · exact nsub j b z q
                · exact hd i b q z
              cases a with
              | zero => cases j with
                | zero => rfl
                | succ j => exact (key j b hi hj).elim
              | succ a => cases j with
                | zero => exact (key a b hj hi).elim
                | succ j => rw [dj a j b hi hj]
            · cases k with
              | zero => simp
              | succ k => simpa using lt k b hb
            · cases k with
              | zero => exact .inl ⟨i, hb⟩
              | succ k => exact (s2 k c hb).imp (fun ⟨j, z⟩ => ⟨j, sub j c z⟩) id
            · cases k with
              | zero => exact fun z => nsub j c (s1 j c z) hb
              | succ k => exact s3 k j c hb
            · cases k with
              | zero => exact st.off i c hb
              | succ k => exact s4 k c hb
            · have hji : j ≠ i := fun z => hj (z ▸ m)
              obtain ⟨h1, h2⟩ := s5 j hj
              refine ⟨h1.trans (List.getElem?_set_ne (Ne.symm hji)), fun b => (h2 b).trans ?_⟩
              rw [if_neg hji]
/-- the arguments put back -/
theorem put_ok {as : List Arg} {vs : List V} (h : ArgsOk K cl F H σ S as vs A) : ∀ {fx : List Bool} {outs : List (Option D)} {Bs : Nat → Ads} {ρ1 : Env} {As1 : Nat → Ads}, StOk K cl F' H' σ ρ1 As1 →
    (∀ (k : Nat) (v : V) (d : D), fx[k]? = some true → vs[k]? = some v → outs[k]? = some (some d) → Own K cl F' H' v d (Bs k)) → (∀ (i j : Nat) (b : Addr), Bs i b → Bs j b → i = j) → (∀ (k : Nat) (b : Addr), Bs k b → F' b = none) → (∀ k i b, Bs k b → ¬ As1 i b) →
    ∃ As2 : Nat → Ads, StOk K cl F' H' σ (putA as fx outs ρ1) As2 ∧ (∀ i b, As2 i b → As1 i b ∨ U Bs b) ∧ ∀ j, j ∉ S → (putA as fx outs ρ1)[j]? = ρ1[j]? ∧ ∀ b, As2 j b ↔ As1 j b := by
  induction h with
  | nil h =>
    intro fx outs Bs ρ1 As1 st o dj of ds
    exact ⟨As1, st, fun _ _ q => .inl q, fun _ _ => ⟨rfl, fun _ => .rfl⟩⟩
  | @tmp d v as vs A A1 A2 h t n e' ih =>
    intro fx outs Bs ρ1 As1 st o dj of ds
    cases fx with
    | nil => exact ⟨As1, st, fun _ _ q => .inl q, fun _ _ => ⟨rfl, fun _ => .rfl⟩⟩
    | cons b bs => cases outs with
      | nil => exact ⟨As1, st, fun _ _ q => .inl q, fun _ _ => ⟨rfl, fun _ => .rfl⟩⟩
      | cons u us =>
        obtain ⟨As2, st2, s, e⟩ := ih (fx := bs) (outs := us) (Bs := fun k => Bs (k + 1)) st (fun k v d h1 h2 h3 => o (k + 1) v d (by simpa using h1) (by simpa using h2) (by simpa using h3)) (fun i j b hi hj => by have := dj _ _ b hi hj; omega) (fun k b q => of _ b q) fun k i b q => ds _ i b q
        exact ⟨As2, st2, fun i b q => (s i b q).imp id fun ⟨k, z⟩ => ⟨k + 1, z⟩, e⟩
  | @sl i v as vs A h m t ih =>
    intro fx outs Bs ρ1 As1 st o dj of ds
    cases fx with
    | nil => exact ⟨As1, st, fun _ _ q => .inl q, fun _ _ => ⟨rfl, fun _ => .rfl⟩⟩
    | cons b bs => cases outs with
      | nil => exact ⟨As1, st, fun _ _ q => .inl q, fun _ _ => ⟨rfl, fun _ => .rfl⟩⟩
      | cons u us =>
        have tl := fun {ρ2 : Env} {As2 : Nat → Ads} (st2 : StOk K cl F' H' σ ρ2 As2) (hd : ∀ k i b, Bs (k + 1) b → ¬ As2 i b) => ih (fx := bs) (outs := us) (Bs := fun k => Bs (k + 1)) st2 (fun k v d h1 h2 h3 => o (k + 1) v d (by simpa using h1) (by simpa using h2) (by simpa using h3)) (fun i j b hi hj => by have := dj _ _ b hi hj; omega) (fun k b q => of _ b q) hd
        show ∃ As2 : Nat → Ads, StOk K cl F' H' σ (putA as bs us (match ρ1[i]? with | some none => ρ1.set i (if b = true then u else none) | _ => ρ1)) As2 ∧ (∀ i b, As2 i b → As1 i b ∨ U Bs b) ∧ ∀ j, j ∉ _ → (putA as bs us (match ρ1[i]? with | some none => ρ1.set i (if b = true then u else none) | _ => ρ1))[j]? = ρ1[j]? ∧ ∀ b, As2 j b ↔ As1 j b
        have plain : ∃ As2 : Nat → Ads, StOk K cl F' H' σ (putA as bs us ρ1) As2 ∧ (∀ i b, As2 i b → As1 i b ∨ U Bs b) ∧ ∀ j, j ∉ S → (putA as bs us ρ1)[j]? = ρ1[j]? ∧ ∀ b, As2 j b ↔ As1 j b := by
          obtain ⟨As2, st2, s, e⟩ := tl st fun k i b q => ds _ i b q
          exact ⟨As2, st2, fun i b q => (s i b q).imp id fun ⟨k, z⟩ => ⟨k + 1, z⟩, e⟩
        cases ed : ρ1[i]? with
        | none => exact plain
        | some od =>
          cases od with
          | some d => exact plain
          | none =>
            have hi : i < ρ1.length := (List.getElem?_eq_some_iff.mp ed).1
            have same : ρ1.set i none = ρ1 := by
              refine List.ext_getElem? fun j => ?_
              by_cases hj : j = i
              · subst hj; rw [List.getElem?_set_self hi, ed]
              · rw [List.getElem?_set_ne (Ne.symm hj)]
            show ∃ As2 : Nat → Ads, StOk K cl F' H' σ (putA as bs us (ρ1.set i (if b = true then u else none))) As2 ∧ (∀ i b, As2 i b → As1 i b ∨ U Bs b) ∧ ∀ j, j ∉ _ → (putA as bs us (ρ1.set i (if b = true then u else none)))[j]? = ρ1[j]? ∧ ∀ b, As2 j b ↔ As1 j b
            cases b with
            | false => rw [if_neg (by simp), same]; exact plain
            | true =>
              rw [if_pos rfl]
              cases u with
              | none => rw [same]; exact plain
              | some d =>
                have ow := o 0 v d rfl rfl rfl
                have st1 := st.fill h hi ow (fun j b _ q z => ds 0 j b z q) (of 0)
                have hd : ∀ k j b, Bs (k + 1) b → ¬ (if j = i then Bs 0 else As1 j : Ads) b := fun k j b q z => by
                  by_cases hj : j = i
                  · rw [if_pos hj] at z; have := dj _ _ b q z; omega
                  · rw [if_neg hj] at z; exact ds _ j b q z
                obtain ⟨As2, st2, s, e⟩ := tl st1 hd
                refine ⟨As2, st2, fun j b q => ?_, fun j hj => ?_⟩
                · rcases s j b q with z | ⟨k, z⟩
                  · by_cases hj : j = i
                    · rw [if_pos hj] at z; exact .inr ⟨0, z⟩
                    · rw [if_neg hj] at z; exact .inl z
                  · exact .inr ⟨k + 1, z⟩
                · have hji : j ≠ i := fun z => hj (z ▸ m)
                  obtain ⟨h1, h2⟩ := e j hj
                  refine ⟨h1.trans (List.getElem?_set_ne (Ne.symm hji)), fun b => (h2 b).trans ?_⟩
                  rw [if_neg hji]
/-- a call -/
theorem call_ok {fx : List Bool} {fn : Fn} {np : Nat} {as : List Arg} {vs : List V} {r : Rs D} {Q : VK} {E : XK} (st : StOk K cl F H σ ρ As) (h : ArgsOk K cl F H σ S as vs A) (hd : ∀ i c, As i c → ¬ A c) (ho : ∀ c, A c → F c = none) (hl : vs.length = np)
    (e : (match takeA as ρ with | some (ds, ρ1) => (match fn ds with | some (r, outs) => some (r, putA as fx outs ρ1) | none => none) | none => none) = some (r, ρ'))
    (hq : ∀ d, r = .ok d → ∀ v F' H' As' A', StOk K cl F' H' σ ρ' As' → Own K cl F' H' v d A' → (∀ i c, As' i c → ¬ A' c) → (∀ c, A' c → F' c = none) → Step F H (fun c => U As c ∨ A c) F' H' (fun c => U As' c ∨ A' c) → Keeps ρ ρ' As As' H H' S → Q v H')
    (hx : ∀ c, r = .ex c → ∀ F' H' As', StOk K cl F' H' σ ρ' As' → Step F H (fun c => U As c ∨ A c) F' H' (U As') → E (.ref (cl c)) none H') : spP K cl np fx fn vs H Q E := by
  cases q : takeA as ρ with
  | none => rw [q] at e; cases e
  | some p =>
    obtain ⟨ds, ρ1⟩ := p
    rw [q] at e
    have e : (match fn ds with | some (r, outs) => some (r, putA as fx outs ρ1) | none => none) = some (r, ρ') := e
    cases q2 : fn ds with
    | none => rw [q2] at e; cases e
    | some p =>
      obtain ⟨r', outs⟩ := p
      rw [q2] at e
      cases e
      obtain ⟨l, Bs, As1, o, dj, lt, st1, s1, s2, s3, s4, s5⟩ := take_ok h st hd ho q
      have fin : ∀ F' H' Bs' A', RetOk K cl fx vs outs F H (U Bs) F' H' Bs' A' → ∃ As2 : Nat → Ads, StOk K cl F' H' σ (putA as fx outs ρ1) As2 ∧ (∀ i c, As2 i c → ¬ A' c) ∧ Step F H (fun c => U As c ∨ A c) F' H' (fun c => U As2 c ∨ A' c) ∧ Keeps ρ (putA as fx outs ρ1) As As2 H H' S := fun F' H' Bs' A' R => by
        have n1 : ∀ i c, As1 i c → ¬ U Bs c := fun i c q ⟨k, z⟩ => s3 k i c z q
        obtain ⟨st2, n2⟩ := st1.carry R.stp n1 R.sub
        obtain ⟨As2, st3, s6, s7⟩ := put_ok h st2 R.out R.dj R.off fun k i b q z => n2 i b z (.inl ⟨k, q⟩)
        have big : Step F H (fun c => U As c ∨ A c) F' H' (fun c => U As2 c ∨ A' c) := by
          refine (Step.refl (O := fun c => U As c ∨ A c) (O' := fun c => U As c ∨ A c) fun _ q => q).trans R.stp (fun c ⟨k, z⟩ => .inl (s2 k c z)) fun c z => ?_
          rcases z with ⟨i, z⟩ | z
          · rcases s6 i c z with z | z
            · exact .inr (.inl ⟨i, s1 i c z⟩)
            · exact .inl (.inl z)
          · exact .inl (.inr z)
        refine ⟨As2, st3, fun i c q z => ?_, big, ⟨fun j hj => ?_⟩⟩
        · rcases s6 i c q with w | ⟨k, w⟩
          · exact n2 i c w (.inr z)
          · exact R.ds k c w z
        · obtain ⟨a1, a2⟩ := s5 j hj
          obtain ⟨b1, b2⟩ := s7 j hj
          exact ⟨b1.trans a1, fun b => (b2 b).trans (a2 b), fun b o q e => R.stp.keep b o e (n1 j b ((a2 b).mpr q))⟩
      refine ⟨hl, F, ds, Bs, _, outs, st.sub, l, o, dj, lt, s4, q2, fun d hr v F' H' Bs' A' ow R => ?_, fun c hr F' H' Bs' R => ?_⟩
      · obtain ⟨As2, a, b, c, k⟩ := fin F' H' Bs' A' R
        exact hq d hr v F' H' As2 A' a ow b R.offA c k
      · obtain ⟨As2, a, b, s, k⟩ := fin F' H' Bs' _ R
        exact hx c hr F' H' As2 a (s.weak fun _ q => .inl q)
theorem s_callS {t : TA} {ma : M (List Arg)} {fx : List Bool} {fn : Fn} {np : Nat} {E : L2.St → XK} (hE : ∀ σ c H, W (.ref (cl c)) none σ H → E σ (.ref (cl c)) none H) (ha : Snd K cl W (RA K cl S) t ma T) (hl : ∀ ρ as ρ', ma ρ = some (.ok as, ρ') → as.length = np) :
    Snd K cl W (RE K cl) (tCallS (spP K cl np fx fn) E t) (mCall fx fn ma) (T ++ S) := by
  intro σ H Q F ρ As r' ρ' st e hq hx
  rcases M.bind_some e with ⟨as, ρ1, e1, e2⟩ | ⟨c, e1, rfl⟩
  · refine ha σ H _ F ρ As _ ρ1 st e1 (fun a q vs F1 H1 As1 A1 x => ?_) fun c q => nomatch q
    cases q
    refine call_ok x.st x.rel x.ds x.off (x.rel.len.symm.trans (hl _ _ _ e1)) e2 (fun d hd v F' H' As' A' a b c o s k => ?_) fun c hc F' H' As' a s => ?_
    · exact hq d hd v F' H' As' A' ⟨a, b, c, o, x.stp.trans s (fun _ q => .inl q) fun _ q => .inl q, x.kp.trans k fun j hj => by simpa [not_or] using hj⟩
    · exact hE σ c H' (hx c hc F' H' As' ⟨a, x.stp.trans s (fun _ q => .inl q) fun _ q => .inl q⟩)
  · exact ha σ H _ F ρ As _ ρ' st e1 (fun a q => nomatch q) fun c' q => by cases q; exact hx c rfl
theorem mNil_len : ∀ ρ as ρ', mNil ρ = some (.ok as, ρ') → as.length = 0 := fun ρ as ρ' e => by cases e; rfl
theorem mCons_len {ma : M D} {mr : M (List Arg)} {n : Nat} (h : ∀ ρ as ρ', mr ρ = some (.ok as, ρ') → as.length = n) : ∀ ρ as ρ', mCons ma mr ρ = some (.ok as, ρ') → as.length = n + 1 := fun ρ as ρ' e => by
  rcases M.bind_some e with ⟨a, ρ1, _, e2⟩ | ⟨c, _, q⟩
  · rcases M.bind_some e2 with ⟨as', ρ2, e3, e4⟩ | ⟨c, _, q⟩
    · cases e4; simp [h _ _ _ e3]
    · cases q
  · cases q
theorem mConsS_len {i : Nat} {mr : M (List Arg)} {n : Nat} (h : ∀ ρ as ρ', mr ρ = some (.ok as, ρ') → as.length = n) : ∀ ρ as ρ', mConsS i mr ρ = some (.ok as, ρ') → as.length = n + 1 := fun ρ as ρ' e => by
  unfold mConsS at e
  split at e
  · rcases M.bind_some e with ⟨as', ρ2, e3, e4⟩ | ⟨c, _, q⟩
    · cases e4; simp [h _ _ _ e3]
    · cases q
  · cases e
end
end Pv

/-! Pv6 -/
set_option Elab.async false
set_option linter.all false
set_option maxRecDepth 100000
set_option maxHeartbeats 1000000
namespace Pv
open PySem L2
/-- how a statement ends -/
inductive Fl where
  | nx | bk | ct | rt (d : D) | ex (c : Nat)
abbrev MS := Env → Option (Fl × Env)
abbrev E0 : Ads := fun _ => False
section
variable (K : PySem.W.Frag) (cl : Nat → Addr)
structure AftS (F H : Hp) (σ : L2.St) (As : Nat → Ads) (Z : List Nat) (ρ' : Env) (σ' : L2.St) (F' H' : Hp) (As' : Nat → Ads) (A : Ads) : Prop where
  st : StOk K cl F' H' σ' ρ' As'
  ds : ∀ i c, As' i c → ¬ A c
  off : ∀ c, A c → F' c = none
  stp : Step F H (U As) F' H' (fun c => U As' c ∨ A c)
  ag : ∀ j, j ∉ Z → σ'[j]? = σ[j]?
  ln : σ'.length = σ.length
structure Ks (W : WX) (D : Ends) (F H : Hp) (σ : L2.St) (As : Nat → Ads) (Z : List Nat) (r : Fl) (ρ' : Env) : Prop where
  nx : r = .nx → ∀ σ' F' H' As', AftS K cl F H σ As Z ρ' σ' F' H' As' E0 → D.nx σ' H'
  bk : r = .bk → ∀ σ' F' H' As', AftS K cl F H σ As Z ρ' σ' F' H' As' E0 → D.bk σ' H'
  ct : r = .ct → ∀ σ' F' H' As', AftS K cl F H σ As Z ρ' σ' F' H' As' E0 → D.ct σ' H'
  rt : ∀ d, r = .rt d → ∀ v σ' F' H' As' A, Own K cl F' H' v d A → AftS K cl F H σ As Z ρ' σ' F' H' As' A → D.rt v H'
  ex : ∀ c, r = .ex c → ∀ σ' F' H' As', AftS K cl F H σ As Z ρ' σ' F' H' As' E0 → W (.ref (cl c)) none σ' H'
def SndS (W : WX) (t : TS) (m : MS) (Z : List Nat) : Prop := ∀ (σ : L2.St) (H : Hp) (D : Ends) (F : Hp) (ρ : Env) (As : Nat → Ads) (r : Fl) (ρ' : Env), StOk K cl F H σ ρ As → m ρ = some (r, ρ') → Ks K cl W D F H σ As Z r ρ' → t D σ H
/-- a target -/
def SndG (g : TG) (mg : D → Env → Option Env) (Z : List Nat) : Prop := ∀ (v : V) (σ : L2.St) (H : Hp) (Q : L2.St → Hp → Prop) (F : Hp) (ρ : Env) (As : Nat → Ads) (d : D) (A : Ads) (ρ' : Env), StOk K cl F H σ ρ As → Own K cl F H v d A → (∀ i c, As i c → ¬ A c) → (∀ c, A c → F c = none) → mg d ρ = some ρ' →
  (∀ σ' F' H' As', StOk K cl F' H' σ' ρ' As' → Step F H (fun c => U As c ∨ A c) F' H' (U As') → (∀ j, j ∉ Z → σ'[j]? = σ[j]?) → σ'.length = σ.length → Keeps ρ ρ' As As' H H' Z → Q σ' H') → g v σ H Q
def SndGs (g : TGs) (mg : List D → Env → Option Env) (Z : List Nat) : Prop := ∀ (vs : List V) (σ : L2.St) (H : Hp) (Q : L2.St → Hp → Prop) (F : Hp) (ρ : Env) (As : Nat → Ads) (ds : List D) (ρ' : Env), StOk K cl F H σ ρ As → FzL K cl F vs ds → mg ds ρ = some ρ' →
  (∀ σ' F' H' As', StOk K cl F' H' σ' ρ' As' → Step F H (U As) F' H' (U As') → (∀ j, j ∉ Z → σ'[j]? = σ[j]?) → σ'.length = σ.length → Keeps ρ ρ' As As' H H' Z → Q σ' H') → g vs σ H Q
end
section
variable {K : PySem.W.Frag} {cl : Nat → Addr} {W : WX} {F F' H H' F1 H1 : Hp} {σ σ' σ1 : L2.St} {ρ ρ' ρ1 : Env} {As As' As1 : Nat → Ads} {T T1 T2 S S1 S2 Z Z1 Z2 : List Nat} {A A1 O O' : Ads} {v : V} {d : D} {G : Ends} {r : Fl}
theorem AftS.after (x : AftS K cl F H σ As Z1 ρ1 σ1 F1 H1 As1 A1) (y : AftS K cl F1 H1 σ1 As1 Z2 ρ' σ' F' H' As' A) (z : ∀ j, j ∉ Z → j ∉ Z1 ∧ j ∉ Z2) : AftS K cl F H σ As Z ρ' σ' F' H' As' A :=
  ⟨y.st, y.ds, y.off, x.stp.trans y.stp (fun _ q => .inl (.inl q)) fun _ q => .inl q, fun j hj => (y.ag j (z j hj).2).trans (x.ag j (z j hj).1), y.ln.trans x.ln⟩
theorem Ks.after (k : Ks K cl W G F H σ As Z r ρ') (x : AftS K cl F H σ As Z1 ρ1 σ1 F1 H1 As1 A1) (z : ∀ j, j ∉ Z → j ∉ Z1 ∧ j ∉ Z2) : Ks K cl W G F1 H1 σ1 As1 Z2 r ρ' :=
  ⟨fun e σ' F' H' As' y => k.nx e σ' F' H' As' (x.after y z), fun e σ' F' H' As' y => k.bk e σ' F' H' As' (x.after y z), fun e σ' F' H' As' y => k.ct e σ' F' H' As' (x.after y z),
    fun d e v σ' F' H' As' A o y => k.rt d e v σ' F' H' As' A o (x.after y z), fun c e σ' F' H' As' y => k.ex c e σ' F' H' As' (x.after y z)⟩
theorem Aft.toS {α β : Type} {R : Rel α β} {a : α} {b : β} (x : Aft K cl R F H σ ρ As T a ρ1 b F1 H1 As1 A1) : AftS K cl F H σ As [] ρ1 σ F1 H1 As1 A1 := ⟨x.st, x.ds, x.off, x.stp, fun _ _ => rfl, rfl⟩
theorem AftX.toS (x : AftX K cl F H σ As ρ' F' H' As') : AftS K cl F H σ As Z ρ' σ F' H' As' E0 := ⟨x.st, fun _ _ _ z => z, fun _ z => z.elim, x.stp.weak fun _ q => q.elim id False.elim, fun _ _ => rfl, rfl⟩
theorem AftS.refl (st : StOk K cl F H σ ρ As) : AftS K cl F H σ As Z ρ σ F H As E0 := ⟨st, fun _ _ _ z => z, fun _ z => z.elim, Step.refl fun _ q => q.elim id False.elim, fun _ _ => rfl, rfl⟩
theorem SndS.mono {t : TS} {m : MS} (h : SndS K cl W t m Z) (z : ∀ j ∈ Z, j ∈ Z1) : SndS K cl W t m Z1 := fun σ H D F ρ As r ρ' st e k => by
  have up : ∀ {ρ' σ' F' H' As' A}, AftS K cl F H σ As Z ρ' σ' F' H' As' A → AftS K cl F H σ As Z1 ρ' σ' F' H' As' A := fun x => ⟨x.st, x.ds, x.off, x.stp, fun j hj => x.ag j fun q => hj (z j q), x.ln⟩
  exact h σ H D F ρ As r ρ' st e ⟨fun e σ' F' H' As' y => k.nx e σ' F' H' As' (up y), fun e σ' F' H' As' y => k.bk e σ' F' H' As' (up y), fun e σ' F' H' As' y => k.ct e σ' F' H' As' (up y), fun d e v σ' F' H' As' A o y => k.rt d e v σ' F' H' As' A o (up y), fun c e σ' F' H' As' y => k.ex c e σ' F' H' As' (up y)⟩
/-! ### small statements -/
def mNx : MS := fun ρ => some (.nx, ρ)
theorem ss_pass : SndS K cl W tNext mNx [] := fun σ H D F ρ As r ρ' st e k => by cases e; exact k.nx rfl σ F H As (.refl st)
theorem ss_break : SndS K cl W tBreak (fun ρ => some (.bk, ρ)) [] := fun σ H D F ρ As r ρ' st e k => by cases e; exact k.bk rfl σ F H As (.refl st)
theorem ss_cont : SndS K cl W tCont (fun ρ => some (.ct, ρ)) [] := fun σ H D F ρ As r ρ' st e k => by cases e; exact k.ct rfl σ F H As (.refl st)
theorem ss_never : SndS K cl W tNever (fun _ => none) [] := fun σ H D F ρ As r ρ' st e k => by cases e
def mSeq (m1 m2 : MS) : MS := fun ρ => match m1 ρ with
  | some (.nx, ρ1) => m2 ρ1
  | x => x
theorem ss_seq {t u : TS} {m1 m2 : MS} (h1 : SndS K cl W t m1 Z1) (h2 : SndS K cl W u m2 Z2) : SndS K cl W (tSeq t u) (mSeq m1 m2) (Z1 ++ Z2) := by
  intro σ H D F ρ As r ρ' st e k
  have z : ∀ j, j ∉ Z1 ++ Z2 → j ∉ Z1 ∧ j ∉ Z2 := fun j hj => by simpa [not_or] using hj
  have z1 : ∀ j, j ∉ Z1 ++ Z2 → j ∉ Z1 := fun j hj => (z j hj).1
  have up : ∀ {ρ' σ' F' H' As' A}, AftS K cl F H σ As Z1 ρ' σ' F' H' As' A → AftS K cl F H σ As (Z1 ++ Z2) ρ' σ' F' H' As' A := fun x => ⟨x.st, x.ds, x.off, x.stp, fun j hj => x.ag j (z1 j hj), x.ln⟩
  unfold mSeq at e
  cases q : m1 ρ with
  | none => rw [q] at e; cases e
  | some p =>
    obtain ⟨r1, ρ1⟩ := p
    rw [q] at e
    refine h1 σ H { D with nx := u D } F ρ As r1 ρ1 st q ⟨fun hr σ' F' H' As' x => ?_, fun hr σ' F' H' As' x => ?_, fun hr σ' F' H' As' x => ?_, fun d hr v σ' F' H' As' A o x => ?_, fun c hr σ' F' H' As' x => ?_⟩
    · subst hr
      exact h2 σ' H' D F' ρ1 As' r ρ' x.st e (k.after x z)
    · subst hr; cases e; exact k.bk rfl σ' F' H' As' (up x)
    · subst hr; cases e; exact k.ct rfl σ' F' H' As' (up x)
    · subst hr; cases e; exact k.rt d rfl v σ' F' H' As' A o (up x)
    · subst hr; cases e; exact k.ex c rfl σ' F' H' As' (up x)
/-- an expression, then something -/
def mThen {α : Type} (m : M α) (f : α → MS) : MS := fun ρ => match m ρ with
  | some (.ok a, ρ1) => f a ρ1
  | some (.ex c, ρ1) => some (.ex c, ρ1)
  | none => none
theorem SndE.then' {α β : Type} {R : Rel α β} {t : TX β} {m : M α} {f : α → MS} {k : β → Hp → Prop} (h : Snd K cl W R t m T) (st : StOk K cl F H σ ρ As)
    (e : mThen m f ρ = some (r, ρ'))
    (kx : Ks K cl W G F H σ As Z r ρ') (hk : ∀ a ρ1 b F1 H1 As1 A1, Aft K cl R F H σ ρ As T a ρ1 b F1 H1 As1 A1 → f a ρ1 = some (r, ρ') → k b H1) : t σ H k := by
  unfold mThen at e
  cases q : m ρ with
  | none => rw [q] at e; cases e
  | some p =>
    obtain ⟨x, ρ1⟩ := p
    rw [q] at e
    cases x with
    | ok a => exact h σ H k F ρ As _ ρ1 st q (fun a' z b F' H' As' A y => by cases z; exact hk a ρ1 b F' H' As' A y e) fun c z => nomatch z
    | ex c =>
      cases e
      exact h σ H k F ρ As _ ρ' st q (fun a z => nomatch z) fun c' z F' H' As' y => by cases z; exact kx.ex c rfl σ F' H' As' y.toS
def mRet (m : M Pv.D) : MS := mThen m fun d ρ => some (.rt d, ρ)
theorem ss_ret {te : TE} {m : M Pv.D} (h : Snd K cl W (RE K cl) te m T) : SndS K cl W (tRet te) (mRet m) [] := by
  intro σ H D F ρ As r ρ' st e k
  refine SndE.then' h st e k fun a ρ1 b F1 H1 As1 A1 x e1 => ?_
  cases e1
  exact k.rt a rfl b σ F1 H1 As1 A1 x.rel x.toS
theorem ss_retN : SndS K cl W tRetN (fun ρ => some (.rt .non, ρ)) [] := fun σ H D F ρ As r ρ' st e k => by
  cases e
  exact k.rt .non rfl .non σ F H As E0 (.fz .non fun _ z => z) (.refl st)
def mExp (m : M Pv.D) : MS := mThen m fun _ ρ => some (.nx, ρ)
theorem ss_expr {te : TE} {m : M Pv.D} (h : Snd K cl W (RE K cl) te m T) : SndS K cl W (tDrop te) (mExp m) [] := by
  intro σ H D F ρ As r ρ' st e k
  refine SndE.then' h st e k fun a ρ1 b F1 H1 As1 A1 x e1 => ?_
  cases e1
  exact k.nx rfl σ F1 H1 As1 ⟨x.st, fun _ _ _ z => z, fun _ z => z.elim, x.stp.weak fun _ q => .inl (q.elim id False.elim), fun _ _ => rfl, rfl⟩
/-! ### targets -/
def gmName (i : Nat) : Pv.D → Env → Option Env := fun d ρ => if i < ρ.length then some (ρ.set i (some d)) else none
theorem sg_name {i : Nat} : SndG K cl (gName i) (gmName i) [i] := by
  intro v σ H Q F ρ As d A ρ' st o hd ho e k
  unfold gmName at e
  split at e
  · rename_i hi
    cases e
    have hiσ : i < σ.length := by rw [← st.len]; exact hi
    refine k (σ.set i (some v)) F H (fun j => if j = i then A else As j) ⟨by simp [st.len], fun j d' e => ?_, fun j b q => ?_, fun j l b q q' => ?_, st.sub, fun j b q => ?_⟩ ⟨fun _ _ q => q, fun _ _ q _ => q, fun a ⟨j, q⟩ => .inl ?_, fun _ _ q => .inl q⟩ (fun j hj => List.getElem?_set_ne (fun z => hj (by simp [z]))) (List.length_set ..) ⟨fun j hj => ?_⟩
    · by_cases hj : j = i
      · subst hj
        rw [List.getElem?_set_self hi] at e
        cases e
        exact ⟨v, List.getElem?_set_self hiσ, by rw [if_pos rfl]; exact o⟩
      · rw [List.getElem?_set_ne (Ne.symm hj)] at e
        obtain ⟨w, h1, h2⟩ := st.sl j d' e
        exact ⟨w, by rw [List.getElem?_set_ne (Ne.symm hj)]; exact h1, by rw [if_neg hj]; exact h2⟩
    · by_cases hj : j = i
      · subst hj; exact ⟨d, List.getElem?_set_self hi⟩
      · rw [if_neg hj] at q; rw [List.getElem?_set_ne (Ne.symm hj)]; exact st.em j b q
    · by_cases hj : j = i <;> by_cases hl : l = i
      · rw [hj, hl]
      · rw [if_pos hj] at q; rw [if_neg hl] at q'; exact (hd l b q' q).elim
      · rw [if_neg hj] at q; rw [if_pos hl] at q'; exact (hd j b q q').elim
      · rw [if_neg hj] at q; rw [if_neg hl] at q'; exact st.dj j l b q q'
    · by_cases hj : j = i
      · rw [if_pos hj] at q; exact ho b q
      · rw [if_neg hj] at q; exact st.off j b q
    · dsimp only at q
      by_cases hj : j = i
      · rw [if_pos hj] at q; exact .inr q
      · rw [if_neg hj] at q; exact .inl ⟨j, q⟩
    · have hj : j ≠ i := by simpa using hj
      refine ⟨List.getElem?_set_ne (Ne.symm hj), fun b => ?_, fun _ _ _ e => e⟩
      try dsimp only
      rw [if_neg hj]
  · cases e
def gmNil : List Pv.D → Env → Option Env := fun ds ρ => match ds with
  | [] => some ρ
  | _ => none
def gmCons (g : Pv.D → Env → Option Env) (gs : List Pv.D → Env → Option Env) : List Pv.D → Env → Option Env := fun ds ρ => match ds with
  | d :: r => (match g d ρ with
    | some ρ1 => gs r ρ1
    | none => none)
  | [] => none
theorem sgs_nil : SndGs K cl gNil gmNil [] := by
  intro vs σ H Q F ρ As ds ρ' st h e k
  cases h with
  | nil => cases e; exact ⟨rfl, k σ F H As st (Step.refl fun _ q => q) (fun _ _ => rfl) rfl Keeps.refl⟩
  | cons => cases e
theorem sgs_cons {t : TG} {u : TGs} {g : Pv.D → Env → Option Env} {gs : List Pv.D → Env → Option Env} (h1 : SndG K cl t g Z1) (h2 : SndGs K cl u gs Z2) : SndGs K cl (gCons t u) (gmCons g gs) (Z1 ++ Z2) := by
  intro vs σ H Q F ρ As ds ρ' st h e k
  cases h with
  | nil => cases e
  | @cons v d vs ds hv ht =>
    have e : (match g d ρ with | some ρ1 => gs ds ρ1 | none => none) = some ρ' := e
    cases q : g d ρ with
    | none => rw [q] at e; cases e
    | some ρ1 =>
      rw [q] at e
      refine ⟨v, vs, rfl, h1 v σ H _ F ρ As d E0 ρ1 st (.fz hv fun _ z => z) (fun _ _ _ z => z) (fun _ z => z.elim) q fun σ1 F1 H1 As1 st1 s1 a1 l1 kp1 => ?_⟩
      refine h2 vs σ1 H1 Q F1 ρ1 As1 ds ρ' st1 (ht.same s1.ff) e fun σ2 F2 H2 As2 st2 s2 a2 l2 kp2 => k σ2 F2 H2 As2 st2 (s1.trans s2 (fun _ q => .inl q) (fun _ q => .inl q) |> fun s => ⟨s.ff, fun a o e n => s.keep a o e fun z => n (z.elim id False.elim), fun a q => (s.own a q).imp (fun z => z.elim id False.elim) id, fun a o q => (s.fro a o q).imp id (Or.imp (fun z => z.elim id False.elim) id)⟩) (fun j hj => ?_) (l2.trans l1) (kp1.trans kp2 fun j hj => by simpa [not_or] using hj)
      have z : j ∉ Z1 ∧ j ∉ Z2 := by simpa [not_or] using hj
      exact (a2 j z.2).trans (a1 j z.1)
def gmTup (n : Nat) (gs : List Pv.D → Env → Option Env) : Pv.D → Env → Option Env := fun d ρ => match d with
  | .nd false .tup xs => if xs.length = n then gs xs ρ else none
  | _ => none
theorem sg_tup {n : Nat} {t : TGs} {gs : List Pv.D → Env → Option Env} (h : SndGs K cl t gs Z) : SndG K cl (gTup K n t) (gmTup n gs) Z := by
  intro v σ H Q F ρ As d A ρ' st o hd ho e k
  unfold gmTup at e
  split at e
  · rename_i xs
    split at e
    · rename_i hl
      obtain ⟨fz, nA⟩ := o.isF rfl
      obtain ⟨a, vs, rfl, at', fl⟩ := fz.kids
      refine ⟨a, vs, rfl, SqT.of (st.sub _ _ at'), by rw [fl.len]; exact hl, h vs σ H Q F ρ As xs ρ' st fl e fun σ' F' H' As' st' s' a' l' kp' => k σ' F' H' As' st' ?_ a' l' kp'⟩
      exact ⟨s'.ff, fun a o e n => s'.keep a o e fun z => n (.inl z), fun a q => (s'.own a q).imp .inl id, fun a o q => (s'.fro a o q).imp id (Or.imp .inl id)⟩
    · cases e
  · cases e
def mAsg (m : M Pv.D) (g : Pv.D → Env → Option Env) : MS := mThen m fun d ρ => match g d ρ with
  | some ρ1 => some (.nx, ρ1)
  | none => none
theorem ss_asg {te : TE} {g : TG} {m : M Pv.D} {gm : Pv.D → Env → Option Env} (h : Snd K cl W (RE K cl) te m T) (hg : SndG K cl g gm Z) : SndS K cl W (tAsg te g) (mAsg m gm) Z := by
  intro σ H D F ρ As r ρ' st e k
  refine SndE.then' h st e k fun a ρ1 b F1 H1 As1 A1 x e1 => ?_
  have e1 : (match gm a ρ1 with | some ρ1 => some (Fl.nx, ρ1) | none => none) = some (r, ρ') := e1
  cases q : gm a ρ1 with
  | none => rw [q] at e1; cases e1
  | some ρ2 =>
    rw [q] at e1
    cases e1
    exact hg b σ H1 _ F1 ρ1 As1 a A1 ρ' x.st x.rel x.ds x.off q fun σ2 F2 H2 As2 st2 s2 a2 l2 _ => k.nx rfl σ2 F2 H2 As2 ⟨st2, fun _ _ _ z => z, fun _ z => z.elim, (x.stp.trans s2 (fun _ q => .inl q) fun _ q => .inl q) |>.weak fun _ q => q.elim id False.elim, a2, l2⟩
/-! ### tests, if -/
def mIf (c : M Bool) (a b : MS) : MS := mThen c fun x => if x = true then a else b
theorem ss_if {tc : TT} {t u : TS} {c : M Bool} {a b : MS} (hc : Snd K cl W RT tc c T) (ha : SndS K cl W t a Z1) (hb : SndS K cl W u b Z2) : SndS K cl W (tIfS tc t u) (mIf c a b) (Z1 ++ Z2) := by
  intro σ H D F ρ As r ρ' st e k
  refine SndE.then' hc st e k fun x ρ1 y F1 H1 As1 A1 w e1 => ?_
  obtain ⟨exy, nA⟩ := w.rel
  subst exy
  cases x with
  | true => exact ha σ H1 D F1 ρ1 As1 r ρ' w.st e1 (k.after w.toS fun j hj => ⟨by simp, (by simpa [not_or] using hj : j ∉ Z1 ∧ j ∉ Z2).1⟩)
  | false => exact hb σ H1 D F1 ρ1 As1 r ρ' w.st e1 (k.after w.toS fun j hj => ⟨by simp, (by simpa [not_or] using hj : j ∉ Z1 ∧ j ∉ Z2).2⟩)
theorem Own.scal {b : Bool} (o : Own K cl F H v (.bl b) A) : v = .bl b ∧ ∀ a, ¬ A a := by
  obtain ⟨h, n⟩ := o.isF rfl
  cases h
  exact ⟨rfl, n⟩
def mTest (m : M Pv.D) : M Bool := m.bind fun d => match d with
  | .bl b => M.ret b
  | _ => fun _ => none
/-- a value that is a truth, as a test -/
theorem st_val {te : TE} {m : M Pv.D} (h : Snd K cl W (RE K cl) te m T) : Snd K cl W RT (tTest te) (mTest m) T := by
  intro σ H Q F ρ As r ρ' st e hq hx
  refine h.thn st e (fun a ρ1 b F1 H1 As1 A1 x e1 => ?_) hx
  cases a with
  | bl c =>
    obtain ⟨rfl, rfl⟩ := M.ret_some e1
    obtain ⟨rfl, nA⟩ := x.rel.scal
    exact ⟨c, rfl, hq c rfl c F1 H1 As1 A1 ⟨x.st, ⟨rfl, nA⟩, x.ds, x.off, x.stp, x.kp⟩⟩
  | _ => cases e1
def mNotT (m : M Bool) : M Bool := m.bind fun b => M.ret (!b)
theorem st_not {t : TT} {m : M Bool} (h : Snd K cl W RT t m T) : Snd K cl W RT (tNot t) (mNotT m) T := by
  intro σ H Q F ρ As r ρ' st e hq hx
  refine h.thn st e (fun a ρ1 b F1 H1 As1 A1 x e1 => ?_) hx
  obtain ⟨rfl, rfl⟩ := M.ret_some e1
  obtain ⟨rfl, nA⟩ := x.rel
  exact hq _ rfl _ F1 H1 As1 A1 ⟨x.st, ⟨rfl, nA⟩, x.ds, x.off, x.stp, x.kp⟩
def mAndT (m n : M Bool) : M Bool := m.bind fun b => if b = true then n else M.ret false
def mOrT (m n : M Bool) : M Bool := m.bind fun b => if b = true then M.ret true else n
theorem Aft.after {α β γ δ : Type} {R : Rel α β} {R' : Rel γ δ} {a : α} {b : β} {c : γ} {e : δ} (x : Aft K cl R F H σ ρ As T1 a ρ1 b F1 H1 As1 A1) (y : Aft K cl R' F1 H1 σ ρ1 As1 T2 c ρ' e F' H' As' A) : Aft K cl R' F H σ ρ As (T1 ++ T2) c ρ' e F' H' As' A :=
  ⟨y.st, y.rel, y.ds, y.off, x.stp.trans y.stp (fun _ q => .inl (.inl q)) fun _ q => .inl q, x.kp.trans y.kp fun j hj => by simpa [not_or] using hj⟩
theorem Aft.wide {α β : Type} {R : Rel α β} {a : α} {b : β} (x : Aft K cl R F H σ ρ As T1 a ρ1 b F1 H1 As1 A1) (h : ∀ j ∈ T1, j ∈ T2) : Aft K cl R F H σ ρ As T2 a ρ1 b F1 H1 As1 A1 := ⟨x.st, x.rel, x.ds, x.off, x.stp, ⟨fun j hj => x.kp.k j fun z => hj (h j z)⟩⟩
theorem st_and {t u : TT} {m n : M Bool} (h : Snd K cl W RT t m T1) (h' : Snd K cl W RT u n T2) : Snd K cl W RT (tAnd t u) (mAndT m n) (T1 ++ T2) := by
  intro σ H Q F ρ As r ρ' st e hq hx
  refine h.thn st e (fun a ρ1 b F1 H1 As1 A1 x e1 => ?_) hx
  obtain ⟨rfl, nA⟩ := id x.rel
  cases a with
  | true => exact h' σ H1 Q F1 ρ1 As1 r ρ' x.st e1 (fun a q b F' H' As' A y => hq a q b F' H' As' A (x.after y)) fun c q F' H' As' y => hx c q F' H' As' (AftX.after x y)
  | false =>
    obtain ⟨rfl, rfl⟩ := M.ret_some e1
    exact hq _ rfl _ F1 H1 As1 A1 ⟨x.st, ⟨rfl, nA⟩, x.ds, x.off, x.stp, (x.wide (T2 := T1 ++ T2) fun j z => List.mem_append_left _ z).kp⟩
theorem st_or {t u : TT} {m n : M Bool} (h : Snd K cl W RT t m T1) (h' : Snd K cl W RT u n T2) : Snd K cl W RT (tOr t u) (mOrT m n) (T1 ++ T2) := by
  intro σ H Q F ρ As r ρ' st e hq hx
  refine h.thn st e (fun a ρ1 b F1 H1 As1 A1 x e1 => ?_) hx
  obtain ⟨rfl, nA⟩ := id x.rel
  cases a with
  | false => exact h' σ H1 Q F1 ρ1 As1 r ρ' x.st e1 (fun a q b F' H' As' A y => hq a q b F' H' As' A (x.after y)) fun c q F' H' As' y => hx c q F' H' As' (AftX.after x y)
  | true =>
    obtain ⟨rfl, rfl⟩ := M.ret_some e1
    exact hq _ rfl _ F1 H1 As1 A1 ⟨x.st, ⟨rfl, nA⟩, x.ds, x.off, x.stp, (x.wide (T2 := T1 ++ T2) fun j z => List.mem_append_left _ z).kp⟩
/-- .. as values -/
def mBool (m : M Pv.D) (f : Bool → M Pv.D) : M Pv.D := m.bind fun d => match d with
  | .bl b => f b
  | _ => fun _ => none
def mAndV (m n : M Pv.D) : M Pv.D := mBool m fun b => if b = true then n else M.ret (.bl false)
def mOrV (m n : M Pv.D) : M Pv.D := mBool m fun b => if b = true then M.ret (.bl true) else n
def mNotV (m : M Pv.D) : M Pv.D := mBool m fun b => M.ret (.bl !b)
theorem s_andV {t u : TE} {m n : M Pv.D} (h : Snd K cl W (RE K cl) t m T1) (h' : Snd K cl W (RE K cl) u n T2) : Snd K cl W (RE K cl) (tAndV t u) (mAndV m n) (T1 ++ T2) := by
  intro σ H Q F ρ As r ρ' st e hq hx
  refine h.thn st e (fun a ρ1 b F1 H1 As1 A1 x e1 => ?_) hx
  cases a with
  | bl c =>
    obtain ⟨rfl, nA⟩ := x.rel.scal
    refine ⟨c, rfl, ?_⟩
    cases c with
    | true => exact h' σ H1 Q F1 ρ1 As1 r ρ' x.st e1 (fun a q b F' H' As' A y => hq a q b F' H' As' A (x.after y)) fun c q F' H' As' y => hx c q F' H' As' (AftX.after x y)
    | false =>
      obtain ⟨rfl, rfl⟩ := M.ret_some e1
      exact hq _ rfl _ F1 H1 As1 A1 ⟨x.st, x.rel, x.ds, x.off, x.stp, (x.wide (T2 := T1 ++ T2) fun j z => List.mem_append_left _ z).kp⟩
  | _ => cases e1
theorem s_orV {t u : TE} {m n : M Pv.D} (h : Snd K cl W (RE K cl) t m T1) (h' : Snd K cl W (RE K cl) u n T2) : Snd K cl W (RE K cl) (tOrV t u) (mOrV m n) (T1 ++ T2) := by
  intro σ H Q F ρ As r ρ' st e hq hx
  refine h.thn st e (fun a ρ1 b F1 H1 As1 A1 x e1 => ?_) hx
  cases a with
  | bl c =>
    obtain ⟨rfl, nA⟩ := x.rel.scal
    refine ⟨c, rfl, ?_⟩
    cases c with
    | false => exact h' σ H1 Q F1 ρ1 As1 r ρ' x.st e1 (fun a q b F' H' As' A y => hq a q b F' H' As' A (x.after y)) fun c q F' H' As' y => hx c q F' H' As' (AftX.after x y)
    | true =>
      obtain ⟨rfl, rfl⟩ := M.ret_some e1
      exact hq _ rfl _ F1 H1 As1 A1 ⟨x.st, x.rel, x.ds, x.off, x.stp, (x.wide (T2 := T1 ++ T2) fun j z => List.mem_append_left _ z).kp⟩
  | _ => cases e1
theorem s_notV {t : TE} {m : M Pv.D} (h : Snd K cl W (RE K cl) t m T) : Snd K cl W (RE K cl) (tNotV t) (mNotV m) T := by
  intro σ H Q F ρ As r ρ' st e hq hx
  refine h.thn st e (fun a ρ1 b F1 H1 As1 A1 x e1 => ?_) hx
  cases a with
  | bl c =>
    obtain ⟨rfl, nA⟩ := x.rel.scal
    obtain ⟨rfl, rfl⟩ := M.ret_some e1
    exact ⟨c, rfl, hq _ rfl _ F1 H1 As1 A1 ⟨x.st, .fz (.bl _) nA, x.ds, x.off, x.stp, x.kp⟩⟩
  | _ => cases e1
def mIfE (c : M Bool) (a b : M Pv.D) : M Pv.D := c.bind fun x => if x = true then a else b
theorem s_ifE {tc : TT} {t u : TE} {c : M Bool} {m n : M Pv.D} (hc : Snd K cl W RT tc c T) (h : Snd K cl W (RE K cl) t m T1) (h' : Snd K cl W (RE K cl) u n T2) : Snd K cl W (RE K cl) (tIf tc t u) (mIfE c m n) (T ++ (T1 ++ T2)) := by
  intro σ H Q F ρ As r ρ' st e hq hx
  refine hc.thn st e (fun a ρ1 b F1 H1 As1 A1 x e1 => ?_) hx
  obtain ⟨rfl, nA⟩ := id x.rel
  cases a with
  | true => exact h σ H1 Q F1 ρ1 As1 r ρ' x.st e1 (fun a q b F' H' As' A y => hq a q b F' H' As' A (x.after (y.wide fun j z => List.mem_append_left _ z))) fun c q F' H' As' y => hx c q F' H' As' (AftX.after x y)
  | false => exact h' σ H1 Q F1 ρ1 As1 r ρ' x.st e1 (fun a q b F' H' As' A y => hq a q b F' H' As' A (x.after (y.wide fun j z => List.mem_append_right _ z))) fun c q F' H' As' y => hx c q F' H' As' (AftX.after x y)

/-! ### a def -/
def runF (n : Nat) (body : MS) (np : Nat) : Fn := fun ds => match body (ds.map some ++ List.replicate (n - ds.length) none) with
  | some (.nx, ρ) => some (.ok .non, ρ.take np)
  | some (.rt d, ρ) => some (.ok d, ρ.take np)
  | some (.ex c, ρ) => some (.ex c, ρ.take np)
  | _ => none
theorem start_st {N : List Str} {vs : List V} {ds : List Pv.D} {Bs : Nat → Ads} (s : Same F H) (l : vs.length = ds.length) (o : ∀ (k : Nat) (v : V) (d : Pv.D), vs[k]? = some v → ds[k]? = some d → Own K cl F H v d (Bs k)) (dj : ∀ (i j : Nat) (b : Addr), Bs i b → Bs j b → i = j) (lt : ∀ (k : Nat) (b : Addr), Bs k b → k < ds.length)
    (of : ∀ (k : Nat) (b : Addr), Bs k b → F b = none) : StOk K cl F H (L2.start N vs) (ds.map some ++ List.replicate (N.length - ds.length) none) Bs := by
  have at1 : ∀ k d, (ds.map some ++ List.replicate (N.length - ds.length) (none : Option Pv.D))[k]? = some (some d) → ds[k]? = some d := fun k d e => by
    by_cases hk : k < ds.length
    · rw [List.getElem?_append_left (by simpa using hk), List.getElem?_map] at e
      cases q : ds[k]? with
      | none => rw [q] at e; cases e
      | some x => rw [q] at e; cases e; rfl
    · rw [List.getElem?_append_right (by simpa using hk), List.getElem?_replicate] at e
      split at e <;> cases e
  refine ⟨by unfold L2.start; simp [l], fun k d e => ?_, fun k b q => ?_, dj, s, of⟩
  · have hd := at1 k d e
    have hk : k < vs.length := by rw [l]; exact (List.getElem?_eq_some_iff.mp hd).1
    refine ⟨vs[k], ?_, o k vs[k] d (by simp [hk]) hd⟩
    unfold L2.start
    rw [List.getElem?_append_left (by simpa using hk), List.getElem?_map]
    simp [hk]
  · have hk := lt k b q
    exact ⟨ds[k], by rw [List.getElem?_append_left (by simpa using hk), List.getElem?_map]; simp [hk]⟩
theorem body_ok {t : TS} {m : MS} {N : List Str} {np : Nat} {fx : List Bool} {vs : List V} {Q : VK} {E : XK} (h : ∀ E : XK, SndS K cl (fun c d _ H => E c d H) t m Z) (hfx : ∀ k, fx[k]? = some true → k ∉ Z ∧ k < np) (hp : spP K cl np fx (runF N.length m np) vs H Q E) :
    t { nx := fun _ H' => Q .non H', rt := Q } (L2.start N vs) H := by
  obtain ⟨hl, F, ds, Bs, r, outs, s, l, o, dj, lt, of, e, hq, hx⟩ := hp
  have st := start_st (N := N) s l o dj lt of
  unfold runF at e
  have ret : ∀ {ρ' σ' F' H' As' A}, outs = ρ'.take np → AftS K cl F H (L2.start N vs) Bs Z ρ' σ' F' H' As' A → RetOk K cl fx vs outs F H (U Bs) F' H' (fun k b => fx[k]? = some true ∧ As' k b) A := fun {ρ' σ' F' H' As' A} eo x => by
    refine ⟨x.st.sub, fun k v d hk hv ho => ?_, fun k b ⟨hk, q⟩ => ?_, fun i j b q q' => x.st.dj i j b q.2 q'.2, fun k b q => x.ds k b q.2, fun k b q => x.st.off k b q.2, x.off, x.stp.weak fun a q => q.imp (fun ⟨k, z⟩ => ⟨k, z.2⟩) id⟩
    · obtain ⟨nz, hkn⟩ := hfx k hk
      rw [eo, List.getElem?_take_of_lt hkn] at ho
      obtain ⟨v', h1, h2⟩ := x.st.sl k d ho
      have hs : (L2.start N vs)[k]? = some (some v) := by
        unfold L2.start
        rw [List.getElem?_append_left (by simpa using (List.getElem?_eq_some_iff.mp hv).1), List.getElem?_map, hv]
        rfl
      rw [x.ag k nz, hs] at h1
      cases h1
      exact h2.iff fun b => ⟨fun z => ⟨hk, z⟩, fun z => z.2⟩
    · obtain ⟨nz, hkn⟩ := hfx k hk
      obtain ⟨d, e⟩ := x.st.em k b q
      exact ⟨hk, d, by rw [eo, List.getElem?_take_of_lt hkn]; exact e⟩
  cases q : m (ds.map some ++ List.replicate (N.length - ds.length) none) with
  | none => rw [q] at e; cases e
  | some p =>
    obtain ⟨fl, ρ'⟩ := p
    rw [q] at e
    refine h E (L2.start N vs) H _ F _ Bs fl ρ' st q ⟨fun hr σ' F' H' As' x => ?_, fun hr σ' F' H' As' x => ?_, fun hr σ' F' H' As' x => ?_, fun d hr v σ' F' H' As' A ow x => ?_, fun c hr σ' F' H' As' x => ?_⟩
    · subst hr
      cases e
      exact hq .non rfl .non F' H' _ E0 (.fz .non fun _ z => z) (ret rfl x)
    · subst hr; cases e
    · subst hr; cases e
    · subst hr
      cases e
      exact hq d rfl v F' H' _ A ow (ret rfl x)
    · subst hr
      cases e
      exact hx c rfl F' H' _ (ret rfl x)
end
end Pv

/-! Pv7 -/
set_option Elab.async false
set_option linter.all false
set_option maxRecDepth 100000
set_option maxHeartbeats 1000000
namespace Pv
open PySem L2
/-- the place of a key -/
def kix {κ : Type} [DecidableEq κ] : List κ → κ → Option Nat
  | [], _ => none
  | x :: xs, k => if x = k then some 0 else (kix xs k).map (· + 1)
theorem valV_zip {κ : Type} [DecidableEq κ] : ∀ (ks : List κ) (vs : List V) (k : κ), ks.length = vs.length → valV (ks.zip vs) k = (kix ks k).bind (vs[·]?)
  | [], [], _, _ => rfl
  | x :: ks, v :: vs, k, l => by
    have ih := valV_zip ks vs k (by simpa using l)
    rw [List.zip_cons_cons, kix]
    by_cases e : x = k
    · rw [valV_pos e, if_pos e]; rfl
    · rw [valV_neg e, if_neg e, ih]
      cases kix ks k <;> rfl
theorem lookup_zip : ∀ (ks : List Str) (vs : List V) (k : Str), ks.length = vs.length → (ks.zip vs).lookup k = (kix ks k).bind (vs[·]?)
  | [], [], _, _ => rfl
  | x :: ks, v :: vs, k, l => by
    have ih := lookup_zip ks vs k (by simpa using l)
    rw [List.zip_cons_cons, kix, List.lookup_cons]
    by_cases e : x = k
    · subst e; simp
    · rw [if_neg e, show (k == x) = false by simpa using fun q => e q.symm, ih]
      cases kix ks k <;> rfl
theorem kix_lt {κ : Type} [DecidableEq κ] : ∀ {ks : List κ} {k : κ} {j : Nat}, kix ks k = some j → j < ks.length
  | [], _, _, h => by cases h
  | x :: ks, k, j, h => by
    rw [kix] at h
    split at h
    · cases h; simp
    · cases q : kix ks k with
      | none => rw [q] at h; cases h
      | some i => rw [q] at h; cases h; simpa using kix_lt q
def dKey : D → Option Key
  | .int i => some (.inl i)
  | .str x => some (.inr x)
  | _ => none
def dKeys : List D → Option (List Key)
  | [] => some []
  | d :: ds => match dKey d, dKeys ds with
    | some k, some ks => some (k :: ks)
    | _, _ => none
def dKeyT : D → Option (List Key)
  | .nd false .tup xs => dKeys xs
  | _ => none
/-- the place of a key in a dict -/
def dIx : Kd → D → Option Nat
  | .dK ks, d => (dKey d).bind (kix ks)
  | .dT ks, d => (dKeyT d).bind (kix ks)
  | _, _ => none
section
variable {K : PySem.W.Frag} {cl : Nat → Addr} {W : WX} {F F' H H' F1 H1 : Hp} {σ σ' σ1 : L2.St} {ρ ρ' ρ1 : Env} {As As' As1 : Nat → Ads} {T T1 T2 S S1 S2 Z Z1 Z2 : List Nat} {A A1 O O' : Ads} {v : V} {d : D}
theorem dKey_ok {k : Key} (h : Fz K cl F v d) (e : dKey d = some k) : v = kV k := by
  cases h <;> cases e <;> rfl
theorem dKeys_ok {vs : List V} {ds : List D} (h : FzL K cl F vs ds) : ∀ {ks : List Key}, dKeys ds = some ks → vs = ks.map kV := by
  induction h with
  | nil => intro ks e; cases e; rfl
  | @cons v d vs ds h t ih =>
    intro ks e
    unfold dKeys at e
    cases q : dKey d with
    | none => rw [q] at e; cases e
    | some k =>
      cases q2 : dKeys ds with
      | none => rw [q, q2] at e; cases e
      | some ks' =>
        rw [q, q2] at e
        cases e
        rw [List.map_cons, dKey_ok h q, ih q2]
theorem dKeyT_ok {k : List Key} (h : Fz K cl F v d) (e : dKeyT d = some k) : ∃ b, v = .ref b ∧ F b = some (.tup (k.map kV)) := by
  cases d with
  | nd o kd xs =>
    cases o with
    | true => cases e
    | false =>
      cases kd with
      | tup =>
        obtain ⟨a, vs, rfl, h1, h2⟩ := h.kids
        exact ⟨a, rfl, by rw [← dKeys_ok h2 e]; exact h1⟩
      | _ => cases e
  | _ => cases e
/-- what a dict holds -/
theorem dget_ok {k : Kd} {a : Addr} {vs : List V} {y : V} {dy : D} (s : Same F H) (h : At K cl H k a vs) (hy : Fz K cl F y dy) (hk : (∃ ks, k = .dK ks ∧ (dKey dy).isSome = true) ∨ ∃ ks, k = .dT ks ∧ (dKeyT dy).isSome = true) : DGet H a y ((dIx k dy).bind (vs[·]?)) := by
  rcases hk with ⟨ks, rfl, hk⟩ | ⟨ks, rfl, hk⟩
  · obtain ⟨key, e⟩ := Option.isSome_iff_exists.mp hk
    refine .inl ⟨ks.zip vs, key, h.2, dKey_ok hy e, ?_⟩
    rw [valV_zip ks vs key h.1, dIx, e]
    rfl
  · obtain ⟨key, e⟩ := Option.isSome_iff_exists.mp hk
    obtain ⟨b, rfl, hb⟩ := dKeyT_ok hy e
    refine .inr ⟨ks.zip vs, key, b, h.2, rfl, s _ _ hb, ?_⟩
    rw [valV_zip ks vs key h.1, dIx, e]
    rfl
def isKey : Kd → D → Bool
  | .dK _, d => (dKey d).isSome
  | .dT _, d => (dKeyT d).isSome
  | _, _ => false
theorem isKey_ok {k : Kd} {dy : D} (h : isKey k dy = true) : (∃ ks, k = .dK ks ∧ (dKey dy).isSome = true) ∨ ∃ ks, k = .dT ks ∧ (dKeyT dy).isSome = true := by
  cases k with
  | dK ks => exact .inl ⟨ks, rfl, h⟩
  | dT ks => exact .inr ⟨ks, rfl, h⟩
  | _ => cases h

/-! ### the node at a place -/
theorem RP.node {R : Nat} {p : List Nat} (st : StOk K cl F H σ ρ As) (h : RP K cl R F H σ ρ (.pl p d) v A) : ∃ (a : Addr) (k : Kd) (xs : List D) (vs : List V) (B : Nat → Ads) (vr : V) (dr : D), v = .ref a ∧ d = .nd true k xs ∧ σ[R]? = some (some vr) ∧ ρ[R]? = some (some dr) ∧ Pth cl H vr dr p (.ref a) (.nd true k xs) ∧ Ob cl H k a vs ∧ vs.length = xs.length ∧
    (∀ (i : Nat) (w : V) (x : D), vs[i]? = some w → xs[i]? = some x → Own K cl F H w x (B i)) ∧ (∀ (i j : Nat) (b : Addr), B i b → B j b → i = j) ∧ (∀ (i : Nat) (b : Addr), B i b → i < xs.length) ∧ (∀ (i : Nat) (b : Addr), B i b → As R b) ∧ (∀ i, ¬ B i a) ∧ As R a ∧
    ∀ (N : Ads) (o : HO) (k' : Kd) (vs' : List V) (xs' : List D) (B' : Nat → Ads), (∀ i b, As i b → ¬ N b) → (∀ b, N b → F b = none) → Ob cl (upd H a o) k' a vs' → vs'.length = xs'.length → (∀ (i : Nat) (w : V) (x : D), vs'[i]? = some w → xs'[i]? = some x → Own K cl F H w x (B' i)) →
      (∀ (i j : Nat) (b : Addr), B' i b → B' j b → i = j) → (∀ (i : Nat) (b : Addr), B' i b → i < xs'.length) → (∀ i b, B' i b → (∃ j, B j b) ∨ N b) →
      ∃ As' : Nat → Ads, StOk K cl F (upd H a o) σ (ρ.set R (some (putD p (.nd true k' xs') dr))) As' ∧ Step F H (fun c => U As c ∨ N c) F (upd H a o) (U As') ∧ (∀ j, j ≠ R → ∀ b, As' j b ↔ As j b) ∧ (∀ b, (∃ j, B j b) ∨ N b → (∀ i, ¬ B' i b) → ∀ i, ¬ As' i b) := by
  obtain ⟨vr, dr, h1, h2, h3⟩ := h.2
  obtain ⟨vr', h1', ow⟩ := st.sl R dr h2
  rw [h1] at h1'; cases h1'
  obtain ⟨A1, o1, sub, rep⟩ := ow.focus h3
  have hd : ∃ a k xs, v = .ref a ∧ d = .nd true k xs := by
    clear rep o1 sub ow h2 h1 h
    induction h3 with
    | nil => exact ⟨_, _, _, rfl, rfl⟩
    | cons _ _ _ _ ih => exact ih
  obtain ⟨a, k, xs, rfl, rfl⟩ := hd
  cases o1 with
  | fz q e => cases q
  | @nd _ _ vs _ B _ ob l c dj na lt hA =>
    refine ⟨a, k, xs, vs, B, vr, dr, rfl, rfl, h1, h2, h3, ob, l, c, dj, lt, fun i b q => sub b ((hA b).mpr (.inr ⟨i, q⟩)), na, sub a ((hA a).mpr (.inl rfl)), fun N o k' vs' xs' B' hN ho ob' l' c' dj' lt' sb' => ?_⟩
    have aR : As R a := sub a ((hA a).mpr (.inl rfl))
    have nB' : ∀ i, ¬ B' i a := fun i z => by
      rcases sb' i a z with ⟨j, z⟩ | z
      · exact na j z
      · exact hN R a aR z
    have kpA : ∀ b u, b ≠ a → H b = some u → upd H a o b = some u := fun b u n e => by rw [upd_ne n]; exact e
    have nF : ∀ b u, F b = some u → b ≠ a := fun b u e z => by rw [z, st.off R a aR] at e; cases e
    have sub' : Same F (upd H a o) := fun b u e => kpA b u (nF b u e) (st.sub b u e)
    have own' : Own K cl F (upd H a o) (.ref a) (.nd true k' xs') (fun b => b = a ∨ ∃ i, B' i b) := .nd ob' l' (fun i w x hw hx => (c' i w x hw hx).frame (fun _ _ q => q) fun b u q e => kpA b u (fun z => nB' i (z ▸ q)) e) dj' nB' lt' fun _ => .rfl
    have R1 := rep F (upd H a o) (.nd true k' xs') _ (fun _ _ q => q) own' (fun b u q n e => kpA b u (fun z => n ((hA b).mpr (.inl z))) e) (fun b q => ?_)
    · have fp : ∀ b, ((As R b ∧ ¬ A1 b) ∨ (b = a ∨ ∃ i, B' i b)) → As R b ∨ N b := fun b q => by
        rcases q with q | rfl | ⟨i, q⟩
        · exact .inl q.1
        · exact .inl aR
        · rcases sb' i b q with ⟨j, q⟩ | q
          · exact .inl (sub b ((hA b).mpr (.inr ⟨j, q⟩)))
          · exact .inr q
      have st2 := st.slot (N := N) h1 h2 (fun _ _ q => q) sub' R1 fp (fun i b q => hN i b q) (fun i b u hi q e => kpA b u (fun z => hi (st.dj i R b q (z ▸ aR))) e) (fun i b _ q => st.off i b q) (fun b q => (fp b q).elim (st.off R b) (ho b))
      refine ⟨_, st2, ⟨fun _ _ q => q, fun b u e n => kpA b u (fun z => n (.inl ⟨R, z ▸ aR⟩)) e, fun b ⟨i, q⟩ => .inl ?_, fun _ _ q => .inl q⟩, fun j hj b => ?_, fun b hb nb i q => ?_⟩
      · try dsimp only at q
        by_cases hi : i = R
        · rw [if_pos hi] at q
          exact (fp b q).imp (fun z => ⟨R, z⟩) id
        · rw [if_neg hi] at q
          exact .inl ⟨i, q⟩
      · try dsimp only
        rw [if_neg hj]
      · try dsimp only at q
        by_cases hi : i = R
        · rw [if_pos hi] at q
          rcases hb with ⟨j, hb⟩ | hb
          · rcases q with q | q | ⟨j', q⟩
            · exact q.2 ((hA b).mpr (.inr ⟨j, hb⟩))
            · exact na j (q ▸ hb)
            · exact nb j' q
          · rcases q with q | q | ⟨j', q⟩
            · exact hN R b q.1 hb
            · exact hN R a aR (q ▸ hb)
            · exact nb j' q
        · rw [if_neg hi] at q
          rcases hb with ⟨j, hb⟩ | hb
          · exact hi (st.dj i R b q (sub b ((hA b).mpr (.inr ⟨j, hb⟩))))
          · exact hN i b q hb
    · rcases q with rfl | ⟨i, q⟩
      · exact .inl ((hA b).mpr (.inl rfl))
      · rcases sb' i b q with ⟨j, q⟩ | q
        · exact .inl ((hA b).mpr (.inr ⟨j, q⟩))
        · exact .inr fun z => hN R b z q

/-! ### places below places -/
/-- the child of a place -/
def PR.kid (r : PR) (j : Nat) : Option PR := match r with
  | .vl (.nd false _ xs) => xs[j]?.map .vl
  | .pl p (.nd true _ xs) => xs[j]?.map fun x => if isF x = true then .vl x else .pl (p ++ [j]) x
  | _ => none
def PR.kd : PR → Option Kd
  | .vl (.nd false k _) => some k
  | .pl _ (.nd true k _) => some k
  | _ => none
def PR.size : PR → Nat
  | .vl (.nd false _ xs) => xs.length
  | .pl _ (.nd true _ xs) => xs.length
  | _ => 0
theorem RP.at' {R : Nat} {r : PR} {k : Kd} (st : StOk K cl F H σ ρ As) (h : RP K cl R F H σ ρ r v A) (hk : r.kd = some k) : ∃ a vs, v = .ref a ∧ At K cl H k a vs ∧ vs.length = r.size ∧
    ∀ (j : Nat) (c : PR), r.kid j = some c → ∃ w, vs[j]? = some w ∧ RP K cl R F H σ ρ c w E0 := by
  cases r with
  | vl d =>
    cases d with
    | nd o k' xs =>
      cases o with
      | true => cases hk
      | false =>
        cases hk
        obtain ⟨a, vs, rfl, h1, h2⟩ := (show Fz K cl F v _ from h.2).kids
        refine ⟨a, vs, rfl, h1.same st.sub, h2.len, fun j c hc => ?_⟩
        have hc : xs[j]?.map PR.vl = some c := hc
        cases q : xs[j]? with
        | none => rw [q] at hc; cases hc
        | some x =>
          rw [q] at hc
          cases hc
          have hj : j < vs.length := by rw [h2.len]; exact (List.getElem?_eq_some_iff.mp q).1
          exact ⟨vs[j], by simp [hj], fun _ z => z, h2.get j vs[j] x (by simp [hj]) q⟩
    | _ => cases hk
  | pl p d =>
    obtain ⟨a, k', xs, vs, B, vr, dr, rfl, rfl, h1, h2, h3, ob, l, c, _⟩ := RP.node st h
    cases hk
    refine ⟨a, vs, rfl, ob.at, l, fun j r' hc => ?_⟩
    have hc : xs[j]?.map (fun x => if isF x = true then PR.vl x else PR.pl (p ++ [j]) x) = some r' := hc
    cases q : xs[j]? with
    | none => rw [q] at hc; cases hc
    | some x =>
      rw [q] at hc
      cases hc
      have hj : j < vs.length := by rw [l]; exact (List.getElem?_eq_some_iff.mp q).1
      have hv : vs[j]? = some vs[j] := by simp [hj]
      refine ⟨vs[j], hv, fun _ z => z, ?_⟩
      have ow := c j vs[j] x hv q
      dsimp only
      by_cases hf : isF x = true
      · rw [if_pos hf]
        exact (ow.isF hf).1
      · rw [if_neg hf]
        obtain ⟨b, kb, xb, e1, rfl, _⟩ := ow.root (by simpa using hf)
        refine ⟨vr, dr, h1, h2, ?_⟩
        rw [e1] at hv ⊢
        exact h3.snoc ob hv q
def isSeq : Kd → Bool
  | .lst => true
  | .ro => true
  | .tup => true
  | .rt => true
  | _ => false
/-- x[i] of a list, a tuple, by its rule -/
def IxP (K : PySem.W.Frag) (r : R2) : Prop := ∀ (H : Hp) (a : Addr) (vs : List V) (i : Int) (v : V) (Q : VK), (SqL K H a vs ∨ SqT K H a vs) → atI vs i = some v → Q v H → r (.ref a) (.int i) H Q
theorem ixP_seq : IxP K (rIx K) := fun H a vs i v Q h e q => h.elim (fun h => .inl ⟨a, vs, i, v, rfl, rfl, h, e, q⟩) fun h => .inr (.inl ⟨a, vs, i, v, rfl, rfl, h, e, q⟩)
theorem At.seq {k : Kd} {a : Addr} {vs : List V} (h : At K cl H k a vs) (s : isSeq k = true) : SqL K H a vs ∨ SqT K H a vs := by
  cases k with
  | lst => exact .inl (SqL.of h)
  | ro => exact .inl h
  | tup => exact .inr (SqT.of h)
  | rt => exact .inr h
  | _ => cases s
def mpIx (ma : M PR) (mb : M D) : M PR := ma.bind fun a => mb.bind fun b => M.lift (match b, a.kd with
  | .int i, some k => if isSeq k = true then (ixN a.size i).bind a.kid else none
  | _, _ => none)
theorem sp_ix {R : Nat} {r : R2} {ta tb : TE} {ma : M PR} {mb : M D} (hr : IxP K r) (ha : Snd K cl W (RP K cl R) ta ma T1) (hb : Snd K cl W (RE K cl) tb mb T2) (n : R ∉ T2) : Snd K cl W (RP K cl R) (tOp r ta tb) (mpIx ma mb) (T1 ++ T2) := by
  intro σ H Q F ρ As r' ρ' st e hq hx
  refine ha.thn st e (fun a ρ1 x F1 H1 As1 A1 u e1 => ?_) hx
  refine hb.thn u.st e1 (fun b ρ2 y F2 H2 As2 A2 w e2 => ?_) fun c hc F' H' As' z => hx c hc F' H' As' (AftX.after u z)
  obtain ⟨c, ec, rfl, rfl⟩ := M.lift_some e2
  have pa : RP K cl R F2 H2 σ ρ' a x A1 := u.rel.carry u.st w.stp w.kp n
  cases b with
  | int i =>
    cases hk : a.kd with
    | none => rw [hk] at ec; cases ec
    | some k =>
      rw [hk] at ec
      have ec : (if isSeq k = true then (ixN a.size i).bind a.kid else none) = some c := ec
      split at ec
      · rename_i hs
        obtain ⟨ad, vs, rfl, h1, h2, h3⟩ := pa.at' w.st hk
        cases hj : ixN a.size i with
        | none => rw [hj] at ec; cases ec
        | some j =>
          rw [hj] at ec
          obtain ⟨v, hv, pc⟩ := h3 j c ec
          obtain ⟨fz, nA⟩ := w.rel.isF rfl
          cases fz
          refine hr H2 ad vs i v Q (h1.seq hs) (by unfold atI; rw [h2, hj]; exact hv) (hq c rfl v F2 H2 As2 E0 ⟨w.st, pc, fun _ _ _ z => z, fun _ z => z.elim, ?_, u.kp.trans w.kp fun j hj => by simpa [not_or] using hj⟩)
          exact u.stp.trans w.stp (fun _ q => .inl (.inl q)) fun c q => q.elim (fun q => .inl (.inl q)) False.elim
      · cases ec
  | _ => cases ec
def mpDg (ma : M PR) (mb : M D) : M PR := ma.bind fun a => mb.bind fun b => M.lift (match a.kd with
  | some k => if isKey k (frz b) = true then (dIx k (frz b)).bind a.kid else none
  | none => none)
theorem sp_dg {R : Nat} {ta tb : TE} {ma : M PR} {mb : M D} (ha : Snd K cl W (RP K cl R) ta ma T1) (hb : Snd K cl W (RE K cl) tb mb T2) (n : R ∉ T2) : Snd K cl W (RP K cl R) (tDGet ta tb) (mpDg ma mb) (T1 ++ T2) := by
  intro σ H Q F ρ As r' ρ' st e hq hx
  refine ha.thn st e (fun a ρ1 x F1 H1 As1 A1 u e1 => ?_) hx
  refine hb.thn u.st e1 (fun b ρ2 y F2 H2 As2 A2 w e2 => ?_) fun c hc F' H' As' z => hx c hc F' H' As' (AftX.after u z)
  obtain ⟨c, ec, rfl, rfl⟩ := M.lift_some e2
  cases hk : a.kd with
  | none => rw [hk] at ec; cases ec
  | some k =>
    rw [hk] at ec
    have ec : (if isKey k (frz b) = true then (dIx k (frz b)).bind a.kid else none) = some c := ec
    split at ec
    · rename_i hs
      obtain ⟨st3, s3, p3⟩ := w.st.ice w.ds w.off
      have fy := w.rel.ice w.off fun _ q => q
      have pa : RP K cl R F2 H2 σ ρ' a x A1 := u.rel.carry u.st w.stp w.kp n
      have pa3 : RP K cl R (glue F2 H2 A2) H2 σ ρ' a x A1 := ⟨pa.1, by
        have h2 := pa.2
        cases a with
        | vl d => exact Fz.same s3 h2
        | pl p d => exact h2⟩
      obtain ⟨ad, vs, rfl, h1, h2, h3⟩ := pa3.at' st3 hk
      cases hj : dIx k (frz b) with
      | none => rw [hj] at ec; cases ec
      | some j =>
        rw [hj] at ec
        obtain ⟨v, hv, pc⟩ := h3 j c ec
        have g := dget_ok st3.sub h1 fy (isKey_ok hs)
        rw [hj] at g
        have g : DGet H2 ad y vs[j]? := g
        rw [hv] at g
        refine ⟨ad, v, rfl, g, hq c rfl v _ H2 As2 E0 ⟨st3, pc, fun _ _ _ z => z, fun _ z => z.elim, ?_, u.kp.trans w.kp fun j hj => by simpa [not_or] using hj⟩⟩
        exact u.stp.trans (w.stp.trans p3 (fun _ q => .inl q) fun _ q => .inl q) (fun _ q => .inl (.inl q)) fun c q => q.elim (fun q => .inl q) False.elim
    · cases ec
def mpFld (c : Nat) (f : Str) (ma : M PR) : M PR := ma.bind fun a => M.lift (match a.kd with
  | some (.ins c' ns) => if c' = c then (kix ns f).bind a.kid else none
  | _ => none)
theorem sp_fld {R : Nat} {ta : TE} {ma : M PR} {c : Nat} {f : Str} {C : Addr} (hC : cl c = C) (hc : Cls K C) (hn : NoAttr K C f) (ha : Snd K cl W (RP K cl R) ta ma T) : Snd K cl W (RP K cl R) (tFld K ta f) (mpFld c f ma) T := by
  intro σ H Q F ρ As r' ρ' st e hq hx
  refine ha.thn st e (fun a ρ1 x F1 H1 As1 A1 u e1 => ?_) hx
  obtain ⟨p, ep, rfl, rfl⟩ := M.lift_some e1
  cases hk : a.kd with
  | none => rw [hk] at ep; cases ep
  | some k =>
    rw [hk] at ep
    cases k with
    | ins c' ns =>
      replace ep : (if c' = c then (kix ns f).bind a.kid else none) = some p := ep
      by_cases hcc : c' = c
      · rw [if_pos hcc] at ep
        subst hcc
        obtain ⟨ad, vs, rfl, h1, h2, h3⟩ := u.rel.at' u.st hk
        obtain ⟨l, dx, ho⟩ := h1
        cases hj : kix ns f with
        | none => rw [hj] at ep; cases ep
        | some j =>
          rw [hj] at ep
          obtain ⟨v, hv, pc⟩ := h3 j p ep
          rw [hC] at ho
          refine ⟨ad, C, dx, _, v, rfl, ho, hc, hn, by rw [lookup_zip ns vs f l, hj]; exact hv, hq p rfl v F1 H1 As1 E0 ⟨u.st, pc, fun _ _ _ z => z, fun _ z => z.elim, u.stp.weak fun c q => .inl (q.elim id False.elim), u.kp⟩⟩
      · rw [if_neg hcc] at ep
        cases ep
    | _ => cases ep

/-! ### what is asked of a place -/
def PkS (K : PySem.W.Frag) (cl : Nat → Addr) (r : V → Hp → VK → Prop) (f : D → Option D) : Prop := ∀ (F H : Hp) (x : V) (dx d : D) (Q : VK), Same F H → View K cl F H x dx → f dx = some d → (∀ v F' H' A, New K cl F H v d F' H' A → Q v H') → r x H Q
def mPk (f : D → Option D) (ma : M PR) : M D := ma.bind fun a => M.lift (f a.tree)
theorem s_pk {R : Nat} {t : TE} {r : V → Hp → VK → Prop} {f : D → Option D} {ma : M PR} (ha : Snd K cl W (RP K cl R) t ma T) (hf : PkS K cl r f) : Snd K cl W (RE K cl) (fun σ H Q => t σ H fun x H1 => r x H1 Q) (mPk f ma) T := by
  intro σ H Q F ρ As r' ρ' st e hq hx
  refine ha.thn st e (fun a ρ1 b F1 H1 As1 A1 x e1 => ?_) hx
  obtain ⟨d, ed, rfl, rfl⟩ := M.lift_some e1
  refine hf F1 H1 b a.tree d Q x.st.sub (x.rel.view x.st) ed fun v F2 H2 A2 n => ?_
  obtain ⟨st3, d3, p3, k3⟩ := x.st.new (T := T) n
  exact hq d rfl v F2 H2 As1 A2 ⟨st3, n.own, d3, n.off, x.stp.trans p3 (fun _ q => .inl (.inl q)) fun _ q => .inl q, x.kp.trans k3 fun j hj => ⟨hj, hj⟩⟩
/-- two frozen values, or a frozen one and a place -/
def Pk2 (K : PySem.W.Frag) (cl : Nat → Addr) (r : V → V → Hp → VK → Prop) (f : D → D → Option D) : Prop := ∀ (F H : Hp) (y x : V) (dy dx d : D) (Q : VK), Same F H → Fz K cl F y dy → View K cl F H x dx → f dy dx = some d → (∀ v F' H' A, New K cl F H v d F' H' A → Q v H') → r y x H Q
def mPk2 (f : D → D → Option D) (mb : M D) (ma : M PR) : M D := mb.bind fun b => ma.bind fun a => M.lift (f (frz b) a.tree)
theorem s_pk2 {R : Nat} {ty t : TE} {r : V → V → Hp → VK → Prop} {f : D → D → Option D} {mb : M D} {ma : M PR} (hb : Snd K cl W (RE K cl) ty mb T1) (ha : Snd K cl W (RP K cl R) t ma T2) (hf : Pk2 K cl r f) : Snd K cl W (RE K cl) (fun σ H Q => ty σ H fun y H1 => t σ H1 fun x H2 => r y x H2 Q) (mPk2 f mb ma) (T1 ++ T2) := by
  intro σ H Q F ρ As r' ρ' st e hq hx
  refine hb.thn st e (fun b ρ1 y F1 H1 As1 A1 u e1 => ?_) hx
  refine ha.thn u.st e1 (fun a ρ2 x F2 H2 As2 A2 w e2 => ?_) fun c hc F' H' As' z => hx c hc F' H' As' (AftX.after u z)
  obtain ⟨d, ed, rfl, rfl⟩ := M.lift_some e2
  obtain ⟨tm, nO⟩ := u.carry w.stp
  obtain ⟨st3, s3, p3⟩ := w.st.ice (A := A1) (fun i c q z => nO c z (.inl ⟨i, q⟩)) tm.off
  have pa3 : RP K cl R (glue F2 H2 A1) H2 σ ρ' a x A2 := ⟨w.rel.1, by
    have h2 := w.rel.2
    cases a with
    | vl d => exact Fz.same s3 h2
    | pl p d => exact h2⟩
  refine hf _ H2 y x (frz b) a.tree d Q st3.sub (tm.own.ice tm.off fun _ q => q) (pa3.view st3) ed fun v F4 H4 A4 n => ?_
  obtain ⟨st4, d4, p4, k4⟩ := st3.new (T := T1 ++ T2) n
  refine hq d rfl v F4 H4 As2 A4 ⟨st4, n.own, d4, n.off, ?_, (u.kp.trans w.kp (T'' := T1 ++ T2) fun j hj => by simpa [not_or] using hj).trans k4 fun j hj => ⟨hj, hj⟩⟩
  have q1 : Step F H (U As) F2 H2 (fun c => U As2 c ∨ A1 c) := u.stp.trans w.stp (fun _ q => .inl (.inl q)) fun c q => q.elim (fun q => .inl (.inl q)) fun q => .inr (.inr q)
  exact q1.trans (p3.trans p4 (fun _ q => .inl q) fun _ q => .inl q) (fun _ q => .inl q) fun _ q => .inl q
end
end Pv

/-! Pv8 -/
set_option Elab.async false
set_option linter.all false
set_option maxRecDepth 100000
set_option maxHeartbeats 1000000
namespace Pv
open PySem L2
section
variable {K : PySem.W.Frag} {cl : Nat → Addr} {W : WX} {F F' H H' F1 H1 : Hp} {σ σ' σ1 : L2.St} {ρ ρ' ρ1 : Env} {As As' As1 : Nat → Ads} {T T1 T2 S S1 S2 Z Z1 Z2 : List Nat} {A A1 O O' : Ads} {v : V} {d : D}
theorem putK_zip_some {κ : Type} [DecidableEq κ] : ∀ (ks : List κ) (vs : List V) (k : κ) (y : V) (j : Nat), ks.length = vs.length → ks.Nodup → kix ks k = some j → putK (ks.zip vs) k y = ks.zip (vs.set j y)
  | [], _, _, _, _, _, _, h => by cases h
  | x :: ks, [], _, _, _, l, _, _ => by cases l
  | x :: ks, v :: vs, k, y, j, l, nd, h => by
    have nd' := List.nodup_cons.mp nd
    rw [kix] at h
    by_cases e : x = k
    · rw [if_pos e] at h
      cases h
      subst e
      unfold putK
      rw [if_pos (by simp)]
      simp only [List.zip_cons_cons, List.map_cons, if_true, List.set_cons_zero, List.cons.injEq, true_and]
      have : ∀ kv ∈ ks.zip vs, (if kv.1 = x then (kv.1, y) else kv) = id kv := fun kv hk => if_neg fun q => by
        have z := (List.of_mem_zip (a := kv.1) (b := kv.2) hk).1
        rw [q] at z
        exact nd'.1 z
      exact (List.map_congr_left this).trans (List.map_id _)
    · rw [if_neg e] at h
      cases q : kix ks k with
      | none => rw [q] at h; cases h
      | some i =>
        rw [q] at h
        cases h
        have ih := putK_zip_some ks vs k y i (by simpa using l) nd'.2 q
        unfold putK at ih ⊢
        have ha : ((ks.zip vs).any fun kv => decide (kv.1 = k)) = true := by
          have := valV_any k (ks.zip vs)
          rw [valV_zip ks vs k (by simpa using l), q] at this
          rw [this]
          have hi : i < vs.length := by have := kix_lt q; simp at l; omega
          simp [hi]
        rw [if_pos ha] at ih
        rw [if_pos (by simp only [List.zip_cons_cons, List.any_cons, ha, Bool.or_true])]
        simp only [List.zip_cons_cons, List.map_cons, if_neg e, List.set_cons_succ, List.cons.injEq, true_and]
        exact ih
theorem putK_zip_none {κ : Type} [DecidableEq κ] (ks : List κ) (vs : List V) (k : κ) (y : V) (l : ks.length = vs.length) (h : kix ks k = none) : putK (ks.zip vs) k y = (ks ++ [k]).zip (vs ++ [y]) := by
  rw [putK_new y (by rw [valV_zip ks vs k l, h]; rfl), List.zip_append l]
  rfl
theorem kix_none {κ : Type} [DecidableEq κ] : ∀ {ks : List κ} {k : κ}, kix ks k = none → k ∉ ks
  | [], _, _ => by simp
  | x :: ks, k, h => by
    rw [kix] at h
    split at h
    · cases h
    · rename_i e
      cases q : kix ks k with
      | none => simp only [List.mem_cons, not_or]; exact ⟨fun z => e z.symm, kix_none q⟩
      | some i => rw [q] at h; cases h
theorem putF_zip_some : ∀ (ks : List Str) (vs : List V) (k : Str) (y : V) (j : Nat), ks.length = vs.length → kix ks k = some j → putF k y (ks.zip vs) = ks.zip (vs.set j y)
  | [], _, _, _, _, _, h => by cases h
  | x :: ks, [], _, _, _, l, _ => by cases l
  | x :: ks, v :: vs, k, y, j, l, h => by
    rw [kix] at h
    rw [List.zip_cons_cons, putF]
    by_cases e : x = k
    · rw [if_pos e] at h
      cases h
      rw [if_pos e]; rfl
    · rw [if_neg e] at h
      cases q : kix ks k with
      | none => rw [q] at h; cases h
      | some i =>
        rw [q] at h
        cases h
        rw [if_neg e, putF_zip_some ks vs k y i (by simpa using l) q]; rfl
theorem putF_zip_none : ∀ (ks : List Str) (vs : List V) (k : Str) (y : V), ks.length = vs.length → kix ks k = none → putF k y (ks.zip vs) = (ks ++ [k]).zip (vs ++ [y])
  | [], [], _, _, _, _ => rfl
  | x :: ks, v :: vs, k, y, l, h => by
    rw [kix] at h
    rw [List.zip_cons_cons, putF]
    by_cases e : x = k
    · rw [if_pos e] at h; cases h
    · rw [if_neg e] at h
      cases q : kix ks k with
      | some i => rw [q] at h; cases h
      | none => rw [if_neg e, putF_zip_none ks vs k y (by simpa using l) q]; rfl
/-! ### children changed -/
theorem kids_set {F H : Hp} {vs : List V} {xs : List D} {B : Nat → Ads} {N : Ads} {w : V} {e : D} {j : Nat} (l : vs.length = xs.length) (c : ∀ (i : Nat) (w : V) (x : D), vs[i]? = some w → xs[i]? = some x → Own K cl F H w x (B i)) (dj : ∀ (i j : Nat) (b : Addr), B i b → B j b → i = j)
    (lt : ∀ (i : Nat) (b : Addr), B i b → i < xs.length) (hj : j < xs.length) (o : Own K cl F H w e N) (hn : ∀ i b, B i b → ¬ N b) :
    (vs.set j w).length = (xs.set j e).length ∧ (∀ (i : Nat) (u : V) (x : D), (vs.set j w)[i]? = some u → (xs.set j e)[i]? = some x → Own K cl F H u x (if i = j then N else B i)) ∧ (∀ (i i' : Nat) (b : Addr), (if i = j then N else B i : Ads) b → (if i' = j then N else B i' : Ads) b → i = i') ∧
      (∀ (i : Nat) (b : Addr), (if i = j then N else B i : Ads) b → i < (xs.set j e).length) ∧ ∀ (i : Nat) (b : Addr), (if i = j then N else B i : Ads) b → (∃ k, B k b) ∨ N b := by
  refine ⟨by simp [l], fun i u x hu hx => ?_, fun i i' b h h' => ?_, fun i b h => ?_, fun i b h => ?_⟩
  · by_cases hi : i = j
    · subst hi
      rw [List.getElem?_set_self (by omega)] at hu
      rw [List.getElem?_set_self hj] at hx
      cases hu; cases hx
      rw [if_pos rfl]; exact o
    · rw [List.getElem?_set_ne (Ne.symm hi)] at hu hx
      rw [if_neg hi]; exact c i u x hu hx
  · by_cases hi : i = j <;> by_cases hi' : i' = j
    · rw [hi, hi']
    · rw [if_pos hi] at h; rw [if_neg hi'] at h'; exact (hn i' b h' h).elim
    · rw [if_neg hi] at h; rw [if_pos hi'] at h'; exact (hn i b h h').elim
    · rw [if_neg hi] at h; rw [if_neg hi'] at h'; exact dj i i' b h h'
  · rw [List.length_set]
    by_cases hi : i = j
    · omega
    · rw [if_neg hi] at h; exact lt i b h
  · by_cases hi : i = j
    · rw [if_pos hi] at h; exact .inr h
    · rw [if_neg hi] at h; exact .inl ⟨i, h⟩
theorem kids_snoc {F H : Hp} {vs : List V} {xs : List D} {B : Nat → Ads} {N : Ads} {w : V} {e : D} (l : vs.length = xs.length) (c : ∀ (i : Nat) (w : V) (x : D), vs[i]? = some w → xs[i]? = some x → Own K cl F H w x (B i)) (dj : ∀ (i j : Nat) (b : Addr), B i b → B j b → i = j)
    (lt : ∀ (i : Nat) (b : Addr), B i b → i < xs.length) (o : Own K cl F H w e N) (hn : ∀ i b, B i b → ¬ N b) :
    (vs ++ [w]).length = (xs ++ [e]).length ∧ (∀ (i : Nat) (u : V) (x : D), (vs ++ [w])[i]? = some u → (xs ++ [e])[i]? = some x → Own K cl F H u x (if i = xs.length then N else B i)) ∧ (∀ (i i' : Nat) (b : Addr), (if i = xs.length then N else B i : Ads) b → (if i' = xs.length then N else B i' : Ads) b → i = i') ∧
      (∀ (i : Nat) (b : Addr), (if i = xs.length then N else B i : Ads) b → i < (xs ++ [e]).length) ∧ ∀ (i : Nat) (b : Addr), (if i = xs.length then N else B i : Ads) b → (∃ k, B k b) ∨ N b := by
  refine ⟨by simp [l], fun i u x hu hx => ?_, fun i i' b h h' => ?_, fun i b h => ?_, fun i b h => ?_⟩
  · by_cases hi : i = xs.length
    · subst hi
      rw [List.getElem?_append_right (by omega)] at hu hx
      rw [l] at hu
      simp at hu hx
      subst hu hx
      rw [if_pos rfl]; exact o
    · have hl : i < xs.length := by
        have := (List.getElem?_eq_some_iff.mp hx).1
        simp at this
        omega
      rw [List.getElem?_append_left (by omega)] at hu hx
      rw [if_neg hi]; exact c i u x hu hx
  · by_cases hi : i = xs.length <;> by_cases hi' : i' = xs.length
    · rw [hi, hi']
    · rw [if_pos hi] at h; rw [if_neg hi'] at h'; exact (hn i' b h' h).elim
    · rw [if_neg hi] at h; rw [if_pos hi'] at h'; exact (hn i b h h').elim
    · rw [if_neg hi] at h; rw [if_neg hi'] at h'; exact dj i i' b h h'
  · simp only [List.length_append, List.length_singleton]
    by_cases hi : i = xs.length
    · omega
    · rw [if_neg hi] at h; have := lt i b h; omega
  · by_cases hi : i = xs.length
    · rw [if_pos hi] at h; exact .inr h
    · rw [if_neg hi] at h; exact .inl ⟨i, h⟩
/-- children taken by an injection of places -/
theorem kids_map {F H : Hp} {vs vs' : List V} {xs xs' : List D} {B : Nat → Ads} (f : Nat → Nat) (c : ∀ (i : Nat) (w : V) (x : D), vs[i]? = some w → xs[i]? = some x → Own K cl F H w x (B i)) (dj : ∀ (i j : Nat) (b : Addr), B i b → B j b → i = j)
    (inj : ∀ i j, i < xs'.length → j < xs'.length → f i = f j → i = j) (hv : ∀ i, i < xs'.length → vs'[i]? = vs[f i]?) (hx : ∀ i, i < xs'.length → xs'[i]? = xs[f i]?) :
    (∀ (i : Nat) (u : V) (x : D), vs'[i]? = some u → xs'[i]? = some x → Own K cl F H u x (if i < xs'.length then B (f i) else fun _ => False)) ∧ (∀ (i i' : Nat) (b : Addr), (if i < xs'.length then B (f i) else fun _ => False : Ads) b → (if i' < xs'.length then B (f i') else fun _ => False : Ads) b → i = i') ∧
      (∀ (i : Nat) (b : Addr), (if i < xs'.length then B (f i) else fun _ => False : Ads) b → i < xs'.length) ∧ ∀ (i : Nat) (b : Addr), (if i < xs'.length then B (f i) else fun _ => False : Ads) b → (∃ k, B k b) ∨ False := by
  refine ⟨fun i u x hu hy => ?_, fun i i' b h h' => ?_, fun i b h => ?_, fun i b h => ?_⟩
  · have hi := (List.getElem?_eq_some_iff.mp hy).1
    rw [if_pos hi]
    exact c (f i) u x (by rw [← hv i hi]; exact hu) (by rw [← hx i hi]; exact hy)
  · by_cases hi : i < xs'.length <;> by_cases hi' : i' < xs'.length
    · rw [if_pos hi] at h; rw [if_pos hi'] at h'; exact inj i i' hi hi' (dj _ _ b h h')
    · rw [if_neg hi'] at h'; exact h'.elim
    · rw [if_neg hi] at h; exact h.elim
    · rw [if_neg hi] at h; exact h.elim
  · by_cases hi : i < xs'.length
    · exact hi
    · rw [if_neg hi] at h; exact h.elim
  · by_cases hi : i < xs'.length
    · rw [if_pos hi] at h; exact .inl ⟨_, h⟩
    · rw [if_neg hi] at h; exact h.elim

theorem nn : ∀ j, j ∉ ([] : List Nat) → j ∉ ([] : List Nat) ∧ j ∉ ([] : List Nat) := fun j h => ⟨h, h⟩
/-! ### statements that change a place -/
def mSetIx (R : Nat) (me : M D) (ma : M PR) (mi : M D) : MS := mThen me fun e => mThen ma fun a => mThen mi fun i ρ => match a, i, ρ[R]? with
  | .pl p (.nd true .lst xs), .int i, some (some dr) => (match ixN xs.length i with
    | some j => some (.nx, ρ.set R (some (putD p (.nd true .lst (xs.set j e)) dr)))
    | none => none)
  | _, _, _ => none
theorem ss_setIx {R : Nat} {te ta ti : TE} {me mi : M D} {ma : M PR} (he : Snd K cl W (RE K cl) te me T) (ha : Snd K cl W (RP K cl R) ta ma T1) (hi : Snd K cl W (RE K cl) ti mi T2) (n : R ∉ T2) : SndS K cl W (tAsg te (gSub ta ti rSetL)) (mSetIx R me ma mi) [] := by
  intro σ H G F ρ As r ρ' st e k
  refine SndE.then' he st e k fun e0 ρ1 x F1 H1 As1 A1 u e1 => ?_
  show ta σ H1 fun o H2 => ti σ H2 fun i H3 => rSetL o i x H3 fun H4 => G.nx σ H4
  refine SndE.then' ha u.st e1 (k.after u.toS nn) fun a ρ2 y F2 H2 As2 A2 w e2 => ?_
  refine SndE.then' hi w.st e2 ((k.after u.toS nn).after w.toS nn) fun i ρ3 z F3 H3 As3 A3 q e3 => ?_
  have pa : RP K cl R F3 H3 σ ρ3 a y A2 := w.rel.carry w.st q.stp q.kp n
  have s23 : Step F1 H1 (U As1) F3 H3 (fun c => U As3 c ∨ A3 c) := w.stp.trans q.stp (fun _ q => .inl (.inl q)) fun c q => q.elim (fun q => .inl (.inl q)) fun q => .inl (.inr q)
  obtain ⟨tm, nO⟩ := u.carry s23
  cases a with
  | vl d => cases e3
  | pl p d =>
    obtain ⟨ad, k', xs, vs, B, vr, dr, rfl, rfl, h1, h2, h3, ob, l, c, dj, lt, sb, na, aR, upd'⟩ := RP.node q.st pa
    rw [h2] at e3
    cases i with
    | int i =>
      cases k' with
      | lst =>
        have e3 : (match ixN xs.length i with | some j => some (Fl.nx, ρ3.set R (some (putD p (.nd true .lst (xs.set j e0)) dr))) | none => none) = some (r, ρ') := e3
        cases hj : ixN xs.length i with
        | none => rw [hj] at e3; cases e3
        | some j =>
          rw [hj] at e3
          cases e3
          obtain ⟨fz, _⟩ := q.rel.isF rfl
          cases fz
          have hjl : j < xs.length := (ixN_seq hj).2.1
          obtain ⟨l', c', dj', lt', sb'⟩ := kids_set (N := A1) (w := x) (e := e0) l c dj lt hjl tm.own fun i b hb hA => nO b hA (.inl ⟨R, sb i b hb⟩)
          obtain ⟨As', st', stp', _⟩ := upd' A1 (.lst (vs.set j x)) .lst (vs.set j x) (xs.set j e0) _ (fun i b hb hA => nO b hA (.inl ⟨i, hb⟩)) tm.off upd_same l' c' dj' lt' sb'
          refine ⟨ad, vs, i, j, rfl, rfl, ob, by rw [l]; exact hj, k.nx rfl σ F3 _ As' ⟨st', fun _ _ _ z => z, fun _ z => z.elim, ?_, fun _ _ => rfl, rfl⟩⟩
          exact ((u.stp.trans s23 (fun _ q => .inl (.inl q)) fun c q => q.imp (fun q => .inl q) fun q => .inr q).trans stp' (fun c q => .inl q) fun _ q => .inl q).weak fun _ q => q.elim id False.elim
      | _ => cases e3
    | _ => cases k' <;> cases e3
/-- the dict with one more or another value -/
def dPut (k : Kd) (xs : List D) (key e : D) : Option (Kd × List D) := match k with
  | .dK ks => (match dKey key with
    | some q => (match kix ks q with
      | some j => some (.dK ks, xs.set j e)
      | none => if ks.length < 16777216 then some (.dK (ks ++ [q]), xs ++ [e]) else none)
    | none => none)
  | .dT ks => (match dKeyT key with
    | some q => (match kix ks q with
      | some j => some (.dT ks, xs.set j e)
      | none => if ks.length < 16777216 then some (.dT (ks ++ [q]), xs ++ [e]) else none)
    | none => none)
  | _ => none
def mDPut (R : Nat) (me : M D) (ma : M PR) (mi : M D) : MS := mThen me fun e => mThen ma fun a => mThen mi fun i ρ => match a, ρ[R]? with
  | .pl p (.nd true k xs), some (some dr) => if xs.length < 16777216 then (match dPut k xs (frz i) e with
    | some (k', xs') => some (.nx, ρ.set R (some (putD p (.nd true k' xs') dr)))
    | none => none) else none
  | _, _ => none
theorem ss_dput {R : Nat} {te ta ti : TE} {me mi : M D} {ma : M PR} (he : Snd K cl W (RE K cl) te me T) (ha : Snd K cl W (RP K cl R) ta ma T1) (hi : Snd K cl W (RE K cl) ti mi T2) (n : R ∉ T2) : SndS K cl W (sDPut ta ti te) (mDPut R me ma mi) [] := by
  intro σ H G F ρ As r ρ' st e k
  refine SndE.then' he st e k fun e0 ρ1 x F1 H1 As1 A1 u e1 => ?_
  refine SndE.then' ha u.st e1 (k.after u.toS nn) fun a ρ2 y F2 H2 As2 A2 w e2 => ?_
  refine SndE.then' hi w.st e2 ((k.after u.toS nn).after w.toS nn) fun i ρ3 z F3 H3 As3 A3 q e3 => ?_
  have pa : RP K cl R F3 H3 σ ρ3 a y A2 := w.rel.carry w.st q.stp q.kp n
  have s23 : Step F1 H1 (U As1) F3 H3 (fun c => U As3 c ∨ A3 c) := w.stp.trans q.stp (fun _ q => .inl (.inl q)) fun c q => q.elim (fun q => .inl (.inl q)) fun q => .inl (.inr q)
  obtain ⟨tm, nO⟩ := u.carry s23
  obtain ⟨st4, s4, p4⟩ := q.st.ice q.ds q.off
  have fy := q.rel.ice q.off fun _ q => q
  cases a with
  | vl d => cases e3
  | pl p d =>
    have pa4 : RP K cl R (glue F3 H3 A3) H3 σ ρ3 (.pl p d) y A2 := pa
    obtain ⟨ad, kd, xs, vs, B, vr, dr, rfl, rfl, h1, h2, h3, ob, l, c, dj, lt, sb, na, aR, upd'⟩ := RP.node st4 pa4
    rw [h2] at e3
    have e3 : (if xs.length < 16777216 then (match dPut kd xs (frz i) e0 with | some (k', xs') => some (Fl.nx, ρ3.set R (some (putD p (.nd true k' xs') dr))) | none => none) else none) = some (r, ρ') := e3
    split at e3
    · rename_i hlen
      have nA1 : ∀ c, A1 c → ¬ A3 c := fun c h h' => nO c h (.inr h')
      have tm4 : Tm K cl (glue F3 H3 A3) H3 x e0 A1 := ⟨tm.own.frame s4 fun _ _ _ e => e, fun c h => by rw [glue_out (nA1 c h)]; exact tm.off c h⟩
      have total : Step F H (U As) (glue F3 H3 A3) H3 (fun c => U As3 c ∨ A1 c) := (u.stp.trans s23 (fun _ q => .inl (.inl q)) (O3 := fun c => (U As3 c ∨ A3 c) ∨ A1 c) fun c q => q.elim (fun q => .inl q) fun q => .inr (.inr q)).trans p4 (fun c q => .inl (.inl q)) fun c q => q.elim (fun q => .inl q) fun q => .inr (.inr q)
      have fin : ∀ (k' : Kd) (xs' : List D) (o : HO) (vs' : List V) (B' : Nat → Ads), some (Fl.nx, ρ3.set R (some (putD p (.nd true k' xs') dr))) = some (r, ρ') → Ob cl (upd H3 ad o) k' ad vs' → vs'.length = xs'.length → (∀ (i : Nat) (w : V) (x : D), vs'[i]? = some w → xs'[i]? = some x → Own K cl (glue F3 H3 A3) H3 w x (B' i)) →
          (∀ (i j : Nat) (b : Addr), B' i b → B' j b → i = j) → (∀ (i : Nat) (b : Addr), B' i b → i < xs'.length) → (∀ i b, B' i b → (∃ j, B j b) ∨ A1 b) → G.nx σ (upd H3 ad o) := fun k' xs' o vs' B' er ob' l' c' dj' lt' sb' => by
        cases er
        obtain ⟨As', st', stp', _⟩ := upd' A1 o k' vs' xs' B' (fun i b hb hA => nO b hA (.inl ⟨i, hb⟩)) tm4.off ob' l' c' dj' lt' sb'
        exact k.nx rfl σ _ _ As' ⟨st', fun _ _ _ z => z, fun _ z => z.elim, (total.trans stp' (fun c q => .inl q) fun _ q => .inl q).weak fun _ q => q.elim id False.elim, fun _ _ => rfl, rfl⟩
      have hB : ∀ i b, B i b → ¬ A1 b := fun i b hb hA => nO b hA (.inl ⟨R, sb i b hb⟩)
      cases kd with
      | dK ks =>
        obtain ⟨⟨lk, ndk⟩, ho⟩ := id ob
        cases hq : dKey (frz i) with
        | none => simp only [dPut, hq] at e3; cases e3
        | some key =>
          have hz := dKey_ok fy hq
          cases hk : kix ks key with
          | some j =>
            simp only [dPut, hq, hk] at e3
            have hj : j < xs.length := by have := kix_lt hk; omega
            obtain ⟨l', c', dj', lt', sb'⟩ := kids_set (N := A1) (w := x) (e := e0) l c dj lt hj tm4.own hB
            refine ⟨ad, _, rfl, .inl ⟨_, key, ho, hz, by rw [sizeLine_eq, List.length_zip]; omega, rfl⟩, fin (.dK ks) (xs.set j e0) _ (vs.set j x) _ e3 ⟨⟨by simp [lk], ndk⟩, ?_⟩ l' c' dj' lt' sb'⟩
            rw [putK_zip_some ks vs key x j lk ndk hk]; exact upd_same
          | none =>
            have hp : dPut (.dK ks) xs (frz i) e0 = (if ks.length < 16777216 then some (.dK (ks ++ [key]), xs ++ [e0]) else none) := by simp only [dPut, hq, hk]
            rw [hp] at e3
            by_cases hks : ks.length < 16777216
            · rw [if_pos hks] at e3
              obtain ⟨l', c', dj', lt', sb'⟩ := kids_snoc (N := A1) (w := x) (e := e0) l c dj lt tm4.own hB
              refine ⟨ad, _, rfl, .inl ⟨_, key, ho, hz, by rw [sizeLine_eq, List.length_zip]; omega, rfl⟩, fin (.dK (ks ++ [key])) (xs ++ [e0]) _ (vs ++ [x]) _ e3 ⟨⟨by simp [lk], ?_⟩, ?_⟩ l' c' dj' lt' sb'⟩
              · exact List.nodup_append.mpr ⟨ndk, by simp, fun a ha b hb => by simp at hb; subst hb; exact fun q => kix_none hk (q ▸ ha)⟩
              · rw [putK_zip_none ks vs key x lk hk]; exact upd_same
            · rw [if_neg hks] at e3; cases e3
      | dT ks =>
        obtain ⟨⟨lk, ndk⟩, ho⟩ := id ob
        cases hq : dKeyT (frz i) with
        | none => simp only [dPut, hq] at e3; cases e3
        | some key =>
          obtain ⟨b, hz, hb⟩ := dKeyT_ok fy hq
          have hb := st4.sub _ _ hb
          cases hk : kix ks key with
          | some j =>
            simp only [dPut, hq, hk] at e3
            have hj : j < xs.length := by have := kix_lt hk; omega
            obtain ⟨l', c', dj', lt', sb'⟩ := kids_set (N := A1) (w := x) (e := e0) l c dj lt hj tm4.own hB
            refine ⟨ad, _, rfl, .inr ⟨_, key, b, ho, hz, hb, by rw [sizeLine_eq, List.length_zip]; omega, rfl⟩, fin (.dT ks) (xs.set j e0) _ (vs.set j x) _ e3 ⟨⟨by simp [lk], ndk⟩, ?_⟩ l' c' dj' lt' sb'⟩
            rw [putK_zip_some ks vs key x j lk ndk hk]; exact upd_same
          | none =>
            have hp : dPut (.dT ks) xs (frz i) e0 = (if ks.length < 16777216 then some (.dT (ks ++ [key]), xs ++ [e0]) else none) := by simp only [dPut, hq, hk]
            rw [hp] at e3
            by_cases hks : ks.length < 16777216
            · rw [if_pos hks] at e3
              obtain ⟨l', c', dj', lt', sb'⟩ := kids_snoc (N := A1) (w := x) (e := e0) l c dj lt tm4.own hB
              refine ⟨ad, _, rfl, .inr ⟨_, key, b, ho, hz, hb, by rw [sizeLine_eq, List.length_zip]; omega, rfl⟩, fin (.dT (ks ++ [key])) (xs ++ [e0]) _ (vs ++ [x]) _ e3 ⟨⟨by simp [lk], ?_⟩, ?_⟩ l' c' dj' lt' sb'⟩
              · exact List.nodup_append.mpr ⟨ndk, by simp, fun a ha b hb => by simp at hb; subst hb; exact fun q => kix_none hk (q ▸ ha)⟩
              · rw [putK_zip_none ks vs key x lk hk]; exact upd_same
            · rw [if_neg hks] at e3; cases e3
      | lst => cases e3
      | ro => cases e3
      | tup => cases e3
      | rt => cases e3
      | ins c ns => cases e3
    · cases e3
def mSFld (R c : Nat) (f : Str) (me : M D) (ma : M PR) : MS := mThen me fun e => mThen ma fun a ρ => match a, ρ[R]? with
  | .pl p (.nd true (.ins c' ns) xs), some (some dr) => if c' = c ∧ ns.length < 1000 then (match kix ns f with
    | some j => some (.nx, ρ.set R (some (putD p (.nd true (.ins c ns) (xs.set j e)) dr)))
    | none => some (.nx, ρ.set R (some (putD p (.nd true (.ins c (ns ++ [f])) (xs ++ [e])) dr)))) else none
  | _, _ => none
theorem ss_fld {R c : Nat} {f : Str} {te ta : TE} {me : M D} {ma : M PR} {C : Addr} (hC : cl c = C) (hc : Cls K C) (hn : NoAttr K C f) (he : Snd K cl W (RE K cl) te me T) (ha : Snd K cl W (RP K cl R) ta ma T1) : SndS K cl W (sFld K ta te f) (mSFld R c f me ma) [] := by
  intro σ H G F ρ As r ρ' st e k
  refine SndE.then' he st e k fun e0 ρ1 x F1 H1 As1 A1 u e1 => ?_
  refine SndE.then' ha u.st e1 (k.after u.toS nn) fun a ρ2 y F2 H2 As2 A2 w e2 => ?_
  obtain ⟨tm, nO⟩ := u.carry w.stp
  cases a with
  | vl d => cases e2
  | pl p d =>
    obtain ⟨ad, kd, xs, vs, B, vr, dr, rfl, rfl, h1, h2, h3, ob, l, c0, dj, lt, sb, na, aR, upd'⟩ := RP.node w.st w.rel
    cases kd with
    | ins c' ns =>
      rw [h2] at e2
      replace e2 : (if c' = c ∧ ns.length < 1000 then (match kix ns f with | some j => some (Fl.nx, ρ2.set R (some (putD p (.nd true (.ins c ns) (xs.set j e0)) dr))) | none => some (Fl.nx, ρ2.set R (some (putD p (.nd true (.ins c (ns ++ [f])) (xs ++ [e0])) dr)))) else none) = some (r, ρ') := e2
      by_cases hcc : c' = c ∧ ns.length < 1000
      · rw [if_pos hcc] at e2
        obtain ⟨rfl, hl⟩ := hcc
        obtain ⟨lk, dx, ho⟩ := id ob
        rw [hC] at ho
        have hB : ∀ i b, B i b → ¬ A1 b := fun i b hb hA => nO b hA (.inl ⟨R, sb i b hb⟩)
        have total : Step F H (U As) F2 H2 (fun c => U As2 c ∨ A1 c) := u.stp.trans w.stp (fun c q => .inl (.inl q)) fun c q => q.elim (fun q => .inl (.inl q)) fun q => .inr (.inr q)
        have fin : ∀ (k' : Kd) (xs' : List D) (o : HO) (vs' : List V) (B' : Nat → Ads), some (Fl.nx, ρ2.set R (some (putD p (.nd true k' xs') dr))) = some (r, ρ') → Ob cl (upd H2 ad o) k' ad vs' → vs'.length = xs'.length → (∀ (i : Nat) (w : V) (x : D), vs'[i]? = some w → xs'[i]? = some x → Own K cl F2 H2 w x (B' i)) →
            (∀ (i j : Nat) (b : Addr), B' i b → B' j b → i = j) → (∀ (i : Nat) (b : Addr), B' i b → i < xs'.length) → (∀ i b, B' i b → (∃ j, B j b) ∨ A1 b) → G.nx σ (upd H2 ad o) := fun k' xs' o vs' B' er ob' l' c' dj' lt' sb' => by
          cases er
          obtain ⟨As', st', stp', _⟩ := upd' A1 o k' vs' xs' B' (fun i b hb hA => nO b hA (.inl ⟨i, hb⟩)) tm.off ob' l' c' dj' lt' sb'
          exact k.nx rfl σ _ _ As' ⟨st', fun _ _ _ z => z, fun _ z => z.elim, (total.trans stp' (fun c q => .inl q) fun _ q => .inl q).weak fun _ q => q.elim id False.elim, fun _ _ => rfl, rfl⟩
        refine ⟨ad, C, dx, _, rfl, ho, hc, hn, by rw [List.length_zip]; omega, ?_⟩
        cases hk : kix ns f with
        | some j =>
          rw [hk] at e2
          have hj : j < xs.length := by have := kix_lt hk; omega
          obtain ⟨l', c1, dj', lt', sb'⟩ := kids_set (N := A1) (w := x) (e := e0) l c0 dj lt hj tm.own hB
          refine fin (.ins c' ns) (xs.set j e0) _ (vs.set j x) _ e2 ⟨by simp [lk], dx, ?_⟩ l' c1 dj' lt' sb'
          rw [putF_zip_some ns vs f x j lk hk, hC]; exact upd_same
        | none =>
          rw [hk] at e2
          obtain ⟨l', c1, dj', lt', sb'⟩ := kids_snoc (N := A1) (w := x) (e := e0) l c0 dj lt tm.own hB
          refine fin (.ins c' (ns ++ [f])) (xs ++ [e0]) _ (vs ++ [x]) _ e2 ⟨by simp [lk], dx, ?_⟩ l' c1 dj' lt' sb'
          rw [putF_zip_none ns vs f x lk hk, hC]; exact upd_same
      · rw [if_neg hcc] at e2; cases e2
    | _ => cases e2
/-! ### methods of lists -/
/-- a list of our own -/
def PR.isOwn : PR → Bool
  | .pl _ (.nd true .lst _) => true
  | _ => false
def M.chk {α : Type} (b : Bool) (m : M α) : M α := fun ρ => if b = true then m ρ else none
def mApp (R : Nat) (ma : M PR) (me : M D) : M D := ma.bind fun a => M.chk a.isOwn (me.bind fun e => fun ρ => match a, ρ[R]? with
  | .pl p (.nd true .lst xs), some (some dr) => if xs.length < 16777216 then some (.ok .non, ρ.set R (some (putD p (.nd true .lst (xs ++ [e])) dr))) else none
  | _, _ => none)
theorem PR.own_ty {R : Nat} {r : PR} (st : StOk K cl F H σ ρ As) (h : RP K cl R F H σ ρ r v A) (b : r.isOwn = true) : tyV K "list" v H := by
  cases r with
  | vl d => cases b
  | pl p d =>
    obtain ⟨ad, kd, xs, vs, B, vr, dr, rfl, rfl, h1, h2, h3, ob, _⟩ := RP.node st h
    cases kd with
    | lst => exact .inl ⟨rfl, vs, SqL.of ob⟩
    | _ => cases b
theorem Keeps.root {R : Nat} {As2 : Nat → Ads} {H2 : Hp} {ρ2 : Env} {dr : D} {a : Addr} {o : HO} (aR : As1 R a) (dj : ∀ i j b, As1 i b → As1 j b → i = j) (h : ∀ j, j ≠ R → ∀ b, As2 j b ↔ As1 j b) : Keeps ρ2 (ρ2.set R (some dr)) As1 As2 H2 (upd H2 a o) [R] :=
  ⟨fun j hj => by
    have hj : j ≠ R := by simpa using hj
    exact ⟨List.getElem?_set_ne (Ne.symm hj), h j hj, fun b u q e => by
      have nb : b ≠ a := fun z => by subst z; exact hj (dj j R b q aR)
      rw [upd_ne nb]; exact e⟩⟩
theorem s_app {R : Nat} {ta te : TE} {ma : M PR} {me : M D} (ha : Snd K cl W (RP K cl R) ta ma T1) (he : Snd K cl W (RE K cl) te me T2) (n : R ∉ T2) : Snd K cl W (RE K cl) (tBM K "list" rAppend ta (tCons te tNil)) (mApp R ma me) (T1 ++ T2 ++ [R]) := by
  intro σ H Q F ρ As r' ρ' st e hq hx
  refine ha.thn st e (fun a ρ1 y F1 H1 As1 A1 u e1 => ?_) hx
  unfold M.chk at e1
  split at e1
  rotate_left
  · cases e1
  rename_i ok
  refine ⟨PR.own_ty u.st u.rel ok, ?_⟩
  refine he.thn u.st e1 (fun e0 ρ2 x F2 H2 As2 A2 w e2 => ?_) fun c hc F' H' As' z => hx c hc F' H' As' (AftX.after u z)
  have pa : RP K cl R F2 H2 σ ρ2 a y A1 := u.rel.carry u.st w.stp w.kp n
  cases a with
  | vl d => cases e2
  | pl p d =>
    obtain ⟨ad, kd, xs, vs, B, vr, dr, rfl, rfl, h1, h2, h3, ob, l, c, dj, lt, sb, na, aR, upd'⟩ := RP.node w.st pa
    cases kd with
    | lst =>
      rw [h2] at e2
      have e2 : (if xs.length < 16777216 then some (Rs.ok D.non, ρ2.set R (some (putD p (.nd true .lst (xs ++ [e0])) dr))) else none) = some (r', ρ') := e2
      split at e2
      · rename_i hl
        cases e2
        obtain ⟨l', c', dj', lt', sb'⟩ := kids_snoc (N := A2) (w := x) (e := e0) l c dj lt w.rel fun i b hb hA => w.ds R b (sb i b hb) hA
        obtain ⟨As', st', stp', oth, _⟩ := upd' A2 (.lst (vs ++ [x])) .lst (vs ++ [x]) (xs ++ [e0]) _ (fun i b hb hA => w.ds i b hb hA) w.off upd_same l' c' dj' lt' sb'
        refine ⟨ad, vs, x, rfl, rfl, ob, by rw [sizeLine_eq, l]; exact hl, hq .non rfl .non F2 _ As' E0 ⟨st', .fz .non fun _ z => z, fun _ _ _ z => z, fun _ z => z.elim, ?_, ?_⟩⟩
        · exact ((u.stp.trans w.stp (fun _ q => .inl (.inl q)) fun c q => .inl q).trans stp' (fun c q => .inl q) fun _ q => .inl q).weak fun _ q => q.elim id False.elim
        · exact (u.kp.trans w.kp (T'' := T1 ++ T2) fun j hj => by simpa [not_or] using hj).trans (Keeps.root aR w.st.dj oth) fun j hj => by simpa [not_or, and_assoc] using hj
      · cases e2
    | _ => cases e2
end
end Pv

/-! Pv9 -/
set_option Elab.async false
set_option linter.all false
set_option maxRecDepth 100000
set_option maxHeartbeats 1000000
namespace Pv
open PySem L2
section
variable {K : PySem.W.Frag} {cl : Nat → Addr} {W : WX} {F F' H H' F1 H1 : Hp} {σ σ' σ1 : L2.St} {ρ ρ' ρ1 : Env} {As As' As1 : Nat → Ads} {T T1 T2 S S1 S2 Z Z1 Z2 : List Nat} {A A1 O O' : Ads} {v : V} {d : D}
/-- xs.pop(), xs.pop(i): one child out -/
def mPop (R : Nat) (ma : M PR) : M D := ma.bind fun a => fun ρ => match a, ρ[R]? with
  | .pl p (.nd true .lst xs), some (some dr) => (match xs[xs.length - 1]? with
    | some y => some (.ok y, ρ.set R (some (putD p (.nd true .lst xs.dropLast) dr)))
    | none => none)
  | _, _ => none
theorem s_pop {R : Nat} {ta : TE} {ma : M PR} (ha : Snd K cl W (RP K cl R) ta ma T1) : Snd K cl W (RE K cl) (tBM0 K "list" rPop ta) (mPop R ma) (T1 ++ [R]) := by
  intro σ H Q F ρ As r' ρ' st e hq hx
  refine ha.thn st e (fun a ρ1 y F1 H1 As1 A1 u e1 => ?_) hx
  cases a with
  | vl d => cases e1
  | pl p d =>
    obtain ⟨ad, kd, xs, vs, B, vr, dr, rfl, rfl, h1, h2, h3, ob, l, c, dj, lt, sb, na, aR, upd'⟩ := RP.node u.st u.rel
    rw [h2] at e1
    cases kd with
    | lst =>
      have e1 : (match xs[xs.length - 1]? with | some y => some (Rs.ok y, ρ1.set R (some (putD p (.nd true .lst xs.dropLast) dr))) | none => none) = some (r', ρ') := e1
      cases hy : xs[xs.length - 1]? with
      | none => rw [hy] at e1; cases e1
      | some y =>
        rw [hy] at e1
        cases e1
        have hl : xs.length - 1 < xs.length := (List.getElem?_eq_some_iff.mp hy).1
        obtain ⟨w, hv⟩ : ∃ w, vs[vs.length - 1]? = some w := ⟨vs[vs.length - 1]'(by omega), by simp [show vs.length - 1 < vs.length by omega]⟩
        have oy := c (xs.length - 1) w y (by rw [← l]; exact hv) hy
        obtain ⟨c', dj', lt', sb'⟩ := kids_map (xs' := xs.dropLast) (vs' := vs.dropLast) (fun i => i) c dj (fun _ _ _ _ q => q) (fun i hi => by
          rw [List.length_dropLast] at hi
          rw [List.getElem?_dropLast, if_pos (by omega)]) (fun i hi => by
          rw [List.length_dropLast] at hi
          rw [List.getElem?_dropLast, if_pos (by omega)])
        obtain ⟨As', st', stp', oth, out⟩ := upd' (fun _ => False) (.lst vs.dropLast) .lst vs.dropLast xs.dropLast _ (fun _ _ _ z => z) (fun _ z => z.elim) upd_same (by simp [l]) c' dj' lt' sb'
        have kp : ∀ b u, B (xs.length - 1) b → H1 b = some u → upd H1 ad (.lst vs.dropLast) b = some u := fun b u q e => by
          have nb : b ≠ ad := fun z => by subst z; exact na _ q
          rw [upd_ne nb]; exact e
        have ns : ∀ i b, B (xs.length - 1) b → ¬ As' i b := fun i b q => out b (.inl ⟨_, q⟩) (fun j hj => by
          try dsimp only at hj
          by_cases hjl : j < xs.dropLast.length
          · rw [if_pos hjl] at hj
            have e := dj _ _ b hj q
            rw [List.length_dropLast] at hjl
            omega
          · rw [if_neg hjl] at hj; exact hj) i
        refine ⟨.inl ⟨rfl, vs, SqL.of ob⟩, ad, vs, w, rfl, rfl, ob, hv, hq y rfl w F1 _ As' (B (xs.length - 1)) ⟨st', oy.frame (fun _ _ q => q) kp, fun i b q z => ns i b z q, fun b q => u.st.off R b (sb _ b q), ?_, ?_⟩⟩
        · refine u.stp.trans (O1' := fun c => U As1 c ∨ False) (O2 := U As') stp' (fun c q => .inl (.inl (q.elim id False.elim))) fun c q => q.elim .inl fun q => .inr (.inl ⟨R, sb _ c q⟩)
        · exact u.kp.trans (Keeps.root aR u.st.dj oth) fun j hj => by simpa [not_or] using hj
    | _ => cases e1
def mPopAt (R : Nat) (ma : M PR) (mi : M D) : M D := ma.bind fun a => M.chk a.isOwn (mi.bind fun i => fun ρ => match a, i, ρ[R]? with
  | .pl p (.nd true .lst xs), .int i, some (some dr) => if -(2 ^ 63) ≤ i ∧ i < 2 ^ 63 then (match seqIndex? i xs.length with
    | some k => (match xs[k]? with
      | some y => some (.ok y, ρ.set R (some (putD p (.nd true .lst (xs.eraseIdx k)) dr)))
      | none => none)
    | none => none) else none
  | _, _, _ => none)
theorem s_popAt {R : Nat} {ta ti : TE} {ma : M PR} {mi : M D} (ha : Snd K cl W (RP K cl R) ta ma T1) (hi : Snd K cl W (RE K cl) ti mi T2) (n : R ∉ T2) : Snd K cl W (RE K cl) (tBM K "list" rPopAt ta (tCons ti tNil)) (mPopAt R ma mi) (T1 ++ T2 ++ [R]) := by
  intro σ H Q F ρ As r' ρ' st e hq hx
  refine ha.thn st e (fun a ρ1 y F1 H1 As1 A1 u e1 => ?_) hx
  unfold M.chk at e1
  split at e1
  rotate_left
  · cases e1
  rename_i ok
  refine ⟨PR.own_ty u.st u.rel ok, ?_⟩
  refine hi.thn u.st e1 (fun i ρ2 x F2 H2 As2 A2 w e2 => ?_) fun c hc F' H' As' z => hx c hc F' H' As' (AftX.after u z)
  have pa : RP K cl R F2 H2 σ ρ2 a y A1 := u.rel.carry u.st w.stp w.kp n
  cases a with
  | vl d => cases e2
  | pl p d =>
    obtain ⟨ad, kd, xs, vs, B, vr, dr, rfl, rfl, h1, h2, h3, ob, l, c, dj, lt, sb, na, aR, upd'⟩ := RP.node w.st pa
    rw [h2] at e2
    cases i with
    | int i =>
      cases kd with
      | lst =>
        replace e2 : (if -(2 ^ 63) ≤ i ∧ i < 2 ^ 63 then (match seqIndex? i xs.length with | some k => (match xs[k]? with | some y => some (Rs.ok y, ρ2.set R (some (putD p (.nd true .lst (xs.eraseIdx k)) dr))) | none => none) | none => none) else none) = some (r', ρ') := e2
        by_cases hb : -(2 ^ 63) ≤ i ∧ i < 2 ^ 63
        · rw [if_pos hb] at e2
          cases hk : seqIndex? i xs.length with
          | none => rw [hk] at e2; cases e2
          | some k =>
            rw [hk] at e2
            replace e2 : (match xs[k]? with | some y => some (Rs.ok y, ρ2.set R (some (putD p (.nd true .lst (xs.eraseIdx k)) dr))) | none => none) = some (r', ρ') := e2
            cases hy : xs[k]? with
            | none => rw [hy] at e2; cases e2
            | some y =>
              rw [hy] at e2
              cases e2
              obtain ⟨fz, _⟩ := w.rel.isF rfl
              cases fz
              have hl : k < xs.length := (List.getElem?_eq_some_iff.mp hy).1
              have hv : vs[k]? = some (vs[k]'(by omega)) := by simp [show k < vs.length by omega]
              have oy := c k _ y hv hy
              have er : ∀ {α : Type} (zs : List α) (i : Nat), (zs.eraseIdx k)[i]? = zs[if i < k then i else i + 1]? := fun zs i => by
                rw [List.getElem?_eraseIdx]
                split <;> rfl
              obtain ⟨c', dj', lt', sb'⟩ := kids_map (xs' := xs.eraseIdx k) (vs' := vs.eraseIdx k) (fun i => if i < k then i else i + 1) c dj (fun i j _ _ q => by split at q <;> split at q <;> omega) (fun i _ => er vs i) (fun i _ => er xs i)
              obtain ⟨As', st', stp', oth, out⟩ := upd' (fun _ => False) (.lst (vs.eraseIdx k)) .lst (vs.eraseIdx k) (xs.eraseIdx k) _ (fun _ _ _ z => z) (fun _ z => z.elim) upd_same (by rw [List.length_eraseIdx, List.length_eraseIdx, l]) c' dj' lt' sb'
              have kp : ∀ b u, B k b → H2 b = some u → upd H2 ad (.lst (vs.eraseIdx k)) b = some u := fun b u q e => by
                have nb : b ≠ ad := fun z => by subst z; exact na _ q
                rw [upd_ne nb]; exact e
              have ns : ∀ i b, B k b → ¬ As' i b := fun i b q => out b (.inl ⟨_, q⟩) (fun j hj => by
                try dsimp only at hj
                by_cases hjl : j < (xs.eraseIdx k).length
                · rw [if_pos hjl] at hj
                  have e := dj _ _ b hj q
                  split at e <;> omega
                · rw [if_neg hjl] at hj; exact hj) i
              refine ⟨ad, vs, i, k, _, rfl, rfl, ob, hb.1, hb.2, by rw [l]; exact hk, hv, hq y rfl _ F2 _ As' (B k) ⟨st', oy.frame (fun _ _ q => q) kp, fun i b q z => ns i b z q, fun b q => w.st.off R b (sb _ b q), ?_, ?_⟩⟩
              · have s := u.stp.trans w.stp (fun _ q => .inl (.inl q)) (O3 := U As2) fun c q => .inl (.inl q)
                exact s.trans (O1' := fun c => U As2 c ∨ False) (O2 := U As') stp' (fun c q => .inl (q.elim id False.elim)) fun c q => q.elim .inl fun q => .inr ⟨R, sb _ c q⟩
              · exact (u.kp.trans w.kp (T'' := T1 ++ T2) fun j hj => by simpa [not_or] using hj).trans (Keeps.root aR w.st.dj oth) fun j hj => by simpa [not_or, and_assoc] using hj
        · rw [if_neg hb] at e2; cases e2
      | _ => cases e2
    | _ => cases kd <;> cases e2
/-- a name that is read for the last time: what it holds goes out -/
def mMv (i : Nat) : M D := fun ρ => match ρ[i]? with
  | some (some d) => some (.ok d, ρ.set i none)
  | _ => none
theorem s_mv {i : Nat} : Snd K cl W (RE K cl) (tVar i) (mMv i) [i] := by
  intro σ H Q F ρ As r' ρ' st e hq hx
  unfold mMv at e
  split at e
  · rename_i d ed
    cases e
    obtain ⟨v, hv, ho⟩ := st.sl i d ed
    refine ⟨v, hv, hq d rfl v F H _ (As i) ⟨st.drop i, ho, fun j b q z => ?_, st.off i, Step.refl fun a q => ?_, ⟨fun j hj => ?_⟩⟩⟩
    · try dsimp only at q
      by_cases hj : j = i
      · rw [if_pos hj] at q; exact q
      · rw [if_neg hj] at q; exact hj (st.dj j i b q z)
    · rcases q with ⟨j, q⟩ | q
      · try dsimp only at q
        by_cases hj : j = i
        · rw [if_pos hj] at q; exact q.elim
        · rw [if_neg hj] at q; exact ⟨j, q⟩
      · exact ⟨i, q⟩
    · have hj : j ≠ i := by simpa using hj
      refine ⟨List.getElem?_set_ne (Ne.symm hj), fun b => ?_, fun _ _ _ e => e⟩
      try dsimp only
      rw [if_neg hj]
  · cases e
/-! ### methods of one's own classes, new instances -/
/-- the instance in the slot i, of the class c, without an attribute m -/
def hasM (c : Nat) (m : Str) : D → Bool
  | .nd _ (.ins c' ns) _ => decide (c' = c) && (kix ns m).isNone
  | _ => false
def mMeth (c : Nat) (m : Str) (i : Nat) (fx : List Bool) (fn : Fn) (ma : M (List Arg)) : M D := fun ρ => match ρ[i]? with
  | some (some d) => if hasM c m d = true then mCall fx fn (mConsS i ma) ρ else none
  | _ => none
theorem View.ins {c : Nat} {m : Str} (s : Same F H) (h : View K cl F H v d) (q : hasM c m d = true) : ∃ a dx fs, v = .ref a ∧ H a = some (.ins (cl c) dx fs) ∧ fs.lookup m = none := by
  cases d with
  | nd o k xs =>
    cases k with
    | ins c' ns =>
      replace q : (decide (c' = c) && (kix ns m).isNone) = true := q
      simp only [Bool.and_eq_true, decide_eq_true_eq, Option.isNone_iff_eq_none] at q
      obtain ⟨rfl, q⟩ := q
      rcases h with h | ⟨a, k, vs, xs', rfl, e, ob, l, _⟩
      · cases h with
        | nd h l c =>
          obtain ⟨l1, dx, ho⟩ := h
          exact ⟨_, dx, _, rfl, s _ _ ho, by rw [lookup_zip _ _ _ l1, q]; rfl⟩
      · cases e
        obtain ⟨l1, dx, ho⟩ := ob
        exact ⟨_, dx, _, rfl, ho, by rw [lookup_zip _ _ _ l1, q]; rfl⟩
    | _ => cases q
  | _ => cases q
theorem s_meth {i c : Nat} {m : Str} {t : TA} {ma : M (List Arg)} {fx : List Bool} {fn : Fn} {np : Nat} {E : XK} {C : Addr} (hC : cl c = C) (hE : ∀ σ c H, W (.ref (cl c)) none σ H → E (.ref (cl c)) none H) (ha : Snd K cl W (RA K cl S) t ma T) (hl : ∀ ρ as ρ', ma ρ = some (.ok as, ρ') → as.length + 1 = np) :
    Snd K cl W (RE K cl) (tMeth C m (spP K cl np fx fn) [] E (tVar i) t) (mMeth c m i fx fn ma) (T ++ (i :: S)) := by
  intro σ H Q F ρ As r' ρ' st e hq hx
  unfold mMeth at e
  split at e
  · rename_i d ed
    split at e
    · rename_i hm
      obtain ⟨v, hv, ho⟩ := st.sl i d ed
      obtain ⟨a, dx, fs, rfl, hH, hlk⟩ := ho.view.ins st.sub hm
      rw [hC] at hH
      refine ⟨.ref a, hv, a, dx, fs, rfl, hH, hlk, ?_⟩
      have hs := s_consS (i := i) ha
      rcases M.bind_some e with ⟨as, ρ1, e1, e2⟩ | ⟨c', e1, rfl⟩
      · unfold mConsS at e1
        rw [ed] at e1
        rcases M.bind_some e1 with ⟨as', ρ2, e3, e4⟩ | ⟨_, _, q⟩
        · cases e4
          refine ha σ H _ F ρ As _ ρ1 st e3 (fun a' q vs F1 H1 As1 A1 x => ?_) fun c q => nomatch q
          cases q
          rw [List.append_nil]
          refine call_ok x.st (ArgsOk.sl hv List.mem_cons_self (x.rel.mono fun _ z => List.mem_cons_of_mem _ z)) x.ds x.off (by rw [List.length_cons, ← x.rel.len]; exact hl _ _ _ e3) e2 (fun d hd v F' H' As' A' a b c o s k => ?_) fun c hc F' H' As' a s => ?_
          · exact hq d hd v F' H' As' A' ⟨a, b, c, o, x.stp.trans s (fun _ q => .inl q) fun _ q => .inl q, x.kp.trans k fun j hj => by simpa [not_or] using hj⟩
          · exact hE σ c H' (hx c hc F' H' As' ⟨a, x.stp.trans s (fun _ q => .inl q) fun _ q => .inl q⟩)
        · cases q
      · unfold mConsS at e1
        rw [ed] at e1
        rcases M.bind_some e1 with ⟨as', ρ2, _, e4⟩ | ⟨c'', e3, q⟩
        · cases e4
        · cases q
          exact ha σ H _ F ρ As _ ρ' st e3 (fun a q => nomatch q) fun c2 q => by cases q; exact hx _ rfl
    · cases e
  · cases e
/-- a call whose arguments are only looked at: all is frozen for its time; a flat answer -/
def isFlat : D → Bool
  | .nd _ _ _ => false
  | _ => true
def look1 (ρ : Env) : List Arg → Option (List D)
  | [] => some []
  | .tmp d :: as => (look1 ρ as).map (frz d :: ·)
  | .sl i :: as => match ρ[i]? with
    | some (some d) => (look1 ρ as).map (frz d :: ·)
    | _ => none
def mCallB (fn : Fn) (ma : M (List Arg)) : M D := ma.bind fun as => fun ρ => match look1 ρ as with
  | some ds => (match fn ds with
    | some (.ok d, _) => if isFlat d = true then some (.ok d, ρ) else none
    | some (.ex c, _) => some (.ex c, ρ)
    | none => none)
  | none => none
theorem Own.flat (h : Own K cl F H v d A) (f : isFlat d = true) : Fz K cl F1 v d := by
  cases h with
  | fz h e =>
    cases h with
    | non => exact .non
    | bl b => exact .bl b
    | int i => exact .int i
    | str x => exact .str x
    | nd => cases f
  | nd => cases f
theorem look1_ok {as : List Arg} {vs : List V} (h : ArgsOk K cl F H σ S as vs A) (st : StOk K cl F H σ ρ As) (s : Same F F1) (k : ∀ a o, U As a ∨ A a → H a = some o → F1 a = some o) : ∀ {ds : List D}, look1 ρ as = some ds → FzL K cl F1 vs ds := by
  induction h with
  | nil h => intro ds e; cases e; exact .nil
  | @tmp d v as vs A A1 A2 h t n e' ih =>
    intro ds e
    unfold look1 at e
    cases q : look1 ρ as with
    | none => rw [q] at e; cases e
    | some ds' =>
      rw [q] at e
      cases e
      exact .cons (h.freeze s fun a o z r => k a o (.inr ((e' a).mpr (.inl z))) r) (ih (fun a o z r => k a o (z.imp id fun z => (e' a).mpr (.inr z)) r) q)
  | @sl i v as vs A h m t ih =>
    intro ds e
    unfold look1 at e
    split at e
    · rename_i d ed
      cases q : look1 ρ as with
      | none => rw [q] at e; cases e
      | some ds' =>
        rw [q] at e
        cases e
        obtain ⟨v', hv', o⟩ := st.sl i d ed
        rw [h] at hv'; cases hv'
        exact .cons (o.freeze s fun a o z r => k a o (.inl ⟨i, z⟩) r) (ih k q)
    · cases e
theorem callB_ok {fx : List Bool} {fn : Fn} {np : Nat} {as : List Arg} {vs : List V} {r : Rs D} {Q : VK} {E : XK} (st : StOk K cl F H σ ρ As) (h : ArgsOk K cl F H σ S as vs A) (hd : ∀ i c, As i c → ¬ A c) (ho : ∀ c, A c → F c = none) (hl : vs.length = np)
    (e : (match look1 ρ as with | some ds => (match fn ds with | some (.ok d, _) => if isFlat d = true then some (Rs.ok d, ρ) else none | some (.ex c, _) => some (.ex c, ρ) | none => none) | none => none) = some (r, ρ'))
    (hq : ∀ d, r = .ok d → ∀ v H', ρ' = ρ → StOk K cl F H' σ ρ As → Own K cl F H' v d E0 → Step F H (fun c => U As c ∨ A c) F H' (U As) → Keeps ρ ρ As As H H' [] → Q v H')
    (hx : ∀ c, r = .ex c → ∀ H', ρ' = ρ → StOk K cl F H' σ ρ As → Step F H (fun c => U As c ∨ A c) F H' (U As) → E (.ref (cl c)) none H') : spP K cl np fx fn vs H Q E := by
  cases q : look1 ρ as with
  | none => rw [q] at e; cases e
  | some ds =>
    rw [q] at e
    have off : ∀ c, U As c ∨ A c → F c = none := fun c z => z.elim (fun ⟨i, z⟩ => st.off i c z) (ho c)
    have s1 : Same F (glue F H fun c => U As c ∨ A c) := glue_same off
    have s2 : Same (glue F H fun c => U As c ∨ A c) H := glue_sub st.sub
    have fl := look1_ok h st s1 (fun a o z e => by rw [glue_in z]; exact e) q
    cases q2 : fn ds with
    | none => simp only [q2] at e; cases e
    | some p =>
      obtain ⟨r1, outs⟩ := p
      have back : ∀ {F' H' Bs A'}, RetOk K cl fx vs outs (glue F H fun c => U As c ∨ A c) H (U fun _ => E0) F' H' Bs A' → StOk K cl F H' σ ρ As ∧ Step F H (fun c => U As c ∨ A c) F H' (U As) ∧ Keeps ρ ρ As As H H' [] := fun {F' H' Bs A'} R => by
        have kp : ∀ a o, H a = some o → H' a = some o := fun a o e => R.stp.keep a o e fun ⟨_, z⟩ => z
        exact ⟨⟨st.len, fun i d e => let ⟨v, h1, h2⟩ := st.sl i d e; ⟨v, h1, h2.frame (fun _ _ q => q) fun a o _ q => kp a o q⟩, st.em, st.dj, fun a o e => kp a o (st.sub a o e), st.off⟩, ⟨fun _ _ q => q, fun a o e _ => kp a o e, fun a q => .inl (.inl q), fun _ _ q => .inl q⟩, ⟨fun j _ => ⟨rfl, fun _ => .rfl, fun b o _ e => kp b o e⟩⟩⟩
      refine ⟨hl, _, ds, fun _ => E0, r1, outs, s2, fl.len, fun k v d h1 h2 => .fz (fl.get k v d h1 h2) fun _ z => z, fun _ _ _ z => z.elim, fun _ _ z => z.elim, fun _ _ z => z.elim, q2, fun d hr v F' H' Bs' A' ow R => ?_, fun c hr F' H' Bs' R => ?_⟩
      · subst hr
        simp only [q2] at e
        split at e
        · rename_i hf
          cases e
          obtain ⟨a, b, c⟩ := back R
          exact hq d rfl v H' rfl a (.fz (ow.flat hf) fun _ z => z) b c
        · cases e
      · subst hr
        simp only [q2] at e
        cases e
        obtain ⟨a, b, _⟩ := back R
        exact hx c rfl H' rfl a b
theorem s_callB {t : TA} {ma : M (List Arg)} {fx : List Bool} {fn : Fn} {np : Nat} {E : L2.St → XK} (hE : ∀ σ c H, W (.ref (cl c)) none σ H → E σ (.ref (cl c)) none H) (ha : Snd K cl W (RA K cl S) t ma T) (hl : ∀ ρ as ρ', ma ρ = some (.ok as, ρ') → as.length = np) :
    Snd K cl W (RE K cl) (tCallS (spP K cl np fx fn) E t) (mCallB fn ma) T := by
  intro σ H Q F ρ As r' ρ' st e hq hx
  rcases M.bind_some e with ⟨as, ρ1, e1, e2⟩ | ⟨c, e1, rfl⟩
  · refine ha σ H _ F ρ As _ ρ1 st e1 (fun a q vs F1 H1 As1 A1 x => ?_) fun c q => nomatch q
    cases q
    refine callB_ok x.st x.rel x.ds x.off (x.rel.len.symm.trans (hl _ _ _ e1)) e2 (fun d hd v H' er a b s k => ?_) fun c hc H' er a s => ?_
    · subst er
      exact hq d hd v F1 H' As1 E0 ⟨a, b, fun _ _ _ z => z, fun _ z => z.elim, x.stp.trans s (fun _ q => .inl q) fun _ q => .inl (q.elim id False.elim), x.kp.trans k fun j hj => ⟨hj, by simp⟩⟩
    · subst er
      exact hE σ c H' (hx c hc F1 H' As1 ⟨a, x.stp.trans s (fun _ q => .inl q) fun _ q => .inl q⟩)
  · exact ha σ H _ F ρ As _ ρ' st e1 (fun a q => nomatch q) fun c' q => by cases q; exact hx c rfl
def mMethB (c : Nat) (m : Str) (i : Nat) (fn : Fn) (ma : M (List Arg)) : M D := fun ρ => match ρ[i]? with
  | some (some d) => if hasM c m d = true then mCallB fn (mConsS i ma) ρ else none
  | _ => none
theorem s_methB {i c : Nat} {m : Str} {t : TA} {ma : M (List Arg)} {fx : List Bool} {fn : Fn} {np : Nat} {E : XK} {C : Addr} (hC : cl c = C) (hE : ∀ σ c H, W (.ref (cl c)) none σ H → E (.ref (cl c)) none H) (ha : Snd K cl W (RA K cl S) t ma T) (hl : ∀ ρ as ρ', ma ρ = some (.ok as, ρ') → as.length + 1 = np) :
    Snd K cl W (RE K cl) (tMeth C m (spP K cl np fx fn) [] E (tVar i) t) (mMethB c m i fn ma) T := by
  intro σ H Q F ρ As r' ρ' st e hq hx
  unfold mMethB at e
  split at e
  · rename_i d ed
    split at e
    · rename_i hm
      obtain ⟨v, hv, ho⟩ := st.sl i d ed
      obtain ⟨a, dx, fs, rfl, hH, hlk⟩ := ho.view.ins st.sub hm
      rw [hC] at hH
      refine ⟨.ref a, hv, a, dx, fs, rfl, hH, hlk, ?_⟩
      rcases M.bind_some e with ⟨as, ρ1, e1, e2⟩ | ⟨c', e1, rfl⟩
      · unfold mConsS at e1
        rw [ed] at e1
        rcases M.bind_some e1 with ⟨as', ρ2, e3, e4⟩ | ⟨_, _, q⟩
        · cases e4
          refine ha σ H _ F ρ As _ ρ1 st e3 (fun a' q vs F1 H1 As1 A1 x => ?_) fun c q => nomatch q
          cases q
          rw [List.append_nil]
          refine callB_ok x.st (ArgsOk.sl (S := i :: S) hv List.mem_cons_self (x.rel.mono fun _ z => List.mem_cons_of_mem _ z)) x.ds x.off (by rw [List.length_cons, ← x.rel.len]; exact hl _ _ _ e3) e2 (fun d hd v H' er a b s k => ?_) fun c hc H' er a s => ?_
          · subst er
            exact hq d hd v F1 H' As1 E0 ⟨a, b, fun _ _ _ z => z, fun _ z => z.elim, x.stp.trans s (fun _ q => .inl q) fun _ q => .inl (q.elim id False.elim), x.kp.trans k fun j hj => ⟨hj, by simp⟩⟩
          · subst er
            exact hE σ c H' (hx c hc F1 H' As1 ⟨a, x.stp.trans s (fun _ q => .inl q) fun _ q => .inl q⟩)
        · cases q
      · unfold mConsS at e1
        rw [ed] at e1
        rcases M.bind_some e1 with ⟨as', ρ2, _, e4⟩ | ⟨c'', e3, q⟩
        · cases e4
        · cases q
          exact ha σ H _ F ρ As _ ρ' st e3 (fun a q => nomatch q) fun c2 q => by cases q; exact hx _ rfl
    · cases e
  · cases e
/-- C(..): the new instance goes through __init__ -/
def mMake (c : Nat) (fx : List Bool) (fn : Fn) (ma : M (List Arg)) : M D := ma.bind fun as => fun ρ => match takeA as ρ with
  | some (ds, ρ1) => (match fn (.nd true (.ins c []) [] :: ds) with
    | some (.ok .non, some d :: outs) => some (.ok d, putA as fx.tail outs ρ1)
    | _ => none)
  | none => none
theorem s_make {c : Nat} {t : TA} {ma : M (List Arg)} {fx : List Bool} {fn : Fn} {np : Nat} {E : XK} {C : Addr} (hC : cl c = C) (hf : fx[0]? = some true) (ha : Snd K cl W (RA K cl S) t ma T) (hl : ∀ ρ as ρ', ma ρ = some (.ok as, ρ') → as.length + 1 = np) :
    Snd K cl W (RE K cl) (tMake C (spP K cl np fx fn) [] E t) (mMake c fx fn ma) (T ++ S) := by
  intro σ H Q F ρ As r' ρ' st e hq hx
  rcases M.bind_some e with ⟨as, ρ1, e0, e1⟩ | ⟨c', e0, rfl⟩
  rotate_left
  · exact ha σ H _ F ρ As _ ρ' st e0 (fun a q => nomatch q) fun c' q => by cases q; exact hx _ rfl
  refine ha σ H _ F ρ As _ ρ1 st e0 (fun as' qa vs F1 H1 As1 A1 x => ?_) fun c q => nomatch q
  cases qa
  intro xa dx hxa hdx ne
  cases q : takeA as ρ1 with
  | none => rw [q] at e1; cases e1
  | some p =>
    obtain ⟨ds, ρ2⟩ := p
    rw [q] at e1
    replace e1 : (match fn (.nd true (.ins c []) [] :: ds) with | some (.ok .non, some d :: outs) => some (Rs.ok d, putA as fx.tail outs ρ2) | _ => none) = some (r', ρ') := e1
    split at e1
    · rename_i d outs ef
      cases e1
      obtain ⟨l, Bs, As2, o, dj, lt, st2, s1, s2, s3, s4, s5⟩ := take_ok x.rel x.st x.ds x.off q
      generalize hH2 : upd (upd H1 dx (.own xa)) xa (.ins C dx []) = H2
      have kp : ∀ a o, H1 a = some o → H2 a = some o := fun a o e => by
        subst hH2
        rw [upd_ne (ne_of_none e hxa), upd_ne (ne_of_none e hdx)]; exact e
      have hself : H2 xa = some (.ins C dx []) := by subst hH2; exact upd_same
      have thereB : ∀ k b, Bs k b → ∃ u, H1 b = some u := fun k b q => (s2 k b q).elim (fun ⟨i, z⟩ => x.st.there i b z) fun z => by
        have hk := lt k b q
        exact (o k (vs[k]'(by omega)) ds[k] (by simp [show k < vs.length by omega]) (by simp [hk])).there b q
      have nB : ∀ k, ¬ Bs k xa := fun k z => by obtain ⟨u, hu⟩ := thereB k xa z; rw [hxa] at hu; cases hu
      have n2 : ∀ i, ¬ As2 i xa := fun i z => by obtain ⟨u, hu⟩ := st2.there i xa z; rw [hxa] at hu; cases hu
      have sF : Same F1 H2 := fun a o e => kp a o (x.st.sub a o e)
      have hF : F1 xa = none := x.st.sub.free hxa
      have st2' : StOk K cl F1 H2 σ ρ2 As2 := ⟨st2.len, fun i d e => let ⟨v, h1, h2⟩ := st2.sl i d e; ⟨v, h1, h2.frame (fun _ _ q => q) fun a o _ q => kp a o q⟩, st2.em, st2.dj, sF, st2.off⟩
      have hUB : ∀ b, U (fun k => match k with | 0 => fun b => b = xa | k + 1 => Bs k) b → b = xa ∨ U Bs b := fun b ⟨k, q⟩ => by
        cases k with
        | zero => exact .inl q
        | succ j => exact .inr ⟨j, q⟩
      refine ⟨by rw [List.append_nil, List.length_cons, ← x.rel.len]; exact hl _ _ _ e0, F1, .nd true (.ins c []) [] :: ds, fun k => match k with | 0 => fun b => b = xa | k + 1 => Bs k, .ok .non, some d :: outs, sF, by simp [l], fun k v d h1 h2 => ?_, fun i j b h h' => ?_, fun k b h => ?_, fun k b h => ?_, ef, fun d' hd v F' H' Bs' A' ow R => ?_, fun c' hc => nomatch hc⟩
      · cases k with
        | zero =>
          cases h1; cases h2
          exact .nd (k := .ins c []) (vs := []) (B := fun _ _ => False) ⟨rfl, dx, by rw [hC]; exact hself⟩ rfl (fun i v x q => by simp at q) (fun _ _ _ z => z.elim) (fun _ z => z) (fun _ _ z => z.elim) fun b => ⟨.inl, fun z => z.elim id fun ⟨_, z⟩ => z.elim⟩
        | succ k => exact (o k v d (by simpa using h1) (by simpa using h2)).frame (fun _ _ q => q) fun a o _ q => kp a o q
      · cases i with
        | zero => cases j with
          | zero => rfl
          | succ j =>
            replace h : b = xa := h
            subst h
            exact (nB j h').elim
        | succ i => cases j with
          | zero =>
            replace h' : b = xa := h'
            subst h'
            exact (nB i h).elim
          | succ j => rw [dj i j b h h']
      · cases k with
        | zero => simp
        | succ k => simpa using lt k b h
      · cases k with
        | zero =>
          replace h : b = xa := h
          subst h; exact hF
        | succ k => exact s4 k b h
      · cases hd
        obtain ⟨fz, nA⟩ := ow.isF rfl
        cases fz
        have oself : Own K cl F' H' (.ref xa) d (Bs' 0) := R.out 0 (.ref xa) d hf rfl rfl
        have n1 : ∀ i c, As2 i c → ¬ U (fun k => match k with | 0 => fun b => b = xa | k + 1 => Bs k) c := fun i c q z => (hUB c z).elim (fun z => n2 i (z ▸ q)) fun ⟨k, z⟩ => s3 k i c z q
        obtain ⟨st3, n3⟩ := st2'.carry R.stp n1 R.sub
        obtain ⟨As3, st4, s6, s7⟩ := put_ok x.rel (fx := fx.tail) (outs := outs) (Bs := fun k => Bs' (k + 1)) st3 (fun k v d h1 h2 h3 => R.out (k + 1) v d (by cases fx with | nil => cases h1 | cons a fx => simpa using h1) (by simpa using h2) (by simpa using h3)) (fun i j b hi hj => by have := R.dj _ _ b hi hj; omega) (fun k b q => R.off _ b q) fun k i b q z => n3 i b z (.inl ⟨_, q⟩)
        have big : Step F H (U As) F' H' (fun c => U As3 c ∨ Bs' 0 c) := by
          have g1 : Step F1 H1 (fun c => U As1 c ∨ A1 c) F1 H2 (fun c => (U As1 c ∨ A1 c) ∨ c = xa) := ⟨fun _ _ q => q, fun a o e _ => kp a o e, fun a q => q.imp id fun z => by rw [z]; exact hxa, fun _ _ q => .inl q⟩
          have g2 := x.stp.trans g1 (fun _ q => .inl q) (O3 := fun c => (U As1 c ∨ A1 c) ∨ c = xa) fun c q => .inl q
          refine g2.trans R.stp (fun c z => .inl ((hUB c z).elim .inr fun ⟨k, z⟩ => .inl (s2 k c z))) fun c z => ?_
          rcases z with ⟨i, z⟩ | z
          · rcases s6 i c z with z | ⟨k, z⟩
            · exact .inr (.inl (.inl ⟨i, s1 i c z⟩))
            · exact .inl (.inl ⟨_, z⟩)
          · exact .inl (.inl ⟨0, z⟩)
        refine ⟨rfl, hq d rfl (.ref xa) F' H' As3 (Bs' 0) ⟨st4, oself, fun i c q z => ?_, fun c q => R.off 0 c q, big, ⟨fun j hj => ?_⟩⟩⟩
        · rcases s6 i c q with w | ⟨k, w⟩
          · exact n3 i c w (.inl ⟨0, z⟩)
          · have := R.dj _ _ c w z; omega
        · have hj : j ∉ T ∧ j ∉ S := by simpa [not_or] using hj
          obtain ⟨e1, e2, e3⟩ := x.kp.k j hj.1
          obtain ⟨a1, a2⟩ := s5 j hj.2
          obtain ⟨b1, b2⟩ := s7 j hj.2
          refine ⟨b1.trans (a1.trans e1), fun b => (b2 b).trans ((a2 b).trans (e2 b)), fun b u q e => R.stp.keep b u (kp b u (e3 b u q e)) (n1 j b ((a2 b).mpr ((e2 b).mpr q)))⟩
    · cases e1
end
end Pv

/-! PvA -/
set_option Elab.async false
set_option linter.all false
set_option maxRecDepth 100000
set_option maxHeartbeats 1000000
namespace Pv
open PySem L2
section
variable (K : PySem.W.Frag) (cl : Nat → Addr)
/-- the iterator J brings the values ds, one after another -/
def Feeds (J : It) (F0 : Hp) (ds : List D) : Prop := ∀ (i : Nat) (F1 H1 : Hp), Same F0 F1 → Same F1 H1 →
  (ds.length ≤ i → J.stop i H1) ∧ (∀ d, ds[i]? = some d → J.go i H1 ∧ ∀ x H2, J.yld i H1 x H2 → ∃ F2, Same F2 H2 ∧ Fz K cl F2 x d ∧ Step F1 H1 (fun _ => False) F2 H2 (fun _ => False))
/-- what is walked -/
def SndI (W : WX) (wi : TI) (mi : M (List D)) (T : List Nat) : Prop :=
  ∀ (σ : L2.St) (H : Hp) (R : It → Hp → Prop) (F : Hp) (ρ : Env) (As : Nat → Ads) (r : Rs (List D)) (ρ' : Env), StOk K cl F H σ ρ As → mi ρ = some (r, ρ') →
    (∀ ds, r = .ok ds → ∀ J F' H' As', StOk K cl F' H' σ ρ' As' → Step F H (U As) F' H' (U As') → Keeps ρ ρ' As As' H H' T → Feeds K cl J F' ds → R J H') →
    (∀ c, r = .ex c → ∀ F' H' As', AftX K cl F H σ As ρ' F' H' As' → W (.ref (cl c)) none σ H') → wi σ H R
end
/-- the items of a frozen thing -/
def seqOf : D → Option (List D)
  | .nd false .lst xs => some xs
  | .nd false .ro xs => some xs
  | _ => none
def tupOf : D → Option (List D)
  | .nd false .tup xs => some xs
  | .nd false .rt xs => some xs
  | _ => none
section
variable {K : PySem.W.Frag} {cl : Nat → Addr} {W : WX} {F F' H H' F1 H1 : Hp} {σ σ' σ1 : L2.St} {ρ ρ' ρ1 : Env} {As As' As1 : Nat → Ads} {T T1 T2 S S1 S2 Z Z1 Z2 : List Nat} {A A1 O O' : Ads} {v : V} {d : D}
theorem seqOf_ok {xs : List D} (h : Fz K cl F v d) (e : seqOf d = some xs) : ∃ a vs, v = .ref a ∧ SqL K F a vs ∧ FzL K cl F vs xs := by
  unfold seqOf at e
  split at e
  · cases e
    obtain ⟨a, vs, e, h1, h2⟩ := h.kids
    exact ⟨a, vs, e, SqL.of h1, h2⟩
  · cases e
    obtain ⟨a, vs, e, h1, h2⟩ := h.kids
    exact ⟨a, vs, e, h1, h2⟩
  · cases e
theorem tupOf_ok {xs : List D} (h : Fz K cl F v d) (e : tupOf d = some xs) : ∃ a vs, v = .ref a ∧ SqT K F a vs ∧ FzL K cl F vs xs := by
  unfold tupOf at e
  split at e
  · cases e
    obtain ⟨a, vs, e, h1, h2⟩ := h.kids
    exact ⟨a, vs, e, SqT.of h1, h2⟩
  · cases e
    obtain ⟨a, vs, e, h1, h2⟩ := h.kids
    exact ⟨a, vs, e, h1, h2⟩
  · cases e
theorem FzL.at' {vs : List V} {ds : List D} (h : FzL K cl F vs ds) {i : Nat} {d : D} (e : ds[i]? = some d) : ∃ v, vs[i]? = some v ∧ Fz K cl F v d := by
  have hi : i < vs.length := by rw [h.len]; exact (List.getElem?_eq_some_iff.mp e).1
  exact ⟨vs[i], by simp [hi], h.get i vs[i] d (by simp [hi]) e⟩
theorem Step.stay : Step F1 H1 (fun _ => False) F1 H1 (fun _ => False) := Step.refl fun _ z => z
theorem feeds_list {a : Addr} {vs : List V} {ds : List D} (h : SqL K F a vs) (f : FzL K cl F vs ds) : Feeds K cl (Itl K a) F ds := fun i F1 H1 s s' => by
  have hq : SqL K H1 a vs := (s.trans s').seq h
  refine ⟨fun hl => ⟨vs, hq, by rw [f.len]; exact hl⟩, fun d e => ?_⟩
  obtain ⟨v, hv, fz⟩ := f.at' e
  refine ⟨⟨vs, v, hq, hv⟩, fun x H2 ⟨eH, hx⟩ => ⟨F1, by rw [eH]; exact s', ?_, by rw [eH]; exact .stay⟩⟩
  have := hx vs hq
  rw [hv] at this; cases this
  exact fz.same s
theorem feeds_tup {a : Addr} {vs : List V} {ds : List D} (h : SqT K F a vs) (f : FzL K cl F vs ds) : Feeds K cl (Itt K a) F ds := fun i F1 H1 s s' => by
  have hq : SqT K H1 a vs := sqT_same (s.trans s') h
  refine ⟨fun hl => ⟨vs, hq, by rw [f.len]; exact hl⟩, fun d e => ?_⟩
  obtain ⟨v, hv, fz⟩ := f.at' e
  refine ⟨⟨vs, v, hq, hv⟩, fun x H2 ⟨eH, hx⟩ => ⟨F1, by rw [eH]; exact s', ?_, by rw [eH]; exact .stay⟩⟩
  have := hx vs hq
  rw [hv] at this; cases this
  exact fz.same s
def rangeL (lo : Int) (n : Nat) : List D := (List.range n).map fun i => .int (lo + (i : Nat))
theorem feeds_range {lo : Int} {n : Nat} : Feeds K cl (Itr lo n) F (rangeL lo n) := fun i F1 H1 s s' => by
  refine ⟨fun hl => (by simpa [rangeL] using hl : n ≤ i), fun d e => ?_⟩
  unfold rangeL at e
  rw [List.getElem?_map] at e
  cases q : (List.range n)[i]? with
  | none => rw [q] at e; cases e
  | some j =>
    rw [q] at e
    obtain ⟨hi, ej⟩ := List.getElem?_eq_some_iff.mp q
    simp at hi ej
    subst ej
    cases e
    exact ⟨hi, fun x H2 ⟨eH, hx⟩ => ⟨F1, by rw [eH]; exact s', by rw [hx]; exact .int _, by rw [eH]; exact .stay⟩⟩
theorem feeds_new {J : It} {ds : List D} (h : ∀ (i : Nat) (F1 H1 : Hp), Same F F1 → Same F1 H1 → (ds.length ≤ i → J.stop i H1) ∧ ∀ d, ds[i]? = some d → J.go i H1 ∧ ∀ x H2, J.yld i H1 x H2 → ∃ T us es, x = .ref T ∧ H1 T = none ∧ H2 = upd H1 T (.tup us) ∧ d = .tup es ∧ FzL K cl F1 us es) : Feeds K cl J F ds := fun i F1 H1 s s' => by
  obtain ⟨h1, h2⟩ := h i F1 H1 s s'
  refine ⟨h1, fun d e => ?_⟩
  obtain ⟨g, y⟩ := h2 d e
  refine ⟨g, fun x H2 hy => ?_⟩
  obtain ⟨T, us, es, rfl, hT, rfl, rfl, f⟩ := y x H2 hy
  have n := new_tup s' hT f
  exact ⟨_, n.sub, (n.own.isF rfl).1, n.stp⟩
def zipL (xs ys : List D) : List D := List.zipWith (fun x y => .tup [x, y]) xs ys
theorem zipL_at {xs ys : List D} {i : Nat} {d : D} (e : (zipL xs ys)[i]? = some d) : ∃ x y, xs[i]? = some x ∧ ys[i]? = some y ∧ d = .tup [x, y] := by
  unfold zipL at e
  rw [List.getElem?_zipWith] at e
  cases h1 : xs[i]? with
  | none => rw [h1] at e; cases e
  | some x =>
    cases h2 : ys[i]? with
    | none => rw [h1, h2] at e; cases e
    | some y => rw [h1, h2] at e; cases e; exact ⟨x, y, rfl, rfl, rfl⟩
def enumL (xs : List D) : List D := xs.zipIdx.map fun p => .tup [.int (p.2 : Nat), p.1]
theorem feeds_enum {a : Addr} {vs : List V} {xs : List D} (h : SqL K F a vs) (f : FzL K cl F vs xs) : Feeds K cl (Ite K a) F (enumL xs) := feeds_new fun i F1 H1 s s' => by
  have hq : SqL K H1 a vs := (s.trans s').seq h
  refine ⟨fun hl => ⟨vs, hq, by rw [f.len]; simpa [enumL] using hl⟩, fun d e => ?_⟩
  unfold enumL at e
  rw [List.getElem?_map, List.getElem?_zipIdx] at e
  cases q : xs[i]? with
  | none => rw [q] at e; cases e
  | some x =>
    rw [q] at e
    cases e
    obtain ⟨v, hv, fz⟩ := f.at' q
    refine ⟨⟨vs, v, hq, hv⟩, fun y H2 ⟨T, x', e1, e2, e3, e4⟩ => ⟨T, _, _, e1, e2, e3, rfl, ?_⟩⟩
    have := e4 vs hq
    rw [hv] at this; cases this
    simp only [Nat.zero_add]
    exact .cons (.int _) (.cons (fz.same s) .nil)

/-! ### what is walked -/
/-- a frozen value's items -/
def mSeq1 (f : D → Option (List D)) (m : M D) : M (List D) := m.bind fun d => M.lift (f (frz d))
theorem si_list {t : TE} {m : M D} (h : Snd K cl W (RE K cl) t m T) : SndI K cl W (iList K t) (mSeq1 seqOf m) T := by
  intro σ H R F ρ As r ρ' st e hq hx
  refine h.thn st e (fun a ρ1 b F1 H1 As1 A1 x e1 => ?_) hx
  obtain ⟨ds, ed, rfl, rfl⟩ := M.lift_some e1
  obtain ⟨st2, s2, p2⟩ := x.st.ice x.ds x.off
  obtain ⟨ad, vs, rfl, h1, h2⟩ := seqOf_ok (x.rel.ice x.off fun _ q => q) ed
  exact ⟨ad, rfl, ⟨vs, st2.sub.seq h1⟩, hq ds rfl _ _ H1 As1 st2 (x.stp.trans p2 (fun _ q => .inl q) fun _ q => .inl q) x.kp (feeds_list h1 h2)⟩
theorem si_tup {t : TE} {m : M D} (h : Snd K cl W (RE K cl) t m T) : SndI K cl W (iTup K t) (mSeq1 tupOf m) T := by
  intro σ H R F ρ As r ρ' st e hq hx
  refine h.thn st e (fun a ρ1 b F1 H1 As1 A1 x e1 => ?_) hx
  obtain ⟨ds, ed, rfl, rfl⟩ := M.lift_some e1
  obtain ⟨st2, s2, p2⟩ := x.st.ice x.ds x.off
  obtain ⟨ad, vs, rfl, h1, h2⟩ := tupOf_ok (x.rel.ice x.off fun _ q => q) ed
  exact ⟨ad, rfl, ⟨vs, sqT_same st2.sub h1⟩, hq ds rfl _ _ H1 As1 st2 (x.stp.trans p2 (fun _ q => .inl q) fun _ q => .inl q) x.kp (feeds_tup h1 h2)⟩
def mArgs1 (f : List D → Option (List D)) (m : M (List Arg)) : M (List D) := m.bind fun as => M.lift ((tmps as).bind fun ds => f (ds.map frz))
theorem si_args {t : TA} {m : M (List Arg)} {f : List D → Option (List D)} {g : List V → Hp → (It → Hp → Prop) → Prop} (h : Snd K cl W (RA K cl S) t m T)
    (hf : ∀ (F H : Hp) (vs : List V) (ds es : List D) (R : It → Hp → Prop), Same F H → FzL K cl F vs ds → f ds = some es → (∀ J, Feeds K cl J F es → R J H) → g vs H R) : SndI K cl W (fun σ H R => t σ H fun vs H1 => g vs H1 R) (mArgs1 f m) T := by
  intro σ H R F ρ As r ρ' st e hq hx
  refine h.thn st e (fun as ρ1 vs F1 H1 As1 A1 x e1 => ?_) hx
  obtain ⟨es, ed, rfl, rfl⟩ := M.lift_some e1
  cases q : tmps as with
  | none => rw [q] at ed; cases ed
  | some ds =>
    rw [q] at ed
    obtain ⟨st2, s2, p2⟩ := x.st.ice x.ds x.off
    exact hf _ H1 vs (ds.map frz) es _ st2.sub (x.rel.ice q s2 fun a o z e => by rw [glue_in z]; exact e) ed fun J hJ => hq es rfl J _ H1 As1 st2 (x.stp.trans p2 (fun _ q => .inl q) fun _ q => .inl q) x.kp hJ
def fRng1 : List D → Option (List D)
  | [.int j] => if -(2 ^ 62) ≤ j ∧ j < 2 ^ 62 then some (rangeL 0 j.toNat) else none
  | _ => none
def fRng2 : List D → Option (List D)
  | [.int i, .int j] => if -(2 ^ 62) ≤ i ∧ i < 2 ^ 62 ∧ -(2 ^ 62) ≤ j ∧ j < 2 ^ 62 then some (rangeL i (j - i).toNat) else none
  | _ => none
def fZip : List D → Option (List D)
  | [a, b] => match seqOf a, seqOf b with
    | some xs, some ys => some (zipL xs ys)
    | _, _ => none
  | _ => none
def fZipT : List D → Option (List D)
  | [a, b] => match tupOf a, tupOf b with
    | some xs, some ys => some (zipL xs ys)
    | _, _ => none
  | _ => none
def fEnum : List D → Option (List D)
  | [a] => (seqOf a).map enumL
  | _ => none
def fRev : List D → Option (List D)
  | [a] => (seqOf a).map List.reverse
  | _ => none
theorem si_range1 {t : TA} {m : M (List Arg)} (h : Snd K cl W (RA K cl S) t m T) : SndI K cl W (iRng1 t) (mArgs1 fRng1 m) T := si_args (g := fun vs H1 R => ∃ j : Int, vs = [.int j] ∧ -(2 ^ 62) ≤ j ∧ j < 2 ^ 62 ∧ R (Itr 0 j.toNat) H1) h fun F H vs ds es R s f e k => by
  unfold fRng1 at e
  split at e
  · rename_i j
    split at e
    · rename_i hj
      cases e
      cases f with
      | cons h1 t1 => cases h1; cases t1; exact ⟨j, rfl, hj.1, hj.2, k _ feeds_range⟩
    · cases e
  · cases e
theorem si_range2 {t : TA} {m : M (List Arg)} (h : Snd K cl W (RA K cl S) t m T) : SndI K cl W (iRng2 t) (mArgs1 fRng2 m) T := si_args (g := fun vs H1 R => ∃ i j : Int, vs = [.int i, .int j] ∧ (-(2 ^ 62) ≤ i ∧ i < 2 ^ 62 ∧ -(2 ^ 62) ≤ j ∧ j < 2 ^ 62) ∧ R (Itr i (j - i).toNat) H1) h fun F H vs ds es R s f e k => by
  unfold fRng2 at e
  split at e
  · rename_i i j
    split at e
    · rename_i hj
      cases e
      cases f with
      | cons h1 t1 => cases h1; cases t1 with
        | cons h2 t2 => cases h2; cases t2; exact ⟨i, j, rfl, hj, k _ feeds_range⟩
    · cases e
  · cases e
theorem si_zip {t : TA} {m : M (List Arg)} (h : Snd K cl W (RA K cl S) t m T) : SndI K cl W (iZip K t) (mArgs1 fZip m) T := si_args (g := fun vs H1 R => ∃ a b xs ys, vs = [.ref a, .ref b] ∧ SqL K H1 a xs ∧ SqL K H1 b ys ∧ R (Itz K a b) H1) h fun F H vs ds es R s f e k => by
  unfold fZip at e
  split at e
  · rename_i a b
    split at e
    · rename_i xs ys hx hy
      cases e
      cases f with
      | cons h1 t1 => cases t1 with
        | cons h2 t2 =>
          cases t2
          obtain ⟨p, us, rfl, q1, f1⟩ := seqOf_ok h1 hx
          obtain ⟨q, ws, rfl, q2, f2⟩ := seqOf_ok h2 hy
          refine ⟨p, q, us, ws, rfl, s.seq q1, s.seq q2, k _ (feeds_new fun i F1 H1 s1 s2 => ?_)⟩
          have r1 : SqL K H1 p us := (s1.trans s2).seq q1
          have r2 : SqL K H1 q ws := (s1.trans s2).seq q2
          refine ⟨fun hl => ?_, fun d e => ?_⟩
          · have l1 := f1.len
            have l2 := f2.len
            simp only [zipL, List.length_zipWith] at hl
            exact ⟨us, ws, r1, r2, by omega⟩
          · obtain ⟨x, y, e1, e2, rfl⟩ := zipL_at e
            obtain ⟨v, hv, z1⟩ := f1.at' e1
            obtain ⟨w, hw, z2⟩ := f2.at' e2
            refine ⟨⟨us, ws, v, w, r1, r2, hv, hw⟩, fun u H2 ⟨T, x', y', a1, a2, a3, a4, a5⟩ => ⟨T, _, _, a1, a2, a3, rfl, ?_⟩⟩
            have b1 := a4 us r1
            have b2 := a5 ws r2
            rw [hv] at b1; rw [hw] at b2; cases b1; cases b2
            exact .cons (z1.same s1) (.cons (z2.same s1) .nil)
    · cases e
  · cases e
theorem si_enum {t : TA} {m : M (List Arg)} (h : Snd K cl W (RA K cl S) t m T) : SndI K cl W (iEnum K t) (mArgs1 fEnum m) T := si_args (g := fun vs H1 R => ∃ a xs, vs = [.ref a] ∧ SqL K H1 a xs ∧ R (Ite K a) H1) h fun F H vs ds es R s f e k => by
  unfold fEnum at e
  split at e
  · rename_i a
    cases hx : seqOf a with
    | none => rw [hx] at e; cases e
    | some xs =>
      rw [hx] at e
      cases e
      cases f with
      | cons h1 t1 =>
        cases t1
        obtain ⟨p, us, rfl, q1, f1⟩ := seqOf_ok h1 hx
        exact ⟨p, us, rfl, s.seq q1, k _ (feeds_enum q1 f1)⟩
  · cases e
theorem si_rev {t : TA} {m : M (List Arg)} (h : Snd K cl W (RA K cl S) t m T) : SndI K cl W (iRev K t) (mArgs1 fRev m) T := si_args (g := fun vs H1 R => ∃ (a : Addr) (xs : List V), vs = [.ref a] ∧ SqL K H1 a xs ∧ R (Itv K a xs.length) H1) h fun F H vs ds es R s f e k => by
  unfold fRev at e
  split at e
  · rename_i a
    cases hx : seqOf a with
    | none => rw [hx] at e; cases e
    | some xs =>
      rw [hx] at e
      cases e
      cases f with
      | cons h1 t1 =>
        cases t1
        obtain ⟨p, us, rfl, q1, f1⟩ := seqOf_ok h1 hx
        refine ⟨p, us, rfl, s.seq q1, k _ fun i F1 H1 s1 s2 => ?_⟩
        have r1 : SqL K H1 p us := (s1.trans s2).seq q1
        have l1 := f1.len
        refine ⟨fun hl => by rw [List.length_reverse] at hl; show us.length ≤ i; omega, fun d e => ?_⟩
        have hi : i < xs.length := by simpa using (List.getElem?_eq_some_iff.mp e).1
        rw [List.getElem?_reverse hi] at e
        obtain ⟨v, hv, z1⟩ := f1.at' e
        rw [← l1] at hv
        refine ⟨⟨by omega, us, v, r1, hv⟩, fun x H2 ⟨eH, hx⟩ => ⟨F1, by rw [eH]; exact s2, ?_, by rw [eH]; exact .stay⟩⟩
        have b1 := hx us r1
        rw [hv] at b1; cases b1
        exact z1.same s1
  · cases e

/-! ### for -/
def forL (g : D → Env → Option Env) (b : MS) : List D → MS
  | [], ρ => some (.nx, ρ)
  | d :: ds, ρ => match g d ρ with
    | none => none
    | some ρ1 => match b ρ1 with
      | some (.nx, ρ2) => forL g b ds ρ2
      | some (.ct, ρ2) => forL g b ds ρ2
      | some (.bk, ρ2) => some (.nx, ρ2)
      | x => x
def mFor (mi : M (List D)) (g : D → Env → Option Env) (b : MS) : MS := mThen mi fun ds => forL g b ds
theorem ss_for {wi : TI} {mi : M (List D)} {g : TG} {gm : D → Env → Option Env} {tb : TS} {b : MS} (hi : SndI K cl W wi mi T) (hg : SndG K cl g gm Z1) (hb : SndS K cl W tb b Z2) : SndS K cl W (tFor wi g tb) (mFor mi gm b) (Z1 ++ Z2) := by
  intro σ H G F ρ As r ρ' st e k
  have zz : ∀ j, j ∉ Z1 ++ Z2 → j ∉ Z1 ∧ j ∉ Z2 := fun j hj => by simpa [not_or] using hj
  unfold mFor mThen at e
  cases q : mi ρ with
  | none => rw [q] at e; cases e
  | some p =>
    obtain ⟨x, ρ1⟩ := p
    rw [q] at e
    cases x with
    | ex c =>
      cases e
      exact hi σ H _ F ρ As _ ρ' st q (fun a z => nomatch z) fun c' z F' H' As' y => by cases z; exact k.ex c rfl σ F' H' As' y.toS
    | ok ds =>
      replace e : forL gm b ds ρ1 = some (r, ρ') := e
      refine hi σ H _ F ρ As _ ρ1 st q (fun ds' z J F1 H1 As1 st1 s1 k1 fd => ?_) fun c z => nomatch z
      cases z
      refine ⟨fun i m σ2 H2 => m = ds.length - i ∧ i ≤ ds.length ∧ ∃ F2 ρ2 As2, StOk K cl F2 H2 σ2 ρ2 As2 ∧ forL gm b (ds.drop i) ρ2 = some (r, ρ') ∧ Step F H (U As) F2 H2 (U As2) ∧ (∀ j, j ∉ Z1 ++ Z2 → σ2[j]? = σ[j]?) ∧ σ2.length = σ.length ∧ Same F1 F2, ⟨_, rfl, Nat.zero_le _, F1, ρ1, As1, st1, by simpa using e, s1, fun _ _ => rfl, rfl, fun _ _ q => q⟩, ?_⟩
      rintro i m σ2 H2 ⟨rfl, hl, F2, ρ2, As2, st2, e2, s2, a2, l2, sF⟩
      obtain ⟨fd1, fd2⟩ := fd i F2 H2 sF st2.sub
      by_cases hil : i < ds.length
      · obtain ⟨d, hd⟩ : ∃ d, ds[i]? = some d := ⟨ds[i], by simp [hil]⟩
        have hdr : ds.drop i = d :: ds.drop (i + 1) := by
          rw [List.drop_eq_getElem_cons hil]
          have := List.getElem?_eq_some_iff.mp hd
          rw [this.2]
        obtain ⟨go, yl⟩ := fd2 d hd
        refine .inr ⟨go, fun σ3 H3 => ∃ F3 ρ3 As3, StOk K cl F3 H3 σ3 ρ3 As3 ∧ forL gm b (ds.drop (i + 1)) ρ3 = some (r, ρ') ∧ Step F H (U As) F3 H3 (U As3) ∧ (∀ j, j ∉ Z1 ++ Z2 → σ3[j]? = σ[j]?) ∧ σ3.length = σ.length ∧ Same F1 F3, fun σ3 H3 h3 => ⟨ds.length - (i + 1), by omega, rfl, hil, h3⟩, fun x H3 hy => ?_⟩
        obtain ⟨F3, s3, fz, p3⟩ := yl x H3 hy
        rw [hdr] at e2
        replace e2 : (match gm d ρ2 with | none => none | some ρ1 => match b ρ1 with | some (.nx, ρ2) => forL gm b (ds.drop (i + 1)) ρ2 | some (.ct, ρ2) => forL gm b (ds.drop (i + 1)) ρ2 | some (.bk, ρ2) => some (.nx, ρ2) | x => x) = some (r, ρ') := e2
        cases hg2 : gm d ρ2 with
        | none => rw [hg2] at e2; cases e2
        | some ρ4 =>
          rw [hg2] at e2
          replace e2 : (match b ρ4 with | some (.nx, ρ2) => forL gm b (ds.drop (i + 1)) ρ2 | some (.ct, ρ2) => forL gm b (ds.drop (i + 1)) ρ2 | some (.bk, ρ2) => some (.nx, ρ2) | x => x) = some (r, ρ') := e2
          have cr := st2.carry (O := fun _ => False) p3 (fun _ _ _ z => z) s3
          refine hg x σ2 H3 _ F3 ρ2 As2 d E0 ρ4 cr.1 (.fz fz fun _ z => z) (fun _ _ _ z => z) (fun _ z => z.elim) hg2 fun σ4 F4 H4 As4 st4 s4 a4 l4 _ => ?_
          have s14 : Step F H (U As) F4 H4 (U As4) := by
            have s13 : Step F H (U As) F3 H3 (U As2) := s2.trans p3 (fun _ z => z.elim) fun _ q => .inr q
            exact s13.trans s4 (fun _ q => .inl (q.elim id False.elim)) fun _ q => .inl q
          have f4 : Same F1 F4 := sF.trans (p3.ff.trans s4.ff)
          have pre : AftS K cl F H σ As (Z1 ++ Z2) ρ4 σ4 F4 H4 As4 E0 := ⟨st4, fun _ _ _ z => z, fun _ z => z.elim, s14.weak fun _ q => q.elim id False.elim, fun j hj => (a4 j (zz j hj).1).trans (a2 j hj), l4.trans l2⟩
          have zz2 : ∀ j, j ∉ Z1 ++ Z2 → j ∉ Z1 ++ Z2 ∧ j ∉ Z2 := fun j hj => ⟨hj, (zz j hj).2⟩
          cases hb2 : b ρ4 with
          | none => rw [hb2] at e2; cases e2
          | some p =>
            obtain ⟨fl, ρ5⟩ := p
            rw [hb2] at e2
            refine hb σ4 H4 _ F4 ρ4 As4 fl ρ5 st4 hb2 ⟨fun hr σ5 F5 H5 As5 y => ?_, fun hr σ5 F5 H5 As5 y => ?_, fun hr σ5 F5 H5 As5 y => ?_, fun d' hr v σ5 F5 H5 As5 A5 ow y => ?_, fun c hr σ5 F5 H5 As5 y => ?_⟩
            · subst hr
              have z := pre.after y zz2
              exact ⟨F5, ρ5, As5, z.st, e2, z.stp.weak fun _ q => .inl q, z.ag, z.ln, f4.trans y.stp.ff⟩
            · subst hr
              cases e2
              exact k.nx rfl σ5 F5 H5 As5 (pre.after y zz2)
            · subst hr
              have z := pre.after y zz2
              exact ⟨F5, ρ5, As5, z.st, e2, z.stp.weak fun _ q => .inl q, z.ag, z.ln, f4.trans y.stp.ff⟩
            · subst hr
              cases e2
              exact k.rt d' rfl v σ5 F5 H5 As5 A5 ow (pre.after y zz2)
            · subst hr
              cases e2
              exact k.ex c rfl σ5 F5 H5 As5 (pre.after y zz2)
      · have e0 : ds.drop i = [] := List.drop_eq_nil_of_le (by omega)
        rw [e0] at e2
        cases e2
        exact .inl ⟨fd1 (by omega), k.nx rfl σ2 F2 H2 As2 ⟨st2, fun _ _ _ z => z, fun _ z => z.elim, s2.weak fun _ q => q.elim id False.elim, a2, l2⟩⟩
/-! ### while -/
def whL (c : M Bool) (b : MS) : Nat → MS
  | 0, _ => none
  | n + 1, ρ => match c ρ with
    | some (.ok true, ρ1) => (match b ρ1 with
      | some (.nx, ρ2) => whL c b n ρ2
      | some (.ct, ρ2) => whL c b n ρ2
      | some (.bk, ρ2) => some (.nx, ρ2)
      | x => x)
    | some (.ok false, ρ1) => some (.nx, ρ1)
    | some (.ex c, ρ1) => some (.ex c, ρ1)
    | none => none
theorem ss_while {tc : TT} {tb : TS} {c : M Bool} {b : MS} (n : Nat) (hc : Snd K cl W RT tc c T) (hb : SndS K cl W tb b Z) : SndS K cl W (tWhile tc tb) (whL c b n) Z := by
  intro σ H G F ρ As r ρ' st e k
  refine ⟨fun m σ2 H2 => ∃ F2 ρ2 As2, StOk K cl F2 H2 σ2 ρ2 As2 ∧ whL c b m ρ2 = some (r, ρ') ∧ Step F H (U As) F2 H2 (U As2) ∧ (∀ j, j ∉ Z → σ2[j]? = σ[j]?) ∧ σ2.length = σ.length, ⟨n, F, ρ, As, st, e, Step.refl fun _ q => q, fun _ _ => rfl, rfl⟩, ?_⟩
  rintro m σ2 H2 ⟨F2, ρ2, As2, st2, e2, s2, a2, l2⟩
  have pre : AftS K cl F H σ As Z ρ2 σ2 F2 H2 As2 E0 := ⟨st2, fun _ _ _ z => z, fun _ z => z.elim, s2.weak fun _ q => q.elim id False.elim, a2, l2⟩
  cases m with
  | zero => cases e2
  | succ m =>
    replace e2 : mThen c (fun x => if x = true then (fun ρ1 => match b ρ1 with | some (.nx, ρ2) => whL c b m ρ2 | some (.ct, ρ2) => whL c b m ρ2 | some (.bk, ρ2) => some (.nx, ρ2) | x => x) else fun ρ1 => some (.nx, ρ1)) ρ2 = some (r, ρ') := by
      rw [whL] at e2
      unfold mThen
      cases q : c ρ2 with
      | none => rw [q] at e2; cases e2
      | some p =>
        obtain ⟨x, ρ3⟩ := p
        rw [q] at e2
        cases x with
        | ok x => cases x <;> exact e2
        | ex c => exact e2
    refine SndE.then' hc st2 e2 (k.after pre fun j hj => ⟨hj, hj⟩) fun x ρ3 y F3 H3 As3 A3 w e3 => ?_
    obtain ⟨exy, nA⟩ := w.rel
    subst exy
    have pre3 : AftS K cl F H σ As Z ρ3 σ2 F3 H3 As3 E0 := by
      have z := pre.after w.toS (Z := Z) (Z2 := []) fun j hj => ⟨hj, by simp⟩
      exact ⟨z.st, fun _ _ _ z => z, fun _ z => z.elim, z.stp.weak fun _ q => .inl (q.elim id False.elim), z.ag, z.ln⟩
    cases x with
    | false =>
      cases e3
      exact k.nx rfl σ2 F3 H3 As3 pre3
    | true =>
      replace e3 : (match b ρ3 with | some (.nx, ρ2) => whL c b m ρ2 | some (.ct, ρ2) => whL c b m ρ2 | some (.bk, ρ2) => some (.nx, ρ2) | x => x) = some (r, ρ') := e3
      refine ⟨fun σ4 H4 => ∃ F4 ρ4 As4, StOk K cl F4 H4 σ4 ρ4 As4 ∧ whL c b m ρ4 = some (r, ρ') ∧ Step F H (U As) F4 H4 (U As4) ∧ (∀ j, j ∉ Z → σ4[j]? = σ[j]?) ∧ σ4.length = σ.length, fun σ4 H4 h4 => ⟨m, Nat.lt_succ_self _, h4⟩, ?_⟩
      have zz : ∀ j, j ∉ Z → j ∉ Z ∧ j ∉ Z := fun j h => ⟨h, h⟩
      cases hb2 : b ρ3 with
      | none => rw [hb2] at e3; cases e3
      | some p =>
        obtain ⟨fl, ρ5⟩ := p
        rw [hb2] at e3
        refine hb σ2 H3 _ F3 ρ3 As3 fl ρ5 w.st hb2 ⟨fun hr σ5 F5 H5 As5 y => ?_, fun hr σ5 F5 H5 As5 y => ?_, fun hr σ5 F5 H5 As5 y => ?_, fun d' hr v σ5 F5 H5 As5 A5 ow y => ?_, fun c hr σ5 F5 H5 As5 y => ?_⟩
        · subst hr
          have z := pre3.after y zz
          exact ⟨F5, ρ5, As5, z.st, e3, z.stp.weak fun _ q => .inl q, z.ag, z.ln⟩
        · subst hr
          cases e3
          exact k.nx rfl σ5 F5 H5 As5 (pre3.after y zz)
        · subst hr
          have z := pre3.after y zz
          exact ⟨F5, ρ5, As5, z.st, e3, z.stp.weak fun _ q => .inl q, z.ag, z.ln⟩
        · subst hr
          cases e3
          exact k.rt d' rfl v σ5 F5 H5 As5 A5 ow (pre3.after y zz)
        · subst hr
          cases e3
          exact k.ex c rfl σ5 F5 H5 As5 (pre3.after y zz)
end
end Pv

/-! PvB -/
set_option Elab.async false
set_option linter.all false
set_option maxRecDepth 100000
set_option maxHeartbeats 1000000
namespace Pv
open PySem L2
/-! ### list comprehensions -/
def wipeE (ρ : Env) : List Nat → Env
  | [] => ρ
  | v :: vs => (wipeE ρ vs).set v none
def restE (ρ0 : Env) : List Nat → Env → Env
  | [], ρ => ρ
  | v :: vs, ρ => (restE ρ0 vs ρ).set v ((ρ0[v]?).getD none)
theorem wipeE_len (ρ : Env) : ∀ vs, (wipeE ρ vs).length = ρ.length
  | [] => rfl
  | v :: vs => by rw [wipeE, List.length_set, wipeE_len ρ vs]
theorem wipeE_in (ρ : Env) : ∀ {vs : List Nat} {i : Nat}, i ∈ vs → i < ρ.length → (wipeE ρ vs)[i]? = some none
  | v :: vs, i, h, hl => by
    rw [wipeE]
    by_cases e : v = i
    · subst e; rw [List.getElem?_set_self (by rw [wipeE_len]; exact hl)]
    · rw [List.getElem?_set_ne e]
      exact wipeE_in ρ ((List.mem_cons.mp h).resolve_left fun q => e q.symm) hl
theorem wipeE_out (ρ : Env) : ∀ {vs : List Nat} {i : Nat}, i ∉ vs → (wipeE ρ vs)[i]? = ρ[i]?
  | [], _, _ => rfl
  | v :: vs, i, h => by
    have h' : i ≠ v ∧ i ∉ vs := by simpa [not_or] using h
    rw [wipeE, List.getElem?_set_ne (Ne.symm h'.1), wipeE_out ρ h'.2]
theorem wipe_in (σ : L2.St) : ∀ {vs : List Nat} {i : Nat}, i ∈ vs → i < σ.length → (wipe σ vs)[i]? = some none
  | v :: vs, i, h, hl => by
    rw [wipe]
    by_cases e : v = i
    · subst e; rw [List.getElem?_set_self (by rw [wipe_length]; exact hl)]
    · rw [List.getElem?_set_ne e]
      exact wipe_in σ ((List.mem_cons.mp h).resolve_left fun q => e q.symm) hl
theorem wipe_out' (σ : L2.St) : ∀ {vs : List Nat} {i : Nat}, i ∉ vs → (wipe σ vs)[i]? = σ[i]?
  | [], _, _ => rfl
  | v :: vs, i, h => by
    have h' : i ≠ v ∧ i ∉ vs := by simpa [not_or] using h
    rw [wipe, List.getElem?_set_ne (Ne.symm h'.1), wipe_out' σ h'.2]
theorem wipe_eq {σ σ' : L2.St} {vs : List Nat} (hl : σ'.length = σ.length) (h : ∀ j, j ∉ vs → σ'[j]? = σ[j]?) : wipe σ' vs = wipe σ vs := by
  refine List.ext_getElem? fun j => ?_
  by_cases hj : j ∈ vs
  · by_cases hjl : j < σ.length
    · rw [wipe_in σ hj hjl, wipe_in σ' hj (by omega)]
    · rw [List.getElem?_eq_none (by rw [wipe_length]; omega), List.getElem?_eq_none (by rw [wipe_length]; omega)]
  · rw [wipe_out' σ hj, wipe_out' σ' hj, h j hj]
theorem wipe_wipe (σ : L2.St) (vs : List Nat) : wipe (wipe σ vs) vs = wipe σ vs := wipe_eq (wipe_length σ vs) fun j hj => wipe_out' σ hj
theorem restE_len (ρ0 ρ : Env) : ∀ vs, (restE ρ0 vs ρ).length = ρ.length
  | [] => rfl
  | v :: vs => by rw [restE, List.length_set, restE_len ρ0 ρ vs]
theorem restE_in (ρ0 ρ : Env) : ∀ {vs : List Nat} {i : Nat}, i ∈ vs → i < ρ.length → ρ0.length = ρ.length → (restE ρ0 vs ρ)[i]? = ρ0[i]?
  | v :: vs, i, h, hl, e0 => by
    rw [restE]
    by_cases e : v = i
    · subst e
      rw [List.getElem?_set_self (by rw [restE_len]; exact hl)]
      have : v < ρ0.length := by omega
      simp [this]
    · rw [List.getElem?_set_ne e]
      exact restE_in ρ0 ρ ((List.mem_cons.mp h).resolve_left fun q => e q.symm) hl e0
theorem restE_out (ρ0 ρ : Env) : ∀ {vs : List Nat} {i : Nat}, i ∉ vs → (restE ρ0 vs ρ)[i]? = ρ[i]?
  | [], _, _ => rfl
  | v :: vs, i, h => by
    have h' : i ≠ v ∧ i ∉ vs := by simpa [not_or] using h
    rw [restE, List.getElem?_set_ne (Ne.symm h'.1), restE_out ρ0 ρ h'.2]
def lcL (g : D → Env → Option Env) (mt : M Bool) (me : M D) (vs : List Nat) : List D → Env → List D → Option (List D × Env)
  | [], ρ, acc => some (acc, ρ)
  | d :: ds, ρ, acc => match g d ρ with
    | none => none
    | some ρ1 => match mt ρ1 with
      | some (.ok true, ρ2) => (match me ρ2 with
        | some (.ok y, ρ3) => if acc.length < 16777216 then lcL g mt me vs ds (wipeE ρ3 vs) (acc ++ [y]) else none
        | _ => none)
      | some (.ok false, ρ2) => lcL g mt me vs ds (wipeE ρ2 vs) acc
      | _ => none
def okOwn (ρ : Env) (vs : List Nat) : Bool := vs.all fun i => match ρ[i]? with
  | some (some d) => isF d
  | some none => true
  | none => false
def mLc (mi : M (List D)) (g : D → Env → Option Env) (mt : M Bool) (me : M D) (vs : List Nat) : M D := mi.bind fun ds => fun ρ => if okOwn ρ vs = true then (match lcL g mt me vs ds (wipeE ρ vs) [] with
  | some (ys, ρ') => some (.ok (.own ys), restE ρ vs ρ')
  | none => none) else none
abbrev W0 : WX := fun _ _ _ _ => False
section
variable {K : PySem.W.Frag} {cl : Nat → Addr} {W : WX} {F F' H H' F1 H1 : Hp} {σ σ' σ1 : L2.St} {ρ ρ' ρ1 : Env} {As As' As1 : Nat → Ads} {T T1 T2 S S1 S2 Z Z1 Z2 : List Nat} {A A1 O O' : Ads} {v : V} {d : D}
theorem StOk.wipe {vs : List Nat} (st : StOk K cl F H σ ρ As) : StOk K cl F H (L2.wipe σ vs) (wipeE ρ vs) (fun i => if i ∈ vs then fun _ => False else As i) := by
  refine ⟨by rw [wipeE_len, wipe_length]; exact st.len, fun i d e => ?_, fun i b q => ?_, fun i j b q q' => ?_, st.sub, fun i b q => ?_⟩
  · by_cases hi : i ∈ vs
    · by_cases hl : i < ρ.length
      · rw [wipeE_in ρ hi hl] at e; cases e
      · rw [List.getElem?_eq_none (by rw [wipeE_len]; omega)] at e; cases e
    · rw [wipeE_out ρ hi] at e
      rw [wipe_out' σ hi, if_neg hi]
      exact st.sl i d e
  · by_cases hi : i ∈ vs
    · rw [if_pos hi] at q; exact q.elim
    · rw [if_neg hi] at q; rw [wipeE_out ρ hi]; exact st.em i b q
  · by_cases hi : i ∈ vs
    · rw [if_pos hi] at q; exact q.elim
    · by_cases hj : j ∈ vs
      · rw [if_pos hj] at q'; exact q'.elim
      · rw [if_neg hi] at q; rw [if_neg hj] at q'; exact st.dj i j b q q'
  · by_cases hi : i ∈ vs
    · rw [if_pos hi] at q; exact q.elim
    · rw [if_neg hi] at q; exact st.off i b q
theorem own_snoc {D0 : Addr} {ys : List D} {y : V} {dy : D} {Ay : Ads} (h : Own K cl F H (.ref D0) (.own ys) A) (o : Own K cl F H y dy Ay) (n : ∀ b, A b → ¬ Ay b) :
    ∃ acc, H D0 = some (.lst acc) ∧ acc.length = ys.length ∧ A D0 ∧ Own K cl F (upd H D0 (.lst (acc ++ [y]))) (.ref D0) (.own (ys ++ [dy])) (fun b => A b ∨ Ay b) := by
  cases h with
  | fz q e => cases q
  | @nd _ _ vs _ B _ ob l c dj na lt hA =>
    have hD : A D0 := (hA D0).mpr (.inl rfl)
    have hB : ∀ i b, B i b → ¬ Ay b := fun i b q => n b ((hA b).mpr (.inr ⟨i, q⟩))
    obtain ⟨l', c', dj', lt', sb'⟩ := kids_snoc (N := Ay) (w := y) (e := dy) l c dj lt o hB
    have kp : ∀ b u, b ≠ D0 → H b = some u → upd H D0 (.lst (vs ++ [y])) b = some u := fun b u q e => by rw [upd_ne q]; exact e
    have nD : ∀ i b, (if i = ys.length then Ay else B i : Ads) b → b ≠ D0 := fun i b q z => by
      subst z
      rcases sb' i _ q with ⟨j, q⟩ | q
      · exact na j q
      · exact n _ hD q
    refine ⟨vs, ob, l, hD, .nd (k := .lst) (B := fun i => if i = ys.length then Ay else B i) upd_same l' (fun i w x hw hx => (c' i w x hw hx).frame (fun _ _ q => q) fun b u q e => kp b u (nD i b q) e) dj' (fun i z => nD i D0 z rfl) lt' fun b => ?_⟩
    constructor
    · rintro (q | q)
      · rcases (hA b).mp q with q | ⟨i, q⟩
        · exact .inl q
        · refine .inr ⟨i, ?_⟩
          have hi := lt i b q
          try dsimp only
          rw [if_neg (by omega)]; exact q
      · exact .inr ⟨ys.length, by try dsimp only
                                  rw [if_pos rfl]; exact q⟩
    · rintro (q | ⟨i, q⟩)
      · exact .inl ((hA b).mpr (.inl q))
      · rcases sb' i b q with ⟨j, q⟩ | q
        · exact .inl ((hA b).mpr (.inr ⟨j, q⟩))
        · exact .inr q
theorem s_lc {wi : TI} {mi : M (List D)} {g : TG} {gm : D → Env → Option Env} {tt : TT} {mt : M Bool} {te : TE} {me : M D} {vs : List Nat} (hi : SndI K cl W wi mi T) (hg : SndG K cl g gm Z) (ht : Snd K cl W0 RT tt mt T1) (he : Snd K cl W0 (RE K cl) te me T2) (hz : ∀ j ∈ Z, j ∈ vs) :
    Snd K cl W (RE K cl) (tLc wi g tt te vs) (mLc mi gm mt me vs) (T ++ (T1 ++ T2)) := by
  intro σ H Q F ρ As r ρ' st e hq hx
  rcases M.bind_some e with ⟨ds, ρ1, e0, e1⟩ | ⟨c', e0, rfl⟩
  rotate_left
  · exact hi σ H _ F ρ As _ ρ' st e0 (fun a q => nomatch q) fun c' q => by cases q; exact hx _ rfl
  refine hi σ H _ F ρ As _ ρ1 st e0 (fun ds' z J F1 H1 As1 st1 s1 k1 fd => ?_) fun c q => nomatch q
  cases z
  intro D0 hD0
  by_cases hok : okOwn ρ1 vs = true
  rotate_left
  · rw [if_neg hok] at e1; cases e1
  rw [if_pos hok] at e1
  cases hL : lcL gm mt me vs ds (wipeE ρ1 vs) [] with
  | none => rw [hL] at e1; cases e1
  | some p =>
    obtain ⟨ysE, ρE⟩ := p
    rw [hL] at e1
    cases e1
    -- own slots: frozen, in range
    have ownF : ∀ i ∈ vs, i < ρ1.length ∧ ∀ b, ¬ As1 i b := fun i hiv => by
      have q := List.all_eq_true.mp hok i hiv
      cases h : ρ1[i]? with
      | none => simp only [h] at q; cases q
      | some od =>
        refine ⟨(List.getElem?_eq_some_iff.mp h).1, fun b hb => ?_⟩
        obtain ⟨d, hd⟩ := st1.em i b hb
        rw [hd] at h
        cases h
        simp only [hd] at q
        obtain ⟨v, _, ow⟩ := st1.sl i d hd
        exact (ow.isF q).2 b hb
    have stw := st1.wipe (vs := vs)
    have hF0 : F1 D0 = none := st1.sub.free hD0
    have kp0 : ∀ b u, H1 b = some u → upd H1 D0 (.lst []) b = some u := fun b u q => by rw [upd_ne (ne_of_none q hD0)]; exact q
    have asw : ∀ i b, (if i ∈ vs then fun _ => False else As1 i : Ads) b → As1 i b := fun i b q => by
      by_cases hiv : i ∈ vs
      · rw [if_pos hiv] at q; exact q.elim
      · rw [if_neg hiv] at q; exact q
    have hA0 : ∀ i b, (if i ∈ vs then fun _ => False else As1 i : Ads) b → ¬ (fun b => b = D0) b := fun i b q z => by
      replace z : b = D0 := z
      subst z
      obtain ⟨u, hu⟩ := stw.there i _ q
      rw [hD0] at hu
      cases hu
    have hB0 : ∀ b, (fun b => b = D0) b → F1 b = none := fun b z => by
      replace z : b = D0 := z
      rw [z]; exact hF0
    refine ⟨fun i m H2 => m = ds.length - i ∧ i ≤ ds.length ∧ ∃ F2 ρ2 As2 ys A2, StOk K cl F2 H2 (L2.wipe σ vs) ρ2 As2 ∧ lcL gm mt me vs (ds.drop i) ρ2 ys = some (ysE, ρE) ∧ Own K cl F2 H2 (.ref D0) (.own ys) A2 ∧ (∀ i b, As2 i b → ¬ A2 b) ∧ (∀ b, A2 b → F2 b = none) ∧ Step F1 H1 (U As1) F2 H2 (fun b => U As2 b ∨ A2 b) ∧ (∀ i ∈ vs, ρ2[i]? = some none) ∧
        (∀ j, j ∉ T1 ++ T2 → j ∉ vs → ρ2[j]? = ρ1[j]? ∧ (∀ b, As2 j b ↔ As1 j b) ∧ ∀ b o, As1 j b → H1 b = some o → H2 b = some o) ∧ Same F1 F2,
      ⟨_, rfl, Nat.zero_le _, F1, wipeE ρ1 vs, _, [], fun b => b = D0, ⟨stw.len, fun i d e => let ⟨v, h1, h2⟩ := stw.sl i d e; ⟨v, h1, h2.frame (fun _ _ q => q) fun a o _ q => kp0 a o q⟩, stw.em, stw.dj, fun b u q => kp0 b u (st1.sub b u q), stw.off⟩, by simpa using hL,
        .nd (k := .lst) (vs := []) (B := fun _ _ => False) upd_same rfl (fun i v x q => by simp at q) (fun _ _ _ z => z.elim) (fun _ z => z) (fun _ _ z => z.elim) fun b => ⟨.inl, fun z => z.elim id fun ⟨_, z⟩ => z.elim⟩,
        hA0, hB0, ⟨fun _ _ q => q, fun a o e _ => kp0 a o e, fun a q => ?_, fun _ _ q => .inl q⟩, fun i hiv => wipeE_in ρ1 hiv (ownF i hiv).1,
        fun j hj hjv => ⟨wipeE_out ρ1 hjv, fun b => (by rw [if_neg hjv]), fun b o _ e => kp0 b o e⟩, fun _ _ q => q⟩, ?_⟩
    · rcases q with ⟨i, q⟩ | q
      · exact .inl ⟨i, asw i a q⟩
      · exact .inr (by rw [q]; exact hD0)
    rintro i m H2 ⟨rfl, hl, F2, ρ2, As2, ys, A2, st2, e2, ow, dis, of2, s2, wn, kk, sF⟩
    obtain ⟨fd1, fd2⟩ := fd i F2 H2 sF st2.sub
    by_cases hil : i < ds.length
    · obtain ⟨d, hd⟩ : ∃ d, ds[i]? = some d := ⟨ds[i], by simp [hil]⟩
      have hdr : ds.drop i = d :: ds.drop (i + 1) := by
        rw [List.drop_eq_getElem_cons hil]
        have := List.getElem?_eq_some_iff.mp hd
        rw [this.2]
      obtain ⟨go, yl⟩ := fd2 d hd
      refine .inr ⟨go, fun H3 => ∃ F3 ρ3 As3 ys A3, StOk K cl F3 H3 (L2.wipe σ vs) ρ3 As3 ∧ lcL gm mt me vs (ds.drop (i + 1)) ρ3 ys = some (ysE, ρE) ∧ Own K cl F3 H3 (.ref D0) (.own ys) A3 ∧ (∀ i b, As3 i b → ¬ A3 b) ∧ (∀ b, A3 b → F3 b = none) ∧ Step F1 H1 (U As1) F3 H3 (fun b => U As3 b ∨ A3 b) ∧ (∀ i ∈ vs, ρ3[i]? = some none) ∧
        (∀ j, j ∉ T1 ++ T2 → j ∉ vs → ρ3[j]? = ρ1[j]? ∧ (∀ b, As3 j b ↔ As1 j b) ∧ ∀ b o, As1 j b → H1 b = some o → H3 b = some o) ∧ Same F1 F3, fun H3 h3 => ⟨ds.length - (i + 1), by omega, rfl, hil, h3⟩, fun x H3 hy => ?_⟩
      obtain ⟨F3, s3, fz, p3⟩ := yl x H3 hy
      rw [hdr, lcL] at e2
      cases hg2 : gm d ρ2 with
      | none => rw [hg2] at e2; cases e2
      | some ρ4 =>
        rw [hg2] at e2
        replace e2 : (match mt ρ4 with | some (.ok true, ρ2) => (match me ρ2 with | some (.ok y, ρ3) => if ys.length < 16777216 then lcL gm mt me vs (ds.drop (i + 1)) (wipeE ρ3 vs) (ys ++ [y]) else none | _ => none) | some (.ok false, ρ2) => lcL gm mt me vs (ds.drop (i + 1)) (wipeE ρ2 vs) ys | _ => none) = some (ysE, ρE) := e2
        have tm2 : Tm K cl F2 H2 (.ref D0) (.own ys) A2 := ⟨ow, of2⟩
        obtain ⟨tm3, _⟩ := tm2.carry (O := fun _ => False) p3 fun _ _ z => z
        have cr := st2.carry (O := fun _ => False) p3 (fun _ _ _ z => z) s3
        refine hg x (L2.wipe σ vs) H3 _ F3 ρ2 As2 d E0 ρ4 cr.1 (.fz fz fun _ z => z) (fun _ _ _ z => z) (fun _ z => z.elim) hg2 fun σ4 F4 H4 As4 st4 s4 a4 l4 kp4 => ?_
        have s4' : Step F3 H3 (U As2) F4 H4 (U As4) := ⟨s4.ff, fun a o e n => s4.keep a o e fun z => n (z.elim id False.elim), fun a q => (s4.own a q).imp (fun z => z.elim id False.elim) id, fun a o q => (s4.fro a o q).imp id (Or.imp (fun z => z.elim id False.elim) id)⟩
        obtain ⟨tm4, n4⟩ := tm3.carry s4' fun a q ⟨j, z⟩ => dis j a z q
        have wp4 : L2.wipe σ4 vs = L2.wipe σ vs := by
          rw [wipe_eq (σ := L2.wipe σ vs) (σ' := σ4) l4 fun j hj => a4 j fun z => hj (hz j z), wipe_wipe]
        refine ⟨wp4, ?_⟩
        have t4 : Step F1 H1 (U As1) F4 H4 (fun b => U As4 b ∨ A2 b) := (s2.trans p3 (fun _ z => z.elim) (O3 := fun b => U As2 b ∨ A2 b) fun _ q => .inr q).trans s4' (fun _ q => .inl (.inl q)) fun c q => q.elim .inl fun q => .inr (.inr q)
        have d4 : ∀ j a, As4 j a → ¬ A2 a := fun j a q z => n4 a z ⟨j, q⟩
        have k4 : ∀ j, j ∉ T1 ++ T2 → j ∉ vs → ρ4[j]? = ρ1[j]? ∧ (∀ b, As4 j b ↔ As1 j b) ∧ ∀ b o, As1 j b → H1 b = some o → H4 b = some o := fun j hj hjv => by
          obtain ⟨a1, a2, a3⟩ := kk j hj hjv
          obtain ⟨b1, b2, b3⟩ := kp4.k j fun z => hjv (hz j z)
          exact ⟨b1.trans a1, fun b => (b2 b).trans (a2 b), fun b o q e => b3 b o ((a2 b).mpr q) (p3.keep b o (a3 b o q e) fun z => z)⟩
        cases hm : mt ρ4 with
        | none => rw [hm] at e2; cases e2
        | some p5 =>
          obtain ⟨x5, ρ5⟩ := p5
          rw [hm] at e2
          cases x5 with
          | ex c => cases e2
          | ok b5 =>
            refine ht σ4 H4 _ F4 ρ4 As4 _ ρ5 st4 hm (fun b q b' F5 H5 As5 A5 w => ?_) fun c q => nomatch q
            cases q
            obtain ⟨rfl, nA5⟩ := w.rel
            obtain ⟨tm5, n5⟩ := tm4.carry w.stp fun a q ⟨j, z⟩ => d4 j a z q
            have t5 : Step F1 H1 (U As1) F5 H5 (fun b => U As5 b ∨ A2 b) := t4.trans w.stp (fun _ q => .inl (.inl q)) fun c q => q.elim (fun q => .inl (.inl q)) fun q => .inr (.inr q)
            have d5 : ∀ j a, As5 j a → ¬ A2 a := fun j a q z => n5 a z (.inl ⟨j, q⟩)
            have k5 : ∀ j, j ∉ T1 ++ T2 → j ∉ vs → ρ5[j]? = ρ1[j]? ∧ (∀ b, As5 j b ↔ As1 j b) ∧ ∀ b o, As1 j b → H1 b = some o → H5 b = some o := fun j hj hjv => by
              obtain ⟨a1, a2, a3⟩ := k4 j hj hjv
              obtain ⟨b1, b2, b3⟩ := w.kp.k j fun z => hj (List.mem_append_left _ z)
              exact ⟨b1.trans a1, fun b => (b2 b).trans (a2 b), fun b o q e => b3 b o ((a2 b).mpr q) (a3 b o q e)⟩
            have f5 : Same F1 F5 := sF.trans (p3.ff.trans (s4.ff.trans w.stp.ff))
            have l5 : ρ5.length = (L2.wipe σ vs).length := w.st.len.trans l4
            have inr : ∀ i ∈ vs, i < ρ5.length := fun i hiv => by rw [l5, wipe_length, ← st1.len]; exact (ownF i hiv).1
            -- behind a turn
            have turn : ∀ {F6 H6 : Hp} {ρ6 : Env} {As6 : Nat → Ads} {ys' : List D} {A6 : Ads}, StOk K cl F6 H6 σ4 ρ6 As6 → lcL gm mt me vs (ds.drop (i + 1)) (wipeE ρ6 vs) ys' = some (ysE, ρE) → Own K cl F6 H6 (.ref D0) (.own ys') A6 → (∀ j a, As6 j a → ¬ A6 a) → (∀ a, A6 a → F6 a = none) → Step F1 H1 (U As1) F6 H6 (fun b => U As6 b ∨ A6 b) →
                (∀ j, j ∉ T1 ++ T2 → j ∉ vs → ρ6[j]? = ρ1[j]? ∧ (∀ b, As6 j b ↔ As1 j b) ∧ ∀ b o, As1 j b → H1 b = some o → H6 b = some o) → Same F1 F6 →
                ∃ F3 ρ3 As3 ys A3, StOk K cl F3 H6 (L2.wipe σ vs) ρ3 As3 ∧ lcL gm mt me vs (ds.drop (i + 1)) ρ3 ys = some (ysE, ρE) ∧ Own K cl F3 H6 (.ref D0) (.own ys) A3 ∧ (∀ i b, As3 i b → ¬ A3 b) ∧ (∀ b, A3 b → F3 b = none) ∧ Step F1 H1 (U As1) F3 H6 (fun b => U As3 b ∨ A3 b) ∧ (∀ i ∈ vs, ρ3[i]? = some none) ∧
                  (∀ j, j ∉ T1 ++ T2 → j ∉ vs → ρ3[j]? = ρ1[j]? ∧ (∀ b, As3 j b ↔ As1 j b) ∧ ∀ b o, As1 j b → H1 b = some o → H6 b = some o) ∧ Same F1 F3 := fun {F6 H6 ρ6 As6 ys' A6} st6 e6 o6 d6 of6 t6 k6 f6 => by
              have stw6 := st6.wipe (vs := vs)
              rw [wp4] at stw6
              have sb6 : ∀ i b, (if i ∈ vs then fun _ => False else As6 i : Ads) b → As6 i b := fun i b q => by
                by_cases hiv : i ∈ vs
                · rw [if_pos hiv] at q; exact q.elim
                · rw [if_neg hiv] at q; exact q
              have l6 : ρ6.length = (L2.wipe σ vs).length := st6.len.trans l4
              refine ⟨F6, wipeE ρ6 vs, _, ys', A6, stw6, e6, o6, fun i b q => d6 i b (sb6 i b q), of6, t6.weak fun b q => q.imp (fun ⟨i, z⟩ => ⟨i, sb6 i b z⟩) id, fun i hiv => wipeE_in ρ6 hiv (by rw [l6, wipe_length, ← st1.len]; exact (ownF i hiv).1), fun j hj hjv => ?_, f6⟩
              obtain ⟨a1, a2, a3⟩ := k6 j hj hjv
              refine ⟨(wipeE_out ρ6 hjv).trans a1, fun b => ?_, a3⟩
              try dsimp only
              rw [if_neg hjv]
              exact a2 b
            cases b5 with
            | false =>
              rw [if_neg (by simp)]
              exact turn w.st e2 tm5.own d5 tm5.off t5 k5 f5
            | true =>
              rw [if_pos rfl]
              replace e2 : (match me ρ5 with | some (.ok y, ρ3) => if ys.length < 16777216 then lcL gm mt me vs (ds.drop (i + 1)) (wipeE ρ3 vs) (ys ++ [y]) else none | _ => none) = some (ysE, ρE) := e2
              cases hm6 : me ρ5 with
              | none => rw [hm6] at e2; cases e2
              | some p6 =>
                obtain ⟨x6, ρ6⟩ := p6
                rw [hm6] at e2
                cases x6 with
                | ex c => cases e2
                | ok y6 =>
                  replace e2 : (if ys.length < 16777216 then lcL gm mt me vs (ds.drop (i + 1)) (wipeE ρ6 vs) (ys ++ [y6]) else none) = some (ysE, ρE) := e2
                  by_cases hys : ys.length < 16777216
                  · rw [if_pos hys] at e2
                    refine he σ4 H5 _ F5 ρ5 As5 _ ρ6 w.st hm6 (fun b q v6 F6 H6 As6 A6 w6 => ?_) fun c q => nomatch q
                    cases q
                    obtain ⟨tm6, n6⟩ := tm5.carry w6.stp fun a q ⟨j, z⟩ => d5 j a z q
                    obtain ⟨acc, ha, hl6, aD, o7⟩ := own_snoc tm6.own w6.rel fun b q z => n6 b q (.inr z)
                    refine ⟨acc, ha, by rw [sizeLine_eq, hl6]; exact hys, ?_⟩
                    have kp7 : ∀ b u, b ≠ D0 → H6 b = some u → upd H6 D0 (.lst (acc ++ [v6])) b = some u := fun b u q e => by rw [upd_ne q]; exact e
                    have nD6 : ∀ j b, As6 j b → b ≠ D0 := fun j b q z => by subst z; exact n6 _ aD (.inl ⟨j, q⟩)
                    have fD6 : ∀ b u, F6 b = some u → b ≠ D0 := fun b u q z => by subst z; rw [tm6.off _ aD] at q; cases q
                    refine turn (F6 := F6) (A6 := fun b => A2 b ∨ A6 b) ⟨w6.st.len, fun i d e => let ⟨v, h1, h2⟩ := w6.st.sl i d e; ⟨v, h1, h2.frame (fun _ _ q => q) fun a o q e => kp7 a o (nD6 i a q) e⟩, w6.st.em, w6.st.dj, fun b u q => kp7 b u (fD6 b u q) (w6.st.sub b u q), w6.st.off⟩ e2 o7 (fun j a q z => z.elim (fun z => n6 a z (.inl ⟨j, q⟩)) fun z => w6.ds j a q z) (fun a q => q.elim (tm6.off a) (w6.off a)) ?_ (fun j hj hjv => ?_) (f5.trans w6.stp.ff)
                    · have t6 : Step F1 H1 (U As1) F6 H6 (fun b => U As6 b ∨ (A2 b ∨ A6 b)) := t5.trans w6.stp (fun _ q => .inl (.inl q)) fun c q => q.elim (fun q => .inl (.inl q)) fun q => q.elim (fun q => .inr (.inr q)) fun q => .inl (.inr q)
                      exact t6.trans (O1' := fun b => b = D0) (O2 := fun _ => False) ⟨fun _ _ q => q, fun a o e n => kp7 a o n e, fun _ z => z.elim, fun _ _ q => .inl q⟩ (fun c q => .inl (.inr (.inl (by rw [q]; exact aD)))) fun c q => .inr q
                    · obtain ⟨a1, a2, a3⟩ := k5 j hj hjv
                      obtain ⟨b1, b2, b3⟩ := w6.kp.k j fun z => hj (List.mem_append_right _ z)
                      exact ⟨b1.trans a1, fun b => (b2 b).trans (a2 b), fun b o q e => kp7 b o (nD6 j b ((b2 b).mpr ((a2 b).mpr q))) (b3 b o ((a2 b).mpr q) (a3 b o q e))⟩
                  · rw [if_neg hys] at e2; cases e2
    · have e0 : ds.drop i = [] := List.drop_eq_nil_of_le (by omega)
      rw [e0] at e2
      cases e2
      have l2 : ρE.length = σ.length := st2.len.trans (wipe_length σ vs)
      have ov : ∀ i ∈ vs, ∀ b, ¬ As2 i b := fun i hiv b q => by
        obtain ⟨d, hd⟩ := st2.em i b q
        rw [wn i hiv] at hd; cases hd
      refine .inl ⟨fd1 (by omega), hq _ rfl (.ref D0) F2 H2 As2 A2 ⟨⟨by rw [restE_len]; exact l2, fun i d e => ?_, fun i b q => ?_, st2.dj, st2.sub, st2.off⟩, ow, dis, of2, ?_, ⟨fun j hj => ?_⟩⟩⟩
      · by_cases hiv : i ∈ vs
        · rw [restE_in ρ1 ρE hiv (by rw [l2, ← st1.len]; exact (ownF i hiv).1) (by rw [l2, st1.len])] at e
          obtain ⟨v, h1, h2⟩ := st1.sl i d e
          have hfi : isF d = true := by
            have q := List.all_eq_true.mp hok i hiv
            rw [e] at q
            exact q
          exact ⟨v, h1, .fz ((h2.isF hfi).1.same sF) (ov i hiv)⟩
        · rw [restE_out ρ1 ρE hiv] at e
          obtain ⟨v, h1, h2⟩ := st2.sl i d e
          rw [wipe_out' σ hiv] at h1
          exact ⟨v, h1, h2⟩
      · by_cases hiv : i ∈ vs
        · exact (ov i hiv b q).elim
        · rw [restE_out ρ1 ρE hiv]; exact st2.em i b q
      · exact s1.trans s2 (fun _ q => .inl q) fun _ q => .inl q
      · have hj : j ∉ T ∧ j ∉ T1 ++ T2 := by simpa [not_or] using hj
        obtain ⟨a1, a2, a3⟩ := k1.k j hj.1
        by_cases hjv : j ∈ vs
        · refine ⟨(restE_in ρ1 ρE hjv (by rw [l2, ← st1.len]; exact (ownF j hjv).1) (by rw [l2, st1.len])).trans a1, fun b => ⟨fun z => (ov j hjv b z).elim, fun z => ((ownF j hjv).2 b ((a2 b).mpr z)).elim⟩, fun b o q e => ((ownF j hjv).2 b ((a2 b).mpr q)).elim⟩
        · obtain ⟨b1, b2, b3⟩ := kk j hj.2 hjv
          exact ⟨(restE_out ρ1 ρE hjv).trans (b1.trans a1), fun b => (b2 b).trans (a2 b), fun b o q e => b3 b o ((a2 b).mpr q) (a3 b o q e)⟩
end
end Pv

/-! PvC -/
set_option Elab.async false
set_option linter.all false
set_option maxRecDepth 100000
set_option maxHeartbeats 1000000
namespace Pv
open PySem L2
/-! ### what is built in, over data -/
def fAdd : D → D → Option D
  | .int i, .int j => some (.int (i + j))
  | _, _ => none
def fSub : D → D → Option D
  | .int i, .int j => some (.int (i - j))
  | _, _ => none
/-- products: one factor of at most 64 bits, or both together below a million bits -/
def mulOk (i j : Int) : Bool := decide ((-(2 ^ 64) < i ∧ i < 2 ^ 64) ∨ (-(2 ^ 64) < j ∧ j < 2 ^ 64)) || decide (i.natAbs.log2 + j.natAbs.log2 < 1000000)
def fMul : D → D → Option D
  | .int i, .int j => if mulOk i j = true then some (.int (i * j)) else none
  | _, _ => none
def divOk (j : Int) : Bool := decide (0 < j) && decide (j.natAbs.log2 < 9000)
def fDiv : D → D → Option D
  | .int i, .int j => if divOk j = true then some (.int (i / j)) else none
  | _, _ => none
def fMod : D → D → Option D
  | .int i, .int j => if 0 < j then some (.int (i % j)) else none
  | _, _ => none
def fPow : D → D → Option D
  | .int i, .int j => if 0 ≤ j ∧ j ≤ 1000000 ∧ i.natAbs < 2 ^ 64 then some (.int (i ^ j.toNat)) else none
  | _, _ => none
def fLt : D → D → Option D
  | .int i, .int j => some (.bl (decide (i < j)))
  | _, _ => none
def fLe : D → D → Option D
  | .int i, .int j => some (.bl (decide (i ≤ j)))
  | _, _ => none
def fGt : D → D → Option D
  | .int i, .int j => some (.bl (decide (j < i)))
  | _, _ => none
def fGe : D → D → Option D
  | .int i, .int j => some (.bl (decide (j ≤ i)))
  | _, _ => none
def toV : D → Option V
  | .non => some .non
  | .bl b => some (.bl b)
  | .int i => some (.int i)
  | .str x => some (.str x)
  | _ => none
def eqF (n : Bool) : D → D → Option D := fun a b => match toV a, toV b with
  | some x, some y => if scal x y = true then some (.bl (if n = true then !decide (x = y) else decide (x = y))) else none
  | _, _ => none
def fEq : D → D → Option D := eqF false
def fNe : D → D → Option D := eqF true
mutual
def toPy : D → Option PyData
  | .non => some .none
  | .bl b => some (.bool b)
  | .int i => some (.int i)
  | .str x => some (.str x)
  | .nd _ .lst xs => (toPyL xs).map .list
  | .nd _ .ro xs => (toPyL xs).map .list
  | .nd _ .tup xs => (toPyL xs).map .tuple
  | .nd _ .rt xs => (toPyL xs).map .tuple
  | _ => none
def toPyL : List D → Option (List PyData)
  | [] => some []
  | x :: xs => match toPy x, toPyL xs with
    | some y, some ys => some (y :: ys)
    | _, _ => none
end
def eqD (n : Bool) : D → D → Option D := fun a b => match toPy a, toPy b with
  | some x, some y => if SeqAt.shaped x = true ∧ SeqAt.shaped y = true then some (.bl (if n = true then !PyData.eqv x y else PyData.eqv x y)) else none
  | _, _ => none
def fEqD : D → D → Option D := eqD false
def fNeD : D → D → Option D := eqD true
def isNon : D → Bool
  | .non => true
  | _ => false
def fIsN : D → Option D := fun a => some (.bl (isNon a))
def fNotN : D → Option D := fun a => some (.bl (!isNon a))
def fNeg : D → Option D
  | .int i => some (.int (-i))
  | _ => none
def fLen : D → Option D
  | .nd _ k xs => if isSeq k = true then some (.int xs.length) else none
  | _ => none
def fLenD : D → Option D
  | .nd _ (.dK _) xs => some (.int xs.length)
  | _ => none
/-- all items frozen -/
def allF (xs : List D) : Bool := xs.all isF
def fList : D → Option D
  | .nd _ k xs => if isSeq k = true ∧ allF xs = true then some (.own xs) else none
  | _ => none
def fTuple : D → Option D
  | .nd o k xs => if (k = .lst ∨ k = .ro) ∧ allF xs = true then some (.tup xs) else if (k = .tup ∨ k = .rt) ∧ o = false then some (.nd o k xs) else none
  | _ => none
def boolL : List D → Option (List Bool)
  | [] => some []
  | .bl b :: xs => (boolL xs).map (b :: ·)
  | _ :: _ => none
def intL : List D → Option (List Int)
  | [] => some []
  | .int b :: xs => (intL xs).map (b :: ·)
  | _ :: _ => none
def fAll : D → Option D
  | .nd _ .lst xs => (boolL xs).map fun bs => .bl (bs.all id)
  | .nd _ .ro xs => (boolL xs).map fun bs => .bl (bs.all id)
  | _ => none
def fAny : D → Option D
  | .nd _ .lst xs => (boolL xs).map fun bs => .bl (bs.any id)
  | .nd _ .ro xs => (boolL xs).map fun bs => .bl (bs.any id)
  | _ => none
def fSum : D → Option D
  | .nd _ .lst xs => (intL xs).map fun bs => .int bs.sum
  | .nd _ .ro xs => (intL xs).map fun bs => .int bs.sum
  | _ => none
def maxI : List Int → Option Int
  | [] => none
  | x :: xs => some (xs.foldl max x)
def minI : List Int → Option Int
  | [] => none
  | x :: xs => some (xs.foldl min x)
def fMaxL : D → Option D
  | .nd _ .lst xs => ((intL xs).bind maxI).map .int
  | .nd _ .ro xs => ((intL xs).bind maxI).map .int
  | _ => none
def fMinL : D → Option D
  | .nd _ .lst xs => ((intL xs).bind minI).map .int
  | .nd _ .ro xs => ((intL xs).bind minI).map .int
  | _ => none
def fAbs : List D → Option D
  | [.int i] => some (.int (if i < 0 then -i else i))
  | _ => none
def fInt : List D → Option D
  | [.int i] => some (.int i)
  | [.bl k] => some (.int (if k then 1 else 0))
  | _ => none
def fMax2 : List D → Option D
  | [.int i, .int j] => some (.int (if j > i then j else i))
  | _ => none
def fMin2 : List D → Option D
  | [.int i, .int j] => some (.int (if j < i then j else i))
  | _ => none
/-- x in d, by a key -/
def fIn (n : Bool) : D → D → Option D := fun y x => match x with
  | .nd _ k xs => if isKey k y = true then (match dIx k y with
    | some j => if j < xs.length then some (.bl (!n)) else none
    | none => some (.bl n)) else none
  | _ => none
def fCat : D → D → Option D
  | .nd false .lst xs, .nd false .lst ys => if xs.length + ys.length ≤ 16777216 then some (.own (xs ++ ys)) else none
  | _, _ => none
def fCatT : D → D → Option D
  | .nd false .tup xs, .nd false .tup ys => if xs.length + ys.length ≤ 16777216 then some (.tup (xs ++ ys)) else none
  | _, _ => none
def fRep : D → D → Option D
  | .nd false .lst xs, .int k => if -(2 ^ 63) ≤ k ∧ k < 2 ^ 63 ∧ xs.length * k.toNat ≤ 16777216 then some (.own (List.replicate k.toNat xs).flatten) else none
  | _, _ => none
def fRevL : D → Option D := fun d => (seqOf d).map fun xs => .own xs.reverse
def cutD (xs : List D) (lo hi : Option Int) : List D := (xs.drop (HT.sIx xs.length 0 lo)).take (HT.sIx xs.length xs.length hi - HT.sIx xs.length 0 lo)
def fCutL : D → Option Int → Option Int → Option D := fun d lo hi => (seqOf d).map fun xs => .own (cutD xs lo hi)
def fCutT : D → Option Int → Option Int → Option D := fun d lo hi => match d with
  | .nd false .tup xs => some (.tup (cutD xs lo hi))
  | _ => none
/-- isinstance with int, bool, str, list, tuple, dict -/
def tyN : D → String
  | .non => "NoneType"
  | .bl _ => "bool"
  | .int _ => "int"
  | .str _ => "str"
  | .nd _ .lst _ => "list"
  | .nd _ .ro _ => "list"
  | .nd _ .tup _ => "tuple"
  | .nd _ .rt _ => "tuple"
  | .nd _ (.dK _) _ => "dict"
  | .nd _ (.dT _) _ => "dict"
  | .nd _ (.ins _ _) _ => "object"
def fIsi (T : String) : D → Option D := fun d => match d with
  | .nd _ (.ins _ _) _ => none
  | .nd _ (.dT _) _ => none
  | d => some (.bl (decide (tyN d = T) || (decide (T = "int") && decide (tyN d = "bool"))))
section
variable {K : PySem.W.Frag} {cl : Nat → Addr} {W : WX} {F F' H H' F1 H1 : Hp} {σ σ' σ1 : L2.St} {ρ ρ' ρ1 : Env} {As As' As1 : Nat → Ads} {T T1 T2 S S1 S2 Z Z1 Z2 : List Nat} {A A1 O O' : Ads} {v : V} {d : D} {X : Cx}
theorem pr_rI0 {g : Int → Int → V} {f : D → D → Option D} (h : ∀ a b d, f a b = some d → ∃ i j, a = .int i ∧ b = .int j ∧ ∀ F, Fz K cl F (g i j) d) : Pr2 K cl (rI0 g) f := fun F H x y dx dy d Q s hx hy e k => by
  obtain ⟨i, j, rfl, rfl, hf⟩ := h dx dy d e
  cases hx; cases hy
  exact ⟨i, j, rfl, rfl, k _ _ _ _ (New.flat s (hf F))⟩
theorem pr_rI {C : Int → Int → Prop} {g : Int → Int → V} {f : D → D → Option D} (h : ∀ a b d, f a b = some d → ∃ i j, a = .int i ∧ b = .int j ∧ C i j ∧ ∀ F, Fz K cl F (g i j) d) : Pr2 K cl (rI C g) f := fun F H x y dx dy d Q s hx hy e k => by
  obtain ⟨i, j, rfl, rfl, hc, hf⟩ := h dx dy d e
  cases hx; cases hy
  exact ⟨i, j, rfl, rfl, hc, k _ _ _ _ (New.flat s (hf F))⟩
theorem pr_add : Pr2 K cl (rI0 fun i j => .int (i + j)) fAdd := pr_rI0 fun a b d e => by
  unfold fAdd at e; split at e
  · cases e; exact ⟨_, _, rfl, rfl, fun _ => .int _⟩
  · cases e
theorem pr_sub : Pr2 K cl (rI0 fun i j => .int (i - j)) fSub := pr_rI0 fun a b d e => by
  unfold fSub at e; split at e
  · cases e; exact ⟨_, _, rfl, rfl, fun _ => .int _⟩
  · cases e
theorem pr_lt : Pr2 K cl (rI0 fun i j => .bl (decide (i < j))) fLt := pr_rI0 fun a b d e => by
  unfold fLt at e; split at e
  · cases e; exact ⟨_, _, rfl, rfl, fun _ => .bl _⟩
  · cases e
theorem pr_le : Pr2 K cl (rI0 fun i j => .bl (decide (i ≤ j))) fLe := pr_rI0 fun a b d e => by
  unfold fLe at e; split at e
  · cases e; exact ⟨_, _, rfl, rfl, fun _ => .bl _⟩
  · cases e
theorem pr_gt : Pr2 K cl (rI0 fun i j => .bl (decide (j < i))) fGt := pr_rI0 fun a b d e => by
  unfold fGt at e; split at e
  · cases e; exact ⟨_, _, rfl, rfl, fun _ => .bl _⟩
  · cases e
theorem pr_ge : Pr2 K cl (rI0 fun i j => .bl (decide (j ≤ i))) fGe := pr_rI0 fun a b d e => by
  unfold fGe at e; split at e
  · cases e; exact ⟨_, _, rfl, rfl, fun _ => .bl _⟩
  · cases e
def rMulA : R2 := fun x y H Q => rI CMul (fun i j => .int (i * j)) x y H Q ∨ rI CMulW (fun i j => .int (i * j)) x y H Q
theorem op_mulA : OpR X (binaryOp .Mult) rMulA := OpR.or op_mul op_mulW
theorem pr_mul : Pr2 K cl rMulA fMul := fun F H x y dx dy d Q s hx hy e k => by
  unfold fMul at e; split at e
  · rename_i i j
    split at e
    · rename_i h
      cases e
      cases hx; cases hy
      unfold mulOk at h
      simp only [Bool.or_eq_true, decide_eq_true_eq] at h
      rcases h with h | h
      · exact .inl ⟨i, j, rfl, rfl, h, k _ _ _ _ (New.flat s (.int _))⟩
      · exact .inr ⟨i, j, rfl, rfl, h, k _ _ _ _ (New.flat s (.int _))⟩
    · cases e
  · cases e
theorem pr_div : Pr2 K cl (rI CDivW fun i j => .int (i / j)) fDiv := pr_rI fun a b d e => by
  unfold fDiv at e; split at e
  · rename_i i j
    split at e
    · rename_i h
      cases e
      unfold divOk at h
      simp only [Bool.and_eq_true, decide_eq_true_eq] at h
      exact ⟨_, _, rfl, rfl, h, fun _ => .int _⟩
    · cases e
  · cases e
theorem pr_mod : Pr2 K cl (rI (fun _ j => 0 < j) fun i j => .int (i % j)) fMod := pr_rI fun a b d e => by
  unfold fMod at e; split at e
  · rename_i i j
    split at e
    · rename_i h
      cases e
      exact ⟨_, _, rfl, rfl, h, fun _ => .int _⟩
    · cases e
  · cases e
theorem pr_pow : Pr2 K cl (rI CPow fun i j => .int (i ^ j.toNat)) fPow := pr_rI fun a b d e => by
  unfold fPow at e; split at e
  · rename_i i j
    split at e
    · rename_i h
      cases e
      exact ⟨_, _, rfl, rfl, h, fun _ => .int _⟩
    · cases e
  · cases e
theorem toV_ok {v : V} {d : D} {x : V} (h : Fz K cl F v d) (e : toV d = some x) : v = x := by
  cases h <;> cases e <;> rfl
theorem pr_eq : Pr2 K cl rEq fEq := fun F H x y dx dy d Q s hx hy e k => by
  unfold fEq eqF at e; split at e
  · rename_i a b ha hb
    split at e
    · rename_i h
      cases e
      rw [toV_ok hx ha, toV_ok hy hb]
      exact ⟨h, k _ _ _ _ (New.flat s (.bl _))⟩
    · cases e
  · cases e
theorem pr_ne : Pr2 K cl rNe fNe := fun F H x y dx dy d Q s hx hy e k => by
  unfold fNe eqF at e; split at e
  · rename_i a b ha hb
    split at e
    · rename_i h
      cases e
      rw [toV_ok hx ha, toV_ok hy hb]
      exact ⟨h, k _ _ _ _ (New.flat s (.bl _))⟩
    · cases e
  · cases e
mutual
theorem toPy_ok (s : Same F H) : ∀ (d : D) (v : V) (x : PyData), Fz K cl F v d → toPy d = some x → Dp K H v x
  | .non, v, x, h, e => by cases h; cases e; exact .non
  | .bl b, v, x, h, e => by cases h; cases e; exact .bl b
  | .int b, v, x, h, e => by cases h; cases e; exact .int b
  | .str b, v, x, h, e => by cases h; cases e; exact .str b
  | .nd o k xs, v, x, h, e => by
    cases h with
    | @nd _ a vs _ h l c =>
      have f : FzL K cl F vs xs := .of l c
      cases k with
      | lst =>
        rw [toPy] at e
        cases q : toPyL xs with
        | none => rw [q] at e; cases e
        | some ys => rw [q] at e; cases e; exact .lst (s.seq (SqL.of h)) (toPyL_ok s xs vs ys f q)
      | ro =>
        rw [toPy] at e
        cases q : toPyL xs with
        | none => rw [q] at e; cases e
        | some ys => rw [q] at e; cases e; exact .lst (s.seq h) (toPyL_ok s xs vs ys f q)
      | tup =>
        rw [toPy] at e
        cases q : toPyL xs with
        | none => rw [q] at e; cases e
        | some ys => rw [q] at e; cases e; exact .tup (sqT_same s (SqT.of h)) (toPyL_ok s xs vs ys f q)
      | rt =>
        rw [toPy] at e
        cases q : toPyL xs with
        | none => rw [q] at e; cases e
        | some ys => rw [q] at e; cases e; exact .tup (sqT_same s h) (toPyL_ok s xs vs ys f q)
      | dK ks => rw [toPy] at e <;> first | cases e | (intro q; cases q)
      | dT ks => rw [toPy] at e <;> first | cases e | (intro q; cases q)
      | ins c ns => rw [toPy] at e <;> first | cases e | (intro q; cases q)
theorem toPyL_ok (s : Same F H) : ∀ (ds : List D) (vs : List V) (xs : List PyData), FzL K cl F vs ds → toPyL ds = some xs → DpAll K H vs xs
  | [], vs, xs, h, e => by cases h; cases e; exact .nil
  | d :: ds, vs, xs, h, e => by
    cases h with
    | @cons v _ vs _ h t =>
      rw [toPyL] at e
      cases q : toPy d with
      | none => rw [q] at e; cases e
      | some y =>
        cases q2 : toPyL ds with
        | none => rw [q, q2] at e; cases e
        | some ys => rw [q, q2] at e; cases e; exact .cons (toPy_ok s d v y h q) (toPyL_ok s ds vs ys t q2)
end
theorem pr_eqD : Pr2 K cl (rEqD K) fEqD := fun F H x y dx dy d Q s hx hy e k => by
  unfold fEqD eqD at e; split at e
  · rename_i a b ha hb
    split at e
    · rename_i h
      cases e
      exact ⟨a, b, toPy_ok s dx x a hx ha, toPy_ok s dy y b hy hb, h.1, h.2, k _ _ _ _ (New.flat s (.bl _))⟩
    · cases e
  · cases e
theorem pr_neD : Pr2 K cl (rNeD K) fNeD := fun F H x y dx dy d Q s hx hy e k => by
  unfold fNeD eqD at e; split at e
  · rename_i a b ha hb
    split at e
    · rename_i h
      cases e
      exact ⟨a, b, toPy_ok s dx x a hx ha, toPy_ok s dy y b hy hb, h.1, h.2, k _ _ _ _ (New.flat s (.bl _))⟩
    · cases e
  · cases e
theorem View.non (h : View K cl F H v d) : decide (v = .non) = isNon d := by
  rcases h with h | ⟨a, k, vs, xs, rfl, rfl, _⟩
  · cases h <;> simp [isNon]
  · simp [isNon]
/-- is None: of a place, too -/
theorem pk_isN : PkS K cl (fun x H Q => Q (.bl (decide (x = .non))) H) fIsN := fun F H x dx d Q s h e k => by
  cases e
  rw [h.non]
  exact k _ _ _ _ (New.flat s (.bl _))
theorem pk_notN : PkS K cl (fun x H Q => Q (.bl (!decide (x = .non))) H) fNotN := fun F H x dx d Q s h e k => by
  cases e
  rw [h.non]
  exact k _ _ _ _ (New.flat s (.bl _))
theorem PkS.pr {r : V → Hp → VK → Prop} {f : D → Option D} (h : PkS K cl r f) : Pr1 K cl r f := fun F H x dx d Q s hx e k => h F H x dx d Q s (.inl hx) e k
theorem pr_neg : Pr1 K cl (rU fun i => .int (-i)) fNeg := fun F H x dx d Q s hx e k => by
  unfold fNeg at e; split at e
  · cases e; cases hx; exact ⟨_, rfl, k _ _ _ _ (New.flat s (.int _))⟩
  · cases e
/-- the object of a view -/
theorem View.obj {o : Bool} {k : Kd} {xs : List D} (s : Same F H) (h : View K cl F H v (.nd o k xs)) : ∃ a vs, v = .ref a ∧ At K cl H k a vs ∧ vs.length = xs.length ∧ ∀ (i : Nat) (u : V) (x : D), vs[i]? = some u → xs[i]? = some x → isF x = true → Fz K cl F u x := by
  rcases h with h | ⟨a, k', vs, xs', rfl, e, ob, l, c⟩
  · cases h with
    | nd h l c => exact ⟨_, _, rfl, h.same s, l, fun i u x h1 h2 _ => c i u x h1 h2⟩
  · cases e
    exact ⟨a, vs, rfl, ob.at, l, c⟩
theorem View.kids {o : Bool} {k : Kd} {xs : List D} (s : Same F H) (h : View K cl F H v (.nd o k xs)) (f : allF xs = true) : ∃ a vs, v = .ref a ∧ At K cl H k a vs ∧ FzL K cl F vs xs := by
  obtain ⟨a, vs, rfl, h1, l, c⟩ := h.obj s
  exact ⟨a, vs, rfl, h1, .of l fun i u x h2 h3 => c i u x h2 h3 (List.all_eq_true.mp f x (List.mem_of_getElem? h3))⟩
theorem pk_len : PkS K cl (fun x H Q => ∃ p ys, [x] = [.ref p] ∧ (SqL K H p ys ∨ SqT K H p ys) ∧ Q (.int ys.length) H) fLen := fun F H x dx d Q s h e k => by
  unfold fLen at e; split at e
  · split at e
    · rename_i o kd xs hs
      cases e
      obtain ⟨a, vs, rfl, h1, l, _⟩ := h.obj s
      exact ⟨a, vs, rfl, h1.seq hs, by rw [l]; exact k _ _ _ _ (New.flat s (.int _))⟩
    · cases e
  · cases e
theorem pk_lenD : PkS K cl (fun x H Q => ∃ (a : Addr) (kvs : List (Key × V)), [x] = [.ref a] ∧ Rd H a (.dK kvs) ∧ Q (.int kvs.length) H) fLenD := fun F H x dx d Q s h e k => by
  unfold fLenD at e; split at e
  · rename_i o ks xs
    cases e
    obtain ⟨a, vs, rfl, h1, l, _⟩ := h.obj s
    refine ⟨a, _, rfl, h1.2, ?_⟩
    rw [List.length_zip, h1.1, Nat.min_self, l]
    exact k _ _ _ _ (New.flat s (.int _))
  · cases e
theorem pk_list : PkS K cl (fun x H Q => ∃ p ys, [x] = [.ref p] ∧ (SqL K H p ys ∨ SqT K H p ys) ∧ ∀ l, H l = none → Q (.ref l) (upd H l (.lst ys))) fList := fun F H x dx d Q s h e k => by
  unfold fList at e; split at e
  · split at e
    · rename_i o kd xs hs
      cases e
      obtain ⟨a, vs, rfl, h1, f⟩ := h.kids s hs.2
      exact ⟨a, vs, rfl, h1.seq hs.1, fun l hl => k _ _ _ _ (new_lst s hl f)⟩
    · cases e
  · cases e
theorem pk_tuple : PkS K cl (fun x H Q => ∃ p ys, [x] = [.ref p] ∧ ((SqL K H p ys ∧ ∀ l, H l = none → Q (.ref l) (upd H l (.tup ys))) ∨ (SqT K H p ys ∧ Q (.ref p) H))) fTuple := fun F H x dx d Q s h e k => by
  unfold fTuple at e; split at e
  · rename_i o kd xs
    split at e
    · rename_i hs
      cases e
      obtain ⟨a, vs, rfl, h1, f⟩ := h.kids s hs.2
      refine ⟨a, vs, rfl, .inl ⟨?_, fun l hl => k _ _ _ _ (new_tup s hl f)⟩⟩
      rcases hs.1 with rfl | rfl
      · exact SqL.of h1
      · exact h1
    · split at e
      · rename_i hs
        cases e
        obtain ⟨hk, rfl⟩ := hs
        rcases h with h | ⟨_, _, _, _, _, e, _⟩
        · obtain ⟨a, vs, rfl, h1, f⟩ := h.kids
          refine ⟨a, vs, rfl, .inr ⟨?_, k _ _ _ _ (New.flat s h)⟩⟩
          rcases hk with rfl | rfl
          · exact sqT_same s (SqT.of h1)
          · exact sqT_same s h1
        · cases e
      · cases e
  · cases e
theorem boolL_ok {vs : List V} {xs : List D} (l : vs.length = xs.length) (c : ∀ (i : Nat) (u : V) (x : D), vs[i]? = some u → xs[i]? = some x → isF x = true → Fz K cl F u x) : ∀ {bs : List Bool}, boolL xs = some bs → vs = bs.map V.bl := by
  induction xs generalizing vs with
  | nil => intro bs e; cases e; cases vs with | nil => rfl | cons => cases l
  | cons x xs ih =>
    intro bs e
    cases vs with
    | nil => cases l
    | cons v vs =>
      cases x with
      | bl b =>
        rw [boolL] at e
        cases q : boolL xs with
        | none => rw [q] at e; cases e
        | some bs' =>
          rw [q] at e
          cases e
          have h0 := c 0 v (.bl b) rfl rfl rfl
          cases h0
          have hh := ih (vs := vs) (by simpa using l) (fun i u x h1 h2 h3 => c (i + 1) u x (by simpa using h1) (by simpa using h2) h3) q
          rw [List.map_cons, ← hh]
      | _ => cases e
theorem intL_ok {vs : List V} {xs : List D} (l : vs.length = xs.length) (c : ∀ (i : Nat) (u : V) (x : D), vs[i]? = some u → xs[i]? = some x → isF x = true → Fz K cl F u x) : ∀ {bs : List Int}, intL xs = some bs → vs = bs.map V.int := by
  induction xs generalizing vs with
  | nil => intro bs e; cases e; cases vs with | nil => rfl | cons => cases l
  | cons x xs ih =>
    intro bs e
    cases vs with
    | nil => cases l
    | cons v vs =>
      cases x with
      | int b =>
        rw [intL] at e
        cases q : intL xs with
        | none => rw [q] at e; cases e
        | some bs' =>
          rw [q] at e
          cases e
          have h0 := c 0 v (.int b) rfl rfl rfl
          cases h0
          have hh := ih (vs := vs) (by simpa using l) (fun i u x h1 h2 h3 => c (i + 1) u x (by simpa using h1) (by simpa using h2) h3) q
          rw [List.map_cons, ← hh]
      | _ => cases e
/-- a list of truths -/
theorem View.boolL {o : Bool} {k : Kd} {xs : List D} {bs : List Bool} (s : Same F H) (h : View K cl F H v (.nd o k xs)) (hk : k = .lst ∨ k = .ro) (e : Pv.boolL xs = some bs) : ∃ a, v = .ref a ∧ SqL K H a (bs.map V.bl) := by
  obtain ⟨a, vs, rfl, h1, l, c⟩ := h.obj s
  have ev := boolL_ok l c e
  subst ev
  rcases hk with rfl | rfl
  · exact ⟨a, rfl, SqL.of h1⟩
  · exact ⟨a, rfl, h1⟩
theorem View.intL {o : Bool} {k : Kd} {xs : List D} {bs : List Int} (s : Same F H) (h : View K cl F H v (.nd o k xs)) (hk : k = .lst ∨ k = .ro) (e : Pv.intL xs = some bs) : ∃ a, v = .ref a ∧ SqL K H a (bs.map V.int) := by
  obtain ⟨a, vs, rfl, h1, l, c⟩ := h.obj s
  have ev := intL_ok l c e
  subst ev
  rcases hk with rfl | rfl
  · exact ⟨a, rfl, SqL.of h1⟩
  · exact ⟨a, rfl, h1⟩
theorem pk_all : PkS K cl (fun x H Q => rAll K [x] H Q) fAll := fun F H x dx d Q s h e k => by
  unfold fAll at e; split at e
  · rename_i o xs
    cases q : boolL xs with
    | none => rw [q] at e; cases e
    | some bs =>
      rw [q] at e; cases e
      obtain ⟨a, rfl, h1⟩ := h.boolL s (.inl rfl) q
      exact ⟨a, bs, rfl, h1, k _ _ _ _ (New.flat s (.bl _))⟩
  · rename_i o xs
    cases q : boolL xs with
    | none => rw [q] at e; cases e
    | some bs =>
      rw [q] at e; cases e
      obtain ⟨a, rfl, h1⟩ := h.boolL s (.inr rfl) q
      exact ⟨a, bs, rfl, h1, k _ _ _ _ (New.flat s (.bl _))⟩
  · cases e
theorem pk_any : PkS K cl (fun x H Q => rAny K [x] H Q) fAny := fun F H x dx d Q s h e k => by
  unfold fAny at e; split at e
  · rename_i o xs
    cases q : boolL xs with
    | none => rw [q] at e; cases e
    | some bs =>
      rw [q] at e; cases e
      obtain ⟨a, rfl, h1⟩ := h.boolL s (.inl rfl) q
      exact ⟨a, bs, rfl, h1, k _ _ _ _ (New.flat s (.bl _))⟩
  · rename_i o xs
    cases q : boolL xs with
    | none => rw [q] at e; cases e
    | some bs =>
      rw [q] at e; cases e
      obtain ⟨a, rfl, h1⟩ := h.boolL s (.inr rfl) q
      exact ⟨a, bs, rfl, h1, k _ _ _ _ (New.flat s (.bl _))⟩
  · cases e
theorem pk_sum : PkS K cl (fun x H Q => rSum K [x] H Q) fSum := fun F H x dx d Q s h e k => by
  unfold fSum at e; split at e
  · rename_i o xs
    cases q : intL xs with
    | none => rw [q] at e; cases e
    | some bs =>
      rw [q] at e; cases e
      obtain ⟨a, rfl, h1⟩ := h.intL s (.inl rfl) q
      exact ⟨a, bs, rfl, h1, k _ _ _ _ (New.flat s (.int _))⟩
  · rename_i o xs
    cases q : intL xs with
    | none => rw [q] at e; cases e
    | some bs =>
      rw [q] at e; cases e
      obtain ⟨a, rfl, h1⟩ := h.intL s (.inr rfl) q
      exact ⟨a, bs, rfl, h1, k _ _ _ _ (New.flat s (.int _))⟩
  · cases e
theorem foldl_max_le : ∀ (xs : List Int) (x : Int), x ≤ xs.foldl max x ∧ (∀ y ∈ xs, y ≤ xs.foldl max x) ∧ (xs.foldl max x = x ∨ xs.foldl max x ∈ xs)
  | [], x => ⟨Int.le_refl _, by simp, .inl rfl⟩
  | z :: xs, x => by
    obtain ⟨h1, h2, h3⟩ := foldl_max_le xs (max x z)
    rw [List.foldl_cons]
    refine ⟨by omega, fun y hy => ?_, ?_⟩
    · rcases List.mem_cons.mp hy with rfl | hy
      · omega
      · exact h2 y hy
    · rcases h3 with h3 | h3
      · rw [h3]
        by_cases q : x ≤ z
        · right; rw [Int.max_eq_right q]; exact List.mem_cons_self
        · left; exact Int.max_eq_left (by omega)
      · exact .inr (List.mem_cons_of_mem _ h3)
theorem foldl_min_le : ∀ (xs : List Int) (x : Int), xs.foldl min x ≤ x ∧ (∀ y ∈ xs, xs.foldl min x ≤ y) ∧ (xs.foldl min x = x ∨ xs.foldl min x ∈ xs)
  | [], x => ⟨Int.le_refl _, by simp, .inl rfl⟩
  | z :: xs, x => by
    obtain ⟨h1, h2, h3⟩ := foldl_min_le xs (min x z)
    rw [List.foldl_cons]
    refine ⟨by omega, fun y hy => ?_, ?_⟩
    · rcases List.mem_cons.mp hy with rfl | hy
      · omega
      · exact h2 y hy
    · rcases h3 with h3 | h3
      · rw [h3]
        by_cases q : x ≤ z
        · left; exact Int.min_eq_left q
        · right; rw [Int.min_eq_right (by omega)]; exact List.mem_cons_self
      · exact .inr (List.mem_cons_of_mem _ h3)
theorem maxI_eq {ns : List Int} {m n : Int} (h : maxI ns = some n) (hm : m ∈ ns) (hx : ∀ y ∈ ns, y ≤ m) : m = n := by
  cases ns with
  | nil => cases h
  | cons x xs =>
    cases h
    obtain ⟨h1, h2, h3⟩ := foldl_max_le xs x
    have a : xs.foldl max x ≤ m := by
      rcases h3 with q | q
      · rw [q]; exact hx x List.mem_cons_self
      · exact hx _ (List.mem_cons_of_mem _ q)
    have b : m ≤ xs.foldl max x := by
      rcases List.mem_cons.mp hm with rfl | q
      · exact h1
      · exact h2 m q
    omega
theorem minI_eq {ns : List Int} {m n : Int} (h : minI ns = some n) (hm : m ∈ ns) (hx : ∀ y ∈ ns, m ≤ y) : m = n := by
  cases ns with
  | nil => cases h
  | cons x xs =>
    cases h
    obtain ⟨h1, h2, h3⟩ := foldl_min_le xs x
    have a : m ≤ xs.foldl min x := by
      rcases h3 with q | q
      · rw [q]; exact hx x List.mem_cons_self
      · exact hx _ (List.mem_cons_of_mem _ q)
    have b : xs.foldl min x ≤ m := by
      rcases List.mem_cons.mp hm with rfl | q
      · exact h1
      · exact h2 m q
    omega
theorem pk_maxL : PkS K cl (fun x H Q => rMax K [x] H Q) fMaxL := fun F H x dx d Q s h e k => by
  have go : ∀ (o : Bool) (kd : Kd) (xs : List D), (kd = .lst ∨ kd = .ro) → dx = .nd o kd xs → ((intL xs).bind maxI).map D.int = some d → rMax K [x] H Q := fun o kd xs hk ed e2 => by
    clear e
    subst ed
    have e := e2
    cases q : intL xs with
    | none => rw [q] at e; cases e
    | some bs =>
      rw [q] at e
      cases q2 : maxI bs with
      | none => simp only [Option.bind_some, q2] at e; cases e
      | some n =>
        simp only [Option.bind_some, q2] at e; cases e
        obtain ⟨a, rfl, h1⟩ := h.intL s hk q
        refine ⟨a, bs, rfl, h1, by cases bs with | nil => cases q2 | cons => simp, fun m hm hx => ?_⟩
        rw [maxI_eq q2 hm hx]
        exact k _ _ _ _ (New.flat s (.int _))
  unfold fMaxL at e; split at e
  · exact go _ _ _ (.inl rfl) rfl e
  · exact go _ _ _ (.inr rfl) rfl e
  · cases e
theorem pk_minL : PkS K cl (fun x H Q => rMin K [x] H Q) fMinL := fun F H x dx d Q s h e k => by
  have go : ∀ (o : Bool) (kd : Kd) (xs : List D), (kd = .lst ∨ kd = .ro) → dx = .nd o kd xs → ((intL xs).bind minI).map D.int = some d → rMin K [x] H Q := fun o kd xs hk ed e2 => by
    clear e
    subst ed
    have e := e2
    cases q : intL xs with
    | none => rw [q] at e; cases e
    | some bs =>
      rw [q] at e
      cases q2 : minI bs with
      | none => simp only [Option.bind_some, q2] at e; cases e
      | some n =>
        simp only [Option.bind_some, q2] at e; cases e
        obtain ⟨a, rfl, h1⟩ := h.intL s hk q
        refine ⟨a, bs, rfl, h1, by cases bs with | nil => cases q2 | cons => simp, fun m hm hx => ?_⟩
        rw [minI_eq q2 hm hx]
        exact k _ _ _ _ (New.flat s (.int _))
  unfold fMinL at e; split at e
  · exact go _ _ _ (.inl rfl) rfl e
  · exact go _ _ _ (.inr rfl) rfl e
  · cases e
theorem pn_abs : PrN K cl (fun xs H Q => ∃ i, xs = [.int i] ∧ Q (.int (if i < 0 then -i else i)) H) fAbs := fun F H xs ds d Q s f e k => by
  unfold fAbs at e; split at e
  · cases e
    cases f with | cons h1 t1 => cases h1; cases t1; exact ⟨_, rfl, k _ _ _ _ (New.flat s (.int _))⟩
  · cases e
theorem pn_int : PrN K cl (fun xs H Q => (∃ i, xs = [.int i] ∧ Q (.int i) H) ∨ ∃ k, xs = [.bl k] ∧ Q (.int (if k then 1 else 0)) H) fInt := fun F H xs ds d Q s f e k => by
  unfold fInt at e; split at e
  · cases e
    cases f with | cons h1 t1 => cases h1; cases t1; exact .inl ⟨_, rfl, k _ _ _ _ (New.flat s (.int _))⟩
  · cases e
    cases f with | cons h1 t1 => cases h1; cases t1; exact .inr ⟨_, rfl, k _ _ _ _ (New.flat s (.int _))⟩
  · cases e
theorem pn_max2 : PrN K cl (fun xs H Q => ∃ i j, xs = [.int i, .int j] ∧ Q (.int (if j > i then j else i)) H) fMax2 := fun F H xs ds d Q s f e k => by
  unfold fMax2 at e; split at e
  · cases e
    cases f with | cons h1 t1 => cases h1; cases t1 with | cons h2 t2 => cases h2; cases t2; exact ⟨_, _, rfl, k _ _ _ _ (New.flat s (.int _))⟩
  · cases e
theorem pn_min2 : PrN K cl (fun xs H Q => ∃ i j, xs = [.int i, .int j] ∧ Q (.int (if j < i then j else i)) H) fMin2 := fun F H xs ds d Q s f e k => by
  unfold fMin2 at e; split at e
  · cases e
    cases f with | cons h1 t1 => cases h1; cases t1 with | cons h2 t2 => cases h2; cases t2; exact ⟨_, _, rfl, k _ _ _ _ (New.flat s (.int _))⟩
  · cases e
theorem in_core {n : Bool} {y x : V} {dy dx d : D} (s : Same F H) (hy : Fz K cl F y dy) (h : View K cl F H x dx) (e : fIn n dy dx = some d) : ∃ a o, x = .ref a ∧ DGet H a y o ∧ d = .bl (if n = true then !o.isSome else o.isSome) := by
  unfold fIn at e; split at e
  · rename_i o kd xs
    split at e
    · rename_i hk
      obtain ⟨a, vs, rfl, h1, l, _⟩ := h.obj s
      have g := dget_ok s h1 hy (isKey_ok hk)
      refine ⟨a, _, rfl, g, ?_⟩
      cases q : dIx kd dy with
      | none => rw [q] at e; cases e; cases n <;> rfl
      | some j =>
        rw [q] at e
        replace e : (if j < xs.length then some (D.bl (!n)) else none) = some d := e
        by_cases hj : j < xs.length
        · rw [if_pos hj] at e
          cases e
          have : (vs[j]?).isSome = true := by simp [show j < vs.length by omega]
          simp only [Option.bind_some, this]
          cases n <;> rfl
        · rw [if_neg hj] at e; cases e
    · cases e
  · cases e
theorem pk_in : Pk2 K cl (fun y x H Q => ∃ a o, x = .ref a ∧ DGet H a y o ∧ Q (.bl o.isSome) H) (fIn false) := fun F H y x dy dx d Q s hy h e k => by
  obtain ⟨a, o, rfl, g, rfl⟩ := in_core s hy h e
  exact ⟨a, o, rfl, g, k _ _ _ _ (New.flat s (.bl _))⟩
theorem pk_notIn : Pk2 K cl (fun y x H Q => ∃ a o, x = .ref a ∧ DGet H a y o ∧ Q (.bl (!o.isSome)) H) (fIn true) := fun F H y x dy dx d Q s hy h e k => by
  obtain ⟨a, o, rfl, g, rfl⟩ := in_core s hy h e
  exact ⟨a, o, rfl, g, k _ _ _ _ (New.flat s (.bl _))⟩
theorem FzL.append {vs ws : List V} {xs ys : List D} (h : FzL K cl F vs xs) (h' : FzL K cl F ws ys) : FzL K cl F (vs ++ ws) (xs ++ ys) := by
  induction h with
  | nil => exact h'
  | cons h t ih => exact .cons h ih
theorem pr_cat : Pr2 K cl rCat fCat := fun F H x y dx dy d Q s hx hy e k => by
  unfold fCat at e; split at e
  · split at e
    · rename_i xs ys hl
      cases e
      obtain ⟨a, vs, rfl, h1, f1⟩ := hx.kids
      obtain ⟨b, ws, rfl, h2, f2⟩ := hy.kids
      exact ⟨a, b, vs, ws, rfl, rfl, s _ _ h1, s _ _ h2, by rw [sizeLine_eq, f1.len, f2.len]; exact hl, fun p hp => k _ _ _ _ (new_lst s hp (f1.append f2))⟩
    · cases e
  · cases e
theorem FzL.reverse {vs : List V} {xs : List D} (h : FzL K cl F vs xs) : FzL K cl F vs.reverse xs.reverse := by
  induction h with
  | nil => exact .nil
  | cons h t ih => rw [List.reverse_cons, List.reverse_cons]; exact ih.append (.cons h .nil)
theorem FzL.take {vs : List V} {xs : List D} (h : FzL K cl F vs xs) (n : Nat) : FzL K cl F (vs.take n) (xs.take n) := by
  induction h generalizing n with
  | nil => cases n <;> exact .nil
  | cons h t ih => cases n with
    | zero => exact .nil
    | succ n => exact .cons h (ih n)
theorem FzL.drop {vs : List V} {xs : List D} (h : FzL K cl F vs xs) (n : Nat) : FzL K cl F (vs.drop n) (xs.drop n) := by
  induction h generalizing n with
  | nil => cases n <;> exact .nil
  | cons h t ih => cases n with
    | zero => exact .cons h t
    | succ n => exact ih n
theorem FzL.cut {vs : List V} {xs : List D} (h : FzL K cl F vs xs) (lo hi : Option Int) : FzL K cl F (cutV vs lo hi) (cutD xs lo hi) := by
  unfold cutV cutD
  rw [h.len]
  exact (h.drop _).take _
theorem FzL.rep {vs : List V} {xs : List D} (h : FzL K cl F vs xs) : ∀ n : Nat, FzL K cl F (List.replicate n vs).flatten (List.replicate n xs).flatten
  | 0 => .nil
  | n + 1 => by rw [List.replicate_succ, List.replicate_succ, List.flatten_cons, List.flatten_cons]; exact h.append (h.rep n)
theorem pr_catT : Pr2 K cl (rCatA K) fCatT := fun F H x y dx dy d Q s hx hy e k => by
  unfold fCatT at e; split at e
  · split at e
    · rename_i xs ys hl
      cases e
      obtain ⟨a, vs, rfl, h1, f1⟩ := hx.kids
      obtain ⟨b, ws, rfl, h2, f2⟩ := hy.kids
      refine ⟨a, b, vs, ws, rfl, rfl, SqT.of (s _ _ h1), SqT.of (s _ _ h2), by rw [sizeLine_eq, f1.len, f2.len]; exact hl, fun e1 => ?_, fun n1 e2 => ?_, fun n1 n2 p hp => k _ _ _ _ (new_tup s hp (f1.append f2))⟩
      · subst e1
        cases f1
        exact k _ _ _ _ (New.flat s hy)
      · subst e2
        cases f2
        rw [List.append_nil] at k
        exact k _ _ _ _ (New.flat s hx)
    · cases e
  · cases e
theorem pr_rep : Pr2 K cl rRep fRep := fun F H x y dx dy d Q s hx hy e k => by
  unfold fRep at e; split at e
  · split at e
    · rename_i xs n hl
      cases e
      obtain ⟨a, vs, rfl, h1, f1⟩ := hx.kids
      cases hy
      exact ⟨a, n, vs, rfl, rfl, s _ _ h1, hl.1, hl.2.1, by rw [sizeLine_eq, f1.len]; exact hl.2.2, fun p hp => k _ _ _ _ (new_lst s hp (f1.rep _))⟩
    · cases e
  · cases e
theorem pr_revL : Pr1 K cl (fun x H Q => ∃ a xs, x = .ref a ∧ SqL K H a xs ∧ ∀ p, H p = none → Q (.ref p) (upd H p (.lst xs.reverse))) fRevL := fun F H x dx d Q s hx e k => by
  unfold fRevL at e
  cases q : seqOf dx with
  | none => rw [q] at e; cases e
  | some xs =>
    rw [q] at e; cases e
    obtain ⟨a, vs, rfl, h1, f1⟩ := seqOf_ok hx q
    exact ⟨a, vs, rfl, s.seq h1, fun p hp => k _ _ _ _ (new_lst s hp f1.reverse)⟩
/-- x[lo:hi], by its rule -/
def PrSl (K : PySem.W.Frag) (cl : Nat → Addr) (r : V → Option Int → Option Int → Hp → VK → Prop) (f : D → Option Int → Option Int → Option D) : Prop := ∀ (F H : Hp) (x : V) (dx d : D) (lo hi : Option Int) (Q : VK), Same F H → Fz K cl F x dx → f dx lo hi = some d → (∀ v F' H' A, New K cl F H v d F' H' A → Q v H') → r x lo hi H Q
theorem pr_slL : PrSl K cl (rSlL K) fCutL := fun F H x dx d lo hi Q s hx e k => by
  unfold fCutL at e
  cases q : seqOf dx with
  | none => rw [q] at e; cases e
  | some xs =>
    rw [q] at e; cases e
    obtain ⟨a, vs, rfl, h1, f1⟩ := seqOf_ok hx q
    exact ⟨a, vs, rfl, s.seq h1, fun p hp => k _ _ _ _ (new_lst s hp (f1.cut lo hi))⟩
theorem pr_slT : PrSl K cl (rSlA K) fCutT := fun F H x dx d lo hi Q s hx e k => by
  unfold fCutT at e; split at e
  · rename_i xs
    cases e
    obtain ⟨a, vs, rfl, h1, f1⟩ := id hx.kids
    refine ⟨a, vs, rfl, SqT.of (s _ _ h1), fun hw => ?_, fun _ p hp => k _ _ _ _ (new_tup s hp (f1.cut lo hi))⟩
    have e : cutD xs lo hi = xs := by
      unfold cutD
      rw [← f1.len, hw.1, hw.2, List.drop_zero, Nat.sub_zero, f1.len, List.take_length]
    rw [e] at k
    exact k _ _ _ _ (New.flat s hx)
  · cases e
/-- an optional part -/
def SndO (K : PySem.W.Frag) (cl : Nat → Addr) (W : WX) (t : TO) (m : M (Option Int)) (T : List Nat) : Prop := Snd K cl W (fun _ _ _ _ a b A => a = b ∧ ∀ c, ¬ A c) t m T
theorem so_none : SndO K cl W tNoPart (M.ret none) [] := by
  intro σ H Q F ρ As r ρ' st e hq hx
  obtain ⟨rfl, rfl⟩ := M.ret_some e
  exact hq none rfl none F H As E0 ⟨st, ⟨rfl, fun _ z => z⟩, fun _ _ _ z => z, fun _ z => z.elim, Step.refl fun a q => q.elim id False.elim, Keeps.refl⟩
def mPart (m : M D) : M (Option Int) := m.bind fun d => match d with
  | .int i => M.ret (some i)
  | _ => fun _ => none
theorem so_some {t : TE} {m : M D} (h : Snd K cl W (RE K cl) t m T) : SndO K cl W (tPart t) (mPart m) T := by
  intro σ H Q F ρ As r ρ' st e hq hx
  refine h.thn st e (fun a ρ1 b F1 H1 As1 A1 x e1 => ?_) hx
  cases a with
  | int i =>
    obtain ⟨rfl, rfl⟩ := M.ret_some e1
    obtain ⟨fz, nA⟩ := x.rel.isF rfl
    cases fz
    exact ⟨i, rfl, hq _ rfl _ F1 H1 As1 E0 ⟨x.st, ⟨rfl, fun _ z => z⟩, fun _ _ _ z => z, fun _ z => z.elim, x.stp.weak fun _ q => .inl (q.elim id False.elim), x.kp⟩⟩
  | _ => cases e1
def mSl (f : D → Option Int → Option Int → Option D) (m : M D) (lo hi : M (Option Int)) : M D := m.bind fun d => lo.bind fun l => hi.bind fun u => M.lift (f (frz d) l u)
theorem s_sl {r : V → Option Int → Option Int → Hp → VK → Prop} {f : D → Option Int → Option Int → Option D} {t : TE} {tl th : TO} {m : M D} {lo hi : M (Option Int)} {T3 : List Nat} (hr : PrSl K cl r f) (h : Snd K cl W (RE K cl) t m T1) (hl : SndO K cl W tl lo T2) (hh : SndO K cl W th hi T3) :
    Snd K cl W (RE K cl) (tSl r t tl th) (mSl f m lo hi) (T1 ++ (T2 ++ T3)) := by
  intro σ H Q F ρ As r' ρ' st e hq hx
  refine h.thn st e (fun a ρ1 b F1 H1 As1 A1 u e1 => ?_) hx
  refine hl.thn u.st e1 (fun l ρ2 l' F2 H2 As2 A2 w e2 => ?_) fun c hc F' H' As' z => hx c hc F' H' As' (AftX.after u z)
  obtain ⟨rfl, nA2⟩ := w.rel
  refine hh.thn w.st e2 (fun g ρ3 g' F3 H3 As3 A3 q e3 => ?_) fun c hc F' H' As' z => hx c hc F' H' As' (AftX.after u (AftX.after w z))
  obtain ⟨rfl, nA3⟩ := q.rel
  obtain ⟨d, ed, rfl, rfl⟩ := M.lift_some e3
  have s13 : Step F1 H1 (U As1) F3 H3 (U As3) := w.stp.trans q.stp (fun _ q => .inl (.inl q)) fun c q => .inl (.inl q)
  obtain ⟨tm, nO⟩ := u.carry s13
  obtain ⟨st3, s3, p3⟩ := q.st.ice (A := A1) (fun i c q z => nO c z ⟨i, q⟩) tm.off
  refine hr _ H3 b (frz a) d l g Q st3.sub (tm.own.ice tm.off fun _ q => q) ed fun v F4 H4 A4 n => ?_
  obtain ⟨st4, d4, p4, k4⟩ := st3.new (T := T1 ++ (T2 ++ T3)) n
  refine hq d rfl v F4 H4 As3 A4 ⟨st4, n.own, d4, n.off, ?_, (u.kp.trans (w.kp.trans q.kp (T'' := T2 ++ T3) fun j hj => by simpa [not_or] using hj) (T'' := T1 ++ (T2 ++ T3)) fun j hj => by simpa [not_or] using hj).trans k4 fun j hj => ⟨hj, hj⟩⟩
  have q1 : Step F H (U As) F3 H3 (fun c => U As3 c ∨ A1 c) := u.stp.trans s13 (fun _ q => .inl (.inl q)) fun c q => q.elim .inl fun q => .inr (.inr q)
  exact q1.trans (p3.trans p4 (fun _ q => .inl q) fun _ q => .inl q) (fun _ q => .inl q) fun _ q => .inl q
/-- an empty dict -/
theorem s_dnewT : Snd K cl W (RE K cl) tDNewT (M.ret (.nd true (.dT []) [])) [] := by
  intro σ H Q F ρ As r ρ' st e hq hx
  obtain ⟨rfl, rfl⟩ := M.ret_some e
  intro p hp
  have hF : F p = none := st.sub.free hp
  have kp : ∀ a u, H a = some u → upd H p (.dT []) a = some u := fun a u q => by rw [upd_ne (ne_of_none q hp)]; exact q
  have n : New K cl F H (.ref p) (.nd true (.dT []) []) F (upd H p (.dT [])) (fun a => a = p) := ⟨fun a u q => kp a u (st.sub a u q), .nd (k := .dT []) (vs := []) (B := fun _ _ => False) ⟨⟨rfl, List.nodup_nil⟩, upd_same⟩ rfl (fun i v x q r => by simp at q) (fun _ _ _ z => z.elim) (fun _ z => z) (fun _ _ z => z.elim) (fun b => ⟨.inl, fun z => z.elim id fun ⟨_, z⟩ => z.elim⟩), fun b e => by rw [e]; exact hF, fun _ _ q => q, fun a u q _ => kp a u q, fun a e => .inr (by rw [e]; exact hp), fun _ _ q => .inl q⟩
  obtain ⟨st3, d3, p3, k3⟩ := st.new (T := []) n
  exact hq _ rfl _ _ _ As _ ⟨st3, n.own, d3, n.off, p3, k3⟩
theorem s_dnewK : Snd K cl W (RE K cl) tDNewK (M.ret (.nd true (.dK []) [])) [] := by
  intro σ H Q F ρ As r ρ' st e hq hx
  obtain ⟨rfl, rfl⟩ := M.ret_some e
  intro p hp
  have hF : F p = none := st.sub.free hp
  have kp : ∀ a u, H a = some u → upd H p (.dK []) a = some u := fun a u q => by rw [upd_ne (ne_of_none q hp)]; exact q
  have n : New K cl F H (.ref p) (.nd true (.dK []) []) F (upd H p (.dK [])) (fun a => a = p) := ⟨fun a u q => kp a u (st.sub a u q), .nd (k := .dK []) (vs := []) (B := fun _ _ => False) ⟨⟨rfl, List.nodup_nil⟩, upd_same⟩ rfl (fun i v x q r => by simp at q) (fun _ _ _ z => z.elim) (fun _ z => z) (fun _ _ z => z.elim) (fun b => ⟨.inl, fun z => z.elim id fun ⟨_, z⟩ => z.elim⟩), fun b e => by rw [e]; exact hF, fun _ _ q => q, fun a u q _ => kp a u q, fun a e => .inr (by rw [e]; exact hp), fun _ _ q => .inl q⟩
  obtain ⟨st3, d3, p3, k3⟩ := st.new (T := []) n
  exact hq _ rfl _ _ _ As _ ⟨st3, n.own, d3, n.off, p3, k3⟩
/-- name op= e, of flat values -/
def mAug (i : Nat) (f : D → D → Option D) (m : M D) : MS := fun ρ => match ρ[i]? with
  | some (some d) => if isFlat d = true then mThen m (fun b ρ1 => if isFlat b = true then (match f d b with
    | some z => if isFlat z = true then (if i < ρ1.length then some (.nx, ρ1.set i (some z)) else none) else none
    | none => none) else none) ρ else none
  | _ => none
theorem ss_aug {i : Nat} {te : TE} {m : M D} {ti : TIp} {f : D → D → Option D} (h : Snd K cl W (RE K cl) te m T) (hf : ∀ (F H : Hp) (x y : V) (dx dy d : D) (Q : VK), Fz K cl F x dx → Fz K cl F y dy → f dx dy = some d → (∀ v, Fz K cl F v d → Q v H) → ti x y H Q) : SndS K cl W (tAug i te ti) (mAug i f m) [i] := by
  intro σ H G F ρ As r ρ' st e k
  unfold mAug at e
  split at e
  · rename_i d ed
    split at e
    · rename_i hfl
      obtain ⟨v, hv, ow⟩ := st.sl i d ed
      refine ⟨v, hv, SndE.then' h st e k fun b ρ1 y F1 H1 As1 A1 x e1 => ?_⟩
      try dsimp only at e1
      split at e1
      · rename_i hb
        cases q : f d b with
        | none => rw [q] at e1; cases e1
        | some z =>
          rw [q] at e1
          replace e1 : (if isFlat z = true then (if i < ρ1.length then some (Fl.nx, ρ1.set i (some z)) else none) else none) = some (r, ρ') := e1
          split at e1
          · rename_i hz
            refine hf F1 H1 v y d b z _ (ow.flat hfl) (x.rel.flat hb) q fun w fz => ?_
            have e2 : gmName i z ρ1 = some ρ' ∧ r = .nx := by
              unfold gmName
              split at e1
              · rename_i hi
                cases e1
                exact ⟨if_pos hi, rfl⟩
              · cases e1
            obtain ⟨e2, rfl⟩ := e2
            exact sg_name w σ H1 _ F1 ρ1 As1 z E0 ρ' x.st (.fz fz fun _ z => z) (fun _ _ _ z => z) (fun _ z => z.elim) e2 fun σ2 F2 H2 As2 st2 s2 a2 l2 _ => k.nx rfl σ2 F2 H2 As2 ⟨st2, fun _ _ _ z => z, fun _ z => z.elim, (x.stp.trans s2 (fun _ q => .inl (.inl (q.elim id False.elim))) fun _ q => .inl q).weak fun _ q => q.elim id False.elim, a2, l2⟩
          · cases e1
      · cases e1
    · cases e
  · cases e
theorem ip_addI : ∀ (F H : Hp) (x y : V) (dx dy d : D) (Q : VK), Fz K cl F x dx → Fz K cl F y dy → fAdd dx dy = some d → (∀ v, Fz K cl F v d → Q v H) → (ipI fun i j => i + j) x y H Q := fun F H x y dx dy d Q hx hy e k => by
  unfold fAdd at e; split at e
  · cases e; cases hx; cases hy; exact ⟨_, _, rfl, rfl, k _ (.int _)⟩
  · cases e
theorem ip_subI : ∀ (F H : Hp) (x y : V) (dx dy d : D) (Q : VK), Fz K cl F x dx → Fz K cl F y dy → fSub dx dy = some d → (∀ v, Fz K cl F v d → Q v H) → (ipI fun i j => i - j) x y H Q := fun F H x y dx dy d Q hx hy e k => by
  unfold fSub at e; split at e
  · cases e; cases hx; cases hy; exact ⟨_, _, rfl, rfl, k _ (.int _)⟩
  · cases e
/-- isinstance(x, T) -/
theorem View.flat (h : View K cl F H v d) (f : isFlat d = true) : Fz K cl F v d := by
  rcases h with h | ⟨_, _, _, _, _, rfl, _⟩
  · exact h
  · cases f
theorem kitB_tab {a T : String} {b : Bool} (h : kitB a T = some b) : kitB a T = some b := h
theorem pk_isi {T : String} (hT : ∀ d : D, (∀ o c ns xs, d ≠ .nd o (.ins c ns) xs) → kitB (tyN d) T = some (decide (tyN d = T) || (decide (T = "int") && decide (tyN d = "bool")))) : PkS K cl (fun x H Q => rIsi K [x, .ty T] H Q) (fIsi T) := fun F H x dx d Q s h e k => by
  have fin : ∀ t, TyX K H x (.type t) → t = tyN dx → (∀ o c ns xs, dx ≠ .nd o (.ins c ns) xs) → d = .bl (decide (tyN dx = T) || (decide (T = "int") && decide (tyN dx = "bool"))) → rIsi K [x, .ty T] H Q := fun t ty et nd ed => by
    subst et ed
    exact ⟨x, .ty T, .type (tyN dx), .type T, _, rfl, .ty T, ty, kit_ty (hT dx nd), k _ _ _ _ (New.flat s (.bl _))⟩
  cases dx with
  | non =>
    cases e
    have h' := h.flat rfl
    cases h'
    exact fin _ (.base .non) rfl (fun _ _ _ _ q => by cases q) rfl
  | bl b =>
    cases e
    have h' := h.flat rfl
    cases h'
    exact fin _ (.base (.bl _)) rfl (fun _ _ _ _ q => by cases q) rfl
  | int b =>
    cases e
    have h' := h.flat rfl
    cases h'
    exact fin _ (.base (.int _)) rfl (fun _ _ _ _ q => by cases q) rfl
  | str b =>
    cases e
    have h' := h.flat rfl
    cases h'
    exact fin _ (.base (.str _)) rfl (fun _ _ _ _ q => by cases q) rfl
  | nd o kd xs =>
    obtain ⟨a, vs, rfl, h1, _⟩ := h.obj s
    cases kd with
    | lst => cases e; exact fin _ (.base (.lst h1)) rfl (fun _ _ _ _ q => by cases q) rfl
    | ro =>
      cases e
      refine fin "list" ?_ rfl (fun _ _ _ _ q => by cases q) rfl
      rcases h1 with (h1 | ⟨u, h1⟩) | ⟨u, its, n, h1, h2, _⟩
      · exact .base (.lst h1)
      · exact .base (.frz h1)
      · exact .kList h1 h2
    | tup => cases e; exact fin _ (.base (.tup h1)) rfl (fun _ _ _ _ q => by cases q) rfl
    | rt =>
      cases e
      refine fin "tuple" ?_ rfl (fun _ _ _ _ q => by cases q) rfl
      rcases h1 with (h1 | ⟨u, h1⟩) | ⟨u, its, n, h1, h2, _⟩
      · exact .base (.tup h1)
      · exact .fTuple h1
      · exact .kTuple h1 h2
    | dK ks =>
      cases e
      refine fin "dict" ?_ rfl (fun _ _ _ _ q => by cases q) rfl
      rcases h1.2 with h1 | ⟨u, h1⟩
      · exact .base (.dK h1)
      · exact .fDict h1
    | dT ks => cases e
    | ins c ns => cases e
end
end Pv

/-! PvM -/
set_option Elab.async false
set_option linter.all false
set_option maxRecDepth 100000
set_option maxHeartbeats 1000000
namespace Pv
open PySem L2
/-! ### a piece of syntax, its reading, its meaning -/
section
variable (X : Cx) (cl : Nat → Addr) (W : WX)
structure ME (e : Expr) (t : TE) (m : M D) (T : List Nat) : Prop where
  pe : PE X e t
  sn : Snd X.K cl W (RE X.K cl) t m T
structure MP (R : Nat) (e : Expr) (t : TE) (m : M PR) (T : List Nat) : Prop where
  pe : PE X e t
  sn : Snd X.K cl W (RP X.K cl R) t m T
structure MT (e : Expr) (t : TT) (m : M Bool) (T : List Nat) : Prop where
  pe : PT X e t
  sn : Snd X.K cl W RT t m T
structure MW (e : Expr) (t : TT) (m : M Bool) (T : List Nat) : Prop where
  pe : PW X e t
  sn : Snd X.K cl W RT t m T
structure MTs (es : List Expr) (t : TT) (m : M Bool) (T : List Nat) : Prop where
  pe : PTs X es t
  sn : Snd X.K cl W RT t m T
structure MA (es : List Expr) (n : Nat) (t : TA) (m : M (List Arg)) (S T : List Nat) : Prop where
  pe : PA X es t
  sn : Snd X.K cl W (RA X.K cl S) t m T
  ln : ∀ ρ as ρ', m ρ = some (.ok as, ρ') → as.length = n
structure MG (e : Expr) (g : TG) (m : D → Env → Option Env) (Z : List Nat) : Prop where
  pe : PG X e g
  sn : SndG X.K cl g m Z
structure MGs (es : List Expr) (g : TGs) (m : List D → Env → Option Env) (Z : List Nat) : Prop where
  pe : PGs X es g
  sn : SndGs X.K cl g m Z
structure MI (tg e : Expr) (t : TI) (m : M (List D)) (T : List Nat) : Prop where
  pe : PI X tg e t
  sn : SndI X.K cl W t m T
structure MO (e : Option Expr) (t : TO) (m : M (Option Int)) (T : List Nat) : Prop where
  pe : PO X e t
  sn : SndO X.K cl W t m T
structure MSt (st : Stmt) (t : TS) (m : MS) (Z : List Nat) : Prop where
  pe : PS X st t
  sn : SndS X.K cl W t m Z
structure MB (st : List Stmt) (t : TS) (m : MS) (Z : List Nat) : Prop where
  pe : PSs X st t
  sn : SndS X.K cl W t m Z
end
section
variable {X : Cx} {cl : Nat → Addr} {W : WX} {a b c e o i : Expr} {es : List Expr} {pos apos : Pos} {ta tb tc te : TE} {ma mb me : M D} {mp : M PR} {T T1 T2 T3 S : List Nat} {R : Nat} {x : Str} {Z Z1 Z2 Z3 : List Nat}
/-! names, constants -/
theorem m_int {k : Int} {j : Nat} : ME X cl W (.Constant (.int k) j pos) (tC (.int k)) (M.ret (.int k)) [] := ⟨pe_int, s_int⟩
theorem m_bl {k : Bool} {j : Nat} : ME X cl W (.Constant (.bool k) j pos) (tC (.bl k)) (M.ret (.bl k)) [] := ⟨pe_bl, s_bl⟩
theorem m_non {j : Nat} : ME X cl W (.Constant .none j pos) (tC .non) (M.ret .non) [] := ⟨pe_non, s_non⟩
theorem m_str {k : Str} {j : Nat} : ME X cl W (.Constant (.str k) j pos) (tC (.str k)) (M.ret (.str k)) [] := ⟨pe_str, s_str⟩
theorem p_nm (i : Nat) {x : Str} {pos : Pos} (hN : X.N[i]? = some x := by rfl) (hv : Vis X.env.scope x := by first | exact Or.inl rfl | exact Or.inr (Or.inl rfl) | exact Or.inr (Or.inr rfl)) (hd : (x == ("__debug__" : Str)) = false := by decide)
    (hcd : (x == ("__classdict__" : Str)) = false := by decide) : MP X cl W i (.Name x pos) (tVar i) (mpVar i) [] := ⟨pe_var hN hv hd hcd, sp_var⟩
theorem m_rd (h : MP X cl W R e te mp T) : ME X cl W e te (mRd mp) T := ⟨h.pe, s_rd h.sn⟩
theorem m_rdF (h : MP X cl W R e te mp T) : ME X cl W e te (mRdF R mp) (R :: T) := ⟨h.pe, s_rdF h.sn⟩
theorem m_mv (i : Nat) {x : Str} {pos : Pos} (hN : X.N[i]? = some x := by rfl) (hv : Vis X.env.scope x := by first | exact Or.inl rfl | exact Or.inr (Or.inl rfl) | exact Or.inr (Or.inr rfl)) (hd : (x == ("__debug__" : Str)) = false := by decide)
    (hcd : (x == ("__classdict__" : Str)) = false := by decide) : ME X cl W (.Name x pos) (tVar i) (mMv i) [i] := ⟨pe_var hN hv hd hcd, s_mv⟩
/-- a constant of the module -/
theorem m_gl {v : V} {u : Value} {d : D} (hg : Gl X x) (hm : X.mg x = some u) (r : RelV v u) (h : ∀ F, Fz X.K cl F v d) (hd : (x == ("__debug__" : Str)) = false := by decide) : ME X cl W (.Name x pos) (tC v) (M.ret d) [] := ⟨pe_glob hg hm r hd, s_c h⟩
/-! places -/
theorem p_ix (ha : MP X cl W R a ta mp T1) (hb : ME X cl W b tb mb T2) (n : R ∉ T2) (hs : PlainIx b) : MP X cl W R (.Subscript a b pos) (tOp (rIx X.K) ta tb) (mpIx mp mb) (T1 ++ T2) := ⟨pe_ix ix_seq ha.pe hb.pe hs, sp_ix ixP_seq ha.sn hb.sn n⟩
theorem p_dg (hu : X.A.units + 1 < cLine) (ha : MP X cl W R a ta mp T1) (hb : ME X cl W b tb mb T2) (n : R ∉ T2) (hs : NoSl b) : MP X cl W R (.Subscript a b pos) (tDGet ta tb) (mpDg mp mb) (T1 ++ T2) := ⟨pe_dget hu ha.pe hb.pe hs, sp_dg ha.sn hb.sn n⟩
theorem p_at {c : Nat} {f : Str} {C : Addr} (hC : cl c = C) (hc : Cls X.K C) (hn : NoAttr X.K C f) (ha : MP X cl W R a ta mp T) (hb : attributeBase a f X.env (eval a X.env) = eval a X.env) : MP X cl W R (.Attribute a f pos) (tFld X.K ta f) (mpFld c f mp) T := ⟨pe_fld ha.pe hb, sp_fld hC hc hn ha.sn⟩
/-! operators -/
theorem m_bin {op : Operator} {r : R2} {f : D → D → Option D} (ho : OpR X (binaryOp op) r) (hf : Pr2 X.K cl r f) (ha : ME X cl W a ta ma T1) (hb : ME X cl W b tb mb T2) : ME X cl W (.BinOp a op b pos) (tOp r ta tb) (mBin f ma mb) (T1 ++ T2) := ⟨pe_op ho ha.pe hb.pe, s_bin ha.sn hb.sn hf⟩
theorem m_add (ha : ME X cl W a ta ma T1) (hb : ME X cl W b tb mb T2) : ME X cl W (.BinOp a .Add b pos) (tOp (rI0 fun i j => .int (i + j)) ta tb) (mBin fAdd ma mb) (T1 ++ T2) := m_bin op_add pr_add ha hb
theorem m_sub (ha : ME X cl W a ta ma T1) (hb : ME X cl W b tb mb T2) : ME X cl W (.BinOp a .Sub b pos) (tOp (rI0 fun i j => .int (i - j)) ta tb) (mBin fSub ma mb) (T1 ++ T2) := m_bin op_sub pr_sub ha hb
theorem m_mul (ha : ME X cl W a ta ma T1) (hb : ME X cl W b tb mb T2) : ME X cl W (.BinOp a .Mult b pos) (tOp (rMulA) ta tb) (mBin fMul ma mb) (T1 ++ T2) := m_bin op_mulA pr_mul ha hb
theorem m_div (ha : ME X cl W a ta ma T1) (hb : ME X cl W b tb mb T2) : ME X cl W (.BinOp a .FloorDiv b pos) (tOp (rI CDivW fun i j => .int (i / j)) ta tb) (mBin fDiv ma mb) (T1 ++ T2) := m_bin op_fdivW pr_div ha hb
theorem m_mod (ha : ME X cl W a ta ma T1) (hb : ME X cl W b tb mb T2) : ME X cl W (.BinOp a .Mod b pos) (tOp (rI (fun _ j => 0 < j) fun i j => .int (i % j)) ta tb) (mBin fMod ma mb) (T1 ++ T2) := m_bin op_mod pr_mod ha hb
theorem m_pow (ha : ME X cl W a ta ma T1) (hb : ME X cl W b tb mb T2) : ME X cl W (.BinOp a .Pow b pos) (tOp (rI CPow fun i j => .int (i ^ j.toNat)) ta tb) (mBin fPow ma mb) (T1 ++ T2) := m_bin op_pow pr_pow ha hb
theorem m_cat (ha : ME X cl W a ta ma T1) (hb : ME X cl W b tb mb T2) : ME X cl W (.BinOp a .Add b pos) (tOp (rCat) ta tb) (mBin fCat ma mb) (T1 ++ T2) := m_bin op_cat pr_cat ha hb
theorem m_catT (ha : ME X cl W a ta ma T1) (hb : ME X cl W b tb mb T2) : ME X cl W (.BinOp a .Add b pos) (tOp (rCatA X.K) ta tb) (mBin fCatT ma mb) (T1 ++ T2) := m_bin op_catA pr_catT ha hb
theorem m_rep (ha : ME X cl W a ta ma T1) (hb : ME X cl W b tb mb T2) : ME X cl W (.BinOp a .Mult b pos) (tOp (rRep) ta tb) (mBin fRep ma mb) (T1 ++ T2) := m_bin op_rep pr_rep ha hb
theorem m_neg (ha : ME X cl W a ta ma T) : ME X cl W (.UnaryOp .USub a pos) (tUn (rU fun i => .int (-i)) ta) (mUn fNeg ma) T := ⟨pe_un un_neg ha.pe, s_un (t := ta) (r := rU fun i => .int (-i)) ha.sn pr_neg⟩
/-! comparisons -/
theorem m_cmp {op : CmpOp} {r : R2} {f : D → D → Option D} (ho : OpR X (compareOp op) r) (hf : Pr2 X.K cl r f) (hm : behindInMarks op b = false) (ha : ME X cl W a ta ma T1) (hb : ME X cl W b tb mb T2) : ME X cl W (.Compare a [op] [b] pos) (tOp r ta tb) (mBin f ma mb) (T1 ++ T2) := ⟨pe_cmpR ho ha.pe hb.pe hm, s_bin ha.sn hb.sn hf⟩
theorem m_lt (ha : ME X cl W a ta ma T1) (hb : ME X cl W b tb mb T2) : ME X cl W (.Compare a [.Lt] [b] pos) (tOp (rI0 fun i j => .bl (decide (i < j))) ta tb) (mBin fLt ma mb) (T1 ++ T2) := m_cmp op_lt pr_lt (nomark _) ha hb
theorem m_le (ha : ME X cl W a ta ma T1) (hb : ME X cl W b tb mb T2) : ME X cl W (.Compare a [.LtE] [b] pos) (tOp (rI0 fun i j => .bl (decide (i ≤ j))) ta tb) (mBin fLe ma mb) (T1 ++ T2) := m_cmp op_le pr_le (nomark _) ha hb
theorem m_gt (ha : ME X cl W a ta ma T1) (hb : ME X cl W b tb mb T2) : ME X cl W (.Compare a [.Gt] [b] pos) (tOp (rI0 fun i j => .bl (decide (j < i))) ta tb) (mBin fGt ma mb) (T1 ++ T2) := m_cmp op_gt pr_gt (nomark _) ha hb
theorem m_ge (ha : ME X cl W a ta ma T1) (hb : ME X cl W b tb mb T2) : ME X cl W (.Compare a [.GtE] [b] pos) (tOp (rI0 fun i j => .bl (decide (j ≤ i))) ta tb) (mBin fGe ma mb) (T1 ++ T2) := m_cmp op_ge pr_ge (nomark _) ha hb
theorem m_eq (ha : ME X cl W a ta ma T1) (hb : ME X cl W b tb mb T2) : ME X cl W (.Compare a [.Eq] [b] pos) (tOp (rEq) ta tb) (mBin fEq ma mb) (T1 ++ T2) := m_cmp op_eq pr_eq (nomark _) ha hb
theorem m_ne (ha : ME X cl W a ta ma T1) (hb : ME X cl W b tb mb T2) : ME X cl W (.Compare a [.NotEq] [b] pos) (tOp (rNe) ta tb) (mBin fNe ma mb) (T1 ++ T2) := m_cmp op_ne pr_ne (nomark _) ha hb
theorem m_eqD (hu : X.A.units + 64 < cLine) (ha : ME X cl W a ta ma T1) (hb : ME X cl W b tb mb T2) : ME X cl W (.Compare a [.Eq] [b] pos) (tOp (rEqD X.K) ta tb) (mBin fEqD ma mb) (T1 ++ T2) := m_cmp (op_eqD hu) pr_eqD (nomark _) ha hb
theorem m_neD (hu : X.A.units + 64 < cLine) (ha : ME X cl W a ta ma T1) (hb : ME X cl W b tb mb T2) : ME X cl W (.Compare a [.NotEq] [b] pos) (tOp (rNeD X.K) ta tb) (mBin fNeD ma mb) (T1 ++ T2) := m_cmp (op_neD hu) pr_neD (nomark _) ha hb
theorem m_isN {j : Nat} {p2 : Pos} (ha : MP X cl W R a ta mp T) : ME X cl W (.Compare a [.Is] [.Constant .none j p2] pos) (tIsN ta) (mPk fIsN mp) T := ⟨pe_cmp (pc_isN ha.pe) rfl, s_pk (t := ta) (r := fun x H Q => Q (.bl (decide (x = .non))) H) ha.sn pk_isN⟩
theorem m_notN {j : Nat} {p2 : Pos} (ha : MP X cl W R a ta mp T) : ME X cl W (.Compare a [.IsNot] [.Constant .none j p2] pos) (tNotN ta) (mPk fNotN mp) T := ⟨pe_cmp (pc_notN ha.pe) rfl, s_pk (t := ta) (r := fun x H Q => Q (.bl (!decide (x = .non))) H) ha.sn pk_notN⟩
theorem m_isNv {j : Nat} {p2 : Pos} (ha : ME X cl W a ta ma T) : ME X cl W (.Compare a [.Is] [.Constant .none j p2] pos) (tIsN ta) (mUn fIsN ma) T := ⟨pe_cmp (pc_isN ha.pe) rfl, s_un (t := ta) (r := fun x H Q => Q (.bl (decide (x = .non))) H) ha.sn pk_isN.pr⟩
theorem m_notNv {j : Nat} {p2 : Pos} (ha : ME X cl W a ta ma T) : ME X cl W (.Compare a [.IsNot] [.Constant .none j p2] pos) (tNotN ta) (mUn fNotN ma) T := ⟨pe_cmp (pc_notN ha.pe) rfl, s_un (t := ta) (r := fun x H Q => Q (.bl (!decide (x = .non))) H) ha.sn pk_notN.pr⟩
theorem m_in (hu : X.A.units + 1 < cLine) (hb : ME X cl W b tb mb T1) (ha : MP X cl W R a ta mp T2) (h1 : behindInMarks .In a = false := by rfl) : ME X cl W (.Compare b [.In] [a] pos) (tDIn tb ta) (mPk2 (fIn false) mb mp) (T1 ++ T2) := ⟨pe_cmp (pc_din hu hb.pe ha.pe) h1, s_pk2 (ty := tb) (t := ta) (r := fun y x H Q => ∃ a o, x = .ref a ∧ DGet H a y o ∧ Q (.bl o.isSome) H) hb.sn ha.sn pk_in⟩
theorem m_notIn (hu : X.A.units + 1 < cLine) (hb : ME X cl W b tb mb T1) (ha : MP X cl W R a ta mp T2) (h1 : behindInMarks .NotIn a = false := by rfl) : ME X cl W (.Compare b [.NotIn] [a] pos) (tDNotIn tb ta) (mPk2 (fIn true) mb mp) (T1 ++ T2) := ⟨pe_cmp (pc_dnotin hu hb.pe ha.pe) h1, s_pk2 (ty := tb) (t := ta) (r := fun y x H Q => ∃ a o, x = .ref a ∧ DGet H a y o ∧ Q (.bl (!o.isSome)) H) hb.sn ha.sn pk_notIn⟩
/-! truths -/
theorem m_and1 {op : BoolOp} (ha : ME X cl W a ta ma T) : ME X cl W (.BoolOp op [a] pos) ta ma T := ⟨pe_one ha.pe, ha.sn⟩
theorem m_and (ha : ME X cl W a ta ma T1) (hb : ME X cl W (.BoolOp .And (b :: es) pos) tb mb T2) : ME X cl W (.BoolOp .And (a :: b :: es) pos) (tAndV ta tb) (mAndV ma mb) (T1 ++ T2) := ⟨pe_and ha.pe hb.pe, s_andV ha.sn hb.sn⟩
theorem m_or (ha : ME X cl W a ta ma T1) (hb : ME X cl W (.BoolOp .Or (b :: es) pos) tb mb T2) : ME X cl W (.BoolOp .Or (a :: b :: es) pos) (tOrV ta tb) (mOrV ma mb) (T1 ++ T2) := ⟨pe_or ha.pe hb.pe, s_orV ha.sn hb.sn⟩
theorem m_not (ha : ME X cl W a ta ma T) : ME X cl W (.UnaryOp .Not a pos) (tNotV ta) (mNotV ma) T := ⟨pe_not ha.pe, s_notV ha.sn⟩
theorem t_val (ha : ME X cl W e te me T) (he : ∀ whole, isTrue e X.env whole = (do let v ← whole; standAt e.pos; holding [v] (truthy v)) := by intro _; rfl) : MT X cl W e (tB te) (mTest me) T := ⟨pt_val ha.pe he, st_val ha.sn⟩
theorem t_cmp {op : CmpOp} {r : R2} {f : D → D → Option D} (ho : OpR X (compareOp op) r) (hf : Pr2 X.K cl r f) (hm : behindInMarks op b = false) (ha : ME X cl W a ta ma T1) (hb : ME X cl W b tb mb T2) : MT X cl W (.Compare a [op] [b] pos) (tTest (tOp r ta tb)) (mTest (mBin f ma mb)) (T1 ++ T2) := ⟨pt_cmpR ho ha.pe hb.pe hm, st_val (s_bin ha.sn hb.sn hf)⟩
theorem t_lt (ha : ME X cl W a ta ma T1) (hb : ME X cl W b tb mb T2) : MT X cl W (.Compare a [.Lt] [b] pos) (tTest (tOp (rI0 fun i j => .bl (decide (i < j))) ta tb)) (mTest (mBin fLt ma mb)) (T1 ++ T2) := t_cmp op_lt pr_lt (nomark _) ha hb
theorem t_le (ha : ME X cl W a ta ma T1) (hb : ME X cl W b tb mb T2) : MT X cl W (.Compare a [.LtE] [b] pos) (tTest (tOp (rI0 fun i j => .bl (decide (i ≤ j))) ta tb)) (mTest (mBin fLe ma mb)) (T1 ++ T2) := t_cmp op_le pr_le (nomark _) ha hb
theorem t_gt (ha : ME X cl W a ta ma T1) (hb : ME X cl W b tb mb T2) : MT X cl W (.Compare a [.Gt] [b] pos) (tTest (tOp (rI0 fun i j => .bl (decide (j < i))) ta tb)) (mTest (mBin fGt ma mb)) (T1 ++ T2) := t_cmp op_gt pr_gt (nomark _) ha hb
theorem t_ge (ha : ME X cl W a ta ma T1) (hb : ME X cl W b tb mb T2) : MT X cl W (.Compare a [.GtE] [b] pos) (tTest (tOp (rI0 fun i j => .bl (decide (j ≤ i))) ta tb)) (mTest (mBin fGe ma mb)) (T1 ++ T2) := t_cmp op_ge pr_ge (nomark _) ha hb
theorem t_eq (ha : ME X cl W a ta ma T1) (hb : ME X cl W b tb mb T2) : MT X cl W (.Compare a [.Eq] [b] pos) (tTest (tOp (rEq) ta tb)) (mTest (mBin fEq ma mb)) (T1 ++ T2) := t_cmp op_eq pr_eq (nomark _) ha hb
theorem t_ne (ha : ME X cl W a ta ma T1) (hb : ME X cl W b tb mb T2) : MT X cl W (.Compare a [.NotEq] [b] pos) (tTest (tOp (rNe) ta tb)) (mTest (mBin fNe ma mb)) (T1 ++ T2) := t_cmp op_ne pr_ne (nomark _) ha hb
theorem t_eqD (hu : X.A.units + 64 < cLine) (ha : ME X cl W a ta ma T1) (hb : ME X cl W b tb mb T2) : MT X cl W (.Compare a [.Eq] [b] pos) (tTest (tOp (rEqD X.K) ta tb)) (mTest (mBin fEqD ma mb)) (T1 ++ T2) := t_cmp (op_eqD hu) pr_eqD (nomark _) ha hb
theorem t_neD (hu : X.A.units + 64 < cLine) (ha : ME X cl W a ta ma T1) (hb : ME X cl W b tb mb T2) : MT X cl W (.Compare a [.NotEq] [b] pos) (tTest (tOp (rNeD X.K) ta tb)) (mTest (mBin fNeD ma mb)) (T1 ++ T2) := t_cmp (op_neD hu) pr_neD (nomark _) ha hb
theorem t_isN {j : Nat} {p2 : Pos} (ha : MP X cl W R a ta mp T) : MT X cl W (.Compare a [.Is] [.Constant .none j p2] pos) (tB (tIsN ta)) (mTest (mPk fIsN mp)) T := ⟨pt_cmp (pc_isN ha.pe) rfl, st_val (s_pk (t := ta) (r := fun x H Q => Q (.bl (decide (x = .non))) H) ha.sn pk_isN)⟩
theorem t_notN {j : Nat} {p2 : Pos} (ha : MP X cl W R a ta mp T) : MT X cl W (.Compare a [.IsNot] [.Constant .none j p2] pos) (tB (tNotN ta)) (mTest (mPk fNotN mp)) T := ⟨pt_cmp (pc_notN ha.pe) rfl, st_val (s_pk (t := ta) (r := fun x H Q => Q (.bl (!decide (x = .non))) H) ha.sn pk_notN)⟩
theorem t_isNv {j : Nat} {p2 : Pos} (ha : ME X cl W a ta ma T) : MT X cl W (.Compare a [.Is] [.Constant .none j p2] pos) (tB (tIsN ta)) (mTest (mUn fIsN ma)) T := ⟨pt_cmp (pc_isN ha.pe) rfl, st_val (s_un (t := ta) (r := fun x H Q => Q (.bl (decide (x = .non))) H) ha.sn pk_isN.pr)⟩
theorem t_notNv {j : Nat} {p2 : Pos} (ha : ME X cl W a ta ma T) : MT X cl W (.Compare a [.IsNot] [.Constant .none j p2] pos) (tB (tNotN ta)) (mTest (mUn fNotN ma)) T := ⟨pt_cmp (pc_notN ha.pe) rfl, st_val (s_un (t := ta) (r := fun x H Q => Q (.bl (!decide (x = .non))) H) ha.sn pk_notN.pr)⟩
theorem t_in (hu : X.A.units + 1 < cLine) (hb : ME X cl W b tb mb T1) (ha : MP X cl W R a ta mp T2) (h1 : behindInMarks .In a = false := by rfl) : MT X cl W (.Compare b [.In] [a] pos) (tB (tDIn tb ta)) (mTest (mPk2 (fIn false) mb mp)) (T1 ++ T2) := ⟨pt_cmp (pc_din hu hb.pe ha.pe) h1, st_val (s_pk2 (ty := tb) (t := ta) (r := fun y x H Q => ∃ a o, x = .ref a ∧ DGet H a y o ∧ Q (.bl o.isSome) H) hb.sn ha.sn pk_in)⟩
theorem t_notIn (hu : X.A.units + 1 < cLine) (hb : ME X cl W b tb mb T1) (ha : MP X cl W R a ta mp T2) (h1 : behindInMarks .NotIn a = false := by rfl) : MT X cl W (.Compare b [.NotIn] [a] pos) (tB (tDNotIn tb ta)) (mTest (mPk2 (fIn true) mb mp)) (T1 ++ T2) := ⟨pt_cmp (pc_dnotin hu hb.pe ha.pe) h1, st_val (s_pk2 (ty := tb) (t := ta) (r := fun y x H Q => ∃ a o, x = .ref a ∧ DGet H a y o ∧ Q (.bl (!o.isSome)) H) hb.sn ha.sn pk_notIn)⟩
variable {tA tB' : TT} {mA mB : M Bool}
theorem t_not (ha : MT X cl W a tA mA T) : MT X cl W (.UnaryOp .Not a pos) (tNot tA) (mNotT mA) T := ⟨pt_not ha.pe, st_not ha.sn⟩
theorem w_and1 (ha : MT X cl W a tA mA T) : MW X cl W (.BoolOp .And [a] pos) tA mA T := ⟨pw_and1 ha.pe, ha.sn⟩
theorem w_or1 (ha : MT X cl W a tA mA T) : MW X cl W (.BoolOp .Or [a] pos) tA mA T := ⟨pw_or1 ha.pe, ha.sn⟩
theorem w_and (ha : MT X cl W a tA mA T1) (hb : MW X cl W (.BoolOp .And (b :: es) pos) tB' mB T2) : MW X cl W (.BoolOp .And (a :: b :: es) pos) (tAnd tA tB') (mAndT mA mB) (T1 ++ T2) := ⟨pw_and ha.pe hb.pe, st_and ha.sn hb.sn⟩
theorem w_or (ha : MT X cl W a tA mA T1) (hb : MW X cl W (.BoolOp .Or (b :: es) pos) tB' mB T2) : MW X cl W (.BoolOp .Or (a :: b :: es) pos) (tOr tA tB') (mOrT mA mB) (T1 ++ T2) := ⟨pw_or ha.pe hb.pe, st_or ha.sn hb.sn⟩
theorem MW.mt (h : MW X cl W e tA mA T) : MT X cl W e tA mA T := ⟨h.pe.pt, h.sn⟩
theorem m_if (hc : MT X cl W c tA mA T) (ha : ME X cl W a ta ma T1) (hb : ME X cl W b tb mb T2) : ME X cl W (.IfExp c a b pos) (tIf tA ta tb) (mIfE mA ma mb) (T ++ (T1 ++ T2)) := ⟨pe_ifExp hc.pe ha.pe hb.pe, s_ifE hc.sn ha.sn hb.sn⟩
theorem ts_nil : MTs X cl W [] tYes (M.ret true) [] := ⟨pts_nil, fun σ H Q F ρ As r ρ' st e hq hx => by
  obtain ⟨rfl, rfl⟩ := M.ret_some e
  exact hq true rfl true F H As E0 ⟨st, ⟨rfl, fun _ z => z⟩, fun _ _ _ z => z, fun _ z => z.elim, Step.refl fun a q => q.elim id False.elim, Keeps.refl⟩⟩
theorem ts_one (h : MT X cl W c tA mA T) : MTs X cl W [c] tA mA T := ⟨pts_one h.pe, h.sn⟩
/-! arguments, displays -/
variable {n : Nat} {tr : TA} {mr : M (List Arg)}
theorem a_nil : MA X cl W [] 0 tNil mNil [] [] := ⟨pa_nil, s_nil, mNil_len⟩
theorem a_cons (ha : ME X cl W e te me T1) (hr : MA X cl W es n tr mr S T2) (hs : starEach (e :: es) X.env = (false, eval e X.env) :: starEach es X.env := by rfl) : MA X cl W (e :: es) (n + 1) (tCons te tr) (mCons me mr) S (T1 ++ T2) := ⟨pa_cons ha.pe hr.pe hs, s_cons ha.sn hr.sn, mCons_len hr.ln⟩
theorem a_sl (i : Nat) {x : Str} {pos : Pos} (hr : MA X cl W es n tr mr S T) (hN : X.N[i]? = some x := by rfl) (hv : Vis X.env.scope x := by first | exact Or.inl rfl | exact Or.inr (Or.inl rfl) | exact Or.inr (Or.inr rfl)) (hd : (x == ("__debug__" : Str)) = false := by decide)
    (hcd : (x == ("__classdict__" : Str)) = false := by decide) (hs : starEach (.Name x pos :: es) X.env = (false, eval (.Name x pos) X.env) :: starEach es X.env := by rfl) : MA X cl W (.Name x pos :: es) (n + 1) (tCons (tVar i) tr) (mConsS i mr) (i :: S) T := ⟨pa_cons (pe_var hN hv hd hcd) hr.pe hs, s_consS hr.sn, mConsS_len hr.ln⟩
theorem m_tup {k : Nat} (ha : MA X cl W es n tr mr S T) : ME X cl W (.Tuple es k pos) (tTup tr) (mTup mr) T := ⟨pe_tup ha.pe, s_tup ha.sn⟩
theorem m_lst (ha : MA X cl W es n tr mr S T) : ME X cl W (.List es pos) (tLst tr) (mLst mr) T := ⟨pe_lst ha.pe, s_lst ha.sn⟩
theorem m_dictT : ME X cl W (.Dict [] [] pos) tDNewT (M.ret (.nd true (.dT []) [])) [] := ⟨pe_dnewT, s_dnewT⟩
theorem m_dictK : ME X cl W (.Dict [] [] pos) tDNewK (M.ret (.nd true (.dK []) [])) [] := ⟨pe_dnewK, s_dnewK⟩
/-! what is built in, called by its name -/
theorem m_cb {id : String} {r : List V → Hp → VK → Prop} {f : List D → Option D} {p : Pos} (hc : CallR X (.builtin id) r) (hf : PrN X.K cl r f) (hm : X.mg x = none) (hv : bootBuiltins x = some (.builtin id)) (hg : Gl X x) (ha : MA X cl W (e :: es) n tr mr S T) (hn : x ≠ "__name__" := by decide) (hdb : (x == ("__debug__" : Str)) = false := by decide)
    (he : starEach (e :: es) X.env = (false, eval e X.env) :: starEach es X.env := by rfl) (hpl : (backTo pos (starEach es X.env)).any (·.1) = false := by rfl) : ME X cl W (.Call (.Name x p) (e :: es) [] pos) (tCB r tr) (mCB f mr) T := ⟨pe_callB hc hg hm hv ha.pe hn hdb he hpl, s_cb hf ha.sn⟩
theorem m_cty {id : String} {r : List V → Hp → VK → Prop} {f : List D → Option D} {p : Pos} (hc : CallR X (.type id) r) (hf : PrN X.K cl r f) (hm : X.mg x = none) (hv : bootBuiltins x = some (.type id)) (hg : Gl X x) (ha : MA X cl W (e :: es) n tr mr S T) (hn : x ≠ "__name__" := by decide) (hdb : (x == ("__debug__" : Str)) = false := by decide)
    (he : starEach (e :: es) X.env = (false, eval e X.env) :: starEach es X.env := by rfl) (hpl : (backTo pos (starEach es X.env)).any (·.1) = false := by rfl) : ME X cl W (.Call (.Name x p) (e :: es) [] pos) (tCB r tr) (mCB f mr) T := ⟨pe_callTy hc hg hm hv ha.pe hn hdb he hpl, s_cb hf ha.sn⟩
/-- of one place -/
theorem m_cbP {id : String} {r : List V → Hp → VK → Prop} {f : D → Option D} {p : Pos} (hc : CallR X (.builtin id) r) (hf : PkS X.K cl (fun x => r [x]) f) (hm : X.mg x = none) (hv : bootBuiltins x = some (.builtin id)) (hg : Gl X x) (ha : MP X cl W R a ta mp T) (hn : x ≠ "__name__" := by decide) (hdb : (x == ("__debug__" : Str)) = false := by decide)
    (he : starEach [a] X.env = (false, eval a X.env) :: starEach [] X.env := by rfl) (hpl : (backTo pos (starEach [] X.env)).any (·.1) = false := by rfl) : ME X cl W (.Call (.Name x p) [a] [] pos) (tCB r (tCons ta tNil)) (mPk f mp) T := ⟨pe_callB hc hg hm hv (pa_cons ha.pe pa_nil he) hn hdb he hpl, s_pk (t := ta) (r := fun x => r [x]) ha.sn hf⟩
theorem m_ctyP {id : String} {r : List V → Hp → VK → Prop} {f : D → Option D} {p : Pos} (hc : CallR X (.type id) r) (hf : PkS X.K cl (fun x => r [x]) f) (hm : X.mg x = none) (hv : bootBuiltins x = some (.type id)) (hg : Gl X x) (ha : MP X cl W R a ta mp T) (hn : x ≠ "__name__" := by decide) (hdb : (x == ("__debug__" : Str)) = false := by decide)
    (he : starEach [a] X.env = (false, eval a X.env) :: starEach [] X.env := by rfl) (hpl : (backTo pos (starEach [] X.env)).any (·.1) = false := by rfl) : ME X cl W (.Call (.Name x p) [a] [] pos) (tCB r (tCons ta tNil)) (mPk f mp) T := ⟨pe_callTy hc hg hm hv (pa_cons ha.pe pa_nil he) hn hdb he hpl, s_pk (t := ta) (r := fun x => r [x]) ha.sn hf⟩
/-- of one value -/
theorem m_cbV {id : String} {r : List V → Hp → VK → Prop} {f : D → Option D} {p : Pos} (hc : CallR X (.builtin id) r) (hf : PkS X.K cl (fun x => r [x]) f) (hm : X.mg x = none) (hv : bootBuiltins x = some (.builtin id)) (hg : Gl X x) (ha : ME X cl W a ta ma T) (hn : x ≠ "__name__" := by decide) (hdb : (x == ("__debug__" : Str)) = false := by decide)
    (he : starEach [a] X.env = (false, eval a X.env) :: starEach [] X.env := by rfl) (hpl : (backTo pos (starEach [] X.env)).any (·.1) = false := by rfl) : ME X cl W (.Call (.Name x p) [a] [] pos) (tCB r (tCons ta tNil)) (mUn f ma) T := ⟨pe_callB hc hg hm hv (pa_cons ha.pe pa_nil he) hn hdb he hpl, s_un (t := ta) (r := fun x => r [x]) ha.sn hf.pr⟩
theorem m_ctyV {id : String} {r : List V → Hp → VK → Prop} {f : D → Option D} {p : Pos} (hc : CallR X (.type id) r) (hf : PkS X.K cl (fun x => r [x]) f) (hm : X.mg x = none) (hv : bootBuiltins x = some (.type id)) (hg : Gl X x) (ha : ME X cl W a ta ma T) (hn : x ≠ "__name__" := by decide) (hdb : (x == ("__debug__" : Str)) = false := by decide)
    (he : starEach [a] X.env = (false, eval a X.env) :: starEach [] X.env := by rfl) (hpl : (backTo pos (starEach [] X.env)).any (·.1) = false := by rfl) : ME X cl W (.Call (.Name x p) [a] [] pos) (tCB r (tCons ta tNil)) (mUn f ma) T := ⟨pe_callTy hc hg hm hv (pa_cons ha.pe pa_nil he) hn hdb he hpl, s_un (t := ta) (r := fun x => r [x]) ha.sn hf.pr⟩
/-- isinstance(x, T), T a built-in class -/
theorem m_isi {Tn : String} {y : Str} {p p2 : Pos} (hT : ∀ d : D, (∀ o c ns xs, d ≠ .nd o (.ins c ns) xs) → kitB (tyN d) Tn = some (decide (tyN d = Tn) || (decide (Tn = "int") && decide (tyN d = "bool")))) (hm : X.mg "isinstance" = none) (hv : bootBuiltins "isinstance" = some (.builtin "isinstance")) (hg : Gl X "isinstance")
    (hmy : X.mg y = none) (hvy : bootBuiltins y = some (.type Tn)) (hgy : Gl X y) (ha : MP X cl W R a ta mp T) (hny : y ≠ "__name__" := by decide) (hdy : (y == ("__debug__" : Str)) = false := by decide)
    (he : starEach [a, .Name y p2] X.env = (false, eval a X.env) :: starEach [.Name y p2] X.env := by rfl) (hs : starEach [.Name y p2] X.env = (false, eval (.Name y p2) X.env) :: starEach [] X.env := by rfl) (hpl : (backTo pos (starEach [.Name y p2] X.env)).any (·.1) = false := by rfl) :
    ME X cl W (.Call (.Name "isinstance" p) [a, .Name y p2] [] pos) (tCB (rIsi X.K) (tCons ta (tCons (tC (.ty Tn)) tNil))) (mPk (fIsi Tn) mp) T := ⟨pe_callB call_isi hg hm hv (pa_cons ha.pe (pa_cons (pe_bltn hgy hmy hvy rfl hny hdy) pa_nil hs) he) (by decide) (by decide) he hpl, s_pk (t := ta) (r := fun x H Q => rIsi X.K [x, .ty Tn] H Q) ha.sn (pk_isi hT)⟩
theorem m_revL {k : Nat} {p1 p2 p3 : Pos} (ha : ME X cl W a ta ma T) : ME X cl W (.Subscript a (.Slice none none (some (.UnaryOp .USub (.Constant (.int 1) k p1) p2)) p3) pos) (tRevL X.K ta) (mUn fRevL ma) T := ⟨pe_revL ha.pe, s_un (t := ta) (r := fun x H Q => ∃ a xs, x = .ref a ∧ SqL X.K H a xs ∧ ∀ p, H p = none → Q (.ref p) (upd H p (.lst xs.reverse))) ha.sn pr_revL⟩
variable {lo hi : Option Expr} {tl th : TO} {ml mh : M (Option Int)}
theorem o_none : MO X cl W none tNoPart (M.ret none) [] := ⟨po_none, so_none⟩
theorem o_some (h : ME X cl W e te me T) : MO X cl W (some e) (tPart te) (mPart me) T := ⟨po_some h.pe, so_some h.sn⟩
theorem m_slL {p2 : Pos} (ha : ME X cl W a ta ma T1) (hl : MO X cl W lo tl ml T2) (hh : MO X cl W hi th mh T3) : ME X cl W (.Subscript a (.Slice lo hi none p2) pos) (tSl (rSlL X.K) ta tl th) (mSl fCutL ma ml mh) (T1 ++ (T2 ++ T3)) := ⟨pe_slice sl_list ha.pe hl.pe hh.pe, s_sl pr_slL ha.sn hl.sn hh.sn⟩
theorem m_slT {p2 : Pos} (ha : ME X cl W a ta ma T1) (hl : MO X cl W lo tl ml T2) (hh : MO X cl W hi th mh T3) : ME X cl W (.Subscript a (.Slice lo hi none p2) pos) (tSl (rSlA X.K) ta tl th) (mSl fCutT ma ml mh) (T1 ++ (T2 ++ T3)) := ⟨pe_slice sl_tupA ha.pe hl.pe hh.pe, s_sl pr_slT ha.sn hl.sn hh.sn⟩
/-! defs -/
/-- a def of the text, ready to be called -/
structure FnG (P : Program) (w : World) (K : PySem.W.Frag) (mg : Str → Option Value) (base : Heap) (x : Str) (k : Nat) (ps : List Str) (sp : Sp) : Prop where
  ex : ∃ (f : Addr) (fd : FuncData), FnOk P w K mg base (L2.CX P w) k f fd ps sp ∧ mg x = some (.ref f) ∧ PySem.W.keepIn K (.ref f) = true ∧ Binds K fd ps []
structure FnM (P : Program) (w : World) (K : PySem.W.Frag) (mg : Str → Option Value) (base : Heap) (C : Addr) (m : Str) (k : Nat) (ps : List Str) (sp : Sp) : Prop where
  ex : ∃ (f : Addr) (fd : FuncData), FnOk P w K mg base (L2.CX P w) k f fd ps sp ∧ Meth K C m f ∧ Binds K fd ps []
structure FnI (P : Program) (w : World) (K : PySem.W.Frag) (mg : Str → Option Value) (base : Heap) (x : Str) (C : Addr) (k : Nat) (ps : List Str) (sp : Sp) : Prop where
  ex : ∃ (f : Addr) (fd : FuncData), FnOk P w K mg base (L2.CX P w) k f fd ps sp ∧ mg x = some (.ref C) ∧ Mk K C f ∧ Binds K fd ps []
variable {k j np : Nat} {ps : List Str} {fx : List Bool} {fn : Fn} {p : Pos} {C : Addr} {m : Str}
theorem m_call (G : FnG X.prog X.w X.K X.mg X.base x j ps (spP X.K cl n fx fn)) (tk : Takes X W) (hr : Room k X.A) (hj : j ≤ k) (hg : Gl X x) (ha : MA X cl W (e :: es) n tr mr S T) (hdb : (x == ("__debug__" : Str)) = false := by decide) (he : starEach (e :: es) X.env = (false, eval e X.env) :: starEach es X.env := by rfl) (hpl : (backTo pos (starEach es X.env)).any (·.1) = false := by rfl) :
    ME X cl W (.Call (.Name x p) (e :: es) [] pos) (tCallS (spP X.K cl n fx fn) (WE W) tr) (mCall fx fn mr) (T ++ S) := by
  obtain ⟨f, fd, F, mg, kp, b⟩ := G.ex
  exact ⟨pe_callS F (hr.mono hj) hg mg kp b (fun σ => passAt tk σ) ha.pe hdb he hpl, s_callS (fun _ _ _ h => h) ha.sn ha.ln⟩
theorem m_callB (G : FnG X.prog X.w X.K X.mg X.base x j ps (spP X.K cl n fx fn)) (tk : Takes X W) (hr : Room k X.A) (hj : j ≤ k) (hg : Gl X x) (ha : MA X cl W (e :: es) n tr mr S T) (hdb : (x == ("__debug__" : Str)) = false := by decide) (he : starEach (e :: es) X.env = (false, eval e X.env) :: starEach es X.env := by rfl) (hpl : (backTo pos (starEach es X.env)).any (·.1) = false := by rfl) :
    ME X cl W (.Call (.Name x p) (e :: es) [] pos) (tCallS (spP X.K cl n fx fn) (WE W) tr) (mCallB fn mr) T := by
  obtain ⟨f, fd, F, mg, kp, b⟩ := G.ex
  exact ⟨pe_callS F (hr.mono hj) hg mg kp b (fun σ => passAt tk σ) ha.pe hdb he hpl, s_callB (fun _ _ _ h => h) ha.sn ha.ln⟩
/-- what a call in W lets out: W does not look at the slots -/
def flatW (W : WX) (E : XK) : Prop := ∀ c d σ H, W c d σ H ↔ E c d H
theorem m_meth {pl : Sem Bool} {c : Nat} {E : XK} (i : Nat) (G : FnM X.prog X.w X.K X.mg X.base C m j ps (spP X.K cl (n + 1) fx fn)) (hC : cl c = C) (hc : Cls X.K C) (hE : flatW W E) (tk : Takes X W) (hr : Room k X.A) (hj : j ≤ k) (ha : MA X cl W (e :: es) n tr mr S T) (hN : X.N[i]? = some x := by rfl) (hv : Vis X.env.scope x := by first | exact Or.inl rfl | exact Or.inr (Or.inl rfl) | exact Or.inr (Or.inr rfl))
    (hd : (x == ("__debug__" : Str)) = false := by decide) (hcd : (x == ("__classdict__" : Str)) = false := by decide)
    (hst : starEach (e :: es) X.env = (false, eval e X.env) :: starEach es X.env := by rfl) (hpl : (backTo pos (starEach es X.env)).any (·.1) = false := by rfl)
    (ht : eval (.Call (.Attribute (.Name x p) m apos) (e :: es) [] pos) X.env = (do
      let ov ← eval (.Name x p) X.env
      standAt apos.atName
      let (f, first) ← holding [ov] (getMethod ov m pl)
      callWith pos f first (backTo pos (starEach (e :: es) X.env)) (backToKw pos (keywordEach [] X.env))) := by rfl) :
    ME X cl W (.Call (.Attribute (.Name x p) m apos) (e :: es) [] pos) (tMeth C m (spP X.K cl (n + 1) fx fn) [] E (tVar i) tr) (mMeth c m i fx fn mr) (T ++ (i :: S)) := by
  obtain ⟨f, fd, F, mm, b⟩ := G.ex
  exact ⟨pe_meth (pe_var hN hv hd hcd) hc mm F (hr.mono hj) b .nil (passes_call tk fun c d σ H h => (hE c d σ H).mpr h) ha.pe hst hpl ht, s_meth hC (fun σ c H h => (hE _ _ σ H).mp h) ha.sn fun ρ as ρ' h => by rw [ha.ln ρ as ρ' h]⟩
theorem m_methB {pl : Sem Bool} {c : Nat} {E : XK} (i : Nat) (G : FnM X.prog X.w X.K X.mg X.base C m j ps (spP X.K cl (n + 1) fx fn)) (hC : cl c = C) (hc : Cls X.K C) (hE : flatW W E) (tk : Takes X W) (hr : Room k X.A) (hj : j ≤ k) (ha : MA X cl W (e :: es) n tr mr S T) (hN : X.N[i]? = some x := by rfl) (hv : Vis X.env.scope x := by first | exact Or.inl rfl | exact Or.inr (Or.inl rfl) | exact Or.inr (Or.inr rfl))
    (hd : (x == ("__debug__" : Str)) = false := by decide) (hcd : (x == ("__classdict__" : Str)) = false := by decide)
    (hst : starEach (e :: es) X.env = (false, eval e X.env) :: starEach es X.env := by rfl) (hpl : (backTo pos (starEach es X.env)).any (·.1) = false := by rfl)
    (ht : eval (.Call (.Attribute (.Name x p) m apos) (e :: es) [] pos) X.env = (do
      let ov ← eval (.Name x p) X.env
      standAt apos.atName
      let (f, first) ← holding [ov] (getMethod ov m pl)
      callWith pos f first (backTo pos (starEach (e :: es) X.env)) (backToKw pos (keywordEach [] X.env))) := by rfl) :
    ME X cl W (.Call (.Attribute (.Name x p) m apos) (e :: es) [] pos) (tMeth C m (spP X.K cl (n + 1) fx fn) [] E (tVar i) tr) (mMethB c m i fn mr) T := by
  obtain ⟨f, fd, F, mm, b⟩ := G.ex
  exact ⟨pe_meth (pe_var hN hv hd hcd) hc mm F (hr.mono hj) b .nil (passes_call tk fun c d σ H h => (hE c d σ H).mpr h) ha.pe hst hpl ht, s_methB hC (fun σ c H h => (hE _ _ σ H).mp h) ha.sn fun ρ as ρ' h => by rw [ha.ln ρ as ρ' h]⟩
theorem m_make {c : Nat} {E : XK} (G : FnI X.prog X.w X.K X.mg X.base x C j ps (spP X.K cl (n + 1) fx fn)) (hC : cl c = C) (hf : fx[0]? = some true) (hE : flatW W E) (tk : Takes X W) (hr : Room k X.A) (hj : j + 1 ≤ k) (hg : Gl X x) (ha : MA X cl W (e :: es) n tr mr S T) (hdb : (x == ("__debug__" : Str)) = false := by decide)
    (he : starEach (e :: es) X.env = (false, eval e X.env) :: starEach es X.env := by rfl) (hpl : (backTo pos (starEach es X.env)).any (·.1) = false := by rfl) :
    ME X cl W (.Call (.Name x p) (e :: es) [] pos) (tMake C (spP X.K cl (n + 1) fx fn) [] E tr) (mMake c fx fn mr) (T ++ S) := by
  obtain ⟨f, fd, F, mg, mk, b⟩ := G.ex
  exact ⟨pe_make mk F (hr.mono hj) hg mg b .nil (passes_call tk fun c d σ H h => (hE c d σ H).mpr h) ha.pe hdb he hpl, s_make hC hf ha.sn fun ρ as ρ' h => by rw [ha.ln ρ as ρ' h]⟩
/-! what is walked -/
variable {tg : Expr} {wi : TI} {mi : M (List D)} {g : TG} {gm : D → Env → Option Env}
theorem i_list (h : ME X cl W e te me T) : MI X cl W tg e (iList X.K te) (mSeq1 seqOf me) T := ⟨pi_list h.pe, si_list h.sn⟩
theorem i_tup (h : ME X cl W e te me T) : MI X cl W tg e (iTup X.K te) (mSeq1 tupOf me) T := ⟨pi_tup h.pe, si_tup h.sn⟩
theorem i_rng1 (hm : X.mg "range" = none) (hg : Gl X "range") (h : MA X cl W [a] n tr mr S T) (hs : starEach [a] X.env = [(false, eval a X.env)] := by rfl) : MI X cl W tg (.Call (.Name "range" p) [a] [] pos) (iRng1 tr) (mArgs1 fRng1 mr) T := ⟨pi_range1 hg hm h.pe hs, si_range1 h.sn⟩
theorem i_rng2 (hm : X.mg "range" = none) (hg : Gl X "range") (h : MA X cl W [a, b] n tr mr S T) (hs : starEach [a, b] X.env = [(false, eval a X.env), (false, eval b X.env)] := by rfl) (hs2 : starEach [b] X.env = [(false, eval b X.env)] := by rfl) : MI X cl W tg (.Call (.Name "range" p) [a, b] [] pos) (iRng2 tr) (mArgs1 fRng2 mr) T := ⟨pi_range2 hg hm h.pe hs hs2, si_range2 h.sn⟩
theorem i_zip {elts : List Expr} {kk : Nat} {tpos : Pos} (hm : X.mg "zip" = none) (hg : Gl X "zip") (h : MA X cl W [a, b] n tr mr S T) (hs : starEach [a, b] X.env = (false, eval a X.env) :: starEach [b] X.env := by rfl) (hpl : (backTo pos (starEach [b] X.env)).any (·.1) = false := by rfl) : MI X cl W (.Tuple elts kk tpos) (.Call (.Name "zip" p) [a, b] [] pos) (iZip X.K tr) (mArgs1 fZip mr) T := ⟨pi_zip hg hm h.pe hs hpl, si_zip h.sn⟩
theorem i_enum {elts : List Expr} {kk : Nat} {tpos : Pos} (hm : X.mg "enumerate" = none) (hg : Gl X "enumerate") (h : MA X cl W [a] n tr mr S T) (hs : starEach [a] X.env = [(false, eval a X.env)] := by rfl) : MI X cl W (.Tuple elts kk tpos) (.Call (.Name "enumerate" p) [a] [] pos) (iEnum X.K tr) (mArgs1 fEnum mr) T := ⟨pi_enum hg hm h.pe hs, si_enum h.sn⟩
theorem i_rev (hm : X.mg "reversed" = none) (hg : Gl X "reversed") (h : MA X cl W [a] n tr mr S T) (hs : starEach [a] X.env = [(false, eval a X.env)] := by rfl) : MI X cl W tg (.Call (.Name "reversed" p) [a] [] pos) (iRev X.K tr) (mArgs1 fRev mr) T := ⟨pi_reversed hg hm h.pe hs, si_rev h.sn⟩
/-! comprehensions -/
theorem m_lc {elt tgt iter : Expr} {ifs : List Expr} {scope : Scope} {own : List (Str × Nat)} {tt : Shared → Hp → Addr → List (Str × Addr) → List Addr → TT} {te : Shared → Hp → Addr → List (Str × Addr) → List Addr → TE} {g : Shared → Hp → Addr → List (Str × Addr) → List Addr → TG} {mt : M Bool} (hc : X.calm = true) (hN : X.N.Nodup) (ok : BlkOk X.N X.env.scope scope own) (hi : MI X cl W tgt iter wi mi T)
    (hg : ∀ (s : Shared) (H : Hp) (C : Addr) (cll : List (Str × Addr)) (fp : List Addr), MG (X.blk s H scope (compEnvC scope cll C X.env) fp) cl tgt (g s H C cll fp) gm Z) (ht : ∀ (s : Shared) (H : Hp) (C : Addr) (cll : List (Str × Addr)) (fp : List Addr), MTs (X.blk s H scope (compEnvC scope cll C X.env) fp) cl W0 ifs (tt s H C cll fp) mt T1)
    (he : ∀ (s : Shared) (H : Hp) (C : Addr) (cll : List (Str × Addr)) (fp : List Addr), ME (X.blk s H scope (compEnvC scope cll C X.env) fp) cl W0 elt (te s H C cll fp) me T2) (hz : ∀ j ∈ Z, j ∈ own.map (·.2)) (eg : ∀ (s : Shared) (H : Hp) (C : Addr) (cll : List (Str × Addr)) (fp : List Addr), g s H C cll fp = g X.s_0 X.H_0 0 [] [] := by intro _ _ _ _ _; rfl) (ett : ∀ (s : Shared) (H : Hp) (C : Addr) (cll : List (Str × Addr)) (fp : List Addr), tt s H C cll fp = tt X.s_0 X.H_0 0 [] [] := by intro _ _ _ _ _; rfl) (ete : ∀ (s : Shared) (H : Hp) (C : Addr) (cll : List (Str × Addr)) (fp : List Addr), te s H C cll fp = te X.s_0 X.H_0 0 [] [] := by intro _ _ _ _ _; rfl) (hs : ∀ x, foldedSetIterable iter X.env x = pure x := by intro _; rfl) :
    ME X cl W (.ListComp elt [⟨tgt, iter, ifs, 0⟩] scope pos) (tLc wi (g X.s_0 X.H_0 0 [] []) (tt X.s_0 X.H_0 0 [] []) (te X.s_0 X.H_0 0 [] []) (own.map (·.2))) (mLc mi gm mt me (own.map (·.2))) (T ++ (T1 ++ T2)) :=
  ⟨pe_lc hc hN hi.pe ok (fun s H C c f => eg s H C c f ▸ (hg s H C c f).pe) (fun s H C c f => ett s H C c f ▸ (ht s H C c f).pe) (fun s H C c f => ete s H C c f ▸ (he s H C c f).pe) hs,
    s_lc hi.sn (hg X.s_0 X.H_0 0 [] []).sn (ht X.s_0 X.H_0 0 [] []).sn (he X.s_0 X.H_0 0 [] []).sn hz⟩
/-! targets -/
variable {gs : TGs} {gms : List D → Env → Option Env}
theorem g_nm (i : Nat) {x : Str} {pos : Pos} (hN : X.N.Nodup) (hi : X.N[i]? = some x := by rfl) (hx : Loc X.env.scope x := by first | exact Or.inl rfl | exact Or.inr rfl) (hf : X.fn x = true ∨ X.env.scope.names.lookup x = some .local := by first | exact .inl rfl | exact .inr rfl) : MG X cl (.Name x pos) (gName i) (gmName i) [i] := ⟨pg_name hN hi hx hf, sg_name⟩
theorem g_nil : MGs X cl [] gNil gmNil [] := ⟨pgs_nil, sgs_nil⟩
theorem g_cons (h1 : MG X cl e g gm Z1) (h2 : MGs X cl es gs gms Z2) (hs : (assignEach (e :: es) X.env).map (·.2) = assign e X.env :: (assignEach es X.env).map (·.2) := by rfl) : MGs X cl (e :: es) (gCons g gs) (gmCons gm gms) (Z1 ++ Z2) := ⟨pgs_cons h1.pe h2.pe hs, sgs_cons h1.sn h2.sn⟩
theorem g_tup {k : Nat} {nn : Nat} (hc : X.calm = true) (h : MGs X cl es gs gms Z) (hn : (assignEach es X.env).length = nn := by rfl) (hst : (assignEach es X.env).findIdx? (·.1) = none := by rfl) : MG X cl (.Tuple es k pos) (gTup X.K nn gs) (gmTup nn gms) Z := ⟨pg_tup hc h.pe hn hst, sg_tup h.sn⟩
/-! statements -/
variable {st : Stmt} {sts : List Stmt} {t u : TS} {ms ms2 : MS} {pos' : Pos} {f : Str}
theorem x_pass : MSt X cl W (.Pass pos) tNext mNx [] := ⟨ps_pass, ss_pass⟩
theorem x_break : MSt X cl W (.Break pos) tBreak (fun ρ => some (.bk, ρ)) [] := ⟨ps_break, ss_break⟩
theorem x_cont : MSt X cl W (.Continue pos) tCont (fun ρ => some (.ct, ρ)) [] := ⟨ps_continue, ss_cont⟩
theorem x_doc {k : Str} {j : Nat} : MSt X cl W (.Expr (.Constant (.str k) j pos) pos') tNext mNx [] := ⟨ps_doc, ss_pass⟩
theorem x_ret (h : ME X cl W e te me T) : MSt X cl W (.Return (some e) pos) (tRet te) (mRet me) [] := ⟨ps_ret h.pe, ss_ret h.sn⟩
theorem x_retN : MSt X cl W (.Return none pos) tRetN (fun ρ => some (.rt .non, ρ)) [] := ⟨ps_retN, ss_retN⟩
theorem x_expr (h : ME X cl W e te me T) (hs : swapsWith e none pos.line X.env = pure false := by rfl) : MSt X cl W (.Expr e pos) (tDrop te) (mExp me) [] := ⟨ps_expr h.pe hs, ss_expr h.sn⟩
theorem x_asg {tgt : Expr} (hg : MG X cl tgt g gm Z) (he : ME X cl W e te me T) (hs : swapsWithSole [tgt] e pos.line X.env = pure false := by rfl) (hw : swappedStores [tgt] e X.env = pure none := by rfl) (h1 : (assignEach [tgt] X.env).map (·.2) = [assign tgt X.env] := by rfl) : MSt X cl W (.Assign [tgt] e pos) (tAsg te g) (mAsg me gm) Z := ⟨ps_asg he.pe hg.pe hs hw h1, ss_asg he.sn hg.sn⟩
theorem x_set (i : Nat) {x : Str} (hN : X.N.Nodup) (he : ME X cl W e te me T) (hi : X.N[i]? = some x := by rfl) (hx : Loc X.env.scope x := by first | exact Or.inl rfl | exact Or.inr rfl) (hs : swapsWith e (some (.Name x pos')) pos.line X.env = pure false := by rfl) (hf : X.fn x = true ∨ X.env.scope.names.lookup x = some .local := by first | exact .inl rfl | exact .inr rfl) :
    MSt X cl W (.Assign [.Name x pos'] e pos) (tAsg te (gName i)) (mAsg me (gmName i)) [i] := ⟨ps_set hN hi hx he.pe hs hf, ss_asg he.sn sg_name⟩
/-- y = [..], y a local name -/
theorem x_setLc {elt tgt iter : Expr} {ifs : List Expr} {scope : Scope} {own : List (Str × Nat)} {tt : Shared → Hp → Addr → List (Str × Addr) → List Addr → TT} {te : Shared → Hp → Addr → List (Str × Addr) → List Addr → TE} {g : Shared → Hp → Addr → List (Str × Addr) → List Addr → TG} {mt : M Bool} {y : Str} {py spos : Pos} (i : Nat) (hc : X.calm = true) (hN : X.N.Nodup) (ok : BlkOk X.N X.env.scope scope own) (hsw : swapsWith (.ListComp elt [⟨tgt, iter, ifs, 0⟩] scope pos) (some (.Name y py)) spos.line X.env = pure true) (hi : MI X cl W tgt iter wi mi T)
    (hg : ∀ (s : Shared) (H : Hp) (C : Addr) (cll : List (Str × Addr)) (fp : List Addr), MG (X.blk s H scope (compEnvC scope cll C X.env) fp) cl tgt (g s H C cll fp) gm Z) (ht : ∀ (s : Shared) (H : Hp) (C : Addr) (cll : List (Str × Addr)) (fp : List Addr), MTs (X.blk s H scope (compEnvC scope cll C X.env) fp) cl W0 ifs (tt s H C cll fp) mt T1)
    (he : ∀ (s : Shared) (H : Hp) (C : Addr) (cll : List (Str × Addr)) (fp : List Addr), ME (X.blk s H scope (compEnvC scope cll C X.env) fp) cl W0 elt (te s H C cll fp) me T2) (hz : ∀ j ∈ Z, j ∈ own.map (·.2)) (hy : X.N[i]? = some y := by rfl) (hyl : X.env.scope.names.lookup y = some .local := by rfl) (eg : ∀ (s : Shared) (H : Hp) (C : Addr) (cll : List (Str × Addr)) (fp : List Addr), g s H C cll fp = g X.s_0 X.H_0 0 [] [] := by intro _ _ _ _ _; rfl) (ett : ∀ (s : Shared) (H : Hp) (C : Addr) (cll : List (Str × Addr)) (fp : List Addr), tt s H C cll fp = tt X.s_0 X.H_0 0 [] [] := by intro _ _ _ _ _; rfl) (ete : ∀ (s : Shared) (H : Hp) (C : Addr) (cll : List (Str × Addr)) (fp : List Addr), te s H C cll fp = te X.s_0 X.H_0 0 [] [] := by intro _ _ _ _ _; rfl) (hs : ∀ x, foldedSetIterable iter X.env x = pure x := by intro _; rfl) :
    MSt X cl W (.Assign [.Name y py] (.ListComp elt [⟨tgt, iter, ifs, 0⟩] scope pos) spos) (tAsg (tLc wi (g X.s_0 X.H_0 0 [] []) (tt X.s_0 X.H_0 0 [] []) (te X.s_0 X.H_0 0 [] []) (own.map (·.2))) (gName i)) (mAsg (mLc mi gm mt me (own.map (·.2))) (gmName i)) [i] :=
  ⟨ps_setLc hc hN hy hyl hsw hi.pe ok (fun s H C c f => eg s H C c f ▸ (hg s H C c f).pe) (fun s H C c f => ett s H C c f ▸ (ht s H C c f).pe) (fun s H C c f => ete s H C c f ▸ (he s H C c f).pe) hs,
    ss_asg (s_lc hi.sn (hg X.s_0 X.H_0 0 [] []).sn (ht X.s_0 X.H_0 0 [] []).sn (he X.s_0 X.H_0 0 [] []).sn hz) sg_name⟩
theorem x_setIx (n : R ∉ T2) (he : ME X cl W e te me T) (ha : MP X cl W R a ta mp T1) (hi : ME X cl W i tb mb T2) (hs : swapsWithSole [.Subscript a i pos'] e pos.line X.env = pure false := by rfl) (hw : swappedStores [.Subscript a i pos'] e X.env = pure none := by rfl) (h1 : (assignEach [.Subscript a i pos'] X.env).map (·.2) = [assign (.Subscript a i pos') X.env] := by rfl)
    (hA : ∀ v, assign (.Subscript a i pos') X.env v = (do
      let ov ← holding [v] (eval a X.env)
      let iv ← holding [v, ov] (eval i X.env)
      standAt pos'
      holding [v, ov, iv] (setItem ov iv v)
      release [v, ov, iv] []) := by intro _; rfl) : MSt X cl W (.Assign [.Subscript a i pos'] e pos) (tAsg te (gSub ta tb rSetL)) (mSetIx R me mp mb) [] := ⟨ps_asg he.pe (pg_sub ha.pe hi.pe set_list hA) hs hw h1, ss_setIx he.sn ha.sn hi.sn n⟩
theorem x_dput (hu : X.A.units + 1 < cLine) (n : R ∉ T2) (he : ME X cl W e te me T) (ha : MP X cl W R a ta mp T1) (hi : ME X cl W i tb mb T2) (hs : swapsWith e (some (.Subscript a i pos')) pos.line X.env = pure false := by rfl) : MSt X cl W (.Assign [.Subscript a i pos'] e pos) (sDPut ta tb te) (mDPut R me mp mb) [] := ⟨ps_dput hu ha.pe hi.pe he.pe hs, ss_dput he.sn ha.sn hi.sn n⟩
theorem x_fld {c : Nat} (hC : cl c = C) (hc : Cls X.K C) (hn : NoAttr X.K C f) (he : ME X cl W e te me T) (ha : MP X cl W R a ta mp T1) (hs : swapsWith e (some (.Attribute a f pos')) pos.line X.env = pure false := by rfl) : MSt X cl W (.Assign [.Attribute a f pos'] e pos) (sFld X.K ta te f) (mSFld R c f me mp) [] := ⟨ps_fld ha.pe he.pe hs, ss_fld hC hc hn he.sn ha.sn⟩
theorem x_augA (i : Nat) {x : Str} (hN : X.N.Nodup) (he : ME X cl W e te me T) (hi : X.N[i]? = some x := by rfl) (hx : Loc X.env.scope x := by first | exact Or.inl rfl | exact Or.inr rfl) (hf : X.fn x = true ∨ X.env.scope.names.lookup x = some .local := by first | exact .inl rfl | exact .inr rfl) : MSt X cl W (.AugAssign (.Name x pos') .Add e pos) (tAug i te (ipI fun i j => i + j)) (mAug i fAdd me) [i] := ⟨ps_aug hN hi hx he.pe ip_add hf, ss_aug he.sn ip_addI⟩
theorem x_augS (i : Nat) {x : Str} (hN : X.N.Nodup) (he : ME X cl W e te me T) (hi : X.N[i]? = some x := by rfl) (hx : Loc X.env.scope x := by first | exact Or.inl rfl | exact Or.inr rfl) (hf : X.fn x = true ∨ X.env.scope.names.lookup x = some .local := by first | exact .inl rfl | exact .inr rfl) : MSt X cl W (.AugAssign (.Name x pos') .Sub e pos) (tAug i te (ipI fun i j => i - j)) (mAug i fSub me) [i] := ⟨ps_aug hN hi hx he.pe ip_sub hf, ss_aug he.sn ip_subI⟩
theorem x_if {sa sb : List Stmt} (hc : MT X cl W c tA mA T) (ha : MB X cl W sa t ms Z1) (hb : MB X cl W sb u ms2 Z2) : MSt X cl W (.If c sa sb pos) (tIfS tA t u) (mIf mA ms ms2) (Z1 ++ Z2) := ⟨ps_if hc.pe ha.pe hb.pe, ss_if hc.sn ha.sn hb.sn⟩
theorem x_for (hp : PassesOwn (model X.prog X.w) X.A X.env X.xe) (hc : X.calm = true) (hi : MI X cl W tg e wi mi T) (hg : MG X cl tg g gm Z1) (hb : MB X cl W sts t ms Z2) (hs : ∀ x, foldedSetIterable e X.env x = pure x := by intro _; rfl) : MSt X cl W (.For tg e sts [] pos) (tFor wi g t) (mFor mi gm ms) (Z1 ++ Z2) := ⟨ps_for hp hc hi.pe hg.pe hb.pe hs, ss_for hi.sn hg.sn hb.sn⟩
theorem x_while (n : Nat) (hp : PassesOwn (model X.prog X.w) X.A X.env X.xe) (hc : MT X cl W c tA mA T) (hb : MB X cl W sts t ms Z) : MSt X cl W (.While c sts [] pos) (tWhile tA t) (whL mA ms n) Z := ⟨ps_while hp hc.pe hb.pe, ss_while n hc.sn hb.sn⟩
theorem b_nil : MB X cl W [] tNext mNx [] := ⟨pss_nil, ss_pass⟩
theorem b_one (h : MSt X cl W st t ms Z) : MB X cl W [st] t ms Z := ⟨pss_one h.pe, h.sn⟩
theorem b_cons (h1 : MSt X cl W st t ms Z1) (h2 : MB X cl W sts u ms2 Z2) : MB X cl W (st :: sts) (tSeq t u) (mSeq ms ms2) (Z1 ++ Z2) := ⟨pss_cons h1.pe h2.pe, ss_seq h1.sn h2.sn⟩
/-! methods of lists -/
theorem m_app (n : R ∉ T2) (ha : MP X cl W R a ta mp T1) (he : ME X cl W e te me T2) (hbase : attributeBase a "append" X.env (eval a X.env) = eval a X.env := by rfl)
    (hfew : ((backTo pos (starEach [e] X.env)).all (fun x => !x.1) && (backToKw pos (keywordEach [] X.env)).all (fun x => x.1.isSome) && decide ([e].length + ([] : List Keyword).length + (if ([] : List Keyword).isEmpty then 0 else 1) < 30)) = true := by rfl)
    (hline : (apos.endLine == pos.line) = true := by rfl) (hs : starEach [e] X.env = (false, eval e X.env) :: starEach [] X.env := by rfl) (hplain : (backTo pos (starEach [] X.env)).any (·.1) = false := by rfl) :
    ME X cl W (.Call (.Attribute a "append" apos) [e] [] pos) (tBM X.K "list" rAppend ta (tCons te tNil)) (mApp R mp me) (T1 ++ T2 ++ [R]) := ⟨pe_bm PySem.F.plainAttrs_list PySem.F.slot_list_append PySem.F.type_list_append mt_append ha.pe (pa_cons he.pe pa_nil hs) hbase hfew hline hs hplain, s_app ha.sn he.sn n⟩
theorem m_pop (ha : MP X cl W R a ta mp T1) (hbase : attributeBase a "pop" X.env (eval a X.env) = eval a X.env := by rfl) (hline : (apos.endLine == pos.line) = true := by rfl) :
    ME X cl W (.Call (.Attribute a "pop" apos) [] [] pos) (tBM0 X.K "list" rPop ta) (mPop R mp) (T1 ++ [R]) := ⟨pe_bm0 PySem.F.plainAttrs_list PySem.F.slot_list_pop PySem.F.type_list_pop mt_pop ha.pe hbase hline, s_pop ha.sn⟩
theorem m_popAt (n : R ∉ T2) (ha : MP X cl W R a ta mp T1) (he : ME X cl W e te me T2) (hbase : attributeBase a "pop" X.env (eval a X.env) = eval a X.env := by rfl)
    (hfew : ((backTo pos (starEach [e] X.env)).all (fun x => !x.1) && (backToKw pos (keywordEach [] X.env)).all (fun x => x.1.isSome) && decide ([e].length + ([] : List Keyword).length + (if ([] : List Keyword).isEmpty then 0 else 1) < 30)) = true := by rfl)
    (hline : (apos.endLine == pos.line) = true := by rfl) (hs : starEach [e] X.env = (false, eval e X.env) :: starEach [] X.env := by rfl) (hplain : (backTo pos (starEach [] X.env)).any (·.1) = false := by rfl) :
    ME X cl W (.Call (.Attribute a "pop" apos) [e] [] pos) (tBM X.K "list" rPopAt ta (tCons te tNil)) (mPopAt R mp me) (T1 ++ T2 ++ [R]) := ⟨pe_bm PySem.F.plainAttrs_list PySem.F.slot_list_pop PySem.F.type_list_pop mt_popAt ha.pe (pa_cons he.pe pa_nil hs) hbase hfew hline hs hplain, s_popAt ha.sn he.sn n⟩
end
/-! ### a def of the text -/
section
variable {P : Program} {w : World} {K : PySem.W.Frag} {mg : Str → Option Value} {base : Heap} {cl : Nat → Addr}
theorem def_ok {x qual : Str} {st : Stmt} {f : Addr} {fd : FuncData} {N ps : List Str} {k np : Nat} {fx : List Bool} {m : MS} {Z : List Nat} (F : Fun K x qual st f fd) (S : FnScope N ps (defScope st)) (hnp : ps.length = np) (hfx : ∀ k, fx[k]? = some true → k ∉ Z ∧ k < np)
    (D : ∀ (cdv : Value) (A : Around) (outer : List PySem.Env) (s : Shared) (H : Hp) (E : XK), Room k (A.deeper (PyProof.Rows.envOfC qual (defScope st) s.heap.objs.size f cdv)) →
      ∃ t, MB (cxOf (L2.CX P w) P w K mg base N qual (defScope st) f cdv A outer s H E) cl (fun c d _ H => E c d H) (defBody st) t m Z) :
    FnOk P w K mg base (L2.CX P w) (k + 1) f fd ps (spP K cl np fx (runF N.length m np)) :=
  F.okX S (fun vs H Q E h => h.1.trans hnp.symm) fun cdv A outer s H vs Q E hr h => by
    obtain ⟨t, D⟩ := D cdv A outer s H E hr
    refine ⟨t, D.pe, ?_⟩
    obtain ⟨hl, F, ds, Bs, r, outs, sm, l, o, dj, lt, of, e, hq, hx⟩ := h
    have st := start_st (N := N) sm l o dj lt of
    unfold runF at e
    have ret : ∀ {ρ' σ' F' H' As' A}, outs = ρ'.take np → AftS K cl F H (L2.start N vs) Bs Z ρ' σ' F' H' As' A → RetOk K cl fx vs outs F H (U Bs) F' H' (fun k b => fx[k]? = some true ∧ As' k b) A := fun {ρ' σ' F' H' As' A} eo x => by
      refine ⟨x.st.sub, fun k v d hk hv ho => ?_, fun k b ⟨hk, q⟩ => ?_, fun i j b q q' => x.st.dj i j b q.2 q'.2, fun k b q => x.ds k b q.2, fun k b q => x.st.off k b q.2, x.off, x.stp.weak fun a q => q.imp (fun ⟨k, z⟩ => ⟨k, z.2⟩) id⟩
      · obtain ⟨nz, hkn⟩ := hfx k hk
        rw [eo, List.getElem?_take_of_lt hkn] at ho
        obtain ⟨v', h1, h2⟩ := x.st.sl k d ho
        have hs : (L2.start N vs)[k]? = some (some v) := by
          unfold L2.start
          rw [List.getElem?_append_left (by simpa using (List.getElem?_eq_some_iff.mp hv).1), List.getElem?_map, hv]
          rfl
        rw [x.ag k nz, hs] at h1
        cases h1
        exact h2.iff fun b => ⟨fun z => ⟨hk, z⟩, fun z => z.2⟩
      · obtain ⟨nz, hkn⟩ := hfx k hk
        obtain ⟨d, e⟩ := x.st.em k b q
        exact ⟨hk, d, by rw [eo, List.getElem?_take_of_lt hkn]; exact e⟩
    cases q : m (ds.map some ++ List.replicate (N.length - ds.length) none) with
    | none => rw [q] at e; cases e
    | some p =>
      obtain ⟨fl, ρ'⟩ := p
      rw [q] at e
      refine D.sn (L2.start N vs) H _ F _ Bs fl ρ' st q ⟨fun hr σ' F' H' As' x => ?_, fun hr σ' F' H' As' x => ?_, fun hr σ' F' H' As' x => ?_, fun d hr v σ' F' H' As' A ow x => ?_, fun c hr σ' F' H' As' x => ?_⟩
      · subst hr
        cases e
        exact hq .non rfl .non F' H' _ E0 (.fz .non fun _ z => z) (ret rfl x)
      · subst hr; cases e
      · subst hr; cases e
      · subst hr
        cases e
        exact hq d rfl v F' H' _ A ow (ret rfl x)
      · subst hr
        cases e
        exact hx c rfl F' H' _ (ret rfl x)
end
end Pv

/-! PvN -/
set_option Elab.async false
set_option linter.all false
set_option maxRecDepth 100000
set_option maxHeartbeats 1000000
namespace Pv
open PySem L2
abbrev KitT (Tn : String) : Prop := ∀ d : D, (∀ o c ns xs, d ≠ .nd o (.ins c ns) xs) → kitB (tyN d) Tn = some (decide (tyN d = Tn) || (decide (Tn = "int") && decide (tyN d = "bool")))
theorem kit_tab {Tn : String} (h1 : kitB "NoneType" Tn = some (decide ("NoneType" = Tn) || (decide (Tn = "int") && decide ("NoneType" = "bool")))) (h2 : kitB "bool" Tn = some (decide ("bool" = Tn) || (decide (Tn = "int") && decide ("bool" = "bool"))))
    (h3 : kitB "int" Tn = some (decide ("int" = Tn) || (decide (Tn = "int") && decide ("int" = "bool")))) (h4 : kitB "str" Tn = some (decide ("str" = Tn) || (decide (Tn = "int") && decide ("str" = "bool")))) (h5 : kitB "list" Tn = some (decide ("list" = Tn) || (decide (Tn = "int") && decide ("list" = "bool"))))
    (h6 : kitB "tuple" Tn = some (decide ("tuple" = Tn) || (decide (Tn = "int") && decide ("tuple" = "bool")))) (h7 : kitB "dict" Tn = some (decide ("dict" = Tn) || (decide (Tn = "int") && decide ("dict" = "bool")))) :
    ∀ d : D, (∀ o c ns xs, d ≠ .nd o (.ins c ns) xs) → kitB (tyN d) Tn = some (decide (tyN d = Tn) || (decide (Tn = "int") && decide (tyN d = "bool"))) := fun d nd => by
  cases d with
  | nd o k xs =>
    cases k with
    | ins c ns => exact (nd o c ns xs rfl).elim
    | lst => exact h5
    | ro => exact h5
    | tup => exact h6
    | rt => exact h6
    | dK ks => exact h7
    | dT ks => exact h7
  | non => exact h1
  | bl b => exact h2
  | int b => exact h3
  | str b => exact h4
theorem kit_int : KitT "int" := kit_tab (by decide +kernel) (by decide +kernel) (by decide +kernel) (by decide +kernel) (by decide +kernel) (by decide +kernel) (by decide +kernel)
theorem kit_bool : KitT "bool" := kit_tab (by decide +kernel) (by decide +kernel) (by decide +kernel) (by decide +kernel) (by decide +kernel) (by decide +kernel) (by decide +kernel)
theorem kit_str : KitT "str" := kit_tab (by decide +kernel) (by decide +kernel) (by decide +kernel) (by decide +kernel) (by decide +kernel) (by decide +kernel) (by decide +kernel)
theorem kit_list : KitT "list" := kit_tab (by decide +kernel) (by decide +kernel) (by decide +kernel) (by decide +kernel) (by decide +kernel) (by decide +kernel) (by decide +kernel)
theorem kit_tuple : KitT "tuple" := kit_tab (by decide +kernel) (by decide +kernel) (by decide +kernel) (by decide +kernel) (by decide +kernel) (by decide +kernel) (by decide +kernel)
theorem kit_dict : KitT "dict" := kit_tab (by decide +kernel) (by decide +kernel) (by decide +kernel) (by decide +kernel) (by decide +kernel) (by decide +kernel) (by decide +kernel)
end Pv

/-! PvO -/
set_option Elab.async false
set_option linter.all false
set_option maxRecDepth 100000
set_option maxHeartbeats 1000000
namespace Pv
open PySem L2
/-- x[i] of a value -/
def fIx : D → D → Option D
  | .nd false k xs, .int i => if isSeq k = true then (ixN xs.length i).bind (xs[·]?) else none
  | _, _ => none
section
variable {K : PySem.W.Frag} {cl : Nat → Addr} {W : WX} {X : Cx} {a b : Expr} {ta tb : TE} {ma mb : M D} {T1 T2 : List Nat} {pos : Pos}
theorem pr_ix : Pr2 K cl (rIx K) fIx := fun F H x y dx dy d Q s hx hy e k => by
  unfold fIx at e; split at e
  · rename_i kd xs i
    split at e
    · rename_i hs
      obtain ⟨a, vs, rfl, h1, f1⟩ := hx.kids
      cases hy
      cases hj : ixN xs.length i with
      | none => rw [hj] at e; cases e
      | some j =>
        rw [hj] at e
        obtain ⟨v, hv, fz⟩ := f1.at' e
        exact ixP_seq H a vs i v Q ((h1.same s).seq hs) (by unfold atI; rw [f1.len, hj]; exact hv) (k v F H _ (.flat s fz))
    · cases e
  · cases e
theorem m_ixV (ha : ME X cl W a ta ma T1) (hb : ME X cl W b tb mb T2) (hs : PlainIx b) : ME X cl W (.Subscript a b pos) (tOp (rIx X.K) ta tb) (mBin fIx ma mb) (T1 ++ T2) := ⟨pe_ix ix_seq ha.pe hb.pe hs, s_bin ha.sn hb.sn pr_ix⟩
end
def fxOk (fx : List Bool) (Z : List Nat) (np : Nat) : Bool := (List.range fx.length).all fun k => !(fx.getD k false) || (!(Z.contains k) && decide (k < np))
theorem hfx_of {fx : List Bool} {Z : List Nat} {np : Nat} (h : fxOk fx Z np = true) : ∀ k, fx[k]? = some true → k ∉ Z ∧ k < np := fun k e => by
  obtain ⟨hl, e2⟩ := List.getElem?_eq_some_iff.mp e
  have z := List.all_eq_true.mp h k (by simpa using hl)
  rw [List.getD_eq_getElem?_getD, e] at z
  simpa using z
end Pv

/-! PvE -/
set_option Elab.async false
set_option linter.all false
set_option maxRecDepth 100000
set_option maxHeartbeats 1000000
namespace Pv
open PySem L2
/-- what a law's text comes to: a list of at most 63 numbers in, True out -/
def LawD (fn : Fn) : Prop := ∀ ns : List Int, ns.length ≤ 63 → ∃ outs, fn [.nd false .ro (ns.map .int)] = some (.ok (.bl true), outs)
theorem fz_numbers {K : PySem.W.Frag} {cl : Nat → Addr} {H : Hp} {a : Addr} {ns : List Int} (h : SqL K H a (ns.map V.int)) : Fz K cl H (.ref a) (.nd false .ro (ns.map .int)) := by
  refine .nd (k := .ro) h (by simp) fun i v d hv hd => ?_
  rw [List.getElem?_map] at hv hd
  cases q : ns[i]? with
  | none => rw [q] at hv; cases hv
  | some n => rw [q] at hv hd; cases hv; cases hd; exact .int n
theorem law_sp {K : PySem.W.Frag} {cl : Nat → Addr} {H : Hp} {a : Addr} {ns : List Int} {fx : List Bool} {fn : Fn} {Q : VK} {E : XK} (law : LawD fn) (hl : ns.length ≤ 63) (hS : SqL K H a (ns.map V.int)) (hq : ∀ H', Q (.bl true) H') : spP K cl 1 fx fn [.ref a] H Q E := by
  obtain ⟨outs, e⟩ := law ns hl
  refine ⟨rfl, H, [.nd false .ro (ns.map .int)], fun _ _ => False, _, outs, fun _ _ q => q, rfl, fun k v d hv hd => ?_, fun _ _ _ q => q.elim, fun _ _ q => q.elim, fun _ _ q => q.elim, e, fun d hr v F' H' Bs' A ow _ => ?_, fun c hr => nomatch hr⟩
  · cases k with
    | zero => cases hv; cases hd; exact .fz (fz_numbers hS) fun _ z => z
    | succ k => cases hv
  · cases hr
    obtain ⟨fz, _⟩ := ow.isF rfl
    cases fz
    exact hq H'
theorem walkD {l : PySem.W.OpenLaw} {k : Nat} {q : Program} {loose : List Str} {XP : (Str → Option Value) → Heap → Prop} {YP : World → Heap → Prop} {d : DefRec} {K : Params → PySem.W.Frag} {fn : Fn} {fx : List Bool} (law : LawD fn) (hn : l.most = some 63) (hdf : d.params.defaults = []) (hr : Room k callerA)
    (hY : ∀ (w : World) (h : Heap), YP w h → (K w.params).In h)
    (F : ∀ (w : World) (mg : Str → Option Value) (fa : Addr) (h : Heap), (K w.params).In h → h.Ns mainGlobals mg → mg d.name = some (.ref fa) →
      ∃ fd : FuncData, (∀ (s : Shared) (u : Value), BindsTo s fd ⟨[u], []⟩ [("script", u)]) ∧ ∃ cl : Nat → Addr, ∀ base : Heap, (K w.params).In base → base.Ns mainGlobals mg → FnOk l.prog w (K w.params) mg base (L2.CX l.prog w) k fa fd ["script"] (spP (K w.params) cl 1 fx fn)) :
    PySem.W.WalkO q loose XP YP l.row.toRowW d [] (fun f vs => PySem.call f vs) :=
  L2.walk_of (n := 63) (k := k) (x := "script") (CX := fun w => L2.CX l.prog w) (sp := fun w vs H Q E => ∃ (a : Addr) (ns : List Int), vs = [.ref a] ∧ SqL (K w.params) H a (ns.map V.int) ∧ ns.length ≤ 63 ∧ ∀ H', Q (.bl true) H') hn (by decide) hdf hr hY
    (fun w mg fa h hK hG hm => by
      obtain ⟨fd, hb, cl, hF⟩ := F w mg fa h hK hG hm
      refine ⟨fd, hb, fun base kb nb => (hF base kb nb).imp fun vs H Q E h => ?_⟩
      obtain ⟨a, ns, rfl, hS, hl, hq⟩ := h
      exact law_sp law hl hS hq)
    (fun _ _ a ns hl _ hS => ⟨a, ns, rfl, hS, hl, fun _ => rfl⟩) fun w H s e s' h => by
      obtain ⟨a, B, H', cls, d, z⟩ := h
      exact z.2.2.2.2.2.2.2
end Pv

/-! PvX -/
set_option Elab.async false
set_option linter.all false
set_option maxRecDepth 100000
set_option maxHeartbeats 1000000
namespace Pv
open PySem L2
/-! ### exceptions -/
section
variable (K : PySem.W.Frag) (cl : Nat → Addr)
/-- the reading that a meaning gives: some state stands, and the meaning's ends are ends -/
def tsem (W : WX) (m : MS) (Z : List Nat) : TS := fun D σ H => ∃ (F : Hp) (ρ : Env) (As : Nat → Ads) (r : Fl) (ρ' : Env), StOk K cl F H σ ρ As ∧ m ρ = some (r, ρ') ∧ Ks K cl W D F H σ As Z r ρ'
end
section
variable {X : Cx} {K : PySem.W.Frag} {cl : Nat → Addr} {W : WX} {m : MS} {Z Z1 Z2 : List Nat} {st : List Stmt} {t : TS}
theorem sem_snd : SndS K cl W (tsem K cl W m Z) m Z := fun σ H D F ρ As r ρ' st e k => ⟨F, ρ, As, r, ρ', st, e, k⟩
theorem MB.sem (h : MB X cl W st t m Z) : PSs X st (tsem X.K cl W m Z) :=
  ⟨fun pins s σ H D I q => h.pe.run pins s σ H D I (let ⟨F, ρ, As, r, ρ', so, e, k⟩ := q; h.sn σ H D F ρ As r ρ' so e k)⟩
/-- an except clause: the classes it takes, the classes it lets through, its suite -/
structure Hd where
  yes : List Nat
  no : List Nat
  m : MS
def hdl : List Hd → Nat → MS
  | [], c, ρ => some (.ex c, ρ)
  | h :: r, c, ρ => if c ∈ h.yes then h.m ρ else if c ∈ h.no then hdl r c ρ else none
def mTry (b : MS) (hs : List Hd) : MS := fun ρ => match b ρ with
  | some (.ex c, ρ1) => hdl hs c ρ1
  | x => x
structure HdOk (K : PySem.W.Frag) (cl : Nat → Addr) (W : WX) (Z : List Nat) (h : Hd) (cv : Value) (Zh : List Nat) : Prop where
  y : ∀ c ∈ h.yes, PySem.W.exmOne K (.ref (cl c)) cv = some true
  n : ∀ c ∈ h.no, PySem.W.exmOne K (.ref (cl c)) cv = some false
  sub : ∀ j ∈ Zh, j ∈ Z
inductive HdsK (K : PySem.W.Frag) (cl : Nat → Addr) (W : WX) (Z : List Nat) : List Hd → List (Value × (Addr → Value → Option Addr → TS)) → Prop
  | nil : HdsK K cl W Z [] []
  | cons {h : Hd} {cv : Value} {Zh : List Nat} {hs : List Hd} {l : List (Value × (Addr → Value → Option Addr → TS))} (o : HdOk K cl W Z h cv Zh) (r : HdsK K cl W Z hs l) : HdsK K cl W Z (h :: hs) ((cv, fun _ _ _ => tsem K cl W h.m Zh) :: l)
theorem hdl_ok {hs : List Hd} {l : List (Value × (Addr → Value → Option Addr → TS))} (h : HdsK K cl W Z2 hs l) {D : Ends} {F H F1 H1 : Hp} {σ σ1 : L2.St} {As As1 : Nat → Ads} {Z : List Nat} {r : Fl} {ρ1 ρ' : Env} {c : Nat}
    (k : Ks K cl W D F H σ As Z r ρ') (x : AftS K cl F H σ As Z1 ρ1 σ1 F1 H1 As1 E0) (z : ∀ j, j ∉ Z → j ∉ Z1 ∧ j ∉ Z2) (e : hdl hs c ρ1 = some (r, ρ')) : wMany K W D l (.ref (cl c)) none σ1 H1 := by
  induction h with
  | nil =>
    cases e
    refine k.ex c rfl σ1 F1 H1 As1 ?_
    exact ⟨x.st, x.ds, x.off, x.stp, fun j hj => x.ag j (z j hj).1, x.ln⟩
  | @cons h cv Zh hs l o rest ih =>
    have e : (if c ∈ h.yes then h.m ρ1 else if c ∈ h.no then hdl hs c ρ1 else none) = some (r, ρ') := e
    by_cases hy : c ∈ h.yes
    · rw [if_pos hy] at e
      refine ⟨true, o.y c hy, fun _ a ha => ⟨F1, ρ1, As1, r, ρ', x.st, e, k.after x fun j hj => ⟨(z j hj).1, fun q => (z j hj).2 (o.sub j q)⟩⟩, fun q => (nomatch q)⟩
    · rw [if_neg hy] at e
      by_cases hn : c ∈ h.no
      · rw [if_pos hn] at e
        exact ⟨false, o.n c hn, fun q => (nomatch q), fun _ => ih e⟩
      · rw [if_neg hn] at e; cases e
theorem ss_try {b : MS} {hs : List Hd} {l : List (Value × (Addr → Value → Option Addr → TS))} (h : HdsK K cl W Z2 hs l) : SndS K cl W (fun D σ H => tsem K cl (wMany K W D l) b Z1 D σ H) (mTry b hs) (Z1 ++ Z2) := by
  intro σ H D F ρ As r ρ' st e k
  have z : ∀ j, j ∉ Z1 ++ Z2 → j ∉ Z1 ∧ j ∉ Z2 := fun j hj => by simpa [not_or] using hj
  have up : ∀ {ρ' σ' F' H' As' A}, AftS K cl F H σ As Z1 ρ' σ' F' H' As' A → AftS K cl F H σ As (Z1 ++ Z2) ρ' σ' F' H' As' A := fun x => ⟨x.st, x.ds, x.off, x.stp, fun j hj => x.ag j (z j hj).1, x.ln⟩
  unfold mTry at e
  cases q : b ρ with
  | none => rw [q] at e; cases e
  | some p =>
    obtain ⟨r1, ρ1⟩ := p
    rw [q] at e
    refine ⟨F, ρ, As, r1, ρ1, st, q, ⟨fun hr σ' F' H' As' x => ?_, fun hr σ' F' H' As' x => ?_, fun hr σ' F' H' As' x => ?_, fun d hr v σ' F' H' As' A o x => ?_, fun c hr σ' F' H' As' x => ?_⟩⟩
    · subst hr; cases e; exact k.nx rfl σ' F' H' As' (up x)
    · subst hr; cases e; exact k.bk rfl σ' F' H' As' (up x)
    · subst hr; cases e; exact k.ct rfl σ' F' H' As' (up x)
    · subst hr; cases e; exact k.rt d rfl v σ' F' H' As' A o (up x)
    · subst hr; exact hdl_ok h k x z e
end
section
variable {X : Cx} {cl : Nat → Addr} {W : WX} {m : MS} {Z Z1 Z2 : List Nat}
/-- the clauses, with their readings -/
inductive HdsM (X : Cx) (cl : Nat → Addr) (W : WX) (Z : List Nat) : List ExceptHandler → List Hd → List (Value × (Addr → Value → Option Addr → TS)) → Prop
  | nil : HdsM X cl W Z [] [] []
  | cons {x : Str} {cv : Value} {b₀ : Stmt} {suite : List Stmt} {np pos' : Pos} {hds : List ExceptHandler} {h : Hd} {Zh : List Nat} {hs : List Hd} {l : List (Value × (Addr → Value → Option Addr → TS))} (hc : Names X x cv)
      (o : HdOk X.K cl W Z h cv Zh) (hsu : ∀ (a : Addr) (oe : Obj) (pn : List (Addr × Obj)), ∃ t, MB (X.suite a ((a, oe) :: pn)) cl W (b₀ :: suite) t h.m Zh) (r : HdsM X cl W Z hds hs l) :
      HdsM X cl W Z (.ExceptHandler (some (.Name x np)) none (b₀ :: suite) pos' :: hds) (h :: hs) ((cv, fun _ _ _ => tsem X.K cl W h.m Zh) :: l)
theorem HdsM.ok {hds : List ExceptHandler} {hs : List Hd} {l : List (Value × (Addr → Value → Option Addr → TS))} (h : HdsM X cl W Z hds hs l) : HdsOk X hds l ∧ HdsK X.K cl W Z hs l := by
  induction h with
  | nil => exact ⟨.nil, .nil⟩
  | cons hc o hsu r ih =>
    refine ⟨.cons hc (fun a oe cls d pn _ _ => ?_) ih.1, .cons o ih.2⟩
    obtain ⟨t, hb⟩ := hsu a oe pn
    exact hb.sem
theorem x_try {body : List Stmt} {h₀ : ExceptHandler} {hds : List ExceptHandler} {hs : List Hd} {l : List (Value × (Addr → Value → Option Addr → TS))} {pos : Pos} (st : X.stack = X.env :: X.outer) (hf : X.env.frame = some X.env.locals) (tk : Takes X W)
    (hb : ∀ (W' : WX) (pn : List (Addr × Obj)) (xe : Value → Shared → Prop), Takes (X.tr pn xe) W' → PassesOwn (model X.prog X.w) X.A X.env xe → ∃ t, MB (X.tr pn xe) cl W' body t m Z1)
    (hh : HdsM X cl W Z2 (h₀ :: hds) hs l) : MSt X cl W (.Try body (h₀ :: hds) [] [] pos) (fun D σ H => tsem X.K cl (wMany X.K W D l) m Z1 D σ H) (mTry m hs) (Z1 ++ Z2) := by
  refine ⟨ps_try_many (tb := fun W' => tsem X.K cl W' m Z1) st hf tk (fun W' pn xe tk' po => ?_) hh.ok.1, ss_try hh.ok.2⟩
  obtain ⟨t, h⟩ := hb W' pn xe tk' po
  exact h.sem
/-- a class of exceptions of the text, without a method of its own -/
structure ExcK (K : PySem.W.Frag) (mg : Str → Option Value) (x : Str) (C : Addr) (bmB : List Value) (newId : String) : Prop where
  q : PySem.W.excIn K C bmB newId = true
  g : mg x = some (.ref C)
  k : PySem.W.keepIn K (.ref C) = true
  s1 : PySem.W.subIn K (.ref C) (.type "BaseException") = some true
  s2 : PySem.W.typeIn K (.ref C) = some (.type "type")
theorem x_raise {x mm : Str} {j c : Nat} {p p2 pos pos' : Pos} {C : Addr} {bmB : List Value} {B newId initId : String} (F : ExcBaseFacts B newId initId bmB) (E : ExcK X.K X.mg x C bmB newId) (hC : cl c = C) (hc : X.calm = true) (tk : Takes X W) (hg : Gl X x) (hdb : (x == ("__debug__" : Str)) = false := by decide) :
    MSt X cl W (.Raise (some (.Call (.Name x p) [.Constant (.str mm) j p2] [] pos)) none pos') (fun _ σ H => W (.ref C) none σ H) (fun ρ => some (.ex c, ρ)) [] := by
  refine ⟨ps_raise hc tk (pmk_own F E.q E.g E.k (raises_own E.s1 E.s2) hg hdb), fun σ H D F ρ As r ρ' st e k => ?_⟩
  cases e
  have := k.ex c rfl σ F H As (.refl st)
  rwa [hC] at this
end
end Pv

/-! PvY -/
set_option Elab.async false
set_option linter.all false
set_option maxRecDepth 100000
set_option maxHeartbeats 1000000
namespace Pv
open PySem L2
/-! ### more of what is built in -/
section
variable {X : Cx} {K : PySem.W.Frag} {cl : Nat → Addr} {W : WX} {T T1 T2 : List Nat} {a b e : Expr} {ta tb te : TE} {ma mb : M D} {mp : M PR} {R : Nat} {pos p2 : Pos}
/-- is True, is False -/
def rIs1 : R2 := fun x y H Q => ∃ k, y = .bl k ∧ flatV x = true ∧ Q (.bl (decide (x = .bl k))) H
def rIs1R : R2 := fun x y H Q => ∃ k p, y = .bl k ∧ x = .ref p ∧ Q (.bl false) H
theorem op_is1 : OpR X (compareOp .Is) rIs1 := by
  intro pins s σ H x y v u Q I rx ry h
  obtain ⟨k, rfl, f, q⟩ := h
  cases (show u = Value.bool k from ry)
  cases x with
  | non =>
    cases (show v = Value.none from rx)
    exact wpAny_is_other rfl (fun z => by cases z) ⟨.bl false, H, I, rfl, by simpa using q⟩
  | bl c =>
    cases (show v = Value.bool c from rx)
    by_cases e : c = k
    · subst e; exact wpAny_is_self rfl ⟨.bl true, H, I, rfl, by simpa using q⟩
    · exact wpAny_is_other rfl (fun z => e (Value.bool.inj z)) ⟨.bl false, H, I, rfl, by simpa [e] using q⟩
  | int i =>
    obtain ⟨t, rfl⟩ := rx
    exact wpAny_is_other rfl (fun z => by cases z) ⟨.bl false, H, I, rfl, by simpa using q⟩
  | str i =>
    obtain ⟨t, rfl⟩ := rx
    exact wpAny_is_other rfl (fun z => by cases z) ⟨.bl false, H, I, rfl, by simpa using q⟩
  | _ => cases f
theorem op_is1R : OpR X (compareOp .Is) rIs1R := by
  intro pins s σ H x y v u Q I rx ry h
  obtain ⟨k, p, rfl, rfl, q⟩ := h
  cases (show u = Value.bool k from ry)
  cases (show v = Value.ref p from rx)
  exact wpAny_is_other rfl (fun z => by cases z) ⟨.bl false, H, I, rfl, q⟩
def isBlD (k : Bool) : D → Bool
  | .bl c => c == k
  | _ => false
def fIsB (k : Bool) : D → Option D := fun d => some (.bl (isBlD k d))
theorem pk_isB {k : Bool} : PkS K cl (fun x H Q => (rIs1 x (.bl k) H Q ∨ rIs1R x (.bl k) H Q)) (fIsB k) := fun F H x dx d Q s h e q => by
  cases e
  rcases h with h | ⟨a, kd, vs, xs, rfl, rfl, _⟩
  · cases h with
    | non => exact .inl ⟨k, rfl, rfl, q _ _ _ _ (New.flat s (.bl _))⟩
    | bl c => exact .inl ⟨k, rfl, rfl, by have := q _ _ _ _ (New.flat s (.bl (isBlD k (.bl c)))); rwa [show isBlD k (.bl c) = decide (V.bl c = V.bl k) by simp [isBlD]; rfl] at this⟩
    | int c => exact .inl ⟨k, rfl, rfl, q _ _ _ _ (New.flat s (.bl _))⟩
    | str c => exact .inl ⟨k, rfl, rfl, q _ _ _ _ (New.flat s (.bl _))⟩
    | nd _ _ _ => exact .inr ⟨k, _, rfl, rfl, q _ _ _ _ (New.flat s (.bl _))⟩
  · exact .inr ⟨k, _, rfl, rfl, q _ _ _ _ (New.flat s (.bl _))⟩
theorem m_isB {k : Bool} {j : Nat} (ha : MP X cl W R a ta mp T) : ME X cl W (.Compare a [.Is] [.Constant (.bool k) j p2] pos) (tOp (fun x y H Q => rIs1 x y H Q ∨ rIs1R x y H Q) ta (tC (.bl k))) (mPk (fIsB k) mp) T :=
  ⟨pe_cmpR (op_is1.or op_is1R) ha.pe pe_bl (nomark _), s_pk (t := ta) (r := fun x H Q => (rIs1 x (.bl k) H Q ∨ rIs1R x (.bl k) H Q)) ha.sn pk_isB⟩
theorem t_isB {k : Bool} {j : Nat} (ha : MP X cl W R a ta mp T) : MT X cl W (.Compare a [.Is] [.Constant (.bool k) j p2] pos) (tTest (tOp (fun x y H Q => rIs1 x y H Q ∨ rIs1R x y H Q) ta (tC (.bl k)))) (mTest (mPk (fIsB k) mp)) T :=
  ⟨pt_cmpR (op_is1.or op_is1R) ha.pe pe_bl (nomark _), st_val (s_pk (t := ta) (r := fun x H Q => (rIs1 x (.bl k) H Q ∨ rIs1R x (.bl k) H Q)) ha.sn pk_isB)⟩
/-! in a list, a tuple -/
def toVL : List D → Option (List V)
  | [] => some []
  | x :: xs => match toV x, toVL xs with
    | some v, some vs => some (v :: vs)
    | _, _ => none
def fInL (n : Bool) : D → D → Option D := fun y x => match x with
  | .nd _ k xs => if isSeq k = true then (match toV y, toVL xs with
    | some v, some vs => some (.bl (if n then !inV v vs else inV v vs))
    | _, _ => none) else none
  | _ => none
theorem toV_flat {d : D} {v : V} (e : toV d = some v) : flatV v = true ∧ isF d = true := by
  cases d <;> cases e <;> exact ⟨rfl, rfl⟩
theorem toVL_ok {F : Hp} : ∀ {xs : List D} {vs ws : List V}, FzL K cl F vs xs → toVL xs = some ws → vs = ws ∧ ws.all flatV = true
  | [], _, _, .nil, e => by cases e; exact ⟨rfl, rfl⟩
  | x :: xs, _, _, .cons h t, e => by
    have e : (match toV x, toVL xs with | some v, some vs => some (v :: vs) | _, _ => none) = some _ := e
    split at e
    · rename_i v us e1 e2
      cases e
      obtain ⟨rfl, f⟩ := toVL_ok t e2
      exact ⟨by rw [toV_ok h e1], by simp [f, (toV_flat e1).1]⟩
    · cases e
theorem toVL_all : ∀ {xs : List D} {ws : List V}, toVL xs = some ws → allF xs = true
  | [], _, _ => rfl
  | x :: xs, _, e => by
    have e : (match toV x, toVL xs with | some v, some vs => some (v :: vs) | _, _ => none) = some _ := e
    split at e
    · rename_i v us e1 e2
      have h1 : isF x = true := (toV_flat e1).2
      have h2 : allF xs = true := toVL_all e2
      unfold allF at h2 ⊢
      simp [h1]
      simpa using h2
    · cases e
theorem pk_inL (n : Bool) : Pk2 K cl (fun y x H Q => rIn K n y x H Q) (fInL n) := fun F H y x dy dx d Q s hy h e k => by
  unfold fInL at e; split at e
  · rename_i o kd xs
    split at e
    · rename_i hs
      split at e
      · rename_i v ws e1 e2
        cases e
        obtain ⟨a, vs, rfl, h1, h2⟩ := h.kids s (toVL_all e2)
        obtain ⟨rfl, f⟩ := toVL_ok h2 e2
        rw [toV_ok hy e1]
        exact ⟨a, vs, rfl, h1.seq hs, (toV_flat e1).1, f, k _ _ _ _ (New.flat s (.bl _))⟩
      · cases e
    · cases e
  · cases e
theorem m_inL (hb : ME X cl W b tb mb T1) (ha : MP X cl W R a ta mp T2) (h1 : behindInMarks .In a = false := by rfl) : ME X cl W (.Compare b [.In] [a] pos) (tOp (rIn X.K false) tb ta) (mPk2 (fInL false) mb mp) (T1 ++ T2) :=
  ⟨pe_cmpR op_in_seq hb.pe ha.pe h1, s_pk2 (ty := tb) (t := ta) (r := fun y x H Q => rIn X.K false y x H Q) hb.sn ha.sn (pk_inL false)⟩
theorem t_inL (hb : ME X cl W b tb mb T1) (ha : MP X cl W R a ta mp T2) (h1 : behindInMarks .In a = false := by rfl) : MT X cl W (.Compare b [.In] [a] pos) (tTest (tOp (rIn X.K false) tb ta)) (mTest (mPk2 (fInL false) mb mp)) (T1 ++ T2) :=
  ⟨pt_cmpR op_in_seq hb.pe ha.pe h1, st_val (s_pk2 (ty := tb) (t := ta) (r := fun y x H Q => rIn X.K false y x H Q) hb.sn ha.sn (pk_inL false))⟩
/-! list or tuple, walked -/
def anyOf (d : D) : Option (List D) := match seqOf d with
  | some xs => some xs
  | none => tupOf d
theorem pi_or {tg it : Expr} {t1 t2 : TI} (h1 : PI X tg it t1) (h2 : PI X tg it t2) : PI X tg it (fun σ H R => t1 σ H R ∨ t2 σ H R) :=
  ⟨fun pins s σ H R I h => h.elim (h1.run pins s σ H R I) (h2.run pins s σ H R I)⟩
theorem si_any {t : TE} {m : M D} (h : Snd K cl W (RE K cl) t m T) : SndI K cl W (fun σ H R => iList K t σ H R ∨ iTup K t σ H R) (mSeq1 anyOf m) T := by
  intro σ H R F ρ As r ρ' st e hq hx
  cases q : m ρ with
  | none => rw [show mSeq1 anyOf m ρ = none by unfold mSeq1 M.bind; rw [q]] at e; cases e
  | some p =>
    obtain ⟨rs, ρ1⟩ := p
    cases rs with
    | ex c =>
      refine .inl (si_list h σ H R F ρ As r ρ' st ?_ hq hx)
      unfold mSeq1 M.bind at e ⊢
      rw [q] at e ⊢
      exact e
    | ok d =>
      cases qs : seqOf (frz d) with
      | some xs =>
        refine .inl (si_list h σ H R F ρ As r ρ' st ?_ hq hx)
        unfold mSeq1 M.bind at e ⊢
        rw [q] at e ⊢
        dsimp only at e ⊢
        unfold anyOf at e
        rw [qs] at e ⊢
        exact e
      | none =>
        refine .inr (si_tup h σ H R F ρ As r ρ' st ?_ hq hx)
        unfold mSeq1 M.bind at e ⊢
        rw [q] at e ⊢
        dsimp only at e ⊢
        unfold anyOf at e
        rw [qs] at e
        exact e
theorem i_any {tg : Expr} (h : ME X cl W e te ma T) : MI X cl W tg e (fun σ H R => iList X.K te σ H R ∨ iTup X.K te σ H R) (mSeq1 anyOf ma) T := ⟨pi_or (pi_list h.pe) (pi_tup h.pe), si_any h.sn⟩
end
end Pv

/-! PvZ -/
set_option Elab.async false
set_option linter.all false
set_option maxRecDepth 100000
set_option maxHeartbeats 1000000
namespace Pv
open PySem L2
section
variable {X : Cx} {K : PySem.W.Frag} {cl : Nat → Addr} {W : WX} {T T1 T2 S : List Nat} {a b e : Expr} {ta tb te : TE} {ma mb : M D} {ms : M PR} {R : Nat} {pos apos p2 : Pos}
/-! xs.reverse() -/
def mRevM (R : Nat) (ma : M PR) : M D := ma.bind fun a => fun ρ => match a, ρ[R]? with
  | .pl p (.nd true .lst xs), some (some dr) => some (.ok .non, ρ.set R (some (putD p (.nd true .lst xs.reverse) dr)))
  | _, _ => none
theorem s_revM {R : Nat} {ta : TE} {ma : M PR} (ha : Snd K cl W (RP K cl R) ta ma T1) : Snd K cl W (RE K cl) (tBM0 K "list" rReverse ta) (mRevM R ma) (T1 ++ [R]) := by
  intro σ H Q F ρ As r' ρ' st e hq hx
  refine ha.thn st e (fun a ρ1 y F1 H1 As1 A1 u e1 => ?_) hx
  cases a with
  | vl d => cases e1
  | pl p d =>
    obtain ⟨ad, kd, xs, vs, B, vr, dr, rfl, rfl, h1, h2, h3, ob, l, c, dj, lt, sb, na, aR, upd'⟩ := RP.node u.st u.rel
    rw [h2] at e1
    cases kd with
    | lst =>
      cases e1
      obtain ⟨c', dj', lt', sb'⟩ := kids_map (xs' := xs.reverse) (vs' := vs.reverse) (fun i => xs.length - 1 - i) c dj (fun i j hi hj q => by simp at hi hj q; omega) (fun i hi => by
        rw [List.length_reverse] at hi
        rw [List.getElem?_reverse (by omega), l]) (fun i hi => by
        rw [List.length_reverse] at hi
        rw [List.getElem?_reverse hi])
      obtain ⟨As', st', stp', oth, out⟩ := upd' (fun _ => False) (.lst vs.reverse) .lst vs.reverse xs.reverse _ (fun _ _ _ z => z) (fun _ z => z.elim) upd_same (by simp [l]) c' dj' lt' sb'
      refine ⟨.inl ⟨rfl, vs, SqL.of ob⟩, ad, vs, rfl, rfl, ob, hq .non rfl .non F1 _ As' E0 ⟨st', .fz .non fun _ z => z, fun _ _ _ z => z, fun _ z => z.elim, ?_, ?_⟩⟩
      · refine u.stp.trans (O1' := fun c => U As1 c ∨ False) (O2 := U As') stp' (fun c q => .inl (.inl (q.elim id False.elim))) fun c q => q.elim .inl False.elim
      · exact u.kp.trans (Keeps.root aR u.st.dj oth) fun j hj => by simpa [not_or] using hj
    | _ => cases e1
theorem m_revM (ha : MP X cl W R a ta ms T1) (hbase : attributeBase a "reverse" X.env (eval a X.env) = eval a X.env := by rfl) (hline : (apos.endLine == pos.line) = true := by rfl) :
    ME X cl W (.Call (.Attribute a "reverse" apos) [] [] pos) (tBM0 X.K "list" rReverse ta) (mRevM R ms) (T1 ++ [R]) := ⟨pe_bm0 PySem.F.plainAttrs_list PySem.F.slot_list_reverse PySem.F.type_list_reverse mt_reverse ha.pe hbase hline, s_revM ha.sn⟩
/-! a list's, a tuple's truth -/
def truD : D → Option Bool
  | .nd _ k xs => if isSeq k = true then some (!xs.isEmpty) else none
  | .non => some false
  | .bl b => some b
  | .int i => some (i != 0)
  | _ => none
def mTru (ma : M PR) : M Bool := ma.bind fun a => M.lift (truD a.tree)
theorem tru_view {F H : Hp} {x : V} {d : D} {k : Bool} (s : Same F H) (h : View K cl F H x d) (e : truD d = some k) : TruV K x H k := by
  cases d with
  | nd o kd xs =>
    have e : (if isSeq kd = true then some (!xs.isEmpty) else none) = some k := e
    split at e
    · rename_i hs
      cases e
      obtain ⟨a, vs, rfl, h1, l, _⟩ := h.obj s
      have le : vs.isEmpty = xs.isEmpty := by
        cases vs <;> cases xs <;> first | rfl | cases l
      rcases h1.seq hs with q | q
      · exact .inl ⟨vs, q, by rw [le]⟩
      · exact .inr (.inl ⟨vs, q, by rw [le]⟩)
    · cases e
  | non => cases h.flat rfl; cases e; rfl
  | bl b => cases h.flat rfl; cases e; rfl
  | int b => cases h.flat rfl; cases e; rfl
  | str b => cases e
theorem s_tru {ta : TE} {ma : M PR} (ha : Snd K cl W (RP K cl R) ta ma T) : Snd K cl W RT (fun σ H Q => ta σ H fun x H' => ∃ k, TruV K x H' k ∧ Q k H') (mTru ma) T := by
  intro σ H Q F ρ As r' ρ' st e hq hx
  refine ha.thn st e (fun a ρ1 y F1 H1 As1 A1 u e1 => ?_) hx
  obtain ⟨k, ek, rfl, rfl⟩ := M.lift_some e1
  exact ⟨k, tru_view u.st.sub (u.rel.view u.st) ek, hq k rfl k F1 H1 As1 A1 ⟨u.st, ⟨rfl, u.rel.1⟩, u.ds, u.off, u.stp, u.kp⟩⟩
theorem t_tru (ha : MP X cl W R a ta ms T) (he : ∀ whole, isTrue a X.env whole = (do let v ← whole; standAt a.pos; holding [v] (truthy v)) := by intro _; rfl) : MT X cl W a (fun σ H Q => ta σ H fun x H' => ∃ k, TruV X.K x H' k ∧ Q k H') (mTru ms) T :=
  ⟨pt_truth ha.pe he, s_tru ha.sn⟩
end
/-! f(k = v, ..) -/
section
variable {X : Cx} {CX : CXT} {k : Nat} {f : Addr} {fd : FuncData} {ps ks : List Str} {sp : Sp} {E : XK} {x : Str} {p pos : Pos} {kws : List Keyword} {tk : TA} {g : List Value → List Value → List Value} {gV : List V → List V → List V}
theorem pe_callKw (F : FnOk X.prog X.w X.K X.mg X.base CX k f fd ps sp) (hr : Room k X.A) (hg : Gl X x) (hm : X.mg x = some (.ref f)) (hk : PySem.W.keepIn X.K (.ref f) = true) (hb : KBinds X.K fd ps ks g gV) (hx : Passes CX X E) (hkw : PK X kws tk)
    (hall : (backToKw pos (keywordEach kws X.env)).all (·.1.isSome) = true) (hks : (backToKw pos (keywordEach kws X.env)).filterMap (·.1) = ks) (hdb : (x == ("__debug__" : Str)) = false)
    (hpl : ((backTo pos (starEach [] X.env)).any (·.1) || (backToKw pos (keywordEach kws X.env)).any (·.1.isNone)) = false) : PE X (.Call (.Name x p) [] kws pos) (fun σ H Q => tk σ H fun zs H2 => sp (gV [] zs) H2 Q E) := by
  constructor
  intro pins s σ H Q I h
  refine wpAny_Call_Name_kw (ld_glob I hg hm (PySem.W.callWith_KW0 (h₀ := X.base) I.ok.mod.kin hk hall ?_ hpl) hdb)
  refine thn (hkw.run pos pins s σ H _ I h) fun ws s2 hh => ?_
  obtain ⟨zs, H2, I2, rz, q2⟩ := hh
  exact ⟨I2.kIn, by rw [hks]; exact run_fnk (us := []) (vs := []) F hr hb hx I2 .nil rz q2⟩
end
def pmId (α : Type) (xs : List α) : List α := xs
def pmSw (α : Type) : List α → List α
  | [a, b] => [b, a]
  | xs => xs
theorem pmSw_len (as : List Arg) : (pmSw Arg as).length = as.length := by
  match as with
  | [] => rfl
  | [_] => rfl
  | [_, _] => rfl
  | _ :: _ :: _ :: _ => rfl
/-- the order of keywords, carried to arguments -/
def PmOk (pm : ∀ α : Type, List α → List α) : Prop := ∀ (K : PySem.W.Frag) (cl : Nat → Addr) (F H : Hp) (σ : L2.St) (S : List Nat) (as : List Arg) (vs : List V) (A : Ads), ArgsOk K cl F H σ S as vs A → ArgsOk K cl F H σ S (pm Arg as) (pm V vs) A
theorem pm_id : PmOk pmId := fun K cl F H σ S as vs A h => h
theorem ArgsOk.iff {K : PySem.W.Frag} {cl : Nat → Addr} {F H : Hp} {σ : L2.St} {S : List Nat} {as : List Arg} {vs : List V} {A A' : Ads} (h : ArgsOk K cl F H σ S as vs A) (e : ∀ a, A' a ↔ A a) : ArgsOk K cl F H σ S as vs A' := by
  induction h generalizing A' with
  | nil n => exact .nil fun a q => n a ((e a).mp q)
  | tmp o t n e2 ih => exact .tmp o t n fun a => (e a).trans (e2 a)
  | sl g m t ih => exact .sl g m (ih e)
theorem pm_sw : PmOk pmSw := fun K cl F H σ S as vs A h => by
  cases h with
  | nil n => exact .nil n
  | tmp o t n e =>
    cases t with
    | nil n2 => exact .tmp o (.nil n2) n e
    | tmp o2 t2 n2 e2 =>
      cases t2 with
      | nil n3 =>
        refine .tmp o2 (.tmp o (.nil (A := fun _ => False) fun _ z => z) (fun _ _ z => z) (fun a => (or_false _).symm.to_iff)) (fun a q q' => ?_) fun a => ?_
        · exact n a q' ((e2 a).mpr (.inl q))
        · refine (e a).trans ⟨fun q => q.elim .inr fun q => ((e2 a).mp q).elim .inl fun q => (n3 a q).elim, fun q => q.elim (fun q => .inr ((e2 a).mpr (.inl q))) .inl⟩
      | tmp o3 t3 n3 e3 => exact .tmp o (.tmp o2 (.tmp o3 t3 n3 e3) n2 e2) n e
      | sl g3 m3 t3 => exact .tmp o (.tmp o2 (.sl g3 m3 t3) n2 e2) n e
    | sl g m t2 =>
      cases t2 with
      | nil n3 => exact .sl g m (.tmp o (.nil n3) n e)
      | tmp o3 t3 n3 e3 => exact .tmp o (.sl g m (.tmp o3 t3 n3 e3)) n e
      | sl g3 m3 t3 => exact .tmp o (.sl g m (.sl g3 m3 t3)) n e
  | sl g m t =>
    cases t with
    | nil n2 => exact .sl g m (.nil n2)
    | tmp o2 t2 n2 e2 =>
      cases t2 with
      | nil n3 => exact .tmp o2 (.sl g m (.nil n3)) n2 e2
      | tmp o3 t3 n3 e3 => exact .sl g m (.tmp o2 (.tmp o3 t3 n3 e3) n2 e2)
      | sl g3 m3 t3 => exact .sl g m (.tmp o2 (.sl g3 m3 t3) n2 e2)
    | sl g2 m2 t2 =>
      cases t2 with
      | nil n3 => exact .sl g2 m2 (.sl g m (.nil n3))
      | tmp o3 t3 n3 e3 => exact .sl g m (.sl g2 m2 (.tmp o3 t3 n3 e3))
      | sl g3 m3 t3 => exact .sl g m (.sl g2 m2 (.sl g3 m3 t3))
section
variable {X : Cx} {K : PySem.W.Frag} {cl : Nat → Addr} {W : WX} {T T1 T2 S : List Nat} {kws : List Keyword} {tk tr : TA} {mr : M (List Arg)} {n k j np : Nat} {x : Str} {p pos kpos : Pos} {e : Expr} {te : TE} {me : M D} {fx : List Bool} {fn : Fn} {ps ks : List Str} {nm : Option Str}
structure MK (X : Cx) (cl : Nat → Addr) (W : WX) (kws : List Keyword) (n : Nat) (t : TA) (m : M (List Arg)) (S T : List Nat) : Prop where
  pe : PK X kws t
  sn : Snd X.K cl W (RA X.K cl S) t m T
  ln : ∀ ρ as ρ', m ρ = some (.ok as, ρ') → as.length = n
theorem kw_nil : MK X cl W [] 0 tNil mNil [] [] := ⟨pk_nil, s_nil, mNil_len⟩
theorem kw_cons (ha : ME X cl W e te me T1) (hr : MK X cl W kws n tr mr S T2) : MK X cl W (⟨nm, e, kpos⟩ :: kws) (n + 1) (tCons te tr) (mCons me mr) S (T1 ++ T2) := ⟨pk_cons ha.pe hr.pe, s_cons ha.sn hr.sn, mCons_len hr.ln⟩
theorem kw_sl (i : Nat) {x : Str} {pos : Pos} (hr : MK X cl W kws n tr mr S T) (hN : X.N[i]? = some x := by rfl) (hv : Vis X.env.scope x := by first | exact Or.inl rfl | exact Or.inr (Or.inl rfl) | exact Or.inr (Or.inr rfl)) (hd : (x == ("__debug__" : Str)) = false := by decide)
    (hcd : (x == ("__classdict__" : Str)) = false := by decide) : MK X cl W (⟨nm, .Name x pos, kpos⟩ :: kws) (n + 1) (tCons (tVar i) tr) (mConsS i mr) (i :: S) T := ⟨pk_cons (pe_var hN hv hd hcd) hr.pe, s_consS hr.sn, mConsS_len hr.ln⟩
def mPm (pm : ∀ α : Type, List α → List α) (m : M (List Arg)) : M (List Arg) := m.bind fun as => M.ret (pm Arg as)
theorem s_pm {pm : ∀ α : Type, List α → List α} (hp : PmOk pm) {t : TA} {m : M (List Arg)} (h : Snd K cl W (RA K cl S) t m T) : Snd K cl W (RA K cl S) (fun σ H Q => t σ H fun zs H2 => Q (pm V zs) H2) (mPm pm m) T := by
  intro σ H Q F ρ As r ρ' st e hq hx
  refine h.thn st e (fun as ρ1 vs F1 H1 As1 A1 x e1 => ?_) hx
  obtain ⟨rfl, rfl⟩ := M.ret_some e1
  exact hq _ rfl _ F1 H1 As1 A1 ⟨x.st, hp _ _ _ _ _ _ _ _ _ x.rel, x.ds, x.off, x.stp, x.kp⟩
structure FnK (P : Program) (w : World) (K : PySem.W.Frag) (mg : Str → Option Value) (base : Heap) (x : Str) (k : Nat) (ps ks : List Str) (sp : Sp) (pm : ∀ α : Type, List α → List α) : Prop where
  ex : ∃ (f : Addr) (fd : FuncData) (g : List Value → List Value → List Value) (gV : List V → List V → List V), FnOk P w K mg base (L2.CX P w) k f fd ps sp ∧ mg x = some (.ref f) ∧ PySem.W.keepIn K (.ref f) = true ∧ KBinds K fd ps ks g gV ∧ ∀ zs, gV [] zs = pm V zs
theorem m_callK {E : XK} {pm : ∀ α : Type, List α → List α} (hp : PmOk pm) (G : FnK X.prog X.w X.K X.mg X.base x j ps ks (spP X.K cl n fx fn) pm) (hE : flatW W E) (tk : Takes X W) (hr : Room k X.A) (hj : j ≤ k) (hg : Gl X x) (ha : MK X cl W kws n tr mr S T) (hpl : ∀ as, (pm Arg as).length = as.length)
    (hall : (backToKw pos (keywordEach kws X.env)).all (·.1.isSome) = true := by rfl) (hks : (backToKw pos (keywordEach kws X.env)).filterMap (·.1) = ks := by rfl) (hdb : (x == ("__debug__" : Str)) = false := by decide)
    (hpl2 : ((backTo pos (starEach [] X.env)).any (·.1) || (backToKw pos (keywordEach kws X.env)).any (·.1.isNone)) = false := by rfl) :
    ME X cl W (.Call (.Name x p) [] kws pos) (tCallS (spP X.K cl n fx fn) (fun _ => E) fun σ H Q => tr σ H fun zs H2 => Q (pm V zs) H2) (mCall fx fn (mPm pm mr)) (T ++ S) := by
  obtain ⟨f, fd, g, gV, F, mg, kp, b, eg⟩ := G.ex
  refine ⟨?_, s_callS (fun σ c H h => (hE _ _ _ _).mp h) (s_pm hp ha.sn) fun ρ as ρ' h => ?_⟩
  · have := pe_callKw (p := p) F (hr.mono hj) hg mg kp b (passes_call tk fun c d σ H h => (hE c d σ H).mpr h) ha.pe hall hks hdb hpl2
    simp only [eg] at this
    exact this
  · rcases M.bind_some h with ⟨as', ρ1, e1, e2⟩ | ⟨c, _, e2⟩
    · obtain ⟨e3, rfl⟩ := M.ret_some e2
      cases e3
      rw [hpl]; exact ha.ln _ _ _ e1
    · cases e2
/-! list(range(n)), not in a list -/
variable {a b : Expr} {ta tb : TE} {ma mb : M D} {mp : M PR} {R : Nat} {p0 p1 : Pos}
def fLRg : D → Option D
  | .int n => if n ≤ 16777216 ∧ 0 ≤ n then some (.own (rangeL 0 n.toNat)) else none
  | _ => none
theorem fz_range {F : Hp} (l : List Nat) : FzL K cl F (l.map fun i => V.int (0 + (i : Nat))) (l.map fun i => D.int (0 + (i : Nat))) := by
  induction l with
  | nil => exact .nil
  | cons x l ih => exact .cons (.int _) ih
theorem pr_lRg : Pr1 K cl (fun x H Q => ∃ n, x = .int n ∧ RgOk 0 n ∧ ∀ q, H q = none → Q (.ref q) (upd H q (.lst (rgV 0 n)))) fLRg := fun F H x dx d Q s h e k => by
  unfold fLRg at e; split at e
  · rename_i n
    split at e
    · rename_i hn
      cases e
      cases h
      refine ⟨n, rfl, RgOk.of_le (by omega) hn.1 (by omega) hn.2, fun q hq => ?_⟩
      have z : FzL K cl F (rgV 0 n) (rangeL 0 n.toNat) := by
        unfold rgV rangeL
        rw [Int.sub_zero]
        exact fz_range _
      exact k _ _ _ _ (new_lst s hq z)
    · cases e
  · cases e
theorem m_listRg (hc : X.calm = true) (hgl : Gl X "list") (hml : X.mg "list" = none) (hgr : Gl X "range") (hmr : X.mg "range" = none) (ha : ME X cl W a ta ma T) (na : starEach [a] X.env = (false, eval a X.env) :: starEach [] X.env := by rfl) (nb : starEach [.Call (.Name "range" p0) [a] [] p1] X.env = (false, eval (.Call (.Name "range" p0) [a] [] p1) X.env) :: starEach [] X.env := by rfl) :
    ME X cl W (.Call (.Name "list" p) [.Call (.Name "range" p0) [a] [] p1] [] pos) (tLstRg (tRg1 ta)) (mUn fLRg ma) T :=
  ⟨pe_listRg hc hgl hml (prg_1 hgr hmr ha.pe na) nb, fun σ H Q F ρ As r ρ' st e hq hx => by
    have := s_un (t := ta) (r := fun x H Q => ∃ n, x = .int n ∧ RgOk 0 n ∧ ∀ q, H q = none → Q (.ref q) (upd H q (.lst (rgV 0 n)))) ha.sn pr_lRg σ H Q F ρ As r ρ' st e hq hx
    exact this⟩
theorem m_notInL (hb : ME X cl W b tb mb T1) (ha : MP X cl W R a ta mp T2) (h1 : behindInMarks .NotIn a = false := by rfl) : ME X cl W (.Compare b [.NotIn] [a] pos) (tOp (rIn X.K true) tb ta) (mPk2 (fInL true) mb mp) (T1 ++ T2) :=
  ⟨pe_cmpR op_notIn_seq hb.pe ha.pe h1, s_pk2 (ty := tb) (t := ta) (r := fun y x H Q => rIn X.K true y x H Q) hb.sn ha.sn (pk_inL true)⟩
theorem t_notInL (hb : ME X cl W b tb mb T1) (ha : MP X cl W R a ta mp T2) (h1 : behindInMarks .NotIn a = false := by rfl) : MT X cl W (.Compare b [.NotIn] [a] pos) (tTest (tOp (rIn X.K true) tb ta)) (mTest (mPk2 (fInL true) mb mp)) (T1 ++ T2) :=
  ⟨pt_cmpR op_notIn_seq hb.pe ha.pe h1, st_val (s_pk2 (ty := tb) (t := ta) (r := fun y x H Q => rIn X.K true y x H Q) hb.sn ha.sn (pk_inL true))⟩
theorem all_nil {P : Nat → Prop} : ∀ c ∈ ([] : List Nat), P c := fun c h => (nomatch h)
theorem all_cons {P : Nat → Prop} {a : Nat} {l : List Nat} (h : P a) (t : ∀ c ∈ l, P c) : ∀ c ∈ a :: l, P c := fun c hc => (List.mem_cons.mp hc).elim (fun e => e ▸ h) (t c)
end
/-- what an except clause names -/
theorem exm_of {K : PySem.W.Frag} {A B : Addr} {t : Bool} (h1 : PySem.W.subIn K (.ref B) (.type "BaseException") = some true) (h2 : PySem.W.isClsIn K B = true) (h3 : PySem.W.typeIn K (.ref B) = some (.type "type")) (h4 : PySem.W.subIn K (.ref A) (.ref B) = some t) :
    PySem.W.exmOne K (.ref A) (.ref B) = some t := by
  unfold PySem.W.exmOne
  rw [if_pos (by rw [h1]; rfl)]
  have h5 : (PySem.W.clsIn K B).isSome = true := h2
  show (if ((PySem.W.clsIn K B).isSome && PySem.W.typeIn K (.ref B) == some (.type "type")) = true then PySem.W.subIn K (.ref A) (.ref B) else none) = some t
  rw [if_pos (by rw [h5, h3]; rfl)]
  exact h4
theorem kwb_of {K : PySem.W.Frag} {x qual : Str} {st : Stmt} {f : Addr} {fd : FuncData} {ps ks : List Str} (pm : ∀ α : Type, List α → List α) (F : Fun K x qual st f fd) (hps : ps ≠ []) (hl : ∀ ws : List Value, (pm Value ws).length = ws.length) (hr : ∀ {zs : List V} {ws : List Value}, Vals zs ws → Vals (pm V zs) (pm Value ws))
    (h : ∀ (kV doc m : Value) (an : Option Addr) (cdv ct : Value) (us : List Value), us.length = ps.length → bindArgs (PySem.W.fnOf x qual (defArgs st) (defBody st) (defScope st) .none kV doc m an cdv ct) ⟨[], ks.zip us⟩ = pure (ps.zip (pm Value us))) :
    KBinds K fd ps ks (fun us ws => match us with | [] => pm Value ws | _ => []) (fun vs zs => match vs with | [] => pm V zs | _ => []) := by
  obtain ⟨oc, od, kV, doc, m, an, cdv, ct, osl, rfl, lk, hcd⟩ := F.ex
  refine ⟨fun s us ws _ e => ?_, fun {vs us zs ws} r rz => ?_⟩
  · cases us with
    | nil =>
      have e : (pm Value ws).length = ps.length := e
      exact .of_eq (h kV doc m an cdv ct ws ((hl ws).symm.trans e))
    | cons u us =>
      have e : 0 = ps.length := e
      exact (hps (List.length_eq_zero_iff.mp e.symm)).elim
  · cases r with
    | nil => exact hr rz
    | cons _ _ => exact .nil
theorem kwb_id {K : PySem.W.Frag} {x qual : Str} {st : Stmt} {f : Addr} {fd : FuncData} {ps ks : List Str} (F : Fun K x qual st f fd)
    (h : ∀ (kV doc m : Value) (an : Option Addr) (cdv ct : Value) (us : List Value), us.length = ps.length → bindArgs (PySem.W.fnOf x qual (defArgs st) (defBody st) (defScope st) .none kV doc m an cdv ct) ⟨[], ks.zip us⟩ = pure (ps.zip (pmId Value us))) (hps : ps ≠ [] := by simp) :
    KBinds K fd ps ks (fun us ws => match us with | [] => pmId Value ws | _ => []) (fun vs zs => match vs with | [] => pmId V zs | _ => []) := kwb_of pmId F hps (fun _ => rfl) (fun r => r) h
theorem kwb_sw {K : PySem.W.Frag} {x qual : Str} {st : Stmt} {f : Addr} {fd : FuncData} {ps ks : List Str} (F : Fun K x qual st f fd)
    (h : ∀ (kV doc m : Value) (an : Option Addr) (cdv ct : Value) (us : List Value), us.length = ps.length → bindArgs (PySem.W.fnOf x qual (defArgs st) (defBody st) (defScope st) .none kV doc m an cdv ct) ⟨[], ks.zip us⟩ = pure (ps.zip (pmSw Value us))) (hps : ps ≠ [] := by simp) :
    KBinds K fd ps ks (fun us ws => match us with | [] => pmSw Value ws | _ => []) (fun vs zs => match vs with | [] => pmSw V zs | _ => []) := kwb_of pmSw F hps (fun ws => by
      match ws with
      | [] => rfl
      | [_] => rfl
      | [_, _] => rfl
      | _ :: _ :: _ :: _ => rfl) (fun {zs ws} r => by
      match zs, ws, r with
      | _, _, .nil => exact .nil
      | _, _, .cons a .nil => exact .cons a .nil
      | _, _, .cons a (.cons b .nil) => exact .cons b (.cons a .nil)
      | _, _, .cons a (.cons b (.cons c r)) => exact .cons a (.cons b (.cons c r))) h
end Pv

/-! PvW -/
set_option Elab.async false
set_option linter.all false
set_option maxRecDepth 100000
set_option maxHeartbeats 1000000
namespace Pv
open PySem L2
/-! ### an expression with all slots frozen for its time; its answer reaches no list of theirs -/
mutual
/-- tuples of tuples of scalars -/
def isImm : D → Bool
  | .nd o k xs => (!o && decide (k = .tup)) && isImmL xs
  | .non => true
  | .bl _ => true
  | .int _ => true
  | .str _ => true
def isImmL : List D → Bool
  | [] => true
  | x :: xs => isImm x && isImmL xs
end
mutual
/-- what is owned, and below it tuples of scalars -/
def okB : D → Bool
  | .nd o k xs => if o = true then okBL xs else decide (k = .tup) && isImmL xs
  | .non => true
  | .bl _ => true
  | .int _ => true
  | .str _ => true
def okBL : List D → Bool
  | [] => true
  | x :: xs => okB x && okBL xs
end
theorem isImmL_at : ∀ {xs : List D} {i : Nat} {x : D}, isImmL xs = true → xs[i]? = some x → isImm x = true
  | [], i, x, _, e => by cases e
  | y :: xs, 0, x, h, e => by cases e; rw [isImmL, Bool.and_eq_true] at h; exact h.1
  | y :: xs, i + 1, x, h, e => by rw [isImmL, Bool.and_eq_true] at h; exact isImmL_at h.2 (by simpa using e)
theorem okBL_at : ∀ {xs : List D} {i : Nat} {x : D}, okBL xs = true → xs[i]? = some x → okB x = true
  | [], i, x, _, e => by cases e
  | y :: xs, 0, x, h, e => by cases e; rw [okBL, Bool.and_eq_true] at h; exact h.1
  | y :: xs, i + 1, x, h, e => by rw [okBL, Bool.and_eq_true] at h; exact okBL_at h.2 (by simpa using e)
theorem okB_imm {k : Kd} {xs : List D} (h : okB (.nd false k xs) = true) : isImm (.nd false k xs) = true := by
  rw [okB] at h
  rw [isImm]
  simpa using h
section
variable {K : PySem.W.Frag} {cl : Nat → Addr} {W : WX} {F F' F1 F2 H H' : Hp} {σ : L2.St} {ρ ρ' ρ1 : Env} {As As' As1 : Nat → Ads} {T : List Nat} {A : Ads} {v : V} {d : D}
theorem Fz.cut (h : Fz K cl F1 v d) (hi : isImm d = true) (s : ∀ a vs, F1 a = some (.tup vs) → F2 a = some (.tup vs)) : Fz K cl F2 v d := by
  induction h with
  | non => exact .non
  | bl b => exact .bl b
  | int i => exact .int i
  | str x => exact .str x
  | @nd k a vs xs h l c ih =>
    rw [isImm, Bool.and_eq_true, Bool.and_eq_true] at hi
    obtain ⟨⟨_, hk⟩, hx⟩ := hi
    have hk : k = .tup := of_decide_eq_true hk
    subst hk
    exact .nd (k := .tup) (s _ _ h) l fun i v x h1 h2 => ih i v x h1 h2 (isImmL_at hx h2)
theorem Own.cut (h : Own K cl F1 H v d A) (hi : okB d = true) (s : ∀ a vs, F1 a = some (.tup vs) → F2 a = some (.tup vs)) : Own K cl F2 H v d A := by
  induction h with
  | fz h e =>
    refine .fz ?_ e
    cases h with
    | non => exact .non
    | bl b => exact .bl b
    | int i => exact .int i
    | str x => exact .str x
    | nd h l c => exact (Fz.nd h l c).cut (okB_imm hi) s
  | @nd k₀ a vs xs B A h l c dj na lt hA ih =>
    rw [okB, if_pos rfl] at hi
    exact .nd h l (fun i v x h1 h2 => ih i v x h1 h2 (okBL_at hi h2)) dj na lt hA
theorem Own.noTup (h : Own K cl F H v d A) : ∀ a vs, A a → H a = some (.tup vs) → False := by
  induction h with
  | fz h e => exact fun a _ q _ => e a q
  | @nd k a vs xs B A h l c dj na lt hA ih =>
    intro b ws q e
    rcases (hA b).mp q with rfl | ⟨i, q⟩
    · cases k with
      | lst => rw [show H b = _ from h] at e; cases e
      | ro => exact h
      | tup => exact h
      | rt => exact h
      | dK ks => rw [h.2] at e; cases e
      | dT ks => rw [h.2] at e; cases e
      | ins c ns => obtain ⟨_, _, h⟩ := h; rw [h] at e; cases e
    · have hi := lt i b q
      have hv : i < vs.length := by omega
      exact ih i vs[i] xs[i] (by simp [hv]) (by simp [hi]) b ws q e
def frzE (ρ : Env) : Env := ρ.map (Option.map frz)
def mBr {α : Type} (ok : α → Bool) (m : M α) : M α := fun ρ => match m (frzE ρ) with
  | some (.ok a, _) => if ok a = true then some (.ok a, ρ) else none
  | some (.ex c, _) => some (.ex c, ρ)
  | none => none
noncomputable def lessF (F' : Hp) (A : Ads) : Hp := fun a => by
  classical exact if A a then none else F' a
theorem lessF_in {a : Addr} (h : A a) : lessF F' A a = none := by unfold lessF; exact if_pos h
theorem lessF_out {a : Addr} (h : ¬ A a) : lessF F' A a = F' a := by unfold lessF; exact if_neg h
theorem StOk.ice' (st : StOk K cl F H σ ρ As) : StOk K cl (glue F H (U As)) H σ (frzE ρ) fun _ => E0 where
  len := by unfold frzE; rw [List.length_map]; exact st.len
  sl := fun i d e => by
    unfold frzE at e
    rw [List.getElem?_map] at e
    cases q : ρ[i]? with
    | none => rw [q] at e; cases e
    | some o =>
      cases o with
      | none => rw [q] at e; cases e
      | some d0 =>
        rw [q] at e; cases e
        obtain ⟨v, hv, o⟩ := st.sl i d0 q
        exact ⟨v, hv, .fz (o.ice (fun b ⟨i, z⟩ => st.off i b z) fun b z => ⟨i, z⟩) fun _ z => z⟩
  em := fun _ _ z => z.elim
  dj := fun _ _ _ z => z.elim
  sub := glue_sub st.sub
  off := fun _ _ z => z.elim
/-- back behind the bracket -/
theorem StOk.thaw {A' : Ads} (st : StOk K cl F H σ ρ As) (st' : StOk K cl F' H' σ ρ1 As1) (s : Step (glue F H (U As)) H (U fun _ => E0) F' H' A') :
    (∀ a o, H a = some o → H' a = some o) ∧ StOk K cl (lessF F' (U As)) H' σ ρ As ∧ (∀ a vs, F' a = some (.tup vs) → lessF F' (U As) a = some (.tup vs)) ∧
      (∀ c, A' c → H c = none) ∧ Step F H (U As) (lessF F' (U As)) H' fun c => U As c ∨ A' c := by
  have off : ∀ c, U As c → F c = none := fun c ⟨i, z⟩ => st.off i c z
  have kp : ∀ a o, H a = some o → H' a = some o := fun a o e => s.keep a o e fun ⟨_, z⟩ => z
  have ff : Same F (lessF F' (U As)) := fun a o e => by
    rw [lessF_out fun z => by rw [off a z] at e; cases e]
    exact s.ff a o (glue_same off a o e)
  have sub : Same (lessF F' (U As)) H' := fun a o e => by
    by_cases z : U As a
    · rw [lessF_in z] at e; cases e
    · rw [lessF_out z] at e; exact st'.sub a o e
  have nw : ∀ c, A' c → H c = none := fun c z => (s.own c z).elim (fun ⟨_, z⟩ => z.elim) id
  refine ⟨kp, ⟨st.len, fun i d e => let ⟨v, h1, h2⟩ := st.sl i d e; ⟨v, h1, h2.frame ff fun a o _ q => kp a o q⟩, st.em, st.dj, sub, fun i b z => lessF_in ⟨i, z⟩⟩, fun a vs e => ?_, nw, ff, fun a o e _ => kp a o e, fun c z => z.elim .inl fun z => .inr (nw c z), fun a o e => ?_⟩
  · rw [lessF_out]
    · exact e
    · rintro ⟨i, z⟩
      obtain ⟨d, ed⟩ := st.em i a z
      obtain ⟨v, _, o⟩ := st.sl i d ed
      obtain ⟨x, ex⟩ := o.there a z
      have h1 := kp a x ex
      rw [st'.sub a _ e] at h1
      cases h1
      exact o.noTup a vs z ex
  · by_cases z : U As a
    · rw [lessF_in z] at e; cases e
    · rw [lessF_out z] at e
      rcases s.fro a o e with q | q | q
      · rw [glue_out z] at q; exact .inl q
      · obtain ⟨_, q⟩ := q; exact q.elim
      · exact .inr (.inr q)
theorem s_brG {α β : Type} {R : Rel α β} {ok : α → Bool} {t : TX β} {m : M α} (h : Snd K cl W R t m T)
    (hR : ∀ {F' F2 H' : Hp} {σ : L2.St} {ρ ρ1 : Env} {a : α} {b : β} {A : Ads}, R F' H' σ ρ1 a b A → ok a = true → (∀ a vs, F' a = some (.tup vs) → F2 a = some (.tup vs)) → R F2 H' σ ρ a b A) : Snd K cl W R t (mBr ok m) [] := by
  intro σ H Q F ρ As r ρ' st e hq hx
  unfold mBr at e
  cases q : m (frzE ρ) with
  | none => rw [q] at e; cases e
  | some p =>
    obtain ⟨r1, ρ1⟩ := p
    rw [q] at e
    refine h σ H Q _ (frzE ρ) _ r1 ρ1 st.ice' q (fun a ea b F' H' As' A x => ?_) fun c ec F' H' As' y => ?_
    · subst ea
      dsimp only at e
      split at e
      · rename_i ho
        cases e
        obtain ⟨kp, st2, tp, nw, stp⟩ := st.thaw x.st x.stp
        refine hq a rfl b (lessF F' (U As)) H' As A ⟨st2, hR x.rel ho tp, fun i c z1 z2 => ?_, fun c z => ?_, ⟨stp.ff, stp.keep, fun c z => z.elim .inl fun z => .inr (nw c (.inr z)), stp.fro⟩, ⟨fun j _ => ⟨rfl, fun _ => .rfl, fun b o _ e => kp b o e⟩⟩⟩
        · obtain ⟨o, e⟩ := st.there i c z1
          rw [nw c (.inr z2)] at e; cases e
        · by_cases z' : U As c
          · exact lessF_in z'
          · rw [lessF_out z']; exact x.off c z
      · cases e
    · subst ec
      cases e
      obtain ⟨kp, st2, tp, nw, stp⟩ := st.thaw y.st y.stp
      exact hx c rfl (lessF F' (U As)) H' As ⟨st2, ⟨stp.ff, stp.keep, fun c z => .inl z, stp.fro⟩⟩
theorem s_br {t : TE} {m : M D} (h : Snd K cl W (RE K cl) t m T) : Snd K cl W (RE K cl) t (mBr okB m) [] := s_brG h fun r ho s => Own.cut r ho s
theorem s_brT {t : TT} {m : M Bool} (h : Snd K cl W RT t m T) : Snd K cl W RT t (mBr (fun _ => true) m) [] := s_brG h fun r _ _ => r
end
section
variable {X : Cx} {cl : Nat → Addr} {W : WX} {T : List Nat}
theorem m_br {e : Expr} {t : TE} {m : M D} (h : ME X cl W e t m T) : ME X cl W e t (mBr okB m) [] := ⟨h.pe, s_br h.sn⟩
theorem t_br {e : Expr} {t : TT} {m : M Bool} (h : MT X cl W e t m T) : MT X cl W e t (mBr (fun _ => true) m) [] := ⟨h.pe, s_brT h.sn⟩
end
end Pv

/-! PvV -/
set_option Elab.async false
set_option linter.all false
set_option maxRecDepth 100000
set_option maxHeartbeats 1000000
namespace Pv
open PySem L2
/-! ### a comprehension of two clauses, in a frozen world -/
def allFz (ρ : Env) : Bool := ρ.all fun o => match o with
  | some d => isF d
  | none => true
/-- the second clause's walk -/
def lcI (g1 : D → Env → Option Env) (mt1 : M Bool) (me : M D) (ρw : Env) : List D → List D → Option (List D)
  | [], acc => some acc
  | d :: ds, acc => match g1 d ρw with
    | none => none
    | some ρ5 => if allFz ρ5 = true then (match mt1 ρ5 with
      | some (.ok true, _) => (match me ρ5 with
        | some (.ok y, _) => if isF y = true ∧ acc.length < 16777216 then lcI g1 mt1 me ρw ds (acc ++ [y]) else none
        | _ => none)
      | some (.ok false, _) => lcI g1 mt1 me ρw ds acc
      | _ => none) else none
/-- the first clause's walk -/
def lcO (g : D → Env → Option Env) (mt : M Bool) (mi1 : M (List D)) (g1 : D → Env → Option Env) (mt1 : M Bool) (me : M D) (vs1 : List Nat) (ρw : Env) : List D → List D → Option (List D)
  | [], acc => some acc
  | d :: ds, acc => match g d ρw with
    | none => none
    | some ρ4 => if allFz ρ4 = true then (match mt ρ4 with
      | some (.ok true, _) => (match mi1 ρ4 with
        | some (.ok ds1, _) => (match lcI g1 mt1 me (wipeE ρ4 vs1) ds1 acc with
          | some acc' => lcO g mt mi1 g1 mt1 me vs1 ρw ds acc'
          | none => none)
        | _ => none)
      | some (.ok false, _) => lcO g mt mi1 g1 mt1 me vs1 ρw ds acc
      | _ => none) else none
def mLc2F (mi : M (List D)) (g : D → Env → Option Env) (mt : M Bool) (mi1 : M (List D)) (g1 : D → Env → Option Env) (mt1 : M Bool) (me : M D) (vs vs1 : List Nat) : M D := mi.bind fun ds => fun ρ => if allFz ρ = true then (match lcO g mt mi1 g1 mt1 me vs1 (wipeE ρ vs) ds [] with
  | some ys => some (.ok (.own ys), ρ)
  | none => none) else none
def mLc2 (mi : M (List D)) (g : D → Env → Option Env) (mt : M Bool) (mi1 : M (List D)) (g1 : D → Env → Option Env) (mt1 : M Bool) (me : M D) (vs vs1 : List Nat) : M D := mBr okB (mLc2F mi g mt mi1 g1 mt1 me vs vs1)
section
variable {K : PySem.W.Frag} {cl : Nat → Addr} {W : WX} {F F' H H' F1 H1 F2 H2 F3 H3 : Hp} {σ σ' σ1 : L2.St} {ρ ρ' ρ1 : Env} {As As' As1 : Nat → Ads} {T T1 T2 T3 T4 Z Z1 : List Nat} {A O O' : Ads} {v : V} {d : D} {D0 : Addr} {ys : List D}
theorem StOk.noOwn (st : StOk K cl F H σ ρ As) (h : allFz ρ = true) : ∀ i b, ¬ As i b := fun i b q => by
  obtain ⟨d, e⟩ := st.em i b q
  obtain ⟨v, _, o⟩ := st.sl i d e
  have hf : isF d = true := List.all_eq_true.mp h (some d) (List.mem_of_getElem? e)
  exact (o.isF hf).2 b q
theorem StOk.atF (st : StOk K cl F H σ ρ As) (no : ∀ i b, ¬ As i b) (s : Same F F') (sub : Same F' H') : StOk K cl F' H' σ ρ As :=
  ⟨st.len, fun i d e => let ⟨v, h1, h2⟩ := st.sl i d e; ⟨v, h1, h2.frame s fun a _ q _ => (no i a q).elim⟩, st.em, st.dj, sub, fun i b q => (no i b q).elim⟩
theorem Step.noO (s : Step F H O F' H' O') (no : ∀ a, ¬ O a) : Step F H (fun _ => False) F' H' O' :=
  ⟨s.ff, fun a o e _ => s.keep a o e (no a), fun a q => (s.own a q).elim (fun z => (no a z).elim) .inr, fun a o q => (s.fro a o q).imp id (Or.imp (fun z => (no a z).elim) id)⟩
/-- the list as it grows -/
structure Pk (K : PySem.W.Frag) (cl : Nat → Addr) (F1 H1 : Hp) (D0 : Addr) (F2 H2 : Hp) (ys : List D) (A2 : Ads) : Prop where
  sF : Same F1 F2
  sub : Same F2 H2
  kp : ∀ a o, H1 a = some o → H2 a = some o
  ow : Own K cl F2 H2 (.ref D0) (.own ys) A2
  off : ∀ b, A2 b → F2 b = none
  nw : ∀ b, A2 b → H1 b = none
  fro : ∀ a o, F2 a = some o → F1 a = some o ∨ H1 a = none
theorem Pk.step (p : Pk K cl F1 H1 D0 F2 H2 ys A) (s : Step F2 H2 O F3 H3 O') (no : ∀ a, ¬ O a) (sub : Same F3 H3) : Pk K cl F1 H1 D0 F3 H3 ys A where
  sF := p.sF.trans s.ff
  sub := sub
  kp := fun a o e => s.keep a o (p.kp a o e) (no a)
  ow := p.ow.frame s.ff fun a o _ e => s.keep a o e (no a)
  off := fun b q => by
    cases e : F3 b with
    | none => rfl
    | some o =>
      rcases s.fro b o e with z | z | z
      · rw [p.off b q] at z; cases z
      · exact (no b z).elim
      · obtain ⟨o', e'⟩ := p.ow.there b q
        rw [e'] at z; cases z
  nw := p.nw
  fro := fun a o e => by
    rcases s.fro a o e with z | z | z
    · exact p.fro a o z
    · exact (no a z).elim
    · cases q : H1 a with
      | none => exact .inr rfl
      | some u => rw [p.kp a u q] at z; cases z
theorem Pk.push {dy : D} {y : V} (p : Pk K cl F1 H1 D0 F2 H2 ys A) (f : Fz K cl F2 y dy) : ∃ acc, H2 D0 = some (.lst acc) ∧ acc.length = ys.length ∧ ∃ A', Pk K cl F1 H1 D0 F2 (upd H2 D0 (.lst (acc ++ [y]))) (ys ++ [dy]) A' := by
  obtain ⟨acc, ha, hl, aD, o⟩ := own_snoc p.ow (.fz f fun _ z => z : Own K cl F2 H2 y dy E0) fun _ _ z => z
  refine ⟨acc, ha, hl, _, p.sF, fun a u e => ?_, fun a u e => ?_, o, fun b q => q.elim (p.off b) False.elim, fun b q => q.elim (p.nw b) False.elim, p.fro⟩
  · have : a ≠ D0 := fun z => by subst z; rw [p.off _ aD] at e; cases e
    rw [upd_ne this]; exact p.sub a u e
  · have : a ≠ D0 := fun z => by subst z; rw [p.nw _ aD] at e; cases e
    rw [upd_ne this]; exact p.kp a u e
theorem Pk.start (sub : Same F1 H1) (h : H1 D0 = none) : Pk K cl F1 H1 D0 F1 (upd H1 D0 (.lst [])) [] fun b => b = D0 := by
  have kp0 : ∀ b u, H1 b = some u → upd H1 D0 (.lst []) b = some u := fun b u q => by rw [upd_ne (ne_of_none q h)]; exact q
  refine ⟨fun _ _ q => q, fun b u q => kp0 b u (sub b u q), kp0, .nd (k := .lst) (vs := []) (B := fun _ _ => False) upd_same rfl (fun i v x q => by simp at q) (fun _ _ _ z => z.elim) (fun _ z => z) (fun _ _ z => z.elim) fun b => ⟨.inl, fun z => z.elim id fun ⟨_, z⟩ => z.elim⟩, fun b q => ?_, fun b q => by rw [show b = D0 from q]; exact h, fun _ _ q => .inl q⟩
  rw [show b = D0 from q]
  exact sub.free h
theorem drop_cons {α : Type} {l : List α} {i : Nat} (h : i < l.length) : ∃ x, l[i]? = some x ∧ l.drop i = x :: l.drop (i + 1) := ⟨l[i], by simp [h], List.drop_eq_getElem_cons h⟩
theorem noU {As : Nat → Ads} (no : ∀ i b, ¬ As i b) : ∀ a, ¬ (U As a) := fun a ⟨i, z⟩ => no i a z
theorem s_lc2F {wi wi1 : TI} {mi mi1 : M (List D)} {g g1 : TG} {gm gm1 : D → Env → Option Env} {tt tt1 : TT} {mt mt1 : M Bool} {te : TE} {me : M D} {vs vs1 : List Nat} (hi : SndI K cl W wi mi T) (hg : SndG K cl g gm Z) (ht : Snd K cl W0 RT tt mt T1) (hi1 : SndI K cl W0 wi1 mi1 T2) (hg1 : SndG K cl g1 gm1 Z1) (ht1 : Snd K cl W0 RT tt1 mt1 T3) (he : Snd K cl W0 (RE K cl) te me T4) (hz : ∀ j ∈ Z, j ∈ vs) (hz1 : ∀ j ∈ Z1, j ∈ vs1) :
    Snd K cl W (RE K cl) (tLc2 wi g tt wi1 g1 tt1 te vs vs1) (mLc2F mi gm mt mi1 gm1 mt1 me vs vs1) T := by
  intro σ H Q F ρ As r ρ' st e hq hx
  rcases M.bind_some e with ⟨ds, ρ1, e0, e1⟩ | ⟨c', e0, rfl⟩
  rotate_left
  · exact hi σ H _ F ρ As _ ρ' st e0 (fun a q => nomatch q) fun c' q => by cases q; exact hx _ rfl
  refine hi σ H _ F ρ As _ ρ1 st e0 (fun ds' z J F1 H1 As1 st1 s1 k1 fd => ?_) fun c q => nomatch q
  cases z
  intro D0 hD0
  by_cases hf : allFz ρ1 = true
  rotate_left
  · rw [if_neg hf] at e1; cases e1
  rw [if_pos hf] at e1
  have no1 := st1.noOwn hf
  cases hL : lcO gm mt mi1 gm1 mt1 me vs1 (wipeE ρ1 vs) ds [] with
  | none => rw [hL] at e1; cases e1
  | some ysE =>
    rw [hL] at e1
    cases e1
    refine ⟨fun i m H2 => m = ds.length - i ∧ i ≤ ds.length ∧ ∃ F2 ys A2, Pk K cl F1 H1 D0 F2 H2 ys A2 ∧ lcO gm mt mi1 gm1 mt1 me vs1 (wipeE ρ' vs) (ds.drop i) ys = some ysE,
      ⟨_, rfl, Nat.zero_le _, F1, [], _, Pk.start st1.sub hD0, by simpa using hL⟩, ?_⟩
    rintro i m H2 ⟨rfl, hl, F2, ys, A2, pk, e2⟩
    obtain ⟨fd1, fd2⟩ := fd i F2 H2 pk.sF pk.sub
    by_cases hil : i < ds.length
    rotate_left
    · rw [List.drop_eq_nil_of_le (by omega)] at e2
      cases e2
      refine .inl ⟨fd1 (by omega), hq _ rfl (.ref D0) F2 H2 As1 A2 ⟨st1.atF no1 pk.sF pk.sub, pk.ow, fun j b q => (no1 j b q).elim, pk.off, ?_, ⟨fun j hj => ?_⟩⟩⟩
      · exact s1.trans (O1' := fun _ => False) (O2 := A2) ⟨pk.sF, fun a o e _ => pk.kp a o e, fun a q => .inr (pk.nw a q), fun a o q => (pk.fro a o q).imp id .inr⟩ (fun _ z => z.elim) fun a q => q.elim .inr .inl
      · obtain ⟨a1, a2, a3⟩ := k1.k j hj
        exact ⟨a1, a2, fun b o q e => pk.kp b o (a3 b o q e)⟩
    obtain ⟨d, hd, hdr⟩ := drop_cons hil
    obtain ⟨go, yl⟩ := fd2 d hd
    refine .inr ⟨go, fun H3 => ∃ F3 ys A3, Pk K cl F1 H1 D0 F3 H3 ys A3 ∧ lcO gm mt mi1 gm1 mt1 me vs1 (wipeE ρ' vs) (ds.drop (i + 1)) ys = some ysE, fun H3 h3 => ⟨ds.length - (i + 1), by omega, rfl, hil, h3⟩, fun x H3 hy => ?_⟩
    obtain ⟨F3, s3, fz, p3⟩ := yl x H3 hy
    have pk3 := pk.step p3 (fun _ z => z) s3
    rw [hdr, lcO] at e2
    cases hg2 : gm d (wipeE ρ' vs) with
    | none => rw [hg2] at e2; cases e2
    | some ρ4 =>
      rw [hg2] at e2
      dsimp only at e2
      by_cases hf4 : allFz ρ4 = true
      rotate_left
      · rw [if_neg hf4] at e2; cases e2
      rw [if_pos hf4] at e2
      have stw := (st1.atF no1 pk3.sF pk3.sub).wipe (vs := vs)
      have now : ∀ i b, ¬ (if i ∈ vs then fun _ => False else As1 i : Ads) b := fun i b q => by
        by_cases hiv : i ∈ vs
        · rw [if_pos hiv] at q; exact q
        · rw [if_neg hiv] at q; exact no1 i b q
      refine hg x (L2.wipe σ vs) H3 _ F3 (wipeE ρ' vs) _ d E0 ρ4 stw (.fz fz fun _ z => z) (fun _ _ _ z => z) (fun _ z => z.elim) hg2 fun σ4 F4 H4 As4 st4 s4 a4 l4 kp4 => ?_
      have no4 := st4.noOwn hf4
      have pk4 := pk3.step s4 (fun a z => z.elim (noU now a) id) st4.sub
      have wp4 : L2.wipe σ4 vs = L2.wipe σ vs := by
        rw [wipe_eq (σ := L2.wipe σ vs) (σ' := σ4) l4 fun j hj => a4 j fun z => hj (hz j z), wipe_wipe]
      refine ⟨wp4, ?_⟩
      cases hm : mt ρ4 with
      | none => rw [hm] at e2; cases e2
      | some p5 =>
        obtain ⟨x5, ρ5⟩ := p5
        rw [hm] at e2
        cases x5 with
        | ex c => cases e2
        | ok b5 =>
          refine ht σ4 H4 _ F4 ρ4 As4 _ ρ5 st4 hm (fun b q b' F5 H5 As5 A5 w => ?_) fun c q => nomatch q
          cases q
          obtain ⟨rfl, nA5⟩ := w.rel
          have pk5 := pk4.step w.stp (noU no4) w.st.sub
          cases b5 with
          | false =>
            rw [if_neg (by simp)]
            exact ⟨F5, ys, _, pk5, e2⟩
          | true =>
            rw [if_pos rfl]
            dsimp only at e2
            cases hm6 : mi1 ρ4 with
            | none => rw [hm6] at e2; cases e2
            | some p6 =>
              obtain ⟨x6, ρ6⟩ := p6
              rw [hm6] at e2
              cases x6 with
              | ex c => cases e2
              | ok ds1 =>
                dsimp only at e2
                refine hi1 σ4 H5 _ F5 ρ4 As4 _ ρ6 (st4.atF no4 w.stp.ff w.st.sub) hm6 (fun ds1' z J1 F6 H6 As6 st6 s6 k6 fd6 => ?_) fun c q => nomatch q
                cases z
                have pk6 := pk5.step s6 (noU no4) st6.sub
                cases hI : lcI gm1 mt1 me (wipeE ρ4 vs1) ds1 ys with
                | none => rw [hI] at e2; cases e2
                | some ysM =>
                  rw [hI] at e2
                  dsimp only at e2
                  refine ⟨fun j k H7 => k = ds1.length - j ∧ j ≤ ds1.length ∧ ∃ F7 ys7 A7, Pk K cl F1 H1 D0 F7 H7 ys7 A7 ∧ Same F6 F7 ∧ lcI gm1 mt1 me (wipeE ρ4 vs1) (ds1.drop j) ys7 = some ysM, ⟨_, rfl, Nat.zero_le _, F6, ys, _, pk6, fun _ _ q => q, by simpa using hI⟩, ?_⟩
                  rintro j k H7 ⟨rfl, hj, F7, ys7, A7, pk7, s67, e7⟩
                  obtain ⟨fe1, fe2⟩ := fd6 j F7 H7 s67 pk7.sub
                  by_cases hjl : j < ds1.length
                  rotate_left
                  · rw [List.drop_eq_nil_of_le (by omega)] at e7
                    cases e7
                    exact .inl ⟨fe1 (by omega), F7, _, _, pk7, e2⟩
                  obtain ⟨d1, hd1, hdr1⟩ := drop_cons hjl
                  obtain ⟨go1, yl1⟩ := fe2 d1 hd1
                  refine .inr ⟨go1, fun H8 => ∃ F8 ys8 A8, Pk K cl F1 H1 D0 F8 H8 ys8 A8 ∧ Same F6 F8 ∧ lcI gm1 mt1 me (wipeE ρ4 vs1) (ds1.drop (j + 1)) ys8 = some ysM, fun H8 h8 => ⟨ds1.length - (j + 1), by omega, rfl, hjl, h8⟩, fun x1 H8 hy1 => ?_⟩
                  obtain ⟨F8, s8, fz8, p8⟩ := yl1 x1 H8 hy1
                  have pk8 := pk7.step p8 (fun _ z => z) s8
                  rw [hdr1, lcI] at e7
                  cases hg3 : gm1 d1 (wipeE ρ4 vs1) with
                  | none => rw [hg3] at e7; cases e7
                  | some ρ9 =>
                    rw [hg3] at e7
                    dsimp only at e7
                    by_cases hf9 : allFz ρ9 = true
                    rotate_left
                    · rw [if_neg hf9] at e7; cases e7
                    rw [if_pos hf9] at e7
                    have s48 : Same F4 F8 := w.stp.ff.trans (s6.ff.trans (s67.trans p8.ff))
                    have stw8 := (st4.atF no4 s48 pk8.sub).wipe (vs := vs1)
                    have now8 : ∀ i b, ¬ (if i ∈ vs1 then fun _ => False else As4 i : Ads) b := fun i b q => by
                      by_cases hiv : i ∈ vs1
                      · rw [if_pos hiv] at q; exact q
                      · rw [if_neg hiv] at q; exact no4 i b q
                    refine hg1 x1 (L2.wipe σ4 vs1) H8 _ F8 (wipeE ρ4 vs1) _ d1 E0 ρ9 stw8 (.fz fz8 fun _ z => z) (fun _ _ _ z => z) (fun _ z => z.elim) hg3 fun σ9 F9 H9 As9 st9 s9 a9 l9 kp9 => ?_
                    have no9 := st9.noOwn hf9
                    have pk9 := pk8.step s9 (fun a z => z.elim (noU now8 a) id) st9.sub
                    have wp9 : L2.wipe σ9 vs1 = L2.wipe σ4 vs1 := by
                      rw [wipe_eq (σ := L2.wipe σ4 vs1) (σ' := σ9) l9 fun j hj => a9 j fun z => hj (hz1 j z), wipe_wipe]
                    refine ⟨wp9, ?_⟩
                    cases hm10 : mt1 ρ9 with
                    | none => rw [hm10] at e7; cases e7
                    | some p10 =>
                      obtain ⟨x10, ρ10⟩ := p10
                      rw [hm10] at e7
                      cases x10 with
                      | ex c => cases e7
                      | ok b10 =>
                        refine ht1 σ9 H9 _ F9 ρ9 As9 _ ρ10 st9 hm10 (fun b q b' F10 H10 As10 A10 w10 => ?_) fun c q => nomatch q
                        cases q
                        obtain ⟨rfl, nA10⟩ := w10.rel
                        have pk10 := pk9.step w10.stp (noU no9) w10.st.sub
                        have s610 : Same F6 F10 := s67.trans (p8.ff.trans (s9.ff.trans w10.stp.ff))
                        cases b10 with
                        | false =>
                          rw [if_neg (by simp)]
                          exact ⟨F10, ys7, _, pk10, s610, e7⟩
                        | true =>
                          rw [if_pos rfl]
                          dsimp only at e7
                          cases hm11 : me ρ9 with
                          | none => rw [hm11] at e7; cases e7
                          | some p11 =>
                            obtain ⟨x11, ρ11⟩ := p11
                            rw [hm11] at e7
                            cases x11 with
                            | ex c => cases e7
                            | ok y11 =>
                              dsimp only at e7
                              by_cases hys : isF y11 = true ∧ ys7.length < 16777216
                              rotate_left
                              · rw [if_neg hys] at e7; cases e7
                              rw [if_pos hys] at e7
                              refine he σ9 H10 _ F10 ρ9 As9 _ ρ11 (st9.atF no9 w10.stp.ff w10.st.sub) hm11 (fun b q v11 F11 H11 As11 A11 w11 => ?_) fun c q => nomatch q
                              cases q
                              have pk11 := pk10.step w11.stp (noU no9) w11.st.sub
                              obtain ⟨acc, ha, hla, A12, pk12⟩ := pk11.push ((show Own K cl F11 H11 v11 y11 A11 from w11.rel).isF hys.1).1
                              exact ⟨acc, ha, by rw [sizeLine_eq, hla]; exact hys.2, F11, ys7 ++ [y11], A12, pk12, s610.trans w11.stp.ff, e7⟩
theorem s_lc2 {wi wi1 : TI} {mi mi1 : M (List D)} {g g1 : TG} {gm gm1 : D → Env → Option Env} {tt tt1 : TT} {mt mt1 : M Bool} {te : TE} {me : M D} {vs vs1 : List Nat} (hi : SndI K cl W wi mi T) (hg : SndG K cl g gm Z) (ht : Snd K cl W0 RT tt mt T1) (hi1 : SndI K cl W0 wi1 mi1 T2) (hg1 : SndG K cl g1 gm1 Z1) (ht1 : Snd K cl W0 RT tt1 mt1 T3) (he : Snd K cl W0 (RE K cl) te me T4) (hz : ∀ j ∈ Z, j ∈ vs) (hz1 : ∀ j ∈ Z1, j ∈ vs1) :
    Snd K cl W (RE K cl) (tLc2 wi g tt wi1 g1 tt1 te vs vs1) (mLc2 mi gm mt mi1 gm1 mt1 me vs vs1) [] := s_br (s_lc2F hi hg ht hi1 hg1 ht1 he hz hz1)
end
end Pv

/-! PvU -/
set_option Elab.async false
set_option linter.all false
set_option maxRecDepth 100000
set_option maxHeartbeats 1000000
namespace Pv
open PySem L2
section
variable {X : Cx} {cl : Nat → Addr} {W : WX} {T T1 T2 T3 T4 Z Z1 : List Nat} {mi mi1 : M (List D)} {gm gm1 : D → Env → Option Env} {mt mt1 : M Bool} {me : M D} {wi : TI} {pos : Pos}
theorem m_lc2 {elt tgt iter tgt1 iter1 : Expr} {ifs ifs1 : List Expr} {scope : Scope} {own : List (Str × Nat)} (vs1 : List Nat) {wi1 : Shared → Hp → Addr → List (Str × Addr) → List Addr → TI} {tt tt1 : Shared → Hp → Addr → List (Str × Addr) → List Addr → TT} {te : Shared → Hp → Addr → List (Str × Addr) → List Addr → TE} {g g1 : Shared → Hp → Addr → List (Str × Addr) → List Addr → TG}
    (hc : X.calm = true) (hN : X.N.Nodup) (ok : BlkOk X.N X.env.scope scope own) (hi : MI X cl W tgt iter wi mi T)
    (hg : ∀ (s : Shared) (H : Hp) (C : Addr) (cll : List (Str × Addr)) (fp : List Addr), MG (X.blk s H scope (compEnvC scope cll C X.env) fp) cl tgt (g s H C cll fp) gm Z)
    (ht : ∀ (s : Shared) (H : Hp) (C : Addr) (cll : List (Str × Addr)) (fp : List Addr), MTs (X.blk s H scope (compEnvC scope cll C X.env) fp) cl W0 ifs (tt s H C cll fp) mt T1)
    (hi1 : ∀ (s : Shared) (H : Hp) (C : Addr) (cll : List (Str × Addr)) (fp : List Addr), MI (X.blk s H scope (compEnvC scope cll C X.env) fp) cl W0 tgt1 iter1 (wi1 s H C cll fp) mi1 T2)
    (hg1 : ∀ (s : Shared) (H : Hp) (C : Addr) (cll : List (Str × Addr)) (fp : List Addr), MG (X.blk s H scope (compEnvC scope cll C X.env) fp) cl tgt1 (g1 s H C cll fp) gm1 Z1)
    (ht1 : ∀ (s : Shared) (H : Hp) (C : Addr) (cll : List (Str × Addr)) (fp : List Addr), MTs (X.blk s H scope (compEnvC scope cll C X.env) fp) cl W0 ifs1 (tt1 s H C cll fp) mt1 T3)
    (he : ∀ (s : Shared) (H : Hp) (C : Addr) (cll : List (Str × Addr)) (fp : List Addr), ME (X.blk s H scope (compEnvC scope cll C X.env) fp) cl W0 elt (te s H C cll fp) me T4)
    (hz : ∀ j ∈ Z, j ∈ own.map (·.2)) (hz1 : ∀ j ∈ Z1, j ∈ vs1) (hv : ∀ i ∈ vs1, i ∈ own.map (·.2))
    (eg : ∀ (s : Shared) (H : Hp) (C : Addr) (cll : List (Str × Addr)) (fp : List Addr), g s H C cll fp = g X.s_0 X.H_0 0 [] [] := by intro _ _ _ _ _; rfl)
    (ett : ∀ (s : Shared) (H : Hp) (C : Addr) (cll : List (Str × Addr)) (fp : List Addr), tt s H C cll fp = tt X.s_0 X.H_0 0 [] [] := by intro _ _ _ _ _; rfl)
    (ei : ∀ (s : Shared) (H : Hp) (C : Addr) (cll : List (Str × Addr)) (fp : List Addr), wi1 s H C cll fp = wi1 X.s_0 X.H_0 0 [] [] := by intro _ _ _ _ _; rfl)
    (eg1 : ∀ (s : Shared) (H : Hp) (C : Addr) (cll : List (Str × Addr)) (fp : List Addr), g1 s H C cll fp = g1 X.s_0 X.H_0 0 [] [] := by intro _ _ _ _ _; rfl)
    (ett1 : ∀ (s : Shared) (H : Hp) (C : Addr) (cll : List (Str × Addr)) (fp : List Addr), tt1 s H C cll fp = tt1 X.s_0 X.H_0 0 [] [] := by intro _ _ _ _ _; rfl)
    (ete : ∀ (s : Shared) (H : Hp) (C : Addr) (cll : List (Str × Addr)) (fp : List Addr), te s H C cll fp = te X.s_0 X.H_0 0 [] [] := by intro _ _ _ _ _; rfl)
    (hs : ∀ x, foldedSetIterable iter X.env x = pure x := by intro _; rfl) (hs1 : ∀ env x, foldedSetIterable iter1 env x = pure x := by intro _ _; rfl) :
    ME X cl W (.ListComp elt [⟨tgt, iter, ifs, 0⟩, ⟨tgt1, iter1, ifs1, 0⟩] scope pos) (tLc2 wi (g X.s_0 X.H_0 0 [] []) (tt X.s_0 X.H_0 0 [] []) (wi1 X.s_0 X.H_0 0 [] []) (g1 X.s_0 X.H_0 0 [] []) (tt1 X.s_0 X.H_0 0 [] []) (te X.s_0 X.H_0 0 [] []) (own.map (·.2)) vs1) (mLc2 mi gm mt mi1 gm1 mt1 me (own.map (·.2)) vs1) [] :=
  ⟨pe_lc2 hc hN hi.pe ok hv (fun s H C c f => eg s H C c f ▸ (hg s H C c f).pe) (fun s H C c f => ett s H C c f ▸ (ht s H C c f).pe) (fun s H C c f => ei s H C c f ▸ (hi1 s H C c f).pe) (fun s H C c f => eg1 s H C c f ▸ (hg1 s H C c f).pe) (fun s H C c f => ett1 s H C c f ▸ (ht1 s H C c f).pe) (fun s H C c f => ete s H C c f ▸ (he s H C c f).pe) hs hs1,
    s_lc2 hi.sn (hg X.s_0 X.H_0 0 [] []).sn (ht X.s_0 X.H_0 0 [] []).sn (hi1 X.s_0 X.H_0 0 [] []).sn (hg1 X.s_0 X.H_0 0 [] []).sn (ht1 X.s_0 X.H_0 0 [] []).sn (he X.s_0 X.H_0 0 [] []).sn hz hz1⟩
theorem x_setLc2 {elt tgt iter tgt1 iter1 : Expr} {ifs ifs1 : List Expr} {scope : Scope} {own : List (Str × Nat)} (vs1 : List Nat) {wi1 : Shared → Hp → Addr → List (Str × Addr) → List Addr → TI} {tt tt1 : Shared → Hp → Addr → List (Str × Addr) → List Addr → TT} {te : Shared → Hp → Addr → List (Str × Addr) → List Addr → TE} {g g1 : Shared → Hp → Addr → List (Str × Addr) → List Addr → TG} {y : Str} {py spos : Pos} (i : Nat)
    (hc : X.calm = true) (hN : X.N.Nodup) (ok : BlkOk X.N X.env.scope scope own) (hsw : swapsWith (.ListComp elt [⟨tgt, iter, ifs, 0⟩, ⟨tgt1, iter1, ifs1, 0⟩] scope pos) (some (.Name y py)) spos.line X.env = pure true) (hi : MI X cl W tgt iter wi mi T)
    (hg : ∀ (s : Shared) (H : Hp) (C : Addr) (cll : List (Str × Addr)) (fp : List Addr), MG (X.blk s H scope (compEnvC scope cll C X.env) fp) cl tgt (g s H C cll fp) gm Z)
    (ht : ∀ (s : Shared) (H : Hp) (C : Addr) (cll : List (Str × Addr)) (fp : List Addr), MTs (X.blk s H scope (compEnvC scope cll C X.env) fp) cl W0 ifs (tt s H C cll fp) mt T1)
    (hi1 : ∀ (s : Shared) (H : Hp) (C : Addr) (cll : List (Str × Addr)) (fp : List Addr), MI (X.blk s H scope (compEnvC scope cll C X.env) fp) cl W0 tgt1 iter1 (wi1 s H C cll fp) mi1 T2)
    (hg1 : ∀ (s : Shared) (H : Hp) (C : Addr) (cll : List (Str × Addr)) (fp : List Addr), MG (X.blk s H scope (compEnvC scope cll C X.env) fp) cl tgt1 (g1 s H C cll fp) gm1 Z1)
    (ht1 : ∀ (s : Shared) (H : Hp) (C : Addr) (cll : List (Str × Addr)) (fp : List Addr), MTs (X.blk s H scope (compEnvC scope cll C X.env) fp) cl W0 ifs1 (tt1 s H C cll fp) mt1 T3)
    (he : ∀ (s : Shared) (H : Hp) (C : Addr) (cll : List (Str × Addr)) (fp : List Addr), ME (X.blk s H scope (compEnvC scope cll C X.env) fp) cl W0 elt (te s H C cll fp) me T4)
    (hz : ∀ j ∈ Z, j ∈ own.map (·.2)) (hz1 : ∀ j ∈ Z1, j ∈ vs1) (hv : ∀ i ∈ vs1, i ∈ own.map (·.2))
    (hy : X.N[i]? = some y := by rfl) (hyl : X.env.scope.names.lookup y = some .local := by rfl)
    (eg : ∀ (s : Shared) (H : Hp) (C : Addr) (cll : List (Str × Addr)) (fp : List Addr), g s H C cll fp = g X.s_0 X.H_0 0 [] [] := by intro _ _ _ _ _; rfl)
    (ett : ∀ (s : Shared) (H : Hp) (C : Addr) (cll : List (Str × Addr)) (fp : List Addr), tt s H C cll fp = tt X.s_0 X.H_0 0 [] [] := by intro _ _ _ _ _; rfl)
    (ei : ∀ (s : Shared) (H : Hp) (C : Addr) (cll : List (Str × Addr)) (fp : List Addr), wi1 s H C cll fp = wi1 X.s_0 X.H_0 0 [] [] := by intro _ _ _ _ _; rfl)
    (eg1 : ∀ (s : Shared) (H : Hp) (C : Addr) (cll : List (Str × Addr)) (fp : List Addr), g1 s H C cll fp = g1 X.s_0 X.H_0 0 [] [] := by intro _ _ _ _ _; rfl)
    (ett1 : ∀ (s : Shared) (H : Hp) (C : Addr) (cll : List (Str × Addr)) (fp : List Addr), tt1 s H C cll fp = tt1 X.s_0 X.H_0 0 [] [] := by intro _ _ _ _ _; rfl)
    (ete : ∀ (s : Shared) (H : Hp) (C : Addr) (cll : List (Str × Addr)) (fp : List Addr), te s H C cll fp = te X.s_0 X.H_0 0 [] [] := by intro _ _ _ _ _; rfl)
    (hs : ∀ x, foldedSetIterable iter X.env x = pure x := by intro _; rfl) (hs1 : ∀ env x, foldedSetIterable iter1 env x = pure x := by intro _ _; rfl) :
    MSt X cl W (.Assign [.Name y py] (.ListComp elt [⟨tgt, iter, ifs, 0⟩, ⟨tgt1, iter1, ifs1, 0⟩] scope pos) spos) (tAsg (tLc2 wi (g X.s_0 X.H_0 0 [] []) (tt X.s_0 X.H_0 0 [] []) (wi1 X.s_0 X.H_0 0 [] []) (g1 X.s_0 X.H_0 0 [] []) (tt1 X.s_0 X.H_0 0 [] []) (te X.s_0 X.H_0 0 [] []) (own.map (·.2)) vs1) (gName i)) (mAsg (mLc2 mi gm mt mi1 gm1 mt1 me (own.map (·.2)) vs1) (gmName i)) ([] ++ [i]) :=
  ⟨ps_setLc2 hc hN hy hyl hsw hi.pe ok hv (fun s H C c f => eg s H C c f ▸ (hg s H C c f).pe) (fun s H C c f => ett s H C c f ▸ (ht s H C c f).pe) (fun s H C c f => ei s H C c f ▸ (hi1 s H C c f).pe) (fun s H C c f => eg1 s H C c f ▸ (hg1 s H C c f).pe) (fun s H C c f => ett1 s H C c f ▸ (ht1 s H C c f).pe) (fun s H C c f => ete s H C c f ▸ (he s H C c f).pe) hs hs1,
    ss_asg (s_lc2 hi.sn (hg X.s_0 X.H_0 0 [] []).sn (ht X.s_0 X.H_0 0 [] []).sn (hi1 X.s_0 X.H_0 0 [] []).sn (hg1 X.s_0 X.H_0 0 [] []).sn (ht1 X.s_0 X.H_0 0 [] []).sn (he X.s_0 X.H_0 0 [] []).sn hz hz1) sg_name⟩
end
end Pv

/-! PvT -/
set_option Elab.async false
set_option linter.all false
set_option maxRecDepth 100000
set_option maxHeartbeats 1000000
namespace Pv
open PySem L2
/-! ### {k: v} -/
def mDisp1 (mk mv : M D) : M D := mk.bind fun k => mv.bind fun v => fun ρ => match dKey k with
  | some q => if isFlat v = true then some (.ok (.nd true (.dK [q]) [v]), ρ) else none
  | none => none
section
variable {K : PySem.W.Frag} {cl : Nat → Addr} {W : WX} {F F' H H' F1 H1 : Hp} {σ σ' σ1 : L2.St} {ρ ρ' ρ1 : Env} {As As' As1 : Nat → Ads} {T T1 T2 : List Nat} {A A1 O O' : Ads} {v : V} {d : D}
theorem dKey_flat {q : Key} (e : dKey d = some q) : isFlat d = true := by cases d <;> first | rfl | cases e
theorem s_disp1 {tk tv : TE} {mk mv : M D} (hk : Snd K cl W (RE K cl) tk mk T1) (hv : Snd K cl W (RE K cl) tv mv T2) : Snd K cl W (RE K cl) (tDisp [(tk, tv)]) (mDisp1 mk mv) (T1 ++ T2) := by
  intro σ H Q F ρ As r ρ' st e hq hx p hp
  have hF : F p = none := st.sub.free hp
  have kp : ∀ a u, H a = some u → upd H p (.dK []) a = some u := fun a u q => by rw [upd_ne (ne_of_none q hp)]; exact q
  have n : New K cl F H (.ref p) (.nd true (.dK []) []) F (upd H p (.dK [])) (fun a => a = p) := ⟨fun a u q => kp a u (st.sub a u q), .nd (k := .dK []) (vs := []) (B := fun _ _ => False) ⟨⟨rfl, List.nodup_nil⟩, upd_same⟩ rfl (fun i v x q r => by simp at q) (fun _ _ _ z => z.elim) (fun _ z => z) (fun _ _ z => z.elim) (fun b => ⟨.inl, fun z => z.elim id fun ⟨_, z⟩ => z.elim⟩), fun b e => by rw [e]; exact hF, fun _ _ q => q, fun a u q _ => kp a u q, fun a e => .inr (by rw [e]; exact hp), fun _ _ q => .inl q⟩
  obtain ⟨st1, d1, p1, k1⟩ := st.new (T := []) n
  have tm1 : Tm K cl F (upd H p (.dK [])) (.ref p) (.nd true (.dK []) []) (fun a => a = p) := ⟨n.own, n.off⟩
  rcases M.bind_some e with ⟨k, ρ1, e1, e2⟩ | ⟨c, e1, rfl⟩
  rotate_left
  · refine hk σ _ _ F ρ As _ ρ' st1 e1 (fun a q => nomatch q) fun c' q F' H' As' y => ?_
    cases q
    exact hx _ rfl F' H' As' ⟨y.st, p1.trans y.stp (fun _ q => .inl (.inl q)) fun _ q => .inl q⟩
  refine hk σ _ _ F ρ As _ ρ1 st1 e1 (fun a q x F2 H2 As2 A2 u => ?_) fun c q => nomatch q
  cases q
  obtain ⟨tm2, n2⟩ := tm1.carry u.stp fun a q ⟨i, z⟩ => d1 i a z q
  have q1 : Step F H (U As) F2 H2 (fun c => (U As2 c ∨ A2 c) ∨ c = p) := p1.trans u.stp (fun _ q => .inl (.inl q)) fun c q => q.elim .inl fun q => .inr (.inr q)
  rcases M.bind_some e2 with ⟨v, ρ2, e3, e4⟩ | ⟨c, e3, rfl⟩
  rotate_left
  · refine hv σ _ _ F2 ρ1 As2 _ ρ' u.st e3 (fun a q => nomatch q) fun c' q F' H' As' y => ?_
    cases q
    exact hx _ rfl F' H' As' ⟨y.st, q1.trans y.stp (fun _ q => .inl (.inl (.inl q))) fun _ q => .inl q⟩
  refine hv σ _ _ F2 ρ1 As2 _ ρ2 u.st e3 (fun a q y F3 H3 As3 A3 w => ?_) fun c q => nomatch q
  cases q
  obtain ⟨tm3, n3⟩ := tm2.carry w.stp fun a q ⟨i, z⟩ => n2 a q (.inl ⟨i, z⟩)
  have q2 : Step F H (U As) F3 H3 (fun c => (U As3 c ∨ A3 c) ∨ c = p) := q1.trans w.stp (fun _ q => .inl (.inl (.inl q))) fun c q => q.elim .inl fun q => .inr (.inr q)
  cases ek : dKey k with
  | none => rw [ek] at e4; cases e4
  | some key =>
    rw [ek] at e4
    dsimp only at e4
    split at e4
    · rename_i hfv
      cases e4
      have fv : Fz K cl F3 y v := Own.flat w.rel hfv
      have fk : Fz K cl F3 x k := Own.flat u.rel (dKey_flat ek)
      have ex := dKey_ok fk ek
      subst ex
      have hp3 : H3 p = some (.dK []) := by
        have o := tm3.own
        cases o with
        | fz q e => cases q
        | nd h => exact h.2
      have nD : ∀ i b, As3 i b → b ≠ p := fun i b q z => n3 b z (.inl ⟨i, q⟩)
      have kp7 : ∀ b u, b ≠ p → H3 b = some u → upd H3 p (.dK [(key, y)]) b = some u := fun b u q e => by rw [upd_ne q]; exact e
      have fD : ∀ b u, F3 b = some u → b ≠ p := fun b u q z => by subst z; rw [tm3.off _ rfl] at q; cases q
      refine ⟨hp3, [(key, y)], rfl, by simp, hq _ rfl (.ref p) F3 (upd H3 p (.dK [(key, y)])) As3 (fun a => a = p) ⟨⟨w.st.len, fun i d e => let ⟨v, h1, h2⟩ := w.st.sl i d e; ⟨v, h1, h2.frame (fun _ _ q => q) fun a o q e => kp7 a o (nD i a q) e⟩, w.st.em, w.st.dj, fun b u q => kp7 b u (fD b u q) (w.st.sub b u q), w.st.off⟩, ?_, fun i c q z => nD i c q z, fun c z => tm3.off c z, ?_, ⟨fun j hj => ?_⟩⟩⟩
      · refine .nd (k := .dK [key]) (vs := [y]) (B := fun _ _ => False) ⟨⟨rfl, by simp⟩, upd_same⟩ rfl (fun i w x h1 h2 => ?_) (fun _ _ _ z => z.elim) (fun _ z => z) (fun _ _ z => z.elim) fun b => ⟨.inl, fun z => z.elim id fun ⟨_, z⟩ => z.elim⟩
        cases i with
        | zero => cases h1; cases h2; exact .fz fv fun _ z => z
        | succ i => cases h1
      · exact q2.trans (O1' := fun b => b = p) (O2 := fun _ => False) ⟨fun _ _ q => q, fun a o e n => kp7 a o n e, fun _ z => z.elim, fun _ _ q => .inl q⟩ (fun c q => .inl (.inr q)) fun c q => q.elim (fun q => .inr (.inl (.inl q))) fun q => .inr (.inr q)
      · have hj : j ∉ T1 ∧ j ∉ T2 := by simpa [not_or] using hj
        obtain ⟨a1, a2, a3⟩ := k1.k j (by simp)
        obtain ⟨b1, b2, b3⟩ := u.kp.k j hj.1
        obtain ⟨c1, c2, c3⟩ := w.kp.k j hj.2
        exact ⟨c1.trans b1, fun b => (c2 b).trans (b2 b), fun b o q e => kp7 b o (nD j b ((c2 b).mpr ((b2 b).mpr q))) (c3 b o ((b2 b).mpr q) (b3 b o q (a3 b o q e)))⟩
    · cases e4
end
section
variable {X : Cx} {cl : Nat → Addr} {W : WX} {T1 T2 : List Nat}
theorem m_disp1 {k v : Expr} {pos : Pos} {tk tv : TE} {mk mv : M D} (hk : ME X cl W k tk mk T1) (hv : ME X cl W v tv mv T2) : ME X cl W (.Dict [some k] [v] pos) (tDisp [(tk, tv)]) (mDisp1 mk mv) (T1 ++ T2) :=
  ⟨pe_disp (pps_cons hk.pe hv.pe pps_nil) rfl rfl (fun z => by cases z) (by simp), s_disp1 hk.sn hv.sn⟩
end
end Pv

/-! PvS -/
set_option Elab.async false
set_option linter.all false
set_option maxRecDepth 100000
set_option maxHeartbeats 1000000
namespace Pv
open PySem L2
/-! ### range(i, j, -1) -/
def rangeD (i : Int) (n : Nat) : List D := (List.range n).map fun k : Nat => .int (i + k * (-1))
def fRng3 : List D → Option (List D)
  | [.int i, .int j, .int c] => if c = -1 ∧ -(2 ^ 62) ≤ i ∧ i < 2 ^ 62 ∧ -(2 ^ 62) ≤ j ∧ j < 2 ^ 62 then some (rangeD i (i - j).toNat) else none
  | _ => none
section
variable {K : PySem.W.Frag} {cl : Nat → Addr} {W : WX} {F : Hp} {S T : List Nat}
theorem feeds_rangeD {lo : Int} {n : Nat} : Feeds K cl (Itc lo (-1) n) F (rangeD lo n) := fun i F1 H1 s s' => by
  refine ⟨fun hl => (by simpa [rangeD] using hl : n ≤ i), fun d e => ?_⟩
  unfold rangeD at e
  rw [List.getElem?_map] at e
  cases q : (List.range n)[i]? with
  | none => rw [q] at e; cases e
  | some j =>
    rw [q] at e
    obtain ⟨hi, ej⟩ := List.getElem?_eq_some_iff.mp q
    simp at hi ej
    subst ej
    cases e
    exact ⟨hi, fun x H2 ⟨eH, hx⟩ => ⟨F1, by rw [eH]; exact s', by rw [hx]; exact .int _, by rw [eH]; exact .stay⟩⟩
theorem si_range3 {t : TA} {m : M (List Arg)} (h : Snd K cl W (RA K cl S) t m T) : SndI K cl W (iRng3 t) (mArgs1 fRng3 m) T := si_args (g := fun vs H1 R => ∃ (i j c : Int) (n : Nat), vs = [.int i, .int j, .int c] ∧ RgC i j c n ∧ R (Itc i c n) H1) h fun F H vs ds es R s f e k => by
  unfold fRng3 at e
  split at e
  · rename_i i j c
    split at e
    · rename_i hj
      obtain ⟨rfl, h1, h2, h3, h4⟩ := hj
      cases e
      cases f with
      | cons g1 t1 => cases g1; cases t1 with
        | cons g2 t2 => cases g2; cases t2 with
          | cons g3 t3 => cases g3; cases t3; exact ⟨i, j, -1, _, rfl, .neg h1 h2 h3 h4, k _ feeds_rangeD⟩
    · cases e
  · cases e
end
section
variable {X : Cx} {cl : Nat → Addr} {W : WX} {S T : List Nat} {a b c tg : Expr} {n : Nat} {tr : TA} {mr : M (List Arg)} {p pos : Pos}
theorem i_rng3 (hm : X.mg "range" = none) (hg : Gl X "range") (h : MA X cl W [a, b, c] n tr mr S T) (hs : starEach [a, b, c] X.env = (false, eval a X.env) :: starEach [b, c] X.env := by rfl) (hpl : (backTo pos (starEach [b, c] X.env)).any (·.1) = false := by rfl) : MI X cl W tg (.Call (.Name "range" p) [a, b, c] [] pos) (iRng3 tr) (mArgs1 fRng3 mr) T := ⟨pi_range3 hg hm h.pe hs hpl, si_range3 h.sn⟩
end
end Pv

/-! PvR -/
set_option Elab.async false
set_option linter.all false
set_option maxRecDepth 100000
set_option maxHeartbeats 1000000
namespace Pv
open PySem L2
/-! ### a < b < c; str(n) -/
def chK (p q : Int → Int → Bool) (mc : M D) : D → D → M D
  | .int i, .int j => if p i j = true then mc.bind fun c => match c with
      | .int l => M.ret (.bl (q j l))
      | _ => fun _ => none
    else M.ret (.bl false)
  | _, _ => fun _ => none
def mChain (p q : Int → Int → Bool) (ma mb mc : M D) : M D := ma.bind fun a => mb.bind fun b => chK p q mc a b
def fStr : List D → Option D
  | [.int i] => if i.natAbs.log2 < 1920 then some (.str (toString i)) else none
  | _ => none
section
variable {K : PySem.W.Frag} {cl : Nat → Addr} {W : WX} {F F' H H' F1 H1 : Hp} {σ σ' σ1 : L2.St} {ρ ρ' ρ1 : Env} {As As' As1 : Nat → Ads} {T T1 T2 T3 : List Nat} {A A1 O O' : Ads} {v : V} {d : D}
theorem own_int {i : Int} (h : Own K cl F H v (.int i) A) : v = .int i := by
  cases h with
  | fz h e => cases h; rfl
theorem s_chain {ta tb tc : TE} {p q : Int → Int → Bool} {ma mb mc : M D} (ha : Snd K cl W (RE K cl) ta ma T1) (hb : Snd K cl W (RE K cl) tb mb T2) (hc : Snd K cl W (RE K cl) tc mc T3) :
    Snd K cl W (RE K cl) (tChain (rI0 fun i j => .bl (p i j)) (rI0 fun i j => .bl (q i j)) ta tb tc) (mChain p q ma mb mc) (T1 ++ (T2 ++ T3)) := by
  intro σ H Q F ρ As r' ρ' st e hq hx
  refine ha.thn st e (fun a ρ1 x F1 H1 As1 A1 u e1 => ?_) hx
  refine hb.thn u.st e1 (fun b ρ2 y F2 H2 As2 A2 w e2 => ?_) fun c hc F' H' As' z => hx c hc F' H' As' (AftX.after u z)
  have s12 : Step F H (U As) F2 H2 (U As2) := u.stp.trans w.stp (fun _ q => .inl (.inl q)) fun c q => .inl (.inl q)
  have k12 : Keeps ρ ρ2 As As2 H H2 (T1 ++ T2) := u.kp.trans w.kp fun j hj => by simpa [not_or] using hj
  cases a with
  | int i =>
    cases b with
    | int j =>
      have ex := own_int u.rel
      have ey := own_int w.rel
      subst ex ey
      refine ⟨i, j, rfl, rfl, p i j, rfl, ?_⟩
      unfold chK at e2
      dsimp only at e2
      cases hp : p i j with
      | false =>
        rw [hp, if_neg (by simp)] at e2
        obtain ⟨rfl, rfl⟩ := M.ret_some e2
        rw [if_neg (by simp)]
        exact hq _ rfl (.bl false) F2 H2 As2 E0 ⟨w.st, .fz (.bl _) fun _ z => z, fun _ _ _ z => z, fun _ z => z.elim, ⟨s12.ff, s12.keep, fun a z => z.elim (s12.own a) False.elim, s12.fro⟩, ⟨fun j hj => k12.k j fun z => hj (by
          rcases List.mem_append.mp z with z | z
          · exact List.mem_append_left _ z
          · exact List.mem_append_right _ (List.mem_append_left _ z))⟩⟩
      | true =>
        rw [hp, if_pos rfl] at e2
        rw [if_pos rfl]
        refine hc.thn w.st e2 (fun c ρ3 z F3 H3 As3 A3 v e3 => ?_) fun c hc F' H' As' z => hx c hc F' H' As' (AftX.after u (AftX.after w z))
        cases c with
        | int l =>
          have ez := own_int v.rel
          subst ez
          obtain ⟨rfl, rfl⟩ := M.ret_some e3
          have s3 : Step F H (U As) F3 H3 (U As3) := s12.trans v.stp (fun _ q => .inl q) fun c q => .inl (.inl q)
          exact ⟨j, l, rfl, rfl, hq _ rfl (.bl _) F3 H3 As3 E0 ⟨v.st, .fz (.bl _) fun _ z => z, fun _ _ _ z => z, fun _ z => z.elim, ⟨s3.ff, s3.keep, fun a z => z.elim (s3.own a) False.elim, s3.fro⟩, k12.trans v.kp fun j hj => by simpa [not_or, and_assoc] using hj⟩⟩
        | _ => cases e3
    | _ => cases e2
  | _ => cases e2
theorem pn_str : PrN K cl (fun xs H Q => ∃ i, xs = [.int i] ∧ i.natAbs.log2 < 1920 ∧ Q (.str (toString i)) H) fStr := fun F H xs ds d Q s f e k => by
  unfold fStr at e; split at e
  · split at e
    · rename_i hl
      cases e
      cases f with | cons h1 t1 => cases h1; cases t1; exact ⟨_, rfl, hl, k _ _ _ _ (New.flat s (.str _))⟩
    · cases e
  · cases e
end
section
variable {X : Cx} {cl : Nat → Addr} {W : WX} {T1 T2 T3 : List Nat} {a b c : Expr} {ta tb tc : TE} {ma mb mc : M D} {pos : Pos}
theorem m_chLeLe (ha : ME X cl W a ta ma T1) (hb : ME X cl W b tb mb T2) (hc : ME X cl W c tc mc T3) (hm : lastMarks [.LtE, .LtE] [b, c] = false := by with_unfolding_all rfl) : ME X cl W (.Compare a [.LtE, .LtE] [b, c] pos) (tChain (rI0 fun i j => .bl (decide (i ≤ j))) (rI0 fun i j => .bl (decide (i ≤ j))) ta tb tc) (mChain (fun i j => decide (i ≤ j)) (fun i j => decide (i ≤ j)) ma mb mc) (T1 ++ (T2 ++ T3)) :=
  ⟨pe_chain op_le op_le ha.pe hb.pe hc.pe hm, s_chain ha.sn hb.sn hc.sn⟩
theorem t_chLeLe (ha : ME X cl W a ta ma T1) (hb : ME X cl W b tb mb T2) (hc : ME X cl W c tc mc T3) (hm : lastMarks [.LtE, .LtE] [b, c] = false := by with_unfolding_all rfl) : MT X cl W (.Compare a [.LtE, .LtE] [b, c] pos) (tTest (tChain (rI0 fun i j => .bl (decide (i ≤ j))) (rI0 fun i j => .bl (decide (i ≤ j))) ta tb tc)) (mTest (mChain (fun i j => decide (i ≤ j)) (fun i j => decide (i ≤ j)) ma mb mc)) (T1 ++ (T2 ++ T3)) :=
  ⟨pt_chain op_le op_le ha.pe hb.pe hc.pe hm, st_val (s_chain ha.sn hb.sn hc.sn)⟩
theorem m_chLeLt (ha : ME X cl W a ta ma T1) (hb : ME X cl W b tb mb T2) (hc : ME X cl W c tc mc T3) (hm : lastMarks [.LtE, .Lt] [b, c] = false := by with_unfolding_all rfl) : ME X cl W (.Compare a [.LtE, .Lt] [b, c] pos) (tChain (rI0 fun i j => .bl (decide (i ≤ j))) (rI0 fun i j => .bl (decide (i < j))) ta tb tc) (mChain (fun i j => decide (i ≤ j)) (fun i j => decide (i < j)) ma mb mc) (T1 ++ (T2 ++ T3)) :=
  ⟨pe_chain op_le op_lt ha.pe hb.pe hc.pe hm, s_chain ha.sn hb.sn hc.sn⟩
theorem t_chLeLt (ha : ME X cl W a ta ma T1) (hb : ME X cl W b tb mb T2) (hc : ME X cl W c tc mc T3) (hm : lastMarks [.LtE, .Lt] [b, c] = false := by with_unfolding_all rfl) : MT X cl W (.Compare a [.LtE, .Lt] [b, c] pos) (tTest (tChain (rI0 fun i j => .bl (decide (i ≤ j))) (rI0 fun i j => .bl (decide (i < j))) ta tb tc)) (mTest (mChain (fun i j => decide (i ≤ j)) (fun i j => decide (i < j)) ma mb mc)) (T1 ++ (T2 ++ T3)) :=
  ⟨pt_chain op_le op_lt ha.pe hb.pe hc.pe hm, st_val (s_chain ha.sn hb.sn hc.sn)⟩
theorem m_glI {x : Str} {i : Int} (hg : Gl X x) (h : ∃ t, X.mg x = some (.int i t)) (hd : (x == ("__debug__" : Str)) = false := by decide) : ME X cl W (.Name x pos) (tC (.int i)) (M.ret (.int i)) [] := by
  obtain ⟨t, h⟩ := h
  exact m_gl hg h ⟨_, rfl⟩ (fun _ => .int _) hd
end
end Pv

/-! PvP -/
set_option Elab.async false
set_option linter.all false
set_option maxRecDepth 100000
set_option maxHeartbeats 1000000
/-! ### list(zip(a, b)) of two tuples of one length: zip's own tuple stays handed out, so from the second turn on each pair is made anew -/
namespace PySem
open Sem (wp)
section
variable {prog : Program} {w : World} {A : Around} {E : Value → Shared → Prop} {s : Shared} {z TI TO i1 i2 : Addr} {fp1 fp2 : List Addr} {n1 n2 i : Nat} {P1 P2 : Nat → Value → Prop} {St1 St2 : Nat → Heap → Prop} 
@[reducible] def ZRec (h : Heap) (z TI TO T : Addr) (f1 : Bool) : Prop := h.get? z = some { cls := .type "zip", data := .fields #[rawInt (T : Nat), .bool f1, .bool false, .ref TI, .ref TO] }
theorem pv_alive {M : Model} {a : Addr} {Q : Option Obj → Shared → Prop} (h : Q (s.heap.get? a) s) : wpAny M A (Sem.loadIfAlive a Sem.pure) Q E s := fun Γ p _ => by
  rw [Sem.wp_loadIfAlive]; exact h
theorem pv_zipNextK {T : Addr} {f1 : Bool} {Q : Value → Shared → Prop} (hS : ZipSep2 z TI TO i1 i2 fp1 fp2) (D1 : Draws prog w A i1 fp1 n1 P1 St1) (D2 : Draws prog w A i2 fp2 n2 P2 St2)
    (hz : ZRec s.heap z TI TO T f1) (hT : ∃ o, s.heap.get? T = some o) (hTI : IsTupOf2 s.heap TI (.ref i1) (.ref i2)) (h1 : St1 i s.heap) (h2 : St2 i s.heap) (l1 : i < n1) (l2 : i < n2)
    (h : ∀ (x1 x2 : Value) (h' : Heap) (tk : Nat), P1 i x1 → P2 i x2 → ZRec h' z TI TO T true → St1 (i + 1) h' → St2 (i + 1) h' → IsTupOf2 h' s.heap.objs.size x1 x2 → h'.objs.size = s.heap.objs.size + 1 →
      (∀ c o, c ≠ z → c ≠ i1 → c ≠ i2 → s.heap.get? c = some o → h'.get? c = some o) → Q (.ref s.heap.objs.size) { s with heap := h', toks := tk }) :
    wpAny (model prog w) A (Builtin.«zip.__next__» ⟨[.ref z], []⟩) (fun fin s' => ∃ v, fin = .done (.ret v) ∧ Q v s') E s := by
  obtain ⟨o, hT⟩ := hT
  unfold Builtin.«zip.__next__»
  wp_walk
  refine pv_alive ?_
  rw [show ((T : Int)).toNat = T from rfl, hT]
  have hz' : s.heap.get? z = some { cls := .type "zip", data := .fields #[rawInt (T : Nat), .bool f1, .bool false, .ref TI, .ref TO] } := hz
  simp only [← Array.forIn_toList, List.forIn_cons, List.forIn_nil]
  have zi1 : z ≠ i1 := fun e => hS.zf1 (e ▸ hS.mem1)
  have zi2 : z ≠ i2 := fun e => hS.zf2 (e ▸ hS.mem2)
  have i12 : i1 ≠ i2 := fun e => hS.sep1_2 (e ▸ hS.mem2)
  have zl : z < s.heap.objs.size := Heap.lt_size hz'
  have ho : ({ cls := .type "zip", data := .fields #[rawInt (T : Nat), .bool f1, .bool false, .ref TI, .ref TO] } : Obj).isFreed = false := rfl
  have fin : ∀ (g1 g2 h0 : Heap) (x1 x2 : Value), ZRec h0 z TI TO T true → Heap.SameBut z s.heap h0 → P1 i x1 → P2 i x2 → St1 (i + 1) g1 → St2 (i + 1) g2 → Heap.SameBut i1 h0 g1 → Heap.SameBut i2 g1 g2 → ∀ tk, Q (.ref g2.objs.size) { s with heap := g2.push { cls := .type "tuple", data := .seq #[x1, x2] }, toks := tk } := by
    intro g1 g2 h0 x1 x2 z0 e0 p1 p2 st1 st2 sb1 sb2 tk
    have es : g2.objs.size = s.heap.objs.size := by rw [sb2.1, sb1.1, e0.1]
    rw [es]
    have kp : ∀ c o, g2.get? c = some o → (g2.push { cls := .type "tuple", data := .seq #[x1, x2] }).get? c = some o := fun c o q => Heap.get?_push_of_some _ q
    refine h x1 x2 _ tk p1 p2 (kp _ _ ?_) (D1.frame _ _ _ st1 fun b hb o q => kp _ _ ((sb2.2 b (fun e => hS.sep2_1 (e ▸ hb))).trans q)) (D2.frame _ _ _ st2 fun b _ o q => kp _ _ q) ?_ ?_ fun c o c0 c1 c2 q => kp _ _ ?_
    · rw [sb2.2 z zi2, sb1.2 z zi1]; exact z0
    · have := Heap.get?_push_size g2 (o := { cls := .type "tuple", data := .seq #[x1, x2] }) rfl
      rw [es] at this; exact this
    · rw [Heap.size_push, es]
    · rw [sb2.2 c c2, sb1.2 c c1, e0.2 c c0]; exact q
  cases f1
  · have e0 : Heap.SameBut z s.heap (s.heap.update z (Obj.mapFields fun x_1 => x_1.setIfInBounds 1 (.bool true))) := ⟨Heap.size_update .., fun b hb => Heap.get?_update_ne _ _ _ _ hb⟩
    have z0 : ZRec (s.heap.update z (Obj.mapFields fun x_1 => x_1.setIfInBounds 1 (.bool true))) z TI TO T true := Heap.get?_update_self _ hz' rfl
    have u0 : St1 i (s.heap.update z (Obj.mapFields fun x_1 => x_1.setIfInBounds 1 (.bool true))) := D1.frame _ _ _ h1 fun b hb o q => (e0.2 b (fun e => hS.zf1 (e ▸ hb))).trans q
    wp_walk using D1.item i _ _ _ l1 u0
    intro x1 g1 t1 p1 st1 sb1
    have v0 : St2 i g1 := D2.frame _ _ _ h2 fun b hb o q => (sb1.2 b (fun e => hS.sep1_2 (e ▸ hb))).trans ((e0.2 b (fun e => hS.zf2 (e ▸ hb))).trans q)
    wp_walk using D2.item i _ _ _ l2 v0
    intro x2 g2 t2 p2 st2 sb2
    wp_walk
    exact ⟨_, rfl, fin g1 g2 _ x1 x2 z0 e0 p1 p2 st1 st2 sb1 sb2 t2⟩
  · wp_walk using D1.item i _ _ _ l1 h1
    intro x1 g1 t1 p1 st1 sb1
    have v0 : St2 i g1 := D2.frame _ _ _ h2 fun b hb o q => (sb1.2 b (fun e => hS.sep1_2 (e ▸ hb))).trans q
    wp_walk using D2.item i _ _ _ l2 v0
    intro x2 g2 t2 p2 st2 sb2
    wp_walk
    exact ⟨_, rfl, fin g1 g2 _ x1 x2 hz' ⟨rfl, fun _ _ => rfl⟩ p1 p2 st1 st2 sb1 sb2 t2⟩
theorem pv_zipEndK {T : Addr} {f1 : Bool} {Q : Value → Shared → Prop} (hS : ZipSep2 z TI TO i1 i2 fp1 fp2) (D1 : Draws prog w A i1 fp1 n1 P1 St1)
    (hz : ZRec s.heap z TI TO T f1) (hT : ∃ o, s.heap.get? T = some o) (hTI : IsTupOf2 s.heap TI (.ref i1) (.ref i2)) (h1 : St1 n1 s.heap)
    (h : ∀ (h' : Heap) (e : Addr), (∀ c o, c ≠ z → c ≠ i1 → s.heap.get? c = some o → h'.get? c = some o) → (∃ o, h'.get? e = some o ∧ o.cls = .type "StopIteration") → E (.ref e) { s with heap := h' }) :
    wpAny (model prog w) A (Builtin.«zip.__next__» ⟨[.ref z], []⟩) (fun fin s' => ∃ v, fin = .done (.ret v) ∧ Q v s') E s := by
  obtain ⟨o, hT⟩ := hT
  unfold Builtin.«zip.__next__»
  wp_walk
  refine pv_alive ?_
  rw [show ((T : Int)).toNat = T from rfl, hT]
  have hz' : s.heap.get? z = some { cls := .type "zip", data := .fields #[rawInt (T : Nat), .bool f1, .bool false, .ref TI, .ref TO] } := hz
  simp only [← Array.forIn_toList, List.forIn_cons, List.forIn_nil]
  cases f1
  · have e0 : Heap.SameBut z s.heap (s.heap.update z (Obj.mapFields fun x_1 => x_1.setIfInBounds 1 (.bool true))) := ⟨Heap.size_update .., fun b hb => Heap.get?_update_ne _ _ _ _ hb⟩
    have u0 : St1 n1 (s.heap.update z (Obj.mapFields fun x_1 => x_1.setIfInBounds 1 (.bool true))) := D1.frame _ _ _ h1 fun b hb o q => (e0.2 b (fun e => hS.zf1 (e ▸ hb))).trans q
    wp_walk using D1.done _ _ _ u0
    intro g e ex he
    exact h g e (fun c o c0 c1 q => ex c o c1 ((e0.2 c c0).trans q)) he
  · wp_walk using D1.done _ _ _ h1
    intro g e ex he
    exact h g e (fun c o c0 c1 q => ex c o c1 q) he
theorem pv_pyNextK {T : Addr} {f1 : Bool} {Q : Option Value → Shared → Prop} (hS : ZipSep2 z TI TO i1 i2 fp1 fp2) (D1 : Draws prog w A.in1 i1 fp1 n1 P1 St1) (D2 : Draws prog w A.in1 i2 fp2 n2 P2 St2)
    (hz : ZRec s.heap z TI TO T f1) (hT : ∃ o, s.heap.get? T = some o) (hTI : IsTupOf2 s.heap TI (.ref i1) (.ref i2)) (h1 : St1 i s.heap) (h2 : St2 i s.heap) (l1 : i < n1) (l2 : i < n2)
    (h : ∀ (x1 x2 : Value) (h' : Heap) (tk : Nat), P1 i x1 → P2 i x2 → ZRec h' z TI TO T true → St1 (i + 1) h' → St2 (i + 1) h' → IsTupOf2 h' s.heap.objs.size x1 x2 → h'.objs.size = s.heap.objs.size + 1 →
      (∀ c o, c ≠ z → c ≠ i1 → c ≠ i2 → s.heap.get? c = some o → h'.get? c = some o) → Q (some (.ref s.heap.objs.size)) { s with heap := h', toks := tk }) :
    wpAny (model prog w) A (pyNext (.ref z)) Q E s := by
  unfold pyNext
  have hz' : s.heap.get? z = some { cls := .type "zip", data := .fields #[rawInt (T : Nat), .bool f1, .bool false, .ref TI, .ref TO] } := hz
  wp_walk
  rw [F.slot_zip_next.lookup]
  refine wpAny_pure ?_
  refine wpAny_holding ?_
  rw [F.slot_zip_next.bind]
  refine wpAny_bind (wpAny_pure ?_)
  refine wpAny_bind ?_
  have ty : s.TypeIs (.ref z) "zip" := ⟨_, hz', rfl⟩
  refine wpAny_call_entry F.slot_zip_next ty F.entry_zip_next (pv_zipNextK hS D1 D2 hz hT hTI h1 h2 l1 l2 fun x1 x2 h' tk p1 p2 z1 st1 st2 ht es k => ?_)
  wp_walk
  exact h x1 x2 h' tk p1 p2 z1 st1 st2 ht es k
theorem pv_pyNextEndK {T : Addr} {f1 : Bool} {Q : Option Value → Shared → Prop} (hS : ZipSep2 z TI TO i1 i2 fp1 fp2) (D1 : Draws prog w A.in1 i1 fp1 n1 P1 St1) (hz : ZRec s.heap z TI TO T f1) (hT : ∃ o, s.heap.get? T = some o) (hTI : IsTupOf2 s.heap TI (.ref i1) (.ref i2)) (h1 : St1 n1 s.heap)
    (h : ∀ (h' : Heap), (∀ c o, c ≠ z → c ≠ i1 → s.heap.get? c = some o → h'.get? c = some o) → Q none { s with heap := h' }) :
    wpAny (model prog w) A (pyNext (.ref z)) Q E s := by
  unfold pyNext
  have hz' : s.heap.get? z = some { cls := .type "zip", data := .fields #[rawInt (T : Nat), .bool f1, .bool false, .ref TI, .ref TO] } := hz
  wp_walk
  rw [F.slot_zip_next.lookup]
  refine wpAny_pure ?_
  refine wpAny_holding ?_
  rw [F.slot_zip_next.bind]
  refine wpAny_bind (wpAny_pure ?_)
  refine wpAny_bind ?_
  have ty : s.TypeIs (.ref z) "zip" := ⟨_, hz', rfl⟩
  refine wpAny_call_entry F.slot_zip_next ty F.entry_zip_next (pv_zipEndK hS D1 hz hT hTI h1 fun h' e k he => ?_)
  obtain ⟨oe, he, hc⟩ := he
  wp_walk
  rw [hc]
  have sb1 : isSubtype (.type "StopIteration") (.type "StopIteration") = pure true := rfl
  wp_walk
  exact h h' fun c o c0 c1 q => k c o c0 c1 q

/-- zip's state behind i turns -/
structure ZSt (z TI TO i1 i2 a b : Addr) (xs ys : Array Value) (i : Nat) (h : Heap) : Prop where
  ti : IsTupOf2 h TI (.ref i1) (.ref i2)
  to : ∃ x y, IsTupOf2 h TO x y
  d1 : h.IsTupleIter i1 a i ∧ h.IsTuple a xs
  d2 : h.IsTupleIter i2 b i ∧ h.IsTuple b ys
  rc : IsZip h z TI TO .none ∨ ∃ T f1, ZRec h z TI TO T f1 ∧ ∃ o, h.get? T = some o
theorem ZSt.frame {a b : Addr} {xs ys : Array Value} {h h' : Heap} (Z : ZSt z TI TO i1 i2 a b xs ys i h) (k : ∀ c ∈ [z, TI, TO, i1, i2, a, b], ∀ o, h.get? c = some o → h'.get? c = some o) (m : ∀ c o, h.get? c = some o → ∃ o', h'.get? c = some o') : ZSt z TI TO i1 i2 a b xs ys i h' where
  ti := k TI (by simp) _ Z.ti
  to := let ⟨x, y, q⟩ := Z.to; ⟨x, y, k TO (by simp) _ q⟩
  d1 := ⟨Z.d1.1.at fun o q => k i1 (by simp) o q, Z.d1.2.at fun o q => k a (by simp) o q⟩
  d2 := ⟨Z.d2.1.at fun o q => k i2 (by simp) o q, Z.d2.2.at fun o q => k b (by simp) o q⟩
  rc := by
    rcases Z.rc with q | ⟨T, f1, q, o, r⟩
    · exact .inl (k z (by simp) _ q)
    · exact .inr ⟨T, f1, k z (by simp) _ q, m T o r⟩
theorem pv_zNext {a b : Addr} {xs ys : Array Value} {Q : Option Value → Shared → Prop} (hh : A.handled = none) (hS : ZipSep2 z TI TO i1 i2 [i1, a] [i2, b]) (na : a ≠ i1) (nb : b ≠ i2) (Z : ZSt z TI TO i1 i2 a b xs ys i s.heap) (l1 : i < xs.size) (l2 : i < ys.size)
    (h : ∀ (x y : Value) (h' : Heap) (tk : Nat), xs[i]? = some x → ys[i]? = some y → ZSt z TI TO i1 i2 a b xs ys (i + 1) h' → IsTupOf2 h' s.heap.objs.size x y → h'.objs.size = s.heap.objs.size + 1 →
      (∀ c o, c ≠ z → c ≠ TO → c ≠ i1 → c ≠ i2 → s.heap.get? c = some o → h'.get? c = some o) → Q (some (.ref s.heap.objs.size)) { s with heap := h', toks := tk }) :
    wpAny (model prog w) A (pyNext (.ref z)) Q E s := by
  have D1 := Draws.tuple (prog := prog) (w := w) (A := A.in1) hh i1 a na xs
  have D2 := Draws.tuple (prog := prog) (w := w) (A := A.in1) hh i2 b nb ys
  rcases Z.rc with q | ⟨T, f1, q, o, r⟩
  · obtain ⟨u, v, to⟩ := Z.to
    refine wpAny_pyNext_zipD2_item hS D1 D2 q Z.ti to Z.d1 Z.d2 l1 l2 fun x y h' tk p1 p2 z1 to1 st1 st2 ht es k => ?_
    exact h x y h' tk p1 p2 ⟨k _ _ hS.TIz hS.TITO hS.TIi1 hS.TIi2 Z.ti, ⟨_, _, to1⟩, st1, st2, .inr ⟨_, _, z1, _, ht⟩⟩ ht es k
  · refine pv_pyNextK hS D1 D2 q ⟨o, r⟩ Z.ti Z.d1 Z.d2 l1 l2 fun x y h' tk p1 p2 z1 st1 st2 ht es k => ?_
    have n1 : TO ≠ z := hS.TOz
    have n2 : TO ≠ i1 := fun e => hS.Tf1 (by simp [e])
    have n3 : TO ≠ i2 := fun e => hS.Tf2 (by simp [e])
    refine h x y h' tk p1 p2 ⟨k _ _ hS.TIz hS.TIi1 hS.TIi2 Z.ti, let ⟨u, v, to⟩ := Z.to; ⟨u, v, k _ _ n1 n2 n3 to⟩, st1, st2, .inr ⟨T, true, z1, ?_⟩⟩ ht es fun c o c0 _ c2 c3 q => k c o c0 c2 c3 q
    by_cases e1 : T = z
    · rw [e1]; exact ⟨_, z1⟩
    · by_cases e2 : T = i1
      · obtain ⟨⟨u, hu, _⟩, _⟩ := st1; rw [e2]; exact ⟨u, hu⟩
      · by_cases e3 : T = i2
        · obtain ⟨⟨u, hu, _⟩, _⟩ := st2; rw [e3]; exact ⟨u, hu⟩
        · exact ⟨o, k T o e1 e2 e3 r⟩
theorem pv_zEnd {a b : Addr} {xs ys : Array Value} {Q : Option Value → Shared → Prop} (hh : A.handled = none) (hS : ZipSep2 z TI TO i1 i2 [i1, a] [i2, b]) (na : a ≠ i1) (nb : b ≠ i2) (Z : ZSt z TI TO i1 i2 a b xs ys xs.size s.heap) (hl : xs.size = ys.size)
    (h : ∀ (h' : Heap) (tk : Nat), (∀ c o, c ≠ z → c ≠ TO → c ≠ i1 → c ≠ i2 → s.heap.get? c = some o → h'.get? c = some o) → Q none { s with heap := h', toks := tk }) :
    wpAny (model prog w) A (pyNext (.ref z)) Q E s := by
  have D1 := Draws.tuple (prog := prog) (w := w) (A := A.in1) hh i1 a na xs
  have D2 := Draws.tuple (prog := prog) (w := w) (A := A.in1) hh i2 b nb ys
  rcases Z.rc with q | ⟨T, f1, q, o, r⟩
  · obtain ⟨u, v, to⟩ := Z.to
    exact wpAny_pyNext_zipD2_end hS D1 D2 q Z.ti to Z.d1 Z.d2 (Nat.le_refl _) (Nat.le_of_eq hl) (.inl rfl) h
  · exact pv_pyNextEndK hS D1 q ⟨o, r⟩ Z.ti Z.d1 fun h' k => h h' s.toks fun c o c0 _ c2 _ q => k c o c0 c2 q
end
end PySem

/-! PvI -/
set_option Elab.async false
set_option linter.all false
set_option maxRecDepth 100000
set_option maxHeartbeats 1000000

namespace Pv
open PySem L2
/-- list(zip(a, b)) of two tuples of one length -/
def rLZ (K : PySem.W.Frag) : List V → Hp → VK → Prop := fun vs H Q => ∃ (a b : Addr) (us ws : List V), vs = [.ref a, .ref b] ∧ SqT K H a us ∧ SqT K H b ws ∧ us.length = ws.length ∧ us.length ≤ sizeLine ∧
  ∀ (H' : Hp) (q : Addr) (ps : List V), Same H H' → H q = none → H' q = some (.lst ps) → ps.length = us.length → (∀ (j : Nat) (u x : V), us[j]? = some u → ws[j]? = some x → ∃ t, ps[j]? = some (.ref t) ∧ H t = none ∧ t ≠ q ∧ H' t = some (.tup [u, x])) → Q (.ref q) H'
/-- how far list(..) has come -/
structure LZ (X : Cx) (pins : List (Addr × Obj)) (σ : L2.St) (H1 : Hp) (z TI TO i1 i2 a b S : Addr) (xs ys : Array Value) (us ws : List V) (i : Nat) (s : Shared) (Hi : Hp) (ps : List V) : Prop where
  inv : L2.Inv X pins σ Hi s
  sm : Same H1 Hi
  lst : Hi S = some (.lst ps)
  len : ps.length = i
  got : ∀ (j : Nat) (u x : V), j < i → us[j]? = some u → ws[j]? = some x → ∃ t, ps[j]? = some (.ref t) ∧ H1 t = none ∧ t ≠ S ∧ Hi t = some (.tup [u, x])
  fp : ∀ c ∈ [z, TO, i1, i2], FpOk X pins Hi c
  zs : ZSt z TI TO i1 i2 a b xs ys i s.heap
theorem zip_nolen : typeLookup (.type "zip") (Str.ofString "__len__") = pure none := by rfl
theorem zip_nohint : typeLookup (.type "zip") (Str.ofString "__length_hint__") = pure none := by rfl
theorem ZSt.lt {z TI TO i1 i2 a b : Addr} {xs ys : Array Value} {i : Nat} {h : Heap} (Z : ZSt z TI TO i1 i2 a b xs ys i h) : ∀ c ∈ [z, TO, i1, i2], c < h.objs.size := by
  intro c hc
  simp only [List.mem_cons, List.not_mem_nil, or_false] at hc
  rcases hc with e | e | e | e
  · subst e
    rcases Z.rc with q | ⟨_, _, q, _⟩
    · exact Heap.lt_size q
    · exact Heap.lt_size q
  · subst e; obtain ⟨_, _, q⟩ := Z.to; exact Heap.lt_size q
  · subst e; obtain ⟨⟨_, q, _⟩, _⟩ := Z.d1; exact Heap.lt_size q
  · subst e; obtain ⟨⟨_, q, _⟩, _⟩ := Z.d2; exact Heap.lt_size q
theorem lz_loop {X : Cx} {pins : List (Addr × Obj)} {σ : L2.St} {H1 : Hp} {z TI TO i1 i2 a b S : Addr} {xs ys : Array Value} {us ws : List V} {R : Result → Shared → Prop} {A : Around} (hh : A.handled = none) (hS : ZipSep2 z TI TO i1 i2 [i1, a] [i2, b]) (na : a ≠ i1) (nb : b ≠ i2) (nS : ∀ c ∈ [z, TI, TO, i1, i2, a, b], c ≠ S) (hl : xs.size = ys.size) (hn : xs.size ≤ sizeLine) (hS1 : H1 S = none)
    (rx : Vals us xs.toList) (ry : Vals ws ys.toList) (hR : ∀ s Hi ps, L2.Inv X pins σ Hi s → Same H1 Hi → Hi S = some (.lst ps) → ps.length = xs.size →
      (∀ (j : Nat) (u x : V), us[j]? = some u → ws[j]? = some x → ∃ t, ps[j]? = some (.ref t) ∧ H1 t = none ∧ t ≠ S ∧ Hi t = some (.tup [u, x])) → R (.ok (.ret .none)) s) :
    ∀ (k i : Nat) (s : Shared) (Hi : Hp) (ps : List V), i + k = xs.size → LZ X pins σ H1 z TI TO i1 i2 a b S xs ys us ws i s Hi ps →
      codeAny (model X.prog X.w) A (.builtin "list.extend.loop" ⟨[.ref S, .ref z, .none], []⟩) R s := by
  have lu := rx.length
  have lw := ry.length
  simp only [Array.length_toList] at lu lw
  intro k
  induction k with
  | zero =>
    intro i s Hi ps e L
    obtain rfl : i = xs.size := by omega
    refine codeAny_builtin (b := Builtin.«list.extend.loop») (by rfl) ?_
    unfold Builtin.«list.extend.loop»
    refine wpAny_bind (pv_zEnd hh hS na nb L.zs hl fun h' tk k => ?_)
    wp_walk
    have I2 := L.inv.turnedL (ch := [z, TO, i1, i2]) (t' := tk) (fun c o hc q => k c o (fun e => hc (by simp [e])) (fun e => hc (by simp [e])) (fun e => hc (by simp [e])) (fun e => hc (by simp [e])) q) L.fp
    refine hR _ _ _ I2 L.sm L.lst L.len fun j u x h1 h2 => L.got j u x ?_ h1 h2
    have := (List.getElem?_eq_some_iff.mp h1).1
    omega
  | succ k ih =>
    intro i s Hi ps e L
    refine codeAny_builtin (b := Builtin.«list.extend.loop») (by rfl) ?_
    unfold Builtin.«list.extend.loop»
    refine wpAny_bind (pv_zNext hh hS na nb L.zs (by omega) (by omega) fun x y h' tk px py Z' ht es kp => ?_)
    have iu : i < us.length := by omega
    have iw : i < ws.length := by omega
    have gu : us[i]? = some us[i] := List.getElem?_eq_getElem iu
    have gw : ws[i]? = some ws[i] := List.getElem?_eq_getElem iw
    obtain ⟨x', hx, r1⟩ := rx.get gu
    obtain ⟨y', hy, r2⟩ := ry.get gw
    rw [Array.getElem?_toList] at hx hy
    obtain rfl : x = x' := Option.some.inj (px.symm.trans hx)
    obtain rfl : y = y' := Option.some.inj (py.symm.trans hy)
    have nw : ObjOk X.prog X.w (upd Hi s.heap.objs.size (.tup [us[i], ws[i]])) h' s.heap.objs.size (.tup [us[i], ws[i]]) :=
      ⟨by show 2 ≤ sizeLine; decide, [x, y], .cons r1 (.cons r2 .nil), ⟨_, ht, rfl, _, rfl⟩⟩
    have I2 := L.inv.turnedNew (ch := [z, TO, i1, i2]) (t' := tk) (fun c o hc q => kp c o (fun e => hc (by simp [e])) (fun e => hc (by simp [e])) (fun e => hc (by simp [e])) (fun e => hc (by simp [e])) q) L.fp (Nat.le_refl _) nw
    have fr := L.inv.hok.fresh (Nat.le_refl s.heap.objs.size)
    have nSs : S ≠ s.heap.objs.size := fun e => by have := L.lst; rw [e, fr] at this; cases this
    have lS : upd Hi s.heap.objs.size (.tup [us[i], ws[i]]) S = some (.lst ps) := (upd_ne nSs).trans L.lst
    obtain ⟨its, n, hv, hg, hz⟩ := I2.lst lS
    have hg' : h'.get? S = some { cls := Value.type "list", data := Data.seq its.toArray n } := hg
    have I3 := I2.lset (its' := its ++ [.ref s.heap.objs.size]) (ys := ps ++ [.ref s.heap.objs.size]) (f := fun x => x.push (.ref s.heap.objs.size)) (t' := tk) lS hg' (by simp) (hv.append (show Vals [V.ref s.heap.objs.size] [Value.ref s.heap.objs.size] from .cons rfl .nil)) (by simp only [List.length_append, List.length_singleton]; have := L.len; omega)
    have hv' := hv.length
    have lp := L.len
    have zl := Pv.ZSt.lt L.zs
    have pl : (Obj.mapSeq (fun x => x.push (Value.ref s.heap.objs.size)) { cls := Value.type "list", data := Data.seq its.toArray n }).data.pastItsLine = none := by
      show (if (its.toArray.push (Value.ref s.heap.objs.size)).size > sizeLine + 1 then some "sequence:memory" else none) = none
      rw [if_neg]
      simp only [Array.size_push, List.size_toArray]
      omega
    wp_walk
    rw [pl]
    wp_walk
    have sl : ∀ c, c ∈ [z, TI, TO, i1, i2, a, b] → (h'.update S (Obj.mapSeq fun x => x.push (Value.ref s.heap.objs.size))).get? c = h'.get? c := fun c hc => Heap.get?_update_ne _ _ _ _ (nS c hc)
    refine ⟨plainId_quiet (by decide +kernel) _, ih (i + 1) _ _ _ (by omega) ⟨I3, fun c o q => ?_, upd_same, by simp [lp], fun j u x hj h1 h2 => ?_, fun c hc => ?_, Z'.frame (fun c hc o q => (sl c hc).trans q) fun c o q => ?_⟩⟩
    · have q1 := L.sm c o q
      have n1 : c ≠ s.heap.objs.size := fun e => by rw [e, fr] at q1; cases q1
      have n2 : c ≠ S := fun e => by rw [e, hS1] at q; cases q
      rw [upd_ne n2, upd_ne n1]; exact q1
    · rcases Nat.lt_or_ge j i with hji | hji
      · obtain ⟨t, g1, g2, g3, g4⟩ := L.got j u x hji h1 h2
        have n1 : t ≠ s.heap.objs.size := fun e => by rw [e, fr] at g4; cases g4
        refine ⟨t, ?_, g2, g3, ?_⟩
        · rw [List.getElem?_append_left (by omega)]; exact g1
        · rw [upd_ne g3, upd_ne n1]; exact g4
      · obtain rfl : j = i := by omega
        obtain rfl : us[j] = u := Option.some.inj (gu.symm.trans h1)
        obtain rfl : ws[j] = x := Option.some.inj (gw.symm.trans h2)
        refine ⟨s.heap.objs.size, by rw [List.getElem?_append_right (by omega)]; simp [lp], ?_, Ne.symm nSs, ?_⟩
        · cases hq : H1 s.heap.objs.size with
          | none => rfl
          | some o => have := L.sm _ _ hq; rw [fr] at this; cases this
        · rw [upd_ne (Ne.symm nSs)]; exact upd_same
    · have f := L.fp c hc
      have g : (upd (upd Hi s.heap.objs.size (.tup [us[i], ws[i]])) S (.lst (ps ++ [V.ref s.heap.objs.size]))) c = none := by
        have n2 : c ≠ S := nS c (by simp only [List.mem_cons, List.not_mem_nil, or_false] at hc ⊢; rcases hc with h | h | h | h <;> simp [h])
        have n1 : c ≠ s.heap.objs.size := Nat.ne_of_lt (zl c hc)
        rw [upd_ne n2, upd_ne n1]; exact f.1
      exact ⟨g, f.2⟩
    · by_cases n : c = S
      · subst n; exact ⟨_, Heap.get?_update_self _ hg' rfl⟩
      · exact ⟨o, (Heap.get?_update_ne _ _ _ _ n).trans q⟩
theorem lz_call {X : Cx} {pins : List (Addr × Obj)} {σ : L2.St} {H1 : Hp} {z TI TO i1 i2 a b : Addr} {xs ys : Array Value} {us ws : List V} {A : Around} {E : Value → Shared → Prop} {Q : Value → Shared → Prop} {s : Shared} (hh : A.handled = none) (hS : ZipSep2 z TI TO i1 i2 [i1, a] [i2, b]) (na : a ≠ i1) (nb : b ≠ i2) (hl : xs.size = ys.size) (hn : xs.size ≤ sizeLine)
    (rx : Vals us xs.toList) (ry : Vals ws ys.toList) (I : L2.Inv X pins σ H1 s) (fp : ∀ c ∈ [z, TO, i1, i2], FpOk X pins H1 c) (Z : ZSt z TI TO i1 i2 a b xs ys 0 s.heap) (ho : IsZip s.heap z TI TO .none)
    (hR : ∀ s' q Hi ps, L2.Inv X pins σ Hi s' → Same H1 Hi → H1 q = none → Hi q = some (.lst ps) → ps.length = xs.size →
      (∀ (j : Nat) (u x : V), us[j]? = some u → ws[j]? = some x → ∃ t, ps[j]? = some (.ref t) ∧ H1 t = none ∧ t ≠ q ∧ Hi t = some (.tup [u, x])) → Q (.ref q) s') :
    wpAny (model X.prog X.w) A (call (.type "list") [.ref z]) Q E s := by
  refine callType_codes (Q₁ := fun v s1 => v = .ref s.heap.objs.size ∧ s1 = { s with heap := s.heap.push { cls := .type "list", data := .seq #[] } }) F.called_list (F.typeCall_list_1 _) F.entry_list_init (code_list_new _ ⟨rfl, rfl⟩) fun obj s1 ⟨e1, e2⟩ => ?_
  subst e1; subst e2
  have hg : (s.heap.push { cls := .type "list", data := .seq #[] }).get? s.heap.objs.size = some { cls := .type "list", data := .seq #[] } := Heap.get?_push_size _ rfl
  refine ⟨⟨_, hg, rfl⟩, F.args_list_init_2 _ _, ?_⟩
  unfold Builtin.«list.__init__»
  have ho' : (s.heap.push { cls := .type "list", data := .seq #[] }).get? z = some { cls := .type "zip", data := .fields #[.none, .bool false, .bool false, .ref TI, .ref TO] } := Heap.get?_push_of_some _ ho
  have nz : z ≠ s.heap.objs.size := Nat.ne_of_lt (Heap.lt_size ho)
  have ho2 : ((s.heap.push { cls := .type "list", data := .seq #[] }).update s.heap.objs.size (Obj.mapSeq fun x => #[])).get? z = some { cls := .type "zip", data := .fields #[.none, .bool false, .bool false, .ref TI, .ref TO] } := (Heap.get?_update_ne _ _ _ _ nz).trans ho'
  wp_walk
  rw [if_neg (by simp [Builtin.List.listSameRef, Ne.symm nz])]
  refine wpAny_bind (wpAny_pyIter_zip (TI := TI) (TO := TO) (f0 := .none) ho2 ?_)
  unfold Builtin.List.listLengthHint
  wp_walk
  rw [zip_nolen]
  wp_walk
  rw [zip_nohint]
  wp_walk
  have g1 := Heap.get?_update_self (Obj.mapSeq fun x => #[]) hg rfl
  have g2 := Heap.get?_update_self (Obj.mapSeq fun x => x.push Value.none) g1 rfl
  have g3 := Heap.get?_update_self (Obj.mapSeq fun x => x.pop) g2 rfl
  have kp : ∀ c o, s.heap.get? c = some o → ((((s.heap.push { cls := Value.type "list", data := Data.seq #[] }).update s.heap.objs.size (Obj.mapSeq fun x => #[])).update s.heap.objs.size (Obj.mapSeq fun x => x.push Value.none)).update s.heap.objs.size (Obj.mapSeq fun x => x.pop)).get? c = some o := fun c o q => by
    have n : c ≠ s.heap.objs.size := Nat.ne_of_lt (Heap.lt_size q)
    rw [Heap.get?_update_ne _ _ _ _ n, Heap.get?_update_ne _ _ _ _ n, Heap.get?_update_ne _ _ _ _ n]
    exact Heap.get?_push_of_some _ q
  have fr := I.hok.fresh (Nat.le_refl s.heap.objs.size)
  have lts : ∀ c ∈ [z, TI, TO, i1, i2, a, b], c < s.heap.objs.size := by
    intro c hc
    simp only [List.mem_cons, List.not_mem_nil, or_false] at hc
    have l4 := Pv.ZSt.lt Z
    rcases hc with e | e | e | e | e | e | e
    · exact l4 c (by simp [e])
    · subst e; exact Heap.lt_size Z.ti
    · exact l4 c (by simp [e])
    · exact l4 c (by simp [e])
    · exact l4 c (by simp [e])
    · subst e; obtain ⟨_, _, q, _⟩ := Z.d1; exact Heap.lt_size q
    · subst e; obtain ⟨_, _, q, _⟩ := Z.d2; exact Heap.lt_size q
  refine ⟨plainId_quiet (by decide +kernel) _, lz_loop (A := A.in1) (pins := pins) (σ := σ) (H1 := H1) hh hS na nb (fun c hc => Nat.ne_of_lt (lts c hc)) hl hn fr rx ry (fun s' Hi ps h1 h2 h3 h4 h5 => ⟨rfl, hR s' _ Hi ps h1 h2 fr h3 h4 h5⟩) xs.size 0 _ (upd H1 s.heap.objs.size (.lst [])) [] (Nat.zero_add _) ⟨I.laid (t' := s.toks) kp (Nat.le_refl _) ?_, fun c o q => ?_, upd_same, rfl, fun j _ _ hj => absurd hj (Nat.not_lt_zero j), fun c hc => ?_, Z.frame (fun c hc o q => kp c o q) fun c o q => ⟨o, kp c o q⟩⟩⟩
  · exact ⟨by show 0 ≤ sizeLine; decide, [], _, .nil, g3⟩
  · have n : c ≠ s.heap.objs.size := fun e => by rw [e, fr] at q; cases q
    rw [upd_ne n]; exact q
  · have f := fp c hc
    have n : c ≠ s.heap.objs.size := Nat.ne_of_lt (Pv.ZSt.lt Z c hc)
    exact ⟨(upd_ne n).trans f.1, f.2⟩
end Pv

/-! PvQ -/
set_option Elab.async false
set_option linter.all false
set_option maxRecDepth 100000
set_option maxHeartbeats 1000000
/-! ### enumerate of a tuple -/
namespace PySem
open Sem (wp)
theorem pv_enumNewT (t : Addr) (its : Array Value) :
    Meets (Builtin.«enumerate.__new__» ⟨[.type "enumerate", .ref t], []⟩) (fun _ R s => s.heap.IsTuple t its ∧
      R (.ok (.ret (.ref (s.heap.push { cls := .type "tuple_iterator", data := .fields #[.ref t, .int 0 0] }).objs.size)))
        { s with heap := (s.heap.push { cls := .type "tuple_iterator", data := .fields #[.ref t, .int 0 0] }).push { cls := .type "enumerate", data := .fields #[.none, .bool false, .ref s.heap.objs.size, rawInt 0, .none, .none] } }) :=
  .of_wp fun prog w A R s h => by
    obtain ⟨hp, g, d, tk, os⟩ := s; obtain ⟨hT, h⟩ := h
    have sb0 := sub_enumerate
    have hT1 : Heap.IsTuple (Shared.heap ⟨hp, g, d, tk, os⟩) t its := hT
    wp_walk using wpAny_pyIter_tuple hT1
    refine wpAny_stack_any fun sk => wpAny_pure ?_
    split
    · rename_i c0 _ _ _ _ _
      cases (c0 == Value.type "enumerate")
      · wp_walk using wpAny_pyIter_tuple hT1
        exact ⟨_, rfl, h⟩
      · wp_walk using wpAny_pyIter_tuple hT1
        exact ⟨_, rfl, h⟩
    · wp_walk using wpAny_pyIter_tuple hT1
      exact ⟨_, rfl, h⟩
section
variable {prog : Program} {w : World} {A : Around} {E : Value → Shared → Prop} {s : Shared}
theorem pv_callEnumT {t : Addr} {its : Array Value} {Q : Value → Shared → Prop} (hT : s.heap.IsTuple t its)
    (h : ∀ h1, IsEnum h1 (s.heap.objs.size + 1) s.heap.objs.size 0 .none → h1.IsTupleIter s.heap.objs.size t 0 → h1.objs.size = s.heap.objs.size + 2 →
      (∀ b u, s.heap.get? b = some u → h1.get? b = some u) → Q (.ref (s.heap.objs.size + 1)) { s with heap := h1 }) :
    wpAny (model prog w) A (call (.type "enumerate") [.ref t]) Q E s := by
  refine callType_new F.called_enumerate (by decide) (F.typeCall_enumerate_1 _) (F.newCall_enumerate_1 _) (fun ob => F.args_object_init_2 ob _) F.entry_enumerate_new (pv_enumNewT t its) ⟨hT, ?_⟩
  have z1 : (s.heap.push { cls := .type "tuple_iterator", data := .fields #[.ref t, .int 0 0] }).objs.size = s.heap.objs.size + 1 := Heap.size_push ..
  show _ ∧ _
  rw [z1]
  have en : IsEnum ((s.heap.push { cls := .type "tuple_iterator", data := .fields #[.ref t, .int 0 0] }).push { cls := .type "enumerate", data := .fields #[.none, .bool false, .ref s.heap.objs.size, rawInt 0, .none, .none] }) (s.heap.objs.size + 1) s.heap.objs.size 0 .none := by
    have q := Heap.get?_push_size (s.heap.push { cls := .type "tuple_iterator", data := .fields #[.ref t, .int 0 0] }) (o := { cls := .type "enumerate", data := .fields #[.none, .bool false, .ref s.heap.objs.size, rawInt 0, .none, .none] }) rfl
    rw [z1] at q; exact q
  exact ⟨⟨_, en, rfl⟩, h _ en ⟨_, Heap.get?_push_of_some _ (Heap.get?_push_size _ rfl), rfl, rfl⟩ (by rw [Heap.size_push, z1]) fun b u q => Heap.get?_push_of_some _ (Heap.get?_push_of_some _ q)⟩
theorem pv_drawsEnd (hh : A.handled = none) {it t : Addr} {i : Nat} {its : Array Value} (hl : its.size ≤ i) : Draws prog w A it [it, t] 0 (fun _ _ => True) (fun k h => k = 0 ∧ h.IsTupleIter it t i ∧ h.IsTuple t its) where
  live := fun _ _ st => let ⟨_, ⟨o, ho, _⟩, _⟩ := st; ⟨o, ho⟩
  frame := fun _ _ _ st hk => ⟨st.1, st.2.1.at fun u q => hk it (by simp) u q, st.2.2.at fun u q => hk t (by simp) u q⟩
  item := fun i s Q E hi _ _ => absurd hi (Nat.not_lt_zero _)
  done := fun s Q E st hE => wpAny_nextOf_tuple_end hh st.2.1 st.2.2 (by simp [hl]) hE
end
end PySem
namespace Pv
open PySem L2
/-- the tuple at a, each item in a new pair behind its number -/
def IteT (K : PySem.W.Frag) (a : Addr) : It :=
  ⟨fun i H => ∃ (us : List V) (x : V), SqT K H a us ∧ us[i]? = some x, fun i H v H1 => ∃ T x, v = .ref T ∧ H T = none ∧ H1 = upd H T (.tup [.int (i : Nat), x]) ∧ ∀ us, SqT K H a us → us[i]? = some x, fun i H => ∃ us : List V, SqT K H a us ∧ us.length ≤ i⟩
theorem turn_enumT {P : Program} {w : World} {K : PySem.W.Frag} {elts : List Expr} {kk : Nat} {tpos : Pos} (a e it : Addr) :
    Turn P w K (.Tuple elts kk tpos) (IteT K a) [e, it] e (fun i h => (∃ ov, IsEnum h e it ((i : Nat) : Int) ov) ∧ h.IsTupleIter it a i ∧ e ≠ it ∧ e ≠ a ∧ a ≠ it) where
  mem := List.mem_cons_self
  obj := fun i h st b hb => by
    obtain ⟨⟨ov, he⟩, ⟨o, ho, _, hd⟩, _⟩ := st
    rcases List.mem_cons.mp hb with q | q
    · subst q; exact ⟨_, he, fun _ z => nomatch z⟩
    · obtain rfl : b = it := by simpa using q
      exact ⟨o, ho, fun _ z => by rw [hd] at z; cases z⟩
  keep := fun i h h1 st k => let ⟨⟨ov, he⟩, hi, hne⟩ := st; ⟨⟨ov, k e List.mem_cons_self _ he⟩, hi.at fun u q => k it (List.mem_cons_of_mem _ List.mem_cons_self) u q, hne⟩
  item := by
    intro X hP hw hK hc i pins s σ H E I hf st hg
    subst hP; subst hw; subst hK
    obtain ⟨⟨ov, he⟩, hit, n1, n2, n3⟩ := st
    obtain ⟨us, x, hq, hx⟩ := hg
    obtain ⟨its, rv, p, hz⟩ := I.tuple hq
    obtain ⟨u, hu, ru⟩ := rv.get hx
    have p' : s.heap.IsTuple a its.toArray := p
    have el : e < s.heap.objs.size := Heap.lt_size he
    have il : it < s.heap.objs.size := by obtain ⟨_, q, _⟩ := hit; exact Heap.lt_size q
    have hlt : i < its.toArray.size := by
      have := (List.getElem?_eq_some_iff.mp hu).1
      simpa using this
    refine wpAny_pyNext_enum_itemD (Draws.tuple (A := X.A.in1) (I.ok.hd hc) it a n3 its.toArray) he ⟨hit, p'⟩ hlt n1 (by simp [n1, n2]) fun y h1 tk hy ho hit1 hT hsz hk => ?_
    obtain rfl : u = y := by
      have h2 : its.toArray[i]? = some u := by simpa using hu
      rw [h2] at hy; exact Option.some.inj hy
    refine ⟨_, rfl, wpAny_letOwnedTupleGo_enum (s := { s with heap := h1, toks := tk + 1 }) ho fun h2 he2 sb => ?_⟩
    have hT2 : h2.get? s.heap.objs.size = some { cls := .type "tuple", data := .seq #[.int i tk, u] } := (sb.2 _ (Nat.ne_of_gt el)).trans hT
    have nw : ObjOk X.prog X.w (upd H s.heap.objs.size (.tup [.int (i : Nat), x])) h2 s.heap.objs.size (.tup [.int (i : Nat), x]) :=
      ⟨by show 2 ≤ sizeLine; decide, [.int i tk, u], .cons ⟨_, rfl⟩ (.cons ru .nil), ⟨_, hT2, rfl, _, rfl⟩⟩
    have I2 : Inv X pins σ (upd H s.heap.objs.size (.tup [.int (i : Nat), x])) { s with heap := h2, toks := tk + 1 } :=
      I.turnedNew (ch := [e, it]) (fun b ob nb q => (sb.2 b (fun z => nb (by simp [z]))).trans (hk b ob (fun z => nb (by simp [z])) (fun z => nb (by simp [z])) q)) hf (Nat.le_refl _) nw
    have ei : ((i + 1 : Nat) : Int) = (i : Int) + 1 := by omega
    refine ⟨.ref s.heap.objs.size, _, I2, rfl, ⟨_, x, rfl, I.hok.fresh (Nat.le_refl _), rfl, fun ws hy => by rw [I.tuple_inj hy hq]; exact hx⟩, ⟨⟨u, by rw [ei]; exact he2⟩, hit1.1.at fun o q => (sb.2 it (Ne.symm n1)).trans q, n1, n2, n3⟩, fun b hb => ?_⟩
    have lb : b < s.heap.objs.size := by
      rcases List.mem_cons.mp hb with q | q
      · subst q; exact el
      · obtain rfl : b = it := by simpa using q
        exact il
    rw [upd_ne (Nat.ne_of_lt lb)]
    exact (hf b hb).1
  done := by
    intro X hP hw hK hc i pins s σ H E I hf st hg
    subst hP; subst hw; subst hK
    obtain ⟨⟨ov, he⟩, hit, n1, n2, n3⟩ := st
    obtain ⟨us, hq, hx⟩ := hg
    obtain ⟨its, rv, p, hz⟩ := I.tuple hq
    have p' : s.heap.IsTuple a its.toArray := p
    obtain ⟨f0, f1, f2, f3, f4, f5⟩ := hf it (List.mem_cons_of_mem _ List.mem_cons_self)
    have hl := rv.length
    refine wpAny_pyNext_enum_endD (pv_drawsEnd (A := X.A.in1) (I.ok.hd hc) (i := i) (its := its.toArray) (by simp; omega)) he ⟨rfl, hit, p'⟩ fun h1 eb => ⟨rfl, I.turned (t' := s.toks) (fun b o hb q => eb b o hb q) f0 f1 f3 f4 f5⟩
  self := fun A i s Q E st h => let ⟨⟨_, he⟩, _⟩ := st; wpAny_pyIter_enum he h
def iEnumT (K : PySem.W.Frag) (ta : TA) : TI := fun σ H R => ta σ H fun vs H1 => ∃ a us, vs = [.ref a] ∧ SqT K H1 a us ∧ R (IteT K a) H1
theorem pi_enumT {X : Cx} {e : Expr} {ta : TA} {p pos tpos : Pos} {elts : List Expr} {kk : Nat} (hg : Gl X "enumerate") (hm : X.mg "enumerate" = none) (ha : PA X [e] ta) (hs : starEach [e] X.env = [(false, eval e X.env)] := by rfl) :
    PI X (.Tuple elts kk tpos) (.Call (.Name "enumerate" p) [e] [] pos) (iEnumT X.K ta) := by
  refine ⟨fun pins s σ H R I h => ?_⟩
  refine PyProof.Rows.Call_ (ld_blt I hg hm PyProof.Rows.boot_enumerate (PyProof.Rows.callWith_type1 (thn (ha.run pos pins s σ H _ I h) fun vs s1 ⟨ds, H1, I1, r1, q1⟩ => ?_) hs rfl))
  obtain ⟨a, us, ex, hq, q⟩ := q1
  subst ex
  cases r1 with
  | cons r r2 =>
    cases r2; cases r
    obtain ⟨its, rv, pt, hz⟩ := I1.tuple hq
    have p1 : s1.heap.IsTuple a its.toArray := pt
    have al : a < s1.heap.objs.size := by obtain ⟨o, ho, _⟩ := p1; exact Heap.lt_size ho
    refine pv_callEnumT p1 fun h1 he hit hsz hk => wpAny_pyIter_enum he ?_
    have I2 : Inv X pins σ H1 { s1 with heap := h1 } := I1.kept (t' := s1.toks) hk
    refine ⟨s1.heap.objs.size + 1, [s1.heap.objs.size + 1, s1.heap.objs.size], _, _, H1, rfl, I2, turn_enumT a (s1.heap.objs.size + 1) s1.heap.objs.size, ⟨⟨.none, he⟩, hit, Nat.succ_ne_self _, Nat.ne_of_gt (Nat.lt_succ_of_lt al), Nat.ne_of_lt al⟩, fun b hb => ?_, q⟩
    have lb : s1.heap.objs.size ≤ b := by
      rcases List.mem_cons.mp hb with z | z
      · subst z; exact Nat.le_succ _
      · obtain rfl : b = s1.heap.objs.size := by simpa using z
        exact Nat.le_refl _
    exact I1.fpOk lb (I1.hok.fresh lb)
end Pv

/-! PvJ -/
set_option Elab.async false
set_option linter.all false
set_option maxRecDepth 100000
set_option maxHeartbeats 1000000
namespace Pv
open PySem L2
theorem pe_listZip {X : Cx} {e1 e2 : Expr} {ta : TA} {p p0 p1 pos : Pos} (hc : X.calm = true) (hgl : Gl X "list") (hml : X.mg "list" = none) (hgz : Gl X "zip") (hmz : X.mg "zip" = none) (ha : PA X [e1, e2] ta)
    (hs : starEach [e1, e2] X.env = (false, eval e1 X.env) :: starEach [e2] X.env := by rfl) (hpl : (backTo p1 (starEach [e2] X.env)).any (·.1) = false := by rfl)
    (hs2 : starEach [.Call (.Name "zip" p0) [e1, e2] [] p1] X.env = (false, eval (.Call (.Name "zip" p0) [e1, e2] [] p1) X.env) :: starEach [] X.env := by rfl) :
    PE X (.Call (.Name "list" p) [.Call (.Name "zip" p0) [e1, e2] [] p1] [] pos) (tCB (rLZ X.K) ta) := by
  refine ⟨fun pins s σ H Q I h => PyProof.Rows.Call_ (ld_blt I hgl hml PyProof.Rows.boot_list ?_)⟩
  rw [hs2]
  refine PySem.callWith_type1 (PyProof.Rows.Call_ (ld_blt I hgz hmz PyProof.Rows.boot_zip (PyProof.Rows.callWith_type1 (thn (ha.run _ pins s σ H _ I h) fun vs s1 ⟨ds, H1, I1, r1, q1⟩ => ?_) hs hpl)))
  obtain ⟨a, b, us, ws, ex, hu, hw, hl, hn, k⟩ := q1
  subst ex
  cases r1 with
  | cons ra r2 =>
  cases r2 with
  | cons rb r3 =>
  cases r3; cases ra; cases rb
  obtain ⟨xs, rx, px, hzx⟩ := I1.tuple hu
  obtain ⟨ys, ry, py, hzy⟩ := I1.tuple hw
  have p1 : s1.heap.IsTuple a xs.toArray := px
  have p2 : s1.heap.IsTuple b ys.toArray := py
  have al : a < s1.heap.objs.size := by obtain ⟨o, ho, _⟩ := p1; exact Heap.lt_size ho
  have bl : b < s1.heap.objs.size := by obtain ⟨o, ho, _⟩ := p2; exact Heap.lt_size ho
  refine zip_begins2 (begins_tuple a xs.toArray) (begins_tuple b ys.toArray) p1 p2 fun h1 z0 t0 o0 d1 d2 hsz hk => ?_
  have I2 : Inv X pins σ H1 { s1 with heap := h1 } := I1.kept (t' := s1.toks) hk
  have lu := rx.length
  have lw := ry.length
  have sep := zip_sep2 (N := s1.heap.objs.size) (fp1 := [a]) (fp2 := [b]) (fun c hc => by simp at hc; subst hc; exact al) (fun c hc => by simp at hc; subst hc; exact bl)
  refine lz_call (A := X.A) (pins := pins) (σ := σ) (H1 := H1) (xs := xs.toArray) (ys := ys.toArray) (us := us) (ws := ws) (I1.ok.hd hc) sep (Nat.ne_of_lt al) (Nat.ne_of_lt (Nat.lt_succ_of_lt bl)) (by simp; omega) (by simp; omega) (by simpa using rx) (by simpa using ry) I2 (fun c hc => ?_) ⟨t0, ⟨_, _, o0⟩, ⟨⟨_, d1, rfl, rfl⟩, p1.at fun o q => hk a o q⟩, ⟨⟨_, d2, rfl, rfl⟩, p2.at fun o q => hk b o q⟩, .inl z0⟩ z0 fun s' q Hi ps J1 J2 J3 J4 J5 J6 => ?_
  · have lb : s1.heap.objs.size ≤ c := by
      simp only [List.mem_cons, List.not_mem_nil, or_false] at hc
      rcases hc with e | e | e | e <;> (subst e; first | exact Nat.le_add_right _ _ | exact Nat.le_refl _)
    exact I1.fpOk lb (I1.hok.fresh lb)
  · exact ⟨.ref q, Hi, J1, rfl, k Hi q ps J2 J3 J4 (by rw [J5]; simp; omega) J6⟩
section
variable {K : PySem.W.Frag} {cl : Nat → Addr} {W : WX} {S T : List Nat}
/-- list(zip(a, b)) of two tuples of one length -/
def fListZip : List D → Option D
  | [a, b] => match tupOf a, tupOf b with
    | some xs, some ys => if xs.length = ys.length ∧ xs.length ≤ 16777216 then some (.own (zipL xs ys)) else none
    | _, _ => none
  | _ => none
theorem pn_listZip : PrN K cl (rLZ K) fListZip := fun F H vs ds d Q s f e k => by
  unfold fListZip at e
  split at e
  · rename_i a b
    split at e
    · rename_i xs ys hx hy
      split at e
      · rename_i hl
        cases e
        cases f with
        | cons h1 t1 => cases t1 with
          | cons h2 t2 =>
            cases t2
            obtain ⟨p, us, rfl, q1, f1⟩ := tupOf_ok h1 hx
            obtain ⟨q, ws, rfl, q2, f2⟩ := tupOf_ok h2 hy
            have l1 := f1.len
            have l2 := f2.len
            refine ⟨p, q, us, ws, rfl, sqT_same s q1, sqT_same s q2, by omega, by rw [l1]; exact hl.2, fun H' r ps sm hr hp lp hps => ?_⟩
            let F' : Hp := fun c => match F c with
              | some o => some o
              | none => if H c = none ∧ c ≠ r then H' c else none
            have Ff : Same F F' := fun c o e => by show (match F c with | some o => some o | none => _) = some o; rw [e]
            have Fh : Same F' H' := fun c o e => by
              have e' : (match F c with | some o => some o | none => if H c = none ∧ c ≠ r then H' c else none) = some o := e
              split at e'
              · rename_i o' hF; cases e'; exact sm c _ (s c _ hF)
              · split at e'
                · exact e'
                · cases e'
            have Fn : ∀ c, H c = none → c ≠ r → F' c = H' c := fun c h1 h2 => by
              show (match F c with | some o => some o | none => if H c = none ∧ c ≠ r then H' c else none) = H' c
              rw [s.free h1, if_pos ⟨h1, h2⟩]
            have Fr : F' r = none := by
              show (match F r with | some o => some o | none => if H r = none ∧ r ≠ r then H' r else none) = none
              rw [s.free hr, if_neg (fun h => h.2 rfl)]
            have fl : FzL K cl F' ps (zipL xs ys) := by
              refine FzL.of (by unfold zipL; rw [lp, List.length_zipWith]; omega) fun i v d hv hd => ?_
              obtain ⟨x, y, e1, e2, rfl⟩ := zipL_at hd
              obtain ⟨u, hu, z1⟩ := f1.at' e1
              obtain ⟨w, hw, z2⟩ := f2.at' e2
              obtain ⟨t, ht, g1, g2, g3⟩ := hps i u w hu hw
              rw [hv] at ht; cases ht
              have gt : F' t = some (.tup [u, w]) := (Fn t g1 g2).trans g3
              exact .nd (k := .tup) gt rfl (FzL.get (.cons (z1.same Ff) (.cons (z2.same Ff) .nil)))
            refine k (.ref r) F' H' (fun a => a = r) ⟨Fh, ?_, fun b e => by rw [e]; exact Fr, ⟨Ff, fun c o q _ => sm c o q, fun c e => .inr (by rw [e]; exact hr), fun c o q => ?_⟩⟩
            · exact .nd (k := .lst) (B := fun _ _ => False) hp (fl.len) (fun i v x q r => .fz (fl.get i v x q r) fun _ z => z) (fun _ _ _ z => z.elim) (fun _ z => z) (fun _ _ z => z.elim) (fun b => ⟨.inl, fun z => z.elim id fun ⟨_, z⟩ => z.elim⟩)
            · by_cases hF : F c = none
              · right; right
                cases hH : H c with
                | none => rfl
                | some o' =>
                  exfalso
                  have e' : (match F c with | some o => some o | none => if H c = none ∧ c ≠ r then H' c else none) = some o := q
                  rw [hF, if_neg (fun h => by rw [hH] at h; cases h.1)] at e'
                  cases e'
              · left
                cases hF2 : F c with
                | none => exact absurd hF2 hF
                | some o' => have := Ff c o' hF2; rw [q] at this; cases this; rfl
      · cases e
    · cases e
  · cases e
variable {X : Cx} {a b : Expr} {p p0 p1 pos : Pos} {n : Nat} {tr : TA} {mr : M (List Arg)}
theorem m_listZip (hc : X.calm = true) (hgl : Gl X "list") (hml : X.mg "list" = none) (hgz : Gl X "zip") (hmz : X.mg "zip" = none) (ha : MA X cl W [a, b] n tr mr S T)
    (hs : starEach [a, b] X.env = (false, eval a X.env) :: starEach [b] X.env := by rfl) (hpl : (backTo p1 (starEach [b] X.env)).any (·.1) = false := by rfl)
    (hs2 : starEach [.Call (.Name "zip" p0) [a, b] [] p1] X.env = (false, eval (.Call (.Name "zip" p0) [a, b] [] p1) X.env) :: starEach [] X.env := by rfl) :
    ME X cl W (.Call (.Name "list" p) [.Call (.Name "zip" p0) [a, b] [] p1] [] pos) (tCB (rLZ X.K) tr) (mCB fListZip mr) T := ⟨pe_listZip hc hgl hml hgz hmz ha.pe hs hpl hs2, s_cb pn_listZip ha.sn⟩
/-! zip and enumerate of tuples, walked -/
theorem si_zipT {t : TA} {m : M (List Arg)} (h : Snd K cl W (RA K cl S) t m T) : SndI K cl W (RZ.iZipA K t) (mArgs1 fZipT m) T := si_args (g := fun vs H1 R => ∃ a b xs ys, vs = [.ref a, .ref b] ∧ (SqL K H1 a xs ∧ SqL K H1 b ys ∧ R (Itz K a b) H1 ∨ SqT K H1 a xs ∧ SqT K H1 b ys ∧ R (RZ.ItzT K a b) H1)) h fun F H vs ds es R s f e k => by
  unfold fZipT at e
  split at e
  · rename_i a b
    split at e
    · rename_i xs ys hx hy
      cases e
      cases f with
      | cons h1 t1 => cases t1 with
        | cons h2 t2 =>
          cases t2
          obtain ⟨p, us, rfl, q1, f1⟩ := tupOf_ok h1 hx
          obtain ⟨q, ws, rfl, q2, f2⟩ := tupOf_ok h2 hy
          refine ⟨p, q, us, ws, rfl, .inr ⟨sqT_same s q1, sqT_same s q2, k _ (feeds_new fun i F1 H1 s1 s2 => ?_)⟩⟩
          have r1 : SqT K H1 p us := sqT_same (s1.trans s2) q1
          have r2 : SqT K H1 q ws := sqT_same (s1.trans s2) q2
          refine ⟨fun hl => ?_, fun d e => ?_⟩
          · have l1 := f1.len
            have l2 := f2.len
            simp only [zipL, List.length_zipWith] at hl
            exact ⟨us, ws, r1, r2, by omega⟩
          · obtain ⟨x, y, e1, e2, rfl⟩ := zipL_at e
            obtain ⟨v, hv, z1⟩ := f1.at' e1
            obtain ⟨w, hw, z2⟩ := f2.at' e2
            refine ⟨⟨us, ws, v, w, r1, r2, hv, hw⟩, fun u H2 ⟨T, x', y', a1, a2, a3, a4, a5⟩ => ⟨T, _, _, a1, a2, a3, rfl, ?_⟩⟩
            have b1 := a4 us r1
            have b2 := a5 ws r2
            rw [hv] at b1; rw [hw] at b2; cases b1; cases b2
            exact .cons (z1.same s1) (.cons (z2.same s1) .nil)
    · cases e
  · cases e
theorem i_zipT {elts : List Expr} {kk : Nat} {tpos : Pos} (hm : X.mg "zip" = none) (hg : Gl X "zip") (h : MA X cl W [a, b] n tr mr S T) (hs : starEach [a, b] X.env = (false, eval a X.env) :: starEach [b] X.env := by rfl) (hpl : (backTo pos (starEach [b] X.env)).any (·.1) = false := by rfl) : MI X cl W (.Tuple elts kk tpos) (.Call (.Name "zip" p) [a, b] [] pos) (RZ.iZipA X.K tr) (mArgs1 fZipT mr) T := ⟨RZ.pi_zipA hg hm h.pe hs hpl, si_zipT h.sn⟩
def fEnumT : List D → Option (List D)
  | [a] => (tupOf a).map enumL
  | _ => none
theorem feeds_enumT {a : Addr} {vs : List V} {xs : List D} {F : Hp} (h : SqT K F a vs) (f : FzL K cl F vs xs) : Feeds K cl (IteT K a) F (enumL xs) := feeds_new fun i F1 H1 s s' => by
  have hq : SqT K H1 a vs := sqT_same (s.trans s') h
  refine ⟨fun hl => ⟨vs, hq, by rw [f.len]; simpa [enumL] using hl⟩, fun d e => ?_⟩
  unfold enumL at e
  rw [List.getElem?_map, List.getElem?_zipIdx] at e
  cases q : xs[i]? with
  | none => rw [q] at e; cases e
  | some x =>
    rw [q] at e
    cases e
    obtain ⟨v, hv, fz⟩ := f.at' q
    refine ⟨⟨vs, v, hq, hv⟩, fun y H2 ⟨T, x', e1, e2, e3, e4⟩ => ⟨T, _, _, e1, e2, e3, rfl, ?_⟩⟩
    have := e4 vs hq
    rw [hv] at this; cases this
    simp only [Nat.zero_add]
    exact .cons (.int _) (.cons (fz.same s) .nil)
theorem si_enumT {t : TA} {m : M (List Arg)} (h : Snd K cl W (RA K cl S) t m T) : SndI K cl W (iEnumT K t) (mArgs1 fEnumT m) T := si_args (g := fun vs H1 R => ∃ a us, vs = [.ref a] ∧ SqT K H1 a us ∧ R (IteT K a) H1) h fun F H vs ds es R s f e k => by
  unfold fEnumT at e
  split at e
  · rename_i a
    cases hx : tupOf a with
    | none => rw [hx] at e; cases e
    | some xs =>
      rw [hx] at e
      cases e
      cases f with
      | cons h1 t1 =>
        cases t1
        obtain ⟨p, us, rfl, q1, f1⟩ := tupOf_ok h1 hx
        exact ⟨p, us, rfl, sqT_same s q1, k _ (feeds_enumT q1 f1)⟩
  · cases e
theorem i_enumT {elts : List Expr} {kk : Nat} {tpos : Pos} (hm : X.mg "enumerate" = none) (hg : Gl X "enumerate") (h : MA X cl W [a] n tr mr S T) (hs : starEach [a] X.env = [(false, eval a X.env)] := by rfl) : MI X cl W (.Tuple elts kk tpos) (.Call (.Name "enumerate" p) [a] [] pos) (iEnumT X.K tr) (mArgs1 fEnumT mr) T := ⟨pi_enumT hg hm h.pe hs, si_enumT h.sn⟩
/-! two tuples of ints compared -/
def fLtT (x y : D) : Option D := match tupOf x, tupOf y with
  | some xs, some ys => match intL xs, intL ys with
    | some is, some js => some (.bl (HT.lexLt is js))
    | _, _ => none
  | _, _ => none
theorem FzL.intL {F : Hp} {vs : List V} {xs : List D} (f : FzL K cl F vs xs) {bs : List Int} (e : Pv.intL xs = some bs) : vs = bs.map V.int := intL_ok f.len (fun i u x h1 h2 _ => f.get i u x h1 h2) e
theorem pr_ltT : Pr2 K cl (rLtT K) fLtT := fun F H x y dx dy d Q s h1 h2 e k => by
  unfold fLtT at e
  split at e
  · rename_i xs ys hx hy
    split at e
    · rename_i is js hi hj
      cases e
      obtain ⟨p, us, rfl, q1, f1⟩ := tupOf_ok h1 hx
      obtain ⟨q, ws, rfl, q2, f2⟩ := tupOf_ok h2 hy
      obtain rfl := f1.intL hi
      obtain rfl := f2.intL hj
      exact ⟨p, q, is, js, rfl, rfl, sqT_same s q1, sqT_same s q2, k _ _ _ _ (New.flat s (.bl _))⟩
    · cases e
  · cases e
variable {ta tb : TE} {ma mb : M D} {T1 T2 : List Nat}
theorem m_ltT (hu : X.A.units + 64 < cLine) (ha : ME X cl W a ta ma T1) (hb : ME X cl W b tb mb T2) : ME X cl W (.Compare a [.Lt] [b] pos) (tOp (rLtT X.K) ta tb) (mBin fLtT ma mb) (T1 ++ T2) := m_cmp (op_ltT (by omega)) pr_ltT (nomark _) ha hb
theorem t_ltT (hu : X.A.units + 64 < cLine) (ha : ME X cl W a ta ma T1) (hb : ME X cl W b tb mb T2) : MT X cl W (.Compare a [.Lt] [b] pos) (tTest (tOp (rLtT X.K) ta tb)) (mTest (mBin fLtT ma mb)) (T1 ++ T2) := t_cmp (op_ltT (by omega)) pr_ltT (nomark _) ha hb
end
end Pv

/-! PvK -/
set_option Elab.async false
set_option linter.all false
set_option maxRecDepth 100000
set_option maxHeartbeats 1000000
/-! ### range(i, j) of ints of any size -/
namespace Pv
open PySem L2
theorem go_int {M : Model} {A : Around} {E : Value → Shared → Prop} {s : Shared} {tg : Expr} {it : Value} {i : Int} {t : Tok} {Q : Unit → Shared → Prop} (h : Q () s) : wpAny M A (letOwnedTupleGo tg it (.int i t)) Q E s := by
  unfold letOwnedTupleGo
  split
  · cases it <;> exact wpAny_pure h
  · cases it <;> exact wpAny_pure h
  · exact wpAny_pure h
theorem turn_long {P : Program} {w : World} {K : PySem.W.Frag} {tg : Expr} (it : Addr) (lo : Int) (n : Nat) :
    Turn P w K tg (Itr lo n) [it] it (fun i h => IsLongIter h it (lo + (i : Nat) * 1) ((n : Nat) - (i : Nat)) 1) where
  mem := List.mem_cons_self
  obj := fun i h st b hb => by
    obtain rfl : b = it := by simpa using hb
    exact ⟨_, st, fun _ z => nomatch z⟩
  keep := fun i h h1 st k => k it (by simp) _ st
  item := by
    intro X hP hw hK hc i pins s σ H E I hf st hg
    subst hP; subst hw; subst hK
    have hi : i < n := hg
    have ff := hf it (by simp)
    obtain ⟨f0, f1, f2, f3, f4, f5⟩ := ff
    refine wpAny_pyNext_long_item st (by omega) fun h1 st1 sb => ⟨_, rfl, go_int ⟨.int (lo + i), H, I.turned (t' := s.toks + 1) (fun b o hb q => (sb.2 b hb).trans q) f0 f1 f3 f4 f5, ⟨s.toks, by rw [Int.mul_one]⟩, ⟨rfl, rfl⟩, ?_, fun b hb => (hf b hb).1⟩⟩
    have e1 : lo + ((i + 1 : Nat) : Int) * 1 = lo + (i : Nat) * 1 + 1 := by omega
    have e2 : ((n : Nat) : Int) - ((i + 1 : Nat) : Int) = (n : Nat) - (i : Nat) - 1 := by omega
    show IsLongIter h1 it (lo + ((i + 1 : Nat) : Int) * 1) (((n : Nat) : Int) - ((i + 1 : Nat) : Int)) 1
    rw [e1, e2]; exact st1
  done := by
    intro X hP hw hK hc i pins s σ H E I hf st hg
    subst hP; subst hw; subst hK
    have hi : n ≤ i := hg
    obtain ⟨f0, f1, f2, f3, f4, f5⟩ := hf it (by simp)
    exact wpAny_pyNext_long_end (I.ok.hd hc) st (by omega) fun h1 eb => ⟨rfl, I.turned (t' := s.toks) (fun b o hb q => eb b o hb q) f0 f1 f3 f4 f5⟩
  self := fun A i s Q E st h => wpAny_pyIter_longiter st h
def iRngW (ta : TA) : TI := fun σ H R => ta σ H fun vs H1 => ∃ i j : Int, vs = [.int i, .int j] ∧ R (Itr i (j - i).toNat) H1
theorem size_toNat (i j : Int) : Builtin.Range.rangeSize i j 1 = ((j - i).toNat : Nat) := by
  unfold Builtin.Range.rangeSize
  rw [if_pos (by omega)]
  split
  · rw [Int.ediv_one]; omega
  · omega
theorem pi_rangeW {X : Cx} {tg a b : Expr} {ta : TA} {p pos : Pos} (hg : Gl X "range") (hm : X.mg "range" = none) (ha : PA X [a, b] ta) (hs : starEach [a, b] X.env = (false, eval a X.env) :: starEach [b] X.env := by rfl) (hpl : (backTo pos (starEach [b] X.env)).any (·.1) = false := by rfl) :
    PI X tg (.Call (.Name "range" p) [a, b] [] pos) (iRngW ta) := by
  refine ⟨fun pins s σ H R I h => ?_⟩
  refine PyProof.Rows.Call_ (ld_blt I hg hm PyProof.Rows.boot_range (PyProof.Rows.callWith_type1 (thn (ha.run pos pins s σ H _ I h) fun vs s1 ⟨ds, H1, I1, r1, q1⟩ => ?_) hs hpl))
  obtain ⟨i, j, ex, q⟩ := q1
  subst ex
  cases r1 with
  | cons r r2 =>
  cases r2 with
  | cons r' r3 =>
  cases r3
  obtain ⟨t, rfl⟩ := r
  obtain ⟨t', rfl⟩ := r'
  have kp : ∀ (o : Obj) (b : Addr) (u : Obj), s1.heap.get? b = some u → (s1.heap.push o).get? b = some u := fun o b u q => Heap.get?_push_of_some _ q
  refine call_range_2 ?_
  have hr : IsRange (s1.heap.push { cls := .type "range", data := .fields #[.int i t, .int j t', .int 1 s1.toks] }) s1.heap.objs.size i j 1 t t' s1.toks := Heap.get?_push_size _ rfl
  have sz : (s1.heap.push { cls := .type "range", data := .fields #[.int i t, .int j t', .int 1 s1.toks] }).objs.size = s1.heap.objs.size + 1 := Heap.size_push ..
  have lb : s1.heap.objs.size ≤ s1.heap.objs.size + 1 := Nat.le_succ _
  cases hsm : Builtin.Range.small i j 1 with
  | true =>
    refine wpAny_pyIter_range hr hsm ?_
    have I2 : Inv X pins σ H1 { s1 with heap := (s1.heap.push { cls := .type "range", data := .fields #[.int i t, .int j t', .int 1 s1.toks] }).push { cls := .type "range_iterator", data := .fields #[rawInt i, rawInt (Builtin.Range.rangeSize i j 1), rawInt 1] }, toks := s1.toks + 1 } := I1.kept (t' := s1.toks + 1) fun b u q => Heap.get?_push_of_some _ (Heap.get?_push_of_some _ q)
    refine ⟨s1.heap.objs.size + 1, [s1.heap.objs.size + 1], _, _, H1, ?_, I2, turn_range (s1.heap.objs.size + 1) i (j - i).toNat, ?_, fun b hb => ?_, q⟩
    · show Value.ref _ = _; rw [sz]
    · have := Heap.get?_push_size (s1.heap.push { cls := .type "range", data := .fields #[.int i t, .int j t', .int 1 s1.toks] }) (o := { cls := .type "range_iterator", data := .fields #[rawInt i, rawInt (Builtin.Range.rangeSize i j 1), rawInt 1] }) rfl
      rw [sz] at this
      show IsRangeIter _ _ (i + ((0 : Nat) : Int) * 1) (((j - i).toNat : Nat) - ((0 : Nat) : Int)) 1
      rw [show i + ((0 : Nat) : Int) * 1 = i by omega, show (((j - i).toNat : Nat) : Int) - ((0 : Nat) : Int) = ((j - i).toNat : Nat) by omega]
      rw [← size_toNat i j]; exact this
    · obtain rfl : b = s1.heap.objs.size + 1 := by simpa using hb
      exact I1.fpOk lb (I1.hok.fresh lb)
  | false =>
    refine wpAny_pyIter_longrange hr hsm ?_
    have I2 : Inv X pins σ H1 { s1 with heap := (s1.heap.push { cls := .type "range", data := .fields #[.int i t, .int j t', .int 1 s1.toks] }).push { cls := .type "longrange_iterator", data := .fields #[rawInt i, rawInt (Builtin.Range.rangeSize i j 1), rawInt 1] }, toks := s1.toks + 1 } := I1.kept (t' := s1.toks + 1) fun b u q => Heap.get?_push_of_some _ (Heap.get?_push_of_some _ q)
    refine ⟨s1.heap.objs.size + 1, [s1.heap.objs.size + 1], _, _, H1, ?_, I2, turn_long (s1.heap.objs.size + 1) i (j - i).toNat, ?_, fun b hb => ?_, q⟩
    · show Value.ref _ = _; rw [sz]
    · have := Heap.get?_push_size (s1.heap.push { cls := .type "range", data := .fields #[.int i t, .int j t', .int 1 s1.toks] }) (o := { cls := .type "longrange_iterator", data := .fields #[rawInt i, rawInt (Builtin.Range.rangeSize i j 1), rawInt 1] }) rfl
      rw [sz] at this
      show IsLongIter _ _ (i + ((0 : Nat) : Int) * 1) (((j - i).toNat : Nat) - ((0 : Nat) : Int)) 1
      rw [show i + ((0 : Nat) : Int) * 1 = i by omega, show (((j - i).toNat : Nat) : Int) - ((0 : Nat) : Int) = ((j - i).toNat : Nat) by omega]
      rw [← size_toNat i j]; exact this
    · obtain rfl : b = s1.heap.objs.size + 1 := by simpa using hb
      exact I1.fpOk lb (I1.hok.fresh lb)
section
variable {K : PySem.W.Frag} {cl : Nat → Addr} {W : WX} {S T : List Nat}
def fRngW : List D → Option (List D)
  | [.int i, .int j] => some (rangeL i (j - i).toNat)
  | _ => none
theorem si_rangeW {t : TA} {m : M (List Arg)} (h : Snd K cl W (RA K cl S) t m T) : SndI K cl W (iRngW t) (mArgs1 fRngW m) T := si_args (g := fun vs H1 R => ∃ i j : Int, vs = [.int i, .int j] ∧ R (Itr i (j - i).toNat) H1) h fun F H vs ds es R s f e k => by
  unfold fRngW at e
  split at e
  · rename_i i j
    cases e
    cases f with
    | cons h1 t1 => cases h1; cases t1 with
      | cons h2 t2 => cases h2; cases t2; exact ⟨i, j, rfl, k _ feeds_range⟩
  · cases e
variable {X : Cx} {a b tg : Expr} {p pos : Pos} {n : Nat} {tr : TA} {mr : M (List Arg)}
theorem i_rngW (hm : X.mg "range" = none) (hg : Gl X "range") (h : MA X cl W [a, b] n tr mr S T) (hs : starEach [a, b] X.env = (false, eval a X.env) :: starEach [b] X.env := by rfl) (hpl : (backTo pos (starEach [b] X.env)).any (·.1) = false := by rfl) : MI X cl W tg (.Call (.Name "range" p) [a, b] [] pos) (iRngW tr) (mArgs1 fRngW mr) T := ⟨pi_rangeW hg hm h.pe hs hpl, si_rangeW h.sn⟩
end
end Pv

/-! PvF -/
set_option Elab.async false
set_option linter.all false
set_option maxRecDepth 100000
set_option maxHeartbeats 1000000
namespace Pv
open PySem L2
/-! ### texts -/
def fCatS : D → D → Option D
  | .str a, .str b => if a.length + b.length ≤ 16777216 then some (.str (a ++ b)) else none
  | _, _ => none
def fIxS : D → D → Option D
  | .str z, .int i => if z.length ≤ 16777216 then (atI z.cps.toList i).map fun c => .str ⟨#[c]⟩ else none
  | _, _ => none
def fCutS (x : D) (lo hi : Option Int) : Option D := match x with
  | .str z => if z.length ≤ 16777216 then some (.str (cutS z lo hi)) else none
  | _ => none
def fLenS : List D → Option D
  | [.str z] => if z.length ≤ 16777216 then some (.int z.length) else none
  | _ => none
def fIntS : List D → Option D
  | [.str z] => if z.length ≤ 640 then (PySem.intText? z).map .int else none
  | _ => none
/-- one sign in a text -/
def fInS (n : Bool) : D → D → Option D
  | .str a, .str z => match a.cps.toList with
    | [c] => some (.bl (if n = true then !decide (c ∈ z.cps.toList) else decide (c ∈ z.cps.toList)))
    | _ => none
  | _, _ => none
def fFmt : D → Option D
  | .str y => if y.length ≤ 16777216 then some (.str y) else none
  | .int i => if i.natAbs.log2 < 1920 then some (.str (toString i)) else none
  | _ => none
def strL : List D → Option (List Str)
  | [] => some []
  | .str x :: l => (strL l).map (x :: ·)
  | _ => none
def fSplit : D → D → Option D
  | .str a, .str b => if (b.length == 0) = false ∧ a.length + 2 ≤ 16777216 then some (.nd true .lst ((Txt.split a b).map .str)) else none
  | _, _ => none
def fJoin (x y : D) : Option D := match x, y with
  | .str a, .nd _ .lst xs => (strL xs).bind fun ys => if (ys.map (·.length)).sum + ys.length * a.length ≤ 16777216 then some (.str (Txt.join a ys)) else none
  | _, _ => none
section
variable {K : PySem.W.Frag} {cl : Nat → Addr} {W : WX} {F F' H H' F1 H1 : Hp} {σ σ' σ1 : L2.St} {ρ ρ' ρ1 : Env} {As As' As1 : Nat → Ads} {T T1 T2 T3 : List Nat} {A A1 O O' : Ads} {v : V} {d : D}
theorem pr_catS : Pr2 K cl (fun x y H Q => ∃ i j, x = .str i ∧ y = .str j ∧ i.length + j.length ≤ sizeLine ∧ Q (.str (i ++ j)) H) fCatS := fun F H x y dx dy d Q s hx hy e k => by
  unfold fCatS at e; split at e
  · split at e
    · rename_i hl
      cases e; cases hx; cases hy
      exact ⟨_, _, rfl, rfl, by rw [sizeLine_eq]; exact hl, k _ _ _ _ (New.flat s (.str _))⟩
    · cases e
  · cases e
theorem pr_ixS : Pr2 K cl rIxS fIxS := fun F H x y dx dy d Q s hx hy e k => by
  unfold fIxS at e; split at e
  · split at e
    · rename_i z i hl
      cases hx; cases hy
      cases q : atI z.cps.toList i with
      | none => rw [q] at e; cases e
      | some c => rw [q] at e; cases e; exact ⟨z, i, c, rfl, rfl, by rw [sizeLine_eq]; exact hl, q, k _ _ _ _ (New.flat s (.str _))⟩
    · cases e
  · cases e
theorem pr_slS : PrSl K cl rSlS fCutS := fun F H x dx d lo hi Q s hx e k => by
  unfold fCutS at e; split at e
  · split at e
    · rename_i hl
      cases e; cases hx
      exact ⟨_, rfl, by rw [sizeLine_eq]; exact hl, k _ _ _ _ (New.flat s (.str _))⟩
    · cases e
  · cases e
theorem pn_lenS : PrN K cl (fun xs H Q => ∃ z, xs = [.str z] ∧ z.length ≤ sizeLine ∧ Q (.int z.length) H) fLenS := fun F H xs ds d Q s f e k => by
  unfold fLenS at e; split at e
  · split at e
    · rename_i hl
      cases e
      cases f with | cons h1 t1 => cases h1; cases t1; exact ⟨_, rfl, by rw [sizeLine_eq]; exact hl, k _ _ _ _ (New.flat s (.int _))⟩
    · cases e
  · cases e
theorem pn_intS : PrN K cl (fun xs H Q => ∃ a n, xs = [.str a] ∧ PySem.intText? a = some n ∧ a.length ≤ 640 ∧ Q (.int n) H) fIntS := fun F H xs ds d Q s f e k => by
  unfold fIntS at e; split at e
  · rename_i z
    split at e
    · rename_i hl
      cases q : PySem.intText? z with
      | none => rw [q] at e; cases e
      | some n =>
        rw [q] at e; cases e
        cases f with | cons h1 t1 => cases h1; cases t1; exact ⟨z, n, rfl, q, hl, k _ _ _ _ (New.flat s (.int _))⟩
    · cases e
  · cases e
theorem fInS_ok {n : Bool} {dx dy d : D} (e : fInS n dx dy = some d) : ∃ c z, dx = .str ⟨#[c]⟩ ∧ dy = .str z ∧ d = .bl (if n = true then !decide (c ∈ z.cps.toList) else decide (c ∈ z.cps.toList)) := by
  unfold fInS at e; split at e
  · rename_i a z
    split at e
    · rename_i c hc
      cases e
      refine ⟨c, z, ?_, rfl, rfl⟩
      congr 1
      have : a.cps = #[c] := Array.toList_inj.mp (by rw [hc])
      cases a
      cases this
      rfl
    · cases e
  · cases e
theorem pr_inS : Pr2 K cl rInS (fInS false) := fun F H x y dx dy d Q s hx hy e k => by
  obtain ⟨c, z, rfl, rfl, rfl⟩ := fInS_ok e
  cases hx; cases hy
  unfold rInS
  exact ⟨c, z, rfl, rfl, k _ _ _ _ (New.flat s (.bl _))⟩
theorem pr_notInS : Pr2 K cl rNotInS (fInS true) := fun F H x y dx dy d Q s hx hy e k => by
  obtain ⟨c, z, rfl, rfl, rfl⟩ := fInS_ok e
  cases hx; cases hy
  unfold rNotInS
  exact ⟨c, z, rfl, rfl, k _ _ _ _ (New.flat s (.bl _))⟩
theorem pr_fmt : Pr1 K cl (fun x H Q => (∃ y : Str, x = .str y ∧ y.length ≤ sizeLine ∧ Q (.str y) H) ∨ ∃ i : Int, x = .int i ∧ i.natAbs.log2 < 1920 ∧ Q (.str (toString i)) H) fFmt := fun F H x dx d Q s hx e k => by
  unfold fFmt at e; split at e
  · split at e
    · rename_i hl
      cases e; cases hx
      exact .inl ⟨_, rfl, by rw [sizeLine_eq]; exact hl, k _ _ _ _ (New.flat s (.str _))⟩
    · cases e
  · split at e
    · rename_i hl
      cases e; cases hx
      exact .inr ⟨_, rfl, hl, k _ _ _ _ (New.flat s (.str _))⟩
    · cases e
  · cases e
theorem strL_ok {F : Hp} : ∀ {xs : List D} {vs : List V} {ys : List Str}, FzL K cl F vs xs → strL xs = some ys → vs = ys.map V.str ∧ xs = ys.map D.str
  | [], _, _, .nil, e => by cases e; exact ⟨rfl, rfl⟩
  | .str x :: xs, _, _, .cons h t, e => by
    have e : (strL xs).map (x :: ·) = some _ := e
    cases q : strL xs with
    | none => rw [q] at e; cases e
    | some ys =>
      rw [q] at e; cases e
      obtain ⟨rfl, rfl⟩ := strL_ok t q
      cases h
      exact ⟨rfl, rfl⟩
theorem fzL_str {F : Hp} : ∀ ys : List Str, FzL K cl F (ys.map V.str) (ys.map D.str)
  | [] => .nil
  | y :: ys => .cons (.str y) (fzL_str ys)
theorem pr_split : Pr2 K cl (fun x y H Q => ∃ a b, x = .str a ∧ [y] = [V.str b] ∧ (b.length == 0) = false ∧ a.length + 2 ≤ sizeLine ∧ rNewStrs (Txt.split a b) H Q) fSplit := fun F H x y dx dy d Q s hx hy e k => by
  unfold fSplit at e; split at e
  · split at e
    · rename_i hl
      cases e; cases hx; cases hy
      exact ⟨_, _, rfl, rfl, hl.1, by rw [sizeLine_eq]; exact hl.2, fun p hp => k _ _ _ _ (new_lst s hp (fzL_str _))⟩
    · cases e
  · cases e
theorem pr_join : Pr2 K cl (fun x y H Q => ∃ a p, ∃ ys : List Str, x = .str a ∧ [y] = [V.ref p] ∧ (SqL K H p (ys.map V.str) ∨ SqT K H p (ys.map V.str)) ∧ (ys.map (·.length)).sum + ys.length * a.length ≤ 16777216 ∧ Q (.str (Txt.join a ys)) H) fJoin := fun F H x y dx dy d Q s hx hy e k => by
  unfold fJoin at e; split at e
  · rename_i a o xs
    cases q : strL xs with
    | none => rw [q] at e; cases e
    | some ys =>
      rw [q] at e
      have e : (if (ys.map (·.length)).sum + ys.length * a.length ≤ 16777216 then some (D.str (Txt.join a ys)) else none) = some d := e
      split at e
      · rename_i hl
        cases e; cases hx
        cases hy with
        | @nd _ p vs _ h l c =>
          have fl : FzL K cl F vs xs := by
            obtain ⟨a', vs', e1, h1, f1⟩ := (Fz.nd (k := .lst) h l c).kids
            cases e1
            have h : F p = some (.lst vs) := h
            have h1 : F p = some (.lst vs') := h1
            rw [h] at h1; cases h1
            exact f1
          obtain ⟨rfl, rfl⟩ := strL_ok fl q
          exact ⟨a, p, ys, rfl, rfl, .inl (SqL.of (s _ _ h)), hl, k _ _ _ _ (New.flat s (.str _))⟩
      · cases e
  · cases e
/-! methods of texts -/
def isStr : D → Bool
  | .str _ => true
  | _ => false
def mBinS (f : D → D → Option D) (ma mb : M D) : M D := ma.bind fun a => M.chk (isStr a) (mb.bind fun b => M.lift (f (frz a) (frz b)))
theorem own_str {z : Str} (h : Own K cl F H v (.str z) A) : v = .str z := by
  cases h with
  | fz h e => cases h; rfl
theorem s_bmS {ta tb : TE} {r : V → List V → Hp → VK → Prop} {f : D → D → Option D} {ma mb : M D} (ha : Snd K cl W (RE K cl) ta ma T1) (hb : Snd K cl W (RE K cl) tb mb T2) (hf : Pr2 K cl (fun x y H Q => r x [y] H Q) f) :
    Snd K cl W (RE K cl) (tBM K "str" r ta (tCons tb tNil)) (mBinS f ma mb) (T1 ++ T2) := by
  intro σ H Q F ρ As r' ρ' st e hq hx
  refine ha.thn st e (fun a ρ1 x F1 H1 As1 A1 u e1 => ?_) hx
  unfold M.chk at e1
  split at e1
  rotate_left
  · cases e1
  rename_i ok
  have hs : tyV K "str" x H1 := by
    cases a with
    | str z => rw [own_str u.rel]; rfl
    | _ => cases ok
  refine ⟨hs, ?_⟩
  refine hb.thn u.st e1 (fun b ρ2 y F2 H2 As2 A2 w e2 => ?_) fun c hc F' H' As' z => hx c hc F' H' As' (AftX.after u z)
  obtain ⟨d, ed, rfl, rfl⟩ := M.lift_some e2
  obtain ⟨tm, nO⟩ := u.carry w.stp
  have hds : ∀ i c, As2 i c → ¬ (A1 c ∨ A2 c) := fun i c q z => z.elim (fun z => nO c z (.inl ⟨i, q⟩)) fun z => w.ds i c q z
  have hof : ∀ c, A1 c ∨ A2 c → F2 c = none := fun c q => q.elim (tm.off c) (w.off c)
  obtain ⟨st3, s3, p3⟩ := w.st.ice (A := fun c => A1 c ∨ A2 c) hds hof
  refine hf (glue F2 H2 fun c => A1 c ∨ A2 c) H2 x y (frz a) (frz b) d Q st3.sub (tm.own.ice hof fun _ q => .inl q) (w.rel.ice hof fun _ q => .inr q) ed fun v F4 H4 A4 n => ?_
  obtain ⟨st4, d4, p4, k4⟩ := st3.new (T := T1 ++ T2) n
  refine hq d rfl v F4 H4 As2 A4 ⟨st4, n.own, d4, n.off, ?_, (u.kp.trans w.kp (T'' := T1 ++ T2) fun j hj => by simpa [not_or] using hj).trans k4 fun j hj => ⟨hj, hj⟩⟩
  have q1 : Step F H (U As) F2 H2 (fun c => U As2 c ∨ (A1 c ∨ A2 c)) := u.stp.trans w.stp (fun _ q => .inl (.inl q)) fun c q => q.elim (fun q => .inl (.inl q)) fun q => q.elim (fun q => .inr (.inr q)) fun q => .inl (.inr q)
  exact q1.trans (p3.trans p4 (fun _ q => .inl q) fun _ q => .inl q) (fun _ q => .inl q) fun _ q => .inl q
/-! f-strings -/
def mJs : List (M D) → Str → M D
  | [], acc => M.ret (.str acc)
  | m :: ms, acc => m.bind fun d => match d with
    | .str y => M.chk (decide ((acc ++ y).length ≤ 16777216)) (mJs ms (acc ++ y))
    | _ => fun _ => none
inductive SJ (K : PySem.W.Frag) (cl : Nat → Addr) (W : WX) : List TE → List (M D) → List Nat → Prop where
  | nil : SJ K cl W [] [] []
  | cons {t : TE} {m : M D} {ts : List TE} {ms : List (M D)} {T1 T2 : List Nat} (h : Snd K cl W (RE K cl) t m T1) (r : SJ K cl W ts ms T2) : SJ K cl W (t :: ts) (m :: ms) (T1 ++ T2)
theorem s_js {ts : List TE} {ms : List (M D)} (h : SJ K cl W ts ms T) : ∀ acc : Str, Snd K cl W (RE K cl) (fun σ H Q => tJs ts acc σ H fun out H1 => Q (.str out) H1) (mJs ms acc) T := by
  induction h with
  | nil =>
    intro acc σ H Q F ρ As r' ρ' st e hq hx
    obtain ⟨rfl, rfl⟩ := M.ret_some e
    exact hq _ rfl _ F H As (fun _ => False) ⟨st, .fz (.str _) fun _ z => z, fun _ _ _ z => z, fun _ z => z.elim, Step.refl fun a q => q.elim id False.elim, Keeps.refl⟩
  | @cons t m ts ms T1 T2 h r ih =>
    intro acc σ H Q F ρ As r' ρ' st e hq hx
    refine h.thn st e (fun a ρ1 x F1 H1 As1 A1 u e1 => ?_) hx
    cases a with
    | str y =>
      have ey := own_str u.rel
      subst ey
      have nA : ∀ c, ¬ A1 c := (u.rel.isF rfl).2
      dsimp only at e1
      unfold M.chk at e1
      split at e1
      rotate_left
      · cases e1
      rename_i hl
      refine ⟨y, rfl, by rw [sizeLine_eq]; simpa using hl, ?_⟩
      refine ih (acc ++ y) σ H1 Q F1 ρ1 As1 r' ρ' u.st e1 (fun a' ea b F' H' As' A' z => ?_) fun c hc F' H' As' z => hx c hc F' H' As' (AftX.after u z)
      refine hq a' ea b F' H' As' A' ⟨z.st, z.rel, z.ds, z.off, ?_, u.kp.trans z.kp (T'' := T1 ++ T2) fun j hj => by simpa [not_or] using hj⟩
      exact u.stp.trans z.stp (fun c q => .inl (.inl q)) fun c q => .inl q
    | _ => cases e1
/-! rows.extend([..]) -/
def mExt (R : Nat) (ma : M PR) (me : M D) : M D := ma.bind fun a => M.chk a.isOwn (me.bind fun e => fun ρ => match a, ρ[R]?, frz e with
  | .pl p (.nd true .lst xs), some (some dr), .nd false .lst zs => if xs.length + zs.length ≤ 16777216 then some (.ok .non, ρ.set R (some (putD p (.nd true .lst (xs ++ zs)) dr))) else none
  | _, _, _ => none)
theorem s_ext {R : Nat} {ta te : TE} {ma : M PR} {me : M D} (ha : Snd K cl W (RP K cl R) ta ma T1) (he : Snd K cl W (RE K cl) te me T2) (n : R ∉ T2) : Snd K cl W (RE K cl) (tBM K "list" rExtend ta (tCons te tNil)) (mExt R ma me) (T1 ++ T2 ++ [R]) := by
  intro σ H Q F ρ As r' ρ' st e hq hx
  refine ha.thn st e (fun a ρ1 y F1 H1 As1 A1 u e1 => ?_) hx
  unfold M.chk at e1
  split at e1
  rotate_left
  · cases e1
  rename_i ok
  refine ⟨PR.own_ty u.st u.rel ok, ?_⟩
  refine he.thn u.st e1 (fun e0 ρ2 x F2 H2 As2 A2 w e2 => ?_) fun c hc F' H' As' z => hx c hc F' H' As' (AftX.after u z)
  have pa0 : RP K cl R F2 H2 σ ρ2 a y A1 := u.rel.carry u.st w.stp w.kp n
  obtain ⟨st3, s3, p3⟩ := w.st.ice (A := A2) w.ds w.off
  have pa : RP K cl R (glue F2 H2 A2) H2 σ ρ2 a y A1 := by
    refine ⟨pa0.1, ?_⟩
    cases a with
    | vl d => exact pa0.2.same s3
    | pl p d => exact pa0.2
  have fx : Fz K cl (glue F2 H2 A2) x (frz e0) := w.rel.ice w.off fun _ q => q
  cases a with
  | vl d => cases e2
  | pl p d =>
    obtain ⟨ad, kd, xs, vs, B, vr, dr, rfl, rfl, h1, h2, h3, ob, l, c, dj, lt, sb, na, aR, upd'⟩ := RP.node st3 pa
    cases kd with
    | lst =>
      rw [h2] at e2
      cases hz : frz e0 with
      | nd o k zs =>
        rw [hz] at e2 fx
        cases o with
        | true => cases e2
        | false =>
          cases k with
          | lst =>
            have e2 : (if xs.length + zs.length ≤ 16777216 then some (Rs.ok D.non, ρ2.set R (some (putD p (.nd true .lst (xs ++ zs)) dr))) else none) = some (r', ρ') := e2
            split at e2
            · rename_i hl
              cases e2
              obtain ⟨b, ws, rfl, hb, fl⟩ := fx.kids
              have hb : glue F2 H2 A2 b = some (.lst ws) := hb
              have lw := fl.len
              obtain ⟨As', st', stp', oth, _⟩ := upd' (fun _ => False) (.lst (vs ++ ws)) .lst (vs ++ ws) (xs ++ zs) (fun i b => i < xs.length ∧ B i b) (fun _ _ _ z => z) (fun _ z => z.elim) upd_same (by simp [l, lw]) (fun i w0 x0 hw hx0 => by
                by_cases hi : i < xs.length
                · rw [List.getElem?_append_left (by omega)] at hw
                  rw [List.getElem?_append_left hi] at hx0
                  exact (c i w0 x0 hw hx0).iff fun b => ⟨fun q => ⟨hi, q⟩, fun q => q.2⟩
                · rw [List.getElem?_append_right (by omega)] at hw
                  rw [List.getElem?_append_right (by omega), ← l] at hx0
                  obtain ⟨v', hv', fz⟩ := fl.at' hx0
                  rw [hv'] at hw; cases hw
                  exact .fz fz fun b q => hi q.1) (fun i j b q q' => dj i j b q.2 q'.2) (fun i b q => by simp; omega) (fun i b q => .inl ⟨i, q.2⟩)
              refine ⟨ad, b, vs, ws, rfl, rfl, ob, st3.sub _ _ hb, by rw [sizeLine_eq, l, lw]; exact hl, hq .non rfl .non _ _ As' E0 ⟨st', .fz .non fun _ z => z, fun _ _ _ z => z, fun _ z => z.elim, ?_, ?_⟩⟩
              · have s12 : Step F H (U As) F2 H2 (fun c => U As2 c ∨ A2 c) := u.stp.trans w.stp (fun _ q => .inl (.inl q)) fun c q => .inl q
                have s13 := s12.trans p3 (fun _ q => .inl q) (fun _ q => .inl q)
                exact s13.trans stp' (fun c q => .inl (q.elim id False.elim)) fun c q => q.elim .inl False.elim
              · exact (u.kp.trans w.kp (T'' := T1 ++ T2) fun j hj => by simpa [not_or] using hj).trans (Keeps.root aR st3.dj oth) fun j hj => by simpa [not_or, and_assoc] using hj
            · cases e2
          | _ => cases e2
      | _ => rw [hz] at e2; cases e2
    | _ => cases e2
end
end Pv

/-! PvG -/
set_option Elab.async false
set_option linter.all false
set_option maxRecDepth 100000
set_option maxHeartbeats 1000000
namespace Pv
open PySem L2
section
variable {K : PySem.W.Frag} {cl : Nat → Addr} {Z : List Nat}
/-- a, b = a frozen list -/
def gmLst (n : Nat) (gs : List Pv.D → Env → Option Env) : Pv.D → Env → Option Env := fun d ρ => match d with
  | .nd false .lst xs => if xs.length = n then gs xs ρ else none
  | _ => none
theorem sg_lst {n : Nat} {t : TGs} {gs : List Pv.D → Env → Option Env} (h : SndGs K cl t gs Z) : SndG K cl (gLst K n t) (gmLst n gs) Z := by
  intro v σ H Q F ρ As d A ρ' st o hd ho e k
  unfold gmLst at e
  split at e
  · rename_i xs
    split at e
    · rename_i hl
      obtain ⟨fz, nA⟩ := o.isF rfl
      obtain ⟨a, vs, rfl, at', fl⟩ := fz.kids
      refine ⟨a, vs, rfl, SqL.of (st.sub _ _ at'), by rw [fl.len]; exact hl, h vs σ H Q F ρ As xs ρ' st fl e fun σ' F' H' As' st' s' a' l' kp' => k σ' F' H' As' st' ?_ a' l' kp'⟩
      exact ⟨s'.ff, fun a o e n => s'.keep a o e fun z => n (.inl z), fun a q => (s'.own a q).imp .inl id, fun a o q => (s'.fro a o q).imp id (Or.imp .inl id)⟩
    · cases e
  · cases e
def chL (z : Str) : List D := z.cps.toList.map fun c => .str ⟨#[c]⟩
def chOf : D → Option (List D)
  | .str z => some (chL z)
  | _ => none
theorem feeds_str {F : Hp} {z : Str} : Feeds K cl (Its z) F (chL z) := fun i F1 H1 s s' => by
  have hl : (chL z).length = z.cps.size := by simp [chL]
  refine ⟨fun h => by rw [hl] at h; exact h, fun d e => ?_⟩
  unfold chL at e
  rw [List.getElem?_map] at e
  cases q : z.cps.toList[i]? with
  | none => rw [q] at e; cases e
  | some c =>
    rw [q] at e
    cases e
    have hi : i < z.cps.size := by simpa using (List.getElem?_eq_some_iff.mp q).1
    refine ⟨hi, fun x H2 hy => ?_⟩
    obtain ⟨eH, c', hc, hx⟩ := hy
    have : c' = c := by
      rw [Array.getElem?_toList] at q
      rw [q] at hc; cases hc; rfl
    subst this hx
    exact ⟨F1, by rw [eH]; exact s', .str _, by rw [eH]; exact .stay⟩
theorem si_str {W : WX} {T : List Nat} {t : TE} {m : M D} (h : Snd K cl W (RE K cl) t m T) : SndI K cl W (iStr t) (mSeq1 chOf m) T := by
  intro σ H R F ρ As r ρ' st e hq hx
  refine h.thn st e (fun a ρ1 b F1 H1 As1 A1 x e1 => ?_) hx
  obtain ⟨ds, ed, rfl, rfl⟩ := M.lift_some e1
  cases a with
  | str z =>
    cases ed
    have eb := own_str x.rel
    subst eb
    exact ⟨z, rfl, hq _ rfl _ F1 H1 As1 x.st (x.stp.weak fun c q => .inl q) x.kp feeds_str⟩
  | _ => simp [frz] at ed; try cases ed
/-- is <= js, two tuples of whole numbers -/
def leB (is js : List Int) : Bool := _root_.Ob.lexAt (fun j => decide (is.getD j 0 = js.getD j 0)) (fun j => decide (is.getD j 0 ≤ js.getD j 0)) (decide (is.length ≤ js.length)) 0 (min is.length js.length)
theorem leB_2 {a b c d : Int} : leB [a, b] [c, d] = decide (a < c ∨ (a = c ∧ b ≤ d)) := by
  unfold leB
  simp only [List.length_cons, List.length_nil, Nat.min_self, _root_.Ob.lexAt_succ, _root_.Ob.lexAt_zero]
  by_cases h : a = c
  · by_cases h2 : b = d
    · simp [h, h2]
    · simp [h, h2]
  · simp [h]; omega
def fLeT (x y : D) : Option D := match tupOf x, tupOf y with
  | some xs, some ys => match intL xs, intL ys with
    | some is, some js => some (.bl (leB is js))
    | _, _ => none
  | _, _ => none
theorem pr_leT : Pr2 K cl (rLeT K) fLeT := fun F H x y dx dy d Q s h1 h2 e k => by
  unfold fLeT at e
  split at e
  · rename_i xs ys hx hy
    split at e
    · rename_i is js hi hj
      cases e
      obtain ⟨p, us, rfl, q1, f1⟩ := tupOf_ok h1 hx
      obtain ⟨q, ws, rfl, q2, f2⟩ := tupOf_ok h2 hy
      obtain rfl := f1.intL hi
      obtain rfl := f2.intL hj
      exact ⟨p, q, is, js, rfl, rfl, sqT_same s q1, sqT_same s q2, k _ _ _ _ (New.flat s (.bl _))⟩
    · cases e
  · cases e
theorem pr_inLV (n : Bool) : Pr2 K cl (fun y x H Q => rIn K n y x H Q) (fInL n) := fun F H x y dx dy d Q s hx hy e k => pk_inL n F H x y dx dy d Q s hx (.inl hy) e k
end
section
variable {X : Cx} {cl : Nat → Addr} {W : WX} {a b e o : Expr} {es : List Expr} {pos apos : Pos} {ta tb te : TE} {ma mb me : M D} {mp : M PR} {T T1 T2 T3 S : List Nat} {R : Nat} {x : Str} {Z Z1 Z2 : List Nat} {gs : TGs} {gms : List D → Env → Option Env}
theorem m_catS (ha : ME X cl W a ta ma T1) (hb : ME X cl W b tb mb T2) : ME X cl W (.BinOp a .Add b pos) (tOp (fun x y H Q => ∃ i j, x = .str i ∧ y = .str j ∧ i.length + j.length ≤ sizeLine ∧ Q (.str (i ++ j)) H) ta tb) (mBin fCatS ma mb) (T1 ++ T2) := m_bin op_add_str pr_catS ha hb
theorem m_ixS (ha : ME X cl W a ta ma T1) (hb : ME X cl W b tb mb T2) (hs : PlainIx b) : ME X cl W (.Subscript a b pos) (tOp rIxS ta tb) (mBin fIxS ma mb) (T1 ++ T2) := ⟨pe_ix ix_str ha.pe hb.pe hs, s_bin ha.sn hb.sn pr_ixS⟩
theorem m_slS {p2 : Pos} {lo hi : Option Expr} {tl th : TO} {ml mh : M (Option Int)} (ha : ME X cl W a ta ma T1) (hl : MO X cl W lo tl ml T2) (hh : MO X cl W hi th mh T3) : ME X cl W (.Subscript a (.Slice lo hi none p2) pos) (tSl rSlS ta tl th) (mSl fCutS ma ml mh) (T1 ++ (T2 ++ T3)) := ⟨pe_slice sl_str ha.pe hl.pe hh.pe, s_sl pr_slS ha.sn hl.sn hh.sn⟩
theorem m_inS (ha : ME X cl W a ta ma T1) (hb : ME X cl W b tb mb T2) (h : behindInMarks .In b = false := by rfl) : ME X cl W (.Compare a [.In] [b] pos) (tOp rInS ta tb) (mBin (fInS false) ma mb) (T1 ++ T2) := m_cmp op_inS pr_inS h ha hb
theorem t_inS (ha : ME X cl W a ta ma T1) (hb : ME X cl W b tb mb T2) (h : behindInMarks .In b = false := by rfl) : MT X cl W (.Compare a [.In] [b] pos) (tTest (tOp rInS ta tb)) (mTest (mBin (fInS false) ma mb)) (T1 ++ T2) := t_cmp op_inS pr_inS h ha hb
theorem m_notInS (ha : ME X cl W a ta ma T1) (hb : ME X cl W b tb mb T2) (h : behindInMarks .NotIn b = false := by rfl) : ME X cl W (.Compare a [.NotIn] [b] pos) (tOp rNotInS ta tb) (mBin (fInS true) ma mb) (T1 ++ T2) := m_cmp op_notInS pr_notInS h ha hb
theorem t_notInS (ha : ME X cl W a ta ma T1) (hb : ME X cl W b tb mb T2) (h : behindInMarks .NotIn b = false := by rfl) : MT X cl W (.Compare a [.NotIn] [b] pos) (tTest (tOp rNotInS ta tb)) (mTest (mBin (fInS true) ma mb)) (T1 ++ T2) := t_cmp op_notInS pr_notInS h ha hb
theorem m_inLV (ha : ME X cl W a ta ma T1) (hb : ME X cl W b tb mb T2) (h : behindInMarks .In b = false := by rfl) : ME X cl W (.Compare a [.In] [b] pos) (tOp (fun y x H Q => rIn X.K false y x H Q) ta tb) (mBin (fInL false) ma mb) (T1 ++ T2) := m_cmp op_in_seq (pr_inLV false) h ha hb
theorem t_inLV (ha : ME X cl W a ta ma T1) (hb : ME X cl W b tb mb T2) (h : behindInMarks .In b = false := by rfl) : MT X cl W (.Compare a [.In] [b] pos) (tTest (tOp (fun y x H Q => rIn X.K false y x H Q) ta tb)) (mTest (mBin (fInL false) ma mb)) (T1 ++ T2) := t_cmp op_in_seq (pr_inLV false) h ha hb
theorem m_notInLV (ha : ME X cl W a ta ma T1) (hb : ME X cl W b tb mb T2) (h : behindInMarks .NotIn b = false := by rfl) : ME X cl W (.Compare a [.NotIn] [b] pos) (tOp (fun y x H Q => rIn X.K true y x H Q) ta tb) (mBin (fInL true) ma mb) (T1 ++ T2) := m_cmp op_notIn_seq (pr_inLV true) h ha hb
theorem t_notInLV (ha : ME X cl W a ta ma T1) (hb : ME X cl W b tb mb T2) (h : behindInMarks .NotIn b = false := by rfl) : MT X cl W (.Compare a [.NotIn] [b] pos) (tTest (tOp (fun y x H Q => rIn X.K true y x H Q) ta tb)) (mTest (mBin (fInL true) ma mb)) (T1 ++ T2) := t_cmp op_notIn_seq (pr_inLV true) h ha hb
theorem m_leT (hu : X.A.units + 64 < cLine) (ha : ME X cl W a ta ma T1) (hb : ME X cl W b tb mb T2) : ME X cl W (.Compare a [.LtE] [b] pos) (tOp (rLeT X.K) ta tb) (mBin fLeT ma mb) (T1 ++ T2) := m_cmp (op_leT (by omega)) pr_leT (nomark _) ha hb
theorem t_leT (hu : X.A.units + 64 < cLine) (ha : ME X cl W a ta ma T1) (hb : ME X cl W b tb mb T2) : MT X cl W (.Compare a [.LtE] [b] pos) (tTest (tOp (rLeT X.K) ta tb)) (mTest (mBin fLeT ma mb)) (T1 ++ T2) := t_cmp (op_leT (by omega)) pr_leT (nomark _) ha hb
/-! methods -/
theorem m_split (ha : ME X cl W a ta ma T1) (he : ME X cl W e te me T2) (hbase : attributeBase a "split" X.env (eval a X.env) = eval a X.env := by rfl)
    (hfew : ((backTo pos (starEach [e] X.env)).all (fun x => !x.1) && (backToKw pos (keywordEach [] X.env)).all (fun x => x.1.isSome) && decide ([e].length + ([] : List Keyword).length + (if ([] : List Keyword).isEmpty then 0 else 1) < 30)) = true := by rfl)
    (hline : (apos.endLine == pos.line) = true := by rfl) (hs : starEach [e] X.env = (false, eval e X.env) :: starEach [] X.env := by rfl) (hplain : (backTo pos (starEach [] X.env)).any (·.1) = false := by rfl) :
    ME X cl W (.Call (.Attribute a "split" apos) [e] [] pos) (tBM X.K "str" (fun x xs H Q => ∃ a b, x = .str a ∧ xs = [.str b] ∧ (b.length == 0) = false ∧ a.length + 2 ≤ sizeLine ∧ rNewStrs (Txt.split a b) H Q) ta (tCons te tNil)) (mBinS fSplit ma me) (T1 ++ T2) := ⟨pe_bm PySem.F.plainAttrs_str PySem.F.slot_str_split PySem.F.type_str_split mt_split ha.pe (pa_cons he.pe pa_nil hs) hbase hfew hline hs hplain, s_bmS ha.sn he.sn pr_split⟩
theorem m_join (ha : ME X cl W a ta ma T1) (he : ME X cl W e te me T2) (hbase : attributeBase a "join" X.env (eval a X.env) = eval a X.env := by rfl)
    (hfew : ((backTo pos (starEach [e] X.env)).all (fun x => !x.1) && (backToKw pos (keywordEach [] X.env)).all (fun x => x.1.isSome) && decide ([e].length + ([] : List Keyword).length + (if ([] : List Keyword).isEmpty then 0 else 1) < 30)) = true := by rfl)
    (hline : (apos.endLine == pos.line) = true := by rfl) (hs : starEach [e] X.env = (false, eval e X.env) :: starEach [] X.env := by rfl) (hplain : (backTo pos (starEach [] X.env)).any (·.1) = false := by rfl) :
    ME X cl W (.Call (.Attribute a "join" apos) [e] [] pos) (tBM X.K "str" (fun x xs H Q => ∃ a p, ∃ ys : List Str, x = .str a ∧ xs = [.ref p] ∧ (SqL X.K H p (ys.map V.str) ∨ SqT X.K H p (ys.map V.str)) ∧
    (ys.map (·.length)).sum + ys.length * a.length ≤ 16777216 ∧ Q (.str (Txt.join a ys)) H) ta (tCons te tNil)) (mBinS fJoin ma me) (T1 ++ T2) := ⟨pe_bm PySem.F.plainAttrs_str PySem.F.slot_str_join PySem.F.type_str_join mt_join ha.pe (pa_cons he.pe pa_nil hs) hbase hfew hline hs hplain, s_bmS ha.sn he.sn pr_join⟩
theorem m_ext (n : R ∉ T2) (ha : MP X cl W R a ta mp T1) (he : ME X cl W e te me T2) (hbase : attributeBase a "extend" X.env (eval a X.env) = eval a X.env := by rfl)
    (hfew : ((backTo pos (starEach [e] X.env)).all (fun x => !x.1) && (backToKw pos (keywordEach [] X.env)).all (fun x => x.1.isSome) && decide ([e].length + ([] : List Keyword).length + (if ([] : List Keyword).isEmpty then 0 else 1) < 30)) = true := by rfl)
    (hline : (apos.endLine == pos.line) = true := by rfl) (hs : starEach [e] X.env = (false, eval e X.env) :: starEach [] X.env := by rfl) (hplain : (backTo pos (starEach [] X.env)).any (·.1) = false := by rfl) :
    ME X cl W (.Call (.Attribute a "extend" apos) [e] [] pos) (tBM X.K "list" rExtend ta (tCons te tNil)) (mExt R mp me) (T1 ++ T2 ++ [R]) := ⟨pe_bm PySem.F.plainAttrs_list PySem.F.slot_list_extend PySem.F.type_list_extend mt_extend ha.pe (pa_cons he.pe pa_nil hs) hbase hfew hline hs hplain, s_ext ha.sn he.sn n⟩
/-! f-strings -/
structure MJ (X : Cx) (cl : Nat → Addr) (W : WX) (es : List Expr) (ts : List TE) (ms : List (M D)) (T : List Nat) : Prop where
  pe : PJ X es ts
  sn : SJ X.K cl W ts ms T
theorem j_nil : MJ X cl W [] [] [] [] := ⟨.nil, .nil⟩
theorem j_cons {ts : List TE} {ms : List (M D)} (h : ME X cl W e te me T1) (r : MJ X cl W es ts ms T2) : MJ X cl W (e :: es) (te :: ts) (me :: ms) (T1 ++ T2) := ⟨.cons h.pe r.pe, .cons h.sn r.sn⟩
theorem m_fmt (ha : ME X cl W a ta ma T) : ME X cl W (.FormattedValue a (-1) none pos) (tFmt ta) (mUn fFmt ma) T := ⟨pe_fmt ha.pe, s_un (t := ta) (r := fun x H Q => (∃ y : Str, x = .str y ∧ y.length ≤ sizeLine ∧ Q (.str y) H) ∨ ∃ i : Int, x = .int i ∧ i.natAbs.log2 < 1920 ∧ Q (.str (toString i)) H) ha.sn pr_fmt⟩
theorem m_fstr {v1 v2 : Expr} {rest : List Expr} {ts : List TE} {ms : List (M D)} (h : MJ X cl W (v1 :: v2 :: rest) ts ms T) : ME X cl W (.JoinedStr (v1 :: v2 :: rest) pos) (fun σ H Q => tJs ts Str.empty σ H fun out H1 => Q (.str out) H1) (mJs ms Str.empty) T := ⟨pe_joined h.pe, s_js h.sn _⟩
theorem m_fstr1 (h : ME X cl W e te me T) : ME X cl W (.JoinedStr [e] pos) te me T := ⟨pe_joined1 h.pe, h.sn⟩
theorem m_glS {s : Str} (hg : Gl X x) (h : ∃ t, X.mg x = some (.str s t)) (hd : (x == ("__debug__" : Str)) = false := by decide) : ME X cl W (.Name x pos) (tC (.str s)) (M.ret (.str s)) [] := by
  obtain ⟨t, h⟩ := h
  exact m_gl hg h ⟨_, rfl⟩ (fun _ => .str _) hd
theorem g_lst {k : Nat} {nn : Nat} (hc : X.calm = true) (h : MGs X cl es gs gms Z) (hn : (assignEach es X.env).length = nn := by rfl) (hst : (assignEach es X.env).findIdx? (·.1) = none := by rfl) : MG X cl (.Tuple es k pos) (gLst X.K nn gs) (gmLst nn gms) Z := ⟨pg_lst hc h.pe hn hst, sg_lst h.sn⟩
theorem i_str {tg : Expr} (ha : ME X cl W a ta ma T) : MI X cl W tg a (iStr ta) (mSeq1 chOf ma) T := ⟨pi_str ha.pe, si_str ha.sn⟩
/-- a statement that is never carried out -/
def mDead : MS := fun _ => none
theorem x_dead {st : Stmt} : MSt X cl W st (fun _ _ _ => False) mDead [] := ⟨⟨fun _ _ _ _ _ _ h => h.elim⟩, fun _ _ _ _ _ _ _ _ _ e => nomatch e⟩
end
end Pv

/-! PvH -/
set_option Elab.async false
set_option linter.all false
set_option maxRecDepth 100000
set_option maxHeartbeats 1000000
namespace Pv
open PySem L2
/-! a call that is never made -/
section
variable {K : PySem.W.Frag} {cl : Nat → Addr} {np : Nat} {fx : List Bool} {P : Program} {w : World} {mg : Str → Option Value} {base : Heap} {CX : CXT} {k : Nat} {f : Addr} {fd : FuncData} {ps : List Str}
theorem none_sp {vs : List V} {H : Hp} {Q : VK} {E : XK} (h : spP K cl np fx (fun _ => none) vs H Q E) : False := by
  obtain ⟨_, F, ds, Bs, r, outs, _, _, _, _, _, _, e, _⟩ := h
  cases e
theorem none_ok : FnOk P w K mg base CX k f fd ps (spP K cl np fx (fun _ => none)) :=
  ⟨fun vs H Q E h => (none_sp h).elim, fun A outer s H args us vs Q E _ _ _ _ h => (none_sp h).elim⟩
end
/-! where a text stands in a list of texts -/
section
variable {K : PySem.W.Frag} {cl : Nat → Addr} {W : WX} {F F' H H' F1 H1 : Hp} {σ σ' σ1 : L2.St} {ρ ρ' ρ1 : Env} {As As' As1 : Nat → Ads} {T T1 T2 : List Nat} {v : V} {A : Ads}
def isLst : D → Bool
  | .nd _ .lst _ => true
  | _ => false
def mBinL (f : D → D → Option D) (ma mb : M D) : M D := ma.bind fun a => M.chk (isLst a) (mb.bind fun b => M.lift (f (frz a) (frz b)))
theorem own_lst {d : D} (s : Same F H) (h : Own K cl F H v d A) (e : isLst d = true) : tyV K "list" v H := by
  cases h with
  | fz h _ =>
    cases h with
    | @nd k a vs xs h l c =>
      cases k with
      | lst => exact .inl ⟨rfl, vs, SqL.of (s _ _ h)⟩
      | _ => cases e
    | _ => cases e
  | @nd k a vs xs B A h l c dj na lt hA =>
    cases k with
    | lst => exact .inl ⟨rfl, vs, SqL.of h⟩
    | _ => cases e
theorem s_bmL {ta tb : TE} {r : V → List V → Hp → VK → Prop} {f : D → D → Option D} {ma mb : M D} (ha : Snd K cl W (RE K cl) ta ma T1) (hb : Snd K cl W (RE K cl) tb mb T2) (hf : Pr2 K cl (fun x y H Q => r x [y] H Q) f) :
    Snd K cl W (RE K cl) (tBM K "list" r ta (tCons tb tNil)) (mBinL f ma mb) (T1 ++ T2) := by
  intro σ H Q F ρ As r' ρ' st e hq hx
  refine ha.thn st e (fun a ρ1 x F1 H1 As1 A1 u e1 => ?_) hx
  unfold M.chk at e1
  split at e1
  rotate_left
  · cases e1
  rename_i ok
  have hs : tyV K "list" x H1 := own_lst u.st.sub u.rel ok
  refine ⟨hs, ?_⟩
  refine hb.thn u.st e1 (fun b ρ2 y F2 H2 As2 A2 w e2 => ?_) fun c hc F' H' As' z => hx c hc F' H' As' (AftX.after u z)
  obtain ⟨d, ed, rfl, rfl⟩ := M.lift_some e2
  obtain ⟨tm, nO⟩ := u.carry w.stp
  have hds : ∀ i c, As2 i c → ¬ (A1 c ∨ A2 c) := fun i c q z => z.elim (fun z => nO c z (.inl ⟨i, q⟩)) fun z => w.ds i c q z
  have hof : ∀ c, A1 c ∨ A2 c → F2 c = none := fun c q => q.elim (tm.off c) (w.off c)
  obtain ⟨st3, s3, p3⟩ := w.st.ice (A := fun c => A1 c ∨ A2 c) hds hof
  refine hf (glue F2 H2 fun c => A1 c ∨ A2 c) H2 x y (frz a) (frz b) d Q st3.sub (tm.own.ice hof fun _ q => .inl q) (w.rel.ice hof fun _ q => .inr q) ed fun v F4 H4 A4 n => ?_
  obtain ⟨st4, d4, p4, k4⟩ := st3.new (T := T1 ++ T2) n
  refine hq d rfl v F4 H4 As2 A4 ⟨st4, n.own, d4, n.off, ?_, (u.kp.trans w.kp (T'' := T1 ++ T2) fun j hj => by simpa [not_or] using hj).trans k4 fun j hj => ⟨hj, hj⟩⟩
  have q1 : Step F H (U As) F2 H2 (fun c => U As2 c ∨ (A1 c ∨ A2 c)) := u.stp.trans w.stp (fun _ q => .inl (.inl q)) fun c q => q.elim (fun q => .inl (.inl q)) fun q => q.elim (fun q => .inr (.inr q)) fun q => .inl (.inr q)
  exact q1.trans (p3.trans p4 (fun _ q => .inl q) fun _ q => .inl q) (fun _ q => .inl q) fun _ q => .inl q
def fIdx : D → D → Option D
  | .nd false .lst xs, .str b => match strL xs with
    | some ys => if b ∈ ys then some (.int (ys.idxOf b : Nat)) else none
    | none => none
  | _, _ => none
theorem pr_idx : Pr2 K cl (fun x y H Q => ∃ (p : Addr) (ys : List Str) (b : Str), x = .ref p ∧ [y] = [V.str b] ∧ SqL K H p (ys.map V.str) ∧ b ∈ ys ∧ Q (.int (ys.idxOf b : Nat)) H) fIdx := fun F H x y dx dy d Q s hx hy e k => by
  unfold fIdx at e; split at e
  · rename_i xs b
    split at e
    · rename_i ys q
      split at e
      · rename_i hb
        cases e; cases hy
        cases hx with
        | @nd _ p vs _ h l c =>
          have fl : FzL K cl F vs xs := by
            obtain ⟨a', vs', e1, h1, f1⟩ := (Fz.nd (k := .lst) h l c).kids
            cases e1
            have h : F p = some (.lst vs) := h
            have h1 : F p = some (.lst vs') := h1
            rw [h] at h1; cases h1
            exact f1
          obtain ⟨rfl, rfl⟩ := strL_ok fl q
          exact ⟨p, ys, b, rfl, rfl, SqL.of (s _ _ h), hb, k _ _ _ _ (New.flat s (.int _))⟩
      · cases e
    · cases e
  · cases e
def isS (b : Str) : Value → Bool
  | .str y _ => y == b
  | _ => false
theorem isS_at (b : Str) : ∀ {vs : List Value} {ys : List Str}, Vals (ys.map V.str) vs → ∀ (i : Nat) (h : i < vs.length), isS b vs[i] = true ↔ ys[i]? = some b
  | [], _, _, i, h => absurd h (by simp)
  | v :: vs, [], r, _, _ => by cases r
  | v :: vs, y :: ys, r, i, h => by
    cases r with
    | cons r1 rs =>
      cases i with
      | zero =>
        obtain ⟨t, rfl⟩ := r1
        show (y == b) = true ↔ some y = some b
        rw [beq_iff_eq, Option.some_inj]
      | succ i => exact isS_at b rs i (Nat.lt_of_succ_lt_succ h)
theorem str_at : ∀ {vs : List Value} {ys : List Str}, Vals (ys.map V.str) vs → ∀ {i : Nat} (h : i < vs.length), ∃ z t, vs[i] = .str z t
  | [], _, _, i, h => absurd h (by simp)
  | v :: vs, [], r, _, _ => by cases r
  | v :: vs, y :: ys, r, i, h => by
    cases r with
    | cons r1 rs =>
      cases i with
      | zero =>
        obtain ⟨t, rfl⟩ := r1
        exact ⟨y, t, rfl⟩
      | succ i => exact str_at rs (Nat.lt_of_succ_lt_succ h)
theorem mt_index {X : Cx} : MtR X "list.index" (fun x xs H Q => ∃ (p : Addr) (ys : List Str) (b : Str), x = .ref p ∧ xs = [V.str b] ∧ SqL X.K H p (ys.map V.str) ∧ b ∈ ys ∧ Q (.int (ys.idxOf b : Nat)) H) := by
  intro pins s σ H x xs v us Q I rx rs h
  obtain ⟨p, ys, b, rfl, rfl, hp, hb, h⟩ := h
  cases rx
  cases rs with
  | cons r1 rs =>
    cases rs
    obtain ⟨tb, rfl⟩ := r1
    obtain ⟨its, r, ⟨o, n, ho, hc, hdd, hd⟩, hz⟩ := I.list hp
    have hlen : its.length = ys.length := by rw [← Vals.length r]; simp
    have hj : ys.idxOf b < ys.length := List.idxOf_lt_length_iff.mpr hb
    have hsz : ys.length ≤ 16777216 := by rw [List.length_map, sizeLine_eq] at hz; exact hz
    obtain ⟨cls, dd, data, sl⟩ := o
    dsimp only at hc hdd hd
    subst hc hd
    refine call_meets PySem.F.slot_list_index ⟨_, ho, rfl⟩ PySem.F.entry_list_index (PySem.F.args_list_index_2 _ _)
      (PySem.SeqAt.list_indexAt p its.toArray n dd sl (.str b tb) (isS b) (ys.idxOf b) (by simpa [hlen] using hj) (by omega) ?_ ?_) ⟨ho, fun y hy => ?_, ⟨.int _, H, I.tok _, ⟨_, rfl⟩, h⟩⟩
    · show isS b its[ys.idxOf b] = true
      rw [isS_at b r]
      rw [List.getElem?_eq_getElem hj, List.getElem_idxOf hj]
    · intro i hi hlt
      show isS b its[i] = false
      rw [Bool.eq_false_iff]
      intro z
      have z := (isS_at b r i (by simpa using hi)).mp z
      obtain ⟨hi2, z⟩ := List.getElem?_eq_some_iff.mp z
      exact ne_of_beq_false (List.not_of_lt_findIdx hlt) z
    · have hy' : y ∈ its := by simpa using hy
      obtain ⟨i, hi, rfl⟩ := List.getElem_of_mem hy'
      obtain ⟨z, t, e⟩ := str_at r hi
      rw [e]
      exact SeqAt.EqAt.str_str z t b tb
end
section
variable {K : PySem.W.Frag} {cl : Nat → Addr} {X : Cx} {W : WX} {a b e : Expr} {pos apos : Pos} {ta tb te : TE} {ma mb me : M D} {T1 T2 : List Nat}
theorem m_index (ha : ME X cl W a ta ma T1) (he : ME X cl W e te me T2) (hbase : attributeBase a "index" X.env (eval a X.env) = eval a X.env := by rfl)
    (hfew : ((backTo pos (starEach [e] X.env)).all (fun x => !x.1) && (backToKw pos (keywordEach [] X.env)).all (fun x => x.1.isSome) && decide ([e].length + ([] : List Keyword).length + (if ([] : List Keyword).isEmpty then 0 else 1) < 30)) = true := by rfl)
    (hline : (apos.endLine == pos.line) = true := by rfl) (hs : starEach [e] X.env = (false, eval e X.env) :: starEach [] X.env := by rfl) (hplain : (backTo pos (starEach [] X.env)).any (·.1) = false := by rfl) :
    ME X cl W (.Call (.Attribute a "index" apos) [e] [] pos) (tBM X.K "list" (fun x xs H Q => ∃ (p : Addr) (ys : List Str) (b : Str), x = .ref p ∧ xs = [V.str b] ∧ SqL X.K H p (ys.map V.str) ∧ b ∈ ys ∧ Q (.int (ys.idxOf b : Nat)) H) ta (tCons te tNil)) (mBinL fIdx ma me) (T1 ++ T2) := ⟨pe_bm PySem.F.plainAttrs_list PySem.F.slot_list_index PySem.F.type_list_index mt_index ha.pe (pa_cons he.pe pa_nil hs) hbase hfew hline hs hplain, s_bmL ha.sn he.sn pr_idx⟩
/-! len and list of a dict -/
theorem call_lenDR : CallR X (.builtin "len") (fun xs H Q => ∃ (a : Addr) (kvs : List (Key × V)), xs = [V.ref a] ∧ Rd H a (.dK kvs) ∧ Q (.int kvs.length) H) := by
  intro pins s σ H xs us Q I r h
  obtain ⟨a, kvs, rfl, ha, q⟩ := h
  obtain ⟨u, rfl, ru⟩ := vals1 r
  cases ru
  exact d_len I ha fun t s' I' => ⟨.int kvs.length, H, I', ⟨t, rfl⟩, q⟩
def kD : Key → D
  | .inl i => .int i
  | .inr x => .str x
def fListD : D → Option D
  | .nd _ (.dK ks) _ => some (.own (ks.map kD))
  | _ => none
theorem fzL_key {F : Hp} : ∀ ks : List Key, FzL K cl F (ks.map kV) (ks.map kD)
  | [] => .nil
  | .inl i :: ks => .cons (.int i) (fzL_key ks)
  | .inr x :: ks => .cons (.str x) (fzL_key ks)
theorem pk_listD : PkS K cl (fun x H Q => ∃ (a : Addr) (kvs : List (Key × V)), [x] = [.ref a] ∧ Rd H a (.dK kvs) ∧ ∀ p, H p = none → Q (.ref p) (upd H p (.lst (kvs.map fun kv => kV kv.1)))) fListD := fun F H x dx d Q s h e k => by
  unfold fListD at e; split at e
  · rename_i o ks xs
    cases e
    obtain ⟨a, vs, rfl, h1, l, _⟩ := h.obj s
    refine ⟨a, _, rfl, h1.2, fun p hp => ?_⟩
    have e1 : ((ks.zip vs).map fun kv => kV kv.1) = ks.map kV := by
      rw [show (fun kv : Key × V => kV kv.1) = kV ∘ Prod.fst from rfl, ← List.map_map, List.map_fst_zip (by rw [h1.1]; exact Nat.le_refl _)]
    rw [e1]
    exact k _ _ _ _ (new_lst s hp (fzL_key ks))
  · cases e
end
end Pv

/-! K05m -/
set_option Elab.async false
set_option linter.all false
set_option maxRecDepth 100000
namespace K05
open PySem L2 Pv
/-! _law_draws -/
abbrev N_law_draws : List Str := ["script", "many", "rests", "draws", "k", "cell", "at", "mixed"]
abbrev fx_law_draws : List Bool := [true, true]
def k_law_draws_for_k_in_range_many__2 : MS := (mSeq (mAsg (mBin fMod (mCB fInt (mCons (mBin fAdd (mBin fAdd (mBin fMul (mRd (mpVar 5)) (M.ret (.int 48271))) (mBin fMul (mRd (mpVar 4)) (M.ret (.int 69621)))) (M.ret (.int 11))) mNil)) (M.ret (.int 2147483647))) (gmName 7))
    (mSeq (mAsg (mBin fMod (mCB fInt (mCons (mBin fAdd (mBin fDiv (mBin fMul (mRd (mpVar 7)) (mRd (mpVar 7))) (M.ret (.int 4096))) (mRd (mpVar 7))) mNil)) (M.ret (.int 2147483629))) (gmName 7))
    (mExp (mApp 3 (mpVar 3) (mBin fMod (mCB fInt (mCons (mBin fAdd (mBin fDiv (mBin fMul (mRd (mpVar 7)) (mRd (mpVar 7))) (M.ret (.int 4096))) (mBin fMul (mRd (mpVar 4)) (M.ret (.int 7919)))) mNil)) (M.ret (.int 2147483629)))))))
def l_law_draws_0 : MS := (mSeq (mAsg (mRdF 4 (mpVar 4)) (gmName 5))
    (mSeq (mIf (mTest (mBin fGt (mPk fLen (mpVar 0)) (M.ret (.int 0)))) (mSeq (mAsg (mBin fMod (mRd (mpVar 4)) (mPk fLen (mpVar 0))) (gmName 6))
    (mSeq (mAsg (mCB fInt (mCons (mRd (mpIx (mpVar 0) (mRd (mpVar 6)))) mNil)) (gmName 5))
    (mIf (mAndT (mTest (mBin fGe (mRd (mpVar 5)) (mBin fPow (M.ret (.int 10)) (M.ret (.int 18))))) (mTest (mBin fGt (mRd (mpIx (mpVar 2) (mRd (mpVar 6)))) (M.ret (.int 0))))) (mSeq (mExp (mApp 3 (mpVar 3) (mBin fMod (mCB fInt (mCons (mRd (mpIx (mpVar 2) (mRd (mpVar 6)))) mNil)) (M.ret (.int 1000003)))))
    (mSeq (mSetIx 2 (mBin fDiv (mCB fInt (mCons (mRd (mpIx (mpVar 2) (mRd (mpVar 6)))) mNil)) (M.ret (.int 1000003))) (mpVar 2) (mRd (mpVar 6)))
    (fun ρ => some (.ct, ρ)))) mNx))) mNx)
    k_law_draws_for_k_in_range_many__2))
def m_law_draws : MS := (mSeq (mAsg (mLc (mSeq1 seqOf (mRdF 0 (mpVar 0))) (gmName 5) (M.ret true) (mCB fAbs (mCons (mCB fInt (mCons (mRd (mpVar 5)) mNil)) mNil)) [5]) (gmName 2))
    (mSeq (mAsg (mLst mNil) (gmName 3))
    (mSeq (mFor (mArgs1 fRng1 (mCons (mRd (mpVar 1)) mNil)) (gmName 4) l_law_draws_0)
    (mRet (mMv 3)))))
def fn_law_draws : Fn := runF 8 m_law_draws 2
/-! _law_take -/
abbrev N_law_take : List Str := ["hand", "many", "at", "draws"]
abbrev fx_law_take : List Bool := [true, true]
def m_law_take : MS := (mSeq (mAsg (mRdF 0 (mpIx (mpVar 0) (M.ret (.int 1)))) (gmName 2))
    (mSeq (mSetIx 0 (mBin fAdd (mRd (mpVar 2)) (M.ret (.int 1))) (mpVar 0) (M.ret (.int 1)))
    (mSeq (mAsg (mRdF 0 (mpIx (mpVar 0) (M.ret (.int 0)))) (gmName 3))
    (mSeq (mIf (mTest (mBin fGe (mRd (mpVar 2)) (mPk fLen (mpVar 3)))) (mRet (M.ret (.int 0))) mNx)
    (mRet (mBin fMod (mBin fDiv (mCB fInt (mCons (mRd (mpIx (mpVar 3) (mRd (mpVar 2)))) mNil)) (M.ret (.int 7))) (mRd (mpVar 1))))))))
def fn_law_take : Fn := runF 4 m_law_take 2
/-! _law_names_of -/
abbrev N_law_names_of : List Str := ["hand", "names", "k", "pad", "letter"]
abbrev fx_law_names_of : List Bool := [true]
def l_law_names_of_0 : MS := (mSeq (mAsg (mBin fIx (mLst (mCons (M.ret (.str "")) (mCons (M.ret (.str "u")) (mCons (M.ret (.str "zzzzzzzzzzz")) (mCons (M.ret (.str "uz")) mNil))))) (mCall fx_law_take fn_law_take (mConsS 0 (mCons (M.ret (.int 4)) mNil)))) (gmName 3))
    (mSeq (mAsg (mBin fIxS (M.ret (.str "abcdxy")) (mRd (mpVar 2))) (gmName 4))
    (mIf (mTest (mBin fEq (mCall fx_law_take fn_law_take (mConsS 0 (mCons (M.ret (.int 2)) mNil))) (M.ret (.int 0)))) (mExp (mApp 1 (mpVar 1) (mBin fCatS (mRdF 4 (mpVar 4)) (mRdF 3 (mpVar 3))))) (mExp (mApp 1 (mpVar 1) (mBin fCatS (mRdF 3 (mpVar 3)) (mRdF 4 (mpVar 4))))))))
def m_law_names_of : MS := (mSeq (mAsg (mLst mNil) (gmName 1))
    (mSeq (mFor (mArgs1 fRng1 (mCons (M.ret (.int 6)) mNil)) (gmName 2) l_law_names_of_0)
    (mRet (mMv 1))))
def fn_law_names_of : Fn := runF 5 m_law_names_of 1
/-! _law_wide -/
abbrev N_law_wide : List Str := ["hand", "many", "first"]
abbrev fx_law_wide : List Bool := [true, true]
def m_law_wide : MS := (mSeq (mAsg (mCall fx_law_take fn_law_take (mConsS 0 (mCons (M.ret (.int 100003)) mNil))) (gmName 2))
    (mRet (mBin fMod (mCB fInt (mCons (mBin fAdd (mBin fMul (mRd (mpVar 2)) (M.ret (.int 100003))) (mCall fx_law_take fn_law_take (mConsS 0 (mCons (M.ret (.int 100003)) mNil)))) mNil)) (mRd (mpVar 1)))))
def fn_law_wide : Fn := runF 3 m_law_wide 2
/-! _law_some -/
abbrev N_law_some : List Str := ["hand"]
abbrev fx_law_some : List Bool := [true]
def m_law_some : MS := (mSeq (mIf (mTest (mBin fEq (mCall fx_law_take fn_law_take (mConsS 0 (mCons (M.ret (.int 5)) mNil))) (M.ret (.int 0)))) (mRet (mBin fSub (mCall fx_law_wide fn_law_wide (mConsS 0 (mCons (mBin fAdd (mBin fMul (M.ret (.int 2)) (mBin fPow (M.ret (.int 10)) (M.ret (.int 9)))) (M.ret (.int 1))) mNil))) (mBin fPow (M.ret (.int 10)) (M.ret (.int 9))))) mNx)
    (mRet (mBin fSub (mCall fx_law_take fn_law_take (mConsS 0 (mCons (M.ret (.int 9)) mNil))) (M.ret (.int 2)))))
def fn_law_some : Fn := runF 1 m_law_some 1
/-! _law_copied -/
abbrev N_law_copied : List Str := ["variables", "names", "found", "at"]
abbrev fx_law_copied : List Bool := [true, true]
def l_law_copied_0 : MS := (mSeq (mDPut 2 (mRdF 0 (mpDg (mpVar 0) (mRd (mpIx (mpVar 1) (mRd (mpVar 3)))))) (mpVar 2) (mRd (mpIx (mpVar 1) (mRd (mpVar 3)))))
    (mIf (mTest (mBin fGt (mRd (mpVar 3)) (M.ret (.int 3)))) (mDPut 2 (mPk fList (mpDg (mpVar 0) (mRd (mpIx (mpVar 1) (mRd (mpVar 3)))))) (mpVar 2) (mRd (mpIx (mpVar 1) (mRd (mpVar 3))))) mNx))
def m_law_copied : MS := (mSeq (mAsg (M.ret (.nd true (.dK []) [])) (gmName 2))
    (mSeq (mFor (mArgs1 fRng1 (mCons (M.ret (.int 6)) mNil)) (gmName 3) l_law_copied_0)
    (mRet (mMv 2))))
def fn_law_copied : Fn := runF 4 m_law_copied 2
/-! _law_number -/
abbrev N_law_number : List Str := ["hand"]
abbrev fx_law_number : List Bool := [true]
def m_law_number : MS := (mSeq (mIf (mTest (mBin fEq (mCall fx_law_take fn_law_take (mConsS 0 (mCons (M.ret (.int 9)) mNil))) (M.ret (.int 1)))) (mRet (mBin fSub (mCall fx_law_wide fn_law_wide (mConsS 0 (mCons (M.ret (.int 1999999)) mNil))) (M.ret (.int 999999)))) mNx)
    (mRet (mBin fSub (mCall fx_law_take fn_law_take (mConsS 0 (mCons (M.ret (.int 7)) mNil))) (M.ret (.int 3)))))
def fn_law_number : Fn := runF 1 m_law_number 1
/-! _law_plain -/
abbrev N_law_plain : List Str := ["hand", "names"]
abbrev fx_law_plain : List Bool := [true, true]
def m_law_plain : MS := (mSeq (mIf (mTest (mBin fEq (mCall fx_law_take fn_law_take (mConsS 0 (mCons (M.ret (.int 3)) mNil))) (M.ret (.int 0)))) (mRet (mTup (mCons (M.ret (.str "num")) (mCons (mCall fx_law_number fn_law_number (mConsS 0 mNil)) mNil)))) mNx)
    (mRet (mTup (mCons (M.ret (.str "var")) (mCons (mRdF 1 (mpIx (mpVar 1) (mCall fx_law_take fn_law_take (mConsS 0 (mCons (M.ret (.int 4)) mNil))))) (mCons (mBin fIx (mLst (mCons (M.ret (.int 0)) (mCons (M.ret (.int 0)) (mCons (M.ret (.int 1)) (mCons (mUn fNeg (M.ret (.int 1))) (mCons (mCall fx_law_number fn_law_number (mConsS 0 mNil)) mNil)))))) (mCall fx_law_take fn_law_take (mConsS 0 (mCons (M.ret (.int 5)) mNil)))) mNil))))))
def fn_law_plain : Fn := runF 2 m_law_plain 2
/-! _law_expression -/
abbrev N_law_expression : List Str := ["hand", "names"]
abbrev fx_law_expression : List Bool := [true, true]
def m_law_expression : MS := (mSeq (mIf (mTest (mBin fEq (mCall fx_law_take fn_law_take (mConsS 0 (mCons (M.ret (.int 2)) mNil))) (M.ret (.int 0)))) (mRet (mCall fx_law_plain fn_law_plain (mConsS 0 (mConsS 1 mNil)))) mNx)
    (mRet (mTup (mCons (M.ret (.str "item")) (mCons (mRdF 1 (mpIx (mpVar 1) (mBin fAdd (M.ret (.int 4)) (mCall fx_law_take fn_law_take (mConsS 0 (mCons (M.ret (.int 2)) mNil)))))) (mCons (mCall fx_law_plain fn_law_plain (mConsS 0 (mConsS 1 mNil))) (mCons (mBin fIx (mLst (mCons (M.ret (.int 0)) (mCons (M.ret (.int 1)) (mCons (mUn fNeg (M.ret (.int 2))) (mCons (mCall fx_law_number fn_law_number (mConsS 0 mNil)) mNil))))) (mCall fx_law_take fn_law_take (mConsS 0 (mCons (M.ret (.int 4)) mNil)))) mNil)))))))
def fn_law_expression : Fn := runF 2 m_law_expression 2
/-! _law_tree -/
abbrev N_law_tree : List Str := ["hand", "names", "depth", "purse", "kind", "sign", "many", "parts", "k"]
abbrev fx_law_tree : List Bool := [true, true, true, true]
def c_law_tree_0 (R : Fn) : MS := (mSeq (mAsg (mBin fIx (mLst (mCons (M.ret (.str "<")) (mCons (M.ret (.str "<=")) (mCons (M.ret (.str ">")) (mCons (M.ret (.str ">=")) (mCons (M.ret (.str "==")) (mCons (M.ret (.str "!=")) mNil))))))) (mCall fx_law_take fn_law_take (mConsS 0 (mCons (M.ret (.int 6)) mNil)))) (gmName 5))
    (mRet (mTup (mCons (M.ret (.str "cmp")) (mCons (mRdF 5 (mpVar 5)) (mCons (mCall fx_law_expression fn_law_expression (mConsS 0 (mConsS 1 mNil))) (mCons (mCall fx_law_expression fn_law_expression (mConsS 0 (mConsS 1 mNil))) mNil)))))))
def k_law_tree_3 (R : Fn) : MS := (mSeq (mAsg (mBin fAdd (M.ret (.int 2)) (mBin fDiv (mCall fx_law_take fn_law_take (mConsS 0 (mCons (mBin fSub (mBin fMul (M.ret (.int 3)) (mRd (mpVar 3))) (M.ret (.int 3))) mNil))) (M.ret (.int 3)))) (gmName 6))
    (mSeq (mAsg (mLc (mArgs1 fRng1 (mCons (mRd (mpVar 6)) mNil)) (gmName 8) (M.ret true) (mCall fx_law_tree R (mConsS 0 (mConsS 1 (mCons (mBin fSub (mRd (mpVar 2)) (M.ret (.int 1))) (mCons (mBin fDiv (mRd (mpVar 3)) (mRd (mpVar 6))) mNil))))) [8]) (gmName 7))
    (mRet (mTup (mCons (mBin fIx (mLst (mCons (M.ret (.str "and")) (mCons (M.ret (.str "or")) mNil))) (mCall fx_law_take fn_law_take (mConsS 0 (mCons (M.ret (.int 2)) mNil)))) (mCons (mPk fTuple (mpVar 7)) mNil))))))
def m_law_tree (R : Fn) : MS := (mSeq (mAsg (mCall fx_law_take fn_law_take (mConsS 0 (mCons (M.ret (.int 6)) mNil))) (gmName 4))
    (mSeq (mIf (mOrT (mTest (mBin fEq (mRd (mpVar 2)) (M.ret (.int 0)))) (mOrT (mTest (mBin fEq (mRd (mpVar 4)) (M.ret (.int 0)))) (mAndT (mTest (mBin fGt (mRd (mpVar 4)) (M.ret (.int 2)))) (mTest (mBin fLt (mRd (mpVar 3)) (M.ret (.int 2))))))) (c_law_tree_0 R) mNx)
    (mSeq (mIf (mTest (mBin fLt (mRd (mpVar 4)) (M.ret (.int 3)))) (mRet (mTup (mCons (M.ret (.str "not")) (mCons (mCall fx_law_tree R (mConsS 0 (mConsS 1 (mCons (mBin fSub (mRd (mpVar 2)) (M.ret (.int 1))) (mConsS 3 mNil))))) mNil)))) mNx)
    (k_law_tree_3 R))))
def fn_law_tree : Nat → Fn
  | 0 => fun _ => none
  | j + 1 => runF 9 (m_law_tree (fn_law_tree j)) 4
/-! _law_is_value -/
abbrev N_law_is_value : List Str := ["found", "expected"]
abbrev fx_law_is_value : List Bool := [true, true]
def m_law_is_value : MS := (mSeq (mIf (mTest (mPk fIsN (mpVar 1))) (mRet (mPk fIsN (mpVar 0))) mNx)
    (mRet (mAndV (mPk (fIsi "int") (mpVar 0)) (mAndV (mNotV (mPk (fIsi "bool") (mpVar 0))) (mBin fEq (mRd (mpVar 0)) (mRd (mpVar 1)))))))
def fn_law_is_value : Fn := runF 2 m_law_is_value 2
/-! value_of -/
abbrev N_value_of : List Str := ["expression", "variables", "index", "numbers"]
abbrev fx_value_of : List Bool := [true, true]
def m_value_of (R : Fn) : MS := (mSeq (mIf (mTest (mBin fEq (mRd (mpIx (mpVar 0) (M.ret (.int 0)))) (M.ret (.str "num")))) (mRet (mRdF 0 (mpIx (mpVar 0) (M.ret (.int 1))))) mNx)
    (mSeq (mIf (mTest (mBin fEq (mRd (mpIx (mpVar 0) (M.ret (.int 0)))) (M.ret (.str "var")))) (mRet (mBin fAdd (mRd (mpDg (mpVar 1) (mRd (mpIx (mpVar 0) (M.ret (.int 1)))))) (mRd (mpIx (mpVar 0) (M.ret (.int 2)))))) mNx)
    (mSeq (mAsg (mCall fx_value_of R (mCons (mRdF 0 (mpIx (mpVar 0) (M.ret (.int 2)))) (mConsS 1 mNil))) (gmName 2))
    (mSeq (mAsg (mRdF 1 (mpDg (mpVar 1) (mRd (mpIx (mpVar 0) (M.ret (.int 1)))))) (gmName 3))
    (mSeq (mIf (mNotT (mTest (mChain (fun i j => decide (i ≤ j)) (fun i j => decide (i < j)) (M.ret (.int 0)) (mRd (mpVar 2)) (mPk fLen (mpVar 3))))) (mRet (M.ret .non)) mNx)
    (mRet (mBin fAdd (mRd (mpIx (mpVar 3) (mRd (mpVar 2)))) (mRd (mpIx (mpVar 0) (M.ret (.int 3)))))))))))
def fn_value_of : Nat → Fn
  | 0 => fun _ => none
  | j + 1 => runF 4 (m_value_of (fn_value_of j)) 2
/-! _law_value -/
abbrev N_law_value : List Str := ["expression", "variables", "cells", "at"]
abbrev fx_law_value : List Bool := [true, true]
def m_law_value (R : Fn) : MS := (mSeq (mIf (mTest (mBin fEq (mRd (mpIx (mpVar 0) (M.ret (.int 0)))) (M.ret (.str "num")))) (mRet (mRdF 0 (mpIx (mpVar 0) (M.ret (.int 1))))) mNx)
    (mSeq (mIf (mTest (mBin fEq (mRd (mpIx (mpVar 0) (M.ret (.int 0)))) (M.ret (.str "var")))) (mRet (mBin fAdd (mRd (mpDg (mpVar 1) (mRd (mpIx (mpVar 0) (M.ret (.int 1)))))) (mRd (mpIx (mpVar 0) (M.ret (.int 2)))))) mNx)
    (mSeq (mAsg (mRdF 1 (mpDg (mpVar 1) (mRd (mpIx (mpVar 0) (M.ret (.int 1)))))) (gmName 2))
    (mSeq (mAsg (mCall fx_law_value R (mCons (mRdF 0 (mpIx (mpVar 0) (M.ret (.int 2)))) (mConsS 1 mNil))) (gmName 3))
    (mSeq (mIf (mOrT (mTest (mBin fLt (mRd (mpVar 3)) (M.ret (.int 0)))) (mTest (mBin fGe (mRd (mpVar 3)) (mPk fLen (mpVar 2))))) (mRet (M.ret .non)) mNx)
    (mRet (mBin fAdd (mRd (mpIx (mpVar 2) (mRd (mpVar 3)))) (mRd (mpIx (mpVar 0) (M.ret (.int 3)))))))))))
def fn_law_value : Nat → Fn
  | 0 => fun _ => none
  | j + 1 => runF 4 (m_law_value (fn_law_value j)) 2
/-! _law_is_truth -/
abbrev N_law_is_truth : List Str := ["found", "expected"]
abbrev fx_law_is_truth : List Bool := [true, true]
def m_law_is_truth : MS := (mSeq (mIf (mTest (mPk fIsN (mpVar 1))) (mRet (mPk fIsN (mpVar 0))) mNx)
    (mRet (mAndV (mPk (fIsi "bool") (mpVar 0)) (mBin fEq (mRd (mpVar 0)) (mRd (mpVar 1))))))
def fn_law_is_truth : Fn := runF 2 m_law_is_truth 2
/-! compares -/
abbrev N_compares : List Str := ["sign", "left", "right"]
abbrev fx_compares : List Bool := [true, true, true]
def m_compares : MS := (mSeq (mIf (mTest (mBin fEq (mRd (mpVar 0)) (M.ret (.str "<")))) (mRet (mBin fLt (mRd (mpVar 1)) (mRd (mpVar 2)))) mNx)
    (mSeq (mIf (mTest (mBin fEq (mRd (mpVar 0)) (M.ret (.str "<=")))) (mRet (mBin fLe (mRd (mpVar 1)) (mRd (mpVar 2)))) mNx)
    (mSeq (mIf (mTest (mBin fEq (mRd (mpVar 0)) (M.ret (.str ">")))) (mRet (mBin fGt (mRd (mpVar 1)) (mRd (mpVar 2)))) mNx)
    (mSeq (mIf (mTest (mBin fEq (mRd (mpVar 0)) (M.ret (.str ">=")))) (mRet (mBin fGe (mRd (mpVar 1)) (mRd (mpVar 2)))) mNx)
    (mSeq (mIf (mTest (mBin fEq (mRd (mpVar 0)) (M.ret (.str "==")))) (mRet (mBin fEq (mRd (mpVar 1)) (mRd (mpVar 2)))) mNx)
    (mRet (mBin fNe (mRd (mpVar 1)) (mRd (mpVar 2)))))))))
def fn_compares : Fn := runF 3 m_compares 3
/-! truth_of -/
abbrev N_truth_of : List Str := ["condition", "variables", "left", "right", "truth", "goes_on", "part"]
abbrev fx_truth_of : List Bool := [true, true]
def l_truth_of_0 (R : Fn) : MS := (mSeq (mAsg (mCall fx_truth_of R (mConsS 6 (mConsS 1 mNil))) (gmName 4))
    (mIf (mOrT (mTest (mPk fIsN (mpVar 4))) (mTest (mBin fNe (mRd (mpVar 4)) (mRd (mpVar 5))))) (mRet (mMv 4)) mNx))
def m_truth_of (R : Fn) : MS := (mSeq (mIf (mTest (mBin fEq (mRd (mpIx (mpVar 0) (M.ret (.int 0)))) (M.ret (.str "cmp")))) (mSeq (mAsg (mCall fx_value_of (fn_value_of 2) (mCons (mRdF 0 (mpIx (mpVar 0) (M.ret (.int 2)))) (mConsS 1 mNil))) (gmName 2))
    (mSeq (mAsg (mCall fx_value_of (fn_value_of 2) (mCons (mRdF 0 (mpIx (mpVar 0) (M.ret (.int 3)))) (mConsS 1 mNil))) (gmName 3))
    (mSeq (mIf (mOrT (mTest (mPk fIsN (mpVar 2))) (mTest (mPk fIsN (mpVar 3)))) (mRet (M.ret .non)) mNx)
    (mRet (mCall fx_compares fn_compares (mCons (mRdF 0 (mpIx (mpVar 0) (M.ret (.int 1)))) (mConsS 2 (mConsS 3 mNil)))))))) mNx)
    (mSeq (mIf (mTest (mBin fEq (mRd (mpIx (mpVar 0) (M.ret (.int 0)))) (M.ret (.str "not")))) (mSeq (mAsg (mCall fx_truth_of R (mCons (mRdF 0 (mpIx (mpVar 0) (M.ret (.int 1)))) (mConsS 1 mNil))) (gmName 4))
    (mSeq (mIf (mTest (mPk fIsN (mpVar 4))) (mRet (M.ret .non)) mNx)
    (mRet (mNotV (mRd (mpVar 4)))))) mNx)
    (mSeq (mAsg (mBin fEq (mRd (mpIx (mpVar 0) (M.ret (.int 0)))) (M.ret (.str "and"))) (gmName 5))
    (mSeq (mFor (mSeq1 tupOf (mRdF 0 (mpIx (mpVar 0) (M.ret (.int 1))))) (gmName 6) (l_truth_of_0 R))
    (mRet (mMv 5))))))
def fn_truth_of : Nat → Fn
  | 0 => fun _ => none
  | j + 1 => runF 7 (m_truth_of (fn_truth_of j)) 2
/-! _law_compared -/
abbrev N_law_compared : List Str := ["sign", "left", "right", "truths"]
abbrev fx_law_compared : List Bool := [true, true, true]
def m_law_compared : MS := (mSeq (mAsg (mLst (mCons (mBin fLt (mRd (mpVar 1)) (mRd (mpVar 2))) (mCons (mBin fLe (mRd (mpVar 1)) (mRd (mpVar 2))) (mCons (mBin fGt (mRd (mpVar 1)) (mRd (mpVar 2))) (mCons (mBin fGe (mRd (mpVar 1)) (mRd (mpVar 2))) (mCons (mBin fEq (mRd (mpVar 1)) (mRd (mpVar 2))) (mCons (mBin fNe (mRd (mpVar 1)) (mRd (mpVar 2))) mNil))))))) (gmName 3))
    (mRet (mRdF 3 (mpIx (mpVar 3) (mBinL fIdx (mLst (mCons (M.ret (.str "<")) (mCons (M.ret (.str "<=")) (mCons (M.ret (.str ">")) (mCons (M.ret (.str ">=")) (mCons (M.ret (.str "==")) (mCons (M.ret (.str "!=")) mNil))))))) (mRdF 0 (mpVar 0)))))))
def fn_law_compared : Fn := runF 4 m_law_compared 3
/-! _law_truth -/
abbrev N_law_truth : List Str := ["condition", "variables", "left", "right", "truth", "part"]
abbrev fx_law_truth : List Bool := [true, true]
def l_law_truth_0 (R : Fn) : MS := (mSeq (mAsg (mCall fx_law_truth R (mConsS 5 (mConsS 1 mNil))) (gmName 4))
    (mIf (mOrT (mTest (mPk fIsN (mpVar 4))) (mTest (mBin fEq (mRd (mpVar 4)) (mBin fEq (mRd (mpIx (mpVar 0) (M.ret (.int 0)))) (M.ret (.str "or")))))) (mRet (mMv 4)) mNx))
def m_law_truth (R : Fn) : MS := (mSeq (mIf (mTest (mBin fEq (mRd (mpIx (mpVar 0) (M.ret (.int 0)))) (M.ret (.str "cmp")))) (mSeq (mAsg (mCall fx_law_value (fn_law_value 2) (mCons (mRdF 0 (mpIx (mpVar 0) (M.ret (.int 2)))) (mConsS 1 mNil))) (gmName 2))
    (mSeq (mIf (mTest (mPk fIsN (mpVar 2))) (mRet (M.ret .non)) mNx)
    (mSeq (mAsg (mCall fx_law_value (fn_law_value 2) (mCons (mRdF 0 (mpIx (mpVar 0) (M.ret (.int 3)))) (mConsS 1 mNil))) (gmName 3))
    (mSeq (mIf (mTest (mPk fIsN (mpVar 3))) (mRet (M.ret .non)) mNx)
    (mRet (mCall fx_law_compared fn_law_compared (mCons (mRdF 0 (mpIx (mpVar 0) (M.ret (.int 1)))) (mConsS 2 (mConsS 3 mNil))))))))) mNx)
    (mSeq (mIf (mTest (mBin fEq (mRd (mpIx (mpVar 0) (M.ret (.int 0)))) (M.ret (.str "not")))) (mSeq (mAsg (mCall fx_law_truth R (mCons (mRdF 0 (mpIx (mpVar 0) (M.ret (.int 1)))) (mConsS 1 mNil))) (gmName 4))
    (mSeq (mIf (mTest (mPk fIsN (mpVar 4))) (mRet (M.ret .non)) mNx)
    (mRet (mNotV (mRd (mpVar 4)))))) mNx)
    (mSeq (mFor (mSeq1 tupOf (mRdF 0 (mpIx (mpVar 0) (M.ret (.int 1))))) (gmName 5) (l_law_truth_0 R))
    (mRet (mBin fEq (mRd (mpIx (mpVar 0) (M.ret (.int 0)))) (M.ret (.str "and")))))))
def fn_law_truth : Nat → Fn
  | 0 => fun _ => none
  | j + 1 => runF 6 (m_law_truth (fn_law_truth j)) 2
/-! law -/
abbrev N_law : List Str := ["script", "hand", "names", "variables", "at", "kept", "expressions", "condition", "step", "one", "other", "k"]
abbrev fx_law : List Bool := [true]
def l_law_0 : MS := (mDPut 3 (mCall fx_law_some fn_law_some (mConsS 1 mNil)) (mpVar 3) (mRd (mpIx (mpVar 2) (mRd (mpVar 4)))))
def l_law_1 : MS := (mDPut 3 (mLc (mArgs1 fRng1 (mCons (mBin fAdd (M.ret (.int 1)) (mCall fx_law_take fn_law_take (mConsS 1 (mCons (M.ret (.int 6)) mNil)))) mNil)) (gmName 11) (M.ret true) (mCall fx_law_some fn_law_some (mConsS 1 mNil)) [11]) (mpVar 3) (mRd (mpIx (mpVar 2) (mRd (mpVar 4)))))
def l_law_2 : MS := (mIf (mNotT (mBr (fun _ => true) (mTest (mCall fx_law_is_value fn_law_is_value (mCons (mCall fx_value_of (fn_value_of 2) (mConsS 9 (mConsS 3 mNil))) (mCons (mCall fx_law_value (fn_law_value 2) (mConsS 9 (mConsS 5 mNil))) mNil)))))) (mRet (M.ret (.bl false))) mNx)
def l_law_3 : MS := (mIf (mBr (fun _ => true) (mTest (mBin fNeD (mRdF 3 (mpDg (mpVar 3) (mRd (mpIx (mpVar 2) (mRd (mpVar 4)))))) (mRdF 5 (mpDg (mpVar 5) (mRd (mpIx (mpVar 2) (mRd (mpVar 4))))))))) (mRet (M.ret (.bl false))) mNx)
def l_law_4 : MS := (mSeq (mFor (mSeq1 seqOf (mRdF 6 (mpVar 6))) (gmName 9) l_law_2)
    (mSeq (mIf (mNotT (mBr (fun _ => true) (mTest (mCall fx_law_is_truth fn_law_is_truth (mCons (mCall fx_truth_of (fn_truth_of 6) (mConsS 7 (mConsS 3 mNil))) (mCons (mCall fx_law_truth (fn_law_truth 6) (mConsS 7 (mConsS 5 mNil))) mNil)))))) (mRet (M.ret (.bl false))) mNx)
    (mSeq (mIf (mOrT (mTest (mBin fNe (mPk fLenD (mpVar 3)) (M.ret (.int 6)))) (mBr (fun _ => true) (mTest (mBin fNeD (mPk fListD (mpVar 3)) (mRdF 2 (mpVar 2)))))) (mRet (M.ret (.bl false))) mNx)
    (mFor (mArgs1 fRng1 (mCons (M.ret (.int 6)) mNil)) (gmName 4) l_law_3))))
def l_law_5 : MS := (mDPut 10 (mBin fIx (mLst (mCons (M.ret (.int 7)) (mCons (mLst (mCons (M.ret (.int 7)) mNil)) mNil))) (mCB fInt (mCons (mBin fGt (mRd (mpVar 4)) (M.ret (.int 3))) mNil))) (mpVar 10) (mRd (mpIx (mpVar 2) (mRd (mpVar 4)))))
def l_law_6 : MS := (mIf (mNotT (mBr (fun _ => true) (mTest (mCall fx_law_is_value fn_law_is_value (mCons (mCall fx_value_of (fn_value_of 2) (mConsS 9 (mConsS 3 mNil))) (mCons (mCall fx_law_value (fn_law_value 2) (mConsS 9 (mConsS 5 mNil))) mNil)))))) (mRet (M.ret (.bl false))) mNx)
def k_law_15 : MS := (mSeq (mFor (mSeq1 seqOf (mRdF 6 (mpVar 6))) (gmName 9) l_law_6)
    (mRet (mBr okB (mCall fx_law_is_truth fn_law_is_truth (mCons (mCall fx_truth_of (fn_truth_of 6) (mConsS 7 (mConsS 3 mNil))) (mCons (mCall fx_law_truth (fn_law_truth 6) (mConsS 7 (mConsS 5 mNil))) mNil))))))
def k_law_14 : MS := (mSeq (mAsg (mBr okB (mCall fx_law_copied fn_law_copied (mConsS 3 (mConsS 2 mNil)))) (gmName 5))
    k_law_15)
def k_law_12 : MS := (mSeq (mDPut 3 (mBin fAdd (mRd (mpDg (mpVar 3) (mRd (mpIx (mpVar 2) (M.ret (.int 0)))))) (M.ret (.int 1))) (mpVar 3) (mRd (mpIx (mpVar 2) (M.ret (.int 0)))))
    (mSeq (mSetIx 3 (mBin fSub (mRd (mpIx (mpDg (mpVar 3) (mRd (mpIx (mpVar 2) (M.ret (.int 4))))) (M.ret (.int 0)))) (M.ret (.int 1))) (mpDg (mpVar 3) (mRd (mpIx (mpVar 2) (M.ret (.int 4))))) (M.ret (.int 0)))
    k_law_14))
def k_law_11 : MS := (mSeq (mIf (mNotT (mBr (fun _ => true) (mTest (mCall fx_law_is_truth fn_law_is_truth (mCons (mCall fx_truth_of (fn_truth_of 6) (mConsS 7 (mConsS 10 mNil))) (mCons (mCall fx_law_truth (fn_law_truth 6) (mConsS 7 (mConsS 10 mNil))) mNil)))))) (mRet (M.ret (.bl false))) mNx)
    k_law_12)
def k_law_9 : MS := (mSeq (mAsg (M.ret (.nd true (.dK []) [])) (gmName 10))
    (mSeq (mFor (mArgs1 fRng1 (mCons (M.ret (.int 6)) mNil)) (gmName 4) l_law_5)
    k_law_11))
def k_law_8 : MS := (mSeq (mFor (mArgs1 fRng1 (mCons (M.ret (.int 2)) mNil)) (gmName 8) l_law_4)
    k_law_9)
def k_law_7 : MS := (mSeq (mAsg (mCall fx_law_tree (fn_law_tree 6) (mConsS 1 (mConsS 2 (mCons (mCall fx_law_take fn_law_take (mConsS 1 (mCons (M.ret (.int 5)) mNil))) (mCons (M.ret (.int 6)) mNil))))) (gmName 7))
    k_law_8)
def k_law_6 : MS := (mSeq (mAsg (mLc (mArgs1 fRng1 (mCons (M.ret (.int 3)) mNil)) (gmName 11) (M.ret true) (mCall fx_law_expression fn_law_expression (mConsS 1 (mConsS 2 mNil))) [11]) (gmName 6))
    k_law_7)
def k_law_5 : MS := (mSeq (mAsg (mBr okB (mCall fx_law_copied fn_law_copied (mConsS 3 (mConsS 2 mNil)))) (gmName 5))
    k_law_6)
def m_law : MS := (mSeq (mAsg (mLst (mCons (mCall fx_law_draws fn_law_draws (mConsS 0 (mCons (M.ret (.int 160)) mNil))) (mCons (M.ret (.int 0)) mNil))) (gmName 1))
    (mSeq (mAsg (mCall fx_law_names_of fn_law_names_of (mConsS 1 mNil)) (gmName 2))
    (mSeq (mAsg (M.ret (.nd true (.dK []) [])) (gmName 3))
    (mSeq (mFor (mArgs1 fRng1 (mCons (M.ret (.int 4)) mNil)) (gmName 4) l_law_0)
    (mSeq (mFor (mArgs1 fRng2 (mCons (M.ret (.int 4)) (mCons (M.ret (.int 6)) mNil))) (gmName 4) l_law_1)
    k_law_5)))))
def fn_law : Fn := runF 12 m_law 1
end K05

/-! K05d -/
set_option Elab.async false
set_option linter.all false
set_option maxRecDepth 100000
set_option maxHeartbeats 4000000
namespace K05
open PySem L2 Pv
def top (i : Nat) : Stmt := PySem.Challenge.pw_everyinput_k05_values_and_truths.main.body.getD i (.Pass ⟨0, 0, 0, 0⟩)
abbrev s_law_draws : Stmt := top 5
abbrev s_law_take : Stmt := top 6
abbrev s_law_names_of : Stmt := top 13
abbrev s_law_wide : Stmt := top 7
abbrev s_law_some : Stmt := top 11
abbrev s_law_copied : Stmt := top 19
abbrev s_law_number : Stmt := top 12
abbrev s_law_plain : Stmt := top 14
abbrev s_law_expression : Stmt := top 15
abbrev s_law_tree : Stmt := top 16
abbrev s_law_is_value : Stmt := top 17
abbrev s_value_of : Stmt := top 1
abbrev s_law_value : Stmt := top 8
abbrev s_law_is_truth : Stmt := top 18
abbrev s_compares : Stmt := top 2
abbrev s_truth_of : Stmt := top 3
abbrev s_law_compared : Stmt := top 9
abbrev s_law_truth : Stmt := top 10
abbrev s_law : Stmt := top 20
structure Txt (K : PySem.W.Frag) (mg : Str → Option Value) (cl : Nat → Addr) : Prop where
  z_abs : mg "abs" = none
  z_bool : mg "bool" = none
  z_int : mg "int" = none
  z_isinstance : mg "isinstance" = none
  z_len : mg "len" = none
  z_list : mg "list" = none
  z_range : mg "range" = none
  z_tuple : mg "tuple" = none
theorem z_babs : bootBuiltins "abs" = some (.builtin "abs") := by decide +kernel
theorem z_bbool : bootBuiltins "bool" = some (.type "bool") := by decide +kernel
theorem z_bint : bootBuiltins "int" = some (.type "int") := by decide +kernel
theorem z_bisinstance : bootBuiltins "isinstance" = some (.builtin "isinstance") := by decide +kernel
theorem z_blen : bootBuiltins "len" = some (.builtin "len") := by decide +kernel
theorem z_blist : bootBuiltins "list" = some (.type "list") := by decide +kernel
theorem z_brange : bootBuiltins "range" = some (.type "range") := by decide +kernel
theorem z_btuple : bootBuiltins "tuple" = some (.type "tuple") := by decide +kernel
section
variable {P : Program} {w : World} {K : PySem.W.Frag} {mg : Str → Option Value} {base : Heap} {cl : Nat → Addr}
theorem sc_law_draws : FnScope N_law_draws ["script", "many"] (defScope s_law_draws) := ⟨rfl, rfl, rfl, by decide +kernel, rfl, by decide +kernel, by decide +kernel⟩
theorem ok_law_draws {f : Addr} {fd : FuncData} (F : Fun K "_law_draws" "_law_draws" s_law_draws f fd) (z : Txt K mg cl)  :
    FnOk P w K mg base (L2.CX P w) 1 f fd ["script", "many"] (spP K cl 2 fx_law_draws fn_law_draws) :=
  def_ok (N := N_law_draws) (m := m_law_draws) (k := 0) F sc_law_draws rfl (hfx_of (by decide)) fun cdv A outer s H E hr => ⟨_,
    (b_cons (x_setLc (own := [("cell", 5)]) 2 rfl sc_law_draws.nd (blkOk_by (N := N_law_draws) (sc := defScope s_law_draws) (own := [("cell", 5)]) (by decide +kernel)) (sw_true rfl rfl rfl (by decide +kernel)) (i_list (m_rdF (p_nm 0))) (fun _ _ _ _ _ => (g_nm 5 sc_law_draws.nd)) (fun _ _ _ _ _ => ts_nil) (fun _ _ _ _ _ => (m_cb call_abs pn_abs z.z_abs z_babs rfl (a_cons (m_cty call_int1 pn_int z.z_int z_bint rfl (a_cons (m_rd (p_nm 5)) a_nil)) a_nil))) (by decide))
    (b_cons (x_set 3 sc_law_draws.nd (m_lst a_nil))
    (b_cons (x_for (passes_of rfl) rfl (i_rng1 z.z_range rfl (a_cons (m_rd (p_nm 1)) a_nil)) (g_nm 4 sc_law_draws.nd) (b_cons (x_set 5 sc_law_draws.nd (m_rdF (p_nm 4)))
    (b_cons (x_if (t_gt (m_cbP call_len_seq pk_len z.z_len z_blen rfl (p_nm 0)) m_int) (b_cons (x_set 6 sc_law_draws.nd (m_mod (m_rd (p_nm 4)) (m_cbP call_len_seq pk_len z.z_len z_blen rfl (p_nm 0))))
    (b_cons (x_set 5 sc_law_draws.nd (m_cty call_int1 pn_int z.z_int z_bint rfl (a_cons (m_rd (p_ix (p_nm 0) (m_rd (p_nm 6)) (by decide) (fun _ _ => rfl))) a_nil)))
    (b_one (x_if (MW.mt (w_and (t_ge (m_rd (p_nm 5)) (m_pow m_int m_int)) (w_and1 (t_gt (m_rd (p_ix (p_nm 2) (m_rd (p_nm 6)) (by decide) (fun _ _ => rfl))) m_int)))) (b_cons (x_expr (m_app (by decide) (p_nm 3) (m_mod (m_cty call_int1 pn_int z.z_int z_bint rfl (a_cons (m_rd (p_ix (p_nm 2) (m_rd (p_nm 6)) (by decide) (fun _ _ => rfl))) a_nil)) m_int)))
    (b_cons (x_setIx (by decide) (m_div (m_cty call_int1 pn_int z.z_int z_bint rfl (a_cons (m_rd (p_ix (p_nm 2) (m_rd (p_nm 6)) (by decide) (fun _ _ => rfl))) a_nil)) m_int) (p_nm 2) (m_rd (p_nm 6)))
    (b_one x_cont))) b_nil)))) b_nil)
    (b_cons (x_set 7 sc_law_draws.nd (m_mod (m_cty call_int1 pn_int z.z_int z_bint rfl (a_cons (m_add (m_add (m_mul (m_rd (p_nm 5)) m_int) (m_mul (m_rd (p_nm 4)) m_int)) m_int) a_nil)) m_int))
    (b_cons (x_set 7 sc_law_draws.nd (m_mod (m_cty call_int1 pn_int z.z_int z_bint rfl (a_cons (m_add (m_div (m_mul (m_rd (p_nm 7)) (m_rd (p_nm 7))) m_int) (m_rd (p_nm 7))) a_nil)) m_int))
    (b_one (x_expr (m_app (by decide) (p_nm 3) (m_mod (m_cty call_int1 pn_int z.z_int z_bint rfl (a_cons (m_add (m_div (m_mul (m_rd (p_nm 7)) (m_rd (p_nm 7))) m_int) (m_mul (m_rd (p_nm 4)) m_int)) a_nil)) m_int)))))))))
    (b_one (x_ret (m_mv 3))))))⟩
theorem sc_law_take : FnScope N_law_take ["hand", "many"] (defScope s_law_take) := ⟨rfl, rfl, rfl, by decide +kernel, rfl, by decide +kernel, by decide +kernel⟩
theorem ok_law_take {f : Addr} {fd : FuncData} (F : Fun K "_law_take" "_law_take" s_law_take f fd) (z : Txt K mg cl)  :
    FnOk P w K mg base (L2.CX P w) 1 f fd ["hand", "many"] (spP K cl 2 fx_law_take fn_law_take) :=
  def_ok (N := N_law_take) (m := m_law_take) (k := 0) F sc_law_take rfl (hfx_of (by decide)) fun cdv A outer s H E hr => ⟨_,
    (b_cons (x_set 2 sc_law_take.nd (m_rdF (p_ix (p_nm 0) m_int (by decide) (fun _ _ => rfl))))
    (b_cons (x_setIx (by decide) (m_add (m_rd (p_nm 2)) m_int) (p_nm 0) m_int)
    (b_cons (x_set 3 sc_law_take.nd (m_rdF (p_ix (p_nm 0) m_int (by decide) (fun _ _ => rfl))))
    (b_cons (x_if (t_ge (m_rd (p_nm 2)) (m_cbP call_len_seq pk_len z.z_len z_blen rfl (p_nm 3))) (b_one (x_ret m_int)) b_nil)
    (b_one (x_ret (m_mod (m_div (m_cty call_int1 pn_int z.z_int z_bint rfl (a_cons (m_rd (p_ix (p_nm 3) (m_rd (p_nm 2)) (by decide) (fun _ _ => rfl))) a_nil)) m_int) (m_rd (p_nm 1)))))))))⟩
theorem sc_law_names_of : FnScope N_law_names_of ["hand"] (defScope s_law_names_of) := ⟨rfl, rfl, rfl, by decide +kernel, rfl, by decide +kernel, by decide +kernel⟩
theorem ok_law_names_of {f : Addr} {fd : FuncData} (F : Fun K "_law_names_of" "_law_names_of" s_law_names_of f fd) (z : Txt K mg cl) (G_law_take : FnG P w K mg base "_law_take" 1 ["hand", "many"] (spP K cl 2 fx_law_take fn_law_take)) :
    FnOk P w K mg base (L2.CX P w) 2 f fd ["hand"] (spP K cl 1 fx_law_names_of fn_law_names_of) :=
  def_ok (N := N_law_names_of) (m := m_law_names_of) (k := 1) F sc_law_names_of rfl (hfx_of (by decide)) fun cdv A outer s H E hr => ⟨_,
    (b_cons (x_set 1 sc_law_names_of.nd (m_lst a_nil))
    (b_cons (x_for (passes_of rfl) rfl (i_rng1 z.z_range rfl (a_cons m_int a_nil)) (g_nm 2 sc_law_names_of.nd) (b_cons (x_set 3 sc_law_names_of.nd (m_ixV (m_lst (a_cons m_str (a_cons m_str (a_cons m_str (a_cons m_str a_nil))))) (m_call G_law_take (takes_of rfl rfl rfl rfl) hr (by decide) rfl (a_sl 0 (a_cons m_int a_nil))) (fun _ _ => rfl)))
    (b_cons (x_set 4 sc_law_names_of.nd (m_ixS m_str (m_rd (p_nm 2)) (fun _ _ => rfl)))
    (b_one (x_if (t_eq (m_call G_law_take (takes_of rfl rfl rfl rfl) hr (by decide) rfl (a_sl 0 (a_cons m_int a_nil))) m_int) (b_one (x_expr (m_app (by decide) (p_nm 1) (m_catS (m_rdF (p_nm 4)) (m_rdF (p_nm 3)))))) (b_one (x_expr (m_app (by decide) (p_nm 1) (m_catS (m_rdF (p_nm 3)) (m_rdF (p_nm 4)))))))))))
    (b_one (x_ret (m_mv 1)))))⟩
theorem sc_law_wide : FnScope N_law_wide ["hand", "many"] (defScope s_law_wide) := ⟨rfl, rfl, rfl, by decide +kernel, rfl, by decide +kernel, by decide +kernel⟩
theorem ok_law_wide {f : Addr} {fd : FuncData} (F : Fun K "_law_wide" "_law_wide" s_law_wide f fd) (z : Txt K mg cl) (G_law_take : FnG P w K mg base "_law_take" 1 ["hand", "many"] (spP K cl 2 fx_law_take fn_law_take)) :
    FnOk P w K mg base (L2.CX P w) 2 f fd ["hand", "many"] (spP K cl 2 fx_law_wide fn_law_wide) :=
  def_ok (N := N_law_wide) (m := m_law_wide) (k := 1) F sc_law_wide rfl (hfx_of (by decide)) fun cdv A outer s H E hr => ⟨_,
    (b_cons (x_set 2 sc_law_wide.nd (m_call G_law_take (takes_of rfl rfl rfl rfl) hr (by decide) rfl (a_sl 0 (a_cons m_int a_nil))))
    (b_one (x_ret (m_mod (m_cty call_int1 pn_int z.z_int z_bint rfl (a_cons (m_add (m_mul (m_rd (p_nm 2)) m_int) (m_call G_law_take (takes_of rfl rfl rfl rfl) hr (by decide) rfl (a_sl 0 (a_cons m_int a_nil)))) a_nil)) (m_rd (p_nm 1))))))⟩
theorem sc_law_some : FnScope N_law_some ["hand"] (defScope s_law_some) := ⟨rfl, rfl, rfl, by decide +kernel, rfl, by decide +kernel, by decide +kernel⟩
theorem ok_law_some {f : Addr} {fd : FuncData} (F : Fun K "_law_some" "_law_some" s_law_some f fd) (z : Txt K mg cl) (G_law_take : FnG P w K mg base "_law_take" 1 ["hand", "many"] (spP K cl 2 fx_law_take fn_law_take)) (G_law_wide : FnG P w K mg base "_law_wide" 2 ["hand", "many"] (spP K cl 2 fx_law_wide fn_law_wide)) :
    FnOk P w K mg base (L2.CX P w) 3 f fd ["hand"] (spP K cl 1 fx_law_some fn_law_some) :=
  def_ok (N := N_law_some) (m := m_law_some) (k := 2) F sc_law_some rfl (hfx_of (by decide)) fun cdv A outer s H E hr => ⟨_,
    (b_cons (x_if (t_eq (m_call G_law_take (takes_of rfl rfl rfl rfl) hr (by decide) rfl (a_sl 0 (a_cons m_int a_nil))) m_int) (b_one (x_ret (m_sub (m_call G_law_wide (takes_of rfl rfl rfl rfl) hr (by decide) rfl (a_sl 0 (a_cons (m_add (m_mul m_int (m_pow m_int m_int)) m_int) a_nil))) (m_pow m_int m_int)))) b_nil)
    (b_one (x_ret (m_sub (m_call G_law_take (takes_of rfl rfl rfl rfl) hr (by decide) rfl (a_sl 0 (a_cons m_int a_nil))) m_int))))⟩
theorem sc_law_copied : FnScope N_law_copied ["variables", "names"] (defScope s_law_copied) := ⟨rfl, rfl, rfl, by decide +kernel, rfl, by decide +kernel, by decide +kernel⟩
theorem ok_law_copied {f : Addr} {fd : FuncData} (F : Fun K "_law_copied" "_law_copied" s_law_copied f fd) (z : Txt K mg cl)  :
    FnOk P w K mg base (L2.CX P w) 1 f fd ["variables", "names"] (spP K cl 2 fx_law_copied fn_law_copied) :=
  def_ok (N := N_law_copied) (m := m_law_copied) (k := 0) F sc_law_copied rfl (hfx_of (by decide)) fun cdv A outer s H E hr => ⟨_,
    (b_cons (x_set 2 sc_law_copied.nd m_dictK)
    (b_cons (x_for (passes_of rfl) rfl (i_rng1 z.z_range rfl (a_cons m_int a_nil)) (g_nm 3 sc_law_copied.nd) (b_cons (x_dput (hu_of hr) (by decide) (m_rdF (p_dg (hu_of hr) (p_nm 0) (m_rd (p_ix (p_nm 1) (m_rd (p_nm 3)) (by decide) (fun _ _ => rfl))) (by decide) (fun _ _ => rfl))) (p_nm 2) (m_rd (p_ix (p_nm 1) (m_rd (p_nm 3)) (by decide) (fun _ _ => rfl))))
    (b_one (x_if (t_gt (m_rd (p_nm 3)) m_int) (b_one (x_dput (hu_of hr) (by decide) (m_ctyP call_list_of pk_list z.z_list z_blist rfl (p_dg (hu_of hr) (p_nm 0) (m_rd (p_ix (p_nm 1) (m_rd (p_nm 3)) (by decide) (fun _ _ => rfl))) (by decide) (fun _ _ => rfl))) (p_nm 2) (m_rd (p_ix (p_nm 1) (m_rd (p_nm 3)) (by decide) (fun _ _ => rfl))))) b_nil))))
    (b_one (x_ret (m_mv 2)))))⟩
theorem sc_law_number : FnScope N_law_number ["hand"] (defScope s_law_number) := ⟨rfl, rfl, rfl, by decide +kernel, rfl, by decide +kernel, by decide +kernel⟩
theorem ok_law_number {f : Addr} {fd : FuncData} (F : Fun K "_law_number" "_law_number" s_law_number f fd) (z : Txt K mg cl) (G_law_take : FnG P w K mg base "_law_take" 1 ["hand", "many"] (spP K cl 2 fx_law_take fn_law_take)) (G_law_wide : FnG P w K mg base "_law_wide" 2 ["hand", "many"] (spP K cl 2 fx_law_wide fn_law_wide)) :
    FnOk P w K mg base (L2.CX P w) 3 f fd ["hand"] (spP K cl 1 fx_law_number fn_law_number) :=
  def_ok (N := N_law_number) (m := m_law_number) (k := 2) F sc_law_number rfl (hfx_of (by decide)) fun cdv A outer s H E hr => ⟨_,
    (b_cons (x_if (t_eq (m_call G_law_take (takes_of rfl rfl rfl rfl) hr (by decide) rfl (a_sl 0 (a_cons m_int a_nil))) m_int) (b_one (x_ret (m_sub (m_call G_law_wide (takes_of rfl rfl rfl rfl) hr (by decide) rfl (a_sl 0 (a_cons m_int a_nil))) m_int))) b_nil)
    (b_one (x_ret (m_sub (m_call G_law_take (takes_of rfl rfl rfl rfl) hr (by decide) rfl (a_sl 0 (a_cons m_int a_nil))) m_int))))⟩
theorem sc_law_plain : FnScope N_law_plain ["hand", "names"] (defScope s_law_plain) := ⟨rfl, rfl, rfl, by decide +kernel, rfl, by decide +kernel, by decide +kernel⟩
theorem ok_law_plain {f : Addr} {fd : FuncData} (F : Fun K "_law_plain" "_law_plain" s_law_plain f fd) (z : Txt K mg cl) (G_law_take : FnG P w K mg base "_law_take" 1 ["hand", "many"] (spP K cl 2 fx_law_take fn_law_take)) (G_law_number : FnG P w K mg base "_law_number" 3 ["hand"] (spP K cl 1 fx_law_number fn_law_number)) :
    FnOk P w K mg base (L2.CX P w) 4 f fd ["hand", "names"] (spP K cl 2 fx_law_plain fn_law_plain) :=
  def_ok (N := N_law_plain) (m := m_law_plain) (k := 3) F sc_law_plain rfl (hfx_of (by decide)) fun cdv A outer s H E hr => ⟨_,
    (b_cons (x_if (t_eq (m_call G_law_take (takes_of rfl rfl rfl rfl) hr (by decide) rfl (a_sl 0 (a_cons m_int a_nil))) m_int) (b_one (x_ret (m_tup (a_cons m_str (a_cons (m_call G_law_number (takes_of rfl rfl rfl rfl) hr (by decide) rfl (a_sl 0 a_nil)) a_nil))))) b_nil)
    (b_one (x_ret (m_tup (a_cons m_str (a_cons (m_rdF (p_ix (p_nm 1) (m_call G_law_take (takes_of rfl rfl rfl rfl) hr (by decide) rfl (a_sl 0 (a_cons m_int a_nil))) (by decide) (fun _ _ => rfl))) (a_cons (m_ixV (m_lst (a_cons m_int (a_cons m_int (a_cons m_int (a_cons (m_neg m_int) (a_cons (m_call G_law_number (takes_of rfl rfl rfl rfl) hr (by decide) rfl (a_sl 0 a_nil)) a_nil)))))) (m_call G_law_take (takes_of rfl rfl rfl rfl) hr (by decide) rfl (a_sl 0 (a_cons m_int a_nil))) (fun _ _ => rfl)) a_nil)))))))⟩
theorem sc_law_expression : FnScope N_law_expression ["hand", "names"] (defScope s_law_expression) := ⟨rfl, rfl, rfl, by decide +kernel, rfl, by decide +kernel, by decide +kernel⟩
theorem ok_law_expression {f : Addr} {fd : FuncData} (F : Fun K "_law_expression" "_law_expression" s_law_expression f fd) (z : Txt K mg cl) (G_law_take : FnG P w K mg base "_law_take" 1 ["hand", "many"] (spP K cl 2 fx_law_take fn_law_take)) (G_law_plain : FnG P w K mg base "_law_plain" 4 ["hand", "names"] (spP K cl 2 fx_law_plain fn_law_plain)) (G_law_number : FnG P w K mg base "_law_number" 3 ["hand"] (spP K cl 1 fx_law_number fn_law_number)) :
    FnOk P w K mg base (L2.CX P w) 5 f fd ["hand", "names"] (spP K cl 2 fx_law_expression fn_law_expression) :=
  def_ok (N := N_law_expression) (m := m_law_expression) (k := 4) F sc_law_expression rfl (hfx_of (by decide)) fun cdv A outer s H E hr => ⟨_,
    (b_cons (x_if (t_eq (m_call G_law_take (takes_of rfl rfl rfl rfl) hr (by decide) rfl (a_sl 0 (a_cons m_int a_nil))) m_int) (b_one (x_ret (m_call G_law_plain (takes_of rfl rfl rfl rfl) hr (by decide) rfl (a_sl 0 (a_sl 1 a_nil))))) b_nil)
    (b_one (x_ret (m_tup (a_cons m_str (a_cons (m_rdF (p_ix (p_nm 1) (m_add m_int (m_call G_law_take (takes_of rfl rfl rfl rfl) hr (by decide) rfl (a_sl 0 (a_cons m_int a_nil)))) (by decide) (fun _ _ => rfl))) (a_cons (m_call G_law_plain (takes_of rfl rfl rfl rfl) hr (by decide) rfl (a_sl 0 (a_sl 1 a_nil))) (a_cons (m_ixV (m_lst (a_cons m_int (a_cons m_int (a_cons (m_neg m_int) (a_cons (m_call G_law_number (takes_of rfl rfl rfl rfl) hr (by decide) rfl (a_sl 0 a_nil)) a_nil))))) (m_call G_law_take (takes_of rfl rfl rfl rfl) hr (by decide) rfl (a_sl 0 (a_cons m_int a_nil))) (fun _ _ => rfl)) a_nil))))))))⟩
theorem sc_law_tree : FnScope N_law_tree ["hand", "names", "depth", "purse"] (defScope s_law_tree) := ⟨rfl, rfl, rfl, by decide +kernel, rfl, by decide +kernel, by decide +kernel⟩
theorem ok_law_tree {f : Addr} {fd : FuncData} {j : Nat} (F : Fun K "_law_tree" "_law_tree" s_law_tree f fd) (z : Txt K mg cl) (G_law_take : FnG P w K mg base "_law_take" 1 ["hand", "many"] (spP K cl 2 fx_law_take fn_law_take)) (G_law_expression : FnG P w K mg base "_law_expression" 5 ["hand", "names"] (spP K cl 2 fx_law_expression fn_law_expression)) (G_law_tree : FnG P w K mg base "_law_tree" (6 + j) ["hand", "names", "depth", "purse"] (spP K cl 4 fx_law_tree (fn_law_tree j))) :
    FnOk P w K mg base (L2.CX P w) (6 + j + 1) f fd ["hand", "names", "depth", "purse"] (spP K cl 4 fx_law_tree (fn_law_tree (j + 1))) :=
  def_ok (N := N_law_tree) (m := m_law_tree (fn_law_tree j)) (k := 6 + j) F sc_law_tree rfl (hfx_of (by decide)) fun cdv A outer s H E hr => ⟨_,
    (b_cons (x_set 4 sc_law_tree.nd (m_call G_law_take (takes_of rfl rfl rfl rfl) hr (by omega) rfl (a_sl 0 (a_cons m_int a_nil))))
    (b_cons (x_if (MW.mt (w_or (t_eq (m_rd (p_nm 2)) m_int) (w_or (t_eq (m_rd (p_nm 4)) m_int) (w_or1 (MW.mt (w_and (t_gt (m_rd (p_nm 4)) m_int) (w_and1 (t_lt (m_rd (p_nm 3)) m_int)))))))) (b_cons (x_set 5 sc_law_tree.nd (m_ixV (m_lst (a_cons m_str (a_cons m_str (a_cons m_str (a_cons m_str (a_cons m_str (a_cons m_str a_nil))))))) (m_call G_law_take (takes_of rfl rfl rfl rfl) hr (by omega) rfl (a_sl 0 (a_cons m_int a_nil))) (fun _ _ => rfl)))
    (b_one (x_ret (m_tup (a_cons m_str (a_cons (m_rdF (p_nm 5)) (a_cons (m_call G_law_expression (takes_of rfl rfl rfl rfl) hr (by omega) rfl (a_sl 0 (a_sl 1 a_nil))) (a_cons (m_call G_law_expression (takes_of rfl rfl rfl rfl) hr (by omega) rfl (a_sl 0 (a_sl 1 a_nil))) a_nil)))))))) b_nil)
    (b_cons (x_if (t_lt (m_rd (p_nm 4)) m_int) (b_one (x_ret (m_tup (a_cons m_str (a_cons (m_call G_law_tree (takes_of rfl rfl rfl rfl) hr (by omega) rfl (a_sl 0 (a_sl 1 (a_cons (m_sub (m_rd (p_nm 2)) m_int) (a_sl 3 a_nil))))) a_nil))))) b_nil)
    (b_cons (x_set 6 sc_law_tree.nd (m_add m_int (m_div (m_call G_law_take (takes_of rfl rfl rfl rfl) hr (by omega) rfl (a_sl 0 (a_cons (m_sub (m_mul m_int (m_rd (p_nm 3))) m_int) a_nil))) m_int)))
    (b_cons (x_setLc (own := [("k", 8)]) 7 rfl sc_law_tree.nd (blkOk_by (N := N_law_tree) (sc := defScope s_law_tree) (own := [("k", 8)]) (by decide +kernel)) (sw_true rfl rfl rfl (by decide +kernel)) (i_rng1 z.z_range rfl (a_cons (m_rd (p_nm 6)) a_nil)) (fun _ _ _ _ _ => (g_nm 8 sc_law_tree.nd)) (fun _ _ _ _ _ => ts_nil) (fun _ _ _ _ _ => (m_call G_law_tree takes0 hr (by omega) rfl (a_sl 0 (a_sl 1 (a_cons (m_sub (m_rd (p_nm 2)) m_int) (a_cons (m_div (m_rd (p_nm 3)) (m_rd (p_nm 6))) a_nil)))))) (by decide))
    (b_one (x_ret (m_tup (a_cons (m_ixV (m_lst (a_cons m_str (a_cons m_str a_nil))) (m_call G_law_take (takes_of rfl rfl rfl rfl) hr (by omega) rfl (a_sl 0 (a_cons m_int a_nil))) (fun _ _ => rfl)) (a_cons (m_ctyP call_tuple_of pk_tuple z.z_tuple z_btuple rfl (p_nm 7)) a_nil))))))))))⟩
theorem rec_law_tree {f : Addr} {fd : FuncData} (F : Fun K "_law_tree" "_law_tree" s_law_tree f fd) (z : Txt K mg cl) (G_law_take : FnG P w K mg base "_law_take" 1 ["hand", "many"] (spP K cl 2 fx_law_take fn_law_take)) (G_law_expression : FnG P w K mg base "_law_expression" 5 ["hand", "names"] (spP K cl 2 fx_law_expression fn_law_expression)) (hm : mg "_law_tree" = some (.ref f)) (hk : PySem.W.keepIn K (.ref f) = true) (hb : Binds K fd ["hand", "names", "depth", "purse"] []) : ∀ j, FnG P w K mg base "_law_tree" (6 + j) ["hand", "names", "depth", "purse"] (spP K cl 4 fx_law_tree (fn_law_tree j))
  | 0 => ⟨f, fd, none_ok, hm, hk, hb⟩
  | j + 1 => ⟨f, fd, ok_law_tree F z G_law_take G_law_expression (rec_law_tree F z G_law_take G_law_expression hm hk hb j), hm, hk, hb⟩
theorem sc_law_is_value : FnScope N_law_is_value ["found", "expected"] (defScope s_law_is_value) := ⟨rfl, rfl, rfl, by decide +kernel, rfl, by decide +kernel, by decide +kernel⟩
theorem ok_law_is_value {f : Addr} {fd : FuncData} (F : Fun K "_law_is_value" "_law_is_value" s_law_is_value f fd) (z : Txt K mg cl)  :
    FnOk P w K mg base (L2.CX P w) 1 f fd ["found", "expected"] (spP K cl 2 fx_law_is_value fn_law_is_value) :=
  def_ok (N := N_law_is_value) (m := m_law_is_value) (k := 0) F sc_law_is_value rfl (hfx_of (by decide)) fun cdv A outer s H E hr => ⟨_,
    (b_cons (x_if (t_isN (p_nm 1)) (b_one (x_ret (m_isN (p_nm 0)))) b_nil)
    (b_one (x_ret (m_and (m_isi kit_int z.z_isinstance z_bisinstance rfl z.z_int z_bint rfl (p_nm 0)) (m_and (m_not (m_isi kit_bool z.z_isinstance z_bisinstance rfl z.z_bool z_bbool rfl (p_nm 0))) (m_and1 (m_eq (m_rd (p_nm 0)) (m_rd (p_nm 1)))))))))⟩
theorem sc_value_of : FnScope N_value_of ["expression", "variables"] (defScope s_value_of) := ⟨rfl, rfl, rfl, by decide +kernel, rfl, by decide +kernel, by decide +kernel⟩
theorem ok_value_of {f : Addr} {fd : FuncData} {j : Nat} (F : Fun K "value_of" "value_of" s_value_of f fd) (z : Txt K mg cl)  (G_value_of : FnG P w K mg base "value_of" (1 + j) ["expression", "variables"] (spP K cl 2 fx_value_of (fn_value_of j))) :
    FnOk P w K mg base (L2.CX P w) (1 + j + 1) f fd ["expression", "variables"] (spP K cl 2 fx_value_of (fn_value_of (j + 1))) :=
  def_ok (N := N_value_of) (m := m_value_of (fn_value_of j)) (k := 1 + j) F sc_value_of rfl (hfx_of (by decide)) fun cdv A outer s H E hr => ⟨_,
    (b_cons (x_if (t_eq (m_rd (p_ix (p_nm 0) m_int (by decide) (fun _ _ => rfl))) m_str) (b_one (x_ret (m_rdF (p_ix (p_nm 0) m_int (by decide) (fun _ _ => rfl))))) b_nil)
    (b_cons (x_if (t_eq (m_rd (p_ix (p_nm 0) m_int (by decide) (fun _ _ => rfl))) m_str) (b_one (x_ret (m_add (m_rd (p_dg (hu_of hr) (p_nm 1) (m_rd (p_ix (p_nm 0) m_int (by decide) (fun _ _ => rfl))) (by decide) (fun _ _ => rfl))) (m_rd (p_ix (p_nm 0) m_int (by decide) (fun _ _ => rfl)))))) b_nil)
    (b_cons (x_set 2 sc_value_of.nd (m_call G_value_of (takes_of rfl rfl rfl rfl) hr (by omega) rfl (a_cons (m_rdF (p_ix (p_nm 0) m_int (by decide) (fun _ _ => rfl))) (a_sl 1 a_nil))))
    (b_cons (x_set 3 sc_value_of.nd (m_rdF (p_dg (hu_of hr) (p_nm 1) (m_rd (p_ix (p_nm 0) m_int (by decide) (fun _ _ => rfl))) (by decide) (fun _ _ => rfl))))
    (b_cons (x_if (t_not (t_chLeLt m_int (m_rd (p_nm 2)) (m_cbP call_len_seq pk_len z.z_len z_blen rfl (p_nm 3)))) (b_one (x_ret m_non)) b_nil)
    (b_one (x_ret (m_add (m_rd (p_ix (p_nm 3) (m_rd (p_nm 2)) (by decide) (fun _ _ => rfl))) (m_rd (p_ix (p_nm 0) m_int (by decide) (fun _ _ => rfl)))))))))))⟩
theorem rec_value_of {f : Addr} {fd : FuncData} (F : Fun K "value_of" "value_of" s_value_of f fd) (z : Txt K mg cl)  (hm : mg "value_of" = some (.ref f)) (hk : PySem.W.keepIn K (.ref f) = true) (hb : Binds K fd ["expression", "variables"] []) : ∀ j, FnG P w K mg base "value_of" (1 + j) ["expression", "variables"] (spP K cl 2 fx_value_of (fn_value_of j))
  | 0 => ⟨f, fd, none_ok, hm, hk, hb⟩
  | j + 1 => ⟨f, fd, ok_value_of F z  (rec_value_of F z  hm hk hb j), hm, hk, hb⟩
theorem sc_law_value : FnScope N_law_value ["expression", "variables"] (defScope s_law_value) := ⟨rfl, rfl, rfl, by decide +kernel, rfl, by decide +kernel, by decide +kernel⟩
theorem ok_law_value {f : Addr} {fd : FuncData} {j : Nat} (F : Fun K "_law_value" "_law_value" s_law_value f fd) (z : Txt K mg cl)  (G_law_value : FnG P w K mg base "_law_value" (1 + j) ["expression", "variables"] (spP K cl 2 fx_law_value (fn_law_value j))) :
    FnOk P w K mg base (L2.CX P w) (1 + j + 1) f fd ["expression", "variables"] (spP K cl 2 fx_law_value (fn_law_value (j + 1))) :=
  def_ok (N := N_law_value) (m := m_law_value (fn_law_value j)) (k := 1 + j) F sc_law_value rfl (hfx_of (by decide)) fun cdv A outer s H E hr => ⟨_,
    (b_cons (x_if (t_eq (m_rd (p_ix (p_nm 0) m_int (by decide) (fun _ _ => rfl))) m_str) (b_one (x_ret (m_rdF (p_ix (p_nm 0) m_int (by decide) (fun _ _ => rfl))))) b_nil)
    (b_cons (x_if (t_eq (m_rd (p_ix (p_nm 0) m_int (by decide) (fun _ _ => rfl))) m_str) (b_one (x_ret (m_add (m_rd (p_dg (hu_of hr) (p_nm 1) (m_rd (p_ix (p_nm 0) m_int (by decide) (fun _ _ => rfl))) (by decide) (fun _ _ => rfl))) (m_rd (p_ix (p_nm 0) m_int (by decide) (fun _ _ => rfl)))))) b_nil)
    (b_cons (x_set 2 sc_law_value.nd (m_rdF (p_dg (hu_of hr) (p_nm 1) (m_rd (p_ix (p_nm 0) m_int (by decide) (fun _ _ => rfl))) (by decide) (fun _ _ => rfl))))
    (b_cons (x_set 3 sc_law_value.nd (m_call G_law_value (takes_of rfl rfl rfl rfl) hr (by omega) rfl (a_cons (m_rdF (p_ix (p_nm 0) m_int (by decide) (fun _ _ => rfl))) (a_sl 1 a_nil))))
    (b_cons (x_if (MW.mt (w_or (t_lt (m_rd (p_nm 3)) m_int) (w_or1 (t_ge (m_rd (p_nm 3)) (m_cbP call_len_seq pk_len z.z_len z_blen rfl (p_nm 2)))))) (b_one (x_ret m_non)) b_nil)
    (b_one (x_ret (m_add (m_rd (p_ix (p_nm 2) (m_rd (p_nm 3)) (by decide) (fun _ _ => rfl))) (m_rd (p_ix (p_nm 0) m_int (by decide) (fun _ _ => rfl)))))))))))⟩
theorem rec_law_value {f : Addr} {fd : FuncData} (F : Fun K "_law_value" "_law_value" s_law_value f fd) (z : Txt K mg cl)  (hm : mg "_law_value" = some (.ref f)) (hk : PySem.W.keepIn K (.ref f) = true) (hb : Binds K fd ["expression", "variables"] []) : ∀ j, FnG P w K mg base "_law_value" (1 + j) ["expression", "variables"] (spP K cl 2 fx_law_value (fn_law_value j))
  | 0 => ⟨f, fd, none_ok, hm, hk, hb⟩
  | j + 1 => ⟨f, fd, ok_law_value F z  (rec_law_value F z  hm hk hb j), hm, hk, hb⟩
theorem sc_law_is_truth : FnScope N_law_is_truth ["found", "expected"] (defScope s_law_is_truth) := ⟨rfl, rfl, rfl, by decide +kernel, rfl, by decide +kernel, by decide +kernel⟩
theorem ok_law_is_truth {f : Addr} {fd : FuncData} (F : Fun K "_law_is_truth" "_law_is_truth" s_law_is_truth f fd) (z : Txt K mg cl)  :
    FnOk P w K mg base (L2.CX P w) 1 f fd ["found", "expected"] (spP K cl 2 fx_law_is_truth fn_law_is_truth) :=
  def_ok (N := N_law_is_truth) (m := m_law_is_truth) (k := 0) F sc_law_is_truth rfl (hfx_of (by decide)) fun cdv A outer s H E hr => ⟨_,
    (b_cons (x_if (t_isN (p_nm 1)) (b_one (x_ret (m_isN (p_nm 0)))) b_nil)
    (b_one (x_ret (m_and (m_isi kit_bool z.z_isinstance z_bisinstance rfl z.z_bool z_bbool rfl (p_nm 0)) (m_and1 (m_eq (m_rd (p_nm 0)) (m_rd (p_nm 1))))))))⟩
theorem sc_compares : FnScope N_compares ["sign", "left", "right"] (defScope s_compares) := ⟨rfl, rfl, rfl, by decide +kernel, rfl, by decide +kernel, by decide +kernel⟩
theorem ok_compares {f : Addr} {fd : FuncData} (F : Fun K "compares" "compares" s_compares f fd) (z : Txt K mg cl)  :
    FnOk P w K mg base (L2.CX P w) 1 f fd ["sign", "left", "right"] (spP K cl 3 fx_compares fn_compares) :=
  def_ok (N := N_compares) (m := m_compares) (k := 0) F sc_compares rfl (hfx_of (by decide)) fun cdv A outer s H E hr => ⟨_,
    (b_cons (x_if (t_eq (m_rd (p_nm 0)) m_str) (b_one (x_ret (m_lt (m_rd (p_nm 1)) (m_rd (p_nm 2))))) b_nil)
    (b_cons (x_if (t_eq (m_rd (p_nm 0)) m_str) (b_one (x_ret (m_le (m_rd (p_nm 1)) (m_rd (p_nm 2))))) b_nil)
    (b_cons (x_if (t_eq (m_rd (p_nm 0)) m_str) (b_one (x_ret (m_gt (m_rd (p_nm 1)) (m_rd (p_nm 2))))) b_nil)
    (b_cons (x_if (t_eq (m_rd (p_nm 0)) m_str) (b_one (x_ret (m_ge (m_rd (p_nm 1)) (m_rd (p_nm 2))))) b_nil)
    (b_cons (x_if (t_eq (m_rd (p_nm 0)) m_str) (b_one (x_ret (m_eq (m_rd (p_nm 1)) (m_rd (p_nm 2))))) b_nil)
    (b_one (x_ret (m_ne (m_rd (p_nm 1)) (m_rd (p_nm 2))))))))))⟩
theorem sc_truth_of : FnScope N_truth_of ["condition", "variables"] (defScope s_truth_of) := ⟨rfl, rfl, rfl, by decide +kernel, rfl, by decide +kernel, by decide +kernel⟩
theorem ok_truth_of {f : Addr} {fd : FuncData} {j : Nat} (F : Fun K "truth_of" "truth_of" s_truth_of f fd) (z : Txt K mg cl) (G_value_of : FnG P w K mg base "value_of" 3 ["expression", "variables"] (spP K cl 2 fx_value_of (fn_value_of 2))) (G_compares : FnG P w K mg base "compares" 1 ["sign", "left", "right"] (spP K cl 3 fx_compares fn_compares)) (G_truth_of : FnG P w K mg base "truth_of" (4 + j) ["condition", "variables"] (spP K cl 2 fx_truth_of (fn_truth_of j))) :
    FnOk P w K mg base (L2.CX P w) (4 + j + 1) f fd ["condition", "variables"] (spP K cl 2 fx_truth_of (fn_truth_of (j + 1))) :=
  def_ok (N := N_truth_of) (m := m_truth_of (fn_truth_of j)) (k := 4 + j) F sc_truth_of rfl (hfx_of (by decide)) fun cdv A outer s H E hr => ⟨_,
    (b_cons (x_if (t_eq (m_rd (p_ix (p_nm 0) m_int (by decide) (fun _ _ => rfl))) m_str) (b_cons (x_set 2 sc_truth_of.nd (m_call G_value_of (takes_of rfl rfl rfl rfl) hr (by omega) rfl (a_cons (m_rdF (p_ix (p_nm 0) m_int (by decide) (fun _ _ => rfl))) (a_sl 1 a_nil))))
    (b_cons (x_set 3 sc_truth_of.nd (m_call G_value_of (takes_of rfl rfl rfl rfl) hr (by omega) rfl (a_cons (m_rdF (p_ix (p_nm 0) m_int (by decide) (fun _ _ => rfl))) (a_sl 1 a_nil))))
    (b_cons (x_if (MW.mt (w_or (t_isN (p_nm 2)) (w_or1 (t_isN (p_nm 3))))) (b_one (x_ret m_non)) b_nil)
    (b_one (x_ret (m_call G_compares (takes_of rfl rfl rfl rfl) hr (by omega) rfl (a_cons (m_rdF (p_ix (p_nm 0) m_int (by decide) (fun _ _ => rfl))) (a_sl 2 (a_sl 3 a_nil))))))))) b_nil)
    (b_cons (x_if (t_eq (m_rd (p_ix (p_nm 0) m_int (by decide) (fun _ _ => rfl))) m_str) (b_cons (x_set 4 sc_truth_of.nd (m_call G_truth_of (takes_of rfl rfl rfl rfl) hr (by omega) rfl (a_cons (m_rdF (p_ix (p_nm 0) m_int (by decide) (fun _ _ => rfl))) (a_sl 1 a_nil))))
    (b_cons (x_if (t_isN (p_nm 4)) (b_one (x_ret m_non)) b_nil)
    (b_one (x_ret (m_not (m_rd (p_nm 4))))))) b_nil)
    (b_cons (x_set 5 sc_truth_of.nd (m_eq (m_rd (p_ix (p_nm 0) m_int (by decide) (fun _ _ => rfl))) m_str))
    (b_cons (x_for (passes_of rfl) rfl (i_tup (m_rdF (p_ix (p_nm 0) m_int (by decide) (fun _ _ => rfl)))) (g_nm 6 sc_truth_of.nd) (b_cons (x_set 4 sc_truth_of.nd (m_call G_truth_of (takes_of rfl rfl rfl rfl) hr (by omega) rfl (a_sl 6 (a_sl 1 a_nil))))
    (b_one (x_if (MW.mt (w_or (t_isN (p_nm 4)) (w_or1 (t_ne (m_rd (p_nm 4)) (m_rd (p_nm 5)))))) (b_one (x_ret (m_mv 4))) b_nil))))
    (b_one (x_ret (m_mv 5)))))))⟩
theorem rec_truth_of {f : Addr} {fd : FuncData} (F : Fun K "truth_of" "truth_of" s_truth_of f fd) (z : Txt K mg cl) (G_value_of : FnG P w K mg base "value_of" 3 ["expression", "variables"] (spP K cl 2 fx_value_of (fn_value_of 2))) (G_compares : FnG P w K mg base "compares" 1 ["sign", "left", "right"] (spP K cl 3 fx_compares fn_compares)) (hm : mg "truth_of" = some (.ref f)) (hk : PySem.W.keepIn K (.ref f) = true) (hb : Binds K fd ["condition", "variables"] []) : ∀ j, FnG P w K mg base "truth_of" (4 + j) ["condition", "variables"] (spP K cl 2 fx_truth_of (fn_truth_of j))
  | 0 => ⟨f, fd, none_ok, hm, hk, hb⟩
  | j + 1 => ⟨f, fd, ok_truth_of F z G_value_of G_compares (rec_truth_of F z G_value_of G_compares hm hk hb j), hm, hk, hb⟩
theorem sc_law_compared : FnScope N_law_compared ["sign", "left", "right"] (defScope s_law_compared) := ⟨rfl, rfl, rfl, by decide +kernel, rfl, by decide +kernel, by decide +kernel⟩
theorem ok_law_compared {f : Addr} {fd : FuncData} (F : Fun K "_law_compared" "_law_compared" s_law_compared f fd) (z : Txt K mg cl)  :
    FnOk P w K mg base (L2.CX P w) 1 f fd ["sign", "left", "right"] (spP K cl 3 fx_law_compared fn_law_compared) :=
  def_ok (N := N_law_compared) (m := m_law_compared) (k := 0) F sc_law_compared rfl (hfx_of (by decide)) fun cdv A outer s H E hr => ⟨_,
    (b_cons (x_set 3 sc_law_compared.nd (m_lst (a_cons (m_lt (m_rd (p_nm 1)) (m_rd (p_nm 2))) (a_cons (m_le (m_rd (p_nm 1)) (m_rd (p_nm 2))) (a_cons (m_gt (m_rd (p_nm 1)) (m_rd (p_nm 2))) (a_cons (m_ge (m_rd (p_nm 1)) (m_rd (p_nm 2))) (a_cons (m_eq (m_rd (p_nm 1)) (m_rd (p_nm 2))) (a_cons (m_ne (m_rd (p_nm 1)) (m_rd (p_nm 2))) a_nil))))))))
    (b_one (x_ret (m_rdF (p_ix (p_nm 3) (m_index (m_lst (a_cons m_str (a_cons m_str (a_cons m_str (a_cons m_str (a_cons m_str (a_cons m_str a_nil))))))) (m_rdF (p_nm 0))) (by decide) (fun _ _ => rfl))))))⟩
theorem sc_law_truth : FnScope N_law_truth ["condition", "variables"] (defScope s_law_truth) := ⟨rfl, rfl, rfl, by decide +kernel, rfl, by decide +kernel, by decide +kernel⟩
theorem ok_law_truth {f : Addr} {fd : FuncData} {j : Nat} (F : Fun K "_law_truth" "_law_truth" s_law_truth f fd) (z : Txt K mg cl) (G_law_value : FnG P w K mg base "_law_value" 3 ["expression", "variables"] (spP K cl 2 fx_law_value (fn_law_value 2))) (G_law_compared : FnG P w K mg base "_law_compared" 1 ["sign", "left", "right"] (spP K cl 3 fx_law_compared fn_law_compared)) (G_law_truth : FnG P w K mg base "_law_truth" (4 + j) ["condition", "variables"] (spP K cl 2 fx_law_truth (fn_law_truth j))) :
    FnOk P w K mg base (L2.CX P w) (4 + j + 1) f fd ["condition", "variables"] (spP K cl 2 fx_law_truth (fn_law_truth (j + 1))) :=
  def_ok (N := N_law_truth) (m := m_law_truth (fn_law_truth j)) (k := 4 + j) F sc_law_truth rfl (hfx_of (by decide)) fun cdv A outer s H E hr => ⟨_,
    (b_cons (x_if (t_eq (m_rd (p_ix (p_nm 0) m_int (by decide) (fun _ _ => rfl))) m_str) (b_cons (x_set 2 sc_law_truth.nd (m_call G_law_value (takes_of rfl rfl rfl rfl) hr (by omega) rfl (a_cons (m_rdF (p_ix (p_nm 0) m_int (by decide) (fun _ _ => rfl))) (a_sl 1 a_nil))))
    (b_cons (x_if (t_isN (p_nm 2)) (b_one (x_ret m_non)) b_nil)
    (b_cons (x_set 3 sc_law_truth.nd (m_call G_law_value (takes_of rfl rfl rfl rfl) hr (by omega) rfl (a_cons (m_rdF (p_ix (p_nm 0) m_int (by decide) (fun _ _ => rfl))) (a_sl 1 a_nil))))
    (b_cons (x_if (t_isN (p_nm 3)) (b_one (x_ret m_non)) b_nil)
    (b_one (x_ret (m_call G_law_compared (takes_of rfl rfl rfl rfl) hr (by omega) rfl (a_cons (m_rdF (p_ix (p_nm 0) m_int (by decide) (fun _ _ => rfl))) (a_sl 2 (a_sl 3 a_nil)))))))))) b_nil)
    (b_cons (x_if (t_eq (m_rd (p_ix (p_nm 0) m_int (by decide) (fun _ _ => rfl))) m_str) (b_cons (x_set 4 sc_law_truth.nd (m_call G_law_truth (takes_of rfl rfl rfl rfl) hr (by omega) rfl (a_cons (m_rdF (p_ix (p_nm 0) m_int (by decide) (fun _ _ => rfl))) (a_sl 1 a_nil))))
    (b_cons (x_if (t_isN (p_nm 4)) (b_one (x_ret m_non)) b_nil)
    (b_one (x_ret (m_not (m_rd (p_nm 4))))))) b_nil)
    (b_cons (x_for (passes_of rfl) rfl (i_tup (m_rdF (p_ix (p_nm 0) m_int (by decide) (fun _ _ => rfl)))) (g_nm 5 sc_law_truth.nd) (b_cons (x_set 4 sc_law_truth.nd (m_call G_law_truth (takes_of rfl rfl rfl rfl) hr (by omega) rfl (a_sl 5 (a_sl 1 a_nil))))
    (b_one (x_if (MW.mt (w_or (t_isN (p_nm 4)) (w_or1 (t_eq (m_rd (p_nm 4)) (m_eq (m_rd (p_ix (p_nm 0) m_int (by decide) (fun _ _ => rfl))) m_str))))) (b_one (x_ret (m_mv 4))) b_nil))))
    (b_one (x_ret (m_eq (m_rd (p_ix (p_nm 0) m_int (by decide) (fun _ _ => rfl))) m_str))))))⟩
theorem rec_law_truth {f : Addr} {fd : FuncData} (F : Fun K "_law_truth" "_law_truth" s_law_truth f fd) (z : Txt K mg cl) (G_law_value : FnG P w K mg base "_law_value" 3 ["expression", "variables"] (spP K cl 2 fx_law_value (fn_law_value 2))) (G_law_compared : FnG P w K mg base "_law_compared" 1 ["sign", "left", "right"] (spP K cl 3 fx_law_compared fn_law_compared)) (hm : mg "_law_truth" = some (.ref f)) (hk : PySem.W.keepIn K (.ref f) = true) (hb : Binds K fd ["condition", "variables"] []) : ∀ j, FnG P w K mg base "_law_truth" (4 + j) ["condition", "variables"] (spP K cl 2 fx_law_truth (fn_law_truth j))
  | 0 => ⟨f, fd, none_ok, hm, hk, hb⟩
  | j + 1 => ⟨f, fd, ok_law_truth F z G_law_value G_law_compared (rec_law_truth F z G_law_value G_law_compared hm hk hb j), hm, hk, hb⟩
theorem sc_law : FnScope N_law ["script"] (defScope s_law) := ⟨rfl, rfl, rfl, by decide +kernel, rfl, by decide +kernel, by decide +kernel⟩
theorem ok_law {f : Addr} {fd : FuncData} (F : Fun K "law" "law" s_law f fd) (z : Txt K mg cl) (G_law_draws : FnG P w K mg base "_law_draws" 1 ["script", "many"] (spP K cl 2 fx_law_draws fn_law_draws)) (G_law_names_of : FnG P w K mg base "_law_names_of" 2 ["hand"] (spP K cl 1 fx_law_names_of fn_law_names_of)) (G_law_some : FnG P w K mg base "_law_some" 3 ["hand"] (spP K cl 1 fx_law_some fn_law_some)) (G_law_take : FnG P w K mg base "_law_take" 1 ["hand", "many"] (spP K cl 2 fx_law_take fn_law_take)) (G_law_copied : FnG P w K mg base "_law_copied" 1 ["variables", "names"] (spP K cl 2 fx_law_copied fn_law_copied)) (G_law_expression : FnG P w K mg base "_law_expression" 5 ["hand", "names"] (spP K cl 2 fx_law_expression fn_law_expression)) (G_law_tree : FnG P w K mg base "_law_tree" 12 ["hand", "names", "depth", "purse"] (spP K cl 4 fx_law_tree (fn_law_tree 6))) (G_law_is_value : FnG P w K mg base "_law_is_value" 1 ["found", "expected"] (spP K cl 2 fx_law_is_value fn_law_is_value)) (G_value_of : FnG P w K mg base "value_of" 3 ["expression", "variables"] (spP K cl 2 fx_value_of (fn_value_of 2))) (G_law_value : FnG P w K mg base "_law_value" 3 ["expression", "variables"] (spP K cl 2 fx_law_value (fn_law_value 2))) (G_law_is_truth : FnG P w K mg base "_law_is_truth" 1 ["found", "expected"] (spP K cl 2 fx_law_is_truth fn_law_is_truth)) (G_truth_of : FnG P w K mg base "truth_of" 10 ["condition", "variables"] (spP K cl 2 fx_truth_of (fn_truth_of 6))) (G_law_truth : FnG P w K mg base "_law_truth" 10 ["condition", "variables"] (spP K cl 2 fx_law_truth (fn_law_truth 6))) :
    FnOk P w K mg base (L2.CX P w) 13 f fd ["script"] (spP K cl 1 fx_law fn_law) :=
  def_ok (N := N_law) (m := m_law) (k := 12) F sc_law rfl (hfx_of (by decide)) fun cdv A outer s H E hr => ⟨_,
    (b_cons (x_set 1 sc_law.nd (m_lst (a_cons (m_call G_law_draws (takes_of rfl rfl rfl rfl) hr (by decide) rfl (a_sl 0 (a_cons m_int a_nil))) (a_cons m_int a_nil))))
    (b_cons (x_set 2 sc_law.nd (m_call G_law_names_of (takes_of rfl rfl rfl rfl) hr (by decide) rfl (a_sl 1 a_nil)))
    (b_cons (x_set 3 sc_law.nd m_dictK)
    (b_cons (x_for (passes_of rfl) rfl (i_rng1 z.z_range rfl (a_cons m_int a_nil)) (g_nm 4 sc_law.nd) (b_one (x_dput (hu_of hr) (by decide) (m_call G_law_some (takes_of rfl rfl rfl rfl) hr (by decide) rfl (a_sl 1 a_nil)) (p_nm 3) (m_rd (p_ix (p_nm 2) (m_rd (p_nm 4)) (by decide) (fun _ _ => rfl))))))
    (b_cons (x_for (passes_of rfl) rfl (i_rng2 z.z_range rfl (a_cons m_int (a_cons m_int a_nil))) (g_nm 4 sc_law.nd) (b_one (x_dput (hu_of hr) (by decide) (m_lc (own := [("k", 11)]) rfl sc_law.nd (blkOk_by (N := N_law) (sc := defScope s_law) (own := [("k", 11)]) (by decide +kernel)) (i_rng1 z.z_range rfl (a_cons (m_add m_int (m_call G_law_take (takes_of rfl rfl rfl rfl) hr (by decide) rfl (a_sl 1 (a_cons m_int a_nil)))) a_nil)) (fun _ _ _ _ _ => (g_nm 11 sc_law.nd)) (fun _ _ _ _ _ => ts_nil) (fun _ _ _ _ _ => (m_call G_law_some takes0 hr (by decide) rfl (a_sl 1 a_nil))) (by decide)) (p_nm 3) (m_rd (p_ix (p_nm 2) (m_rd (p_nm 4)) (by decide) (fun _ _ => rfl))))))
    (b_cons (x_set 5 sc_law.nd (m_br (m_call G_law_copied (takes_of rfl rfl rfl rfl) hr (by decide) rfl (a_sl 3 (a_sl 2 a_nil)))))
    (b_cons (x_setLc (own := [("k", 11)]) 6 rfl sc_law.nd (blkOk_by (N := N_law) (sc := defScope s_law) (own := [("k", 11)]) (by decide +kernel)) (sw_true rfl rfl rfl (by decide +kernel)) (i_rng1 z.z_range rfl (a_cons m_int a_nil)) (fun _ _ _ _ _ => (g_nm 11 sc_law.nd)) (fun _ _ _ _ _ => ts_nil) (fun _ _ _ _ _ => (m_call G_law_expression takes0 hr (by decide) rfl (a_sl 1 (a_sl 2 a_nil)))) (by decide))
    (b_cons (x_set 7 sc_law.nd (m_call G_law_tree (takes_of rfl rfl rfl rfl) hr (by decide) rfl (a_sl 1 (a_sl 2 (a_cons (m_call G_law_take (takes_of rfl rfl rfl rfl) hr (by decide) rfl (a_sl 1 (a_cons m_int a_nil))) (a_cons m_int a_nil))))))
    (b_cons (x_for (passes_of rfl) rfl (i_rng1 z.z_range rfl (a_cons m_int a_nil)) (g_nm 8 sc_law.nd) (b_cons (x_for (passes_of rfl) rfl (i_list (m_rdF (p_nm 6))) (g_nm 9 sc_law.nd) (b_one (x_if (t_not (t_br (t_val (m_call G_law_is_value (takes_of rfl rfl rfl rfl) hr (by decide) rfl (a_cons (m_call G_value_of (takes_of rfl rfl rfl rfl) hr (by decide) rfl (a_sl 9 (a_sl 3 a_nil))) (a_cons (m_call G_law_value (takes_of rfl rfl rfl rfl) hr (by decide) rfl (a_sl 9 (a_sl 5 a_nil))) a_nil)))))) (b_one (x_ret m_bl)) b_nil)))
    (b_cons (x_if (t_not (t_br (t_val (m_call G_law_is_truth (takes_of rfl rfl rfl rfl) hr (by decide) rfl (a_cons (m_call G_truth_of (takes_of rfl rfl rfl rfl) hr (by decide) rfl (a_sl 7 (a_sl 3 a_nil))) (a_cons (m_call G_law_truth (takes_of rfl rfl rfl rfl) hr (by decide) rfl (a_sl 7 (a_sl 5 a_nil))) a_nil)))))) (b_one (x_ret m_bl)) b_nil)
    (b_cons (x_if (MW.mt (w_or (t_ne (m_cbP call_lenDR pk_lenD z.z_len z_blen rfl (p_nm 3)) m_int) (w_or1 (t_br (t_neD hr.units (m_ctyP (call_listD rfl) pk_listD z.z_list z_blist rfl (p_nm 3)) (m_rdF (p_nm 2))))))) (b_one (x_ret m_bl)) b_nil)
    (b_one (x_for (passes_of rfl) rfl (i_rng1 z.z_range rfl (a_cons m_int a_nil)) (g_nm 4 sc_law.nd) (b_one (x_if (t_br (t_neD hr.units (m_rdF (p_dg (hu_of hr) (p_nm 3) (m_rd (p_ix (p_nm 2) (m_rd (p_nm 4)) (by decide) (fun _ _ => rfl))) (by decide) (fun _ _ => rfl))) (m_rdF (p_dg (hu_of hr) (p_nm 5) (m_rd (p_ix (p_nm 2) (m_rd (p_nm 4)) (by decide) (fun _ _ => rfl))) (by decide) (fun _ _ => rfl))))) (b_one (x_ret m_bl)) b_nil))))))))
    (b_cons (x_set 10 sc_law.nd m_dictK)
    (b_cons (x_for (passes_of rfl) rfl (i_rng1 z.z_range rfl (a_cons m_int a_nil)) (g_nm 4 sc_law.nd) (b_one (x_dput (hu_of hr) (by decide) (m_ixV (m_lst (a_cons m_int (a_cons (m_lst (a_cons m_int a_nil)) a_nil))) (m_cty call_int1 pn_int z.z_int z_bint rfl (a_cons (m_gt (m_rd (p_nm 4)) m_int) a_nil)) (fun _ _ => rfl)) (p_nm 10) (m_rd (p_ix (p_nm 2) (m_rd (p_nm 4)) (by decide) (fun _ _ => rfl))))))
    (b_cons (x_if (t_not (t_br (t_val (m_call G_law_is_truth (takes_of rfl rfl rfl rfl) hr (by decide) rfl (a_cons (m_call G_truth_of (takes_of rfl rfl rfl rfl) hr (by decide) rfl (a_sl 7 (a_sl 10 a_nil))) (a_cons (m_call G_law_truth (takes_of rfl rfl rfl rfl) hr (by decide) rfl (a_sl 7 (a_sl 10 a_nil))) a_nil)))))) (b_one (x_ret m_bl)) b_nil)
    (b_cons (x_dput (hu_of hr) (by decide) (m_add (m_rd (p_dg (hu_of hr) (p_nm 3) (m_rd (p_ix (p_nm 2) m_int (by decide) (fun _ _ => rfl))) (by decide) (fun _ _ => rfl))) m_int) (p_nm 3) (m_rd (p_ix (p_nm 2) m_int (by decide) (fun _ _ => rfl))))
    (b_cons (x_setIx (by decide) (m_sub (m_rd (p_ix (p_dg (hu_of hr) (p_nm 3) (m_rd (p_ix (p_nm 2) m_int (by decide) (fun _ _ => rfl))) (by decide) (fun _ _ => rfl)) m_int (by decide) (fun _ _ => rfl))) m_int) (p_dg (hu_of hr) (p_nm 3) (m_rd (p_ix (p_nm 2) m_int (by decide) (fun _ _ => rfl))) (by decide) (fun _ _ => rfl)) m_int)
    (b_cons (x_set 5 sc_law.nd (m_br (m_call G_law_copied (takes_of rfl rfl rfl rfl) hr (by decide) rfl (a_sl 3 (a_sl 2 a_nil)))))
    (b_cons (x_for (passes_of rfl) rfl (i_list (m_rdF (p_nm 6))) (g_nm 9 sc_law.nd) (b_one (x_if (t_not (t_br (t_val (m_call G_law_is_value (takes_of rfl rfl rfl rfl) hr (by decide) rfl (a_cons (m_call G_value_of (takes_of rfl rfl rfl rfl) hr (by decide) rfl (a_sl 9 (a_sl 3 a_nil))) (a_cons (m_call G_law_value (takes_of rfl rfl rfl rfl) hr (by decide) rfl (a_sl 9 (a_sl 5 a_nil))) a_nil)))))) (b_one (x_ret m_bl)) b_nil)))
    (b_one (x_ret (m_br (m_call G_law_is_truth (takes_of rfl rfl rfl rfl) hr (by decide) rfl (a_cons (m_call G_truth_of (takes_of rfl rfl rfl rfl) hr (by decide) rfl (a_sl 7 (a_sl 3 a_nil))) (a_cons (m_call G_law_truth (takes_of rfl rfl rfl rfl) hr (by decide) rfl (a_sl 7 (a_sl 5 a_nil))) a_nil))))))))))))))))))))))⟩
end
end K05

/-! Sm -/
set_option Elab.async false
set_option linter.all false
set_option maxRecDepth 100000
namespace S
open PySem L2 Pv
/-! _law_hand -/
abbrev N_law_hand : List Str := ["script", "cell"]
abbrev fx_law_hand : List Bool := [true]
def m_law_hand : MS := (mRet (mLst (mCons (mLc (mSeq1 seqOf (mSl fCutL (mRdF 0 (mpVar 0)) (M.ret none) (mPart (M.ret (.int 63))))) (gmName 1) (M.ret true) (mCB fInt (mCons (mRd (mpVar 1)) mNil)) [1]) (mCons (M.ret (.int 0)) (mCons (M.ret (.int 0)) (mCons (M.ret (.int 20011)) (mCons (M.ret (.int 48611)) mNil)))))))
def fn_law_hand : Fn := runF 2 m_law_hand 1
/-! _law_draw -/
abbrev N_law_draw : List Str := ["hand", "many", "cell", "told"]
abbrev fx_law_draw : List Bool := [true, true]
def k_law_draw_1 : MS := (mSeq (mIf (mTest (mBin fGt (mRd (mpIx (mpVar 0) (M.ret (.int 2)))) (M.ret (.int 0)))) (mSeq (mAsg (mBin fMod (mCB fInt (mCons (mRd (mpIx (mpVar 0) (M.ret (.int 2)))) mNil)) (mRd (mpVar 1))) (gmName 3))
    (mSeq (mSetIx 0 (mBin fDiv (mCB fInt (mCons (mRd (mpIx (mpVar 0) (M.ret (.int 2)))) mNil)) (mRd (mpVar 1))) (mpVar 0) (M.ret (.int 2)))
    (mRet (mMv 3)))) mNx)
    (mSeq (mSetIx 0 (mBin fMod (mBin fAdd (mBin fMul (mRd (mpIx (mpVar 0) (M.ret (.int 3)))) (M.ret (.int 48271))) (M.ret (.int 11))) (M.ret (.int 2147483647))) (mpVar 0) (M.ret (.int 3)))
    (mSeq (mSetIx 0 (mBin fMod (mBin fAdd (mBin fMul (mRd (mpIx (mpVar 0) (M.ret (.int 4)))) (M.ret (.int 69621))) (mBin fDiv (mRd (mpIx (mpVar 0) (M.ret (.int 3)))) (M.ret (.int 7)))) (M.ret (.int 2147483629))) (mpVar 0) (M.ret (.int 4)))
    (mRet (mBin fMod (mCB fInt (mCons (mBin fDiv (mRd (mpIx (mpVar 0) (M.ret (.int 4)))) (M.ret (.int 11))) mNil)) (mRd (mpVar 1)))))))
def m_law_draw : MS := (mSeq (mIf (mAndT (mTest (mBin fEq (mRd (mpIx (mpVar 0) (M.ret (.int 2)))) (M.ret (.int 0)))) (mTest (mBin fLt (mRd (mpIx (mpVar 0) (M.ret (.int 1)))) (mPk fLen (mpIx (mpVar 0) (M.ret (.int 0))))))) (mSeq (mAsg (mRdF 0 (mpIx (mpIx (mpVar 0) (M.ret (.int 0))) (mRd (mpIx (mpVar 0) (M.ret (.int 1)))))) (gmName 2))
    (mSeq (mSetIx 0 (mBin fAdd (mRd (mpIx (mpVar 0) (M.ret (.int 1)))) (M.ret (.int 1))) (mpVar 0) (M.ret (.int 1)))
    (mIf (mTest (mBin fGe (mRd (mpVar 2)) (mBin fPow (M.ret (.int 10)) (M.ret (.int 18))))) (mSetIx 0 (mBin fMod (mCB fInt (mCons (mRd (mpVar 2)) mNil)) (mBin fMul (mBin fMul (mBin fMul (mBin fPow (M.ret (.int 10)) (M.ret (.int 60))) (mBin fPow (M.ret (.int 10)) (M.ret (.int 60)))) (mBin fPow (M.ret (.int 10)) (M.ret (.int 60)))) (mBin fPow (M.ret (.int 10)) (M.ret (.int 60))))) (mpVar 0) (M.ret (.int 2))) (mSetIx 0 (mBin fMod (mBin fAdd (mBin fAdd (mBin fMul (mRd (mpIx (mpVar 0) (M.ret (.int 3)))) (M.ret (.int 48271))) (mBin fMod (mCB fInt (mCons (mRd (mpVar 2)) mNil)) (M.ret (.int 2147483647)))) (M.ret (.int 1))) (M.ret (.int 2147483647))) (mpVar 0) (M.ret (.int 3)))))) mNx)
    k_law_draw_1)
def fn_law_draw : Fn := runF 4 m_law_draw 2
/-! product_of -/
abbrev N_product_of : List Str := ["ranges", "product", "lo", "hi"]
abbrev fx_product_of : List Bool := [true]
def l_product_of_0 : MS := (mAsg (mBin fMul (mRd (mpVar 1)) (mBin fAdd (mBin fSub (mRd (mpVar 3)) (mRd (mpVar 2))) (M.ret (.int 1)))) (gmName 1))
def m_product_of : MS := (mSeq (mAsg (M.ret (.int 1)) (gmName 1))
    (mSeq (mFor (mSeq1 seqOf (mRdF 0 (mpVar 0))) (gmTup 2 (gmCons (gmName 2) (gmCons (gmName 3) gmNil))) l_product_of_0)
    (mRet (mMv 1))))
def fn_product_of : Fn := runF 4 m_product_of 1
/-! least_of -/
abbrev N_least_of : List Str := ["table", "bound"]
abbrev fx_least_of : List Bool := [true]
def m_least_of : MS := (mRet (mUn fTuple (mLc (mSeq1 tupOf (mSl fCutT (mRdF 0 (mpIx (mpVar 0) (M.ret (.int 0)))) (mPart (M.ret (.int 1))) (M.ret none))) (gmName 1) (M.ret true) (mUn fNeg (mRd (mpVar 1))) [1])))
def fn_least_of : Fn := runF 2 m_least_of 1
/-! greatest_of -/
abbrev N_greatest_of : List Str := ["table", "row"]
abbrev fx_greatest_of : List Bool := [true]
def m_greatest_of : MS := (mRet (mUn fTuple (mLc (mSeq1 tupOf (mSl fCutT (mRdF 0 (mpVar 0)) (mPart (M.ret (.int 1))) (M.ret none))) (gmName 1) (M.ret true) (mRdF 1 (mpIx (mpVar 1) (M.ret (.int 0)))) [1])))
def fn_greatest_of : Fn := runF 2 m_greatest_of 1
/-! spans -/
abbrev N_spans : List Str := ["table"]
abbrev fx_spans : List Bool := [true]
def m_spans : MS := (mRet (mCB fListZip (mCons (mCall fx_least_of fn_least_of (mConsS 0 mNil)) (mCons (mCall fx_greatest_of fn_greatest_of (mConsS 0 mNil)) mNil))))
def fn_spans : Fn := runF 1 m_spans 1
/-! longer -/
abbrev N_longer : List Str := ["table", "values", "at", "grounded", "low", "high", "value", "j"]
abbrev fx_longer : List Bool := [true, true]
def m_longer : MS := (mSeq (mAsg (mBin fAdd (mPk fLen (mpVar 1)) (M.ret (.int 1))) (gmName 2))
    (mSeq (mAsg (mBin fCatT (mTup (mCons (M.ret (.int 0)) mNil)) (mRdF 1 (mpVar 1))) (gmName 3))
    (mSeq (mAsg (mUn fMaxL (mLc (mArgs1 fRng1 (mCons (mRd (mpVar 2)) mNil)) (gmName 7) (M.ret true) (mBin fSub (mRd (mpIx (mpVar 3) (mRd (mpVar 7)))) (mRd (mpIx (mpIx (mpVar 0) (mRd (mpVar 7))) (mRd (mpVar 2))))) [7])) (gmName 4))
    (mSeq (mAsg (mUn fMinL (mLc (mArgs1 fRng1 (mCons (mRd (mpVar 2)) mNil)) (gmName 7) (M.ret true) (mBin fAdd (mRd (mpIx (mpVar 3) (mRd (mpVar 7)))) (mRd (mpIx (mpIx (mpVar 0) (mRd (mpVar 2))) (mRd (mpVar 7))))) [7])) (gmName 5))
    (mRet (mLc (mArgs1 fRngW (mCons (mRd (mpVar 4)) (mCons (mBin fAdd (mRd (mpVar 5)) (M.ret (.int 1))) mNil))) (gmName 6) (M.ret true) (mBin fCatT (mRdF 1 (mpVar 1)) (mTup (mCons (mRdF 6 (mpVar 6)) mNil))) [6]))))))
def fn_longer : Fn := runF 8 m_longer 2
/-! values_in -/
abbrev N_values_in : List Str := ["table", "found", "k", "values", "more"]
abbrev fx_values_in : List Bool := [true]
def l_values_in_0 : MS := (mAsg (mLc2 (mSeq1 seqOf (mRdF 1 (mpVar 1))) (gmName 3) (M.ret true) (mSeq1 seqOf (mCall fx_longer fn_longer (mConsS 0 (mConsS 3 mNil)))) (gmName 4) (M.ret true) (mRdF 4 (mpVar 4)) [3, 4] [4]) (gmName 1))
def m_values_in : MS := (mSeq (mIf (mTest (mBin fGt (mCall fx_product_of fn_product_of (mCons (mCall fx_spans fn_spans (mConsS 0 mNil)) mNil)) (M.ret (.int 20000)))) (fun ρ => some (.ex 1, ρ)) mNx)
    (mSeq (mAsg (mLst (mCons (mTup mNil) mNil)) (gmName 1))
    (mSeq (mFor (mArgs1 fRng1 (mCons (mBin fSub (mPk fLen (mpVar 0)) (M.ret (.int 1))) mNil)) (gmName 2) l_values_in_0)
    (mRet (mMv 1)))))
def fn_values_in : Fn := runF 5 m_values_in 1
/-! count_of -/
abbrev N_count_of : List Str := ["table"]
abbrev fx_count_of : List Bool := [true]
def m_count_of : MS := (mRet (mUn fLen (mCall fx_values_in fn_values_in (mConsS 0 mNil))))
def fn_count_of : Fn := runF 1 m_count_of 1
/-! nth_of -/
abbrev N_nth_of : List Str := ["table", "number"]
abbrev fx_nth_of : List Bool := [true, true]
def m_nth_of : MS := (mRet (mBin fIx (mCall fx_values_in fn_values_in (mConsS 0 mNil)) (mRd (mpVar 1))))
def fn_nth_of : Fn := runF 2 m_nth_of 2
/-! number_in -/
abbrev N_number_in : List Str := ["table", "values", "other"]
abbrev fx_number_in : List Bool := [true, true]
def m_number_in : MS := (mRet (mUn fLen (mLc (mSeq1 seqOf (mCall fx_values_in fn_values_in (mConsS 0 mNil))) (gmName 2) (mTest (mBin fLtT (mRdF 2 (mpVar 2)) (mPk fTuple (mpVar 1)))) (mRdF 2 (mpVar 2)) [2])))
def fn_number_in : Fn := runF 3 m_number_in 2
/-! _law_same -/
abbrev N_law_same : List Str := ["told", "due", "pairs", "one", "two", "k"]
abbrev fx_law_same : List Bool := [true, true]
def l_law_same_0 : MS := (mExp (mApp 2 (mpVar 2) (mTup (mCons (mRdF 3 (mpIx (mpVar 3) (mRd (mpVar 5)))) (mCons (mRdF 4 (mpIx (mpVar 4) (mRd (mpVar 5)))) mNil)))))
def l_law_same_1 : MS := (mSeq (mAsg (mPop 2 (mpVar 2)) (gmTup 2 (gmCons (gmName 3) (gmCons (gmName 4) gmNil))))
    (mIf (mTest (mPk fIsN (mpVar 4))) (mIf (mTest (mPk fNotN (mpVar 3))) (mRet (M.ret (.bl false))) mNx) (mIf (mOrT (mTest (mPk (fIsB true) (mpVar 4))) (mTest (mPk (fIsB false) (mpVar 4)))) (mIf (mOrT (mNotT (mTest (mPk (fIsi "bool") (mpVar 3)))) (mTest (mBin fNe (mRd (mpVar 3)) (mRd (mpVar 4))))) (mRet (M.ret (.bl false))) mNx) (mIf (mTest (mPk (fIsi "int") (mpVar 4))) (mIf (mOrT (mNotT (mTest (mPk (fIsi "int") (mpVar 3)))) (mOrT (mTest (mPk (fIsi "bool") (mpVar 3))) (mTest (mBin fNe (mRd (mpVar 3)) (mRd (mpVar 4)))))) (mRet (M.ret (.bl false))) mNx) (mIf (mTest (mPk (fIsi "str") (mpVar 4))) (mIf (mOrT (mNotT (mTest (mPk (fIsi "str") (mpVar 3)))) (mTest (mBin fNe (mRd (mpVar 3)) (mRd (mpVar 4))))) (mRet (M.ret (.bl false))) mNx) (mSeq (mIf (mAndT (mTest (mPk (fIsi "tuple") (mpVar 4))) (mNotT (mTest (mPk (fIsi "tuple") (mpVar 3))))) (mRet (M.ret (.bl false))) mNx)
    (mSeq (mIf (mAndT (mTest (mPk (fIsi "list") (mpVar 4))) (mNotT (mTest (mPk (fIsi "list") (mpVar 3))))) (mRet (M.ret (.bl false))) mNx)
    (mSeq (mIf (mTest (mBin fNe (mPk fLen (mpVar 3)) (mPk fLen (mpVar 4)))) (mRet (M.ret (.bl false))) mNx)
    (mFor (mArgs1 fRng1 (mCons (mPk fLen (mpVar 4)) mNil)) (gmName 5) l_law_same_0)))))))))
def m_law_same : MS := (mSeq (mAsg (mLst (mCons (mTup (mCons (mRdF 0 (mpVar 0)) (mCons (mRdF 1 (mpVar 1)) mNil))) mNil)) (gmName 2))
    (mSeq (whL (mTru (mpVar 2)) l_law_same_1 1000000)
    (mRet (M.ret (.bl true)))))
def fn_law_same : Fn := runF 6 m_law_same 2
/-! _law_points -/
abbrev N_law_points : List Str := ["low", "sizes", "rows", "k", "grown", "row", "step"]
abbrev fx_law_points : List Bool := [true, true]
def l_law_points_0 : MS := (mExp (mApp 4 (mpVar 4) (mBin fCatT (mRdF 5 (mpVar 5)) (mTup (mCons (mBin fAdd (mRd (mpIx (mpVar 0) (mRd (mpVar 3)))) (mRd (mpVar 6))) mNil)))))
def l_law_points_1 : MS := (mFor (mArgs1 fRng1 (mCons (mRd (mpIx (mpVar 1) (mRd (mpVar 3)))) mNil)) (gmName 6) l_law_points_0)
def l_law_points_2 : MS := (mSeq (mAsg (mLst mNil) (gmName 4))
    (mSeq (mFor (mSeq1 seqOf (mPk fList (mpVar 2))) (gmName 5) l_law_points_1)
    (mAsg (mRdF 4 (mpVar 4)) (gmName 2))))
def m_law_points : MS := (mSeq (mAsg (mLst (mCons (mTup (mCons (M.ret (.int 0)) mNil)) mNil)) (gmName 2))
    (mSeq (mFor (mArgs1 fRng1 (mCons (mPk fLen (mpVar 1)) mNil)) (gmName 3) l_law_points_2)
    (mRet (mMv 2))))
def fn_law_points : Fn := runF 7 m_law_points 2
/-! _law_ties -/
abbrev N_law_ties : List Str := ["hand", "witness", "most", "slack", "many", "ties", "k", "u", "v"]
abbrev fx_law_ties : List Bool := [true, true, true, true]
def l_law_ties_0 : MS := (mSeq (mAsg (mCall fx_law_draw fn_law_draw (mConsS 0 (mCons (mBin fAdd (mRd (mpVar 4)) (M.ret (.int 1))) mNil))) (gmName 7))
    (mSeq (mAsg (mBin fMod (mBin fAdd (mBin fAdd (mRd (mpVar 7)) (M.ret (.int 1))) (mCall fx_law_draw fn_law_draw (mConsS 0 (mConsS 4 mNil)))) (mBin fAdd (mRd (mpVar 4)) (M.ret (.int 1)))) (gmName 8))
    (mExp (mApp 5 (mpVar 5) (mTup (mCons (mRdF 7 (mpVar 7)) (mCons (mRdF 8 (mpVar 8)) (mCons (mBin fAdd (mBin fSub (mRd (mpIx (mpVar 1) (mRd (mpVar 7)))) (mRd (mpIx (mpVar 1) (mRd (mpVar 8))))) (mCall fx_law_draw fn_law_draw (mConsS 0 (mConsS 3 mNil)))) mNil))))))))
def m_law_ties : MS := (mSeq (mAsg (mBin fSub (mPk fLen (mpVar 1)) (M.ret (.int 1))) (gmName 4))
    (mSeq (mAsg (mLst mNil) (gmName 5))
    (mSeq (mFor (mArgs1 fRng1 (mCons (mCall fx_law_draw fn_law_draw (mConsS 0 (mCons (mBin fAdd (mRd (mpVar 2)) (M.ret (.int 1))) mNil))) mNil)) (gmName 6) l_law_ties_0)
    (mRet (mMv 5)))))
def fn_law_ties : Fn := runF 9 m_law_ties 4
/-! _law_keeps -/
abbrev N_law_keeps : List Str := ["point", "ties", "u", "v", "c"]
abbrev fx_law_keeps : List Bool := [true, true]
def l_law_keeps_0 : MS := (mIf (mTest (mBin fGt (mBin fSub (mRd (mpIx (mpVar 0) (mRd (mpVar 2)))) (mRd (mpIx (mpVar 0) (mRd (mpVar 3))))) (mRd (mpVar 4)))) (mRet (M.ret (.bl false))) mNx)
def m_law_keeps : MS := (mSeq (mFor (mSeq1 seqOf (mRdF 1 (mpVar 1))) (gmTup 3 (gmCons (gmName 2) (gmCons (gmName 3) (gmCons (gmName 4) gmNil)))) l_law_keeps_0)
    (mRet (M.ret (.bl true))))
def fn_law_keeps : Fn := runF 5 m_law_keeps 2
/-! _law_table -/
abbrev N_law_table : List Str := ["lot", "rows", "u", "row", "v", "point"]
abbrev fx_law_table : List Bool := [true]
def l_law_table_0 : MS := (mExp (mApp 3 (mpVar 3) (mUn fMaxL (mLc (mSeq1 seqOf (mRdF 0 (mpVar 0))) (gmName 5) (M.ret true) (mBin fSub (mRd (mpIx (mpVar 5) (mRd (mpVar 2)))) (mRd (mpIx (mpVar 5) (mRd (mpVar 4))))) [5]))))
def l_law_table_1 : MS := (mSeq (mAsg (mLst mNil) (gmName 3))
    (mSeq (mFor (mArgs1 fRng1 (mCons (mPk fLen (mpIx (mpVar 0) (M.ret (.int 0)))) mNil)) (gmName 4) l_law_table_0)
    (mExp (mApp 1 (mpVar 1) (mPk fTuple (mpVar 3))))))
def m_law_table : MS := (mSeq (mAsg (mLst mNil) (gmName 1))
    (mSeq (mFor (mArgs1 fRng1 (mCons (mPk fLen (mpIx (mpVar 0) (M.ret (.int 0)))) mNil)) (gmName 2) l_law_table_1)
    (mRet (mPk fTuple (mpVar 1)))))
def fn_law_table : Fn := runF 6 m_law_table 1
/-! _law_kind -/
abbrev N_law_kind : List Str := ["rows", "k", "row"]
abbrev fx_law_kind : List Bool := [true]
def l_law_kind_0 : MS := (mIf (mTest (mBin fLt (mRd (mpIx (mpIx (mpVar 0) (mRd (mpVar 1))) (mRd (mpVar 1)))) (M.ret (.int 0)))) (mRet (M.ret .non)) mNx)
def l_law_kind_1 : MS := (mIf (mTest (mPk2 (fInL false) (M.ret .non) (mpVar 2))) (mRet (M.ret (.str "wide"))) mNx)
def m_law_kind : MS := (mSeq (mFor (mArgs1 fRng1 (mCons (mPk fLen (mpVar 0)) mNil)) (gmName 1) l_law_kind_0)
    (mSeq (mFor (mSeq1 seqOf (mRdF 0 (mpVar 0))) (gmName 2) l_law_kind_1)
    (mRet (mUn fTuple (mLc (mSeq1 seqOf (mRdF 0 (mpVar 0))) (gmName 2) (M.ret true) (mPk fTuple (mpVar 2)) [2])))))
def fn_law_kind : Fn := runF 3 m_law_kind 1
/-! _law_closing -/
abbrev N_law_closing : List Str := ["many", "ties", "size", "rows", "k", "u", "v", "c", "mid", "ahead", "step"]
abbrev fx_law_closing : List Bool := [true, true]
def l_law_closing_0 : MS := (mSetIx 3 (M.ret (.int 0)) (mpIx (mpVar 3) (mRd (mpVar 4))) (mRd (mpVar 4)))
def l_law_closing_1 : MS := (mIf (mOrT (mTest (mPk fIsN (mpIx (mpIx (mpVar 3) (mRd (mpVar 5))) (mRd (mpVar 6))))) (mTest (mBin fLt (mRd (mpVar 7)) (mRd (mpIx (mpIx (mpVar 3) (mRd (mpVar 5))) (mRd (mpVar 6))))))) (mSetIx 3 (mRdF 7 (mpVar 7)) (mpIx (mpVar 3) (mRd (mpVar 5))) (mRd (mpVar 6))) mNx)
def l_law_closing_2 : MS := (mSeq (mAsg (mRdF 3 (mpIx (mpIx (mpVar 3) (mRd (mpVar 8))) (mRd (mpVar 6)))) (gmName 10))
    (mIf (mAndT (mTest (mPk fNotN (mpVar 10))) (mOrT (mTest (mPk fIsN (mpIx (mpIx (mpVar 3) (mRd (mpVar 5))) (mRd (mpVar 6))))) (mTest (mBin fLt (mBin fAdd (mRd (mpVar 9)) (mRd (mpVar 10))) (mRd (mpIx (mpIx (mpVar 3) (mRd (mpVar 5))) (mRd (mpVar 6)))))))) (mSetIx 3 (mBin fAdd (mRd (mpVar 9)) (mRd (mpVar 10))) (mpIx (mpVar 3) (mRd (mpVar 5))) (mRd (mpVar 6))) mNx))
def l_law_closing_3 : MS := (mIf (mTest (mPk fNotN (mpIx (mpIx (mpVar 3) (mRd (mpVar 5))) (mRd (mpVar 8))))) (mSeq (mAsg (mRdF 3 (mpIx (mpIx (mpVar 3) (mRd (mpVar 5))) (mRd (mpVar 8)))) (gmName 9))
    (mFor (mArgs1 fRng1 (mCons (mRd (mpVar 2)) mNil)) (gmName 6) l_law_closing_2)) mNx)
def l_law_closing_4 : MS := (mFor (mArgs1 fRng1 (mCons (mRd (mpVar 2)) mNil)) (gmName 5) l_law_closing_3)
def m_law_closing : MS := (mSeq (mAsg (mBin fAdd (mRd (mpVar 0)) (M.ret (.int 1))) (gmName 2))
    (mSeq (mAsg (mLc (mArgs1 fRng1 (mCons (mRd (mpVar 2)) mNil)) (gmName 5) (M.ret true) (mLc (mArgs1 fRng1 (mCons (mRd (mpVar 2)) mNil)) (gmName 6) (M.ret true) (M.ret .non) [6]) [5]) (gmName 3))
    (mSeq (mFor (mArgs1 fRng1 (mCons (mRd (mpVar 2)) mNil)) (gmName 4) l_law_closing_0)
    (mSeq (mFor (mSeq1 seqOf (mRdF 1 (mpVar 1))) (gmTup 3 (gmCons (gmName 5) (gmCons (gmName 6) (gmCons (gmName 7) gmNil)))) l_law_closing_1)
    (mSeq (mFor (mArgs1 fRng1 (mCons (mRd (mpVar 2)) mNil)) (gmName 8) l_law_closing_4)
    (mRet (mMv 3)))))))
def fn_law_closing : Fn := runF 11 m_law_closing 2
/-! _law_way -/
abbrev N_law_way : List Str := ["ties", "start", "end", "size", "reach", "turn", "changed", "u", "v", "c", "k"]
abbrev fx_law_way : List Bool := [true, true, true, true]
def l_law_way_0 : MS := (mIf (mAndT (mTest (mPk fNotN (mpIx (mpVar 4) (mRd (mpVar 7))))) (mOrT (mTest (mPk fIsN (mpIx (mpVar 4) (mRd (mpVar 8))))) (mTest (mBin fLt (mBin fAdd (mRd (mpIx (mpVar 4) (mRd (mpVar 7)))) (mRd (mpVar 9))) (mRd (mpIx (mpVar 4) (mRd (mpVar 8)))))))) (mSeq (mSetIx 4 (mBin fAdd (mRd (mpIx (mpVar 4) (mRd (mpVar 7)))) (mRd (mpVar 9))) (mpVar 4) (mRd (mpVar 8)))
    (mAsg (M.ret (.bl true)) (gmName 6))) mNx)
def l_law_way_1 : MS := (mSeq (mAsg (M.ret (.bl false)) (gmName 6))
    (mSeq (mFor (mSeq1 seqOf (mRdF 0 (mpVar 0))) (gmTup 3 (gmCons (gmName 7) (gmCons (gmName 8) (gmCons (gmName 9) gmNil)))) l_law_way_0)
    (mIf (mNotT (mTest (mRd (mpVar 6)))) (fun ρ => some (.bk, ρ)) mNx)))
def m_law_way : MS := (mSeq (mAsg (mLc (mArgs1 fRng1 (mCons (mRd (mpVar 3)) mNil)) (gmName 10) (M.ret true) (M.ret .non) [10]) (gmName 4))
    (mSeq (mSetIx 4 (M.ret (.int 0)) (mpVar 4) (mRd (mpVar 1)))
    (mSeq (mFor (mArgs1 fRng1 (mCons (mRd (mpVar 3)) mNil)) (gmName 5) l_law_way_1)
    (mRet (mRdF 4 (mpIx (mpVar 4) (mRd (mpVar 2))))))))
def fn_law_way : Fn := runF 11 m_law_way 4
/-! _law_few -/
abbrev N_law_few : List Str := ["table", "size", "kept", "u", "v", "k", "others", "told"]
abbrev fx_law_few : List Bool := [true]
def l_law_few_0 : MS := (mIf (mTest (mBin fNe (mRd (mpVar 3)) (mRd (mpVar 4)))) (mExp (mApp 2 (mpVar 2) (mTup (mCons (mRdF 3 (mpVar 3)) (mCons (mRdF 4 (mpVar 4)) (mCons (mRdF 0 (mpIx (mpIx (mpVar 0) (mRd (mpVar 3))) (mRd (mpVar 4)))) mNil)))))) mNx)
def l_law_few_1 : MS := (mFor (mArgs1 fRng1 (mCons (mRd (mpVar 1)) mNil)) (gmName 4) l_law_few_0)
def l_law_few_2 : MS := (mSeq (mAsg (mBin fCat (mSl fCutL (mRdF 2 (mpVar 2)) (M.ret none) (mPart (mRd (mpVar 5)))) (mSl fCutL (mRdF 2 (mpVar 2)) (mPart (mBin fAdd (mRd (mpVar 5)) (M.ret (.int 1)))) (M.ret none))) (gmName 6))
    (mSeq (mAsg (mCallB fn_law_way (mConsS 6 (mCons (mRdF 2 (mpIx (mpIx (mpVar 2) (mRd (mpVar 5))) (M.ret (.int 0)))) (mCons (mRdF 2 (mpIx (mpIx (mpVar 2) (mRd (mpVar 5))) (M.ret (.int 1)))) (mConsS 1 mNil))))) (gmName 7))
    (mIf (mAndT (mTest (mPk fNotN (mpVar 7))) (mTest (mBin fLe (mRd (mpVar 7)) (mRd (mpIx (mpIx (mpVar 2) (mRd (mpVar 5))) (M.ret (.int 2))))))) (mAsg (mRdF 6 (mpVar 6)) (gmName 2)) mNx)))
def m_law_few : MS := (mSeq (mAsg (mPk fLen (mpVar 0)) (gmName 1))
    (mSeq (mAsg (mLst mNil) (gmName 2))
    (mSeq (mFor (mArgs1 fRng1 (mCons (mRd (mpVar 1)) mNil)) (gmName 3) l_law_few_1)
    (mSeq (mFor (mArgs1 fRng3 (mCons (mBin fSub (mPk fLen (mpVar 2)) (M.ret (.int 1))) (mCons (mUn fNeg (M.ret (.int 1))) (mCons (mUn fNeg (M.ret (.int 1))) mNil)))) (gmName 5) l_law_few_2)
    (mRet (mMv 2))))))
def fn_law_few : Fn := runF 8 m_law_few 1
/-! is_shown -/
abbrev N_is_shown : List Str := ["table", "pairs", "wanted", "start", "goal", "seen", "waiting", "u", "first", "v"]
abbrev fx_is_shown : List Bool := [true, true, true]
def l_is_shown_0 : MS := (mIf (mAndT (mTest (mBin fEq (mRd (mpVar 8)) (mRd (mpVar 7)))) (mAndT (mTest (mPk2 (fIn true) (mRdF 9 (mpVar 9)) (mpVar 5))) (mTest (mBin fEq (mBin fAdd (mRd (mpIx (mpIx (mpVar 0) (mRd (mpVar 7))) (mRd (mpVar 9)))) (mRd (mpIx (mpIx (mpVar 0) (mRd (mpVar 9))) (mRd (mpVar 4))))) (mRd (mpIx (mpIx (mpVar 0) (mRd (mpVar 7))) (mRd (mpVar 4)))))))) (mSeq (mDPut 5 (M.ret (.bl true)) (mpVar 5) (mRd (mpVar 9)))
    (mExp (mApp 6 (mpVar 6) (mRdF 9 (mpVar 9))))) mNx)
def l_is_shown_1 : MS := (mSeq (mAsg (mPop 6 (mpVar 6)) (gmName 7))
    (mFor (mSeq1 seqOf (mRdF 1 (mpVar 1))) (gmTup 2 (gmCons (gmName 8) (gmCons (gmName 9) gmNil))) l_is_shown_0))
def m_is_shown : MS := (mSeq (mAsg (mRdF 2 (mpVar 2)) (gmTup 2 (gmCons (gmName 3) (gmCons (gmName 4) gmNil))))
    (mSeq (mAsg (mDisp1 (mRd (mpVar 3)) (M.ret (.bl true))) (gmName 5))
    (mSeq (mAsg (mLst (mCons (mRdF 3 (mpVar 3)) mNil)) (gmName 6))
    (mSeq (whL (mTest (mBin fGt (mPk fLen (mpVar 6)) (M.ret (.int 0)))) l_is_shown_1 1000000)
    (mRet (mPk2 (fIn false) (mRdF 4 (mpVar 4)) (mpVar 5)))))))
def fn_is_shown : Fn := runF 10 m_is_shown 3
/-! few_differences -/
abbrev N_few_differences : List Str := ["table", "size", "pairs", "kept", "pair", "others", "u", "v", "other"]
abbrev fx_few_differences : List Bool := [true]
def l_few_differences_0 : MS := (mSeq (mAsg (mLc (mSeq1 seqOf (mRdF 3 (mpVar 3))) (gmName 8) (mTest (mBin fNeD (mRdF 8 (mpVar 8)) (mRdF 4 (mpVar 4)))) (mRdF 8 (mpVar 8)) [8]) (gmName 5))
    (mIf (mTest (mCallB fn_is_shown (mConsS 0 (mConsS 5 (mConsS 4 mNil))))) (mAsg (mRdF 5 (mpVar 5)) (gmName 3)) mNx))
def m_few_differences : MS := (mSeq (mAsg (mPk fLen (mpVar 0)) (gmName 1))
    (mSeq (mAsg (mLc2 (mArgs1 fRng1 (mCons (mRd (mpVar 1)) mNil)) (gmName 6) (M.ret true) (mArgs1 fRng1 (mCons (mRd (mpVar 1)) mNil)) (gmName 7) (mTest (mBin fNe (mRd (mpVar 6)) (mRd (mpVar 7)))) (mTup (mCons (mRdF 6 (mpVar 6)) (mCons (mRdF 7 (mpVar 7)) mNil))) [6, 7] [7]) (gmName 2))
    (mSeq (mAsg (mRdF 2 (mpVar 2)) (gmName 3))
    (mSeq (mFor (mArgs1 fRev (mCons (mRdF 2 (mpVar 2)) mNil)) (gmName 4) l_few_differences_0)
    (mRet (mLc (mSeq1 seqOf (mRdF 3 (mpVar 3))) (gmTup 2 (gmCons (gmName 6) (gmCons (gmName 7) gmNil))) (M.ret true) (mTup (mCons (mRdF 6 (mpVar 6)) (mCons (mRdF 7 (mpVar 7)) (mCons (mRdF 0 (mpIx (mpIx (mpVar 0) (mRd (mpVar 6))) (mRd (mpVar 7)))) mNil)))) [6, 7]))))))
def fn_few_differences : Fn := runF 9 m_few_differences 1
/-! lesser -/
abbrev N_lesser : List Str := ["bound", "left", "right"]
abbrev fx_lesser : List Bool := [true, true, true]
def m_lesser : MS := (mSeq (mIf (mOrT (mTest (mPk fIsN (mpVar 1))) (mTest (mPk fIsN (mpVar 2)))) (mRet (mRdF 0 (mpVar 0))) mNx)
    (mSeq (mIf (mTest (mPk fIsN (mpVar 0))) (mRet (mBin fAdd (mRd (mpVar 1)) (mRd (mpVar 2)))) mNx)
    (mRet (mCB fMin2 (mCons (mRd (mpVar 0)) (mCons (mBin fAdd (mRd (mpVar 1)) (mRd (mpVar 2))) mNil))))))
def fn_lesser : Fn := runF 3 m_lesser 3
/-! led_through -/
abbrev N_led_through : List Str := ["rows", "middle", "through", "row", "bound", "last"]
abbrev fx_led_through : List Bool := [true, true]
def m_led_through : MS := (mSeq (mAsg (mRdF 0 (mpIx (mpVar 0) (mRd (mpVar 1)))) (gmName 2))
    (mRet (mLc (mSeq1 seqOf (mRdF 0 (mpVar 0))) (gmName 3) (M.ret true) (mLc (mArgs1 fZip (mCons (mRdF 3 (mpVar 3)) (mCons (mRdF 2 (mpVar 2)) mNil))) (gmTup 2 (gmCons (gmName 4) (gmCons (gmName 5) gmNil))) (M.ret true) (mCallB fn_lesser (mConsS 4 (mCons (mRdF 3 (mpIx (mpVar 3) (mRd (mpVar 1)))) (mConsS 5 mNil)))) [4, 5]) [3])))
def fn_led_through : Fn := runF 6 m_led_through 2
/-! closure -/
abbrev N_closure : List Str := ["bounds", "rows", "u", "middle", "row"]
abbrev fx_closure : List Bool := [true]
def l_closure_0 : MS := (mIf (mOrT (mTest (mPk fIsN (mpIx (mpIx (mpVar 1) (mRd (mpVar 2))) (mRd (mpVar 2))))) (mTest (mBin fGt (mRd (mpIx (mpIx (mpVar 1) (mRd (mpVar 2))) (mRd (mpVar 2)))) (M.ret (.int 0))))) (mSetIx 1 (M.ret (.int 0)) (mpIx (mpVar 1) (mRd (mpVar 2))) (mRd (mpVar 2))) mNx)
def l_closure_1 : MS := (mAsg (mCall fx_led_through fn_led_through (mConsS 1 (mConsS 3 mNil))) (gmName 1))
def l_closure_2 : MS := (mIf (mTest (mBin fLt (mRd (mpIx (mpIx (mpVar 1) (mRd (mpVar 2))) (mRd (mpVar 2)))) (M.ret (.int 0)))) (mRet (M.ret .non)) mNx)
def m_closure : MS := (mSeq (mAsg (mLc (mSeq1 seqOf (mRdF 0 (mpVar 0))) (gmName 4) (M.ret true) (mPk fList (mpVar 4)) [4]) (gmName 1))
    (mSeq (mFor (mArgs1 fRng1 (mCons (mPk fLen (mpVar 1)) mNil)) (gmName 2) l_closure_0)
    (mSeq (mFor (mArgs1 fRng1 (mCons (mPk fLen (mpVar 1)) mNil)) (gmName 3) l_closure_1)
    (mSeq (mFor (mArgs1 fRng1 (mCons (mPk fLen (mpVar 1)) mNil)) (gmName 2) l_closure_2)
    (mRet (mUn fTuple (mLc (mSeq1 seqOf (mRdF 1 (mpVar 1))) (gmName 4) (M.ret true) (mPk fTuple (mpVar 4)) [4])))))))
def fn_closure : Fn := runF 5 m_closure 1
/-! closed_table -/
abbrev N_closed_table : List Str := ["many", "differences", "bounds", "u", "v", "c", "table", "k", "row"]
abbrev fx_closed_table : List Bool := [true, true]
def l_closed_table_0 : MS := (mIf (mOrT (mTest (mPk fIsN (mpIx (mpIx (mpVar 2) (mRd (mpVar 3))) (mRd (mpVar 4))))) (mTest (mBin fLt (mRd (mpVar 5)) (mRd (mpIx (mpIx (mpVar 2) (mRd (mpVar 3))) (mRd (mpVar 4))))))) (mSetIx 2 (mRdF 5 (mpVar 5)) (mpIx (mpVar 2) (mRd (mpVar 3))) (mRd (mpVar 4))) mNx)
def m_closed_table : MS := (mSeq (mAsg (mLc (mArgs1 fRng1 (mCons (mBin fAdd (mRd (mpVar 0)) (M.ret (.int 1))) mNil)) (gmName 7) (M.ret true) (mBin fRep (mLst (mCons (M.ret .non) mNil)) (mBin fAdd (mRd (mpVar 0)) (M.ret (.int 1)))) [7]) (gmName 2))
    (mSeq (mFor (mSeq1 anyOf (mRdF 1 (mpVar 1))) (gmTup 3 (gmCons (gmName 3) (gmCons (gmName 4) (gmCons (gmName 5) gmNil)))) l_closed_table_0)
    (mSeq (mAsg (mCall fx_closure fn_closure (mConsS 2 mNil)) (gmName 6))
    (mSeq (mIf (mAndT (mTest (mPk fNotN (mpVar 6))) (mTest (mUn fAny (mLc (mSeq1 tupOf (mRdF 6 (mpVar 6))) (gmName 8) (M.ret true) (mPk2 (fInL false) (M.ret .non) (mpVar 8)) [8])))) (fun ρ => some (.ex 1, ρ)) mNx)
    (mRet (mMv 6))))))
def fn_closed_table : Fn := runF 9 m_closed_table 2
end S

/-! Pw -/
set_option Elab.async false
set_option linter.all false
set_option maxRecDepth 100000
set_option maxHeartbeats 1000000
namespace Pv
open PySem L2
/-! ### what a meaning comes to: plain reasoning about M, MS -/
/-- keeps simp out of what stands behind -/
inductive Tg {α : Type} (K : α) : Type where
  | u
def exO {α : Type} (o : Option α) (K : α → Prop) (t : Tg K := .u) : Prop := ∃ d, o = some d ∧ K d
def wM {α : Type} (m : M α) (ρ : Env) (Q : α → Env → Prop) (t : Tg Q := .u) : Prop := ∃ a ρ', m ρ = some (.ok a, ρ') ∧ Q a ρ'
def notX : Fl → Prop
  | .ex _ => False
  | _ => True
/-- no exception -/
def wS (m : MS) (ρ : Env) (Q : Fl → Env → Prop) (t : Tg Q := .u) : Prop := ∃ f ρ', m ρ = some (f, ρ') ∧ notX f ∧ Q f ρ'
def wF (fn : Fn) (ds : List D) (P : D → List (Option D) → Prop) (t : Tg P := .u) : Prop := ∃ d outs, fn ds = some (.ok d, outs) ∧ P d outs
section
variable {α β : Type} {ρ : Env} {m m1 m2 : MS} {ma mb mi me : M D} {mp : M PR} {Q : Fl → Env → Prop} {fn : Fn} {ds : List D}
@[simp] theorem exO_some {α : Type} {d : α} {K : α → Prop} : exO (some d) K ↔ K d := ⟨fun ⟨_, e, k⟩ => Option.some.inj e ▸ k, fun k => ⟨d, rfl, k⟩⟩
@[simp] theorem exO_none {α : Type} {K : α → Prop} : exO none K ↔ False := ⟨fun ⟨_, e, k⟩ => (nomatch e), fun k => k.elim⟩
@[simp] theorem exO_ite {α : Type} {p : Prop} [Decidable p] {o : Option α} {K : α → Prop} : exO (if p then o else none) K ↔ p ∧ exO o K := by
  by_cases h : p <;> simp [h]
theorem wM.mono {m : M α} {P Q : α → Env → Prop} (h : wM m ρ P) (k : ∀ a ρ', P a ρ' → Q a ρ') : wM m ρ Q := let ⟨a, ρ', e, p⟩ := h; ⟨a, ρ', e, k _ _ p⟩
theorem wM_cg {m : M α} {P Q : α → Env → Prop} (h : ∀ a ρ1, P a ρ1 ↔ Q a ρ1) : wM m ρ P ↔ wM m ρ Q := ⟨fun w => w.mono fun a r => (h a r).mp, fun w => w.mono fun a r => (h a r).mpr⟩
theorem wS.mono {P : Fl → Env → Prop} (h : wS m ρ P) (k : ∀ a ρ', P a ρ' → Q a ρ') : wS m ρ Q := let ⟨a, ρ', e, n, p⟩ := h; ⟨a, ρ', e, n, k _ _ p⟩
theorem wF.mono {P P' : D → List (Option D) → Prop} (h : wF fn ds P) (k : ∀ a o, P a o → P' a o) : wF fn ds P' := let ⟨a, o, e, p⟩ := h; ⟨a, o, e, k _ _ p⟩
@[simp] theorem wM_ret {a : α} {P : α → Env → Prop} : wM (M.ret a) ρ P ↔ P a ρ := ⟨fun ⟨a', ρ', e, p⟩ => by cases e; exact p, fun p => ⟨a, ρ, rfl, p⟩⟩
@[simp] theorem wM_lift {o : Option α} {P : α → Env → Prop} : wM (M.lift o) ρ P ↔ exO o fun a => P a ρ := by
  constructor
  · rintro ⟨a', ρ', e, p⟩; obtain ⟨a, e1, e2, rfl⟩ := M.lift_some e; cases e2; exact ⟨_, e1, p⟩
  · rintro ⟨a, rfl, p⟩; exact ⟨a, ρ, rfl, p⟩
@[simp] theorem wM_bind {m : M α} {f : α → M β} {P : β → Env → Prop} : wM (m.bind f) ρ P ↔ wM m ρ fun a ρ1 => wM (f a) ρ1 P := by
  constructor
  · rintro ⟨b, ρ', e, p⟩
    rcases M.bind_some e with ⟨a, ρ1, e1, e2⟩ | ⟨c, e1, e2⟩
    · exact ⟨a, ρ1, e1, b, ρ', e2, p⟩
    · cases e2
  · rintro ⟨a, ρ1, e1, b, ρ', e2, p⟩
    exact ⟨b, ρ', by show (match m ρ with | some (.ok a, ρ1) => f a ρ1 | some (.ex c, ρ1) => some (.ex c, ρ1) | none => none) = _; rw [e1]; exact e2, p⟩
@[simp] theorem wM_un {f : D → Option D} {P : D → Env → Prop} : wM (mUn f ma) ρ P ↔ wM ma ρ fun a ρ1 => exO (f (frz a)) fun d => P d ρ1 := by rw [mUn, wM_bind]; exact wM_cg fun a ρ1 => wM_lift
@[simp] theorem wM_bin {f : D → D → Option D} {P : D → Env → Prop} : wM (mBin f ma mb) ρ P ↔ wM ma ρ fun a ρ1 => wM mb ρ1 fun b ρ2 => exO (f (frz a) (frz b)) fun d => P d ρ2 := by rw [mBin, wM_bind]; exact wM_cg fun a ρ1 => by rw [wM_bind]; exact wM_cg fun b ρ2 => wM_lift
/-- the reading of a name -/
def rdR (d : D) : PR := if isF d = true then .vl d else .pl [] d
@[simp] theorem wM_var {i : Nat} {P : PR → Env → Prop} : wM (mpVar i) ρ P ↔ exO ρ[i]? fun o => exO o fun d => P (rdR d) ρ := by
  constructor
  · rintro ⟨a, ρ', e, p⟩
    unfold mpVar at e; split at e
    · rename_i d hd; cases e; exact ⟨_, hd, d, rfl, p⟩
    · cases e
  · rintro ⟨_, hd, d, rfl, p⟩
    exact ⟨_, ρ, by unfold mpVar; rw [hd]; rfl, p⟩
@[simp] theorem rdR_int {i : Int} : rdR (.int i) = .vl (.int i) := rfl
@[simp] theorem rdR_bl {i : Bool} : rdR (.bl i) = .vl (.bl i) := rfl
@[simp] theorem rdR_non : rdR .non = .vl .non := rfl
@[simp] theorem rdR_str {i : Str} : rdR (.str i) = .vl (.str i) := rfl
@[simp] theorem rdR_f {k : Kd} {xs : List D} : rdR (.nd false k xs) = .vl (.nd false k xs) := rfl
@[simp] theorem rdR_t {k : Kd} {xs : List D} : rdR (.nd true k xs) = .pl [] (.nd true k xs) := rfl
/-- a read value's type of place -/
def exV (r : PR) (K : D → Prop) (t : Tg K := .u) : Prop := match r with
  | .vl d => K d
  | .pl _ _ => False
@[simp] theorem exV_vl {d : D} {K : D → Prop} : exV (.vl d) K ↔ K d := Iff.rfl
@[simp] theorem wM_rd {P : D → Env → Prop} : wM (mRd mp) ρ P ↔ wM mp ρ fun r ρ1 => exV r fun d => P d ρ1 := by
  rw [mRd, wM_bind]
  constructor <;> refine fun h => h.mono fun r ρ1 p => ?_
  · cases r with
    | vl d => exact wM_ret (α := D) |>.mp p
    | pl _ _ => obtain ⟨_, _, e, _⟩ := p; cases e
  · cases r with
    | vl d => exact wM_ret (α := D) |>.mpr p
    | pl _ _ => exact p.elim
/-- a place read, the tree frozen -/
def rdK (R : Nat) (P : D → Env → Prop) (r : PR) (ρ : Env) (t : Tg P := .u) : Prop := match r with
  | .vl d => P d ρ
  | .pl p d => exO ρ[R]? fun o => exO o fun dr => P (frz d) (ρ.set R (some (putD p (frz d) dr)))
@[simp] theorem rdK_vl {R : Nat} {P : D → Env → Prop} {d : D} : rdK R P (.vl d) ρ ↔ P d ρ := Iff.rfl
@[simp] theorem rdK_pl {R : Nat} {P : D → Env → Prop} {d : D} {p : List Nat} : rdK R P (.pl p d) ρ ↔ exO ρ[R]? fun o => exO o fun dr => P (frz d) (ρ.set R (some (putD p (frz d) dr))) := Iff.rfl
@[simp] theorem wM_rdF {R : Nat} {P : D → Env → Prop} : wM (mRdF R mp) ρ P ↔ wM mp ρ fun r ρ1 => rdK R P r ρ1 := by
  rw [mRdF, wM_bind]
  constructor <;> refine fun h => h.mono fun r ρ1 p => ?_
  · cases r with
    | vl d => exact wM_ret (α := D) |>.mp p
    | pl q d =>
      obtain ⟨a, ρ', e, p⟩ := p
      dsimp only at e
      split at e
      · rename_i dr hd; cases e; exact ⟨_, hd, dr, rfl, p⟩
      · cases e
  · cases r with
    | vl d => exact wM_ret (α := D) |>.mpr p
    | pl q d => obtain ⟨_, hd, dr, rfl, p⟩ := p; exact ⟨_, _, by dsimp only; rw [hd], p⟩
@[simp] theorem wM_nil {P : List Arg → Env → Prop} : wM mNil ρ P ↔ P [] ρ := wM_ret
@[simp] theorem wM_cons {mr : M (List Arg)} {P : List Arg → Env → Prop} : wM (mCons ma mr) ρ P ↔ wM ma ρ fun a ρ1 => wM mr ρ1 fun as ρ2 => P (.tmp a :: as) ρ2 := by rw [mCons, wM_bind]; exact wM_cg fun a ρ1 => by rw [wM_bind]; exact wM_cg fun b ρ2 => wM_ret
@[simp] theorem wM_consS {i : Nat} {mr : M (List Arg)} {P : List Arg → Env → Prop} : wM (mConsS i mr) ρ P ↔ (∃ d, ρ[i]? = some (some d)) ∧ wM mr ρ fun as ρ2 => P (.sl i :: as) ρ2 := by
  constructor
  · rintro ⟨a, ρ', e, p⟩
    unfold mConsS at e; split at e
    · rename_i d hd
      have z : wM (mr.bind fun as => M.ret (.sl i :: as)) ρ P := ⟨a, ρ', e, p⟩
      rw [wM_bind] at z
      exact ⟨⟨d, hd⟩, z.mono fun as ρ2 p => wM_ret.mp p⟩
    · cases e
  · rintro ⟨⟨d, hd⟩, p⟩
    have : wM (mr.bind fun as => M.ret (.sl i :: as)) ρ P := by rw [wM_bind]; exact p.mono fun as ρ2 p => wM_ret.mpr p
    obtain ⟨a, ρ', e, p⟩ := this
    exact ⟨a, ρ', by unfold mConsS; rw [hd]; exact e, p⟩
@[simp] theorem tmps_nil : tmps [] = some [] := rfl
@[simp] theorem tmps_cons {d : D} {as : List Arg} : tmps (.tmp d :: as) = (tmps as).map (d :: ·) := rfl
@[simp] theorem wM_tup {mr : M (List Arg)} {P : D → Env → Prop} : wM (mTup mr) ρ P ↔ wM mr ρ fun as ρ1 => exO (tmps as) fun ds => ds.length ≤ 16777216 ∧ P (.tup (ds.map frz)) ρ1 := by
  rw [mTup, wM_bind]
  constructor <;> refine fun h => h.mono fun as ρ1 p => ?_
  · obtain ⟨a, e, p⟩ := wM_lift.mp p
    cases q : tmps as with
    | none => rw [q] at e; cases e
    | some ds =>
      rw [q] at e
      have e : (if ds.length ≤ 16777216 then some (D.tup (ds.map frz)) else none) = some a := e
      split at e
      · cases e; exact ⟨ds, rfl, by assumption, p⟩
      · cases e
  · obtain ⟨ds, e, l, p⟩ := p
    exact wM_lift.mpr ⟨_, by rw [e]; exact if_pos l, p⟩
@[simp] theorem wM_lst {mr : M (List Arg)} {P : D → Env → Prop} : wM (mLst mr) ρ P ↔ wM mr ρ fun as ρ1 => exO (tmps as) fun ds => ds.length ≤ 16777216 ∧ P (.nd true .lst ds) ρ1 := by
  rw [mLst, wM_bind]
  constructor <;> refine fun h => h.mono fun as ρ1 p => ?_
  · obtain ⟨a, e, p⟩ := wM_lift.mp p
    cases q : tmps as with
    | none => rw [q] at e; cases e
    | some ds =>
      rw [q] at e
      have e : (if ds.length ≤ 16777216 then some (D.own ds) else none) = some a := e
      split at e
      · cases e; exact ⟨ds, rfl, by assumption, p⟩
      · cases e
  · obtain ⟨ds, e, l, p⟩ := p
    exact wM_lift.mpr ⟨_, by rw [e]; exact if_pos l, p⟩
@[simp] theorem wM_cb {f : List D → Option D} {mr : M (List Arg)} {P : D → Env → Prop} : wM (mCB f mr) ρ P ↔ wM mr ρ fun as ρ1 => exO (tmps as) fun ds => exO (f (ds.map frz)) fun d => P d ρ1 := by
  rw [mCB, wM_bind]
  constructor <;> refine fun h => h.mono fun as ρ1 p => ?_
  · obtain ⟨a, e, p⟩ := wM_lift.mp p
    cases q : tmps as with
    | none => rw [q] at e; cases e
    | some ds => rw [q] at e; exact ⟨ds, rfl, a, e, p⟩
  · obtain ⟨ds, e, d, e2, p⟩ := p
    exact wM_lift.mpr ⟨d, by rw [e]; exact e2, p⟩
@[simp] theorem wM_pk {f : D → Option D} {P : D → Env → Prop} : wM (mPk f mp) ρ P ↔ wM mp ρ fun a ρ1 => exO (f a.tree) fun d => P d ρ1 := by rw [mPk, wM_bind]; exact wM_cg fun a ρ1 => wM_lift
@[simp] theorem wM_pk2 {f : D → D → Option D} {P : D → Env → Prop} : wM (mPk2 f mb mp) ρ P ↔ wM mb ρ fun b ρ1 => wM mp ρ1 fun a ρ2 => exO (f (frz b) a.tree) fun d => P d ρ2 := by rw [mPk2, wM_bind]; exact wM_cg fun a ρ1 => by rw [wM_bind]; exact wM_cg fun b ρ2 => wM_lift
def ixR (a : PR) (b : D) : Option PR := match b, a.kd with
  | .int i, some k => if isSeq k = true then (ixN a.size i).bind a.kid else none
  | _, _ => none
def dgR (a : PR) (b : D) : Option PR := match a.kd with
  | some k => if isKey k (frz b) = true then (dIx k (frz b)).bind a.kid else none
  | none => none
def fldR (c : Nat) (f : Str) (a : PR) : Option PR := match a.kd with
  | some (.ins c' ns) => if c' = c then (kix ns f).bind a.kid else none
  | _ => none
@[simp] theorem wM_ix {P : PR → Env → Prop} : wM (mpIx mp mi) ρ P ↔ wM mp ρ fun a ρ1 => wM mi ρ1 fun b ρ2 => exO (ixR a b) fun r => P r ρ2 := by rw [mpIx, wM_bind]; exact wM_cg fun a ρ1 => by rw [wM_bind]; exact wM_cg fun b ρ2 => wM_lift
@[simp] theorem wM_dg {P : PR → Env → Prop} : wM (mpDg mp mi) ρ P ↔ wM mp ρ fun a ρ1 => wM mi ρ1 fun b ρ2 => exO (dgR a b) fun r => P r ρ2 := by rw [mpDg, wM_bind]; exact wM_cg fun a ρ1 => by rw [wM_bind]; exact wM_cg fun b ρ2 => wM_lift
@[simp] theorem wM_fld {c : Nat} {f : Str} {P : PR → Env → Prop} : wM (mpFld c f mp) ρ P ↔ wM mp ρ fun a ρ1 => exO (fldR c f a) fun r => P r ρ1 := by rw [mpFld, wM_bind]; exact wM_cg fun a ρ1 => wM_lift
def kidR (p : Option (List Nat)) (j : Nat) (x : D) : PR := match p with
  | none => .vl x
  | some p => if isF x = true then .vl x else .pl (p ++ [j]) x
@[simp] theorem ixR_vl {k : Kd} {xs : List D} {i : Int} : ixR (.vl (.nd false k xs)) (.int i) = if isSeq k = true then (ixN xs.length i).bind fun j => xs[j]?.map .vl else none := rfl
@[simp] theorem ixR_pl {k : Kd} {xs : List D} {i : Int} {p : List Nat} : ixR (.pl p (.nd true k xs)) (.int i) = if isSeq k = true then (ixN xs.length i).bind fun j => xs[j]?.map (kidR (some p) j) else none := rfl
@[simp] theorem fldR_vl {c c' : Nat} {ns : List Str} {f : Str} {xs : List D} : fldR c f (.vl (.nd false (.ins c' ns) xs)) = if c' = c then (kix ns f).bind fun j => xs[j]?.map .vl else none := rfl
@[simp] theorem fldR_pl {c c' : Nat} {ns : List Str} {f : Str} {xs : List D} {p : List Nat} : fldR c f (.pl p (.nd true (.ins c' ns) xs)) = if c' = c then (kix ns f).bind fun j => xs[j]?.map (kidR (some p) j) else none := rfl
@[simp] theorem dgR_vl {k : Kd} {xs : List D} {b : D} : dgR (.vl (.nd false k xs)) b = if isKey k (frz b) = true then (dIx k (frz b)).bind fun j => xs[j]?.map .vl else none := rfl
@[simp] theorem dgR_pl {k : Kd} {xs : List D} {b : D} {p : List Nat} : dgR (.pl p (.nd true k xs)) b = if isKey k (frz b) = true then (dIx k (frz b)).bind fun j => xs[j]?.map (kidR (some p) j) else none := rfl
@[simp] theorem kidR_int {p : List Nat} {j : Nat} {i : Int} : kidR (some p) j (.int i) = .vl (.int i) := rfl
@[simp] theorem kidR_non {p : List Nat} {j : Nat} : kidR (some p) j .non = .vl .non := rfl
@[simp] theorem kidR_bl {p : List Nat} {j : Nat} {b : Bool} : kidR (some p) j (.bl b) = .vl (.bl b) := rfl
@[simp] theorem kidR_str {p : List Nat} {j : Nat} {b : Str} : kidR (some p) j (.str b) = .vl (.str b) := rfl
@[simp] theorem kidR_f {p : List Nat} {j : Nat} {k : Kd} {xs : List D} : kidR (some p) j (.nd false k xs) = .vl (.nd false k xs) := rfl
@[simp] theorem kidR_t {p : List Nat} {j : Nat} {k : Kd} {xs : List D} : kidR (some p) j (.nd true k xs) = .pl (p ++ [j]) (.nd true k xs) := rfl
@[simp] theorem tree_vl {d : D} : (PR.vl d).tree = d := rfl
@[simp] theorem tree_pl {d : D} {p : List Nat} : (PR.pl p d).tree = d := rfl
/-! calls -/
@[simp] theorem takeA_nil : takeA [] ρ = some ([], ρ) := rfl
@[simp] theorem takeA_tmp {d : D} {as : List Arg} : takeA (.tmp d :: as) ρ = (takeA as ρ).map fun p => (d :: p.1, p.2) := by
  show (match takeA as ρ with | some (ds, ρ1) => some (d :: ds, ρ1) | none => none) = _
  cases takeA as ρ with
  | none => rfl
  | some p => cases p; rfl
def offA (i : Nat) (d : D) (ρ : Env) : Env := if isF d = true then ρ else ρ.set i none
theorem takeA_sl {i : Nat} {as : List Arg} : takeA (.sl i :: as) ρ = match ρ[i]? with
  | some (some d) => (takeA as (offA i d ρ)).map fun p => (d :: p.1, p.2)
  | _ => none := by
  show (match ρ[i]? with | some (some d) => (match takeA as (offA i d ρ) with | some (ds, ρ1) => some (d :: ds, ρ1) | none => none) | _ => none) = _
  split
  · rename_i d _
    cases takeA as (offA i d ρ) with
    | none => rfl
    | some p => cases p; rfl
  · rfl
@[simp] theorem offA_int {i : Nat} {k : Int} : offA i (.int k) ρ = ρ := rfl
@[simp] theorem offA_non {i : Nat} : offA i .non ρ = ρ := rfl
@[simp] theorem offA_bl {i : Nat} {b : Bool} : offA i (.bl b) ρ = ρ := rfl
@[simp] theorem offA_str {i : Nat} {b : Str} : offA i (.str b) ρ = ρ := rfl
@[simp] theorem offA_f {i : Nat} {k : Kd} {xs : List D} : offA i (.nd false k xs) ρ = ρ := rfl
@[simp] theorem offA_t {i : Nat} {k : Kd} {xs : List D} : offA i (.nd true k xs) ρ = ρ.set i none := rfl
theorem putA_sl {i : Nat} {as : List Arg} {b : Bool} {bs : List Bool} {o : Option D} {os : List (Option D)} : putA (.sl i :: as) (b :: bs) (o :: os) ρ = putA as bs os (match ρ[i]? with
    | some none => ρ.set i (if b = true then o else none)
    | _ => ρ) := rfl
@[simp] theorem putA_tmp {d : D} {as : List Arg} {b : Bool} {bs : List Bool} {o : Option D} {os : List (Option D)} : putA (.tmp d :: as) (b :: bs) (o :: os) ρ = putA as bs os ρ := rfl
@[simp] theorem putA_nil {bs : List Bool} {os : List (Option D)} : putA [] bs os ρ = ρ := by cases bs <;> cases os <;> rfl
@[simp] theorem wM_call {fx : List Bool} {mr : M (List Arg)} {P : D → Env → Prop} : wM (mCall fx fn mr) ρ P ↔ wM mr ρ fun as ρ1 => exO (takeA as ρ1) fun p => wF fn p.1 fun d outs => P d (putA as fx outs p.2) := by
  rw [mCall, wM_bind]
  constructor <;> refine fun h => h.mono fun as ρ1 p => ?_
  · obtain ⟨a, ρ', e, p⟩ := p
    dsimp only at e
    cases q : takeA as ρ1 with
    | none => rw [q] at e; cases e
    | some z =>
      obtain ⟨ds, ρ2⟩ := z
      rw [q] at e
      dsimp only at e
      cases q2 : fn ds with
      | none => rw [q2] at e; cases e
      | some z => obtain ⟨r, outs⟩ := z; rw [q2] at e; cases e; exact ⟨_, rfl, a, outs, q2, p⟩
  · obtain ⟨⟨ds, ρ2⟩, e, d, outs, e2, p⟩ := p
    exact ⟨d, _, by dsimp only at e2 ⊢; rw [e]; dsimp only; rw [e2], p⟩
@[simp] theorem look1_nil : look1 ρ [] = some [] := rfl
@[simp] theorem look1_tmp {d : D} {as : List Arg} : look1 ρ (.tmp d :: as) = (look1 ρ as).map (frz d :: ·) := rfl
theorem look1_sl {i : Nat} {as : List Arg} : look1 ρ (.sl i :: as) = match ρ[i]? with
    | some (some d) => (look1 ρ as).map (frz d :: ·)
    | _ => none := rfl
@[simp] theorem wM_callB {mr : M (List Arg)} {P : D → Env → Prop} : wM (mCallB fn mr) ρ P ↔ wM mr ρ fun as ρ1 => exO (look1 ρ1 as) fun ds => wF fn ds fun d _ => isFlat d = true ∧ P d ρ1 := by
  rw [mCallB, wM_bind]
  constructor <;> refine fun h => h.mono fun as ρ1 p => ?_
  · obtain ⟨a, ρ', e, p⟩ := p
    dsimp only at e
    cases q : look1 ρ1 as with
    | none => rw [q] at e; cases e
    | some ds =>
      rw [q] at e
      dsimp only at e
      cases q2 : fn ds with
      | none => rw [q2] at e; cases e
      | some z =>
        obtain ⟨r, outs⟩ := z
        rw [q2] at e
        cases r with
        | ok d =>
          dsimp only at e
          split at e
          · rename_i hf; cases e; exact ⟨_, rfl, _, outs, q2, hf, p⟩
          · cases e
        | ex c => cases e
  · obtain ⟨ds, e, d, outs, e2, f, p⟩ := p
    exact ⟨d, ρ1, by dsimp only at e2 ⊢; rw [e]; dsimp only; rw [e2]; exact if_pos f, p⟩
@[simp] theorem wM_meth {c : Nat} {x : Str} {i : Nat} {fx : List Bool} {mr : M (List Arg)} {P : D → Env → Prop} : wM (mMeth c x i fx fn mr) ρ P ↔ exO ρ[i]? fun o => exO o fun d => hasM c x d = true ∧ wM (mCall fx fn (mConsS i mr)) ρ P := by
  constructor
  · rintro ⟨a, ρ', e, p⟩
    unfold mMeth at e; split at e
    · rename_i d hd
      split at e
      · exact ⟨_, hd, d, rfl, by assumption, a, ρ', e, p⟩
      · cases e
    · cases e
  · rintro ⟨_, hd, d, rfl, h, a, ρ', e, p⟩
    exact ⟨a, ρ', by unfold mMeth; rw [hd]; dsimp only; rw [if_pos h]; exact e, p⟩
@[simp] theorem wM_methB {c : Nat} {x : Str} {i : Nat} {mr : M (List Arg)} {P : D → Env → Prop} : wM (mMethB c x i fn mr) ρ P ↔ exO ρ[i]? fun o => exO o fun d => hasM c x d = true ∧ wM (mCallB fn (mConsS i mr)) ρ P := by
  constructor
  · rintro ⟨a, ρ', e, p⟩
    unfold mMethB at e; split at e
    · rename_i d hd
      split at e
      · exact ⟨_, hd, d, rfl, by assumption, a, ρ', e, p⟩
      · cases e
    · cases e
  · rintro ⟨_, hd, d, rfl, h, a, ρ', e, p⟩
    exact ⟨a, ρ', by unfold mMethB; rw [hd]; dsimp only; rw [if_pos h]; exact e, p⟩
def hdK (outs : List (Option D)) (K : D → List (Option D) → Prop) (t : Tg K := .u) : Prop := match outs with
  | some x :: rest => K x rest
  | _ => False
@[simp] theorem hdK_cons {x : D} {rest : List (Option D)} {K : D → List (Option D) → Prop} : hdK (some x :: rest) K ↔ K x rest := Iff.rfl
@[simp] theorem wM_make {c : Nat} {fx : List Bool} {mr : M (List Arg)} {P : D → Env → Prop} : wM (mMake c fx fn mr) ρ P ↔ wM mr ρ fun as ρ1 => exO (takeA as ρ1) fun p => wF fn (.nd true (.ins c []) [] :: p.1) fun d outs => d = .non ∧ hdK outs fun x rest => P x (putA as fx.tail rest p.2) := by
  rw [mMake, wM_bind]
  constructor <;> refine fun h => h.mono fun as ρ1 p => ?_
  · obtain ⟨a, ρ', e, p⟩ := p
    dsimp only at e
    cases q : takeA as ρ1 with
    | none => rw [q] at e; cases e
    | some z =>
      obtain ⟨ds, ρ2⟩ := z
      rw [q] at e
      dsimp only at e
      split at e
      · rename_i d outs e2; cases e; exact ⟨_, rfl, .non, _, e2, rfl, p⟩
      · cases e
  · obtain ⟨⟨ds, ρ2⟩, e, d, outs, e2, rfl, p⟩ := p
    match outs, p with
    | some x :: rest, p => exact ⟨x, _, by dsimp only at e2 ⊢; rw [e]; dsimp only; rw [e2], p⟩
@[simp] theorem wM_mv {i : Nat} {P : D → Env → Prop} : wM (mMv i) ρ P ↔ exO ρ[i]? fun o => exO o fun d => P d (ρ.set i none) := by
  constructor
  · rintro ⟨a, ρ', e, p⟩
    unfold mMv at e; split at e
    · rename_i d hd; cases e; exact ⟨_, hd, _, rfl, p⟩
    · cases e
  · rintro ⟨_, hd, d, rfl, p⟩
    exact ⟨d, _, by unfold mMv; rw [hd], p⟩
/-! tests -/
def blP (P : Bool → Env → Prop) (d : D) (ρ : Env) (t : Tg P := .u) : Prop := match d with
  | .bl b => P b ρ
  | _ => False
@[simp] theorem blP_bl {P : Bool → Env → Prop} {b : Bool} : blP P (.bl b) ρ ↔ P b ρ := Iff.rfl
theorem blP_cg {P Q : Bool → Env → Prop} {d : D} (h : ∀ b, P b ρ ↔ Q b ρ) : blP P d ρ ↔ blP Q d ρ := by
  cases d <;> first | exact h _ | exact Iff.rfl
@[simp] theorem wM_test {P : Bool → Env → Prop} : wM (mTest ma) ρ P ↔ wM ma ρ fun d ρ1 => blP P d ρ1 := by
  rw [mTest, wM_bind]
  constructor <;> refine fun h => h.mono fun d ρ1 p => ?_
  · cases d with
    | bl b => exact wM_ret (α := Bool) |>.mp p
    | _ => obtain ⟨_, _, e, _⟩ := p; cases e
  · cases d with
    | bl b => exact wM_ret (α := Bool) |>.mpr p
    | _ => exact p.elim
theorem wM_ite {c : Prop} [Decidable c] {m1 m2 : M α} {P : α → Env → Prop} : wM (if c then m1 else m2) ρ P ↔ (c → wM m1 ρ P) ∧ (¬ c → wM m2 ρ P) := by
  by_cases h : c <;> simp [h]
@[simp] theorem wM_notT {n : M Bool} {P : Bool → Env → Prop} : wM (mNotT n) ρ P ↔ wM n ρ fun b ρ1 => P (!b) ρ1 := by rw [mNotT, wM_bind]; exact wM_cg fun a ρ1 => wM_ret
@[simp] theorem wM_andT {n1 n2 : M Bool} {P : Bool → Env → Prop} : wM (mAndT n1 n2) ρ P ↔ wM n1 ρ fun b ρ1 => (b = true → wM n2 ρ1 P) ∧ (b = false → P false ρ1) := by rw [mAndT, wM_bind]; exact wM_cg fun a ρ1 => by rw [wM_ite]; simp
@[simp] theorem wM_orT {n1 n2 : M Bool} {P : Bool → Env → Prop} : wM (mOrT n1 n2) ρ P ↔ wM n1 ρ fun b ρ1 => (b = true → P true ρ1) ∧ (b = false → wM n2 ρ1 P) := by rw [mOrT, wM_bind]; exact wM_cg fun a ρ1 => by rw [wM_ite]; simp
theorem wM_bool {f : Bool → M D} {P : D → Env → Prop} : wM (mBool ma f) ρ P ↔ wM ma ρ fun d ρ1 => blP (fun b ρ1 => wM (f b) ρ1 P) d ρ1 := by
  rw [mBool, wM_bind]
  constructor <;> refine fun h => h.mono fun d ρ1 p => ?_
  · cases d with
    | bl b => exact p
    | _ => obtain ⟨_, _, e, _⟩ := p; cases e
  · cases d with
    | bl b => exact p
    | _ => exact p.elim
@[simp] theorem wM_andV {P : D → Env → Prop} : wM (mAndV ma mb) ρ P ↔ wM ma ρ fun d ρ1 => blP (fun b ρ1 => (b = true → wM mb ρ1 P) ∧ (b = false → P (.bl false) ρ1)) d ρ1 := by rw [mAndV, wM_bool]; exact wM_cg fun a ρ1 => blP_cg fun b => by rw [wM_ite]; simp
@[simp] theorem wM_orV {P : D → Env → Prop} : wM (mOrV ma mb) ρ P ↔ wM ma ρ fun d ρ1 => blP (fun b ρ1 => (b = true → P (.bl true) ρ1) ∧ (b = false → wM mb ρ1 P)) d ρ1 := by rw [mOrV, wM_bool]; exact wM_cg fun a ρ1 => blP_cg fun b => by rw [wM_ite]; simp
@[simp] theorem wM_notV {P : D → Env → Prop} : wM (mNotV ma) ρ P ↔ wM ma ρ fun d ρ1 => blP (fun b ρ1 => P (.bl !b) ρ1) d ρ1 := by rw [mNotV, wM_bool]; exact wM_cg fun a ρ1 => blP_cg fun b => wM_ret
@[simp] theorem wM_ifE {c : M Bool} {P : D → Env → Prop} : wM (mIfE c ma mb) ρ P ↔ wM c ρ fun x ρ1 => (x = true → wM ma ρ1 P) ∧ (x = false → wM mb ρ1 P) := by rw [mIfE, wM_bind]; exact wM_cg fun a ρ1 => by rw [wM_ite]; simp
def intP (P : Int → Prop) (d : D) (t : Tg P := .u) : Prop := match d with
  | .int i => P i
  | _ => False
@[simp] theorem intP_int {P : Int → Prop} {i : Int} : intP P (.int i) ↔ P i := Iff.rfl
@[simp] theorem wM_part {P : Option Int → Env → Prop} : wM (mPart ma) ρ P ↔ wM ma ρ fun d ρ1 => intP (fun i => P (some i) ρ1) d := by
  rw [mPart, wM_bind]
  constructor <;> refine fun h => h.mono fun d ρ1 p => ?_
  · cases d with
    | int b => exact wM_ret (α := Option Int) |>.mp p
    | _ => obtain ⟨_, _, e, _⟩ := p; cases e
  · cases d with
    | int b => exact wM_ret (α := Option Int) |>.mpr p
    | _ => exact p.elim
@[simp] theorem wM_sl {f : D → Option Int → Option Int → Option D} {lo hi : M (Option Int)} {P : D → Env → Prop} : wM (mSl f ma lo hi) ρ P ↔ wM ma ρ fun d ρ1 => wM lo ρ1 fun l ρ2 => wM hi ρ2 fun u ρ3 => exO (f (frz d) l u) fun x => P x ρ3 := by rw [mSl, wM_bind]; exact wM_cg fun a ρ1 => by rw [wM_bind]; exact wM_cg fun b ρ2 => by rw [wM_bind]; exact wM_cg fun c ρ3 => wM_lift
/-! statements -/
def sqK (K : Env → Prop) (Q : Fl → Env → Prop) (f : Fl) (ρ : Env) (t : Tg K := .u) (u : Tg Q := .u) : Prop := match f with
  | .nx => K ρ
  | f => Q f ρ
@[simp] theorem sqK_nx {K : Env → Prop} : sqK K Q .nx ρ ↔ K ρ := Iff.rfl
@[simp] theorem sqK_rt {K : Env → Prop} {d : D} : sqK K Q (.rt d) ρ ↔ Q (.rt d) ρ := Iff.rfl
@[simp] theorem sqK_bk {K : Env → Prop} : sqK K Q .bk ρ ↔ Q .bk ρ := Iff.rfl
@[simp] theorem sqK_ct {K : Env → Prop} : sqK K Q .ct ρ ↔ Q .ct ρ := Iff.rfl
@[simp] theorem sqK_ex {K : Env → Prop} {c : Nat} : sqK K Q (.ex c) ρ ↔ Q (.ex c) ρ := Iff.rfl
@[simp] theorem wS_nx : wS mNx ρ Q ↔ Q .nx ρ := ⟨fun ⟨a', ρ', e, _, p⟩ => by cases e; exact p, fun p => ⟨_, ρ, rfl, trivial, p⟩⟩
@[simp] theorem wS_bk : wS (fun ρ => some (.bk, ρ)) ρ Q ↔ Q .bk ρ := ⟨fun ⟨a', ρ', e, _, p⟩ => by cases e; exact p, fun p => ⟨_, ρ, rfl, trivial, p⟩⟩
@[simp] theorem wS_ct : wS (fun ρ => some (.ct, ρ)) ρ Q ↔ Q .ct ρ := ⟨fun ⟨a', ρ', e, _, p⟩ => by cases e; exact p, fun p => ⟨_, ρ, rfl, trivial, p⟩⟩
@[simp] theorem wS_retN : wS (fun ρ => some (.rt .non, ρ)) ρ Q ↔ Q (.rt .non) ρ := ⟨fun ⟨a', ρ', e, _, p⟩ => by cases e; exact p, fun p => ⟨_, ρ, rfl, trivial, p⟩⟩
@[simp] theorem wS_seq : wS (mSeq m1 m2) ρ Q ↔ wS m1 ρ fun f ρ1 => sqK (fun ρ1 => wS m2 ρ1 Q) Q f ρ1 := by
  constructor
  · rintro ⟨f, ρ', e, n, p⟩
    unfold mSeq at e; split at e
    · rename_i ρ1 e1; exact ⟨.nx, ρ1, e1, trivial, f, ρ', e, n, p⟩
    · rename_i h
      refine ⟨f, ρ', e, n, ?_⟩
      cases f with
      | nx => exact absurd e (h ρ')
      | _ => exact p
  · rintro ⟨f, ρ1, e, n, p⟩
    cases f with
    | nx => obtain ⟨f, ρ', e2, n, p⟩ := p; exact ⟨f, ρ', by unfold mSeq; rw [e]; exact e2, n, p⟩
    | _ => exact ⟨_, ρ1, by unfold mSeq; rw [e], n, p⟩
/-- what goes on behind a value -/
@[simp] theorem wS_then {n : M α} {f : α → MS} : wS (mThen n f) ρ Q ↔ wM n ρ fun a ρ1 => wS (f a) ρ1 Q := by
  constructor
  · rintro ⟨g, ρ', e, x, p⟩
    unfold mThen at e; split at e
    · rename_i a ρ1 e1; exact ⟨a, ρ1, e1, g, ρ', e, x, p⟩
    · cases e; exact x.elim
    · cases e
  · rintro ⟨a, ρ1, e, g, ρ', e2, x, p⟩
    exact ⟨g, ρ', by unfold mThen; rw [e]; exact e2, x, p⟩
theorem wS_pure {f : Fl} (n : notX f) {ρ1 : Env} : wS (fun _ => some (f, ρ1)) ρ Q ↔ Q f ρ1 := ⟨fun ⟨a', ρ', e, _, p⟩ => by cases e; exact p, fun p => ⟨_, _, rfl, n, p⟩⟩
@[simp] theorem wS_ret : wS (mRet ma) ρ Q ↔ wM ma ρ fun d ρ1 => Q (.rt d) ρ1 := by
  rw [mRet, wS_then]
  constructor <;> refine fun h => h.mono fun r ρ1 p => ?_
  · obtain ⟨_, _, e, _, p⟩ := p; cases e; exact p
  · exact ⟨_, _, rfl, trivial, p⟩
@[simp] theorem wS_exp : wS (mExp ma) ρ Q ↔ wM ma ρ fun d ρ1 => Q .nx ρ1 := by
  rw [mExp, wS_then]
  constructor <;> refine fun h => h.mono fun r ρ1 p => ?_
  · obtain ⟨_, _, e, _, p⟩ := p; cases e; exact p
  · exact ⟨_, _, rfl, trivial, p⟩
@[simp] theorem wS_asg {g : D → Env → Option Env} : wS (mAsg ma g) ρ Q ↔ wM ma ρ fun d ρ1 => exO (g d ρ1) fun ρ2 => Q .nx ρ2 := by
  rw [mAsg, wS_then]
  constructor <;> refine fun h => h.mono fun r ρ1 p => ?_
  · obtain ⟨_, _, e, _, p⟩ := p
    dsimp only at e
    split at e
    · rename_i ρ2 e2; cases e; exact ⟨_, e2, p⟩
    · cases e
  · obtain ⟨ρ2, e, p⟩ := p; exact ⟨.nx, ρ2, by dsimp only; rw [e], trivial, p⟩
@[simp] theorem wS_if {c : M Bool} : wS (mIf c m1 m2) ρ Q ↔ wM c ρ fun x ρ1 => (x = true → wS m1 ρ1 Q) ∧ (x = false → wS m2 ρ1 Q) := by
  rw [mIf, wS_then]
  constructor <;> refine fun h => h.mono fun r ρ1 p => ?_
  · cases r
    · exact ⟨fun h => (nomatch h), fun _ => p⟩
    · exact ⟨fun _ => p, fun h => (nomatch h)⟩
  · cases r
    · exact p.2 rfl
    · exact p.1 rfl
@[simp] theorem wS_for {mi : M (List D)} {g : D → Env → Option Env} {b : MS} : wS (mFor mi g b) ρ Q ↔ wM mi ρ fun ds ρ1 => wS (forL g b ds) ρ1 Q := wS_then
@[simp] theorem gmName_set {i : Nat} {d : D} : gmName i d ρ = if i < ρ.length then some (ρ.set i (some d)) else none := rfl
@[simp] theorem gmNil_nil : gmNil [] ρ = some ρ := rfl
@[simp] theorem gmCons_cons {g : D → Env → Option Env} {gs : List D → Env → Option Env} {d : D} {r : List D} : gmCons g gs (d :: r) ρ = (g d ρ).bind fun ρ1 => gs r ρ1 := by
  show (match g d ρ with | some ρ1 => gs r ρ1 | none => none) = _
  cases g d ρ <;> rfl
@[simp] theorem gmTup_tup {n : Nat} {gs : List D → Env → Option Env} {xs : List D} : gmTup n gs (.nd false .tup xs) ρ = if xs.length = n then gs xs ρ else none := rfl
/-! what changes a place -/
def apK (R : Nat) (P : Env → Prop) (e : D) (a : PR) (ρ : Env) (t : Tg P := .u) : Prop := match a with
  | .pl p (.nd true .lst xs) => xs.length < 16777216 ∧ exO ρ[R]? fun o => exO o fun dr => P (ρ.set R (some (putD p (.nd true .lst (xs ++ [e])) dr)))
  | _ => False
@[simp] theorem apK_pl {R : Nat} {P : Env → Prop} {e : D} {p : List Nat} {xs : List D} : apK R P e (.pl p (.nd true .lst xs)) ρ ↔ xs.length < 16777216 ∧ exO ρ[R]? fun o => exO o fun dr => P (ρ.set R (some (putD p (.nd true .lst (xs ++ [e])) dr))) := Iff.rfl
@[simp] theorem wM_app {R : Nat} {P : D → Env → Prop} : wM (mApp R mp me) ρ P ↔ wM mp ρ fun a ρ1 => a.isOwn = true ∧ wM me ρ1 fun e ρ2 => apK R (P .non) e a ρ2 := by
  rw [mApp, wM_bind]
  constructor <;> refine fun h => h.mono fun a ρ1 p => ?_
  · obtain ⟨r, ρ', e, p⟩ := p
    unfold M.chk at e; split at e
    · rename_i ho
      refine ⟨ho, ?_⟩
      have z : wM _ ρ1 P := ⟨r, ρ', e, p⟩
      rw [wM_bind] at z
      refine z.mono fun d ρ2 pp => ?_
      obtain ⟨r, ρ', e, p⟩ := pp
      dsimp only at e
      split at e
      · split at e
        · cases e; exact ⟨by assumption, _, by assumption, _, rfl, p⟩
        · cases e
      · cases e
    · cases e
  · obtain ⟨ho, p⟩ := p
    have z : wM (me.bind fun e => fun ρ => match a, ρ[R]? with
      | .pl p (.nd true .lst xs), some (some dr) => if xs.length < 16777216 then some (.ok .non, ρ.set R (some (putD p (.nd true .lst (xs ++ [e])) dr))) else none
      | _, _ => none) ρ1 P := by
      rw [wM_bind]
      refine p.mono fun d ρ2 p => ?_
      cases a with
      | vl _ => exact p.elim
      | pl q x =>
        cases x with
        | nd o k xs =>
          cases o with
          | false => exact p.elim
          | true =>
            cases k with
            | lst => obtain ⟨l, _, hd, dr, rfl, p⟩ := p; exact ⟨_, _, by dsimp only; rw [hd]; exact if_pos l, p⟩
            | _ => exact p.elim
        | _ => exact p.elim
    obtain ⟨r, ρ', e, p⟩ := z
    exact ⟨r, ρ', by unfold M.chk; rw [if_pos ho]; exact e, p⟩
@[simp] theorem isOwn_pl {p : List Nat} {xs : List D} : (PR.pl p (.nd true .lst xs)).isOwn = true := rfl
def setK (R : Nat) (P : Env → Prop) (e : D) (i : D) (a : PR) (ρ : Env) (t : Tg P := .u) : Prop := match a, i with
  | .pl p (.nd true .lst xs), .int i => exO (ixN xs.length i) fun j => exO ρ[R]? fun o => exO o fun dr => P (ρ.set R (some (putD p (.nd true .lst (xs.set j e)) dr)))
  | _, _ => False
@[simp] theorem setK_pl {R : Nat} {P : Env → Prop} {e : D} {p : List Nat} {xs : List D} {i : Int} : setK R P e (.int i) (.pl p (.nd true .lst xs)) ρ ↔ exO (ixN xs.length i) fun j => exO ρ[R]? fun o => exO o fun dr => P (ρ.set R (some (putD p (.nd true .lst (xs.set j e)) dr))) := Iff.rfl
@[simp] theorem wS_setIx {R : Nat} : wS (mSetIx R me mp mi) ρ Q ↔ wM me ρ fun e ρ1 => wM mp ρ1 fun a ρ2 => wM mi ρ2 fun i ρ3 => setK R (Q .nx) e i a ρ3 := by
  rw [mSetIx, wS_then]
  refine wM_cg fun e ρ1 => wS_then.trans (wM_cg fun a ρ2 => wS_then.trans (wM_cg fun i ρ3 => ⟨fun p => ?_, fun p => ?_⟩))
  · obtain ⟨f, ρ', e1, n, p⟩ := p
    dsimp only at e1
    split at e1
    · split at e1
      · cases e1; exact ⟨_, by assumption, _, by assumption, _, rfl, p⟩
      · cases e1
    · cases e1
  · unfold setK at p; split at p
    · obtain ⟨j, e1, _, hd, dr, rfl, p⟩ := p
      exact ⟨.nx, _, by dsimp only; rw [hd]; dsimp only; rw [e1], trivial, p⟩
    · exact p.elim
def dpK (R : Nat) (P : Env → Prop) (e : D) (i : D) (a : PR) (ρ : Env) (t : Tg P := .u) : Prop := match a with
  | .pl p (.nd true k xs) => xs.length < 16777216 ∧ exO (dPut k xs (frz i) e) fun q => exO ρ[R]? fun o => exO o fun dr => P (ρ.set R (some (putD p (.nd true q.1 q.2) dr)))
  | _ => False
@[simp] theorem dpK_pl {R : Nat} {P : Env → Prop} {e : D} {p : List Nat} {k : Kd} {xs : List D} {i : D} : dpK R P e i (.pl p (.nd true k xs)) ρ ↔ xs.length < 16777216 ∧ exO (dPut k xs (frz i) e) fun q => exO ρ[R]? fun o => exO o fun dr => P (ρ.set R (some (putD p (.nd true q.1 q.2) dr))) := Iff.rfl
@[simp] theorem wS_dput {R : Nat} : wS (mDPut R me mp mi) ρ Q ↔ wM me ρ fun e ρ1 => wM mp ρ1 fun a ρ2 => wM mi ρ2 fun i ρ3 => dpK R (Q .nx) e i a ρ3 := by
  rw [mDPut, wS_then]
  refine wM_cg fun e ρ1 => wS_then.trans (wM_cg fun a ρ2 => wS_then.trans (wM_cg fun i ρ3 => ⟨fun p => ?_, fun p => ?_⟩))
  · obtain ⟨f, ρ', e1, n, p⟩ := p
    dsimp only at e1
    split at e1
    · split at e1
      · split at e1
        · cases e1; exact ⟨by assumption, _, by assumption, _, by assumption, _, rfl, p⟩
        · cases e1
      · cases e1
    · cases e1
  · unfold dpK at p; split at p
    · obtain ⟨l, ⟨k', xs'⟩, e1, _, hd, dr, rfl, p⟩ := p
      exact ⟨.nx, _, by dsimp only; rw [hd]; dsimp only; rw [if_pos l, e1], trivial, p⟩
    · exact p.elim
def fdK (R c : Nat) (f : Str) (P : Env → Prop) (e : D) (a : PR) (ρ : Env) (t : Tg P := .u) : Prop := match a with
  | .pl p (.nd true (.ins c' ns) xs) => (c' = c ∧ ns.length < 1000) ∧ exO ρ[R]? fun o => exO o fun dr => (match kix ns f with
    | some j => P (ρ.set R (some (putD p (.nd true (.ins c ns) (xs.set j e)) dr)))
    | none => P (ρ.set R (some (putD p (.nd true (.ins c (ns ++ [f])) (xs ++ [e])) dr))))
  | _ => False
@[simp] theorem fdK_pl {R c c' : Nat} {f : Str} {P : Env → Prop} {e : D} {p : List Nat} {ns : List Str} {xs : List D} : fdK R c f P e (.pl p (.nd true (.ins c' ns) xs)) ρ ↔ (c' = c ∧ ns.length < 1000) ∧ exO ρ[R]? fun o => exO o fun dr => (match kix ns f with
    | some j => P (ρ.set R (some (putD p (.nd true (.ins c ns) (xs.set j e)) dr)))
    | none => P (ρ.set R (some (putD p (.nd true (.ins c (ns ++ [f])) (xs ++ [e])) dr)))) := Iff.rfl
@[simp] theorem wS_fld {R c : Nat} {f : Str} : wS (mSFld R c f me mp) ρ Q ↔ wM me ρ fun e ρ1 => wM mp ρ1 fun a ρ2 => fdK R c f (Q .nx) e a ρ2 := by
  rw [mSFld, wS_then]
  refine wM_cg fun e ρ1 => wS_then.trans (wM_cg fun a ρ2 => ⟨fun p => ?_, fun p => ?_⟩)
  · obtain ⟨f, ρ', e1, n, p⟩ := p
    dsimp only at e1
    split at e1
    · split at e1
      · rename_i hl
        split at e1
        · rename_i hk; cases e1; exact ⟨hl, _, by assumption, _, rfl, by dsimp only; rw [hk]; exact p⟩
        · rename_i hk; cases e1; exact ⟨hl, _, by assumption, _, rfl, by dsimp only; rw [hk]; exact p⟩
      · cases e1
    · cases e1
  · unfold fdK at p; split at p
    · obtain ⟨l, _, hd, dr, rfl, p⟩ := p
      split at p
      · rename_i j e1
        exact ⟨.nx, _, by dsimp only; rw [hd]; dsimp only; rw [if_pos l, e1], trivial, p⟩
      · rename_i e1
        exact ⟨.nx, _, by dsimp only; rw [hd]; dsimp only; rw [if_pos l, e1], trivial, p⟩
    · exact p.elim
@[simp] theorem putD_nil {a b : D} : putD [] a b = a := rfl
@[simp] theorem putD_cons {j : Nat} {p : List Nat} {a : D} {o : Bool} {k : Kd} {xs : List D} : putD (j :: p) a (.nd o k xs) = .nd o k (xs.set j (putD p a (xs.getD j .non))) := rfl
/-! loops -/
/-- what a round ends in -/
def nextS (K : Env → Prop) (Q : Fl → Env → Prop) (f : Fl) (ρ : Env) (t : Tg K := .u) (u : Tg Q := .u) : Prop := match f with
  | .nx => K ρ
  | .ct => K ρ
  | .bk => Q .nx ρ
  | .rt d => Q (.rt d) ρ
  | .ex _ => False
@[simp] theorem nextS_nx {K : Env → Prop} : nextS K Q .nx ρ ↔ K ρ := Iff.rfl
@[simp] theorem nextS_ct {K : Env → Prop} : nextS K Q .ct ρ ↔ K ρ := Iff.rfl
@[simp] theorem nextS_bk {K : Env → Prop} : nextS K Q .bk ρ ↔ Q .nx ρ := Iff.rfl
@[simp] theorem nextS_rt {K : Env → Prop} {d : D} : nextS K Q (.rt d) ρ ↔ Q (.rt d) ρ := Iff.rfl
theorem forL_cons {g : D → Env → Option Env} {b : MS} {d : D} {ds : List D} {ρ1 : Env} (e : g d ρ = some ρ1) (h : wS b ρ1 fun f ρ2 => nextS (fun ρ2 => wS (forL g b ds) ρ2 Q) Q f ρ2) : wS (forL g b (d :: ds)) ρ Q := by
  obtain ⟨f, ρ2, e2, n, p⟩ := h
  have z : forL g b (d :: ds) ρ = (match g d ρ with
    | none => none
    | some ρ1 => match b ρ1 with
      | some (.nx, ρ2) => forL g b ds ρ2
      | some (.ct, ρ2) => forL g b ds ρ2
      | some (.bk, ρ2) => some (.nx, ρ2)
      | x => x) := rfl
  rw [e] at z
  dsimp only at z
  rw [e2] at z
  unfold wS
  rw [z]
  cases f with
  | nx => exact p
  | ct => exact p
  | bk => exact ⟨_, _, rfl, trivial, p⟩
  | rt d => exact ⟨_, _, rfl, trivial, p⟩
  | ex c => exact p.elim
@[simp] theorem forL_nil {g : D → Env → Option Env} {b : MS} : wS (forL g b []) ρ Q ↔ Q .nx ρ := ⟨fun ⟨_, _, e, _, p⟩ => by cases e; exact p, fun p => ⟨_, _, rfl, trivial, p⟩⟩
/-- a walk over what of xs has a picture -/
theorem forL_fm {α : Type} {g : D → Env → Option Env} {b : MS} {F : α → Option D} (I : Nat → Env → Prop) : ∀ (xs : List α) (k : Nat) {ρ : Env}, I k ρ →
    (∀ j x, xs[j]? = some x → ∀ ρ, I (k + j) ρ → match F x with
      | none => I (k + j + 1) ρ
      | some d => ∃ ρ1, g d ρ = some ρ1 ∧ wS b ρ1 fun f ρ2 => nextS (I (k + j + 1)) Q f ρ2) → (∀ ρ, I (k + xs.length) ρ → Q .nx ρ) → wS (forL g b (xs.filterMap F)) ρ Q
  | [], k, ρ, h, _, q => forL_nil.mpr (q ρ h)
  | x :: xs, k, ρ, h, s, q => by
    have s0 := s 0 x rfl ρ h
    have s' : ∀ j y, xs[j]? = some y → ∀ ρ, I (k + 1 + j) ρ → match F y with
      | none => I (k + 1 + j + 1) ρ
      | some d => ∃ ρ1, g d ρ = some ρ1 ∧ wS b ρ1 fun f ρ2 => nextS (I (k + 1 + j + 1)) Q f ρ2 := fun j y e ρ i => by
      have := s (j + 1) y (by simpa using e) ρ (by rw [show k + (j + 1) = k + 1 + j by omega]; exact i)
      rw [show k + (j + 1) = k + 1 + j by omega] at this
      exact this
    have q' : ∀ ρ, I (k + 1 + xs.length) ρ → Q .nx ρ := fun ρ i => q ρ (by rw [show k + (x :: xs).length = k + 1 + xs.length by simp; omega]; exact i)
    rw [List.filterMap_cons]
    cases e : F x with
    | none =>
      rw [e] at s0
      exact forL_fm I xs (k + 1) s0 s' q'
    | some d =>
      rw [e] at s0
      obtain ⟨ρ1, e1, h1⟩ := s0
      refine forL_cons e1 (h1.mono fun f ρ2 p => ?_)
      cases f with
      | nx => exact forL_fm I xs (k + 1) p s' q'
      | ct => exact forL_fm I xs (k + 1) p s' q'
      | _ => exact p
theorem forL_map {α : Type} {g : D → Env → Option Env} {b : MS} {F : α → D} (I : Nat → Env → Prop) (xs : List α) {ρ : Env} (h : I 0 ρ)
    (s : ∀ j x, xs[j]? = some x → ∀ ρ, I j ρ → ∃ ρ1, g (F x) ρ = some ρ1 ∧ wS b ρ1 fun f ρ2 => nextS (I (j + 1)) Q f ρ2) (q : ∀ ρ, I xs.length ρ → Q .nx ρ) : wS (forL g b (xs.map F)) ρ Q := by
  rw [← List.filterMap_eq_map]
  exact forL_fm (F := fun x => some (F x)) I xs 0 h (fun j x e ρ i => by rw [Nat.zero_add] at i ⊢; exact s j x e ρ i) (by rw [Nat.zero_add]; exact q)
theorem forL_range {g : D → Env → Option Env} {b : MS} {n : Nat} (I : Nat → Env → Prop) {ρ : Env} (h : I 0 ρ)
    (s : ∀ j, j < n → ∀ ρ, I j ρ → ∃ ρ1, g (.int (j : Nat)) ρ = some ρ1 ∧ wS b ρ1 fun f ρ2 => nextS (I (j + 1)) Q f ρ2) (q : ∀ ρ, I n ρ → Q .nx ρ) : wS (forL g b (rangeL 0 n)) ρ Q := by
  refine forL_map (F := fun i : Nat => D.int (0 + (i : Nat))) I (List.range n) h (fun j x e ρ i => ?_) (by simpa using q)
  obtain ⟨hj, e2⟩ := List.getElem?_eq_some_iff.mp e
  rw [List.getElem_range] at e2
  subst e2
  rw [Int.zero_add]
  exact s j (by simpa using hj) ρ i
@[simp] theorem wM_seq1 {f : D → Option (List D)} {P : List D → Env → Prop} : wM (mSeq1 f ma) ρ P ↔ wM ma ρ fun d ρ1 => exO (f (frz d)) fun ds => P ds ρ1 := by rw [mSeq1, wM_bind]; exact wM_cg fun a ρ1 => wM_lift
@[simp] theorem wM_args1 {f : List D → Option (List D)} {mr : M (List Arg)} {P : List D → Env → Prop} : wM (mArgs1 f mr) ρ P ↔ wM mr ρ fun as ρ1 => exO (tmps as) fun ds => exO (f (ds.map frz)) fun xs => P xs ρ1 := by
  rw [mArgs1, wM_bind]
  constructor <;> refine fun h => h.mono fun as ρ1 p => ?_
  · obtain ⟨a, e, p⟩ := wM_lift.mp p
    cases q : tmps as with
    | none => rw [q] at e; cases e
    | some ds => rw [q] at e; exact ⟨ds, rfl, a, e, p⟩
  · obtain ⟨ds, e, d, e2, p⟩ := p
    exact wM_lift.mpr ⟨d, by rw [e]; exact e2, p⟩
@[simp] theorem fRng1_int {j : Int} : fRng1 [.int j] = if -(2 ^ 62) ≤ j ∧ j < 2 ^ 62 then some (rangeL 0 j.toNat) else none := rfl
/-! comprehensions -/
/-- one list of what comes of xs, by F -/
theorem lcL_fm {α : Type} {g : D → Env → Option Env} {mt : M Bool} {vs : List Nat} {enc : α → D} {ρw : Env} {F : α → Option D} : ∀ (xs : List α) (acc : List D),
    (∀ x ∈ xs, ∃ ρ1, g (enc x) ρw = some ρ1 ∧ wM mt ρ1 fun b ρ2 => match F x with
      | some y => b = true ∧ wM me ρ2 fun z ρ3 => z = y ∧ wipeE ρ3 vs = ρw
      | none => b = false ∧ wipeE ρ2 vs = ρw) → acc.length + xs.length ≤ 16777216 → lcL g mt me vs (xs.map enc) ρw acc = some (acc ++ xs.filterMap F, ρw)
  | [], acc, _, _ => by simp [lcL]
  | x :: xs, acc, h, l => by
    obtain ⟨ρ1, e1, b, ρ2, e2, p⟩ := h x (by simp)
    have t : ∀ acc' : List D, acc'.length ≤ acc.length + 1 → lcL g mt me vs (xs.map enc) ρw acc' = some (acc' ++ xs.filterMap F, ρw) := fun acc' l' => lcL_fm xs acc' (fun y hy => h y (by simp [hy])) (by simp at l; omega)
    rw [List.map_cons, List.filterMap_cons]
    unfold lcL
    rw [e1]
    dsimp only
    rw [e2]
    cases q : F x with
    | none =>
      rw [q] at p
      obtain ⟨rfl, hw⟩ := p
      dsimp only
      rw [hw]
      exact t acc (by omega)
    | some y =>
      rw [q] at p
      obtain ⟨rfl, z, ρ3, e3, rfl, hw⟩ := p
      dsimp only
      rw [e3]
      dsimp only
      rw [if_pos (by simp at l; omega), hw]
      have := t (acc ++ [z]) (by simp)
      rw [this]
      simp
@[simp] theorem wM_lc {mi : M (List D)} {g : D → Env → Option Env} {mt : M Bool} {vs : List Nat} {P : D → Env → Prop} : wM (mLc mi g mt me vs) ρ P ↔ wM mi ρ fun ds ρ1 => okOwn ρ1 vs = true ∧ exO (lcL g mt me vs ds (wipeE ρ1 vs) []) fun p => P (.nd true .lst p.1) (restE ρ1 vs p.2) := by
  rw [mLc, wM_bind]
  constructor <;> refine fun h => h.mono fun ds ρ1 p => ?_
  · obtain ⟨a, ρ', e, p⟩ := p
    dsimp only at e
    split at e
    · rename_i ok
      split at e
      · rename_i ys ρ2 e2; cases e; exact ⟨ok, _, e2, p⟩
      · cases e
    · cases e
  · obtain ⟨ok, ⟨ys, ρ2⟩, e, p⟩ := p
    exact ⟨_, _, by dsimp only; rw [if_pos ok, e], p⟩
theorem okOwn_cons {v : Nat} {vs : List Nat} : okOwn ρ (v :: vs) = ((match ρ[v]? with
  | some (some d) => isF d
  | some none => true
  | none => false) && okOwn ρ vs) := rfl
theorem wipeE_cons {v : Nat} {vs : List Nat} : wipeE ρ (v :: vs) = (wipeE ρ vs).set v none := rfl
theorem restE_cons {ρ0 : Env} {v : Nat} {vs : List Nat} : restE ρ0 (v :: vs) ρ = (restE ρ0 vs ρ).set v ((ρ0[v]?).getD none) := rfl
@[simp] theorem okOwn_nil : okOwn ρ [] = true := rfl
@[simp] theorem wipeE_nil : wipeE ρ [] = ρ := rfl
@[simp] theorem restE_nil {ρ0 : Env} : restE ρ0 [] ρ = ρ := rfl
theorem exO_of {α : Type} {o : Option α} {a : α} {K : α → Prop} (e : o = some a) (k : K a) : exO o K := ⟨a, e, k⟩
theorem lcL_mapT {α : Type} {g : D → Env → Option Env} {mt : M Bool} {vs : List Nat} {enc : α → D} {ρw : Env} {F : α → D} (xs : List α)
    (h : ∀ x ∈ xs, ∃ ρ1, g (enc x) ρw = some ρ1 ∧ wM mt ρ1 fun b ρ2 => b = true ∧ wM me ρ2 fun z ρ3 => z = F x ∧ wipeE ρ3 vs = ρw) (l : xs.length ≤ 16777216) : lcL g mt me vs (xs.map enc) ρw [] = some (xs.map F, ρw) := by
  have := lcL_fm (F := fun x => some (F x)) xs [] (g := g) (mt := mt) (me := me) (vs := vs) (enc := enc) (ρw := ρw) h (by simpa using l)
  rw [this, List.filterMap_eq_map']
  simp
theorem lcL_rangeT {g : D → Env → Option Env} {mt : M Bool} {vs : List Nat} {ρw : Env} {n : Nat} {F : Nat → D}
    (h : ∀ x < n, ∃ ρ1, g (.int (x : Nat)) ρw = some ρ1 ∧ wM mt ρ1 fun b ρ2 => b = true ∧ wM me ρ2 fun z ρ3 => z = F x ∧ wipeE ρ3 vs = ρw) (l : n ≤ 16777216) : lcL g mt me vs (rangeL 0 n) ρw [] = some ((List.range n).map F, ρw) :=
  lcL_mapT (enc := fun i : Nat => D.int (0 + (i : Nat))) (List.range n) (fun x hx => by rw [Int.zero_add]; exact h x (by simpa using hx)) (by simpa using l)
theorem lcL_rangeF {g : D → Env → Option Env} {mt : M Bool} {vs : List Nat} {ρw : Env} {n : Nat} {F : Nat → Option D}
    (h : ∀ x < n, ∃ ρ1, g (.int (x : Nat)) ρw = some ρ1 ∧ wM mt ρ1 fun b ρ2 => match F x with
      | some y => b = true ∧ wM me ρ2 fun z ρ3 => z = y ∧ wipeE ρ3 vs = ρw
      | none => b = false ∧ wipeE ρ2 vs = ρw) (l : n ≤ 16777216) : lcL g mt me vs (rangeL 0 n) ρw [] = some ((List.range n).filterMap F, ρw) := by
  have := lcL_fm (enc := fun i : Nat => D.int (0 + (i : Nat))) (F := F) (List.range n) [] (g := g) (mt := mt) (me := me) (vs := vs) (ρw := ρw) (fun x hx => by rw [Int.zero_add]; exact h x (by simpa using hx)) (by simpa using l)
  exact this
/-! a function's run -/
def rtP (np : Nat) (P : D → List (Option D) → Prop) (f : Fl) (ρ : Env) (t : Tg P := .u) : Prop := match f with
  | .nx => P .non (ρ.take np)
  | .rt d => P d (ρ.take np)
  | _ => False
@[simp] theorem rtP_nx {np : Nat} {P : D → List (Option D) → Prop} : rtP np P .nx ρ ↔ P .non (ρ.take np) := Iff.rfl
@[simp] theorem rtP_rt {np : Nat} {P : D → List (Option D) → Prop} {d : D} : rtP np P (.rt d) ρ ↔ P d (ρ.take np) := Iff.rfl
theorem wF_run {n np : Nat} {P : D → List (Option D) → Prop} (h : wS m (ds.map some ++ List.replicate (n - ds.length) none) fun f ρ => rtP np P f ρ) : wF (runF n m np) ds P := by
  obtain ⟨f, ρ', e, x, p⟩ := h
  unfold wF runF
  rw [e]
  cases f with
  | nx => exact ⟨_, _, rfl, p⟩
  | rt d => exact ⟨_, _, rfl, p⟩
  | _ => exact p.elim
end
/-! what is built in, over data -/
section
variable {i j : Int} {n : Nat} {xs ys : List D} {o : Bool} {k : Kd}
@[simp] theorem frz_int : frz (.int i) = .int i := by simp [frz]
@[simp] theorem frz_non : frz .non = .non := by simp [frz]
@[simp] theorem frz_bl {b : Bool} : frz (.bl b) = .bl b := by simp [frz]
@[simp] theorem frz_str {b : Str} : frz (.str b) = .str b := by simp [frz]
@[simp] theorem frz_nd : frz (.nd o k xs) = .nd false k (frzL xs) := by simp [frz]
@[simp] theorem frzL_nil : frzL [] = [] := by simp [frzL]
@[simp] theorem frzL_cons {x : D} : frzL (x :: xs) = frz x :: frzL xs := by simp [frzL]
@[simp] theorem frzL_map {α : Type} {f : α → D} {l : List α} : frzL (l.map f) = l.map fun x => frz (f x) := by
  induction l with
  | nil => simp
  | cons x l ih => simp [ih]
@[simp] theorem frzL_append {l l' : List D} : frzL (l ++ l') = frzL l ++ frzL l' := by
  induction l with
  | nil => simp
  | cons x l ih => simp [ih]
@[simp] theorem frzL_take {l : List D} {n : Nat} : frzL (l.take n) = (frzL l).take n := by simp [frzL_eq]
@[simp] theorem frzL_drop {l : List D} {n : Nat} : frzL (l.drop n) = (frzL l).drop n := by simp [frzL_eq]
@[simp] theorem frzL_reverse {l : List D} : frzL l.reverse = (frzL l).reverse := by simp [frzL_eq]
theorem frzL_id {l : List D} (h : ∀ x ∈ l, frz x = x) : frzL l = l := by
  induction l with
  | nil => simp
  | cons x l ih => simp [h x (by simp), ih fun y hy => h y (by simp [hy])]
@[simp] theorem frzL_length {l : List D} : (frzL l).length = l.length := by
  induction l with
  | nil => simp
  | cons x l ih => simp [ih]
@[simp] theorem fAdd_int : fAdd (.int i) (.int j) = some (.int (i + j)) := rfl
@[simp] theorem fSub_int : fSub (.int i) (.int j) = some (.int (i - j)) := rfl
@[simp] theorem fMul_int : fMul (.int i) (.int j) = if mulOk i j = true then some (.int (i * j)) else none := rfl
@[simp] theorem fDiv_int : fDiv (.int i) (.int j) = if divOk j = true then some (.int (i / j)) else none := rfl
@[simp] theorem fMod_int : fMod (.int i) (.int j) = if 0 < j then some (.int (i % j)) else none := rfl
@[simp] theorem fPow_int : fPow (.int i) (.int j) = if 0 ≤ j ∧ j ≤ 1000000 ∧ i.natAbs < 2 ^ 64 then some (.int (i ^ j.toNat)) else none := rfl
@[simp] theorem fLt_int : fLt (.int i) (.int j) = some (.bl (decide (i < j))) := rfl
@[simp] theorem fLe_int : fLe (.int i) (.int j) = some (.bl (decide (i ≤ j))) := rfl
@[simp] theorem fGt_int : fGt (.int i) (.int j) = some (.bl (decide (j < i))) := rfl
@[simp] theorem fGe_int : fGe (.int i) (.int j) = some (.bl (decide (j ≤ i))) := rfl
@[simp] theorem fNeg_int : fNeg (.int i) = some (.int (-i)) := rfl
@[simp] theorem fEq_int : fEq (.int i) (.int j) = some (.bl (decide (i = j))) := by simp [fEq, eqF, toV, scal]
@[simp] theorem fNe_int : fNe (.int i) (.int j) = some (.bl (!decide (i = j))) := by simp [fNe, eqF, toV, scal]
@[simp] theorem isNon_int : isNon (.int i) = false := rfl
@[simp] theorem isNon_non : isNon .non = true := rfl
@[simp] theorem isNon_nd : isNon (.nd o k xs) = false := rfl
@[simp] theorem fIsN_some {d : D} : fIsN d = some (.bl (isNon d)) := rfl
@[simp] theorem fNotN_some {d : D} : fNotN d = some (.bl (!isNon d)) := rfl
@[simp] theorem fLen_nd : fLen (.nd o k xs) = if isSeq k = true then some (.int xs.length) else none := rfl
@[simp] theorem isSeq_lst : isSeq .lst = true := rfl
@[simp] theorem isSeq_ro : isSeq .ro = true := rfl
@[simp] theorem isSeq_tup : isSeq .tup = true := rfl
@[simp] theorem isSeq_rt : isSeq .rt = true := rfl
@[simp] theorem fAbs_int : fAbs [.int i] = some (.int (if i < 0 then -i else i)) := rfl
@[simp] theorem fInt_int : fInt [.int i] = some (.int i) := rfl
@[simp] theorem fInt_bl {b : Bool} : fInt [.bl b] = some (.int (if b then 1 else 0)) := rfl
@[simp] theorem fMax2_int : fMax2 [.int i, .int j] = some (.int (if j > i then j else i)) := rfl
@[simp] theorem fMin2_int : fMin2 [.int i, .int j] = some (.int (if j < i then j else i)) := rfl
@[simp] theorem fCat_nd : fCat (.nd false .lst xs) (.nd false .lst ys) = if xs.length + ys.length ≤ 16777216 then some (.nd true .lst (xs ++ ys)) else none := rfl
@[simp] theorem fCatT_nd : fCatT (.nd false .tup xs) (.nd false .tup ys) = if xs.length + ys.length ≤ 16777216 then some (.nd false .tup (xs ++ ys)) else none := rfl
@[simp] theorem fIx_nd : fIx (.nd false k xs) (.int i) = if isSeq k = true then (ixN xs.length i).bind (xs[·]?) else none := rfl
@[simp] theorem seqOf_lst : seqOf (.nd false .lst xs) = some xs := rfl
@[simp] theorem seqOf_ro : seqOf (.nd false .ro xs) = some xs := rfl
@[simp] theorem fRevL_lst : fRevL (.nd false .lst xs) = some (.nd true .lst xs.reverse) := rfl
@[simp] theorem fCutL_lst {lo hi : Option Int} : fCutL (.nd false .lst xs) lo hi = some (.nd true .lst (cutD xs lo hi)) := rfl
@[simp] theorem fList_nd : fList (.nd o k xs) = if isSeq k = true ∧ allF xs = true then some (.nd true .lst xs) else none := rfl
theorem allF_map {α : Type} {f : α → D} {l : List α} (h : ∀ x ∈ l, isF (f x) = true) : allF (l.map f) = true := by simpa [allF] using h
@[simp] theorem isF_int : isF (.int i) = true := rfl
@[simp] theorem isF_non : isF .non = true := rfl
@[simp] theorem isF_bl {b : Bool} : isF (.bl b) = true := rfl
@[simp] theorem isF_str {b : Str} : isF (.str b) = true := rfl
@[simp] theorem isF_nd : isF (.nd o k xs) = !o := rfl
@[simp] theorem isFlat_int : isFlat (.int i) = true := rfl
@[simp] theorem isFlat_bl {b : Bool} : isFlat (.bl b) = true := rfl
@[simp] theorem isFlat_non : isFlat .non = true := rfl
theorem ixN_nat {k : Nat} (h : k < n) : ixN n (k : Int) = some k := by
  unfold ixN; rw [if_pos (by omega), if_pos (by omega)]; simp
theorem ixN_pos (h : 0 ≤ i) (h2 : i < n) : ixN n i = some i.toNat := by
  unfold ixN; rw [if_pos h, if_pos h2]
theorem mulOk_l (h : i.natAbs < 2 ^ 64) : mulOk i j = true := by unfold mulOk; simp; left; left; omega
theorem mulOk_r (h : j.natAbs < 2 ^ 64) : mulOk i j = true := by unfold mulOk; simp; left; right; omega
theorem log2_lt {a b : Nat} (h : a < 2 ^ b) (hb : 0 < b) : a.log2 < b := by
  by_cases z : a = 0
  · subst z; simpa using hb
  · exact (Nat.log2_lt z).mpr h
theorem divOk_small (h : 0 < j) (h2 : j.natAbs < 2 ^ 9000) : divOk j = true := by
  unfold divOk; simp only [Bool.and_eq_true, decide_eq_true_eq]; exact ⟨h, log2_lt h2 (by decide)⟩
end
end Pv

/-! Pw2 -/
set_option Elab.async false
set_option linter.all false
set_option maxRecDepth 100000
set_option maxHeartbeats 1000000
namespace Pv
open PySem L2
section
variable {α β : Type} {ρ : Env} {m m1 m2 : MS} {ma mb mi me : M D} {mp : M PR} {Q : Fl → Env → Prop} {fn : Fn} {ds : List D}
@[simp] theorem wM_tru {P : Bool → Env → Prop} : wM (mTru mp) ρ P ↔ wM mp ρ fun a ρ1 => exO (truD a.tree) fun k => P k ρ1 := by rw [mTru, wM_bind]; exact wM_cg fun a ρ1 => wM_lift
@[simp] theorem wM_pm {pm : ∀ α : Type, List α → List α} {mr : M (List Arg)} {P : List Arg → Env → Prop} : wM (mPm pm mr) ρ P ↔ wM mr ρ fun as ρ1 => P (pm Arg as) ρ1 := by rw [mPm, wM_bind]; exact wM_cg fun a ρ1 => wM_ret
def rvK (R : Nat) (P : Env → Prop) (a : PR) (ρ : Env) (t : Tg P := .u) : Prop := match a with
  | .pl p (.nd true .lst xs) => exO ρ[R]? fun o => exO o fun dr => P (ρ.set R (some (putD p (.nd true .lst xs.reverse) dr)))
  | _ => False
@[simp] theorem rvK_pl {R : Nat} {P : Env → Prop} {p : List Nat} {xs : List D} : rvK R P (.pl p (.nd true .lst xs)) ρ ↔ exO ρ[R]? fun o => exO o fun dr => P (ρ.set R (some (putD p (.nd true .lst xs.reverse) dr))) := Iff.rfl
@[simp] theorem wM_revM {R : Nat} {P : D → Env → Prop} : wM (mRevM R mp) ρ P ↔ wM mp ρ fun a ρ1 => rvK R (P .non) a ρ1 := by
  rw [mRevM, wM_bind]
  refine wM_cg fun a ρ1 => ⟨fun p => ?_, fun p => ?_⟩
  · obtain ⟨d, ρ', e, p⟩ := p
    dsimp only at e
    split at e
    · cases e; exact ⟨_, by assumption, _, rfl, p⟩
    · cases e
  · unfold rvK at p; split at p
    · obtain ⟨_, hd, dr, rfl, p⟩ := p
      exact ⟨_, _, by dsimp only; rw [hd], p⟩
    · exact p.elim
def ppK (R : Nat) (P : D → Env → Prop) (a : PR) (ρ : Env) (t : Tg P := .u) : Prop := match a with
  | .pl p (.nd true .lst xs) => exO (xs[xs.length - 1]?) fun y => exO ρ[R]? fun o => exO o fun dr => P y (ρ.set R (some (putD p (.nd true .lst xs.dropLast) dr)))
  | _ => False
@[simp] theorem ppK_pl {R : Nat} {P : D → Env → Prop} {p : List Nat} {xs : List D} : ppK R P (.pl p (.nd true .lst xs)) ρ ↔ exO (xs[xs.length - 1]?) fun y => exO ρ[R]? fun o => exO o fun dr => P y (ρ.set R (some (putD p (.nd true .lst xs.dropLast) dr))) := Iff.rfl
@[simp] theorem wM_pop {R : Nat} {P : D → Env → Prop} : wM (mPop R mp) ρ P ↔ wM mp ρ fun a ρ1 => ppK R P a ρ1 := by
  rw [mPop, wM_bind]
  refine wM_cg fun a ρ1 => ⟨fun p => ?_, fun p => ?_⟩
  · obtain ⟨d, ρ', e, p⟩ := p
    dsimp only at e
    split at e
    · split at e
      · cases e; exact ⟨_, by assumption, _, by assumption, _, rfl, p⟩
      · cases e
    · cases e
  · unfold ppK at p; split at p
    · obtain ⟨y, e1, _, hd, dr, rfl, p⟩ := p
      exact ⟨_, _, by dsimp only; rw [hd]; dsimp only; rw [e1], p⟩
    · exact p.elim
def paK (R : Nat) (P : D → Env → Prop) (i : D) (a : PR) (ρ : Env) (t : Tg P := .u) : Prop := match a, i with
  | .pl p (.nd true .lst xs), .int i => (-(2 ^ 63) ≤ i ∧ i < 2 ^ 63) ∧ exO (seqIndex? i xs.length) fun k => exO xs[k]? fun y => exO ρ[R]? fun o => exO o fun dr => P y (ρ.set R (some (putD p (.nd true .lst (xs.eraseIdx k)) dr)))
  | _, _ => False
@[simp] theorem paK_pl {R : Nat} {P : D → Env → Prop} {p : List Nat} {xs : List D} {i : Int} : paK R P (.int i) (.pl p (.nd true .lst xs)) ρ ↔ (-(2 ^ 63) ≤ i ∧ i < 2 ^ 63) ∧ exO (seqIndex? i xs.length) fun k => exO xs[k]? fun y => exO ρ[R]? fun o => exO o fun dr => P y (ρ.set R (some (putD p (.nd true .lst (xs.eraseIdx k)) dr))) := Iff.rfl
@[simp] theorem wM_popAt {R : Nat} {P : D → Env → Prop} : wM (mPopAt R mp mi) ρ P ↔ wM mp ρ fun a ρ1 => a.isOwn = true ∧ wM mi ρ1 fun i ρ2 => paK R P i a ρ2 := by
  rw [mPopAt, wM_bind]
  refine wM_cg fun a ρ1 => ⟨fun p => ?_, fun p => ?_⟩
  · obtain ⟨d, ρ', e, p⟩ := p
    unfold M.chk at e; split at e
    · rename_i ho
      refine ⟨ho, ?_⟩
      have z : wM _ ρ1 P := ⟨d, ρ', e, p⟩
      rw [wM_bind] at z
      refine z.mono fun i ρ2 pp => ?_
      obtain ⟨r, ρ', e, p⟩ := pp
      dsimp only at e
      split at e
      · split at e
        · rename_i hb
          split at e
          · split at e
            · cases e; exact ⟨hb, _, by assumption, _, by assumption, _, by assumption, _, rfl, p⟩
            · cases e
          · cases e
        · cases e
      · cases e
    · cases e
  · obtain ⟨ho, p⟩ := p
    obtain ⟨i, ρ2, e1, p⟩ := p
    unfold paK at p; split at p
    · obtain ⟨hb, k, e2, y, e3, _, hd, dr, rfl, p⟩ := p
      refine ⟨y, _, ?_, p⟩
      unfold M.chk M.bind
      rw [if_pos ho, e1]
      dsimp only
      rw [hd]
      dsimp only
      rw [if_pos hb, e2]
      dsimp only
      rw [e3]
    · exact p.elim
/-! exceptions: ends of any kind -/
def wX (m : MS) (ρ : Env) (Q : Fl → Env → Prop) (t : Tg Q := .u) : Prop := ∃ f ρ', m ρ = some (f, ρ') ∧ Q f ρ'
def wFx (fn : Fn) (ds : List D) (P : Rs D → List (Option D) → Prop) (t : Tg P := .u) : Prop := ∃ r outs, fn ds = some (r, outs) ∧ P r outs
theorem wX.mono {P : Fl → Env → Prop} (h : wX m ρ P) (k : ∀ a ρ', P a ρ' → Q a ρ') : wX m ρ Q := let ⟨a, ρ', e, p⟩ := h; ⟨a, ρ', e, k _ _ p⟩
theorem wS.x (h : wS m ρ Q) : wX m ρ Q := let ⟨a, ρ', e, _, p⟩ := h; ⟨a, ρ', e, p⟩
theorem wX_seq (h : wX m1 ρ fun f ρ1 => sqK (fun ρ1 => wX m2 ρ1 Q) Q f ρ1) : wX (mSeq m1 m2) ρ Q := by
  obtain ⟨f, ρ1, e, p⟩ := h
  cases f with
  | nx => obtain ⟨f, ρ', e2, p⟩ := p; exact ⟨f, ρ', by unfold mSeq; rw [e]; exact e2, p⟩
  | _ => exact ⟨_, ρ1, by unfold mSeq; rw [e], p⟩
theorem wX_ex {c : Nat} (h : Q (.ex c) ρ) : wX (fun ρ => some (.ex c, ρ)) ρ Q := ⟨_, _, rfl, h⟩
theorem wX_if {c : M Bool} (h : wM c ρ fun x ρ1 => (x = true → wX m1 ρ1 Q) ∧ (x = false → wX m2 ρ1 Q)) : wX (mIf c m1 m2) ρ Q := by
  obtain ⟨b, ρ1, e, h1, h2⟩ := h
  cases b with
  | true => obtain ⟨f, ρ', e2, p⟩ := h1 rfl; exact ⟨f, ρ', by unfold mIf mThen; rw [e]; exact e2, p⟩
  | false => obtain ⟨f, ρ', e2, p⟩ := h2 rfl; exact ⟨f, ρ', by unfold mIf mThen; rw [e]; exact e2, p⟩
/-- y = f(..), f may let an exception out -/
theorem wX_call {fx : List Bool} {mr : M (List Arg)} {g : D → Env → Option Env} (h : wM mr ρ fun as ρ1 => exO (takeA as ρ1) fun p => wFx fn p.1 fun r outs => match r with
    | .ok d => exO (g d (putA as fx outs p.2)) fun ρ2 => Q .nx ρ2
    | .ex c => Q (.ex c) (putA as fx outs p.2)) : wX (mAsg (mCall fx fn mr) g) ρ Q := by
  obtain ⟨as, ρ1, e, ⟨ds', ρ2⟩, e2, r, outs, e3, p⟩ := h
  have z : mCall fx fn mr ρ = some (r, putA as fx outs ρ2) := by
    unfold mCall M.bind
    rw [e]
    dsimp only
    rw [e2]
    dsimp only at e3 ⊢
    rw [e3]
  cases r with
  | ok d =>
    obtain ⟨ρ3, e4, q⟩ := p
    exact ⟨.nx, ρ3, by unfold mAsg mThen; rw [z]; dsimp only at e4 ⊢; rw [e4], q⟩
  | ex c => exact ⟨_, _, by unfold mAsg mThen; rw [z], p⟩
theorem wS_try {b : MS} {hs : List Hd} (h : wX b ρ fun f ρ1 => match f with
    | .ex c => wS (hdl hs c) ρ1 Q
    | f => Q f ρ1) : wS (mTry b hs) ρ Q := by
  obtain ⟨f, ρ1, e, p⟩ := h
  cases f with
  | ex c => obtain ⟨f, ρ', e2, n, q⟩ := p; exact ⟨f, ρ', by unfold mTry; rw [e]; exact e2, n, q⟩
  | nx => exact ⟨.nx, ρ1, by unfold mTry; rw [e], trivial, p⟩
  | bk => exact ⟨.bk, ρ1, by unfold mTry; rw [e], trivial, p⟩
  | ct => exact ⟨.ct, ρ1, by unfold mTry; rw [e], trivial, p⟩
  | rt d => exact ⟨.rt d, ρ1, by unfold mTry; rw [e], trivial, p⟩
def rtX (np : Nat) (P : Rs D → List (Option D) → Prop) (f : Fl) (ρ : Env) (t : Tg P := .u) : Prop := match f with
  | .nx => P (.ok .non) (ρ.take np)
  | .rt d => P (.ok d) (ρ.take np)
  | .ex c => P (.ex c) (ρ.take np)
  | _ => False
theorem wFx_run {n np : Nat} {P : Rs D → List (Option D) → Prop} (h : wX m (ds.map some ++ List.replicate (n - ds.length) none) fun f ρ => rtX np P f ρ) : wFx (runF n m np) ds P := by
  obtain ⟨f, ρ', e, p⟩ := h
  unfold wFx runF
  rw [e]
  cases f with
  | nx => exact ⟨_, _, rfl, p⟩
  | rt d => exact ⟨_, _, rfl, p⟩
  | ex c => exact ⟨_, _, rfl, p⟩
  | _ => exact p.elim
/-! while -/
theorem whL_ok {c : M Bool} {b : MS} (I : Nat → Env → Prop) : ∀ (fuel n : Nat) {ρ : Env}, n < fuel → I n ρ →
    (∀ n ρ, I n ρ → wM c ρ fun x ρ1 => (x = true → wS b ρ1 fun f ρ2 => nextS (fun ρ3 => ∃ k, k < n ∧ I k ρ3) Q f ρ2) ∧ (x = false → Q .nx ρ1)) → wS (whL c b fuel) ρ Q
  | 0, n, ρ, h, _, _ => (Nat.not_lt_zero _ h).elim
  | fuel + 1, n, ρ, h, i, s => by
    obtain ⟨x, ρ1, e, h1, h2⟩ := s n ρ i
    have z : whL c b (fuel + 1) ρ = (match c ρ with
      | some (.ok true, ρ1) => (match b ρ1 with
        | some (.nx, ρ2) => whL c b fuel ρ2
        | some (.ct, ρ2) => whL c b fuel ρ2
        | some (.bk, ρ2) => some (.nx, ρ2)
        | x => x)
      | some (.ok false, ρ1) => some (.nx, ρ1)
      | some (.ex c, ρ1) => some (.ex c, ρ1)
      | none => none) := rfl
    unfold wS
    rw [z, e]
    cases x with
    | false => exact ⟨.nx, ρ1, rfl, trivial, h2 rfl⟩
    | true =>
      obtain ⟨f, ρ2, e2, nx, p⟩ := h1 rfl
      dsimp only
      rw [e2]
      cases f with
      | nx => obtain ⟨k, hk, i'⟩ := p; exact whL_ok I fuel k (by omega) i' s
      | ct => obtain ⟨k, hk, i'⟩ := p; exact whL_ok I fuel k (by omega) i' s
      | bk => exact ⟨.nx, ρ2, rfl, trivial, p⟩
      | rt d => exact ⟨.rt d, ρ2, rfl, trivial, p⟩
      | ex c => exact nx.elim
end
end Pv

/-! Pw3 -/
set_option Elab.async false
set_option linter.all false
set_option maxRecDepth 100000
set_option maxHeartbeats 1000000
namespace Pv
open PySem L2
section
variable {α : Type} {ρ : Env} {m : M α} {ok : α → Bool}
@[simp] theorem wM_br {P : α → Env → Prop} : wM (mBr ok m) ρ P ↔ wM m (frzE ρ) fun a _ => ok a = true ∧ P a ρ := by
  constructor
  · rintro ⟨a, ρ', e, p⟩
    unfold mBr at e
    cases q : m (frzE ρ) with
    | none => rw [q] at e; cases e
    | some r =>
      obtain ⟨r, ρ1⟩ := r
      rw [q] at e
      cases r with
      | ex c => cases e
      | ok a' =>
        dsimp only at e
        split at e
        · rename_i h; cases e; exact ⟨a, ρ1, q, h, p⟩
        · cases e
  · rintro ⟨a, ρ1, e, h, p⟩
    exact ⟨a, ρ, by unfold mBr; rw [e]; exact if_pos h, p⟩
@[simp] theorem frzE_nil : frzE [] = [] := rfl
@[simp] theorem frzE_cons {o : Option D} : frzE (o :: ρ) = o.map frz :: frzE ρ := rfl
@[simp] theorem okB_int {i : Int} : okB (.int i) = true := by simp [okB]
@[simp] theorem okB_non : okB .non = true := by simp [okB]
@[simp] theorem okB_bl {b : Bool} : okB (.bl b) = true := by simp [okB]
@[simp] theorem okB_str {b : Str} : okB (.str b) = true := by simp [okB]
@[simp] theorem isImm_int {i : Int} : isImm (.int i) = true := by simp [isImm]
@[simp] theorem isImm_non : isImm .non = true := by simp [isImm]
@[simp] theorem isImm_bl {b : Bool} : isImm (.bl b) = true := by simp [isImm]
@[simp] theorem isImm_str {b : Str} : isImm (.str b) = true := by simp [isImm]
@[simp] theorem isImm_tup {xs : List D} : isImm (.nd false .tup xs) = isImmL xs := by simp [isImm]
@[simp] theorem okB_tup {xs : List D} : okB (.nd false .tup xs) = isImmL xs := by simp [okB]
@[simp] theorem okB_own {k : Kd} {xs : List D} : okB (.nd true k xs) = okBL xs := by simp [okB]
@[simp] theorem isImmL_nil : isImmL [] = true := rfl
@[simp] theorem isImmL_cons {x : D} {xs : List D} : isImmL (x :: xs) = (isImm x && isImmL xs) := rfl
@[simp] theorem okBL_nil : okBL [] = true := rfl
@[simp] theorem okBL_cons {x : D} {xs : List D} : okBL (x :: xs) = (okB x && okBL xs) := rfl
theorem isImmL_all {xs : List D} (h : ∀ x ∈ xs, isImm x = true) : isImmL xs = true := by
  induction xs with
  | nil => rfl
  | cons x xs ih => rw [isImmL_cons, h x (by simp), ih fun y hy => h y (by simp [hy])]; rfl
theorem okBL_all {xs : List D} (h : ∀ x ∈ xs, okB x = true) : okBL xs = true := by
  induction xs with
  | nil => rfl
  | cons x xs ih => rw [okBL_cons, h x (by simp), ih fun y hy => h y (by simp [hy])]; rfl
end
end Pv

/-! KtA -/
set_option Elab.async false
set_option linter.all false
set_option maxRecDepth 100000
namespace Kt
/-! tables of bounds -/
abbrev Tab := Nat → Nat → Option Int
def low (old cd : Option Int) : Option Int := match cd with
  | none => old
  | some w => match old with
    | none => some w
    | some z => if w < z then some w else some z
def oadd : Option Int → Option Int → Option Int
  | some x, some y => some (x + y)
  | _, _ => none
def stp (k : Nat) (T : Tab) : Tab := fun a b => low (T a b) (oadd (T a k) (T k b))
def Bd (T : Tab) (a b : Nat) (c : Int) : Prop := ∃ x, T a b = some x ∧ x ≤ c
variable {T T' R : Tab} {n k a b u v : Nat} {c x y : Int} {f : Nat → Int} {o w : Option Int}
theorem bd_low : (∃ x, low o w = some x ∧ x ≤ c) ↔ (∃ x, o = some x ∧ x ≤ c) ∨ (∃ x, w = some x ∧ x ≤ c) := by
  cases w with
  | none => simp [low]
  | some w =>
    cases o with
    | none => simp [low]
    | some z =>
      by_cases h : w < z
      · simp [low, h]; omega
      · simp [low, h]; omega
theorem Bd.mono (h : Bd T a b x) (l : x ≤ y) : Bd T a b y := let ⟨z, e, p⟩ := h; ⟨z, e, by omega⟩
theorem bd_oadd : (∃ z, oadd o w = some z ∧ z ≤ c) ↔ ∃ x y, (∃ z, o = some z ∧ z ≤ x) ∧ (∃ z, w = some z ∧ z ≤ y) ∧ x + y ≤ c := by
  constructor
  · rintro ⟨z, e, l⟩
    cases o with
    | none => cases e
    | some p =>
      cases w with
      | none => cases e
      | some q => cases e; exact ⟨p, q, ⟨p, rfl, by omega⟩, ⟨q, rfl, by omega⟩, l⟩
  · rintro ⟨x, y, ⟨p, rfl, h1⟩, ⟨q, rfl, h2⟩, l⟩
    exact ⟨p + q, rfl, by omega⟩
theorem bd_stp : Bd (stp k T) a b c ↔ Bd T a b c ∨ ∃ x y, Bd T a k x ∧ Bd T k b y ∧ x + y ≤ c := by
  unfold Bd stp; rw [bd_low, bd_oadd]
theorem tab_ext (h : ∀ a b c, Bd T a b c ↔ Bd T' a b c) : T = T' := by
  funext a b
  have h := h a b
  unfold Bd at h
  cases e : T a b with
  | none =>
    cases e' : T' a b with
    | none => rfl
    | some y => rw [e, e'] at h; have := (h y).mpr ⟨y, rfl, by omega⟩; simp at this
  | some x =>
    cases e' : T' a b with
    | none => rw [e, e'] at h; have := (h x).mp ⟨x, rfl, by omega⟩; simp at this
    | some y =>
      rw [e, e'] at h
      have h1 := (h x).mp ⟨x, rfl, by omega⟩
      have h2 := (h y).mpr ⟨y, rfl, by omega⟩
      simp at h1 h2
      congr 1; omega
/-- no negative diagonal -/
def nn (n : Nat) (T : Tab) : Prop := ∀ a, a < n → ∀ x, Bd T a a x → 0 ≤ x
/-- values that keep the table -/
def Fs (f : Nat → Int) (T : Tab) : Prop := ∀ a b x, Bd T a b x → f a - f b ≤ x
def Cl (k : Nat) (T : Tab) : Prop := ∀ j, j < k → ∀ a b x y, Bd T a j x → Bd T j b y → Bd T a b (x + y)
def Dom (n : Nat) (T : Tab) : Prop := ∀ a b, ¬ (a < n ∧ b < n) → T a b = none
theorem stp_cl (h : Cl k T) (z : ∀ x, Bd T k k x → 0 ≤ x) : Cl (k + 1) (stp k T) := by
  intro j hj a b x y h1 h2
  rw [bd_stp] at h1 h2 ⊢
  by_cases hk : j < k
  · rcases h1 with h1 | ⟨p, q, p1, p2, l1⟩
    · rcases h2 with h2 | ⟨r, s, r1, r2, l2⟩
      · exact .inl (h j hk _ _ _ _ h1 h2)
      · exact .inr ⟨x + r, s, h j hk _ _ _ _ h1 r1, r2, by omega⟩
    · rcases h2 with h2 | ⟨r, s, r1, r2, l2⟩
      · exact .inr ⟨p, q + y, p1, h j hk _ _ _ _ p2 h2, by omega⟩
      · have := z _ (h j hk _ _ _ _ p2 r1)
        exact .inr ⟨p, s, p1, r2, by omega⟩
  · have e : j = k := by omega
    subst e
    have g1 : Bd T a j x := by
      rcases h1 with h1 | ⟨p, q, p1, p2, l1⟩
      · exact h1
      · have := z _ p2; exact p1.mono (by omega)
    have g2 : Bd T j b y := by
      rcases h2 with h2 | ⟨p, q, p1, p2, l1⟩
      · exact h2
      · have := z _ p1; exact p2.mono (by omega)
    exact .inr ⟨x, y, g1, g2, by omega⟩
def fw : Nat → Tab → Tab
  | 0, T => T
  | k + 1, T => stp k (fw k T)
theorem bd_fw (h : Bd T a b c) : ∀ k, Bd (fw k T) a b c
  | 0 => h
  | k + 1 => bd_stp.mpr (.inl (bd_fw h k))
theorem stp_fs (h : Fs f T) : Fs f (stp k T) := by
  intro a b x hx
  rcases bd_stp.mp hx with hx | ⟨p, q, h1, h2, l⟩
  · exact h _ _ _ hx
  · have := h _ _ _ h1; have := h _ _ _ h2; omega
theorem fw_fs (h : Fs f T) : ∀ k, Fs f (fw k T)
  | 0 => h
  | k + 1 => stp_fs (fw_fs h k)
theorem fs_nn (h : Fs f T) : nn n T := fun a _ x hx => by have := h _ _ _ hx; omega
theorem stp_dom (h : Dom n T) : Dom n (stp k T) := by
  intro a b q
  unfold stp
  rw [h a b q]
  by_cases ha : a < n
  · have hb : ¬ b < n := fun hb => q ⟨ha, hb⟩
    rw [h k b (fun z => hb z.2)]
    cases T a k <;> rfl
  · rw [h a k (fun z => ha z.1)]; rfl
theorem fw_dom (h : Dom n T) : ∀ k, Dom n (fw k T)
  | 0 => h
  | k + 1 => stp_dom (fw_dom h k)
theorem fw_nn (h : nn n (fw n T)) : ∀ k, k ≤ n → nn n (fw k T) := by
  intro k hk a ha x hx
  have : ∀ j, Bd (fw (k + j) T) a a x := fun j => by
    induction j with
    | zero => exact hx
    | succ j ih => exact bd_stp.mpr (.inl ih)
  have := this (n - k)
  rw [show k + (n - k) = n by omega] at this
  exact h a ha x this
theorem fw_cl (h : nn n (fw n T)) : ∀ k, k ≤ n → Cl k (fw k T)
  | 0, _ => fun j hj => (Nat.not_lt_zero _ hj).elim
  | k + 1, hk => stp_cl (fw_cl h k (by omega)) (fw_nn h k (by omega) k (by omega))
/-! ties -/
abbrev Tie := Nat × Nat × Int
def upd (T : Tab) (u v : Nat) (o : Option Int) : Tab := fun a b => if a = u ∧ b = v then o else T a b
theorem upd_same (h : T u v = o) : upd T u v o = T := by
  funext a b; unfold upd
  by_cases q : a = u ∧ b = v
  · obtain ⟨rfl, rfl⟩ := q; simp [h]
  · rw [if_neg q]
theorem bd_upd : Bd (upd T u v (low (T u v) w)) a b c ↔ Bd T a b c ∨ (a = u ∧ b = v ∧ ∃ x, w = some x ∧ x ≤ c) := by
  unfold Bd upd
  by_cases q : a = u ∧ b = v
  · obtain ⟨rfl, rfl⟩ := q; simp only [and_self, if_true]; rw [bd_low]; simp
  · rw [if_neg q]
    constructor
    · exact .inl
    · rintro (h | ⟨h1, h2, _⟩)
      · exact h
      · exact (q ⟨h1, h2⟩).elim
def addT (T : Tab) (t : Tie) : Tab := upd T t.1 t.2.1 (low (T t.1 t.2.1) (some t.2.2))
theorem bd_addT {t : Tie} : Bd (addT T t) a b c ↔ Bd T a b c ∨ (a = t.1 ∧ b = t.2.1 ∧ t.2.2 ≤ c) := by
  unfold addT; rw [bd_upd]; simp
theorem bd_fold : ∀ {L : List Tie} {T : Tab}, Bd (L.foldl addT T) a b c ↔ Bd T a b c ∨ ∃ d, (a, b, d) ∈ L ∧ d ≤ c
  | [], T => by simp
  | (p, q, r) :: L, T => by
    rw [List.foldl_cons, bd_fold, bd_addT]
    constructor
    · rintro ((h | ⟨rfl, rfl, h⟩) | ⟨d, h, l⟩)
      · exact .inl h
      · exact .inr ⟨r, by simp, h⟩
      · exact .inr ⟨d, by simp [h], l⟩
    · rintro (h | ⟨d, h, l⟩)
      · exact .inl (.inl h)
      · simp at h
        rcases h with ⟨rfl, rfl, rfl⟩ | h
        · exact .inl (.inr ⟨rfl, rfl, l⟩)
        · exact .inr ⟨d, h, l⟩
def diag0 (n : Nat) : Tab := fun a b => if a = b ∧ a < n then some 0 else none
def noT : Tab := fun _ _ => none
theorem bd_diag0 : Bd (diag0 n) a b c ↔ a = b ∧ a < n ∧ 0 ≤ c := by
  unfold Bd diag0
  by_cases q : a = b ∧ a < n
  · rw [if_pos q]; simp [q]; exact fun _ => (by have := q.1; have := q.2; omega)
  · rw [if_neg q]
    constructor
    · rintro ⟨_, e, _⟩; cases e
    · rintro ⟨h1, h2, _⟩; exact (q ⟨h1, h2⟩).elim
def ini (n : Nat) (L : List Tie) : Tab := L.foldl addT (diag0 n)
theorem bd_ini {L : List Tie} : Bd (ini n L) a b c ↔ (a = b ∧ a < n ∧ 0 ≤ c) ∨ ∃ d, (a, b, d) ∈ L ∧ d ≤ c := by
  unfold ini; rw [bd_fold, bd_diag0]
theorem ini_mem {L L' : List Tie} (h : ∀ t, t ∈ L ↔ t ∈ L') : ini n L = ini n L' := tab_ext fun a b c => by
  rw [bd_ini, bd_ini]; simp [h]
/-- the diagonal brought down to 0 for the rows up to k -/
def dgf (k : Nat) (T : Tab) : Tab := fun a b => if a = b ∧ a < k then low (T a b) (some 0) else T a b
theorem dgf_0 : dgf 0 T = T := by funext a b; unfold dgf; rw [if_neg (by omega)]
theorem dgf_at : dgf k T k k = T k k := by unfold dgf; rw [if_neg (by omega)]
theorem dgf_succ : dgf (k + 1) T = upd (dgf k T) k k (low (T k k) (some 0)) := by
  funext a b
  show (if a = b ∧ a < k + 1 then low (T a b) (some 0) else T a b) = if a = k ∧ b = k then low (T k k) (some 0) else if a = b ∧ a < k then low (T a b) (some 0) else T a b
  by_cases h : a = k ∧ b = k
  · obtain ⟨rfl, rfl⟩ := h; simp
  · rw [if_neg h]
    by_cases h2 : a = b ∧ a < k
    · rw [if_pos h2, if_pos (by omega)]
    · rw [if_neg h2, if_neg (by omega)]
theorem iniP {L : List Tie} : dgf n (L.foldl addT noT) = ini n L := tab_ext fun a b c => by
  have z : Bd (dgf n (L.foldl addT noT)) a b c ↔ Bd (L.foldl addT noT) a b c ∨ (a = b ∧ a < n ∧ 0 ≤ c) := by
    unfold Bd dgf
    by_cases q : a = b ∧ a < n
    · obtain ⟨rfl, q⟩ := q
      rw [if_pos ⟨rfl, q⟩, bd_low]; simp [q]
    · rw [if_neg q]
      constructor
      · exact .inl
      · rintro (h | ⟨h1, h2, _⟩)
        · exact h
        · exact (q ⟨h1, h2⟩).elim
  rw [z, bd_fold, bd_ini]
  constructor
  · rintro ((⟨_, e, _⟩ | h) | h)
    · cases e
    · exact .inr h
    · exact .inl h
  · rintro (h | h)
    · exact .inr h
    · exact .inl (.inr h)
theorem ini_dom {L : List Tie} (h : ∀ t ∈ L, t.1 < n ∧ t.2.1 < n) : Dom n (ini n L) := by
  intro a b q
  cases e : ini n L a b with
  | none => rfl
  | some x =>
    have : Bd (ini n L) a b x := ⟨x, e, by omega⟩
    rcases bd_ini.mp this with ⟨rfl, h1, _⟩ | ⟨d, h1, _⟩
    · exact (q ⟨h1, h1⟩).elim
    · exact (q (h _ h1)).elim
def fin (n : Nat) (L : List Tie) : Tab := fw n (ini n L)
theorem fin_mem {L L' : List Tie} (h : ∀ t, t ∈ L ↔ t ∈ L') : fin n L = fin n L' := by unfold fin; rw [ini_mem h]
def Good (f : Nat → Int) (L : List Tie) : Prop := ∀ t ∈ L, f t.1 - f t.2.1 ≤ t.2.2
theorem Good.fs {L : List Tie} (h : Good f L) : Fs f (ini n L) := by
  intro a b x hx
  rcases bd_ini.mp hx with ⟨rfl, _, l⟩ | ⟨d, m, l⟩
  · omega
  · have := h _ m; dsimp only at this; omega
theorem Good.nn {L : List Tie} (h : Good f L) : nn n (fin n L) := fs_nn (fw_fs h.fs n)
/-- what follows from ties -/
def Der (n : Nat) (L : List Tie) (u v : Nat) (c : Int) : Prop := ∀ F : Tab, (∀ t ∈ L, Bd F t.1 t.2.1 t.2.2) → (∀ a, a < n → Bd F a a 0) → Cl n F → Bd F u v c
theorem Der.tie {L : List Tie} (h : (u, v, c) ∈ L) : Der n L u v c := fun F h1 _ _ => h1 _ h
theorem Der.refl {L : List Tie} (h : u < n) : Der n L u u 0 := fun F _ h2 _ => h2 u h
theorem Der.trans {L : List Tie} {w : Nat} (h1 : Der n L u v x) (h2 : Der n L v w y) (hv : v < n) : Der n L u w (x + y) := fun F a b c => c v hv _ _ _ _ (h1 F a b c) (h2 F a b c)
theorem Der.sub {L L' : List Tie} (h : Der n L u v c) (s : ∀ t ∈ L, t ∈ L') : Der n L' u v c := fun F a b c => h F (fun t m => a t (s t m)) b c
def Bad (n : Nat) (L : List Tie) : Prop := ∃ u, u < n ∧ Der n L u u (-1)
theorem Bad.sub {L L' : List Tie} (h : Bad n L) (s : ∀ t ∈ L, t ∈ L') : Bad n L' := let ⟨u, l, d⟩ := h; ⟨u, l, d.sub s⟩
theorem Bad.nn {L : List Tie} (h : Bad n L) : ¬ nn n (fin n L) := by
  intro z
  obtain ⟨u, hu, d⟩ := h
  have := z u hu _ (d (fin n L) (fun t m => bd_fw (bd_ini.mpr (.inr ⟨t.2.2, m, Int.le_refl _⟩)) n) (fun a ha => bd_fw (bd_ini.mpr (.inl ⟨rfl, ha, by omega⟩)) n) (fw_cl z n (Nat.le_refl _)))
  omega
/-! in place -/
/-- the rows up to u, of row u the entries up to v, led through k -/
def inP (k : Nat) (T : Tab) (u v : Nat) : Tab := fun a b => if a < u ∨ (a = u ∧ b < v) then stp k T a b else T a b
theorem inP_0 : inP k T 0 0 = T := by funext a b; unfold inP; rw [if_neg (by omega)]
theorem inP_row (h : Dom n T) (hk : k < n) : inP k T u n = inP k T (u + 1) 0 := by
  funext a b; unfold inP
  by_cases q : a < u ∨ (a = u ∧ b < n)
  · rw [if_pos q, if_pos (by omega)]
  · rw [if_neg q]
    by_cases q2 : a < u + 1 ∨ (a = u + 1 ∧ b < 0)
    · rw [if_pos q2]
      unfold stp
      rw [h k b (by omega)]
      cases T a k <;> rfl
    · rw [if_neg q2]
theorem inP_end (h : Dom n T) : inP k T n 0 = stp k T := by
  funext a b; unfold inP
  by_cases q : a < n ∨ (a = n ∧ b < 0)
  · rw [if_pos q]
  · rw [if_neg q]; unfold stp; rw [h a k (by omega)]; rfl
theorem inP_none (h : T u k = none) : inP k T u 0 = inP k T (u + 1) 0 := by
  funext a b; unfold inP
  by_cases q : a < u ∨ (a = u ∧ b < 0)
  · rw [if_pos q, if_pos (by omega)]
  · rw [if_neg q]
    by_cases q2 : a < u + 1 ∨ (a = u + 1 ∧ b < 0)
    · have e : a = u := by omega
      subst e
      rw [if_pos q2]; unfold stp; rw [h]; rfl
    · rw [if_neg q2]
theorem stp_mid (z : ∀ x, Bd T k k x → 0 ≤ x) : stp k T k b = T k b := by
  unfold stp
  cases e : T k k with
  | none => rfl
  | some d =>
    have := z d ⟨d, e, by omega⟩
    cases e2 : T k b with
    | none => rfl
    | some y => simp [oadd, low]; omega
theorem inP_mid (z : ∀ x, Bd T k k x → 0 ≤ x) : inP k T u v k b = T k b := by
  unfold inP
  by_cases q : k < u ∨ (k = u ∧ b < v)
  · rw [if_pos q, stp_mid z]
  · rw [if_neg q]
theorem inP_at : inP k T u v u v = T u v := by unfold inP; rw [if_neg (by omega)]
theorem stp_col (z : ∀ x, Bd T k k x → 0 ≤ x) : stp k T a k = T a k := by
  unfold stp
  cases e : T k k with
  | none => cases T a k <;> rfl
  | some d =>
    have := z d ⟨d, e, by omega⟩
    cases e2 : T a k with
    | none => rfl
    | some y => simp [oadd, low]; omega
theorem inP_succ : inP k T u (v + 1) = upd (inP k T u v) u v (stp k T u v) := by
  funext a b
  show (if a < u ∨ (a = u ∧ b < v + 1) then stp k T a b else T a b) = if a = u ∧ b = v then stp k T u v else if a < u ∨ (a = u ∧ b < v) then stp k T a b else T a b
  by_cases h : a = u ∧ b = v
  · obtain ⟨rfl, rfl⟩ := h; rw [if_pos (by omega), if_pos (by simp)]
  · rw [if_neg h]
    by_cases h2 : a < u ∨ (a = u ∧ b < v)
    · rw [if_pos h2, if_pos (by omega)]
    · rw [if_neg h2, if_neg (by omega)]
/-- R stands where T stood, rows up to u, entries up to v are through k -/
structure InP (n k : Nat) (T : Tab) (u v : Nat) (R : Tab) : Prop where
  dom : Dom n R
  le : ∀ a b c, Bd T a b c → Bd R a b c
  fs : ∀ f, Fs f T → Fs f R
  eq : (∀ x, Bd T k k x → 0 ≤ x) → R = inP k T u v
theorem InP.start (h : Dom n T) : InP n k T 0 0 T := ⟨h, fun _ _ _ h => h, fun _ h => h, fun _ => inP_0.symm⟩
/-- what is led ahead along a row -/
structure Ahd (k : Nat) (T : Tab) (u : Nat) (x : Int) : Prop where
  fs : ∀ f, Fs f T → f u - f k ≤ x
  eq : (∀ x, Bd T k k x → 0 ≤ x) → T u k = some x
theorem InP.ahead (h : InP n k T u 0 R) (e : R u k = some x) : Ahd k T u x := by
  refine ⟨fun f hf => h.fs f hf _ _ _ ⟨x, e, by omega⟩, fun z => ?_⟩
  rw [h.eq z] at e
  unfold inP at e
  rw [if_neg (by omega)] at e
  exact e
theorem InP.skip (h : InP n k T u 0 R) (e : R u k = none) : InP n k T (u + 1) 0 R := by
  refine ⟨h.dom, h.le, h.fs, fun z => ?_⟩
  have e2 := h.eq z
  rw [e2] at e
  unfold inP at e
  rw [if_neg (by omega)] at e
  rw [e2, inP_none e]
theorem InP.step (h : InP n k T u v R) (g : Ahd k T u x) (hu : u < n) (hv : v < n) : InP n k T u (v + 1) (upd R u v (low (R u v) (oadd (some x) (R k v)))) := by
  refine ⟨?_, ?_, ?_, ?_⟩
  · intro a b q
    unfold upd
    rw [if_neg (by rintro ⟨rfl, rfl⟩; exact q ⟨hu, hv⟩)]
    exact h.dom a b q
  · intro a b c q
    exact bd_upd.mpr (.inl (h.le _ _ _ q))
  · intro f hf a b y q
    rcases bd_upd.mp q with q | ⟨rfl, rfl, q⟩
    · exact h.fs f hf _ _ _ q
    · obtain ⟨p, r, ⟨_, e, l1⟩, q2, l⟩ := bd_oadd.mp q
      cases e
      have := g.fs f hf
      have := h.fs f hf _ _ _ (show Bd R k b r from q2)
      omega
  · intro z
    have e := h.eq z
    have e2 : R k v = T k v := by rw [e, inP_mid z]
    have e3 : R u v = T u v := by rw [e, inP_at]
    rw [e2, e3, inP_succ, ← g.eq z, e]
    rfl
theorem InP.row (h : InP n k T u n R) (hT : Dom n T) (hk : k < n) : InP n k T (u + 1) 0 R := ⟨h.dom, h.le, h.fs, fun z => by rw [h.eq z, inP_row hT hk]⟩
/-- what a closing in place keeps -/
structure Ip (n : Nat) (T : Tab) (k : Nat) (R : Tab) : Prop where
  dom : Dom n R
  le : ∀ a b c, Bd T a b c → Bd R a b c
  fs : ∀ f, Fs f T → Fs f R
  eq : nn n R → R = fw k T
theorem Ip.start (h : Dom n T) : Ip n T 0 T := ⟨h, fun _ _ _ h => h, fun _ h => h, fun _ => rfl⟩
theorem Ip.next {R' : Tab} (h : Ip n T k R) (g : InP n k R n 0 R') (hk : k < n) : Ip n T (k + 1) R' := by
  refine ⟨g.dom, fun a b c q => g.le _ _ _ (h.le _ _ _ q), fun f hf => g.fs f (h.fs f hf), fun z => ?_⟩
  have zR : nn n R := fun a ha x hx => z a ha x (g.le _ _ _ hx)
  rw [g.eq (zR k hk), inP_end h.dom, h.eq zR]
  rfl
/-! what a closing tells -/
def full (n : Nat) (T : Tab) : Prop := ∀ a, a < n → ∀ b, b < n → T a b ≠ none
theorem Ip.good {L : List Tie} (h : Ip n (ini n L) n R) (g : Good f L) : nn n R ∧ R = fin n L := by
  have z : nn n R := fs_nn (h.fs f g.fs)
  exact ⟨z, h.eq z⟩
theorem Ip.bad {L : List Tie} (h : Ip n (ini n L) n R) (g : Bad n L) : ¬ nn n R := fun z => by
  have e := h.eq z
  rw [e] at z
  exact g.nn z
theorem Ip.diag {L : List Tie} (h : Ip n (ini n L) k R) (ha : a < n) : ∃ x, R a a = some x := by
  obtain ⟨x, e, _⟩ := h.le a a 0 (bd_ini.mpr (.inl ⟨rfl, ha, by omega⟩))
  exact ⟨x, e⟩
theorem fin_diag {L : List Tie} (ha : a < n) : ∃ x, fin n L a a = some x := by
  obtain ⟨x, e, _⟩ := bd_fw (bd_ini.mpr (.inl ⟨rfl, ha, by omega⟩) : Bd (ini n L) a a 0) n
  exact ⟨x, e⟩
end Kt

/-! KtB -/
set_option Elab.async false
set_option linter.all false
set_option maxRecDepth 100000
set_option maxHeartbeats 1000000
namespace Kt
open PySem L2 Pv
/-! tables as data -/
def optD : Option Int → D
  | none => .non
  | some t => .int t
@[simp] theorem optD_none : optD none = .non := rfl
@[simp] theorem optD_some {t : Int} : optD (some t) = .int t := rfl
@[simp] theorem frz_optD {x : Option Int} : frz (optD x) = optD x := by cases x <;> simp [optD]
@[simp] theorem isF_optD {x : Option Int} : isF (optD x) = true := by cases x <;> rfl
@[simp] theorem isNon_optD {x : Option Int} : isNon (optD x) = x.isNone := by cases x <;> rfl
@[simp] theorem rd_optD {x : Option Int} : rdR (optD x) = .vl (optD x) := by cases x <;> rfl
def row (o : Bool) (k : Kd) (T : Tab) (n a : Nat) : D := .nd o k ((List.range n).map fun b => optD (T a b))
def mat (o : Bool) (T : Tab) (n : Nat) : D := .nd o .lst ((List.range n).map fun a => row o .lst T n a)
def tupT (T : Tab) (n : Nat) : D := .nd false .tup ((List.range n).map fun a => row false .tup T n a)
variable {T : Tab} {n a b : Nat} {o : Bool} {k : Kd}
@[simp] theorem frz_row : frz (row o k T n a) = row false k T n a := by simp [row]
@[simp] theorem frz_mat : frz (mat o T n) = mat false T n := by simp [mat]
@[simp] theorem frz_tupT : frz (tupT T n) = tupT T n := by simp [tupT]
@[simp] theorem rd_mat : rdR (mat true T n) = .pl [] (mat true T n) := rfl
@[simp] theorem rd_matF : rdR (mat false T n) = .vl (mat false T n) := rfl
@[simp] theorem rd_rowF : rdR (row false k T n a) = .vl (row false k T n a) := rfl
@[simp] theorem rd_tupT : rdR (tupT T n) = .vl (tupT T n) := rfl
@[simp] theorem isF_rowF : isF (row false k T n a) = true := rfl
@[simp] theorem isF_tupT : isF (tupT T n) = true := rfl
@[simp] theorem isF_matT : isF (mat true T n) = false := rfl
@[simp] theorem isF_matF : isF (mat false T n) = true := rfl
@[simp] theorem isNon_tupT : isNon (tupT T n) = false := rfl
@[simp] theorem off_mat {i : Nat} {ρ : Pv.Env} : offA i (mat true T n) ρ = ρ.set i none := rfl
@[simp] theorem off_matF {i : Nat} {ρ : Pv.Env} : offA i (mat false T n) ρ = ρ := rfl
@[simp] theorem off_tupT {i : Nat} {ρ : Pv.Env} : offA i (tupT T n) ρ = ρ := rfl
@[simp] theorem off_rowF {i : Nat} {ρ : Pv.Env} : offA i (row false k T n a) ρ = ρ := rfl
@[simp] theorem off_optD {i : Nat} {ρ : Pv.Env} {x : Option Int} : offA i (optD x) ρ = ρ := by cases x <;> rfl
@[simp] theorem seq_matF : seqOf (mat false T n) = some ((List.range n).map fun a => row false .lst T n a) := rfl
@[simp] theorem seq_rowF : seqOf (row false .lst T n a) = some ((List.range n).map fun b => optD (T a b)) := rfl
@[simp] theorem tup_tupT : tupOf (tupT T n) = some ((List.range n).map fun a => row false .tup T n a) := rfl
@[simp] theorem tup_row : tupOf (row false .tup T n a) = some ((List.range n).map fun b => optD (T a b)) := rfl
@[simp] theorem len_mat : fLen (mat o T n) = some (.int n) := by simp [mat, fLen]
@[simp] theorem len_tupT : fLen (tupT T n) = some (.int n) := by simp [tupT, fLen]
@[simp] theorem len_row : fLen (row o .lst T n a) = some (.int n) := by simp [row, fLen]
@[simp] theorem len_rowt : fLen (row o .tup T n a) = some (.int n) := by simp [row, fLen]
theorem allF_row : allF ((List.range n).map fun b => optD (T a b)) = true := allF_map fun x _ => isF_optD
@[simp] theorem list_row : fList (row false .lst T n a) = some (row true .lst T n a) := by
  unfold row
  rw [fList_nd, if_pos ⟨rfl, allF_row⟩]
@[simp] theorem list_rowt : fList (row false .tup T n a) = some (row true .lst T n a) := by
  unfold row
  rw [fList_nd, if_pos ⟨rfl, allF_row⟩]
@[simp] theorem tuple_row : fTuple (row o .lst T n a) = some (row false .tup T n a) := by
  unfold row fTuple
  dsimp only
  rw [if_pos ⟨.inl rfl, allF_row⟩]
@[simp] theorem tuple_rows : fTuple (.nd o .lst ((List.range n).map fun a => row false .tup T n a)) = some (tupT T n) := by
  unfold fTuple
  dsimp only
  rw [if_pos ⟨.inl rfl, allF_map fun x _ => rfl⟩]; rfl
theorem ix_mat (h : a < n) : ixR (.pl [] (mat true T n)) (.int a) = some (.pl [a] (row true .lst T n a)) := by
  unfold mat
  rw [ixR_pl]
  simp [ixN_nat h, h]
  rfl
theorem ix_matF (h : a < n) : ixR (.vl (mat false T n)) (.int a) = some (.vl (row false .lst T n a)) := by
  unfold mat
  rw [ixR_vl]
  simp [ixN_nat h, h]
theorem ix_tupT (h : a < n) : ixR (.vl (tupT T n)) (.int a) = some (.vl (row false .tup T n a)) := by
  unfold tupT
  rw [ixR_vl]
  simp [ixN_nat h, h]
theorem ix_row {p : List Nat} (h : b < n) : ixR (.pl p (row true .lst T n a)) (.int b) = some (.vl (optD (T a b))) := by
  unfold row
  rw [ixR_pl]
  simp [ixN_nat h, h]
  cases T a b <;> rfl
theorem ix_rowF (hk : isSeq k = true) (h : b < n) : ixR (.vl (row false k T n a)) (.int b) = some (.vl (optD (T a b))) := by
  unfold row
  rw [ixR_vl, hk]
  simp [ixN_nat h, h]
theorem set_range {α : Type} {n k : Nat} {f : Nat → α} {y : α} : ((List.range n).map f).set k y = (List.range n).map fun i => if i = k then y else f i := by
  apply List.ext_getElem?
  intro i
  rw [List.getElem?_set]
  simp only [List.getElem?_map, List.getElem?_range, List.length_map, List.length_range]
  by_cases h : k = i
  · subst h; by_cases h2 : k < n <;> simp [h2]
  · have h' : ¬ i = k := fun e => h e.symm
    by_cases h2 : i < n <;> simp [h, h', h2]
theorem put_mat {w : Option Int} : putD [a] (.nd true .lst (((List.range n).map fun b => optD (T a b)).set b (optD w))) (mat true T n) = mat true (upd T a b w) n := by
  unfold mat
  rw [putD_cons, putD_nil, set_range, set_range]
  congr 1
  apply List.map_congr_left
  intro i hi
  by_cases h : i = a
  · subst h
    rw [if_pos rfl]
    unfold row
    congr 1
    apply List.map_congr_left
    intro k _
    unfold upd
    by_cases h2 : k = b <;> simp [h2]
  · rw [if_neg h]
    unfold row upd
    simp [h]
theorem set_row {R : Nat} {ρ : Pv.Env} {P : Pv.Env → Prop} {w : Int} (h : ρ[R]? = some (some (mat true T n))) (hb : b < n) : setK R P (.int w) (.int b) (.pl [a] (row true .lst T n a)) ρ ↔ P (ρ.set R (some (mat true (upd T a b (some w)) n))) := by
  rw [row, setK_pl, h, ← put_mat (T := T)]
  simp [ixN_nat hb]
theorem mat_ext {T' : Tab} (h : ∀ a b, a < n → b < n → T a b = T' a b) : mat o T n = mat o T' n := by
  unfold mat row
  congr 1
  refine List.map_congr_left fun a ha => ?_
  congr 1
  refine List.map_congr_left fun b hb => ?_
  rw [h a b (by simpa using ha) (by simpa using hb)]
@[simp] theorem rtX_nx {np : Nat} {P : Rs D → List (Option D) → Prop} {ρ : Pv.Env} : rtX np P .nx ρ ↔ P (.ok .non) (ρ.take np) := Iff.rfl
@[simp] theorem rtX_rt {np : Nat} {P : Rs D → List (Option D) → Prop} {d : D} {ρ : Pv.Env} : rtX np P (.rt d) ρ ↔ P (.ok d) (ρ.take np) := Iff.rfl
@[simp] theorem rtX_ex {np : Nat} {P : Rs D → List (Option D) → Prop} {c : Nat} {ρ : Pv.Env} : rtX np P (.ex c) ρ ↔ P (.ex c) (ρ.take np) := Iff.rfl
/-! None in a row -/
def optV : Option Int → V
  | none => .non
  | some i => .int i
theorem toVL_opt : ∀ l : List Nat, toVL (l.map fun b => optD (T a b)) = some (l.map fun b => optV (T a b))
  | [] => rfl
  | x :: l => by
    rw [List.map_cons]
    show (match toV (optD (T a x)), toVL (l.map fun b => optD (T a b)) with | some v, some vs => some (v :: vs) | _, _ => none) = _
    rw [toVL_opt l, List.map_cons]
    cases T a x <;> rfl
theorem inL_row (hk : isSeq k = true) : fInL false .non (row false k T n a) = some (.bl ((List.range n).any fun b => (T a b).isNone)) := by
  unfold row fInL
  dsimp only
  rw [if_pos hk, toVL_opt]
  simp [toV, inV, List.any_map]
  congr 1
  funext b
  show eqV (optV (T a b)) .non = _
  cases T a b <;> rfl
@[simp] theorem inL_lst : fInL false .non (row false .lst T n a) = some (.bl ((List.range n).any fun b => (T a b).isNone)) := inL_row rfl
@[simp] theorem inL_tup : fInL false .non (row false .tup T n a) = some (.bl ((List.range n).any fun b => (T a b).isNone)) := inL_row rfl
theorem boolL_map {α : Type} {f : α → Bool} : ∀ l : List α, boolL (l.map fun x => .bl (f x)) = some (l.map f)
  | [] => rfl
  | x :: l => by
    show (boolL (l.map fun x => .bl (f x))).map (f x :: ·) = _
    rw [boolL_map l]; rfl
theorem fAny_map {α : Type} {f : α → Bool} {l : List α} : fAny (.nd o .lst (l.map fun x => .bl (f x))) = some (.bl (l.any f)) := by
  unfold fAny
  dsimp only
  rw [boolL_map]
  simp [List.any_map]
theorem fAll_map {α : Type} {f : α → Bool} {l : List α} : fAll (.nd o .lst (l.map fun x => .bl (f x))) = some (.bl (l.all f)) := by
  unfold fAll
  dsimp only
  rw [boolL_map]
  simp [List.all_map]
@[simp] theorem anyOf_lst {xs : List D} : anyOf (.nd false .lst xs) = some xs := rfl
@[simp] theorem anyOf_tup {xs : List D} : anyOf (.nd false .tup xs) = some xs := rfl
@[simp] theorem fLRg_nat {j : Int} : fLRg (.int j) = if j ≤ 16777216 ∧ 0 ≤ j then some (.nd true .lst (rangeL 0 j.toNat)) else none := rfl
@[simp] theorem fRng2_int {i j : Int} : fRng2 [.int i, .int j] = if -(2 ^ 62) ≤ i ∧ i < 2 ^ 62 ∧ -(2 ^ 62) ≤ j ∧ j < 2 ^ 62 then some (rangeL i (j - i).toNat) else none := rfl
@[simp] theorem fRep_one {d : D} {j : Int} : fRep (.nd false .lst [d]) (.int j) = if -(2 ^ 63) ≤ j ∧ j < 2 ^ 63 ∧ j.toNat ≤ 16777216 then some (.nd true .lst (List.replicate j.toNat d)) else none := by
  unfold fRep
  simp
theorem zip_rows {f g : Nat → D} : fZip [.nd false .lst ((List.range n).map f), .nd false .lst ((List.range n).map g)] = some ((List.range n).map fun b => .nd false .tup [f b, g b]) := by
  simp [fZip, zipL, List.zipWith_map_left, List.zipWith_map_right, List.zipWith_self, D.tup]
/-! deep == -/
theorem eqv_refl : ∀ x : PyData, x.canLay0 = true → x.eqv x = true := by
  intro x
  refine PyData.rec (motive_1 := fun x => x.canLay0 = true → x.eqv x = true) (motive_2 := fun xs => PyData.canLayAll0 xs = true → PyData.eqvAll xs xs = true) (motive_3 := fun _ => True) (motive_4 := fun _ => True) ?_ ?_ ?_ ?_ ?_ ?_ ?_ ?_ ?_ ?_ ?_ ?_ x
  all_goals first
    | (intros; trivial)
    | skip
  all_goals simp_all [PyData.eqv, PyData.eqvAll, PyData.canLay0, PyData.canLayAll0]
theorem neD_refl {d : D} {x : PyData} (e : toPy d = some x) (h : SeqAt.shaped x = true) : fNeD d d = some (.bl false) := by
  show eqD true d d = _
  unfold eqD
  rw [e]
  dsimp only
  rw [if_pos ⟨h, h⟩, if_pos rfl, eqv_refl x (SeqAt.canLay_of_shaped h)]
  rfl
end Kt

/-! KtC -/
set_option Elab.async false
set_option linter.all false
set_option maxRecDepth 100000
set_option maxHeartbeats 1000000
namespace Kt
open PySem L2 Pv
/-! ties, witness -/
def tri (t : Tie) : D := .nd false .tup [.int t.1, .int t.2.1, .int t.2.2]
def wit (ws : List Int) : D := .nd false .tup (ws.map .int)
def at_ (ws : List Int) (u : Nat) : Int := ws.getD u 0
@[simp] theorem frz_tri {t : Tie} : frz (tri t) = tri t := by simp [tri]
@[simp] theorem isF_tri {t : Tie} : isF (tri t) = true := rfl
@[simp] theorem frz_wit {ws : List Int} : frz (wit ws) = wit ws := by simp [wit]
@[simp] theorem rd_wit {ws : List Int} : rdR (wit ws) = .vl (wit ws) := rfl
@[simp] theorem off_wit {ws : List Int} {i : Nat} {ρ : Pv.Env} : offA i (wit ws) ρ = ρ := rfl
@[simp] theorem len_wit {ws : List Int} : fLen (wit ws) = some (.int ws.length) := by simp [wit, fLen]
theorem ix_wit {ws : List Int} {u : Nat} (h : u < ws.length) : ixR (.vl (wit ws)) (.int u) = some (.vl (.int (at_ ws u))) := by
  unfold wit at_
  rw [ixR_vl]
  simp [ixN_nat h, h]
def ties (o : Bool) (k : Kd) (L : List Tie) : D := .nd o k (L.map tri)
@[simp] theorem frz_ties {o : Bool} {k : Kd} {L : List Tie} : frz (ties o k L) = ties false k L := by simp [ties]
@[simp] theorem rd_ties {k : Kd} {L : List Tie} : rdR (ties true k L) = .pl [] (ties true k L) := rfl
@[simp] theorem rd_tiesF {k : Kd} {L : List Tie} : rdR (ties false k L) = .vl (ties false k L) := rfl
@[simp] theorem off_ties {k : Kd} {L : List Tie} {i : Nat} {ρ : Pv.Env} : offA i (ties true k L) ρ = ρ.set i none := rfl
@[simp] theorem off_tiesF {k : Kd} {L : List Tie} {i : Nat} {ρ : Pv.Env} : offA i (ties false k L) ρ = ρ := rfl
@[simp] theorem seq_ties {L : List Tie} : seqOf (ties false .lst L) = some (L.map tri) := rfl
@[simp] theorem any_ties {L : List Tie} : anyOf (ties false .lst L) = some (L.map tri) := rfl
@[simp] theorem any_tiest {L : List Tie} : anyOf (ties false .tup L) = some (L.map tri) := rfl
@[simp] theorem ap_ties {R : Nat} {P : Pv.Env → Prop} {t : Tie} {L : List Tie} {p : List Nat} {ρ : Pv.Env} : apK R P (tri t) (.pl p (ties true .lst L)) ρ ↔ L.length < 16777216 ∧ exO ρ[R]? fun o => exO o fun dr => P (ρ.set R (some (putD p (ties true .lst (L ++ [t])) dr))) := by
  unfold ties
  rw [apK_pl, show L.map tri ++ [tri t] = (L ++ [t]).map tri by simp]; simp
@[simp] theorem own_ties {L : List Tie} {p : List Nat} : (PR.pl p (ties true .lst L)).isOwn = true := rfl
@[simp] theorem len_ties {o : Bool} {L : List Tie} : fLen (ties o .lst L) = some (.int L.length) := by simp [ties, fLen]
theorem tri_eq {u v : Nat} {c : Int} : D.nd false .tup [.int u, .int v, .int c] = tri (u, v, c) := rfl
theorem cat_ties {L M : List Tie} (h : L.length + M.length ≤ 16777216) : fCat (ties false .lst L) (ties false .lst M) = some (ties true .lst (L ++ M)) := by
  unfold ties; rw [fCat_nd]; simp [h]
theorem list_ties {o : Bool} {L : List Tie} : fList (ties o .lst L) = some (ties true .lst L) := by
  unfold ties
  rw [fList_nd, if_pos ⟨rfl, allF_map fun x _ => rfl⟩]
theorem tuple_ties {o : Bool} {L : List Tie} : fTuple (ties o .lst L) = some (ties false .tup L) := by
  unfold ties fTuple
  dsimp only
  rw [if_pos ⟨.inl rfl, allF_map fun x _ => rfl⟩]
theorem toPyL_map {α : Type} {f : α → D} {g : α → PyData} : ∀ {l : List α}, (∀ x ∈ l, toPy (f x) = some (g x)) → toPyL (l.map f) = some (l.map g)
  | [], _ => rfl
  | x :: l, h => by
    rw [List.map_cons]
    show (match toPy (f x), toPyL (l.map f) with | some y, some ys => some (y :: ys) | _, _ => none) = _
    rw [h x (by simp), toPyL_map fun y hy => h y (by simp [hy])]
    rfl
def triP (t : Tie) : PyData := .tuple [.int t.1, .int t.2.1, .int t.2.2]
theorem toPy_tri {t : Tie} : toPy (tri t) = some (triP t) := rfl
theorem canL_map {α : Type} {g : α → PyData} : ∀ {l : List α}, (∀ x ∈ l, (g x).canLay0 = true) → PyData.canLayAll0 (l.map g) = true
  | [], _ => rfl
  | x :: l, h => by
    rw [List.map_cons, PyData.canLayAll0, h x (by simp), canL_map fun y hy => h y (by simp [hy])]; rfl
theorem depL_map {α : Type} {g : α → PyData} {m : Nat} : ∀ {l : List α}, (∀ x ∈ l, (g x).depth ≤ m) → PyData.depthAll (l.map g) ≤ m
  | [], _ => by simp [PyData.depthAll]
  | x :: l, h => by
    rw [List.map_cons, PyData.depthAll]
    have := h x (by simp)
    have := depL_map (l := l) fun y hy => h y (by simp [hy])
    omega
theorem ne_ties {o : Bool} {L : List Tie} : fNeD (ties o .lst L) (ties o .lst L) = some (.bl false) := by
  refine neD_refl (x := .list (L.map triP)) ?_ ?_
  · show (toPyL (L.map tri)).map PyData.list = _
    rw [toPyL_map fun x _ => toPy_tri]; rfl
  · unfold SeqAt.shaped
    rw [Bool.and_eq_true]
    constructor
    · rw [PyData.canLay0, canL_map]; intro x _; simp [triP, PyData.canLay0, PyData.canLayAll0]
    · rw [decide_eq_true_iff, PyData.depth]
      have := depL_map (g := triP) (m := 2) (l := L) fun x _ => by simp [triP, PyData.depth, PyData.depthAll]
      omega
end Kt

/-! Sa -/
set_option Elab.async false
set_option linter.all false
set_option maxRecDepth 100000
set_option maxHeartbeats 1000000
namespace S
open PySem L2 Pv Kt
section
/-! K50pa -/
section
abbrev nums (ns : List Int) : D := .nd false .ro (ns.map .int)
def hand (cs : List Int) (p r a b : Int) : D := .nd true .lst [.nd true .lst (cs.map .int), .int p, .int r, .int a, .int b]
/-- a hand -/
def IsHand (d : D) : Prop := ∃ cs p r a b, d = hand cs p r a b ∧ 0 ≤ p
theorem draw_tail (cs : List Int) (p r a b : Int) (hp : 0 ≤ p) (n : Int) (hn : 0 < n) (hs : n < 2 ^ 64) (z : Option D) : wS k_law_draw_1 [some (hand cs p r a b), some (.int n), z, none] fun f ρ => rtP 2 (fun d o => ∃ h k, d = .int k ∧ 0 ≤ k ∧ k < n ∧ IsHand h ∧ o = [some h, some (.int n)]) f ρ := by
  have x2 : ixN 5 2 = some 2 := by decide
  have x3 : ixN 5 3 = some 3 := by decide
  have x4 : ixN 5 4 = some 4 := by decide
  have d11 : divOk 11 = true := by decide
  have d7 : divOk 7 = true := by decide
  have dn : divOk n = true := divOk_small hn (Nat.lt_of_lt_of_le (show n.natAbs < 2 ^ 64 by omega) (Nat.pow_le_pow_right (by decide) (by decide)))
  have m1 : ∀ z, mulOk z 48271 = true := fun z => mulOk_r (by decide)
  have m2 : ∀ z, mulOk z 69621 = true := fun z => mulOk_r (by decide)
  have e1 : ∀ z : Int, 0 ≤ z % n ∧ z % n < n := fun z => ⟨Int.emod_nonneg z (by omega), Int.emod_lt_of_pos z hn⟩
  simp [k_law_draw_1, hand, x2, x3, x4, d11, d7, dn, m1, m2, hn, e1]
  exact ⟨fun _ => ⟨cs, p, _, _, _, rfl, hp⟩, fun _ => ⟨cs, p, _, _, _, rfl, hp⟩⟩
theorem spec_draw (cs : List Int) (p r a b : Int) (hp : 0 ≤ p) (n : Int) (hn : 0 < n) (hs : n < 2 ^ 64) : wF fn_law_draw [hand cs p r a b, .int n] fun d o => ∃ h k, d = .int k ∧ 0 ≤ k ∧ k < n ∧ IsHand h ∧ o = [some h, some (.int n)] := by
  refine wF_run ?_
  have x0 : ixN 5 0 = some 0 := by decide
  have x1 : ixN 5 1 = some 1 := by decide
  have x2 : ixN 5 2 = some 2 := by decide
  have x3 : ixN 5 3 = some 3 := by decide
  have m1 : ∀ z, mulOk z 48271 = true := fun z => mulOk_r (by decide)
  have q1 : mulOk (10 ^ 60) (10 ^ 60) = true := by decide +kernel
  simp [m_law_draw, hand, x0, x1, x2, x3, m1]
  refine ⟨fun h0 => ⟨fun h1 => ?_, fun _ => draw_tail cs p r a b hp n hn hs none⟩, fun _ => draw_tail cs p r a b hp n hn hs none⟩
  rw [ixN_pos hp h1]
  have hp2 : p.toNat < cs.length := by omega
  simp [List.getElem?_eq_getElem hp2, x1, x2, x3, m1]
  exact ⟨fun _ => ⟨by decide +kernel, by decide +kernel, by decide +kernel, draw_tail cs (p + 1) _ a b (by omega) n hn hs _⟩, fun _ => draw_tail cs (p + 1) r _ b (by omega) n hn hs _⟩
/-! the same -/
inductive Pl : D → Prop where
  | non : Pl .non
  | bl (b : Bool) : Pl (.bl b)
  | int (i : Int) : Pl (.int i)
  | str (x : Str) : Pl (.str x)
  | lst {xs : List D} (h : ∀ x ∈ xs, Pl x) : Pl (.nd false .lst xs)
  | tup {xs : List D} (h : ∀ x ∈ xs, Pl x) : Pl (.nd false .tup xs)
mutual
def sz : D → Nat
  | .nd _ _ xs => szL xs + 1
  | _ => 1
def szL : List D → Nat
  | [] => 0
  | x :: xs => sz x + szL xs
end
theorem sz_pos (d : D) : 0 < sz d := by cases d <;> simp [sz]
theorem szL_append : ∀ (xs ys : List D), szL (xs ++ ys) = szL xs + szL ys
  | [], ys => by simp [szL]
  | x :: xs, ys => by simp [szL, szL_append xs ys]; omega
theorem szL_len : ∀ (xs : List D), xs.length ≤ szL xs
  | [] => by simp [szL]
  | x :: xs => by have := szL_len xs; have := sz_pos x; simp [szL]; omega
theorem Pl.fr {d : D} (h : Pl d) : isF d = true := by cases h <;> rfl
theorem Pl.fz {d : D} (h : Pl d) : frz d = d := by
  induction h with
  | lst h ih => simp; exact frzL_id ih
  | tup h ih => simp; exact frzL_id ih
  | _ => simp
theorem Pl.rd {d : D} (h : Pl d) : rdR d = .vl d := by unfold rdR; rw [if_pos h.fr]
@[simp] theorem fNe_bl {i j : Bool} : fNe (.bl i) (.bl j) = some (.bl (!decide (i = j))) := by simp [fNe, eqF, toV, scal]
@[simp] theorem fNe_str {i j : Str} : fNe (.str i) (.str j) = some (.bl (!decide (i = j))) := by simp [fNe, eqF, toV, scal]
@[simp] theorem isNon_bl {b : Bool} : Pv.isNon (.bl b) = false := rfl
@[simp] theorem isNon_str {b : Str} : Pv.isNon (.str b) = false := rfl
@[simp] theorem fIsB_some {k : Bool} {d : D} : fIsB k d = some (.bl (isBlD k d)) := rfl
abbrev two (x : D) : D := .nd false .tup [x, x]
theorem same_push {k : Kd} (hk : isSeq k = true) {ps xs : List D} {n : Nat} (hp : ∀ y ∈ ps, Pl y) (h : ∀ x ∈ xs, Pl x) (hz : szL ps + (szL xs + 1) = n) (hn : n ≤ 1000000) (a b z5 : Option D) (Q : Fl → Pv.Env → Prop)
    (hQ : ∀ (qs : List D) (z3 z4 z5 : Option D), (∀ y ∈ qs, Pl y) → szL qs < n → Q .nx [a, b, some (.nd true .lst (qs.map two)), z3, z4, z5]) :
    wS (forL (gmName 5) l_law_same_0 (rangeL 0 xs.length)) [a, b, some (.nd true .lst (ps.map two)), some (.nd false k xs), some (.nd false k xs), z5] Q := by
  have lx := szL_len xs
  have lp := szL_len ps
  refine forL_range (fun j ρ => ∃ z5, ρ = [a, b, some (.nd true .lst ((ps ++ xs.take j).map two)), some (.nd false k xs), some (.nd false k xs), z5]) ⟨z5, by simp⟩ ?_ ?_
  · rintro j hj ρ ⟨z, rfl⟩
    refine ⟨_, rfl, ?_⟩
    have xj : ixN xs.length (j : Int) = some j := ixN_nat hj
    have ej : xs[j]? = some xs[j] := by simp [hj]
    have pj : Pl xs[j] := h _ (by simp)
    have l : (ps ++ xs.take j).length < 16777216 := by simp; omega
    have tj : xs.take (j + 1) = xs.take j ++ [xs[j]] := (List.take_append_getElem hj).symm
    generalize hq : ps ++ xs.take j = qs at l
    simp [l_law_same_0, hk, xj, ej, pj.fz, l]
    have e : (qs ++ [xs[j]]).map two = (ps ++ xs.take (j + 1)).map two := by rw [tj, ← List.append_assoc, hq]
    simpa using e
  · rintro ρ ⟨z, rfl⟩
    rw [List.take_length]
    refine hQ _ _ _ _ (fun y hy => (List.mem_append.mp hy).elim (hp y) (h y)) ?_
    rw [szL_append]; omega
theorem same_round {ps : List D} {x : D} {n : Nat} (hp : ∀ y ∈ ps, Pl y) (hx : Pl x) (hl : szL ps + sz x = n) (hn : n ≤ 1000000) (a b z3 z4 z5 : Option D) (Q : Fl → Pv.Env → Prop)
    (hQ : ∀ (qs : List D) (z3 z4 z5 : Option D), (∀ y ∈ qs, Pl y) → szL qs < n → Q .nx [a, b, some (.nd true .lst (qs.map two)), z3, z4, z5]) :
    wS l_law_same_1 [a, b, some (.nd true .lst ((ps ++ [x]).map two)), z3, z4, z5] Q := by
  have e1 : (ps.map two ++ [two x])[ps.length]? = some (two x) := by
    rw [List.getElem?_append_right (by simp)]; simp
  have sp := szL_len ps
  cases hx with
  | non =>
    simp [l_law_same_1, e1]
    exact hQ ps _ _ _ hp (by simp [sz] at hl; omega)
  | bl c =>
    cases c <;> simp [l_law_same_1, e1, isBlD, fIsi, tyN] <;> exact hQ ps _ _ _ hp (by simp [sz] at hl; omega)
  | int c =>
    simp [l_law_same_1, e1, isBlD, fIsi, tyN]
    exact hQ ps _ _ _ hp (by simp [sz] at hl; omega)
  | str c =>
    simp [l_law_same_1, e1, isBlD, fIsi, tyN]
    exact hQ ps _ _ _ hp (by simp [sz] at hl; omega)
  | @lst xs h =>
    have hz : szL ps + (szL xs + 1) = n := by simpa [sz] using hl
    have lx := szL_len xs
    have r1 : (xs.length : Int) < 4611686018427387904 := by omega
    simp [l_law_same_1, e1, isBlD, fIsi, tyN, r1]
    exact same_push rfl hp h hz hn a b z5 Q hQ
  | @tup xs h =>
    have hz : szL ps + (szL xs + 1) = n := by simpa [sz] using hl
    have lx := szL_len xs
    have r1 : (xs.length : Int) < 4611686018427387904 := by omega
    simp [l_law_same_1, e1, isBlD, fIsi, tyN, r1]
    exact same_push rfl hp h hz hn a b z5 Q hQ
theorem spec_same {x : D} (hx : Pl x) (hs : sz x ≤ 900000) : wF fn_law_same [x, x] fun d o => d = .bl true := by
  refine wF_run ?_
  simp [m_law_same, hx.rd, hx.fz]
  refine whL_ok (fun n ρ => ∃ (ps : List D) (z3 z4 z5 : Option D), (∀ y ∈ ps, Pl y) ∧ szL ps = n ∧ n ≤ 900000 ∧ ρ = [some x, some x, some (.nd true .lst (ps.map two)), z3, z4, z5]) 1000000 (sz x) (by omega) ⟨[x], none, none, none, by simpa using hx, by simp [szL], hs, by simp⟩ ?_
  rintro n ρ ⟨ps, z3, z4, z5, hp, hn, hb, rfl⟩
  simp [truD]
  intro hne
  obtain ⟨qs, y, rfl⟩ : ∃ qs y, ps = qs ++ [y] := by
    rcases List.eq_nil_or_concat ps with e | ⟨qs, y, e⟩
    · exact (hne e).elim
    · exact ⟨qs, y, by simpa using e⟩
  refine same_round (n := n) (fun z hz => hp z (by simp [hz])) (hp y (by simp)) (by rw [← hn, szL_append]; simp [szL]) (by omega) _ _ _ _ _ _ fun rs z3 z4 z5 hr hlt => ?_
  simp
  exact ⟨_, hlt, rs, hr, rfl, by omega, rfl⟩
theorem IsHand.off {h : D} (hh : IsHand h) {i : Nat} {ρ : Pv.Env} : offA i h ρ = ρ.set i none := by
  obtain ⟨cs, p, r, a, b, rfl, _⟩ := hh; rfl
theorem IsHand.noF {h : D} (hh : IsHand h) : isF h = false := by
  obtain ⟨cs, p, r, a, b, rfl, _⟩ := hh; rfl
theorem draw {h : D} (hh : IsHand h) (n : Nat) (hn : 0 < n) (hs : n < 2 ^ 60) : wF fn_law_draw [h, .int n] fun d o => ∃ h' k, d = .int (k : Nat) ∧ k < n ∧ IsHand h' ∧ o = [some h', some (.int n)] := by
  obtain ⟨cs, p, r, a, b, rfl, hp⟩ := hh
  refine (spec_draw cs p r a b hp n (by omega) (by omega)).mono ?_
  rintro _ _ ⟨h', k, rfl, h0, h1, h2, rfl⟩
  obtain ⟨j, rfl⟩ := Int.eq_ofNat_of_zero_le h0
  exact ⟨h', j, rfl, by omega, h2, rfl⟩
theorem spec_hand (ns : List Int) : wF fn_law_hand [.nd false .ro (ns.map .int)] fun d o => IsHand d ∧ o = [some (.nd false .ro (ns.map .int))] := by
  refine wF_run ?_
  have e1 : ∀ l : List Int, cutD (l.map D.int) none (some 63) = (l.take 63).map D.int := fun l => by
    show ((l.map D.int).drop 0).take (min 63 (l.map D.int).length - 0) = (l.take 63).map D.int
    rw [List.drop_zero, List.map_take, Nat.sub_zero, List.take_eq_take_min]
    simp
  simp [m_law_hand, fCutL, okOwn_cons, wipeE_cons, restE_cons, e1, -List.map_take]
  refine exO_of (lcL_mapT (F := fun x => D.int x) (ns.take 63) (fun x hx => ⟨_, rfl, ?_⟩) (by simp; omega)) ?_
  · simp [wipeE_cons]
  simp
  exact ⟨ns.take 63, 0, 0, 20011, 48611, by simp [hand], by decide⟩
end
/-! K50q -/
section
theorem nat_emod (a : Int) {n : Nat} (hn : 0 < n) : ∃ k : Nat, a % (n : Int) = k ∧ k < n := by
  have h0 := Int.emod_nonneg a (show (n : Int) ≠ 0 by omega)
  have h1 := Int.emod_lt_of_pos a (show (0 : Int) < n by omega)
  obtain ⟨k, e⟩ := Int.eq_ofNat_of_zero_le h0
  exact ⟨k, e, by omega⟩
/-- ties of n nodes -/
def InN (n : Nat) (L : List Tie) : Prop := ∀ t ∈ L, t.1 < n ∧ t.2.1 < n
theorem InN.app {n : Nat} {L : List Tie} (h : InN n L) {u v : Nat} {c : Int} (hu : u < n) (hv : v < n) : InN n (L ++ [(u, v, c)]) := by
  intro t ht
  rcases List.mem_append.mp ht with q | q
  · exact h t q
  · simp at q; subst q; exact ⟨hu, hv⟩
theorem InN.cat {n : Nat} {L M : List Tie} (h : InN n L) (g : InN n M) : InN n (L ++ M) := fun t ht => (List.mem_append.mp ht).elim (h t) (g t)
theorem Good_app {f : Nat → Int} {L : List Tie} (h : Good f L) {u v : Nat} {c : Int} (l : f u - f v ≤ c) : Good f (L ++ [(u, v, c)]) := by
  intro t ht
  rcases List.mem_append.mp ht with q | q
  · exact h t q
  · simp at q; subst q; exact l
theorem Good_cat {f : Nat → Int} {L M : List Tie} (h : Good f L) (g : Good f M) : Good f (L ++ M) := fun t ht => (List.mem_append.mp ht).elim (h t) (g t)
theorem spec_tiesG {h : D} (hh : IsHand h) (ws : List Int) (m most slack : Nat) (hmo : most ≤ 1000) (hs0 : 0 < slack) (hsl : slack ≤ 1000) (hw : ws.length = m + 1) (h1 : 0 < m) (hm : m ≤ 100) : wF fn_law_ties [h, wit ws, .int most, .int slack] fun d o => ∃ h' L, d = ties true .lst L ∧ InN (m + 1) L ∧ Good (at_ ws) L ∧ L.length ≤ most ∧ IsHand h' ∧ o = [some h', some (wit ws), some (.int most), some (.int slack)] := by
  refine wF_run ?_
  simp [m_law_ties, hw]
  simp [takeA_sl, hh.off]
  have em : D.int ((most : Int) + 1) = D.int ((most + 1 : Nat) : Int) := by simp
  rw [em]
  refine (draw hh (most + 1) (by omega) (by omega)).mono ?_
  rintro _ _ ⟨h', k, rfl, hk, hh', rfl⟩
  have r1 : (k : Int) < 4611686018427387904 := by omega
  have r2 : -4611686018427387904 ≤ (k : Int) := by omega
  simp [putA_sl, fx_law_draw, r1, r2]
  refine forL_range (fun j ρ => ∃ (h' : D) (L : List Tie) (z1 z2 z3 : Option D), ρ = [some h', some (wit ws), some (.int most), some (.int slack), some (.int m), some (ties true .lst L), z1, z2, z3] ∧ IsHand h' ∧ InN (m + 1) L ∧ Good (at_ ws) L ∧ L.length = j) ⟨h', [], none, none, none, rfl, hh', by simp [InN], by simp [Good], rfl⟩ ?_ ?_
  · rintro j hj ρ ⟨h', L, z1, z2, z3, rfl, hh, hi, hg, hl⟩
    refine ⟨_, rfl, ?_⟩
    simp [l_law_ties_0, takeA_sl, hh.off]
    have e1 : D.int ((m : Int) + 1) = D.int ((m + 1 : Nat) : Int) := by simp
    rw [e1]
    refine (draw hh (m + 1) (by omega) (by omega)).mono ?_
    rintro _ _ ⟨h', u, rfl, hu, hh, rfl⟩
    simp [putA_sl, fx_law_draw, takeA_sl, hh.off]
    refine (draw hh m (by omega) (by omega)).mono ?_
    rintro _ _ ⟨h', x, rfl, hx, hh, rfl⟩
    obtain ⟨v, ev, hv⟩ := nat_emod ((u : Int) + 1 + x) (show 0 < m + 1 by omega)
    have ev : ((u : Int) + 1 + x) % ((m : Int) + 1) = v := by simpa using ev
    have p1 : (0 : Int) < (m : Int) + 1 := by omega
    simp [putA_sl, fx_law_draw, takeA_sl, hh.off, ev, p1, ix_wit (ws := ws) (show u < ws.length by omega), ix_wit (ws := ws) (show v < ws.length by omega)]
    refine (draw hh slack (by omega) (by omega)).mono ?_
    rintro _ _ ⟨h', y, rfl, hy, hh, rfl⟩
    simp [putA_sl, fx_law_draw, tri_eq]
    exact ⟨by omega, h', _, ⟨rfl, rfl⟩, hh, hi.app hu hv, Good_app hg (by omega), by simp [hl]⟩
  · rintro ρ ⟨h', L, z1, z2, z3, rfl, hh, hi, hg, hl⟩
    simp
    exact ⟨h', L, rfl, hi, hg, by omega, hh, rfl⟩
theorem spec_ties {h : D} (hh : IsHand h) (ws : List Int) (m : Nat) (hw : ws.length = m + 1) (h1 : 0 < m) (hm : m ≤ 100) : wF fn_law_ties [h, wit ws, .int 12, .int 4] fun d o => ∃ h' L, d = ties true .lst L ∧ InN (m + 1) L ∧ Good (at_ ws) L ∧ L.length ≤ 12 ∧ IsHand h' ∧ o = [some h', some (wit ws), some (.int 12), some (.int 4)] := spec_tiesG hh ws m 12 4 (by omega) (by omega) (by omega) hw h1 hm
end
end
end S

/-! Pw4 -/
set_option Elab.async false
set_option linter.all false
set_option maxRecDepth 100000
set_option maxHeartbeats 1000000
namespace Pv
open PySem L2
section
variable {α β : Type} {ρ : Env} {m m1 m2 : MS} {ma mb mi me mk mv : M D} {fn : Fn} {ds : List D}
@[simp] theorem wM_disp1 {P : D → Env → Prop} : wM (mDisp1 mk mv) ρ P ↔ wM mk ρ fun k ρ1 => wM mv ρ1 fun v ρ2 => exO (dKey k) fun q => isFlat v = true ∧ P (.nd true (.dK [q]) [v]) ρ2 := by
  rw [mDisp1, wM_bind]
  refine wM_cg fun k ρ1 => ?_
  rw [wM_bind]
  refine wM_cg fun v ρ2 => ⟨fun p => ?_, fun p => ?_⟩
  · obtain ⟨a, ρ', e, p⟩ := p
    dsimp only at e
    split at e
    · split at e
      · cases e; exact ⟨_, by assumption, by assumption, p⟩
      · cases e
    · cases e
  · obtain ⟨q, e, h, p⟩ := p
    exact ⟨_, _, by dsimp only; rw [e]; exact if_pos h, p⟩
@[simp] theorem dKey_int {i : Int} : dKey (.int i) = some (.inl i) := rfl
theorem wM_lc2 {mi mi1 : M (List D)} {g g1 : D → Env → Option Env} {mt mt1 : M Bool} {vs vs1 : List Nat} {P : D → Env → Prop} : wM (mLc2 mi g mt mi1 g1 mt1 me vs vs1) ρ P ↔ wM mi (frzE ρ) fun ds ρ1 => allFz ρ1 = true ∧ exO (lcO g mt mi1 g1 mt1 me vs1 (wipeE ρ1 vs) ds []) fun ys => okBL ys = true ∧ P (.nd true .lst ys) ρ := by
  rw [mLc2, wM_br, mLc2F, wM_bind]
  refine wM_cg fun ds ρ1 => ⟨fun p => ?_, fun p => ?_⟩
  · obtain ⟨a, ρ', e, p⟩ := p
    dsimp only at e
    split at e
    · rename_i h
      split at e
      · rename_i ys e2; cases e; exact ⟨h, ys, e2, by simpa using p⟩
      · cases e
    · cases e
  · obtain ⟨h, ys, e, p⟩ := p
    exact ⟨_, _, by dsimp only; rw [if_pos h, e], by simpa using p⟩
theorem lcI_fm {g1 : D → Env → Option Env} {mt1 : M Bool} {ρw : Env} {enc1 : β → D} {F : β → Option D} : ∀ (xs : List β) (acc : List D),
    (∀ y ∈ xs, ∃ ρ5, g1 (enc1 y) ρw = some ρ5 ∧ allFz ρ5 = true ∧ wM mt1 ρ5 fun b _ => match F y with
      | some z => b = true ∧ isF z = true ∧ wM me ρ5 fun y' _ => y' = z
      | none => b = false) → acc.length + (xs.filterMap F).length ≤ 16777216 → lcI g1 mt1 me ρw (xs.map enc1) acc = some (acc ++ xs.filterMap F)
  | [], acc, _, _ => by simp [lcI]
  | x :: xs, acc, h, l => by
    obtain ⟨ρ5, e1, ef, b, ρ6, e2, p⟩ := h x (by simp)
    rw [List.map_cons, lcI, e1]
    dsimp only
    rw [if_pos ef, e2]
    cases q : F x with
    | none =>
      rw [q] at p
      subst p
      dsimp only
      rw [List.filterMap_cons, q] at l ⊢
      exact lcI_fm xs acc (fun y hy => h y (by simp [hy])) l
    | some z =>
      rw [q] at p
      obtain ⟨rfl, hf, y', ρ7, e3, rfl⟩ := p
      dsimp only
      rw [e3]
      dsimp only
      rw [List.filterMap_cons, q] at l ⊢
      simp only [List.length_cons] at l
      rw [if_pos ⟨hf, by omega⟩, lcI_fm xs (acc ++ [y']) (fun y hy => h y (by simp [hy])) (by simp; omega)]
      simp
theorem lcO_fm {mi1 : M (List D)} {g g1 : D → Env → Option Env} {mt mt1 : M Bool} {vs1 : List Nat} {ρw : Env} {enc : α → D} {enc1 : β → D} {G : α → List β} {F : α → β → Option D} : ∀ (xs : List α) (acc : List D),
    (∀ x ∈ xs, ∃ ρ4, g (enc x) ρw = some ρ4 ∧ allFz ρ4 = true ∧ (wM mt ρ4 fun b _ => b = true) ∧ (wM mi1 ρ4 fun ds1 _ => ds1 = (G x).map enc1) ∧
      ∀ y ∈ G x, ∃ ρ5, g1 (enc1 y) (wipeE ρ4 vs1) = some ρ5 ∧ allFz ρ5 = true ∧ wM mt1 ρ5 fun b _ => match F x y with
        | some z => b = true ∧ isF z = true ∧ wM me ρ5 fun y' _ => y' = z
        | none => b = false) → acc.length + (xs.flatMap fun x => (G x).filterMap (F x)).length ≤ 16777216 →
    lcO g mt mi1 g1 mt1 me vs1 ρw (xs.map enc) acc = some (acc ++ xs.flatMap fun x => (G x).filterMap (F x))
  | [], acc, _, _ => by simp [lcO]
  | x :: xs, acc, h, l => by
    obtain ⟨ρ4, e1, ef, ⟨b, ρ6, e2, rfl⟩, ⟨ds1, ρ7, e3, rfl⟩, hy⟩ := h x (by simp)
    rw [List.flatMap_cons, List.length_append] at l
    rw [List.map_cons, lcO, e1]
    dsimp only
    rw [if_pos ef, e2]
    dsimp only
    rw [e3]
    dsimp only
    rw [lcI_fm (G x) acc hy (by omega)]
    dsimp only
    rw [lcO_fm xs _ (fun y hy => h y (by simp [hy])) (by simp only [List.length_append]; omega), List.flatMap_cons, List.append_assoc]
@[simp] theorem allFz_nil : allFz [] = true := rfl
@[simp] theorem allFz_some {d : D} : allFz (some d :: ρ) = (isF d && allFz ρ) := rfl
@[simp] theorem allFz_none : allFz (none :: ρ) = allFz ρ := by show (true && allFz ρ) = _; rw [Bool.true_and]
end
end Pv

/-! Pw5 -/
set_option Elab.async false
set_option linter.all false
set_option maxRecDepth 100000
namespace Pv
open PySem L2
/-! what lets an exception out -/
section
variable {α β : Type} {ρ : Env} {c : Nat} {Q : Fl → Env → Prop}
def eM (m : M α) (ρ : Env) (c : Nat) (P : Env → Prop) : Prop := ∃ ρ', m ρ = some (.ex c, ρ') ∧ P ρ'
theorem eM_bind {m : M α} {f : α → M β} {P : Env → Prop} (h : eM m ρ c P) : eM (m.bind f) ρ c P := by
  obtain ⟨ρ', e, p⟩ := h
  exact ⟨ρ', by unfold M.bind; rw [e], p⟩
theorem eM_bind2 {m : M α} {f : α → M β} {P : Env → Prop} (h : wM m ρ fun a ρ1 => eM (f a) ρ1 c P) : eM (m.bind f) ρ c P := by
  obtain ⟨a, ρ1, e, ρ', e2, p⟩ := h
  exact ⟨ρ', by unfold M.bind; rw [e]; exact e2, p⟩
theorem eM_un {f : D → Option D} {m : M D} {P : Env → Prop} (h : eM m ρ c P) : eM (mUn f m) ρ c P := eM_bind h
theorem eM_bin {f : D → D → Option D} {m m2 : M D} {P : Env → Prop} (h : eM m ρ c P) : eM (mBin f m m2) ρ c P := eM_bind h
theorem eM_seq1 {f : D → Option (List D)} {m : M D} {P : Env → Prop} (h : eM m ρ c P) : eM (mSeq1 f m) ρ c P := eM_bind h
theorem eM_lc {mi : M (List D)} {g : D → Env → Option Env} {mt : M Bool} {me : M D} {vs : List Nat} {P : Env → Prop} (h : eM mi ρ c P) : eM (mLc mi g mt me vs) ρ c P := eM_bind h
theorem eM_call {fx : List Bool} {fn : Fn} {mr : M (List Arg)} {P : Env → Prop} (h : wM mr ρ fun as ρ1 => exO (takeA as ρ1) fun p => wFx fn p.1 fun r outs => r = .ex c ∧ P (putA as fx outs p.2)) : eM (mCall fx fn mr) ρ c P := by
  obtain ⟨as, ρ1, e, ⟨ds', ρ2⟩, e2, r, outs, e3, rfl, p⟩ := h
  refine ⟨_, ?_, p⟩
  unfold mCall M.bind
  rw [e]
  dsimp only
  rw [e2]
  dsimp only at e3 ⊢
  rw [e3]
theorem wX_retE {m : M D} (h : eM m ρ c fun ρ' => Q (.ex c) ρ') : wX (mRet m) ρ Q := by
  obtain ⟨ρ', e, p⟩ := h
  exact ⟨_, _, by unfold mRet mThen; rw [e], p⟩
theorem wF.x {fn : Fn} {ds : List D} {P : D → List (Option D) → Prop} (h : wF fn ds P) : wFx fn ds fun r o => ∃ d, r = .ok d ∧ P d o := let ⟨d, o, e, p⟩ := h; ⟨_, o, e, d, rfl, p⟩
theorem wFx.ok {fn : Fn} {ds : List D} {P : D → List (Option D) → Prop} (h : wFx fn ds fun r o => ∃ d, r = .ok d ∧ P d o) : wF fn ds P := by
  obtain ⟨r, o, e, d, rfl, p⟩ := h
  exact ⟨d, o, e, p⟩
end
end Pv

/-! KtW -/
set_option Elab.async false
set_option linter.all false
set_option maxRecDepth 100000
namespace Kt
/-! closed tables of whole numbers, walks -/
abbrev Pr := Nat × Nat
structure CT (n : Nat) (t : Nat → Nat → Int) : Prop where
  dg : ∀ a, a < n → t a a = 0
  tri : ∀ a b j, a < n → b < n → j < n → t a b ≤ t a j + t j b
def InE (n : Nat) (E : List Pr) : Prop := ∀ p ∈ E, p.1 < n ∧ p.2 < n
inductive Wk (t : Nat → Nat → Int) (E : List Pr) : Nat → Nat → Nat → Int → Prop where
  | nil (u : Nat) : Wk t E u u 0 0
  | cons {u v w k : Nat} {c : Int} (e : (u, v) ∈ E) (r : Wk t E v w k c) : Wk t E u w (k + 1) (t u v + c)
variable {n : Nat} {t : Nat → Nat → Int} {E E' : List Pr} {u v w k j : Nat} {c d : Int}
theorem Wk.app (a : Wk t E u v k c) (b : Wk t E v w j d) : Wk t E u w (k + j) (c + d) := by
  induction a with
  | nil u => simpa using b
  | @cons u v w k c e r ih =>
    have := Wk.cons e (ih b)
    rw [show k + 1 + j = k + j + 1 by omega, Int.add_assoc]
    exact this
theorem Wk.one (e : (u, v) ∈ E) : Wk t E u v 1 (t u v) := by
  have := Wk.cons (t := t) e (.nil v)
  simpa using this
theorem Wk.snoc (a : Wk t E u v k c) (e : (v, w) ∈ E) : Wk t E u w (k + 1) (c + t v w) := a.app (.one e)
theorem Wk.le (h : CT n t) (hE : InE n E) (a : Wk t E u v k c) (hu : u < n) : v < n ∧ t u v ≤ c := by
  induction a with
  | nil u => exact ⟨hu, by rw [h.dg _ hu]; omega⟩
  | @cons u v w k c e r ih =>
    have hv := (hE _ e).2
    obtain ⟨hw, l⟩ := ih hv
    have := h.tri u w v hu hw hv
    exact ⟨hw, by omega⟩
theorem Wk.mono (a : Wk t E u v k c) (s : ∀ p ∈ E, p ∈ E') : Wk t E' u v k c := by
  induction a with
  | nil u => exact .nil u
  | cons e r ih => exact .cons (s _ e) ih
/-- a way that is as short as the entry -/
def Shn (t : Nat → Nat → Int) (E : List Pr) (p : Pr) : Prop := ∃ k c, Wk t E p.1 p.2 k c ∧ c ≤ t p.1 p.2
theorem Shn.mono {p : Pr} (h : Shn t E p) (s : ∀ q ∈ E, q ∈ E') : Shn t E' p := let ⟨k, c, w, l⟩ := h; ⟨k, c, w.mono s, l⟩
/-- edges that are shown may be left out -/
theorem Wk.sub (a : Wk t E u v k c) (s : ∀ q ∈ E, Shn t E' q) : ∃ j d, Wk t E' u v j d ∧ d ≤ c := by
  induction a with
  | nil u => exact ⟨0, 0, .nil u, by omega⟩
  | cons e r ih =>
    obtain ⟨j, d, w, l⟩ := ih
    obtain ⟨k', c', w', l'⟩ := s _ e
    exact ⟨_, _, w'.app w, by dsimp only at l'; omega⟩
theorem Shn.sub {p : Pr} (h : Shn t E p) (s : ∀ q ∈ E, Shn t E' q) : Shn t E' p := by
  obtain ⟨k, c, w, l⟩ := h
  obtain ⟨j, d, w', l'⟩ := w.sub s
  exact ⟨j, d, w', by omega⟩
/-! leaving out from the end -/
inductive Few (t : Nat → Nat → Int) (o : List Pr) : Nat → List Pr → Prop where
  | start : Few t o o.length []
  | drop {k : Nat} {r : List Pr} {p : Pr} (f : Few t o (k + 1) r) (e : o[k]? = some p) (s : Shn t (o.take k ++ r) p) : Few t o k r
  | keep {k : Nat} {r : List Pr} {p : Pr} (f : Few t o (k + 1) r) (e : o[k]? = some p) (s : ¬ Shn t (o.take k ++ r) p) : Few t o k (p :: r)
variable {o r r' : List Pr} {p : Pr}
theorem Few.le (f : Few t o k r) : k ≤ o.length := by
  cases f with
  | start => exact Nat.le_refl _
  | drop f e s => have := (List.getElem?_eq_some_iff.mp e).1; omega
  | keep f e s => have := (List.getElem?_eq_some_iff.mp e).1; omega
theorem Few.det (f : Few t o k r) : ∀ {r'}, Few t o k r' → r = r' := by
  generalize hk : k = j at f
  induction f generalizing k with
  | start =>
    intro r' g
    cases g with
    | start => rfl
    | drop f e s => have := (List.getElem?_eq_some_iff.mp e).1; omega
    | keep f e s => have := (List.getElem?_eq_some_iff.mp e).1; omega
  | @drop k' r p f e s ih =>
    intro r' g
    cases g with
    | start => have := (List.getElem?_eq_some_iff.mp e).1; omega
    | drop g e' s' => exact ih rfl g
    | keep g e' s' =>
      rw [e] at e'; cases e'
      have := ih rfl g
      subst this
      exact (s' s).elim
  | @keep k' r p f e s ih =>
    intro r' g
    cases g with
    | start => have := (List.getElem?_eq_some_iff.mp e).1; omega
    | drop g e' s' =>
      rw [e] at e'; cases e'
      have := ih rfl g
      subst this
      exact (s s').elim
    | keep g e' s' =>
      rw [e] at e'; cases e'
      have := ih rfl g
      subst this
      rfl
theorem take_snoc {α : Type} {l : List α} {k : Nat} {x : α} (e : l[k]? = some x) : l.take (k + 1) = l.take k ++ [x] := by
  obtain ⟨h, e⟩ := List.getElem?_eq_some_iff.mp e
  rw [← List.take_append_getElem h, e]
/-- all are shown by what is kept -/
theorem Few.cov (f : Few t o k r) : ∀ q ∈ o, Shn t (o.take k ++ r) q := by
  induction f with
  | start =>
    intro q hq
    exact ⟨1, _, Wk.one (by simpa using hq), Int.le_refl _⟩
  | @drop k r p f e s ih =>
    intro q hq
    refine (ih q hq).sub fun x hx => ?_
    rw [take_snoc e] at hx
    simp at hx
    rcases hx with hx | rfl | hx
    · exact ⟨1, _, Wk.one (by simp [hx]), Int.le_refl _⟩
    · exact s
    · exact ⟨1, _, Wk.one (by simp [hx]), Int.le_refl _⟩
  | @keep k r p f e s ih =>
    intro q hq
    refine (ih q hq).mono fun x hx => ?_
    rw [take_snoc e] at hx
    simp at hx ⊢
    rcases hx with hx | rfl | hx
    · exact .inl hx
    · exact .inr (.inl rfl)
    · exact .inr (.inr hx)
/-- none can be left out -/
theorem Few.min (f : Few t o k r) : ∀ p ∈ r, ∀ E : List Pr, (∀ q ∈ E, q ∈ o.take k ++ r ∧ q ≠ p) → ¬ Shn t E p := by
  induction f with
  | start => intro p hp; cases hp
  | @drop k r p f e s ih =>
    intro q hq E hE
    refine ih q hq E fun x hx => ⟨?_, (hE x hx).2⟩
    rw [take_snoc e]
    have := (hE x hx).1
    simp at this ⊢
    rcases this with h | h
    · exact .inl h
    · exact .inr (.inr h)
  | @keep k r p f e s ih =>
    intro q hq E hE
    rcases List.mem_cons.mp hq with rfl | hq
    · intro z
      refine s (z.mono fun x hx => ?_)
      obtain ⟨h1, h2⟩ := hE x hx
      simp at h1 ⊢
      rcases h1 with h | h | h
      · exact .inl h
      · exact (h2 h).elim
      · exact .inr h
    · refine ih q hq E fun x hx => ⟨?_, (hE x hx).2⟩
      rw [take_snoc e]
      have := (hE x hx).1
      simp at this ⊢
      rcases this with h | h | h
      · exact .inl h
      · exact .inr (.inl h)
      · exact .inr (.inr h)
theorem Few.mem (f : Few t o k r) : ∀ p ∈ r, p ∈ o := by
  induction f with
  | start => intro p hp; cases hp
  | drop f e s ih => exact ih
  | keep f e s ih =>
    intro q hq
    rcases List.mem_cons.mp hq with rfl | hq
    · exact List.mem_of_getElem? e
    · exact ih q hq
theorem Few.nodup (f : Few t o k r) (ho : o.Nodup) : (o.take k ++ r).Nodup := by
  induction f with
  | start => simpa using ho
  | @drop k r p f e s ih =>
    rw [take_snoc e, List.append_assoc] at ih
    exact ih.sublist (List.Sublist.append_left (List.sublist_append_right _ _) _)
  | @keep k r p f e s ih =>
    rw [take_snoc e, List.append_assoc] at ih
    exact ih
/-! a table that is closed, told by ties -/
def It (t : Nat → Nat → Int) : Tab := fun a b => some (t a b)
def trp (t : Nat → Nat → Int) (E : List Pr) : List Tie := E.map fun p => (p.1, p.2, t p.1 p.2)
theorem Wk.der (a : Wk t E u v k c) (hE : InE n E) (hu : u < n) : Der n (trp t E) u v c := by
  induction a with
  | nil u => exact Der.refl hu
  | @cons u v w k c e r ih =>
    refine Der.trans (Der.tie ?_) (ih (hE _ e).2) (hE _ e).2
    exact List.mem_map.mpr ⟨_, e, rfl⟩
/-- what a closing tells comes of a walk -/
theorem fin_walk (hE : InE n E) : ∀ {a b x}, Bd (fin n (trp t E)) a b x → ∃ k c, Wk t E a b k c ∧ c ≤ x := by
  have st : ∀ j, ∀ {a b x}, Bd (fw j (ini n (trp t E))) a b x → ∃ k c, Wk t E a b k c ∧ c ≤ x := by
    intro j
    induction j with
    | zero =>
      intro a b x h
      rcases bd_ini.mp h with ⟨rfl, _, l⟩ | ⟨d, h, l⟩
      · exact ⟨0, 0, .nil a, l⟩
      · obtain ⟨p, hp, e⟩ := List.mem_map.mp h
        cases e
        exact ⟨1, _, .one hp, l⟩
    | succ j ih =>
      intro a b x h
      rcases bd_stp.mp h with h | ⟨p, q, h1, h2, l⟩
      · exact ih h
      · obtain ⟨k1, c1, w1, l1⟩ := ih h1
        obtain ⟨k2, c2, w2, l2⟩ := ih h2
        exact ⟨_, _, w1.app w2, by omega⟩
  exact fun {a b x} h => st n h
theorem good_trp (h : CT n t) (hn : 0 < n) (hE : InE n E) : Good (fun u => t u 0) (trp t E) := by
  intro x hx
  obtain ⟨p, hp, rfl⟩ := List.mem_map.mp hx
  obtain ⟨h1, h2⟩ := hE p hp
  have := h.tri p.1 0 p.2 h1 hn h2
  dsimp only
  omega
theorem fin_eq (h : CT n t) (hn : 0 < n) (hE : InE n E) (cov : ∀ u v, u < n → v < n → u ≠ v → Shn t E (u, v)) {a b : Nat} (ha : a < n) (hb : b < n) : fin n (trp t E) a b = some (t a b) := by
  have up : Bd (fin n (trp t E)) a b (t a b) := by
    have z : Der n (trp t E) a b (t a b) := by
      by_cases e : a = b
      · subst e; rw [h.dg a ha]; exact Der.refl ha
      · obtain ⟨k, c, w, l⟩ := cov a b ha hb e
        exact fun F h1 h2 h3 => (w.der hE ha F h1 h2 h3).mono l
    have g := (good_trp h hn hE).nn (n := n)
    exact z _ (fun x hx => bd_fw (bd_ini.mpr (.inr ⟨x.2.2, hx, Int.le_refl _⟩)) n) (fun a ha => bd_fw (bd_ini.mpr (.inl ⟨rfl, ha, by omega⟩)) n) (fw_cl g n (Nat.le_refl _))
  obtain ⟨x, e, l⟩ := up
  obtain ⟨k, c, w, l'⟩ := fin_walk hE ⟨x, e, Int.le_refl _⟩
  have := (w.le h hE ha).2
  rw [e]
  congr 1
  omega
end Kt

/-! KtD -/
set_option Elab.async false
set_option linter.all false
set_option maxRecDepth 100000
set_option maxHeartbeats 1000000
namespace Kt
open PySem L2 Pv
variable {n m : Nat} {t : Nat → Nat → Int} {E : List Pr} {L : List Tie}
def optP : Option Int → PyData
  | none => .none
  | some i => .int i
def rowP (T : Tab) (n a : Nat) : PyData := .tuple ((List.range n).map fun b => optP (T a b))
theorem py_row {T : Tab} {a : Nat} : toPy (row false .tup T n a) = some (rowP T n a) := by
  show (toPyL ((List.range n).map fun b => optD (T a b))).map PyData.tuple = _
  rw [toPyL_map (g := fun b => optP (T a b)) fun b _ => by cases T a b <;> rfl]
  rfl
theorem py_tab {T : Tab} : toPy (tupT T n) = some (.tuple ((List.range n).map (rowP T n))) := by
  show (toPyL ((List.range n).map fun a => row false .tup T n a)).map PyData.tuple = _
  rw [toPyL_map (g := rowP T n) fun a _ => py_row]; rfl
theorem shaped_tab {T : Tab} : SeqAt.shaped (.tuple ((List.range n).map (rowP T n))) = true := by
  unfold SeqAt.shaped
  rw [Bool.and_eq_true]
  constructor
  · rw [PyData.canLay0, canL_map]
    intro a _
    rw [rowP, PyData.canLay0, canL_map]
    intro b _
    cases T a b <;> simp [optP, PyData.canLay0]
  · rw [decide_eq_true_iff, PyData.depth]
    have := depL_map (g := rowP T n) (m := 1) (l := List.range n) fun a _ => by
      rw [rowP, PyData.depth]
      have := depL_map (g := fun b => optP (T a b)) (m := 0) (l := List.range n) fun b _ => by cases T a b <;> simp [optP, PyData.depth]
      omega
    omega
theorem tupT_ext {T T' : Tab} (h : ∀ a b, a < n → b < n → T a b = T' a b) : tupT T n = tupT T' n := by
  unfold tupT row
  congr 1
  refine List.map_congr_left fun a ha => ?_
  congr 1
  refine List.map_congr_left fun b hb => ?_
  rw [h a b (by simpa using ha) (by simpa using hb)]
/-- a full closing as whole numbers -/
def num (T : Tab) : Nat → Nat → Int := fun a b => (T a b).getD 0
theorem fin_CT {f : Nat → Int} (g : Good f L) (fu : full n (fin n L)) : CT n (num (fin n L)) ∧ ∀ a b, a < n → b < n → fin n L a b = some (num (fin n L) a b) := by
  have e : ∀ a b, a < n → b < n → fin n L a b = some (num (fin n L) a b) := fun a b ha hb => by
    unfold num
    cases q : fin n L a b with
    | none => exact (fu a ha b hb q).elim
    | some x => rfl
  have bd : ∀ a b, a < n → b < n → Bd (fin n L) a b (num (fin n L) a b) := fun a b ha hb => ⟨_, e a b ha hb, Int.le_refl _⟩
  have nn := g.nn (n := n)
  refine ⟨⟨fun a ha => ?_, fun a b j ha hb hj => ?_⟩, e⟩
  · have h1 := nn a ha _ (bd a a ha ha)
    obtain ⟨x, ex, l⟩ := (bd_fw (bd_ini.mpr (.inl ⟨rfl, ha, by omega⟩) : Bd (ini n L) a a 0) n)
    have e2 := e a a ha ha
    rw [show fw n (ini n L) = fin n L from rfl, e2] at ex
    cases ex
    omega
  · obtain ⟨x, ex, l⟩ := fw_cl nn n (Nat.le_refl _) j hj a b _ _ (bd a j ha hj) (bd j b hj hb)
    have e2 := e a b ha hb
    rw [show fw n (ini n L) = fin n L from rfl, e2] at ex
    cases ex
    exact l
/-- bounds both ways for each -/
def Both (m : Nat) (L : List Tie) : Prop := ∀ k, 0 < k → k < m + 1 → (∃ c, (k, 0, c) ∈ L) ∧ ∃ c, (0, k, c) ∈ L
theorem Both.full {f : Nat → Int} (g : Good f L) (b : Both m L) : full (m + 1) (fin (m + 1) L) := by
  have cl := fw_cl (g.nn (n := m + 1)) (m + 1) (Nat.le_refl _)
  have tie : ∀ u v c, (u, v, c) ∈ L → Bd (fin (m + 1) L) u v c := fun u v c h => bd_fw (bd_ini.mpr (.inr ⟨c, h, Int.le_refl _⟩)) (m + 1)
  have dg : ∀ u, u < m + 1 → Bd (fin (m + 1) L) u u 0 := fun u h => bd_fw (bd_ini.mpr (.inl ⟨rfl, h, by omega⟩)) (m + 1)
  have to0 : ∀ u, u < m + 1 → ∃ c, Bd (fin (m + 1) L) u 0 c := fun u h => by
    by_cases q : u = 0
    · subst q; exact ⟨0, dg 0 h⟩
    · obtain ⟨c, hc⟩ := (b u (by omega) h).1; exact ⟨c, tie _ _ _ hc⟩
  have of0 : ∀ u, u < m + 1 → ∃ c, Bd (fin (m + 1) L) 0 u c := fun u h => by
    by_cases q : u = 0
    · subst q; exact ⟨0, dg 0 h⟩
    · obtain ⟨c, hc⟩ := (b u (by omega) h).2; exact ⟨c, tie _ _ _ hc⟩
  intro u hu v hv e
  obtain ⟨c1, h1⟩ := to0 u hu
  obtain ⟨c2, h2⟩ := of0 v hv
  obtain ⟨x, ex, _⟩ := cl 0 (by omega) u v c1 c2 h1 h2
  rw [show fw (m + 1) (ini (m + 1) L) = fin (m + 1) L from rfl, e] at ex
  cases ex
theorem eqvAll_ne {α : Type} {f g : α → PyData} : ∀ {l : List α}, (∃ x ∈ l, (f x).eqv (g x) = false) → PyData.eqvAll (l.map f) (l.map g) = false
  | [], ⟨x, h, _⟩ => by cases h
  | y :: l, ⟨x, h, e⟩ => by
    rw [List.map_cons, List.map_cons, PyData.eqvAll]
    rcases List.mem_cons.mp h with rfl | h
    · rw [e, Bool.false_and]
    · rw [eqvAll_ne ⟨x, h, e⟩, Bool.and_false]
theorem ne_tab {F T : Tab} {a b : Nat} (ha : a < n) (hb : b < n) (e : F a b ≠ T a b) : fNeD (tupT F n) (tupT T n) = some (.bl true) := by
  show eqD true _ _ = _
  unfold eqD
  rw [py_tab, py_tab]
  dsimp only
  rw [if_pos ⟨shaped_tab, shaped_tab⟩, if_pos rfl]
  rw [PyData.eqv, eqvAll_ne ⟨a, by simpa using ha, ?_⟩]
  · rfl
  · rw [rowP, rowP, PyData.eqv, eqvAll_ne ⟨b, by simpa using hb, ?_⟩]
    cases h1 : F a b with
    | none =>
      cases h2 : T a b with
      | none => exact (e (h1.trans h2.symm)).elim
      | some y => simp [optP, PyData.eqv]
    | some x =>
      cases h2 : T a b with
      | none => simp [optP, PyData.eqv]
      | some y =>
        simp [optP, PyData.eqv]
        rintro rfl
        exact e (h1.trans h2.symm)
theorem eqv_all {d : PyData} (h : d.canLay0 = true) : d.eqv d = true := eqv_refl d h
theorem eqD_tab {F T : Tab} (e : ∀ a b, a < n → b < n → F a b = T a b) : fEqD (tupT F n) (tupT T n) = some (.bl true) := by
  rw [tupT_ext e]
  show eqD false _ _ = _
  unfold eqD
  rw [py_tab]
  dsimp only
  rw [if_pos ⟨shaped_tab, shaped_tab⟩, if_neg (by simp), eqv_refl _ (SeqAt.canLay_of_shaped shaped_tab)]
theorem eqD_tabN {F T : Tab} {a b : Nat} (ha : a < n) (hb : b < n) (e : F a b ≠ T a b) : fEqD (tupT F n) (tupT T n) = some (.bl false) := by
  have := ne_tab ha hb e
  replace this : eqD true (tupT F n) (tupT T n) = some (.bl true) := this
  show eqD false _ _ = _
  unfold eqD at this ⊢
  rw [py_tab, py_tab] at this ⊢
  dsimp only at this ⊢
  rw [if_pos ⟨shaped_tab, shaped_tab⟩] at this ⊢
  simp at this ⊢
  exact this
theorem eqD_non {T : Tab} : fEqD .non (tupT T n) = some (.bl false) := by
  have hs : SeqAt.shaped .none = true := by decide +kernel
  show eqD false _ _ = _
  unfold eqD
  rw [py_tab]
  simp [toPy, shaped_tab, hs, PyData.eqv]
/-! a closing of whole numbers -/
theorem fw_It (ct : CT n t) : ∀ k, k ≤ n → ∀ a b, a < n → b < n → fw k (dgf n (It t)) a b = some (t a b)
  | 0, _, a, b, ha, hb => by
    show dgf n (It t) a b = _
    unfold dgf
    by_cases q : a = b ∧ a < n
    · rw [if_pos q]
      obtain ⟨rfl, _⟩ := q
      have := ct.dg a ha
      show low (some (t a a)) (some 0) = _
      rw [this]; rfl
    · rw [if_neg q]; rfl
  | k + 1, hk, a, b, ha, hb => by
    show low (fw k _ a b) (oadd (fw k _ a k) (fw k _ k b)) = _
    rw [fw_It ct k (by omega) a b ha hb, fw_It ct k (by omega) a k ha (by omega), fw_It ct k (by omega) k b (by omega) hb]
    have := ct.tri a b k ha hb (by omega)
    show (if t a k + t k b < t a b then some (t a k + t k b) else some (t a b)) = _
    rw [if_neg (by omega)]
theorem fw_diag : ∀ k, ∀ a, a < n → ∃ x, fw k (dgf n (It t)) a a = some x ∧ x ≤ 0
  | 0, a, ha => by
    show ∃ x, dgf n (It t) a a = some x ∧ x ≤ 0
    unfold dgf
    rw [if_pos ⟨rfl, ha⟩]
    show ∃ x, low (some (t a a)) (some 0) = some x ∧ x ≤ 0
    unfold low
    by_cases q : (0 : Int) < t a a
    · exact ⟨0, by simp [q], by omega⟩
    · exact ⟨t a a, by simp [q], by omega⟩
  | k + 1, a, ha => by
    obtain ⟨x, e, l⟩ := fw_diag k a ha
    have : Bd (fw (k + 1) (dgf n (It t))) a a 0 := bd_stp.mpr (.inl ⟨x, e, l⟩)
    exact this
theorem CT_of {R : Tab} (hR : R = fw n (dgf n (It t))) (z : nn n R) (e : ∀ a b, a < n → b < n → R a b = some (t a b)) : CT n t := by
  subst hR
  have cl := fw_cl z n (Nat.le_refl _)
  refine ⟨fun a ha => ?_, fun a b j ha hb hj => ?_⟩
  · obtain ⟨x, ex, l⟩ := fw_diag (t := t) n a ha
    rw [e a a ha ha] at ex; cases ex
    have := z a ha _ ⟨_, e a a ha ha, Int.le_refl _⟩
    omega
  · obtain ⟨x, ex, l⟩ := cl j hj a b _ _ ⟨_, e a j ha hj, Int.le_refl _⟩ ⟨_, e j b hj hb, Int.le_refl _⟩
    rw [e a b ha hb] at ex; cases ex
    exact l
end Kt

/-! KtE -/
set_option Elab.async false
set_option linter.all false
set_option maxRecDepth 100000
set_option maxHeartbeats 1000000
/-! Points of a box, listed in order; the points that keep a table are those that the table unfolds. -/
namespace Kt
open PySem L2 Pv
def grow (lo : Int) (n : Nat) (rows : List (List Int)) : List (List Int) := rows.flatMap fun r => (List.range n).map fun s : Nat => r ++ [lo + (s : Int)]
def pts : List (Int × Nat) → List (List Int) → List (List Int)
  | [], rows => rows
  | b :: B, rows => pts B (grow b.1 b.2 rows)
theorem pts_snoc : ∀ {B : List (Int × Nat)} {b : Int × Nat} {rows : List (List Int)}, pts (B ++ [b]) rows = grow b.1 b.2 (pts B rows)
  | [], _, _ => rfl
  | _ :: B, b, rows => pts_snoc (B := B)
theorem mem_grow {lo : Int} {n : Nat} {rows : List (List Int)} {r : List Int} : r ∈ grow lo n rows ↔ ∃ q ∈ rows, ∃ s : Nat, s < n ∧ r = q ++ [lo + (s : Int)] := by
  unfold grow
  simp only [List.mem_flatMap, List.mem_map, List.mem_range]
  constructor
  · rintro ⟨q, hq, s, hs, rfl⟩; exact ⟨q, hq, s, hs, rfl⟩
  · rintro ⟨q, hq, s, hs, rfl⟩; exact ⟨q, hq, s, hs, rfl⟩
/-- a point of the box -/
def InB (B : List (Int × Nat)) (r : List Int) : Prop := r.length = B.length + 1 ∧ at_ r 0 = 0 ∧ ∀ k b, B[k]? = some b → b.1 ≤ at_ r (k + 1) ∧ at_ r (k + 1) < b.1 + (b.2 : Nat)
theorem at_app_l {r q : List Int} {i : Nat} (h : i < r.length) : at_ (r ++ q) i = at_ r i := by
  unfold at_; rw [List.getD_eq_getElem?_getD, List.getD_eq_getElem?_getD, List.getElem?_append_left h]
theorem at_app_r {r : List Int} {x : Int} : at_ (r ++ [x]) r.length = x := by
  unfold at_; rw [List.getD_eq_getElem?_getD, List.getElem?_append_right (Nat.le_refl _)]; simp
theorem pts_in : ∀ (k : Nat) {B : List (Int × Nat)}, B.length = k → ∀ {r : List Int}, r ∈ pts B [[0]] → InB B r
  | 0, B, hk, r, h => by
    obtain rfl : B = [] := List.length_eq_zero_iff.mp hk
    simp [pts] at h; subst h
    exact ⟨rfl, rfl, fun k b e => by simp at e⟩
  | k + 1, B, hk, r, h => by
    have ne : B ≠ [] := fun e => by rw [e] at hk; cases hk
    obtain ⟨C, b, rfl⟩ : ∃ C b, B = C ++ [b] := ⟨B.dropLast, B.getLast ne, (List.dropLast_concat_getLast ne).symm⟩
    rw [pts_snoc, mem_grow] at h
    obtain ⟨q, hq, s, hs, rfl⟩ := h
    have hC : C.length = k := by simpa using hk
    obtain ⟨h1, h2, h3⟩ := pts_in k hC hq
    refine ⟨by simp [h1], by rw [at_app_l (by omega)]; exact h2, fun j b' e => ?_⟩
    by_cases hj : j < C.length
    · rw [List.getElem?_append_left hj] at e
      rw [at_app_l (by omega)]; exact h3 j b' e
    · have : j < (C ++ [b]).length := (List.getElem?_eq_some_iff.mp e).1
      obtain rfl : j = C.length := by simp at this; omega
      rw [List.getElem?_append_right (Nat.le_refl _)] at e
      simp at e; subst e
      rw [show C.length + 1 = q.length by omega, at_app_r]
      omega
theorem lex_app : ∀ {a b : List Int} {x y : Int}, a.length = b.length → HT.lexLt a b = true → HT.lexLt (a ++ [x]) (b ++ [y]) = true
  | [], [], _, _, _, h => by simp [HT.lexLt] at h
  | [], _ :: _, _, _, l, _ => by cases l
  | _ :: _, [], _, _, l, _ => by cases l
  | u :: a, v :: b, x, y, l, h => by
    show (if u = v then HT.lexLt (a ++ [x]) (b ++ [y]) else decide (u < v)) = true
    have h' : (if u = v then HT.lexLt a b else decide (u < v)) = true := h
    split at h'
    · rename_i e; rw [if_pos e]; exact lex_app (by simpa using l) h'
    · rename_i e; rw [if_neg e]; exact h'
theorem lex_last : ∀ {a : List Int} {x y : Int}, x < y → HT.lexLt (a ++ [x]) (a ++ [y]) = true
  | [], x, y, h => by
    show (if x = y then HT.lexLt [] [] else decide (x < y)) = true
    rw [if_neg (by omega)]; simpa using h
  | u :: a, x, y, h => by
    show (if u = u then HT.lexLt (a ++ [x]) (a ++ [y]) else decide (u < u)) = true
    rw [if_pos rfl]; exact lex_last h
theorem lex_irr : ∀ {a : List Int}, HT.lexLt a a = false
  | [] => rfl
  | u :: a => by
    show (if u = u then HT.lexLt a a else decide (u < u)) = false
    rw [if_pos rfl]; exact lex_irr
theorem lex_asy : ∀ {a b : List Int}, HT.lexLt a b = true → HT.lexLt b a = false
  | [], [], h => by cases h
  | [], _ :: _, _ => rfl
  | _ :: _, [], h => by cases h
  | u :: a, v :: b, h => by
    have h' : (if u = v then HT.lexLt a b else decide (u < v)) = true := h
    show (if v = u then HT.lexLt b a else decide (v < u)) = false
    split at h'
    · rename_i e; rw [if_pos e.symm]; exact lex_asy h'
    · rename_i e; rw [if_neg (fun z => e z.symm)]; simp at h' ⊢; omega
theorem pts_len {B : List (Int × Nat)} {r : List Int} (h : r ∈ pts B [[0]]) : r.length = B.length + 1 := (pts_in _ rfl h).1
theorem pts_sorted : ∀ (k : Nat) {B : List (Int × Nat)}, B.length = k → (pts B [[0]]).Pairwise fun a b => HT.lexLt a b = true
  | 0, B, hk => by
    obtain rfl : B = [] := List.length_eq_zero_iff.mp hk
    simp [pts]
  | k + 1, B, hk => by
    have ne : B ≠ [] := fun e => by rw [e] at hk; cases hk
    obtain ⟨C, b, rfl⟩ : ∃ C b, B = C ++ [b] := ⟨B.dropLast, B.getLast ne, (List.dropLast_concat_getLast ne).symm⟩
    rw [pts_snoc]
    unfold grow
    rw [List.pairwise_flatMap]
    have hC : C.length = k := by simpa using hk
    refine ⟨fun r _ => ?_, ?_⟩
    · rw [List.pairwise_map]
      exact List.pairwise_lt_range.imp fun h => lex_last (by omega)
    · refine (pts_sorted k hC).imp_of_mem fun ha hb h x hx y hy => ?_
      simp only [List.mem_map, List.mem_range] at hx hy
      obtain ⟨s, _, rfl⟩ := hx
      obtain ⟨s', _, rfl⟩ := hy
      exact lex_app ((pts_len ha).trans (pts_len hb).symm) h
theorem rank : ∀ {l : List (List Int)} {i : Nat} {v : List Int}, l.Pairwise (fun a b => HT.lexLt a b = true) → l[i]? = some v → (l.filter fun w => HT.lexLt w v).length = i
  | [], i, v, _, e => by simp at e
  | a :: l, 0, v, p, e => by
    obtain rfl : a = v := by simpa using e
    rw [List.filter_cons_of_neg (by rw [lex_irr]; simp)]
    rw [List.pairwise_cons] at p
    rw [List.length_eq_zero_iff, List.filter_eq_nil_iff]
    intro w hw
    rw [lex_asy (p.1 w hw)]; simp
  | a :: l, i + 1, v, p, e => by
    rw [List.pairwise_cons] at p
    have e' : l[i]? = some v := by simpa using e
    rw [List.filter_cons_of_pos (p := fun w => HT.lexLt w v) (p.1 v (List.mem_of_getElem? e')), List.length_cons, rank p.2 e']
/-! what a table unfolds -/
def ok (t : Nat → Nat → Int) (r : List Int) : Bool := decide (∀ i, i < r.length → ∀ j, j < r.length → at_ r i - at_ r j ≤ t i j)
def loV (t : Nat → Nat → Int) (g : List Int) : Int := (maxI ((List.range g.length).map fun j => at_ g j - t j g.length)).getD 0
def hiV (t : Nat → Nat → Int) (g : List Int) : Int := (minI ((List.range g.length).map fun j => at_ g j + t g.length j)).getD 0
def ext (t : Nat → Nat → Int) (g : List Int) : List Int := (List.range (hiV t g + 1 - loV t g).toNat).map fun s : Nat => loV t g + (s : Int)
def vals (t : Nat → Nat → Int) : Nat → List (List Int)
  | 0 => [[]]
  | k + 1 => (vals t k).flatMap fun v => (ext t (0 :: v)).map fun x => v ++ [x]
theorem foldl_max : ∀ {l : List Int} {x : Int}, (∀ y ∈ l, y ≤ l.foldl max x) ∧ x ≤ l.foldl max x ∧ (l.foldl max x = x ∨ l.foldl max x ∈ l)
  | [], x => by simp
  | a :: l, x => by
    obtain ⟨h1, h2, h3⟩ := foldl_max (l := l) (x := max x a)
    refine ⟨fun y hy => ?_, ?_, ?_⟩
    · rcases List.mem_cons.mp hy with rfl | hy
      · show y ≤ l.foldl max (max x y); omega
      · exact h1 y hy
    · show x ≤ l.foldl max (max x a); omega
    · show l.foldl max (max x a) = x ∨ l.foldl max (max x a) ∈ a :: l
      rcases h3 with h | h
      · rcases Int.le_total x a with q | q
        · right; rw [h, Int.max_eq_right q]; simp
        · left; rw [h, Int.max_eq_left q]
      · right; exact List.mem_cons_of_mem _ h
theorem foldl_min : ∀ {l : List Int} {x : Int}, (∀ y ∈ l, l.foldl min x ≤ y) ∧ l.foldl min x ≤ x ∧ (l.foldl min x = x ∨ l.foldl min x ∈ l)
  | [], x => by simp
  | a :: l, x => by
    obtain ⟨h1, h2, h3⟩ := foldl_min (l := l) (x := min x a)
    refine ⟨fun y hy => ?_, ?_, ?_⟩
    · rcases List.mem_cons.mp hy with rfl | hy
      · show l.foldl min (min x y) ≤ y; omega
      · exact h1 y hy
    · show l.foldl min (min x a) ≤ x; omega
    · show l.foldl min (min x a) = x ∨ l.foldl min (min x a) ∈ a :: l
      rcases h3 with h | h
      · rcases Int.le_total x a with q | q
        · left; rw [h, Int.min_eq_left q]
        · right; rw [h, Int.min_eq_right q]; simp
      · right; exact List.mem_cons_of_mem _ h
theorem maxI_ok {l : List Int} (h : l ≠ []) : ∃ m, maxI l = some m ∧ (∀ y ∈ l, y ≤ m) ∧ m ∈ l := by
  cases l with
  | nil => exact absurd rfl h
  | cons a l =>
    obtain ⟨h1, h2, h3⟩ := foldl_max (l := l) (x := a)
    refine ⟨_, rfl, fun y hy => ?_, ?_⟩
    · rcases List.mem_cons.mp hy with rfl | hy
      · exact h2
      · exact h1 y hy
    · rcases h3 with h | h
      · rw [h]; simp
      · exact List.mem_cons_of_mem _ h
theorem minI_ok {l : List Int} (h : l ≠ []) : ∃ m, minI l = some m ∧ (∀ y ∈ l, m ≤ y) ∧ m ∈ l := by
  cases l with
  | nil => exact absurd rfl h
  | cons a l =>
    obtain ⟨h1, h2, h3⟩ := foldl_min (l := l) (x := a)
    refine ⟨_, rfl, fun y hy => ?_, ?_⟩
    · rcases List.mem_cons.mp hy with rfl | hy
      · exact h2
      · exact h1 y hy
    · rcases h3 with h | h
      · rw [h]; simp
      · exact List.mem_cons_of_mem _ h
theorem loV_le {t : Nat → Nat → Int} {g : List Int} (h : g ≠ []) {v : Int} : loV t g ≤ v ↔ ∀ j, j < g.length → at_ g j - t j g.length ≤ v := by
  have l0 : 0 < g.length := List.length_pos_iff.mpr h
  obtain ⟨m, e, h1, h2⟩ := maxI_ok (l := (List.range g.length).map fun j => at_ g j - t j g.length) (by simp; omega)
  have em : loV t g = m := by unfold loV; rw [e]; rfl
  rw [em]
  constructor
  · intro hv j hj
    have := h1 _ (List.mem_map.mpr ⟨j, List.mem_range.mpr hj, rfl⟩)
    omega
  · intro hv
    obtain ⟨j, hj, rfl⟩ := List.mem_map.mp h2
    exact hv j (List.mem_range.mp hj)
theorem le_hiV {t : Nat → Nat → Int} {g : List Int} (h : g ≠ []) {v : Int} : v ≤ hiV t g ↔ ∀ j, j < g.length → v ≤ at_ g j + t g.length j := by
  have l0 : 0 < g.length := List.length_pos_iff.mpr h
  obtain ⟨m, e, h1, h2⟩ := minI_ok (l := (List.range g.length).map fun j => at_ g j + t g.length j) (by simp; omega)
  have em : hiV t g = m := by unfold hiV; rw [e]; rfl
  rw [em]
  constructor
  · intro hv j hj
    have := h1 _ (List.mem_map.mpr ⟨j, List.mem_range.mpr hj, rfl⟩)
    omega
  · intro hv
    obtain ⟨j, hj, rfl⟩ := List.mem_map.mp h2
    exact hv j (List.mem_range.mp hj)
theorem ok_app {t : Nat → Nat → Int} {g : List Int} {v : Int} (h : g ≠ []) (h0 : 0 ≤ t g.length g.length) : ok t (g ++ [v]) = (ok t g && (decide (loV t g ≤ v) && decide (v ≤ hiV t g))) := by
  rw [Bool.eq_iff_iff]
  simp only [Bool.and_eq_true, decide_eq_true_eq, ok, List.length_append, List.length_singleton, loV_le h, le_hiV h]
  constructor
  · intro k
    refine ⟨fun i hi j hj => ?_, fun j hj => ?_, fun j hj => ?_⟩
    · have := k i (by omega) j (by omega)
      rwa [at_app_l hi, at_app_l hj] at this
    · have := k j (by omega) g.length (by omega)
      rw [at_app_l hj, at_app_r] at this; omega
    · have := k g.length (by omega) j (by omega)
      rw [at_app_l hj, at_app_r] at this; omega
  · rintro ⟨k1, k2, k3⟩ i hi j hj
    by_cases h1 : i < g.length
    · by_cases h2 : j < g.length
      · rw [at_app_l h1, at_app_l h2]; exact k1 i h1 j h2
      · obtain rfl : j = g.length := by omega
        rw [at_app_l h1, at_app_r]; have := k2 i h1; omega
    · obtain rfl : i = g.length := by omega
      by_cases h2 : j < g.length
      · rw [at_app_l h2, at_app_r]; have := k3 j h2; omega
      · obtain rfl : j = g.length := by omega
        rw [at_app_r]; omega
theorem filter_seg {a L H : Int} {n : Nat} (h1 : a ≤ L) (h2 : H < a + (n : Nat)) : ((List.range n).map fun s : Nat => a + (s : Int)).filter (fun v => decide (L ≤ v) && decide (v ≤ H)) = (List.range (H + 1 - L).toNat).map fun s : Nat => L + (s : Int) := by
  by_cases hLH : L ≤ H
  · obtain ⟨p, hp⟩ : ∃ p : Nat, L = a + p := ⟨(L - a).toNat, by omega⟩
    obtain ⟨q, hq⟩ : ∃ q : Nat, H + 1 = L + q := ⟨(H + 1 - L).toNat, by omega⟩
    obtain ⟨r, hr⟩ : ∃ r : Nat, n = p + (q + r) := ⟨n - p - q, by omega⟩
    have e1 : (H + 1 - L).toNat = q := by omega
    rw [e1, hr, List.range_add, List.range_add, List.map_append, List.map_append, List.map_append, List.filter_append, List.filter_append]
    rw [List.filter_eq_nil_iff.mpr, List.filter_eq_self.mpr, List.filter_eq_nil_iff.mpr]
    · rw [List.nil_append, List.append_nil]
      simp only [List.map_map]
      refine List.map_congr_left fun s _ => ?_
      show a + ((p + s : Nat) : Int) = L + (s : Int)
      omega
    · intro v hv
      simp only [List.mem_map, List.mem_range] at hv
      obtain ⟨s, ⟨s', ⟨s'', hs, rfl⟩, rfl⟩, rfl⟩ := hv
      simp; omega
    · intro v hv
      simp only [List.mem_map, List.mem_range] at hv
      obtain ⟨s, ⟨s', hs, rfl⟩, rfl⟩ := hv
      simp; omega
    · intro v hv
      simp only [List.mem_map, List.mem_range] at hv
      obtain ⟨s, hs, rfl⟩ := hv
      simp; omega
  · rw [show (H + 1 - L).toNat = 0 by omega]
    simp only [List.range_zero, List.map_nil]
    rw [List.filter_eq_nil_iff]
    intro v hv
    simp; omega
theorem flatMap_filter {α β : Type} {p : α → Bool} {f : α → List β} : ∀ {l : List α}, (l.filter p).flatMap f = l.flatMap fun x => if p x then f x else []
  | [] => rfl
  | x :: l => by
    by_cases h : p x = true
    · rw [List.filter_cons_of_pos h, List.flatMap_cons, List.flatMap_cons, if_pos h, flatMap_filter]
    · rw [List.filter_cons_of_neg h, List.flatMap_cons, if_neg h, flatMap_filter]; rfl
theorem flatMap_cg {α β : Type} {f g : α → List β} : ∀ {l : List α}, (∀ x ∈ l, f x = g x) → l.flatMap f = l.flatMap g
  | [], _ => rfl
  | x :: l, h => by rw [List.flatMap_cons, List.flatMap_cons, h x (by simp), flatMap_cg fun y hy => h y (by simp [hy])]
theorem vals_step {t : Nat → Nat → Int} {k : Nat} : (vals t (k + 1)).map (0 :: ·) = ((vals t k).map (0 :: ·)).flatMap fun g => (ext t g).map fun x => g ++ [x] := by
  rw [vals, List.map_flatMap, List.flatMap_map]
  refine flatMap_cg fun v _ => ?_
  rw [List.map_map]; rfl
theorem vals_pts {t : Nat → Nat → Int} {B : List (Int × Nat)} (h0 : ∀ k, k ≤ B.length → 0 ≤ t k k) (hb : ∀ k b, B[k]? = some b → t (k + 1) 0 < b.1 + (b.2 : Nat) ∧ t 0 (k + 1) ≤ -b.1) :
    ∀ k, k ≤ B.length → (vals t k).map (0 :: ·) = (pts (B.take k) [[0]]).filter (ok t)
  | 0, _ => by
    have : ok t [0] = true := by
      unfold ok
      rw [decide_eq_true_iff]
      intro i hi j hj
      obtain rfl : i = 0 := by simpa using hi
      obtain rfl : j = 0 := by simpa using hj
      have := h0 0 (by omega); omega
    simp [vals, pts, this]
  | k + 1, hk => by
    obtain ⟨b, hB⟩ : ∃ b, B[k]? = some b := ⟨_, List.getElem?_eq_getElem (by omega)⟩
    have et : B.take (k + 1) = B.take k ++ [b] := by rw [List.take_add_one, hB]; rfl
    rw [vals_step, vals_pts h0 hb k (by omega), et, pts_snoc, flatMap_filter]
    unfold grow
    rw [List.filter_flatMap]
    refine flatMap_cg fun g hg => ?_
    have lg : g.length = k + 1 := by rw [pts_len hg, List.length_take]; omega
    have ng : g ≠ [] := fun e => by rw [e] at lg; cases lg
    have g0 : at_ g 0 = 0 := (pts_in _ rfl hg).2.1
    obtain ⟨hb1, hb2⟩ := hb k b hB
    have e1 : ((List.range b.2).map fun s : Nat => g ++ [b.1 + (s : Int)]) = ((List.range b.2).map fun s : Nat => b.1 + (s : Int)).map fun x => g ++ [x] := by rw [List.map_map]; rfl
    rw [e1, List.filter_map]
    have e2 : (ok t ∘ fun x => g ++ [x]) = fun x => ok t g && (decide (loV t g ≤ x) && decide (x ≤ hiV t g)) := by
      funext x; exact ok_app ng (by rw [lg]; exact h0 _ hk)
    rw [e2]
    by_cases hok : ok t g = true
    · rw [if_pos hok, hok]
      simp only [Bool.true_and]
      have l1 : b.1 ≤ loV t g := by
        have := (loV_le ng).mp (Int.le_refl (loV t g)) 0 (by omega)
        rw [g0, lg] at this; omega
      have l2 : hiV t g < b.1 + (b.2 : Nat) := by
        have := (le_hiV ng).mp (Int.le_refl (hiV t g)) 0 (by omega)
        rw [g0, lg] at this; omega
      rw [filter_seg l1 l2]; rfl
    · rw [if_neg hok]
      have : ok t g = false := by simpa using hok
      simp [this]
end Kt

/-! Sb -/
set_option Elab.async false
set_option linter.all false
set_option maxRecDepth 100000
set_option maxHeartbeats 1000000
namespace S
open PySem L2 Pv Kt
section
variable {t : Nat → Nat → Int} {m : Nat}
theorem cut1 {xs : List D} : cutD xs (some 1) none = xs.drop 1 := by
  unfold cutD
  have e1 : HT.sIx xs.length 0 (some 1) = min 1 xs.length := by
    simp [HT.sIx]
  have e2 : HT.sIx xs.length xs.length none = xs.length := by simp [HT.sIx]
  rw [e1, e2]
  cases xs with
  | nil => simp
  | cons x xs => simp
theorem frz_wit {ws : List Int} : frz (wit ws) = wit ws := by simp [wit]
theorem cut_wit {a : Int} {ws : List Int} : fCutT (wit (a :: ws)) (some 1) none = some (wit ws) := by
  show some (D.tup (cutD ((a :: ws).map D.int) (some 1) none)) = _
  rw [cut1]; rfl
theorem cut_row1 {T : Tab} {a : Nat} : fCutT (row false .tup T (m + 1) a) (some 1) none = some (.nd false .tup ((List.range m).map fun b => optD (T a (b + 1)))) := by
  show some (D.tup (cutD _ (some 1) none)) = _
  rw [cut1, List.range_succ_eq_map, List.map_cons, List.drop_succ_cons, List.drop_zero, List.map_map]; rfl
theorem cut_tab1 {T : Tab} : fCutT (tupT T (m + 1)) (some 1) none = some (.nd false .tup ((List.range m).map fun a => row false .tup T (m + 1) (a + 1))) := by
  show some (D.tup (cutD _ (some 1) none)) = _
  rw [cut1, List.range_succ_eq_map, List.map_cons, List.drop_succ_cons, List.drop_zero, List.map_map]; rfl
@[simp] theorem tup_nd {xs : List D} : tupOf (.nd false .tup xs) = some xs := rfl
theorem tuple_map {α : Type} {o : Bool} {l : List α} {f : α → D} (h : ∀ x, isF (f x) = true) : fTuple (.nd o .lst (l.map f)) = some (.nd false .tup (l.map f)) := by
  show (if (Kd.lst = .lst ∨ Kd.lst = .ro) ∧ allF (l.map f) = true then some (D.tup (l.map f)) else _) = _
  rw [if_pos ⟨.inl rfl, allF_map fun x _ => h x⟩]
theorem frz_ndm {α : Type} {o : Bool} {k : Kd} {l : List α} {f : α → D} (h : ∀ x, frz (f x) = f x) : frz (.nd o k (l.map f)) = .nd false k (l.map f) := by
  show D.nd false k (frzL (l.map f)) = _
  rw [frzL_id fun x hx => by obtain ⟨a, _, rfl⟩ := List.mem_map.mp hx; exact h a]
theorem wit_map {α : Type} {l : List α} {f : α → Int} : wit (l.map f) = .nd false .tup (l.map fun x => .int (f x)) := by
  show D.nd false .tup ((l.map f).map D.int) = _
  rw [List.map_map]; rfl
theorem ix_t {a b n : Nat} (ha : a < n) : ixR (.vl (tupT (It t) n)) (.int a) = some (.vl (row false .tup (It t) n a)) := ix_tupT ha
theorem ix_t0 {n : Nat} (ha : 0 < n) : ixR (.vl (tupT (It t) n)) (.int 0) = some (.vl (row false .tup (It t) n 0)) := ix_tupT (a := 0) ha
theorem ix_r0 {n a : Nat} (ha : 0 < n) : ixR (.vl (row false .tup (It t) n a)) (.int 0) = some (.vl (.int (t a 0))) := ix_rowF (b := 0) (T := It t) rfl ha
theorem spec_least (hm : m ≤ 1000) : wF fn_least_of [tupT (It t) (m + 1)] fun d o => d = wit ((List.range m).map fun k => -t 0 (k + 1)) ∧ o = [some (tupT (It t) (m + 1))] := by
  refine wF_run ?_
  simp [m_least_of, ix_t0 (t := t) (show 0 < m + 1 by omega), cut_row1, okOwn_cons, wipeE_cons, restE_cons]
  refine exO_of (lcL_mapT (F := fun k => D.int (-t 0 (k + 1))) (List.range m) (fun a ha => ⟨_, rfl, ?_⟩) (by simp; omega)) ?_
  · simp [okOwn_cons, wipeE_cons, restE_cons, Kt.It, optD]
  · rw [frz_ndm fun _ => rfl, tuple_map fun _ => rfl, wit_map]
    simp
theorem spec_greatest (hm : m ≤ 1000) : wF fn_greatest_of [tupT (It t) (m + 1)] fun d o => d = wit ((List.range m).map fun k => t (k + 1) 0) ∧ o = [some (tupT (It t) (m + 1))] := by
  refine wF_run ?_
  simp [m_greatest_of, cut_tab1, okOwn_cons, wipeE_cons, restE_cons]
  refine exO_of (lcL_mapT (F := fun k => D.int (t (k + 1) 0)) (List.range m) (fun a ha => ⟨_, rfl, ?_⟩) (by simp; omega)) ?_
  · simp [okOwn_cons, wipeE_cons, restE_cons, ix_r0 (t := t) (show 0 < m + 1 by omega)]
  · rw [frz_ndm fun _ => rfl, tuple_map fun _ => rfl, wit_map]
    simp
theorem lz_wit {f g : Nat → Int} (hm : m ≤ 1000) : fListZip [wit ((List.range m).map f), wit ((List.range m).map g)] = some (.nd true .lst ((List.range m).map fun k => wit [f k, g k])) := by
  unfold fListZip
  simp only [wit, tup_nd]
  rw [if_pos (by simp; omega)]
  congr 2
  unfold zipL
  simp [List.zipWith_map_left, List.zipWith_map_right, List.zipWith_self]
theorem spec_spans (hm : m ≤ 1000) : wF fn_spans [tupT (It t) (m + 1)] fun d o => d = .nd true .lst ((List.range m).map fun k => wit [-t 0 (k + 1), t (k + 1) 0]) ∧ o = [some (tupT (It t) (m + 1))] := by
  refine wF_run ?_
  simp [m_spans, takeA_sl]
  refine (spec_least hm).mono ?_
  rintro _ _ ⟨rfl, rfl⟩
  simp [putA_sl, fx_least_of, takeA_sl]
  refine (spec_greatest hm).mono ?_
  rintro _ _ ⟨rfl, rfl⟩
  simp [putA_sl, fx_greatest_of, lz_wit hm, frz_wit]
def prod (t : Nat → Nat → Int) : Nat → Int
  | 0 => 1
  | k + 1 => prod t k * (t (k + 1) 0 + t 0 (k + 1) + 1)
theorem spec_product (hm : m ≤ 60) (hb : ∀ k, k < m → (t (k + 1) 0 + t 0 (k + 1) + 1).natAbs < 2 ^ 64 ∨ (prod t k).natAbs < 2 ^ 64) : wF fn_product_of [.nd true .lst ((List.range m).map fun k => wit [-t 0 (k + 1), t (k + 1) 0])] fun d o => d = .int (prod t m) ∧ ∃ z, o = [z] := by
  refine wF_run ?_
  simp [m_product_of]
  refine forL_map (fun j ρ => ∃ z1 z2, ρ = [some (.nd false .lst ((List.range m).map fun k => wit [-t 0 (k + 1), t (k + 1) 0])), some (.int (prod t j)), z1, z2]) (List.range m) ⟨none, none, rfl⟩ ?_ ?_
  · rintro j x hx ρ ⟨z1, z2, rfl⟩
    obtain rfl : x = j := by
      have := (List.getElem?_eq_some_iff.mp hx).2
      simpa using this.symm
    have hj : x < m := by simpa using (List.getElem?_eq_some_iff.mp hx).1
    refine ⟨_, rfl, ?_⟩
    have hm : mulOk (prod t x) (t (x + 1) 0 - -t 0 (x + 1) + 1) = true := by
      rw [show t (x + 1) 0 - -t 0 (x + 1) + 1 = t (x + 1) 0 + t 0 (x + 1) + 1 by omega]
      rcases hb x hj with h | h
      · exact mulOk_r h
      · exact mulOk_l h
    simp [l_product_of_0, hm]
    rw [prod, show t (x + 1) 0 + t 0 (x + 1) + 1 = t (x + 1) 0 - -t 0 (x + 1) + 1 by omega]
    exact ⟨hm, rfl⟩
  · rintro ρ ⟨z1, z2, rfl⟩
    simp
theorem catT_wit {a b : List Int} (h : a.length + b.length ≤ 16777216) : fCatT (wit a) (wit b) = some (wit (a ++ b)) := by
  show (if (a.map D.int).length + (b.map D.int).length ≤ 16777216 then some (D.tup (a.map D.int ++ b.map D.int)) else none) = _
  rw [if_pos (by simpa using h), wit, List.map_append]
theorem intL_map {α : Type} {f : α → Int} : ∀ {l : List α}, intL (l.map fun x => .int (f x)) = some (l.map f)
  | [] => rfl
  | x :: l => by
    show (intL (l.map fun x => D.int (f x))).map (f x :: ·) = _
    rw [intL_map]; rfl
theorem maxL_map {α : Type} {o : Bool} {f : α → Int} {l : List α} (h : l ≠ []) : fMaxL (.nd o .lst (l.map fun x => .int (f x))) = some (.int ((maxI (l.map f)).getD 0)) := by
  obtain ⟨m, e, _⟩ := maxI_ok (l := l.map f) (by simpa using h)
  show ((intL (l.map fun x => D.int (f x))).bind maxI).map D.int = _
  rw [intL_map, Option.bind_some, e]; rfl
theorem minL_map {α : Type} {o : Bool} {f : α → Int} {l : List α} (h : l ≠ []) : fMinL (.nd o .lst (l.map fun x => .int (f x))) = some (.int ((minI (l.map f)).getD 0)) := by
  obtain ⟨m, e, _⟩ := minI_ok (l := l.map f) (by simpa using h)
  show ((intL (l.map fun x => D.int (f x))).bind minI).map D.int = _
  rw [intL_map, Option.bind_some, e]; rfl
theorem ix_rt {n a b : Nat} (hb : b < n) : ixR (.vl (row false .tup (It t) n a)) (.int b) = some (.vl (.int (t a b))) := ix_rowF (b := b) (T := Kt.It t) rfl hb
theorem spec_longer (v : List Int) (hm : m ≤ 1000) (hv : v.length < m) (he : (ext t (0 :: v)).length ≤ 1000000) : wF fn_longer [tupT (It t) (m + 1), wit v] fun d o => d = .nd true .lst ((ext t (0 :: v)).map fun x => wit (v ++ [x])) ∧ o = [some (tupT (It t) (m + 1)), some (wit v)] := by
  refine wF_run ?_
  have e0 : fCatT (D.nd false .tup [.int 0]) (wit v) = some (wit (0 :: v)) := catT_wit (a := [0]) (by simp; omega)
  have ea : D.int ((v.length : Int) + 1) = D.int ((v.length + 1 : Nat) : Int) := by simp
  simp [m_longer, e0, ea, -Int.natCast_add]
  have r1 : ((v.length + 1 : Nat) : Int) < 4611686018427387904 := by omega
  have r2 : -4611686018427387904 ≤ ((v.length + 1 : Nat) : Int) := by omega
  simp [okOwn_cons, wipeE_cons, restE_cons, r1, r2, -Int.natCast_add]
  have iw : ∀ a, a < v.length + 1 → ixR (.vl (wit (0 :: v))) (.int a) = some (.vl (.int (at_ (0 :: v) a))) := fun a ha => ix_wit (by simpa using ha)
  have ir : ∀ a, ixR (.vl (row false .tup (Kt.It t) (m + 1) a)) (.int ((v.length + 1 : Nat) : Int)) = some (.vl (.int (t a (v.length + 1)))) := fun a => ix_rt (by omega)
  have it : ixR (.vl (tupT (Kt.It t) (m + 1))) (.int ((v.length + 1 : Nat) : Int)) = some (.vl (row false .tup (Kt.It t) (m + 1) (v.length + 1))) := ix_t (b := 0) (by omega)
  refine exO_of (lcL_rangeT (F := fun j => D.int (at_ (0 :: v) j - t j (v.length + 1))) (fun a ha => ⟨_, rfl, ?_⟩) (by omega)) ?_
  · simp [okOwn_cons, wipeE_cons, restE_cons, iw a ha, ir, ix_t (t := t) (b := 0) (show a < m + 1 by omega), -Int.natCast_add]
  have nr : List.range (v.length + 1) ≠ [] := by simp
  rw [frz_ndm fun _ => rfl, maxL_map nr]
  simp [okOwn_cons, wipeE_cons, restE_cons, r1, r2, -Int.natCast_add]
  refine exO_of (lcL_rangeT (F := fun j => D.int (at_ (0 :: v) j + t (v.length + 1) j)) (fun a ha => ⟨_, rfl, ?_⟩) (by omega)) ?_
  · simp [okOwn_cons, wipeE_cons, restE_cons, iw a ha, it, ix_rt (t := t) (a := v.length + 1) (show a < m + 1 by omega), -Int.natCast_add]
  rw [frz_ndm fun _ => rfl, minL_map nr]
  simp [okOwn_cons, wipeE_cons, restE_cons, -Int.natCast_add]
  have el : (maxI ((List.range (v.length + 1)).map fun j => at_ (0 :: v) j - t j (v.length + 1))).getD 0 = loV t (0 :: v) := rfl
  have eh : (minI ((List.range (v.length + 1)).map fun j => at_ (0 :: v) j + t (v.length + 1) j)).getD 0 = hiV t (0 :: v) := rfl
  rw [el, eh]
  have rw1 : fRngW [.int (loV t (0 :: v)), .int (hiV t (0 :: v) + 1)] = some ((ext t (0 :: v)).map D.int) := by
    show some (rangeL (loV t (0 :: v)) (hiV t (0 :: v) + 1 - loV t (0 :: v)).toNat) = _
    unfold ext rangeL
    rw [List.map_map]; rfl
  rw [rw1]
  simp [okOwn_cons, wipeE_cons, restE_cons, -Int.natCast_add]
  refine exO_of (lcL_mapT (F := fun x => wit (v ++ [x])) (ext t (0 :: v)) (fun x hx => ⟨_, rfl, ?_⟩) (by omega)) ?_
  · have e1 : fCatT (wit v) (D.nd false .tup [.int x]) = some (wit (v ++ [x])) := catT_wit (b := [x]) (by simp; omega)
    simp [okOwn_cons, wipeE_cons, restE_cons, e1, frz_wit]
  simp
end
section
variable {t : Nat → Nat → Int} {m : Nat}
/-- the rows of a lot as data -/
def lotD (o : Bool) (l : List (List Int)) : D := .nd o .lst (l.map wit)
@[simp] theorem frz_lot {o : Bool} {l : List (List Int)} : frz (lotD o l) = lotD false l := frz_ndm fun _ => frz_wit
@[simp] theorem seq_lot {l : List (List Int)} : seqOf (lotD false l) = some (l.map wit) := rfl
@[simp] theorem rd_lotF {l : List (List Int)} : rdR (lotD false l) = .vl (lotD false l) := rfl
@[simp] theorem rd_lot {l : List (List Int)} : rdR (lotD true l) = .pl [] (lotD true l) := rfl
theorem vals_len : ∀ {k : Nat} {v : List Int}, v ∈ vals t k → v.length = k
  | 0, v, h => by simp [vals] at h; subst h; rfl
  | k + 1, v, h => by
    simp only [vals, List.mem_flatMap, List.mem_map] at h
    obtain ⟨w, hw, x, _, rfl⟩ := h
    simp [vals_len hw]
theorem ext_le (t : Nat → Nat → Int) : ∀ {l : List (List Int)} {v : List Int}, v ∈ l → (ext t (0 :: v)).length ≤ (l.flatMap fun v => (ext t (0 :: v)).map fun x => v ++ [x]).length
  | w :: l, v, h => by
    rw [List.flatMap_cons, List.length_append, List.length_map]
    rcases List.mem_cons.mp h with rfl | h
    · omega
    · have := ext_le t h; omega
end
section
variable {t : Nat → Nat → Int} {m : Nat}
theorem len_lot {l : List (List Int)} : fLen (lotD false l) = some (.int l.length) := by
  show some (D.int ((l.map wit).length : Nat)) = _
  rw [List.length_map]
theorem ix_lot {l : List (List Int)} {i : Nat} {v : List Int} (h : l[i]? = some v) : fIx (lotD false l) (.int i) = some (wit v) := by
  have hi : i < l.length := (List.getElem?_eq_some_iff.mp h).1
  unfold lotD
  rw [fIx_nd, if_pos (by rfl : isSeq Kd.lst = true), List.length_map, ixN_nat hi]
  show (l.map wit)[i]? = _
  rw [List.getElem?_map, h]; rfl
theorem ltT_wit {a b : List Int} : fLtT (wit a) (wit b) = some (.bl (HT.lexLt a b)) := by
  unfold fLtT
  simp only [wit, tup_nd]
  have e : ∀ l : List Int, intL (l.map D.int) = some l := fun l => by have := intL_map (f := fun x : Int => x) (l := l); simpa using this
  rw [e, e]
theorem fm_filter {α β : Type} {p : α → Bool} {f : α → β} : ∀ {l : List α}, (l.filterMap fun w => if p w = true then some (f w) else none) = (l.filter p).map f
  | [] => rfl
  | x :: l => by
    by_cases h : p x = true
    · rw [List.filter_cons_of_pos h, List.filterMap_cons, if_pos h, List.map_cons, fm_filter]
    · rw [List.filter_cons_of_neg h, List.filterMap_cons, if_neg h, fm_filter]
theorem pl_wit {v : List Int} : Pl (wit v) := .tup fun x hx => by obtain ⟨i, _, rfl⟩ := List.mem_map.mp hx; exact .int i
theorem sz_wit : ∀ {v : List Int}, sz (wit v) = v.length + 1
  | [] => by simp [wit, sz, szL]
  | x :: v => by
    have := sz_wit (v := v)
    simp [wit, sz, szL] at this ⊢; omega
theorem told_same {s : Str} {x : D} (h : Pl x) (hz : sz x ≤ 1000) : wF fn_law_same [.nd false .tup [.str s, x], .nd false .tup [.str s, x]] fun d o => d = .bl true := by
  refine spec_same (.tup fun y hy => ?_) ?_
  · simp at hy
    rcases hy with rfl | rfl
    · exact .str _
    · exact h
  · simp [sz, szL]; omega
theorem rd_wit {v : List Int} : rdR (wit v) = .vl (wit v) := rfl
theorem list_wit {v : List Int} : fList (wit v) = some (.nd true .lst (v.map .int)) := by
  show (if isSeq Kd.tup = true ∧ allF (v.map D.int) = true then some (D.own (v.map D.int)) else none) = _
  rw [if_pos ⟨rfl, allF_map fun x _ => rfl⟩]
theorem ne_ints {l : List Int} : fNeD (.nd false .lst (l.map fun x => .int x)) (.nd false .lst (l.map fun x => .int x)) = some (.bl false) := by
  refine neD_refl (x := .list (l.map fun x => .int x)) ?_ ?_
  · show (toPyL (l.map fun x => D.int x)).map PyData.list = _
    rw [toPyL_map (g := fun x => PyData.int x) fun x _ => rfl]; rfl
  · unfold SeqAt.shaped
    rw [Bool.and_eq_true]
    constructor
    · rw [PyData.canLay0, canL_map]; intro x _; simp [PyData.canLay0]
    · rw [decide_eq_true_iff, PyData.depth]
      have := depL_map (g := fun x => PyData.int x) (m := 2) (l := l) fun x _ => by simp [PyData.depth]
      omega
end
section
/-! points -/
def zts (o : Bool) (l : List Int) : D := .nd o .lst (l.map .int)
def nats (o : Bool) (l : List Nat) : D := .nd o .lst (l.map fun n : Nat => .int n)
@[simp] theorem frz_zts {o : Bool} {l : List Int} : frz (zts o l) = zts false l := frz_ndm fun _ => rfl
@[simp] theorem rd_zts {l : List Int} : rdR (zts true l) = .pl [] (zts true l) := rfl
@[simp] theorem frz_nats {o : Bool} {l : List Nat} : frz (nats o l) = nats false l := frz_ndm fun _ => rfl
@[simp] theorem rd_nats {l : List Nat} : rdR (nats true l) = .pl [] (nats true l) := rfl
theorem ix_zts {l : List Int} {k : Nat} {x : Int} (h : l[k]? = some x) : ixR (.pl [] (zts true l)) (.int k) = some (.vl (.int x)) := by
  have hk : k < l.length := (List.getElem?_eq_some_iff.mp h).1
  unfold zts
  simp [ixN_nat hk, h]
theorem ix_nats {l : List Nat} {k : Nat} {x : Nat} (h : l[k]? = some x) : ixR (.pl [] (nats true l)) (.int k) = some (.vl (.int x)) := by
  have hk : k < l.length := (List.getElem?_eq_some_iff.mp h).1
  unfold nats
  simp [ixN_nat hk, h]
theorem list_lot {o : Bool} {l : List (List Int)} : fList (lotD o l) = some (lotD true l) := by
  show (if isSeq Kd.lst = true ∧ allF (l.map wit) = true then some (D.own (l.map wit)) else none) = _
  rw [if_pos ⟨rfl, allF_map fun x _ => rfl⟩]; rfl
theorem app_lot {R : Nat} {P : Pv.Env → Prop} {l : List (List Int)} {v : List Int} {ρ : Pv.Env} (h : l.length < 16777216) : apK R P (wit v) (.pl [] (lotD true l)) ρ ↔ exO ρ[R]? fun o => exO o fun dr => P (ρ.set R (some (putD [] (lotD true (l ++ [v])) dr))) := by
  have e : lotD true (l ++ [v]) = .nd true .lst (l.map wit ++ [wit v]) := by simp [lotD]
  rw [e]
  simp [lotD, h, frz_wit]
theorem grow_app {a : Int} {n : Nat} {x y : List (List Int)} : grow a n (x ++ y) = grow a n x ++ grow a n y := List.flatMap_append
theorem grow_take {a : Int} {n i : Nat} {rows : List (List Int)} {r : List Int} (h : rows[i]? = some r) : grow a n (rows.take (i + 1)) = grow a n (rows.take i) ++ (List.range n).map fun j : Nat => r ++ [a + (j : Int)] := by
  rw [List.take_add_one, h]
  show grow a n (rows.take i ++ [r]) = _
  rw [grow_app]
  congr 1
  simp [grow]
theorem grow_pre {a : Int} {n i : Nat} {rows : List (List Int)} : (grow a n (rows.take i)).length ≤ (grow a n rows).length := by
  have : grow a n rows = grow a n (rows.take i) ++ grow a n (rows.drop i) := by rw [← grow_app, List.take_append_drop]
  rw [this, List.length_append]; omega
theorem spec_points {lo : List Int} {ns : List Nat} (hl : lo.length = ns.length) (h1 : 0 < ns.length) (h2 : ns.length ≤ 60) (hn : ∀ n ∈ ns, n ≤ 1000) (hb : ∀ k, k ≤ ns.length → (pts ((lo.zip ns).take k) [[0]]).length ≤ 100000) :
    wF fn_law_points [zts true lo, nats true ns] fun d o => d = lotD false (pts (lo.zip ns) [[0]]) ∧ o = [some (zts true lo), some (nats true ns)] := by
  refine wF_run ?_
  have e0 : fLen (nats true ns) = some (.int ns.length) := by
    show some (D.int ((ns.map fun n : Nat => D.int n).length : Nat)) = _
    rw [List.length_map]
  have r1 : (ns.length : Int) < 4611686018427387904 := by omega
  have r2 : -4611686018427387904 ≤ (ns.length : Int) := by omega
  simp [m_law_points, e0, r1, r2]
  refine forL_range (fun k ρ => ∃ (o : Bool) (z3 z4 z5 z6 : Option D), ρ = [some (zts true lo), some (nats true ns), some (lotD o (pts ((lo.zip ns).take k) [[0]])), z3, z4, z5, z6] ∧ (0 < k → o = false)) ⟨true, none, none, none, none, rfl, fun h => absurd h (by omega)⟩ ?_ ?_
  · rintro k hk ρ ⟨o, z3, z4, z5, z6, rfl, ho⟩
    obtain ⟨a, ha⟩ : ∃ a, lo[k]? = some a := ⟨_, List.getElem?_eq_getElem (by omega)⟩
    obtain ⟨n, hn'⟩ : ∃ n, ns[k]? = some n := ⟨_, List.getElem?_eq_getElem hk⟩
    have hn1 := hn n (List.mem_of_getElem? hn')
    have et : (lo.zip ns).take (k + 1) = (lo.zip ns).take k ++ [(a, n)] := by
      rw [List.take_add_one]
      have : (lo.zip ns)[k]? = some (a, n) := by rw [List.getElem?_zip_eq_some]; exact ⟨ha, hn'⟩
      rw [this]; rfl
    have eg : pts ((lo.zip ns).take (k + 1)) [[0]] = grow a n (pts ((lo.zip ns).take k) [[0]]) := by rw [et, pts_snoc]
    have hb1 := hb (k + 1) (by omega)
    rw [eg] at hb1 ⊢
    have hr0 : ∀ r ∈ pts ((lo.zip ns).take k) [[0]], r.length ≤ 1000 := fun r hr => by rw [pts_len hr, List.length_take, List.length_zip]; omega
    generalize pts ((lo.zip ns).take k) [[0]] = rows at hb1 hr0 ⊢
    refine ⟨_, rfl, ?_⟩
    have tr : ∀ o, (rdR (lotD o rows)).tree = lotD o rows := fun o => by cases o <;> rfl
    simp [l_law_points_2, tr, list_lot]
    have r3 : (n : Int) < 4611686018427387904 := by omega
    have r4 : -4611686018427387904 ≤ (n : Int) := by omega
    refine forL_map (fun i ρ => ∃ (z5 z6 : Option D), ρ = [some (zts true lo), some (nats true ns), some (lotD o rows), some (.int k), some (lotD true (grow a n (rows.take i))), z5, z6]) rows ⟨z5, z6, rfl⟩ ?_ ?_
    · rintro i r hr ρ ⟨z5, z6, rfl⟩
      refine ⟨_, rfl, ?_⟩
      have lr : r.length ≤ 1000 := hr0 r (List.mem_of_getElem? hr)
      have gt := grow_take (a := a) (n := n) hr
      have gp := grow_pre (a := a) (n := n) (i := i + 1) (rows := rows)
      rw [gt, List.length_append, List.length_map, List.length_range] at gp
      simp [l_law_points_1, ix_nats hn', r3, r4]
      refine forL_range (fun s ρ => ∃ (z6 : Option D), ρ = [some (zts true lo), some (nats true ns), some (lotD o rows), some (.int k), some (lotD true (grow a n (rows.take i) ++ (List.range s).map fun j : Nat => r ++ [a + (j : Int)])), some (wit r), z6]) ⟨z6, by simp⟩ ?_ ?_
      · rintro s hs ρ ⟨z6, rfl⟩
        refine ⟨_, rfl, ?_⟩
        have e2 : fCatT (wit r) (D.nd false .tup [.int (a + (s : Int))]) = some (wit (r ++ [a + (s : Int)])) := catT_wit (b := [a + (s : Int)]) (by simp; omega)
        have ll : (grow a n (rows.take i) ++ (List.range s).map fun j : Nat => r ++ [a + (j : Int)]).length < 16777216 := by
          rw [List.length_append, List.length_map, List.length_range]; omega
        simp [l_law_points_0, ix_zts ha, frz_wit, rd_wit, e2, app_lot ll]
        exact ⟨rfl, by rw [List.range_succ, List.map_append]; rfl⟩
      · rintro ρ ⟨z6, rfl⟩
        exact ⟨some (wit r), z6, by rw [gt]⟩
    · rintro ρ ⟨z5, z6, rfl⟩
      simp
  · rintro ρ ⟨o, z3, z4, z5, z6, rfl, ho⟩
    obtain rfl := ho (by omega)
    simp [hl]
    congr 2
    rw [List.take_of_length_le (by rw [List.length_zip]; omega)]
/-! what keeps the ties -/
def keeps (p : List Int) (L : List Tie) : Bool := L.all fun c => decide (at_ p c.1 - at_ p c.2.1 ≤ c.2.2)
theorem spec_keeps {p : List Int} {L : List Tie} (h : InN p.length L) : wF fn_law_keeps [wit p, ties false .lst L] fun d o => d = .bl (keeps p L) := by
  refine wF_run ?_
  have e0 : seqOf (ties false .lst L) = some (L.map tri) := rfl
  simp [m_law_keeps, e0]
  refine forL_map (fun j ρ => ∃ (z2 z3 z4 : Option D), ρ = [some (wit p), some (ties false .lst L), z2, z3, z4] ∧ keeps p (L.take j) = true) L ⟨none, none, none, rfl, rfl⟩ ?_ ?_
  · rintro j c hc ρ ⟨z2, z3, z4, rfl, hk⟩
    obtain ⟨u, v, c⟩ := c
    obtain ⟨hu, hv⟩ := h _ (List.mem_of_getElem? hc)
    have hu : u < p.length := hu
    have hv : v < p.length := hv
    refine ⟨_, rfl, ?_⟩
    simp [l_law_keeps_0, rd_wit, ix_wit hu, ix_wit hv]
    have et : keeps p (L.take (j + 1)) = (keeps p (L.take j) && decide (at_ p u - at_ p v ≤ c)) := by
      rw [List.take_add_one, hc]
      simp [keeps]
    refine ⟨fun hl => ?_, fun hl => ?_⟩
    · have : keeps p L = false := by
        unfold keeps
        rw [List.all_eq_false]
        exact ⟨_, List.mem_of_getElem? hc, by simp; omega⟩
      rw [this]
    · rw [et, hk]; simp; omega
  · rintro ρ ⟨z2, z3, z4, rfl, hk⟩
    rw [List.take_length] at hk
    simp [hk]
/-! the table of a lot -/
def tb (lot : List (List Int)) : Nat → Nat → Int := fun a b => (maxI (lot.map fun p => at_ p a - at_ p b)).getD 0
theorem spec_table {lot : List (List Int)} {n : Nat} {o0 : Bool} (h0 : lot ≠ []) (h1 : 0 < n) (hl : ∀ p ∈ lot, p.length = n) (hn : n ≤ 1000) (hm : lot.length ≤ 100000) : wF fn_law_table [lotD o0 lot] fun d o => d = tupT (It (tb lot)) n ∧ o = [some (lotD false lot)] := by
  refine wF_run ?_
  obtain ⟨p0, lot', rfl⟩ : ∃ p l, lot = p :: l := by cases lot with
    | nil => exact absurd rfl h0
    | cons p l => exact ⟨p, l, rfl⟩
  have l0 : p0.length = n := hl p0 (by simp)
  have ix0 : ∀ o, ∃ r, ixR (rdR (lotD o (p0 :: lot'))) (.int 0) = some r ∧ fLen r.tree = some (.int n) := fun o => by
    refine ⟨.vl (wit p0), ?_, ?_⟩
    · cases o
      · show ixR (.vl (.nd false .lst (wit p0 :: lot'.map wit))) (.int 0) = _
        simp [ixN]
      · show ixR (.pl [] (.nd true .lst (wit p0 :: lot'.map wit))) (.int 0) = _
        simp [ixN]; rfl
    · show some (D.int ((p0.map D.int).length : Nat)) = _
      rw [List.length_map, l0]
  have r1 : (n : Int) < 4611686018427387904 := by omega
  have r2 : -4611686018427387904 ≤ (n : Int) := by omega
  obtain ⟨r, i1, i2⟩ := ix0 o0
  simp [m_law_table, i1, i2, r1, r2]
  generalize ht : tb (p0 :: lot') = t
  refine forL_range (fun u ρ => ∃ (o : Bool) (z2 z3 z4 : Option D), ρ = [some (lotD o (p0 :: lot')), some (.nd true .lst ((List.range u).map fun a => row false .tup (It t) n a)), z2, z3, z4, none] ∧ (0 < u → o = false)) ⟨o0, none, none, none, rfl, fun h => absurd h (by omega)⟩ ?_ ?_
  · rintro u hu ρ ⟨o, z2, z3, z4, rfl, ho⟩
    refine ⟨_, rfl, ?_⟩
    obtain ⟨r, i1, i2⟩ := ix0 o
    simp [l_law_table_1, i1, i2, r1, r2]
    refine forL_range (fun v ρ => ∃ (o : Bool) (z4 : Option D), ρ = [some (lotD o (p0 :: lot')), some (.nd true .lst ((List.range u).map fun a => row false .tup (It t) n a)), some (.int u), some (.nd true .lst ((List.range v).map fun b => .int (t u b))), z4, none] ∧ (0 < v → o = false)) ⟨o, z4, rfl, fun h => absurd h (by omega)⟩ ?_ ?_
    · rintro v hv ρ ⟨o, z4, rfl, ho⟩
      refine ⟨_, rfl, ?_⟩
      simp [l_law_table_0, okOwn_cons, wipeE_cons, restE_cons]
      have et : (maxI ((p0 :: lot').map fun p => at_ p u - at_ p v)).getD 0 = t u v := by rw [← ht]; rfl
      cases o
      · simp
        refine exO_of (lcL_mapT (F := fun p => D.int (at_ p u - at_ p v)) (p0 :: lot') (fun p hp => ⟨_, rfl, ?_⟩) (by simp at hm ⊢; omega)) ?_
        · have h1 := hl p hp
          simp [rd_wit, ix_wit (ws := p) (show u < p.length by omega), ix_wit (ws := p) (show v < p.length by omega), wipeE_cons]
        rw [frz_ndm fun _ => rfl, maxL_map (by simp), et]
        simp
        exact ⟨by omega, by rw [List.range_succ, List.map_append]; rfl⟩
      · simp
        refine exO_of (lcL_mapT (F := fun p => D.int (at_ p u - at_ p v)) (p0 :: lot') (fun p hp => ⟨_, rfl, ?_⟩) (by simp at hm ⊢; omega)) ?_
        · have h1 := hl p hp
          simp [rd_wit, ix_wit (ws := p) (show u < p.length by omega), ix_wit (ws := p) (show v < p.length by omega), wipeE_cons]
        rw [frz_ndm fun _ => rfl, maxL_map (by simp), et]
        simp
        exact ⟨by omega, by rw [List.range_succ, List.map_append]; rfl⟩
    · rintro ρ ⟨o, z4, rfl, ho⟩
      have ho := ho (by omega)
      subst ho
      have e1 : fTuple (D.nd true .lst ((List.range n).map fun b => D.int (t u b))) = some (row false .tup (It t) n u) := tuple_map fun _ => rfl
      simp [e1]
      exact ⟨by omega, by rw [List.range_succ, List.map_append]; rfl⟩
  · rintro ρ ⟨o, z2, z3, z4, rfl, ho⟩
    have ho := ho (by omega)
    subst ho
    have e1 : fTuple (D.nd true .lst ((List.range n).map fun a => row false .tup (It t) n a)) = some (tupT (It t) n) := tuple_map fun _ => rfl
    simp [e1]
end
section
/-! the lot of a box and ties is what its table unfolds -/
theorem grow_len {a : Int} {n : Nat} : ∀ {rows : List (List Int)}, (grow a n rows).length = rows.length * n
  | [] => by simp [grow]
  | r :: rows => by
    have := grow_len (a := a) (n := n) (rows := rows)
    show (((List.range n).map fun s : Nat => r ++ [a + (s : Int)]) ++ grow a n rows).length = _
    rw [List.length_append, this, List.length_map, List.length_range, List.length_cons, Nat.succ_mul]; omega
theorem pts_count : ∀ {B : List (Int × Nat)} {rows : List (List Int)}, (∀ b ∈ B, 0 < b.2 ∧ b.2 ≤ 9) → (pts B rows).length ≤ rows.length * 9 ^ B.length ∧ rows.length ≤ (pts B rows).length
  | [], rows, _ => by simp [pts]
  | b :: B, rows, h => by
    obtain ⟨h1, h2⟩ := h b (by simp)
    obtain ⟨i1, i2⟩ := pts_count (B := B) (rows := grow b.1 b.2 rows) fun c hc => h c (by simp [hc])
    rw [grow_len] at i1 i2
    refine ⟨?_, ?_⟩
    · show (pts B (grow b.1 b.2 rows)).length ≤ _
      have : rows.length * b.2 * 9 ^ B.length ≤ rows.length * 9 * 9 ^ B.length := Nat.mul_le_mul_right _ (Nat.mul_le_mul_left _ h2)
      rw [List.length_cons, Nat.pow_succ]
      calc (pts B (grow b.1 b.2 rows)).length ≤ rows.length * b.2 * 9 ^ B.length := i1
        _ ≤ rows.length * 9 * 9 ^ B.length := this
        _ = rows.length * (9 ^ B.length * 9) := by rw [Nat.mul_assoc, Nat.mul_comm 9]
    · show rows.length ≤ (pts B (grow b.1 b.2 rows)).length
      have : rows.length * 1 ≤ rows.length * b.2 := Nat.mul_le_mul_left _ h1
      omega
theorem tb_le {lot : List (List Int)} {p : List Int} (h : p ∈ lot) (a b : Nat) : at_ p a - at_ p b ≤ tb lot a b := by
  obtain ⟨m, e, h1, _⟩ := maxI_ok (l := lot.map fun p => at_ p a - at_ p b) (by intro z; rw [List.map_eq_nil_iff] at z; subst z; cases h)
  have : tb lot a b = m := by unfold tb; rw [e]; rfl
  rw [this]
  exact h1 _ (List.mem_map.mpr ⟨p, h, rfl⟩)
theorem tb_at {lot : List (List Int)} (h : lot ≠ []) (a b : Nat) : ∃ p ∈ lot, tb lot a b = at_ p a - at_ p b := by
  obtain ⟨m, e, _, h2⟩ := maxI_ok (l := lot.map fun p => at_ p a - at_ p b) (by intro z; rw [List.map_eq_nil_iff] at z; exact h z)
  have : tb lot a b = m := by unfold tb; rw [e]; rfl
  obtain ⟨p, hp, e2⟩ := List.mem_map.mp h2
  exact ⟨p, hp, by rw [this, e2]⟩
theorem sorted_tail {V lot : List (List Int)} (e : V.map (0 :: ·) = lot) (s : lot.Pairwise fun a b => HT.lexLt a b = true) : V.Pairwise fun a b => HT.lexLt a b = true := by
  rw [← e, List.pairwise_map] at s
  exact s.imp fun h => h
structure Lot (B : List (Int × Nat)) (L : List Tie) (lot : List (List Int)) : Prop where
  e : lot = (pts B [[0]]).filter fun p => keeps p L
  n : lot ≠ []
  b : ∀ b ∈ B, 0 < b.2 ∧ b.2 ≤ 9
  i : InN (B.length + 1) L
  h1 : 0 < B.length
  h3 : B.length ≤ 3
section
variable {B : List (Int × Nat)} {L : List Tie} {lot : List (List Int)}
theorem Lot.inB (h : Lot B L lot) {p : List Int} (hp : p ∈ lot) : InB B p := by
  rw [h.e] at hp
  exact pts_in _ rfl (List.mem_filter.mp hp).1
theorem Lot.tb0 (h : Lot B L lot) (k : Nat) : tb lot k k = 0 := by
  obtain ⟨p, _, e⟩ := tb_at h.n k k
  omega
theorem Lot.tbB (h : Lot B L lot) (k : Nat) (b : Int × Nat) (hb : B[k]? = some b) : tb lot (k + 1) 0 < b.1 + (b.2 : Nat) ∧ tb lot 0 (k + 1) ≤ -b.1 := by
  obtain ⟨p, hp, e⟩ := tb_at h.n (k + 1) 0
  obtain ⟨q, hq, e'⟩ := tb_at h.n 0 (k + 1)
  obtain ⟨_, p0, pk⟩ := h.inB hp
  obtain ⟨_, q0, qk⟩ := h.inB hq
  have := pk k b hb
  have := qk k b hb
  omega
theorem Lot.tbP (h : Lot B L lot) (k : Nat) : 0 ≤ tb lot (k + 1) 0 + tb lot 0 (k + 1) := by
  obtain ⟨p, hp, e⟩ := tb_at h.n (k + 1) 0
  have := tb_le hp 0 (k + 1)
  omega
theorem Lot.ok (h : Lot B L lot) {p : List Int} (hp : p ∈ pts B [[0]]) : ok (tb lot) p = keeps p L := by
  obtain ⟨pl, _, _⟩ := pts_in _ rfl hp
  rw [Bool.eq_iff_iff]
  unfold Kt.ok keeps
  rw [decide_eq_true_iff, List.all_eq_true]
  constructor
  · intro k c hc
    obtain ⟨hu, hv⟩ := h.i c hc
    have k1 := k c.1 (by omega) c.2.1 (by omega)
    obtain ⟨q, hq, e⟩ := tb_at h.n c.1 c.2.1
    rw [h.e] at hq
    have k2 := (List.mem_filter.mp hq).2
    unfold keeps at k2
    rw [List.all_eq_true] at k2
    have k3 := k2 c hc
    simp at k3 ⊢
    omega
  · intro k i hi j hj
    refine tb_le ?_ i j
    rw [h.e]
    exact List.mem_filter.mpr ⟨hp, by unfold keeps; rw [List.all_eq_true]; exact k⟩
theorem Lot.vals (h : Lot B L lot) : (vals (tb lot) B.length).map (0 :: ·) = lot := by
  rw [vals_pts (fun k _ => by rw [h.tb0]; omega) h.tbB B.length (Nat.le_refl _), List.take_length]
  conv => rhs; rw [h.e]
  exact List.filter_congr fun p hp => h.ok hp
theorem Lot.count (h : Lot B L lot) (k : Nat) : (pts (B.take k) [[0]]).length ≤ 729 := by
  have := (pts_count (B := B.take k) (rows := [[0]]) fun b hb => h.b b (List.mem_of_mem_take hb)).1
  have l1 : (B.take k).length ≤ 3 := by rw [List.length_take]; have := h.h3; omega
  have l2 : 9 ^ (B.take k).length ≤ 9 ^ 3 := Nat.pow_le_pow_right (by omega) l1
  simp only [List.length_singleton, Nat.one_mul] at this
  omega
theorem Lot.prod (h : Lot B L lot) : ∀ k, k ≤ B.length → 0 < S.prod (tb lot) k ∧ S.prod (tb lot) k ≤ ((9 ^ k : Nat) : Int)
  | 0, _ => by simp [S.prod]
  | k + 1, hk => by
    obtain ⟨i1, i2⟩ := h.prod k (by omega)
    obtain ⟨b, hb⟩ : ∃ b, B[k]? = some b := ⟨_, List.getElem?_eq_getElem (by omega)⟩
    have h1 := h.tbB k b hb
    have h2 := h.tbP k
    have h3 := h.b b (List.mem_of_getElem? hb)
    have f1 : 0 < tb lot (k + 1) 0 + tb lot 0 (k + 1) + 1 := by omega
    have f2 : tb lot (k + 1) 0 + tb lot 0 (k + 1) + 1 ≤ 9 := by omega
    refine ⟨Int.mul_pos i1 f1, ?_⟩
    show S.prod (tb lot) k * (tb lot (k + 1) 0 + tb lot 0 (k + 1) + 1) ≤ _
    calc S.prod (tb lot) k * (tb lot (k + 1) 0 + tb lot 0 (k + 1) + 1) ≤ S.prod (tb lot) k * 9 := Int.mul_le_mul_of_nonneg_left f2 (by omega)
      _ ≤ ((9 ^ k : Nat) : Int) * 9 := Int.mul_le_mul_of_nonneg_right i2 (by omega)
      _ = ((9 ^ (k + 1) : Nat) : Int) := by rw [Nat.pow_succ, Int.natCast_mul]; rfl
theorem Lot.rank (h : Lot B L lot) {i : Nat} {p : List Int} (hp : lot[i]? = some p) : ∃ v, p = 0 :: v ∧ (Kt.vals (tb lot) B.length)[i]? = some v ∧ ((Kt.vals (tb lot) B.length).filter fun w => HT.lexLt w v).length = i := by
  have e := h.vals
  have s : lot.Pairwise fun a b => HT.lexLt a b = true := by
    rw [h.e]; exact (pts_sorted _ rfl).filter _
  have sv := sorted_tail e s
  rw [← e, List.getElem?_map] at hp
  cases hv : (Kt.vals (tb lot) B.length)[i]? with
  | none => rw [hv] at hp; cases hp
  | some v =>
    rw [hv] at hp
    cases hp
    exact ⟨v, rfl, rfl, Kt.rank sv hv⟩
end
end
section
theorem app_zts {R : Nat} {P : Pv.Env → Prop} {l : List Int} {x : Int} {ρ : Pv.Env} : apK R P (.int x) (.pl [] (zts true l)) ρ ↔ l.length < 16777216 ∧ exO ρ[R]? fun o => exO o fun dr => P (ρ.set R (some (putD [] (zts true (l ++ [x])) dr))) := by
  have e : zts true (l ++ [x]) = .nd true .lst (l.map D.int ++ [.int x]) := by simp [zts]
  rw [e]
  simp [zts]
theorem app_nats {R : Nat} {P : Pv.Env → Prop} {l : List Nat} {x : Nat} {ρ : Pv.Env} : apK R P (.int x) (.pl [] (nats true l)) ρ ↔ l.length < 16777216 ∧ exO ρ[R]? fun o => exO o fun dr => P (ρ.set R (some (putD [] (nats true (l ++ [x])) dr))) := by
  have e : nats true (l ++ [x]) = .nd true .lst (l.map (fun n : Nat => D.int n) ++ [.int x]) := by simp [nats]
  rw [e]
  simp [nats]
@[simp] theorem own_zts {l : List Int} : (PR.pl [] (zts true l)).isOwn = true := rfl
@[simp] theorem own_nats {l : List Nat} : (PR.pl [] (nats true l)).isOwn = true := rfl
@[simp] theorem off_zts {i : Nat} {l : List Int} {ρ : Pv.Env} : offA i (zts true l) ρ = ρ.set i none := rfl
@[simp] theorem off_nats {i : Nat} {l : List Nat} {ρ : Pv.Env} : offA i (nats true l) ρ = ρ.set i none := rfl
@[simp] theorem off_lotF {i : Nat} {l : List (List Int)} {ρ : Pv.Env} : offA i (lotD false l) ρ = ρ := rfl
@[simp] theorem off_lotT {i : Nat} {l : List (List Int)} {ρ : Pv.Env} : offA i (lotD true l) ρ = ρ.set i none := rfl
@[simp] theorem seq_nats {l : List Nat} : seqOf (nats false l) = some (l.map fun n : Nat => .int n) := rfl
theorem ix_lotF {l : List (List Int)} {i : Nat} {v : List Int} (h : l[i]? = some v) : ixR (.vl (lotD false l)) (.int i) = some (.vl (wit v)) := by
  have hi : i < l.length := (List.getElem?_eq_some_iff.mp h).1
  unfold lotD
  rw [ixR_vl, if_pos (by rfl : isSeq Kd.lst = true), List.length_map, ixN_nat hi]
  show ((l.map wit)[i]?).map PR.vl = _
  rw [List.getElem?_map, h]; rfl
theorem tuple_wit {v : List Int} : fTuple (wit v) = some (wit v) := rfl
theorem zip_len {lo : List Int} {ns : List Nat} (h : lo.length = ns.length) : (lo.zip ns).length = ns.length := by rw [List.length_zip]; omega
theorem zip_sz {lo : List Int} {ns : List Nat} (h : ∀ n ∈ ns, 0 < n ∧ n ≤ 9) : ∀ b ∈ lo.zip ns, 0 < b.2 ∧ b.2 ≤ 9 := fun b hb => h _ (List.of_mem_zip hb).2
theorem keeps_good {p : List Int} {L : List Tie} (h : Good (at_ p) L) : keeps p L = true := by
  unfold keeps
  rw [List.all_eq_true]
  intro c hc
  simpa using h c hc
theorem Lot.len (h : Lot B L lot) : (Kt.vals (tb lot) B.length).length = lot.length := by
  have := congrArg List.length h.vals
  simpa using this
theorem Lot.len9 (h : Lot B L lot) : 0 < lot.length ∧ lot.length ≤ 729 := by
  refine ⟨List.length_pos_iff.mpr h.n, ?_⟩
  have := h.count B.length
  rw [List.take_length] at this
  have h2 := List.length_filter_le (fun p => keeps p L) (pts B [[0]])
  rw [← h.e] at h2
  omega
end
section
theorem rng3_down {N : Nat} (h : N < 2 ^ 60) : fRng3 [.int ((N : Int) - 1), .int (-1), .int (-1)] = some ((List.range N).map fun j : Nat => D.int ((N : Int) - 1 + j * (-1))) := by
  show (if (-1 : Int) = -1 ∧ -(2 ^ 62) ≤ (N : Int) - 1 ∧ (N : Int) - 1 < 2 ^ 62 ∧ -(2 ^ 62) ≤ (-1 : Int) ∧ (-1 : Int) < 2 ^ 62 then some (rangeD ((N : Int) - 1) ((N : Int) - 1 - -1).toNat) else none) = _
  rw [if_pos (by omega), show ((N : Int) - 1 - -1).toNat = N by omega]
  rfl
theorem tuple_zts {o : Bool} {l : List Int} : fTuple (zts o l) = some (wit l) := tuple_map fun _ => rfl
theorem rv_zts {R : Nat} {P : Pv.Env → Prop} {l : List Int} {ρ : Pv.Env} : rvK R P (.pl [] (zts true l)) ρ ↔ exO ρ[R]? fun o => exO o fun dr => P (ρ.set R (some (putD [] (zts true l.reverse) dr))) := by
  have e : zts true l.reverse = .nd true .lst (l.map D.int).reverse := by simp [zts]
  rw [e]; rfl
theorem len_nats {o : Bool} {l : List Nat} : fLen (nats o l) = some (.int l.length) := by simp [nats, fLen]
theorem ix_natsF {l : List Nat} {k : Nat} {x : Nat} (h : l[k]? = some x) : ixR (.vl (nats false l)) (.int k) = some (.vl (.int x)) := by
  have hk : k < l.length := (List.getElem?_eq_some_iff.mp h).1
  unfold nats
  simp [ixN_nat hk, h]
@[simp] theorem rd_natsF {l : List Nat} : rdR (nats false l) = .vl (nats false l) := rfl
section
variable {B : List (Int × Nat)}
end
end
end S

/-! Sc -/
set_option Elab.async false
set_option linter.all false
set_option maxRecDepth 100000
set_option maxHeartbeats 1000000
namespace S
open PySem L2 Pv Kt
section
theorem nn_at {n : Nat} {R : Tab} {a : Nat} {x : Int} (h : nn n R) (ha : a < n) (e : R a a = some x) : 0 ≤ x := h a ha x ⟨x, e, by omega⟩
end
section
@[simp] theorem isFlat_optD {x : Option Int} : isFlat (optD x) = true := by cases x <;> rfl
theorem spec_lesser (o x y : Option Int) : wF fn_lesser [optD o, optD x, optD y] fun d _ => d = optD (low o (oadd x y)) := by
  refine wF_run ?_
  cases x with
  | none => simp [m_lesser, oadd, low]
  | some x =>
    cases y with
    | none => simp [m_lesser, oadd, low]
    | some y =>
      cases o with
      | none => simp [m_lesser, oadd, low]
      | some z =>
        simp [m_lesser, oadd, low]
        by_cases q : x + y < z <;> simp [q]
/-- a matrix one row of which is frozen -/
def matF (T : Tab) (n k : Nat) : D := putD [k] (row false .lst T n k) (mat true T n)
@[simp] theorem rd_matK {T : Tab} {n k : Nat} : rdR (matF T n k) = .pl [] (matF T n k) := rfl
theorem matF_def {T : Tab} {n k : Nat} : putD [k] (row false .lst T n k) (mat true T n) = matF T n k := rfl
theorem frzL_set {xs : List D} {k : Nat} {d : D} : frzL (xs.set k d) = (frzL xs).set k (frz d) := by simp [frzL_eq, List.map_set]
theorem frz_matK {T : Tab} {n k : Nat} : frz (matF T n k) = mat false T n := by
  unfold matF mat
  rw [putD_cons, putD_nil, frz_nd, frzL_set, frzL_map, frz_row]
  congr 1
  apply List.ext_getElem?
  intro i
  rw [List.getElem?_set]
  by_cases h : k = i
  · subst h; by_cases h2 : k < n <;> simp [h2]
  · simp [h]
theorem zip_row {T T' : Tab} {n a b : Nat} : fZip [row false .lst T n a, row false .lst T' n b] = some ((List.range n).map fun j => .nd false .tup [optD (T a j), optD (T' b j)]) := zip_rows
theorem spec_led {T : Tab} {n k : Nat} (hn : n ≤ 1000) (hk : k < n) : wF fn_led_through [mat true T n, .int k] fun d o => d = mat true (stp k T) n ∧ o = [some (mat false T n), some (.int k)] := by
  refine wF_run ?_
  simp [m_led_through, ix_mat hk, matF_def, frz_matK, okOwn_cons, wipeE_cons, restE_cons]
  refine exO_of (lcL_mapT (F := fun a => row true .lst (stp k T) n a) (List.range n) (fun a ha => ⟨_, rfl, ?_⟩) (by simp; omega)) ?_
  · simp [okOwn_cons, wipeE_cons, restE_cons, zip_row]
    refine exO_of (lcL_mapT (F := fun b => optD (stp k T a b)) (List.range n) (fun b hb => ⟨_, rfl, ?_⟩) (by simp; omega)) ?_
    · simp [look1_sl, ix_rowF (k := .lst) rfl hk]
      refine (spec_lesser (T a b) (T a k) (T k b)).mono ?_
      rintro _ _ rfl
      simp [wipeE_cons, stp]
    · simp
      rfl
  simp
  rfl
open Classical in
noncomputable def kindC (n : Nat) (R : Tab) : D := if nn n R then tupT R n else .non
theorem spec_closure {T : Tab} {n : Nat} (hn : n ≤ 1000) (hd : ∀ a, a < n → ∃ x, fw n (dgf n T) a a = some x) : wF fn_closure [mat true T n] fun d o => d = kindC n (fw n (dgf n T)) ∧ o = [some (mat false T n)] := by
  refine wF_run ?_
  have r1 : (n : Int) < 4611686018427387904 := by omega
  have r2 : -4611686018427387904 ≤ (n : Int) := by omega
  simp [m_closure, okOwn_cons, wipeE_cons, restE_cons]
  refine exO_of (lcL_mapT (F := fun a => row true .lst T n a) (List.range n) (fun a ha => ⟨_, rfl, ?_⟩) (by simp; omega)) ?_
  · simp [wipeE_cons]
  have e0 : D.nd true .lst ((List.range n).map fun a => row true .lst T n a) = mat true (dgf 0 T) n := by rw [dgf_0]; rfl
  simp [e0, r1, r2]
  refine forL_range (fun j ρ => ∃ z : Option D, ρ = [some (mat false T n), some (mat true (dgf j T) n), z, none, none]) ⟨none, rfl⟩ ?_ ?_
  · rintro j hj ρ ⟨z, rfl⟩
    refine ⟨_, rfl, ?_⟩
    have e := dgf_succ (T := T) (k := j)
    have e3 := dgf_at (T := T) (k := j)
    cases e2 : T j j with
    | none =>
      rw [e2] at e e3
      simp [l_closure_0, ix_mat hj, ix_row hj, e3, set_row, hj, e]
      rfl
    | some x =>
      rw [e2] at e e3
      by_cases q : 0 < x
      · simp [l_closure_0, ix_mat hj, ix_row hj, e3, set_row, hj, e, q, low]
      · simp [l_closure_0, ix_mat hj, ix_row hj, e3, set_row, hj, e, q, low]
        rw [upd_same e3]
  rintro ρ ⟨z, rfl⟩
  generalize dgf n T = T' at hd
  simp [r1, r2]
  refine forL_range (fun j ρ => ∃ z3 : Option D, ρ = [some (mat false T n), some (mat true (fw j T') n), z, z3, none]) ⟨none, rfl⟩ ?_ ?_
  · rintro j hj ρ ⟨z3, rfl⟩
    refine ⟨_, rfl, ?_⟩
    simp [l_closure_1, takeA_sl]
    refine (spec_led (T := fw j T') hn hj).mono ?_
    rintro _ _ ⟨rfl, rfl⟩
    simp [putA_sl, fx_led_through]
    rfl
  rintro ρ ⟨z3, rfl⟩
  generalize fw n T' = R at hd
  simp [r1, r2]
  refine forL_range (fun j ρ => (∃ z : Option D, ρ = [some (mat false T n), some (mat true R n), z, z3, none]) ∧ ∀ a, a < j → ∀ x, R a a = some x → 0 ≤ x) ⟨⟨z, rfl⟩, by omega⟩ ?_ ?_
  · rintro j hj ρ ⟨⟨z, rfl⟩, h⟩
    refine ⟨_, rfl, ?_⟩
    obtain ⟨x, e⟩ := hd j hj
    by_cases q : x < 0
    · simp [l_closure_2, ix_mat hj, ix_row hj, e, q]
      unfold kindC
      rw [if_neg fun z => by have := nn_at z hj e; omega]
    · simp [l_closure_2, ix_mat hj, ix_row hj, e, q]
      intro a ha y ey
      by_cases l : a < j
      · exact h a l y ey
      · have : a = j := by omega
        subst this
        rw [e] at ey; cases ey; omega
  rintro ρ ⟨⟨z, rfl⟩, h⟩
  have hnn : nn n R := fun a ha y hy => by
    obtain ⟨w, ew, l⟩ := hy
    have := h a ha w ew
    omega
  simp [okOwn_cons, wipeE_cons, restE_cons]
  refine exO_of (lcL_mapT (F := fun a => row false .tup R n a) (List.range n) (fun a ha => ⟨_, rfl, ?_⟩) (by simp; omega)) ?_
  · simp [wipeE_cons]
  have e0 : frz (.nd true .lst ((List.range n).map fun a => row false .tup R n a)) = .nd false .lst ((List.range n).map fun a => row false .tup R n a) := by simp
  rw [e0, tuple_rows, exO_some, rtP_rt]
  unfold kindC
  rw [if_pos hnn]
  exact ⟨rfl, rfl⟩
end
end S

/-! Sd -/
set_option Elab.async false
set_option linter.all false
set_option maxRecDepth 100000
set_option maxHeartbeats 1000000
namespace S
open PySem L2 Pv Kt
section
theorem diag0_succ {k : Nat} : diag0 (k + 1) = upd (diag0 k) k k (some 0) := by
  funext a b
  show (if a = b ∧ a < k + 1 then some 0 else none) = if a = k ∧ b = k then some 0 else if a = b ∧ a < k then some 0 else none
  by_cases h : a = k ∧ b = k
  · obtain ⟨rfl, rfl⟩ := h; simp
  · rw [if_neg h]
    by_cases h2 : a = b ∧ a < k
    · rw [if_pos h2, if_pos (by omega)]
    · rw [if_neg h2, if_neg (by omega)]
theorem take_addT {L : List Tie} {T : Tab} {j : Nat} {t : Tie} (h : L[j]? = some t) : (L.take (j + 1)).foldl addT T = addT ((L.take j).foldl addT T) t := by
  obtain ⟨hj, e⟩ := List.getElem?_eq_some_iff.mp h
  rw [← List.take_append_getElem hj, List.foldl_append, e]; rfl
/-- a row led through mid, in place -/
theorem closing_row {m mid u : Nat} {c0 : Pv.D} {T R0 : Tab} {x : Int} {z1 z2 z3 z5 : Option D} (hm : m ≤ 100) (hk : mid < m + 1) (hu : u < m + 1) (h : InP (m + 1) mid T u 0 R0) (g : Ahd mid T u x) (Q : Fl → Pv.Env → Prop)
    (hQ : ∀ (R : Tab) (z2 z5 : Option D), InP (m + 1) mid T u (m + 1) R → Q .nx [some (.int m), some c0, some (.int ((m : Int) + 1)), some (mat true R (m + 1)), z1, some (.int u), z2, z3, some (.int mid), some (.int x), z5]) :
    wS (forL (gmName 6) l_law_closing_2 (rangeL 0 (m + 1))) [some (.int m), some c0, some (.int ((m : Int) + 1)), some (mat true R0 (m + 1)), z1, some (.int u), z2, z3, some (.int mid), some (.int x), z5] Q := by
  refine forL_range (fun j ρ => ∃ (R : Tab) (z2 z5 : Option D), ρ = [some (.int m), some c0, some (.int ((m : Int) + 1)), some (mat true R (m + 1)), z1, some (.int u), z2, z3, some (.int mid), some (.int x), z5] ∧ InP (m + 1) mid T u j R) ⟨R0, z2, z5, rfl, h⟩ ?_ ?_
  · rintro v hv ρ ⟨R, z2, z5, rfl, h⟩
    refine ⟨_, rfl, ?_⟩
    have st := h.step g hu hv
    cases e1 : R mid v with
    | none =>
      rw [e1] at st
      simp [l_law_closing_2, ix_mat hk, ix_row hv, e1]
      simp only [oadd, low] at st
      rw [upd_same rfl] at st
      exact ⟨R, rfl, st⟩
    | some y =>
      rw [e1] at st
      cases e2 : R u v with
      | none =>
        rw [e2] at st
        simp [l_law_closing_2, ix_mat hk, ix_mat hu, ix_row hv, e1, e2, set_row, hv]
        exact ⟨_, rfl, st⟩
      | some w =>
        rw [e2] at st
        by_cases q : x + y < w
        · simp [l_law_closing_2, ix_mat hk, ix_mat hu, ix_row hv, e1, e2, set_row, hv, q]
          simp [low, oadd, q] at st
          exact ⟨_, rfl, st⟩
        · simp [l_law_closing_2, ix_mat hk, ix_mat hu, ix_row hv, e1, e2, set_row, hv, q]
          simp [low, oadd, q] at st
          rw [upd_same e2] at st
          exact ⟨R, rfl, st⟩
  · rintro ρ ⟨R, z2, z5, rfl, h⟩
    exact hQ R z2 z5 h
theorem spec_closing (L : List Tie) (m : Nat) (hm : m ≤ 100) (hi : InN (m + 1) L) : wF fn_law_closing [.int m, ties true .lst L] fun d o => ∃ R, d = mat true R (m + 1) ∧ Ip (m + 1) (ini (m + 1) L) (m + 1) R ∧ o = [some (.int m), some (ties false .lst L)] := by
  refine wF_run ?_
  have r1 : (m : Int) + 1 < 4611686018427387904 := by omega
  have r2 : -4611686018427387904 ≤ (m : Int) + 1 := by omega
  simp [m_law_closing, okOwn_cons, wipeE_cons, restE_cons, r1, r2]
  refine exO_of (lcL_rangeT (F := fun a => row true .lst noT (m + 1) a) (fun a ha => ⟨_, rfl, ?_⟩) (by omega)) ?_
  · simp [okOwn_cons, wipeE_cons, restE_cons, r1, r2]
    refine exO_of (lcL_rangeT (F := fun b => .non) (fun b hb => ⟨_, rfl, ?_⟩) (by omega)) ?_
    · simp [wipeE_cons]
    simp [row, noT]
  have e0 : D.nd true .lst ((List.range (m + 1)).map fun a => row true .lst noT (m + 1) a) = mat true (diag0 0) (m + 1) := by
    have : diag0 0 = noT := by funext a b; unfold diag0 noT; rw [if_neg (by omega)]
    rw [this]; rfl
  simp [e0, r1, r2]
  refine forL_range (fun j ρ => ∃ (z : Option D), ρ = [some (.int m), some (ties true .lst L), some (.int ((m : Int) + 1)), some (mat true (diag0 j) (m + 1)), z, none, none, none, none, none, none]) ⟨none, rfl⟩ ?_ ?_
  · rintro j hj ρ ⟨z, rfl⟩
    refine ⟨_, rfl, ?_⟩
    simp [l_law_closing_0, ix_mat hj, set_row, hj, diag0_succ]
  rintro ρ ⟨z, rfl⟩
  simp
  refine forL_map (F := tri) (fun j ρ => ∃ (z5 z6 z7 : Option D), ρ = [some (.int m), some (ties false .lst L), some (.int ((m : Int) + 1)), some (mat true ((L.take j).foldl addT (diag0 (m + 1))) (m + 1)), z, z5, z6, z7, none, none, none]) L ⟨none, none, none, rfl⟩ ?_ ?_
  · rintro j ⟨u, v, c⟩ hx ρ ⟨z5, z6, z7, rfl⟩
    obtain ⟨hu, hv⟩ := hi _ (List.mem_of_getElem? hx)
    dsimp only at hu hv
    refine ⟨_, rfl, ?_⟩
    have st := take_addT (T := diag0 (m + 1)) hx
    generalize (L.take j).foldl addT (diag0 (m + 1)) = T at st
    simp only [addT] at st
    rw [st]
    cases e2 : T u v with
    | none =>
      simp [l_law_closing_1, ix_mat hu, ix_row hv, e2, set_row, hv]
      rfl
    | some w =>
      by_cases q : c < w
      · simp [l_law_closing_1, ix_mat hu, ix_row hv, e2, set_row, hv, q, low]
      · simp [l_law_closing_1, ix_mat hu, ix_row hv, e2, set_row, hv, q, low]
        rw [upd_same e2]
  rintro ρ ⟨z5, z6, z7, rfl⟩
  rw [List.take_length]
  have hd := ini_dom hi
  change wS _ [some (.int m), some (ties false .lst L), some (.int ((m : Int) + 1)), some (mat true (ini (m + 1) L) (m + 1)), z, z5, z6, z7, none, none, none] _
  generalize ini (m + 1) L = T at hd
  simp [r1, r2]
  refine forL_range (fun j ρ => ∃ (R : Tab) (z5 z6 z8 z9 z10 : Option D), ρ = [some (.int m), some (ties false .lst L), some (.int ((m : Int) + 1)), some (mat true R (m + 1)), z, z5, z6, z7, z8, z9, z10] ∧ Ip (m + 1) T j R) ⟨T, _, _, _, _, _, rfl, Ip.start hd⟩ ?_ ?_
  · rintro mid hk ρ ⟨R0, z5, z6, z8, z9, z10, rfl, h0⟩
    refine ⟨_, rfl, ?_⟩
    simp [l_law_closing_4, r1, r2]
    refine forL_range (fun j ρ => ∃ (R : Tab) (z5 z6 z9 z10 : Option D), ρ = [some (.int m), some (ties false .lst L), some (.int ((m : Int) + 1)), some (mat true R (m + 1)), z, z5, z6, z7, some (.int mid), z9, z10] ∧ InP (m + 1) mid R0 j 0 R) ⟨R0, _, _, _, _, rfl, InP.start h0.dom⟩ ?_ ?_
    · rintro u hu ρ ⟨R, z5, z6, z9, z10, rfl, h⟩
      refine ⟨_, rfl, ?_⟩
      cases e1 : R u mid with
      | none =>
        simp [l_law_closing_3, ix_mat hu, ix_row hk, e1]
        exact ⟨R, rfl, h.skip e1⟩
      | some x =>
        simp [l_law_closing_3, ix_mat hu, ix_row hk, e1, r1, r2]
        refine closing_row hm hk hu h (h.ahead e1) _ fun R' z2 z5 h' => ?_
        simp
        exact ⟨R', rfl, h'.row h0.dom hk⟩
    · rintro ρ ⟨R, z5, z6, z9, z10, rfl, h⟩
      simp
      exact ⟨R, rfl, h0.next h hk⟩
  · rintro ρ ⟨R, z5, z6, z8, z9, z10, rfl, h⟩
    simp
    exact ⟨R, rfl, h⟩
open Classical in
noncomputable def kindD (n : Nat) (R : Tab) : D := if nn n R then (if full n R then tupT R n else .str "wide") else .non
theorem spec_kind (n : Nat) (R : Tab) (hn : n ≤ 1000) (hd : ∀ a, a < n → ∃ x, R a a = some x) : wF fn_law_kind [mat true R n] fun d o => d = kindD n R := by
  refine wF_run ?_
  have r1 : (n : Int) < 4611686018427387904 := by omega
  have r2 : -4611686018427387904 ≤ (n : Int) := by omega
  simp [m_law_kind, r1, r2]
  refine forL_range (fun j ρ => (∃ z : Option D, ρ = [some (mat true R n), z, none]) ∧ ∀ a, a < j → ∀ x, R a a = some x → 0 ≤ x) ⟨⟨none, rfl⟩, by omega⟩ ?_ ?_
  · rintro j hj ρ ⟨⟨z, rfl⟩, h⟩
    refine ⟨_, rfl, ?_⟩
    obtain ⟨x, e⟩ := hd j hj
    by_cases q : x < 0
    · simp [l_law_kind_0, ix_mat hj, ix_row hj, e, q]
      unfold kindD
      rw [if_neg fun z => by have := nn_at z hj e; omega]
    · simp [l_law_kind_0, ix_mat hj, ix_row hj, e, q]
      intro a ha y ey
      by_cases l : a < j
      · exact h a l y ey
      · have : a = j := by omega
        subst this
        rw [e] at ey; cases ey; omega
  rintro ρ ⟨⟨z, rfl⟩, h⟩
  have hnn : nn n R := fun a ha y hy => by
    obtain ⟨w, ew, l⟩ := hy
    have := h a ha w ew
    omega
  simp
  refine forL_map (F := fun a => row false .lst R n a) (fun j ρ => (∃ z2 : Option D, ρ = [some (mat false R n), z, z2] ∧ ∀ d, z2 = some d → isF d = true) ∧ ∀ a, a < j → ∀ b, b < n → R a b ≠ none) (List.range n) ⟨⟨none, rfl, by simp⟩, by omega⟩ ?_ ?_
  · rintro j x hx ρ ⟨⟨z2, rfl, _⟩, h⟩
    obtain ⟨hj, e2⟩ := List.getElem?_eq_some_iff.mp hx
    rw [List.getElem_range] at e2
    subst e2
    have hj : j < n := by simpa using hj
    refine ⟨_, rfl, ?_⟩
    simp [l_law_kind_1]
    refine ⟨fun b hb e => ?_, fun q a ha b hb e => ?_⟩
    · unfold kindD
      rw [if_pos hnn, if_neg fun z => z j hj b hb e]
    · by_cases l : a < j
      · exact h a l b hb e
      · have : a = j := by omega
        subst this
        exact q b hb e
  rintro ρ ⟨⟨z2, rfl, hz2⟩, h⟩
  have hf : full n R := by simpa [full] using h
  have ok : okOwn [some (mat false R n), z, z2] [2] = true := by
    cases z2 with
    | none => rfl
    | some d => simp [okOwn_cons, hz2 d rfl]
  simp [ok, wipeE_cons, restE_cons]
  refine exO_of (lcL_mapT (F := fun a => row false .tup R n a) (List.range n) (fun a ha => ⟨_, rfl, ?_⟩) (by simp; omega)) ?_
  · simp [wipeE_cons]
  have e0 : frz (.nd true .lst ((List.range n).map fun a => row false .tup R n a)) = .nd false .lst ((List.range n).map fun a => row false .tup R n a) := by simp
  rw [e0, tuple_rows, exO_some, rtP_rt]
  unfold kindD
  rw [if_pos hnn, if_pos hf]
end
end S

/-! Se -/
set_option Elab.async false
set_option linter.all false
set_option maxRecDepth 100000
set_option maxHeartbeats 1000000
namespace S
open PySem L2 Pv Kt
section
open Classical in
/-- how closed_table ends -/
noncomputable def endC (n : Nat) (L : List Tie) : Rs D := if nn n (fin n L) then (if full n (fin n L) then .ok (tupT (fin n L) n) else .ex 1) else .ok .non
/-- differences as they are handed in -/
def LikeT (d : D) (L : List Tie) : Prop := d = ties true .lst L ∨ d = ties false .lst L ∨ d = ties false .tup L
theorem LikeT.any {d : D} {L : List Tie} (h : LikeT d L) : anyOf (frz d) = some (L.map tri) := by
  rcases h with rfl | rfl | rfl <;> simp
theorem LikeT.ff {d : D} {L : List Tie} (h : LikeT d L) : frz (frz d) = frz d := by
  rcases h with rfl | rfl | rfl <;> simp
theorem LikeT.fr {d : D} {L : List Tie} (h : LikeT d L) : isF (frz d) = true := by
  rcases h with rfl | rfl | rfl <;> rfl
theorem set_self {ρ : Pv.Env} {R : Nat} {x : Option D} (e : ρ[R]? = some x) : ρ.set R x = ρ := by
  apply List.ext_getElem?
  intro i
  rw [List.getElem?_set]
  by_cases q : R = i
  · subst q
    have := (List.getElem?_eq_some_iff.mp e).1
    rw [if_pos rfl, if_pos this, e]
  · rw [if_neg q]
theorem LikeT.rdK {d : D} {L : List Tie} (h : LikeT d L) {R : Nat} {P : D → Pv.Env → Prop} {ρ : Pv.Env} (e : ρ[R]? = some (some d)) : rdK R P (rdR d) ρ ↔ P (frz d) (ρ.set R (some (frz d))) := by
  rcases h with rfl | rfl | rfl
  · simp [e]
  · rw [frz_ties, set_self e]; simp
  · rw [frz_ties, set_self e]; simp
theorem rep_row {n : Nat} {a : Nat} : D.nd true .lst (List.replicate n .non) = row true .lst noT n a := by
  unfold row noT
  simp [List.map_const']
theorem spec_closed {d : D} {L : List Tie} (hd : LikeT d L) (m : Nat) (hm : m ≤ 100) (hi : InN (m + 1) L) : wFx fn_closed_table [.int m, d] fun r o => r = endC (m + 1) L ∧ o = [some (.int m), some (frz d)] := by
  refine wFx_run ?_
  have r1 : (m : Int) + 1 < 4611686018427387904 := by omega
  have r2 : -4611686018427387904 ≤ (m : Int) + 1 := by omega
  have r3 : (m : Int) + 1 < 9223372036854775808 := by omega
  have r4 : -9223372036854775808 ≤ (m : Int) + 1 := by omega
  have r5 : ((m : Int) + 1).toNat = m + 1 := by omega
  have r6 : m + 1 ≤ 16777216 := by omega
  unfold m_closed_table
  refine wX_seq (wS.x ?_)
  simp [okOwn_cons, wipeE_cons, restE_cons, r1, r2]
  refine exO_of (lcL_rangeT (F := fun a => row true .lst noT (m + 1) a) (fun a ha => ⟨_, rfl, ?_⟩) (by omega)) ?_
  · simp [wipeE_cons, r3, r4, r5, r6]
    exact rep_row
  have e0 : D.nd true .lst ((List.range (m + 1)).map fun a => row true .lst noT (m + 1) a) = mat true noT (m + 1) := rfl
  simp [e0]
  refine wX_seq (wS.x ?_)
  simp [hd.rdK, hd.ff, hd.any]
  refine forL_map (F := tri) (fun j ρ => ∃ (z3 z4 z5 : Option D), ρ = [some (.int m), some (frz d), some (mat true ((L.take j).foldl addT noT) (m + 1)), z3, z4, z5, none, none, none]) L ⟨none, none, none, rfl⟩ ?_ ?_
  · rintro j ⟨u, v, c⟩ hx ρ ⟨z3, z4, z5, rfl⟩
    obtain ⟨hu, hv⟩ := hi _ (List.mem_of_getElem? hx)
    dsimp only at hu hv
    refine ⟨_, rfl, ?_⟩
    have st := take_addT (T := noT) hx
    generalize (L.take j).foldl addT noT = T at st
    simp only [addT] at st
    rw [st]
    cases e2 : T u v with
    | none =>
      simp [l_closed_table_0, ix_mat hu, ix_row hv, e2, set_row, hv]
      rfl
    | some w =>
      by_cases q : c < w
      · simp [l_closed_table_0, ix_mat hu, ix_row hv, e2, set_row, hv, q, low]
      · simp [l_closed_table_0, ix_mat hu, ix_row hv, e2, set_row, hv, q, low]
        rw [upd_same e2]
  rintro ρ ⟨z3, z4, z5, rfl⟩
  rw [List.take_length, sqK_nx]
  refine wX_seq (wS.x ?_)
  simp [takeA_sl]
  have hf : fw (m + 1) (dgf (m + 1) (L.foldl addT noT)) = fin (m + 1) L := by rw [iniP]; rfl
  refine (spec_closure (T := L.foldl addT noT) (n := m + 1) (by omega) fun a ha => by rw [hf]; exact fin_diag ha).mono ?_
  rintro _ o ⟨rfl, rfl⟩
  rw [hf]
  simp [putA_sl, fx_closure]
  generalize hF : fin (m + 1) L = F
  unfold endC
  rw [hF]
  by_cases h1 : nn (m + 1) F
  · have k1 : kindC (m + 1) F = tupT F (m + 1) := by unfold kindC; rw [if_pos h1]
    rw [k1, if_pos h1]
    refine wX_seq (wX_if ?_)
    simp [okOwn_cons, wipeE_cons, restE_cons]
    refine exO_of (lcL_mapT (F := fun a => .bl ((List.range (m + 1)).any fun b => (F a b).isNone)) (List.range (m + 1)) (fun a ha => ⟨_, rfl, ?_⟩) (by simp; omega)) ?_
    · simp [wipeE_cons]
    have e1 : frz (.nd true .lst ((List.range (m + 1)).map fun a => D.bl ((List.range (m + 1)).any fun b => (F a b).isNone))) = .nd false .lst ((List.range (m + 1)).map fun a => D.bl ((List.range (m + 1)).any fun b => (F a b).isNone)) := by simp
    rw [e1, fAny_map, exO_some, blP_bl]
    by_cases h2 : full (m + 1) F
    · have e2 : ((List.range (m + 1)).any fun a => (List.range (m + 1)).any fun b => (F a b).isNone) = false := by
        simp [List.any_eq_false]
        intro a ha b hb e
        exact h2 a ha b hb e
      rw [e2, if_pos h2]
      simp
      refine (wS.x ?_)
      simp
      refine (wS.x ?_)
      simp
    · have e2 : ((List.range (m + 1)).any fun a => (List.range (m + 1)).any fun b => (F a b).isNone) = true := by
        simp [full] at h2
        obtain ⟨a, ha, b, hb, e⟩ := h2
        simp [List.any_eq_true]
        exact ⟨a, ha, b, hb, e⟩
      rw [e2, if_neg h2]
      simp
      exact wX_ex ⟨rfl, rfl⟩
  · have k1 : kindC (m + 1) F = .non := by unfold kindC; rw [if_neg h1]
    rw [k1, if_neg h1]
    refine wX_seq (wX_if ?_)
    simp
    refine (wS.x ?_)
    simp
    refine (wS.x ?_)
    simp
end
end S

/-! Sf -/
set_option Elab.async false
set_option linter.all false
set_option maxRecDepth 100000
set_option maxHeartbeats 1000000
namespace S
open PySem L2 Pv Kt
section
variable {n : Nat} {t : Nat → Nat → Int} {E : List Pr} {s g : Nat}
def pr (p : Pr) : D := .nd false .tup [.int p.1, .int p.2]
def prs (o : Bool) (E : List Pr) : D := .nd o .lst (E.map pr)
@[simp] theorem frz_pr {p : Pr} : frz (pr p) = pr p := by simp [pr]
@[simp] theorem isF_pr {p : Pr} : isF (pr p) = true := rfl
@[simp] theorem rd_pr {p : Pr} : rdR (pr p) = .vl (pr p) := rfl
@[simp] theorem frz_prs {o : Bool} : frz (prs o E) = prs false E := by simp [prs]
@[simp] theorem rd_prs : rdR (prs true E) = .pl [] (prs true E) := rfl
@[simp] theorem rd_prsF : rdR (prs false E) = .vl (prs false E) := rfl
@[simp] theorem seq_prs : seqOf (prs false E) = some (E.map pr) := rfl
def keys (ks : List Nat) : List Key := ks.map fun x : Nat => .inl (x : Int)
def seenD (o : Bool) (ks : List Nat) : D := .nd o (.dK (keys ks)) (ks.map fun _ => .bl true)
@[simp] theorem rd_seen {ks : List Nat} : rdR (seenD true ks) = .pl [] (seenD true ks) := rfl
theorem kix_in : ∀ {ks : List Nat} {v : Nat}, v ∈ ks → ∃ j, kix (keys ks) (.inl (v : Int)) = some j ∧ j < ks.length
  | [], v, h => by cases h
  | x :: ks, v, h => by
    show ∃ j, (if (Sum.inl (x : Int) : Key) = .inl (v : Int) then some 0 else (kix (keys ks) (.inl (v : Int))).map (· + 1)) = some j ∧ _
    by_cases q : x = v
    · subst q; exact ⟨0, by rw [if_pos rfl], by simp⟩
    · have q' : ¬ (Sum.inl (x : Int) : Key) = .inl (v : Int) := fun z => q (by cases z; rfl)
      obtain ⟨j, e, l⟩ := kix_in (ks := ks) ((List.mem_cons.mp h).resolve_left fun z => q z.symm)
      exact ⟨j + 1, by rw [if_neg q', e]; rfl, by simp; omega⟩
theorem kix_out : ∀ {ks : List Nat} {v : Nat}, v ∉ ks → kix (keys ks) (.inl (v : Int)) = none
  | [], v, h => rfl
  | x :: ks, v, h => by
    show (if (Sum.inl (x : Int) : Key) = .inl (v : Int) then some 0 else (kix (keys ks) (.inl (v : Int))).map (· + 1)) = none
    have q' : ¬ (Sum.inl (x : Int) : Key) = .inl (v : Int) := fun z => h (by cases z; simp)
    rw [if_neg q', kix_out fun z => h (by simp [z])]; rfl
theorem in_seen {o b : Bool} {ks : List Nat} {v : Nat} : fIn b (.int v) (seenD o ks) = some (.bl (if v ∈ ks then !b else b)) := by
  show (if true = true then (match kix (keys ks) (.inl (v : Int)) with
    | some j => if j < (ks.map fun _ => D.bl true).length then some (D.bl (!b)) else none
    | none => some (.bl b)) else none) = _
  rw [if_pos rfl]
  by_cases h : v ∈ ks
  · obtain ⟨j, e, l⟩ := kix_in h
    rw [e, if_pos h]
    dsimp only
    rw [if_pos (by simpa using l)]
  · rw [kix_out h, if_neg h]
theorem put_seen {R : Nat} {P : Pv.Env → Prop} {ks : List Nat} {v : Nat} {p : List Nat} {ρ : Pv.Env} (h : v ∉ ks) (hl : ks.length < 1000000) : dpK R P (.bl true) (.int v) (.pl p (seenD true ks)) ρ ↔ exO ρ[R]? fun o => exO o fun dr => P (ρ.set R (some (putD p (seenD true (ks ++ [v])) dr))) := by
  have e : dPut (.dK (keys ks)) (ks.map fun _ => D.bl true) (.int v) (.bl true) = some (.dK (keys (ks ++ [v])), (ks ++ [v]).map fun _ => .bl true) := by
    show (match kix (keys ks) (.inl (v : Int)) with
      | some j => some (Kd.dK (keys ks), (ks.map fun _ => D.bl true).set j (.bl true))
      | none => if (keys ks).length < 16777216 then some (Kd.dK (keys ks ++ [(Sum.inl (v : Int) : Key)]), (ks.map fun _ => D.bl true) ++ [D.bl true]) else none) = _
    rw [kix_out h]
    dsimp only
    rw [if_pos (by simp [keys]; omega)]
    simp [keys]
  unfold seenD
  rw [dpK_pl, frz_int, e, exO_some]
  simp
  intro _
  omega
theorem nodup_le : ∀ {n : Nat} {l : List Nat}, l.Nodup → (∀ x ∈ l, x < n) → l.length ≤ n
  | 0, l, _, h => by
    cases l with
    | nil => simp
    | cons x l => exact absurd (h x (by simp)) (by omega)
  | n + 1, l, nd, h => by
    by_cases q : n ∈ l
    · have h1 := List.length_erase_of_mem q
      have h2 := nodup_le (n := n) (nd.erase n) fun x hx => by
        have := (nd.mem_erase_iff).mp hx
        have := h x this.2
        omega
      omega
    · have := nodup_le (n := n) nd fun x hx => by
        have := h x hx
        by_cases e : x = n
        · subst e; exact (q hx).elim
        · omega
      omega
/-- what is_shown's loop keeps -/
structure Sn (n : Nat) (t : Nat → Nat → Int) (E : List Pr) (s g : Nat) (X : Nat → Prop) (ks W : List Nat) : Prop where
  lt : ∀ x ∈ ks, x < n
  nd : ks.Nodup
  s0 : s ∈ ks
  sub : ∀ x ∈ W, x ∈ ks
  wk : ∀ i x, ks[i]? = some x → ∃ k c, k ≤ i ∧ Wk t E s x k c ∧ c + t x g ≤ t s g
  cl : ∀ x ∈ ks, x ∉ W → ¬ X x → ∀ v, (x, v) ∈ E → t x v + t v g = t x g → v ∈ ks
theorem Sn.len {X : Nat → Prop} {ks W : List Nat} (h : Sn n t E s g X ks W) : ks.length ≤ n := nodup_le h.nd h.lt
theorem Sn.start (hs : s < n) : Sn n t E s g (fun _ => False) [s] [s] := by
  refine ⟨by simp [hs], by simp, by simp, by simp, fun i x e => ?_, fun x h1 h2 => (h2 h1).elim⟩
  cases i with
  | zero => cases e; exact ⟨0, 0, by omega, .nil _, by omega⟩
  | succ i => cases e
theorem Sn.add {X : Nat → Prop} {ks W : List Nat} {u v : Nat} (h : Sn n t E s g X ks W) (hu : u ∈ ks) (e : (u, v) ∈ E) (hv : v < n) (ti : t u v + t v g = t u g) (nv : v ∉ ks) : Sn n t E s g X (ks ++ [v]) (W ++ [v]) := by
  refine ⟨?_, ?_, by simp [h.s0], ?_, ?_, ?_⟩
  · intro x hx
    rcases List.mem_append.mp hx with q | q
    · exact h.lt x q
    · simp at q; subst q; exact hv
  · rw [List.nodup_append]
    exact ⟨h.nd, by simp, fun a ha b hb z => by simp at hb; subst hb; subst z; exact nv ha⟩
  · intro x hx
    rcases List.mem_append.mp hx with q | q
    · exact List.mem_append_left _ (h.sub x q)
    · exact List.mem_append_right _ q
  · intro i x q
    by_cases hi : i < ks.length
    · rw [List.getElem?_append_left hi] at q; exact h.wk i x q
    · rw [List.getElem?_append_right (by omega)] at q
      have hi0 : i - ks.length = 0 := by
        have := (List.getElem?_eq_some_iff.mp q).1
        simp at this; omega
      rw [hi0] at q; cases q
      obtain ⟨j, ej⟩ := List.getElem?_of_mem hu
      obtain ⟨k, c, hk, w, l⟩ := h.wk j u ej
      have := (List.getElem?_eq_some_iff.mp ej).1
      exact ⟨k + 1, _, by omega, w.snoc e, by omega⟩
  · intro x h1 h2 h3 w he ht
    have h2' : x ∉ W ∧ x ≠ v := by simpa [not_or] using h2
    rcases List.mem_append.mp h1 with q | q
    · exact List.mem_append_left _ (h.cl x q h2'.1 h3 w he ht)
    · simp at q; exact (h2'.2 q).elim
theorem Sn.pop {ks W : List Nat} {u : Nat} (h : Sn n t E s g (fun _ => False) ks (W ++ [u])) : Sn n t E s g (fun x => x = u) ks W :=
  ⟨h.lt, h.nd, h.s0, fun x hx => h.sub x (by simp [hx]), h.wk, fun x h1 h2 h3 v he ht => h.cl x h1 (by simp [h2]; exact h3) (fun z => z) v he ht⟩
theorem Sn.done {ks W : List Nat} {u : Nat} (h : Sn n t E s g (fun x => x = u) ks W) (hp : ∀ v, (u, v) ∈ E → t u v + t v g = t u g → v ∈ ks) : Sn n t E s g (fun _ => False) ks W :=
  ⟨h.lt, h.nd, h.s0, h.sub, h.wk, fun x h1 h2 _ v he ht => by
    by_cases q : x = u
    · subst q; exact hp v he ht
    · exact h.cl x h1 h2 q v he ht⟩
theorem Sn.reach {ks : List Nat} (h : Sn n t E s g (fun _ => False) ks []) (ct : CT n t) (hE : InE n E) (hg : g < n) {x k : Nat} {c : Int} (w : Wk t E x g k c) (hx : x ∈ ks) (l : c ≤ t x g) : g ∈ ks := by
  generalize hgg : g = y at w
  induction w with
  | nil u => subst hgg; exact hx
  | @cons u v w k c e r ih =>
    subst hgg
    have hu := h.lt u hx
    have hv := (hE _ e).2
    have h1 := (r.le ct hE hv).2
    have h2 := ct.tri u g v hu hg hv
    dsimp only at hv
    exact ih (h.cl u hx (by simp) (fun z => z) v e (by omega)) (by omega) rfl
end
section
variable {n : Nat} {t : Nat → Nat → Int} {E : List Pr} {s g : Nat}
theorem gm_pr {i j : Nat} {p : Pr} {ρ : Pv.Env} : gmTup 2 (gmCons (gmName i) (gmCons (gmName j) gmNil)) (pr p) ρ = (gmName i (.int p.1) ρ).bind fun ρ1 => (gmName j (.int p.2) ρ1).bind fun ρ2 => some ρ2 := by
  unfold pr
  simp
theorem ix_tab {a b : Nat} (ha : a < n) (hb : b < n) : (ixR (.vl (tupT (It t) n)) (.int a)).bind (fun r => ixR r (.int b)) = some (.vl (.int (t a b))) := by
  rw [ix_tupT ha]
  show ixR (.vl (row false .tup (It t) n a)) (.int b) = _
  rw [ix_rowF rfl hb]; rfl
theorem shown_round (ct : CT n t) (hE : InE n E) (hg : g < n) (hn : n ≤ 1000) {ks W : List Nat} {u M : Nat} (h : Sn n t E s g (fun x => x = u) ks W) (hu : u ∈ ks) (hM : 2 * (n - ks.length) + W.length ≤ M) (hM2 : W.length ≤ 5000) {q z8 z9 : Option D} (Q : Fl → Pv.Env → Prop)
    (hQ : ∀ (ks W : List Nat) (z8 z9 : Option D), Sn n t E s g (fun _ => False) ks W → 2 * (n - ks.length) + W.length ≤ M → Q .nx [some (tupT (It t) n), some (prs false E), q, some (.int s), some (.int g), some (seenD true ks), some (.nd true .lst (W.map fun x : Nat => .int x)), some (.int u), z8, z9]) :
    wS (forL (gmTup 2 (gmCons (gmName 8) (gmCons (gmName 9) gmNil))) l_is_shown_0 (E.map pr)) [some (tupT (It t) n), some (prs false E), q, some (.int s), some (.int g), some (seenD true ks), some (.nd true .lst (W.map fun x : Nat => .int x)), some (.int u), z8, z9] Q := by
  refine forL_map (F := pr) (fun j ρ => ∃ (ks W : List Nat) (z8 z9 : Option D), ρ = [some (tupT (It t) n), some (prs false E), q, some (.int s), some (.int g), some (seenD true ks), some (.nd true .lst (W.map fun x : Nat => .int x)), some (.int u), z8, z9] ∧ Sn n t E s g (fun x => x = u) ks W ∧ u ∈ ks ∧ 2 * (n - ks.length) + W.length ≤ M ∧ W.length ≤ 5000 + ks.length ∧ ∀ i, i < j → ∀ v, E[i]? = some (u, v) → t u v + t v g = t u g → v ∈ ks) E ⟨ks, W, z8, z9, rfl, h, hu, hM, by omega, by omega⟩ ?_ ?_
  · rintro j ⟨a, v⟩ hx ρ ⟨ks, W, z8, z9, rfl, h, hu, hM, hM2, hp⟩
    have he := List.mem_of_getElem? hx
    obtain ⟨ha, hv⟩ := hE _ he
    dsimp only at ha hv
    have hul := h.lt u hu
    refine ⟨[some (tupT (It t) n), some (prs false E), q, some (.int s), some (.int g), some (seenD true ks), some (.nd true .lst (W.map fun x : Nat => .int x)), some (.int u), some (.int a), some (.int v)], by rw [gm_pr]; simp, ?_⟩
    have nx : ∀ (ks' : List Nat), (∀ x ∈ ks, x ∈ ks') → ((a = u ∧ t u v + t v g = t u g) → v ∈ ks') → ∀ i, i < j + 1 → ∀ v', E[i]? = some (u, v') → t u v' + t v' g = t u g → v' ∈ ks' := fun ks' h1 h2 i hi v' e ti => by
      by_cases q : i < j
      · exact h1 _ (hp i q v' e ti)
      · have : i = j := by omega
        subst this
        rw [hx] at e; cases e
        exact h2 ⟨rfl, ti⟩
    have i1 := ix_tupT (T := It t) (n := n) hul
    have i2 := ix_tupT (T := It t) (n := n) hv
    have i3 : ixR (.vl (row false .tup (It t) n u)) (.int v) = some (.vl (.int (t u v))) := by rw [ix_rowF rfl hv]; rfl
    have i4 : ixR (.vl (row false .tup (It t) n v)) (.int g) = some (.vl (.int (t v g))) := by rw [ix_rowF rfl hg]; rfl
    have i5 : ixR (.vl (row false .tup (It t) n u)) (.int g) = some (.vl (.int (t u g))) := by rw [ix_rowF rfl hg]; rfl
    have ei : ((a : Int) = (u : Int)) ↔ a = u := by omega
    by_cases q1 : a = u
    · by_cases q2 : v ∈ ks
      · simp [l_is_shown_0, in_seen, q1, q2]
        exact ⟨ks, W, ⟨rfl, rfl⟩, h, hu, hM, hM2, nx ks (fun _ z => z) fun _ => q2⟩
      · by_cases q3 : t u v + t v g = t u g
        · subst q1
          have hadd := h.add hu he hv q3 q2
          have hl := hadd.len
          simp at hl
          have l1 : W.length < 16777216 := by have := h.len; omega
          simp [l_is_shown_0, in_seen, q2, i1, i2, i3, i4, i5, q3, put_seen q2 (show ks.length < 1000000 by omega), l1]
          exact ⟨ks ++ [v], W ++ [v], ⟨rfl, by simp⟩, hadd, by simp [hu], by simp; omega, by simp; omega, nx _ (fun x z => by simp [z]) fun _ => by simp⟩
        · simp [l_is_shown_0, in_seen, q1, q2, i1, i2, i3, i4, i5, q3]
          exact ⟨ks, W, ⟨rfl, rfl⟩, h, hu, hM, hM2, nx ks (fun _ z => z) fun z => (q3 z.2).elim⟩
    · have q1' : ¬ (a : Int) = u := by omega
      simp [l_is_shown_0, q1']
      exact ⟨ks, W, ⟨rfl, rfl⟩, h, hu, hM, hM2, nx ks (fun _ z => z) fun z => (q1 z.1).elim⟩
  · rintro ρ ⟨ks, W, z8, z9, rfl, h, hu, hM, hM2, hp⟩
    refine hQ ks W z8 z9 (h.done fun v hv ti => ?_) hM
    obtain ⟨i, e⟩ := List.getElem?_of_mem hv
    exact hp i (List.getElem?_eq_some_iff.mp e).1 v e ti
theorem spec_shown (ct : CT n t) (hE : InE n E) (hs : s < n) (hg : g < n) (hn : n ≤ 1000) : wF fn_is_shown [tupT (It t) n, prs false E, pr (s, g)] fun d _ => ∃ b, d = .bl b ∧ (b = true → ∃ k c, k < n ∧ Wk t E s g k c ∧ c ≤ t s g) ∧ (Shn t E (s, g) → b = true) := by
  refine wF_run ?_
  simp [m_is_shown, gm_pr]
  refine whL_ok (fun m ρ => ∃ (ks W : List Nat) (z7 z8 z9 : Option D), ρ = [some (tupT (It t) n), some (prs false E), some (pr (s, g)), some (.int s), some (.int g), some (seenD true ks), some (.nd true .lst (W.map fun x : Nat => .int x)), z7, z8, z9] ∧ Sn n t E s g (fun _ => False) ks W ∧ 2 * (n - ks.length) + W.length = m ∧ m ≤ 3000) 1000000 (2 * (n - 1) + 1) (by omega) ⟨[s], [s], none, none, none, rfl, Sn.start hs, rfl, by omega⟩ ?_
  rintro m ρ ⟨ks, W, z7, z8, z9, rfl, h, hm, hb⟩
  by_cases hW : W = []
  · subst hW
    simp [in_seen]
    refine ⟨fun e => ?_, fun e => ?_⟩
    · obtain ⟨i, ei⟩ := List.getElem?_of_mem e
      obtain ⟨k, c, hk, w, l⟩ := h.wk i g ei
      have := (List.getElem?_eq_some_iff.mp ei).1
      have := h.len
      rw [ct.dg g hg] at l
      exact ⟨k, by omega, c, w, by omega⟩
    · obtain ⟨k, c, w, l⟩ := e
      exact h.reach ct hE hg w h.s0 l
  · obtain ⟨W', u, rfl⟩ : ∃ W' u, W = W' ++ [u] := ⟨W.dropLast, W.getLast hW, (List.dropLast_concat_getLast hW).symm⟩
    have e1 : (W'.map (fun x : Nat => D.int x) ++ [D.int (u : Int)])[W'.length]? = some (D.int u) := by
      rw [List.getElem?_append_right (by simp)]; simp
    have p0 : (0 : Int) < (W'.length : Int) + 1 := by omega
    simp at hm
    simp [l_is_shown_1, e1, p0]
    refine shown_round ct hE hg hn h.pop (h.sub u (by simp)) (Nat.le_refl _) (by omega) _ fun ks' W'' z8 z9 h' hM => ?_
    simp
    exact ⟨_, by omega, ks', W'', ⟨rfl, rfl⟩, h', rfl, by omega⟩
theorem shn_bound (ct : CT n t) (hE : InE n E) (hs : s < n) (hg : g < n) (hn : n ≤ 1000) (h : Shn t E (s, g)) : ∃ k c, k < n ∧ Wk t E s g k c ∧ c ≤ t s g := by
  obtain ⟨d, o, e, b, rfl, h1, h2⟩ := spec_shown ct hE hs hg hn
  exact h1 (h2 h)
theorem spec_shown' (ct : CT n t) (hE : InE n E) (hs : s < n) (hg : g < n) (hn : n ≤ 1000) : wF fn_is_shown [tupT (It t) n, prs false E, pr (s, g)] fun d _ => ∃ b, d = .bl b ∧ (b = true ↔ Shn t E (s, g)) := by
  refine (spec_shown ct hE hs hg hn).mono ?_
  rintro _ _ ⟨b, rfl, h1, h2⟩
  exact ⟨b, rfl, fun z => by obtain ⟨k, c, _, w, l⟩ := h1 z; exact ⟨k, c, w, l⟩, h2⟩
end
section
variable {n : Nat} {t : Nat → Nat → Int} {E : List Pr} {s g : Nat}
theorem _root_.Kt.Wk.last {u w k : Nat} {c : Int} (a : Wk t E u w (k + 1) c) : ∃ v c1, Wk t E u v k c1 ∧ (v, w) ∈ E ∧ c = c1 + t v w := by
  generalize hk : k + 1 = j at a
  induction a generalizing k with
  | nil u => omega
  | @cons u v w j c e r ih =>
    have hj : k = j := by omega
    subst hj
    cases k with
    | zero =>
      cases r with
      | nil => exact ⟨u, 0, .nil u, e, by omega⟩
    | succ k =>
      obtain ⟨x, c1, w1, e1, ec⟩ := ih rfl
      exact ⟨x, _, .cons e w1, e1, by omega⟩
/-! reach -/
abbrev Vec := Nat → Option Int
def vec (o : Bool) (R : Vec) (n : Nat) : D := .nd o .lst ((List.range n).map fun b => optD (R b))
@[simp] theorem rd_vec {R : Vec} : rdR (vec true R n) = .pl [] (vec true R n) := rfl
theorem ix_vec {R : Vec} {b : Nat} (h : b < n) : ixR (.pl [] (vec true R n)) (.int b) = some (.vl (optD (R b))) := by
  unfold vec
  rw [ixR_pl]
  simp [ixN_nat h, h]
  cases R b <;> rfl
def up1 (R : Vec) (v : Nat) (o : Option Int) : Vec := fun b => if b = v then o else R b
theorem set_vec {Rn : Nat} {ρ : Pv.Env} {P : Pv.Env → Prop} {R : Vec} {b : Nat} {w : Int} (h : ρ[Rn]? = some (some (vec true R n))) (hb : b < n) : setK Rn P (.int w) (.int b) (.pl [] (vec true R n)) ρ ↔ P (ρ.set Rn (some (vec true (up1 R b (some w)) n))) := by
  have e : ((List.range n).map fun b => optD (R b)).set b (.int w) = (List.range n).map fun i => optD (up1 R b (some w) i) := by
    rw [set_range]
    apply List.map_congr_left
    intro i _
    unfold up1
    by_cases q : i = b <;> simp [q]
  rw [vec, setK_pl, h, List.length_map, List.length_range, ixN_nat hb, exO_some, exO_some, exO_some, putD_nil, e]
  rfl
def Bdr (R : Vec) (x : Nat) (c : Int) : Prop := ∃ y, R x = some y ∧ y ≤ c
theorem Bdr.mono {R : Vec} {x : Nat} {c d : Int} (h : Bdr R x c) (l : c ≤ d) : Bdr R x d := let ⟨y, e, p⟩ := h; ⟨y, e, by omega⟩
def Snd (t : Nat → Nat → Int) (E : List Pr) (s : Nat) (R : Vec) : Prop := ∀ x c, R x = some c → ∃ k, Wk t E s x k c
def Cpl (t : Nat → Nat → Int) (E : List Pr) (s j : Nat) (R : Vec) : Prop := ∀ x k c, k ≤ j → Wk t E s x k c → Bdr R x c
/-- a pass, up to i -/
structure Pass (t : Nat → Nat → Int) (E : List Pr) (s : Nat) (R0 : Vec) (i : Nat) (ch : Bool) (R : Vec) : Prop where
  snd : Snd t E s R
  fall : ∀ x c, Bdr R0 x c → Bdr R x c
  proc : ∀ i', i' < i → ∀ u v, E[i']? = some (u, v) → ∀ c, Bdr R0 u c → Bdr R v (c + t u v)
  same : ch = false → R = R0
theorem Pass.start {R : Vec} (h : Snd t E s R) : Pass t E s R 0 false R := ⟨h, fun _ _ q => q, by omega, fun _ => rfl⟩
theorem Pass.stay {R0 R : Vec} {i : Nat} {ch : Bool} {u v : Nat} (h : Pass t E s R0 i ch R) (e : E[i]? = some (u, v)) (z : ∀ c, Bdr R u c → Bdr R v (c + t u v)) : Pass t E s R0 (i + 1) ch R := by
  refine ⟨h.snd, h.fall, fun i' hi u' v' e' c hc => ?_, h.same⟩
  by_cases q : i' < i
  · exact h.proc i' q u' v' e' c hc
  · have : i' = i := by omega
    subst this
    rw [e] at e'; cases e'
    exact z c (h.fall _ _ hc)
theorem Pass.put {R0 R : Vec} {i : Nat} {ch : Bool} {u v : Nat} {x : Int} (h : Pass t E s R0 i ch R) (e : E[i]? = some (u, v)) (ex : R u = some x) (z : ∀ y, R v = some y → x + t u v < y) : Pass t E s R0 (i + 1) true (up1 R v (some (x + t u v))) := by
  have fl : ∀ a c, Bdr R a c → Bdr (up1 R v (some (x + t u v))) a c := fun a c ⟨y, ey, l⟩ => by
    unfold Bdr up1
    by_cases q : a = v
    · subst q; rw [if_pos rfl]; exact ⟨_, rfl, by have := z y ey; omega⟩
    · rw [if_neg q]; exact ⟨y, ey, l⟩
  refine ⟨fun a c q => ?_, fun a c q => fl a c (h.fall a c q), fun i' hi u' v' e' c hc => ?_, fun q => by cases q⟩
  · unfold up1 at q
    by_cases r : a = v
    · subst r
      rw [if_pos rfl] at q; cases q
      obtain ⟨k, w⟩ := h.snd u x ex
      exact ⟨_, w.snoc (List.mem_of_getElem? e)⟩
    · rw [if_neg r] at q; exact h.snd a c q
  · by_cases q : i' < i
    · exact fl _ _ (h.proc i' q u' v' e' c hc)
    · have : i' = i := by omega
      subst this
      rw [e] at e'; cases e'
      obtain ⟨y, ey, l⟩ := h.fall _ _ hc
      rw [ex] at ey; cases ey
      exact ⟨_, by unfold up1; rw [if_pos rfl], by omega⟩
theorem Pass.next {R0 R : Vec} {ch : Bool} {j : Nat} (h : Pass t E s R0 E.length ch R) (c : Cpl t E s j R0) : Cpl t E s (j + 1) R := by
  intro x k d hk w
  by_cases q : k ≤ j
  · exact h.fall _ _ (c x k d q w)
  · have : k = j + 1 := by omega
    subst this
    obtain ⟨v, c1, w1, e, rfl⟩ := w.last
    obtain ⟨i, ei⟩ := List.getElem?_of_mem e
    exact h.proc i (List.getElem?_eq_some_iff.mp ei).1 v x ei _ (c v j c1 (Nat.le_refl _) w1)
theorem Pass.all {R0 R : Vec} {j : Nat} (h : Pass t E s R0 E.length false R) (c : Cpl t E s j R0) : ∀ m, Cpl t E s m R := by
  have e := h.same rfl
  subst e
  intro m
  have base : Cpl t E s 0 R := fun x k d hk w => c x k d (by omega) w
  induction m with
  | zero => exact base
  | succ m ih => exact h.next ih
theorem way_pass {R0 : Vec} (hE : InE n E) (hR : Snd t E s R0) {g : Nat} {z5 z7 z8 z9 : Option D} (Q : Fl → Pv.Env → Prop)
    (hQ : ∀ (R : Vec) (ch : Bool) (z7 z8 z9 : Option D), Pass t E s R0 E.length ch R → Q .nx [some (ties false .lst (trp t E)), some (.int s), some (.int g), some (.int n), some (vec true R n), z5, some (.bl ch), z7, z8, z9, none]) :
    wS (forL (gmTup 3 (gmCons (gmName 7) (gmCons (gmName 8) (gmCons (gmName 9) gmNil)))) l_law_way_0 (E.map fun p => tri (p.1, p.2, t p.1 p.2))) [some (ties false .lst (trp t E)), some (.int s), some (.int g), some (.int n), some (vec true R0 n), z5, some (.bl false), z7, z8, z9, none] Q := by
  refine forL_map (F := fun p : Pr => tri (p.1, p.2, t p.1 p.2)) (fun j ρ => ∃ (R : Vec) (ch : Bool) (z7 z8 z9 : Option D), ρ = [some (ties false .lst (trp t E)), some (.int s), some (.int g), some (.int n), some (vec true R n), z5, some (.bl ch), z7, z8, z9, none] ∧ Pass t E s R0 j ch R) E ⟨R0, false, z7, z8, z9, rfl, Pass.start hR⟩ ?_ ?_
  · rintro j ⟨u, v⟩ hx ρ ⟨R, ch, z7, z8, z9, rfl, h⟩
    obtain ⟨hu, hv⟩ := hE _ (List.mem_of_getElem? hx)
    dsimp only at hu hv
    refine ⟨_, rfl, ?_⟩
    cases e1 : R u with
    | none =>
      simp [-Bool.exists_bool, l_law_way_0, ix_vec hu, e1]
      exact ⟨R, ch, ⟨rfl, rfl⟩, h.stay hx fun c ⟨y, e, _⟩ => by rw [e1] at e; cases e⟩
    | some x =>
      cases e2 : R v with
      | none =>
        have hp := h.put hx e1 (fun y e => by rw [e2] at e; cases e)
        simp [-Bool.exists_bool, l_law_way_0, ix_vec hu, ix_vec hv, e1, e2, set_vec, hv]
        exact ⟨_, _, ⟨rfl, rfl⟩, hp⟩
      | some y =>
        by_cases q : x + t u v < y
        · have hp := h.put hx e1 (fun y' e => by rw [e2] at e; cases e; exact q)
          simp [-Bool.exists_bool, l_law_way_0, ix_vec hu, ix_vec hv, e1, e2, set_vec, hv, q]
          exact ⟨_, _, ⟨rfl, rfl⟩, hp⟩
        · simp [-Bool.exists_bool, l_law_way_0, ix_vec hu, ix_vec hv, e1, e2, q]
          exact ⟨R, ch, ⟨rfl, rfl⟩, h.stay hx fun c ⟨w, e, l⟩ => by rw [e1] at e; cases e; exact ⟨y, e2, by omega⟩⟩
  · rintro ρ ⟨R, ch, z7, z8, z9, rfl, h⟩
    exact hQ R ch z7 z8 z9 h
theorem spec_way (ct : CT n t) (hE : InE n E) (hs : s < n) (hg : g < n) (hn : n ≤ 1000) : wF fn_law_way [ties false .lst (trp t E), .int s, .int g, .int n] fun d _ => ∃ r : Option Int, d = optD r ∧ ((∃ x, r = some x ∧ x ≤ t s g) ↔ Shn t E (s, g)) := by
  refine wF_run ?_
  have r1 : (n : Int) < 4611686018427387904 := by omega
  have r2 : -4611686018427387904 ≤ (n : Int) := by omega
  simp [m_law_way, okOwn_cons, wipeE_cons, restE_cons, r1, r2]
  refine exO_of (lcL_rangeT (F := fun b => .non) (fun b hb => ⟨_, rfl, ?_⟩) (by omega)) ?_
  · simp [wipeE_cons]
  have e0 : D.nd true .lst ((List.range n).map fun b => D.non) = vec true (fun _ => none) n := rfl
  simp only [e0]
  simp [set_vec, hs, r1, r2]
  have c0 : Cpl t E s 0 (up1 (fun _ => none) s (some 0)) := by
    intro x k c hk w
    have : k = 0 := by omega
    subst this
    cases w with
    | nil => exact ⟨0, by unfold up1; rw [if_pos rfl], by omega⟩
  have s0 : Snd t E s (up1 (fun _ => none) s (some 0)) := by
    intro x c e
    unfold up1 at e
    by_cases q : x = s
    · subst q; rw [if_pos rfl] at e; cases e; exact ⟨0, .nil _⟩
    · rw [if_neg q] at e; cases e
  have fin : ∀ R : Vec, Snd t E s R → Cpl t E s n R → ∃ r : Option Int, optD (R g) = optD r ∧ ((∃ x, r = some x ∧ x ≤ t s g) ↔ Shn t E (s, g)) := fun R h1 h2 => by
    refine ⟨R g, rfl, ?_, ?_⟩
    · rintro ⟨x, e, l⟩
      obtain ⟨k, w⟩ := h1 g x e
      exact ⟨k, x, w, l⟩
    · intro z
      obtain ⟨k, c, hk, w, l⟩ := shn_bound ct hE hs hg hn z
      obtain ⟨y, e, l2⟩ := h2 g k c (by omega) w
      exact ⟨y, e, by omega⟩
  have tl : ∀ (R : Vec) (z5 z6 z7 z8 z9 : Option D), Snd t E s R → Cpl t E s n R → wS (mRet (mRdF 4 (mpIx (mpVar 4) (mRd (mpVar 2))))) [some (ties false .lst (trp t E)), some (.int s), some (.int g), some (.int n), some (vec true R n), z5, z6, z7, z8, z9, none] fun f ρ => rtP 4 (fun d _ => ∃ r : Option Int, d = optD r ∧ ((∃ x, r = some x ∧ x ≤ t s g) ↔ Shn t E (s, g))) f ρ := by
    intro R z5 z6 z7 z8 z9 h1 h2
    simp [ix_vec hg]
    exact fin R h1 h2
  refine forL_range (fun j ρ => ∃ (R : Vec) (z5 z6 z7 z8 z9 : Option D), ρ = [some (ties false .lst (trp t E)), some (.int s), some (.int g), some (.int n), some (vec true R n), z5, z6, z7, z8, z9, none] ∧ Snd t E s R ∧ Cpl t E s j R) ⟨_, none, none, none, none, none, rfl, s0, c0⟩ ?_ ?_
  · rintro j hj ρ ⟨R, z5, z6, z7, z8, z9, rfl, h1, h2⟩
    refine ⟨_, rfl, ?_⟩
    simp [l_law_way_1]
    have et : (trp t E).map tri = E.map fun p => tri (p.1, p.2, t p.1 p.2) := by unfold trp; rw [List.map_map]; rfl
    rw [et]
    refine way_pass hE h1 _ fun R' ch z7 z8 z9 hp => ?_
    cases ch with
    | false =>
      simp
      have := tl R' (some (.int j)) (some (.bl false)) z7 z8 z9 hp.snd (hp.all h2 n)
      simpa using this
    | true =>
      simp
      exact ⟨R', rfl, hp.snd, hp.next h2⟩
  · rintro ρ ⟨R, z5, z6, z7, z8, z9, rfl, h1, h2⟩
    have := tl R z5 z6 z7 z8 z9 h1 h2
    simpa using this
end
section
variable {n : Nat} {t : Nat → Nat → Int} {E : List Pr}
/-- all pairs -/
def ropP (n u : Nat) : List Pr := (List.range n).filterMap fun v => if u = v then none else some (u, v)
def allP (n : Nat) : List Pr := (List.range n).flatMap (ropP n)
theorem mem_allP {p : Pr} : p ∈ allP n ↔ p.1 < n ∧ p.2 < n ∧ p.1 ≠ p.2 := by
  unfold allP ropP
  simp only [List.mem_flatMap, List.mem_filterMap, List.mem_range]
  constructor
  · rintro ⟨u, hu, v, hv, e⟩
    by_cases q : u = v
    · rw [if_pos q] at e; cases e
    · rw [if_neg q] at e; cases e; exact ⟨hu, hv, q⟩
  · rintro ⟨h1, h2, h3⟩
    exact ⟨p.1, h1, p.2, h2, by rw [if_neg h3]⟩
theorem allP_in : InE n (allP n) := fun p hp => ⟨(mem_allP.mp hp).1, (mem_allP.mp hp).2.1⟩
theorem ropP_nodup {u : Nat} : (ropP n u).Nodup := by
  unfold ropP
  rw [List.nodup_iff_pairwise_ne, List.pairwise_filterMap]
  refine List.Pairwise.imp ?_ List.nodup_range
  intro a b h p hp q hq z
  by_cases h1 : u = a
  · rw [if_pos h1] at hp; cases hp
  · by_cases h2 : u = b
    · rw [if_pos h2] at hq; cases hq
    · rw [if_neg h1] at hp; rw [if_neg h2] at hq
      cases hp; cases hq; cases z; exact h rfl
theorem allP_nodup : (allP n).Nodup := by
  unfold allP
  rw [List.nodup_iff_pairwise_ne, List.pairwise_flatMap]
  refine ⟨fun u _ => ropP_nodup, List.Pairwise.imp ?_ List.nodup_range⟩
  intro a b h p hp q hq z
  unfold ropP at hp hq
  simp only [List.mem_filterMap, List.mem_range] at hp hq
  obtain ⟨x, _, e1⟩ := hp
  obtain ⟨y, _, e2⟩ := hq
  by_cases h1 : a = x
  · rw [if_pos h1] at e1; cases e1
  · by_cases h2 : b = y
    · rw [if_pos h2] at e2; cases e2
    · rw [if_neg h1] at e1; rw [if_neg h2] at e2
      cases e1; cases e2; cases z; exact h rfl
theorem ropP_len {u : Nat} : (ropP n u).length ≤ n := by
  unfold ropP
  have := List.length_filterMap_le (fun v => if u = v then none else some (u, v)) (List.range n)
  simpa using this
theorem flat_len : ∀ {l : List Nat}, (l.flatMap (ropP n)).length ≤ n * l.length
  | [] => by simp
  | u :: l => by
    have := ropP_len (n := n) (u := u)
    have := flat_len (l := l)
    rw [List.flatMap_cons, List.length_append, List.length_cons, Nat.mul_succ]
    omega
theorem allP_len (hn : n ≤ 1000) : (allP n).length ≤ 1000000 := by
  have := flat_len (n := n) (l := List.range n)
  rw [List.length_range] at this
  have h2 : n * n ≤ 1000 * 1000 := Nat.mul_le_mul hn hn
  unfold allP
  omega
theorem filter_mid {l r : List Pr} {p : Pr} (nd : (l ++ p :: r).Nodup) : (l ++ p :: r).filter (fun q => !decide (q = p)) = l ++ r := by
  rw [List.nodup_append] at nd
  obtain ⟨h1, h2, h3⟩ := nd
  rw [List.filter_append, List.filter_cons, if_neg (by simp)]
  rw [List.filter_eq_self.mpr, List.filter_eq_self.mpr]
  · intro q hq
    have := (List.nodup_cons.mp h2).1
    simp
    rintro rfl
    exact this hq
  · intro q hq
    simp
    rintro rfl
    exact h3 q hq q (by simp) rfl
def prP (p : Pr) : PyData := .tuple [.int p.1, .int p.2]
theorem ne_pr {a b : Pr} : fNeD (pr a) (pr b) = some (.bl (!decide (a = b))) := by
  have hs : ∀ p : Pr, SeqAt.shaped (prP p) = true := fun p => by
    unfold SeqAt.shaped prP
    simp [PyData.canLay0, PyData.canLayAll0, PyData.depth, PyData.depthAll]
  show eqD true (pr a) (pr b) = _
  unfold eqD
  rw [show toPy (pr a) = some (prP a) from rfl, show toPy (pr b) = some (prP b) from rfl]
  dsimp only
  rw [if_pos ⟨hs a, hs b⟩, if_pos rfl]
  obtain ⟨a1, a2⟩ := a
  obtain ⟨b1, b2⟩ := b
  simp [prP, PyData.eqv, PyData.eqvAll]
  by_cases h1 : a1 = b1 <;> by_cases h2 : a2 = b2 <;> simp [h1, h2] <;> omega
theorem pairs_eq : ((List.range n).flatMap fun u => (List.range n).filterMap fun v => if u = v then none else some (pr (u, v))) = (allP n).map pr := by
  unfold allP ropP
  rw [List.map_flatMap]
  congr 1
  funext u
  rw [List.map_filterMap]
  congr 1
  funext v
  by_cases q : u = v <;> simp [q]
@[simp] theorem rev_prs : fRev [prs false E] = some ((E.map pr).reverse) := rfl
end
section
variable {n : Nat} {t : Nat → Nat → Int} {E : List Pr}
theorem trp_map : ((E.map fun p => tri (p.1, p.2, t p.1 p.2))) = (trp t E).map tri := by unfold trp; rw [List.map_map]; rfl
theorem _root_.Kt.Few.len {o r : List Pr} {k : Nat} (f : Few t o k r) : r.length + k ≤ o.length := by
  induction f with
  | start => simp
  | drop f e s ih => omega
  | keep f e s ih => simp; omega
theorem few_in {o r : List Pr} {k : Nat} (f : Few t o k r) (ho : InE n o) : InE n (o.take k ++ r) := fun p hp => by
  rcases List.mem_append.mp hp with q | q
  · exact ho p (List.mem_of_mem_take q)
  · exact ho p (f.mem p q)
theorem fm_filterN {f : Pr → D} {p : Pr} : ∀ l : List Pr, l.filterMap (fun q => if q = p then none else some (f q)) = (l.filter (fun q => !decide (q = p))).map f
  | [] => rfl
  | x :: l => by
    rw [List.filterMap_cons, List.filter_cons]
    by_cases h : x = p
    · simp [h, fm_filterN l]
    · simp [h, fm_filterN l]
theorem few_step0 (ct : CT n t) (hn : n ≤ 1000) {L L' : List Pr} {p : Pr} (hF : L.filter (fun q => !decide (q = p)) = L') (hl : L.length ≤ 1000000) (ein : InE n L') (hp1 : p.1 < n) (hp2 : p.2 < n) {z0 z5 z6 z7 : Option D} (Q : Fl → Pv.Env → Prop)
    (hQ1 : Shn t L' p → ∀ z5, Q .nx [some (tupT (It t) n), some (.int n), z0, some (prs false L'), some (pr p), z5, z6, z7, none])
    (hQ2 : ¬ Shn t L' p → ∀ z5, Q .nx [some (tupT (It t) n), some (.int n), z0, some (prs false L), some (pr p), z5, z6, z7, none]) :
    wS l_few_differences_0 [some (tupT (It t) n), some (.int n), z0, some (prs false L), some (pr p), z5, z6, z7, none] Q := by
  simp [l_few_differences_0, okOwn_cons, wipeE_cons, restE_cons]
  have e1 := lcL_fm (enc := pr) (g := gmName 8) (mt := mTest (mBin fNeD (mRdF 8 (mpVar 8)) (mRdF 4 (mpVar 4)))) (me := mRdF 8 (mpVar 8)) (vs := [8])
    (ρw := [some (tupT (It t) n), some (.int n), z0, some (prs false L), some (pr p), z5, z6, z7, none])
    (F := fun q => if q = p then none else some (pr q)) L [] (fun q hq => ⟨_, rfl, by
      by_cases h : q = p
      · simp [ne_pr, h, wipeE_cons]
      · simp [ne_pr, h, wipeE_cons]⟩) (by simp; omega)
  rw [fm_filterN, hF, List.nil_append] at e1
  refine exO_of e1 ?_
  have e4 : D.nd true .lst (L'.map pr) = prs true L' := rfl
  simp [e4, look1_sl]
  refine (spec_shown' ct ein hp1 hp2 hn).mono ?_
  rintro _ _ ⟨b, rfl, hb⟩
  simp
  refine ⟨fun h => ?_, fun h => ?_⟩
  · exact hQ1 (hb.mp h) _
  · exact hQ2 (fun z => by rw [hb.mpr z] at h; cases h) _
/-- one step of the program's loop -/
theorem few_step (ct : CT n t) (hn : n ≤ 1000) {k : Nat} {r : List Pr} {p : Pr} (f : Few t (allP n) (k + 1) r) (e : (allP n)[k]? = some p) {z0 z5 z6 z7 : Option D} (Q : Fl → Pv.Env → Prop)
    (hQ : ∀ (r' : List Pr) (z5 : Option D), Few t (allP n) k r' → Q .nx [some (tupT (It t) n), some (.int n), z0, some (prs false ((allP n).take k ++ r')), some (pr p), z5, z6, z7, none]) :
    wS l_few_differences_0 [some (tupT (It t) n), some (.int n), z0, some (prs false ((allP n).take (k + 1) ++ r)), some (pr p), z5, z6, z7, none] Q := by
  have nd := f.nodup allP_nodup
  have e5 : (allP n).take (k + 1) ++ r = (allP n).take k ++ p :: r := by rw [take_snoc e, List.append_assoc]; rfl
  rw [e5] at nd ⊢
  have fl := f.len
  have al := allP_len hn
  obtain ⟨hp1, hp2⟩ := allP_in p (List.mem_of_getElem? e)
  refine few_step0 ct hn (filter_mid nd) (by simp; omega) (fun q hq => ?_) hp1 hp2 Q (fun h z5 => hQ r z5 (.drop f e h)) fun h z5 => hQ (p :: r) z5 (.keep f e h)
  rcases List.mem_append.mp hq with h | h
  · exact allP_in q (List.mem_of_mem_take h)
  · exact allP_in q (f.mem q h)
theorem spec_few (ct : CT n t) (hn : n ≤ 1000) : wF fn_few_differences [tupT (It t) n] fun d o => ∃ r, Few t (allP n) 0 r ∧ d = ties true .lst (trp t r) ∧ o = [some (tupT (It t) n)] := by
  refine wF_run ?_
  have r1 : (n : Int) < 4611686018427387904 := by omega
  have r2 : -4611686018427387904 ≤ (n : Int) := by omega
  have al := allP_len hn
  have e00 : rangeL 0 n = (List.range n).map fun i : Nat => D.int (i : Nat) := by unfold rangeL; simp
  simp [m_few_differences, wM_lc2, wipeE_cons, r1, r2, e00]
  have e0 := lcO_fm (enc := fun i : Nat => D.int (i : Nat)) (enc1 := fun i : Nat => D.int (i : Nat)) (G := fun _ => List.range n) (F := fun u v => if u = v then none else some (pr (u, v)))
    (g := gmName 6) (mt := M.ret true) (mi1 := mArgs1 fRng1 (mCons (mRd (mpVar 1)) mNil)) (g1 := gmName 7) (mt1 := mTest (mBin fNe (mRd (mpVar 6)) (mRd (mpVar 7)))) (me := mTup (mCons (mRdF 6 (mpVar 6)) (mCons (mRdF 7 (mpVar 7)) mNil))) (vs1 := [7])
    (ρw := [some (tupT (It t) n), some (.int n), none, none, none, none, none, none, none]) (List.range n) [] (fun u hu => ⟨_, rfl, by simp, by simp, by simp [r1, r2, e00], fun v hv => ⟨_, by simp [wipeE_cons]; rfl, by simp, by
      by_cases q : u = v
      · simp [q]
      · have q' : ¬ ((u : Int) = v) := by omega
        simp [q, q']
        rfl⟩⟩) (by
        rw [pairs_eq]; simp; omega)
  rw [pairs_eq, List.nil_append] at e0
  refine exO_of e0 ?_
  have e1 : D.nd true .lst ((allP n).map pr) = prs true (allP n) := rfl
  have e2 : okBL ((allP n).map pr) = true := okBL_all fun x hx => by
    simp only [List.mem_map] at hx
    obtain ⟨p, _, rfl⟩ := hx
    simp [pr]
  refine ⟨e2, ?_⟩
  simp [e1]
  have e3 : ((allP n).map pr).reverse = (allP n).reverse.map pr := by simp
  rw [e3]
  have tl : ∀ (r : List Pr) (z2 z4 z5 : Option D), Few t (allP n) 0 r → wS (mRet (mLc (mSeq1 seqOf (mRdF 3 (mpVar 3))) (gmTup 2 (gmCons (gmName 6) (gmCons (gmName 7) gmNil))) (M.ret true) (mTup (mCons (mRdF 6 (mpVar 6)) (mCons (mRdF 7 (mpVar 7)) (mCons (mRdF 0 (mpIx (mpIx (mpVar 0) (mRd (mpVar 6))) (mRd (mpVar 7)))) mNil)))) [6, 7])) [some (tupT (It t) n), some (.int n), z2, some (prs false r), z4, z5, none, none, none] fun f ρ => rtP 1 (fun d o => ∃ r, Few t (allP n) 0 r ∧ d = ties true .lst (trp t r) ∧ o = [some (tupT (It t) n)]) f ρ := by
    intro r z2 z4 z5 f
    have fl := f.len
    simp [okOwn_cons, wipeE_cons, restE_cons]
    refine exO_of (lcL_mapT (enc := pr) (F := fun p => tri (p.1, p.2, t p.1 p.2)) r (fun p hp => ⟨[some (tupT (It t) n), some (.int n), z2, some (prs false r), z4, z5, some (.int p.1), some (.int p.2), none], by rw [gm_pr]; simp, ?_⟩) (by omega)) ?_
    · obtain ⟨h1, h2⟩ := allP_in p (f.mem p hp)
      have i3 : ixR (.vl (row false .tup (It t) n p.1)) (.int p.2) = some (.vl (.int (t p.1 p.2))) := by rw [ix_rowF rfl h2]; rfl
      simp [ix_tupT h1, i3, wipeE_cons, tri]
    simp
    refine ⟨r, f, ?_⟩
    rw [trp_map]; rfl
  refine forL_map (F := pr) (fun j ρ => ∃ (r : List Pr) (z4 z5 : Option D), ρ = [some (tupT (It t) n), some (.int n), some (prs false (allP n)), some (prs false ((allP n).take ((allP n).length - j) ++ r)), z4, z5, none, none, none] ∧ Few t (allP n) ((allP n).length - j) r) (allP n).reverse ⟨[], none, none, by simp, by simpa using Few.start⟩ ?_ ?_
  · rintro j p hx ρ ⟨r, z4, z5, rfl, f⟩
    refine ⟨_, rfl, ?_⟩
    have hj : j < (allP n).length := by simpa using (List.getElem?_eq_some_iff.mp hx).1
    obtain ⟨k, hk⟩ : ∃ k, (allP n).length - j = k + 1 := ⟨(allP n).length - j - 1, by omega⟩
    have e : (allP n)[k]? = some p := by
      rw [List.getElem?_reverse hj] at hx
      rw [show k = (allP n).length - 1 - j by omega]
      exact hx
    rw [hk] at f ⊢
    simp
    refine few_step ct hn f e _ fun r' z5 f' => ?_
    rw [show (allP n).length - (j + 1) = k by omega]
    exact ⟨r', _, _, rfl, f'⟩
  · rintro ρ ⟨r, z4, z5, rfl, f⟩
    have h0 : (allP n).length - (allP n).reverse.length = 0 := by simp
    rw [h0] at f ⊢
    simp
    have := tl r (some (prs false (allP n))) z4 z5 f
    simpa using this
end
section
variable {n : Nat} {t : Nat → Nat → Int} {E : List Pr}
theorem cut_take {l : List D} {k : Nat} : cutD l none (some (k : Int)) = l.take k := by
  unfold cutD
  rw [HT.sIx_none, HT.sIx_nat, List.drop_zero, Nat.sub_zero]
  rw [← List.take_eq_take_min]
theorem cut_drop {l : List D} {k : Nat} : cutD l (some (k : Int)) none = l.drop k := by
  unfold cutD
  rw [HT.sIx_none, HT.sIx_nat]
  by_cases h : k ≤ l.length
  · rw [Nat.min_eq_left h, List.take_of_length_le (by simp)]
  · rw [Nat.min_eq_right (by omega), List.drop_eq_nil_of_le (by omega), List.drop_eq_nil_of_le (by omega)]; simp
theorem cutL_ties {L : List Tie} {k : Nat} : fCutL (ties false .lst L) none (some (k : Int)) = some (ties true .lst (L.take k)) := by
  unfold ties
  rw [fCutL_lst, cut_take, List.map_take]
theorem cutR_ties {L : List Tie} {k : Nat} : fCutL (ties false .lst L) (some (k : Int)) none = some (ties true .lst (L.drop k)) := by
  unfold ties
  rw [fCutL_lst, cut_drop, List.map_drop]
theorem ixF_ties {L : List Tie} {k : Nat} {x : Tie} (e : L[k]? = some x) : ixR (.vl (ties false .lst L)) (.int k) = some (.vl (tri x)) := by
  unfold ties
  obtain ⟨h, e⟩ := List.getElem?_eq_some_iff.mp e
  rw [ixR_vl]
  simp [ixN_nat h, h, e]
@[simp] theorem rd_tri {x : Tie} : rdR (tri x) = .vl (tri x) := rfl
theorem ix_tri0 {x : Tie} : ixR (.vl (tri x)) (.int 0) = some (.vl (.int x.1)) := rfl
theorem ix_tri1 {x : Tie} : ixR (.vl (tri x)) (.int 1) = some (.vl (.int x.2.1)) := rfl
theorem ix_tri2 {x : Tie} : ixR (.vl (tri x)) (.int 2) = some (.vl (.int x.2.2)) := rfl
theorem len_trp : (trp t E).length = E.length := by unfold trp; simp
theorem trp_app {E' : List Pr} : trp t (E ++ E') = trp t E ++ trp t E' := by unfold trp; simp
theorem lfew_step (ct : CT n t) (hn : n ≤ 1000) {k : Nat} {r : List Pr} {p : Pr} {o : Bool} (f : Few t (allP n) (k + 1) r) (e : (allP n)[k]? = some p) {z3 z4 z6 z7 : Option D} (Q : Fl → Pv.Env → Prop)
    (hQ : ∀ (r' : List Pr) (z6 z7 : Option D), Few t (allP n) k r' → Q .nx [some (tupT (It t) n), some (.int n), some (ties false .lst (trp t ((allP n).take k ++ r'))), z3, z4, some (.int k), z6, z7]) :
    wS l_law_few_2 [some (tupT (It t) n), some (.int n), some (ties o .lst (trp t ((allP n).take (k + 1) ++ r))), z3, z4, some (.int k), z6, z7] Q := by
  have nd := f.nodup allP_nodup
  have e5 : (allP n).take (k + 1) ++ r = (allP n).take k ++ p :: r := by rw [take_snoc e, List.append_assoc]; rfl
  rw [e5] at nd ⊢
  have fl := f.len
  have al := allP_len hn
  have hk := (List.getElem?_eq_some_iff.mp e).1
  have lk : ((allP n).take k).length = k := by simp; omega
  obtain ⟨hp1, hp2⟩ := allP_in p (List.mem_of_getElem? e)
  have ein : InE n ((allP n).take k ++ r) := fun q hq => by
    rcases List.mem_append.mp hq with h | h
    · exact allP_in q (List.mem_of_mem_take h)
    · exact allP_in q (f.mem q h)
  generalize hA : (allP n).take k = A at lk nd ein hQ
  have t1 : (trp t (A ++ p :: r)).take k = trp t A := by
    rw [trp_app]
    rw [List.take_append_of_le_length (by rw [len_trp]; omega), List.take_of_length_le (by rw [len_trp]; omega)]
  have t2 : (trp t (A ++ p :: r)).drop (k + 1) = trp t r := by
    rw [trp_app, List.drop_append, List.drop_eq_nil_of_le (by rw [len_trp]; omega), len_trp, show k + 1 - A.length = 1 by omega]; rfl
  have t3 : (trp t (A ++ p :: r))[k]? = some (p.1, p.2, t p.1 p.2) := by
    rw [trp_app, List.getElem?_append_right (by rw [len_trp]; omega), len_trp, lk, Nat.sub_self]; rfl
  have c1 := cutL_ties (L := trp t (A ++ p :: r)) (k := k)
  have c2 := cutR_ties (L := trp t (A ++ p :: r)) (k := k + 1)
  rw [t1] at c1
  rw [t2] at c2
  have c3 := cat_ties (L := trp t A) (M := trp t r) (by rw [len_trp, len_trp]; omega)
  rw [← trp_app] at c3
  simp at c2
  have go : wS l_law_few_2 [some (tupT (It t) n), some (.int n), some (ties false .lst (trp t (A ++ p :: r))), z3, z4, some (.int k), z6, z7] Q := by
    simp [l_law_few_2, c1, c2, c3, ixF_ties t3, ix_tri0, ix_tri1, look1_sl]
    refine (spec_way ct ein hp1 hp2 hn).mono ?_
    rintro _ _ ⟨x, rfl, hx⟩
    cases x with
    | none =>
      simp
      exact hQ (p :: r) _ _ (.keep f e fun z => by rw [hA] at z; have := hx.mpr z; simp at this)
    | some x =>
      simp [ixF_ties t3, ix_tri2]
      refine ⟨fun l => ?_, fun l => ?_⟩
      · exact hQ r _ _ (.drop f e (by rw [hA]; exact hx.mp ⟨x, rfl, l⟩))
      · exact hQ (p :: r) _ _ (.keep f e fun z => by rw [hA] at z; obtain ⟨y, e, l2⟩ := hx.mpr z; cases e; omega)
  cases o with
  | false => exact go
  | true =>
    simp [l_law_few_2] at go ⊢
    exact go
def prt (u i : Nat) : List Pr := (List.range i).filterMap fun v => if u = v then none else some (u, v)
theorem prt_succ {u i : Nat} : prt u (i + 1) = prt u i ++ if u = i then [] else [(u, i)] := by
  unfold prt
  rw [List.range_succ, List.filterMap_append]
  by_cases q : u = i
  · simp [q]
  · simp [q]
theorem prt_len {u i : Nat} : (prt u i).length ≤ i := by
  unfold prt
  have := List.length_filterMap_le (fun v => if u = v then none else some (u, v)) (List.range i)
  simpa using this
def alu (n j : Nat) : List Pr := (List.range j).flatMap (ropP n)
theorem alu_succ {j : Nat} : alu n (j + 1) = alu n j ++ prt j n := by
  unfold alu
  rw [List.range_succ, List.flatMap_append]
  simp [ropP, prt]
theorem alu_len {j : Nat} : (alu n j).length ≤ n * j := by
  have := flat_len (n := n) (l := List.range j)
  rw [List.length_range] at this
  exact this
theorem spec_lfew (ct : CT n t) (hn : n ≤ 1000) : wF fn_law_few [tupT (It t) n] fun d o => ∃ r b, Few t (allP n) 0 r ∧ d = ties b .lst (trp t r) ∧ o = [some (tupT (It t) n)] := by
  refine wF_run ?_
  have r1 : (n : Int) < 4611686018427387904 := by omega
  have r2 : -4611686018427387904 ≤ (n : Int) := by omega
  have al := allP_len hn
  simp [m_law_few, r1, r2]
  refine forL_range (fun j ρ => ∃ (z3 z4 : Option D), ρ = [some (tupT (It t) n), some (.int n), some (ties true .lst (trp t (alu n j))), z3, z4, none, none, none]) ⟨none, none, rfl⟩ ?_ ?_
  · rintro j hj ρ ⟨z3, z4, rfl⟩
    refine ⟨_, rfl, ?_⟩
    simp [l_law_few_1, r1, r2]
    refine forL_range (fun i ρ => ∃ (z4 : Option D), ρ = [some (tupT (It t) n), some (.int n), some (ties true .lst (trp t (alu n j ++ prt j i))), some (.int j), z4, none, none, none]) ⟨z4, by simp [prt]⟩ ?_ ?_
    · rintro i hi ρ ⟨z4, rfl⟩
      refine ⟨_, rfl, ?_⟩
      have hl : (alu n j ++ prt j i).length < 16777216 := by
        have h1 := alu_len (n := n) (j := j)
        have h2 := prt_len (u := j) (i := i)
        have h3 : n * j ≤ 1000 * 1000 := Nat.mul_le_mul hn (by omega)
        rw [List.length_append]
        omega
      by_cases q : j = i
      · subst q
        simp [l_law_few_0]
        rw [prt_succ, if_pos rfl, List.append_nil]
      · have q' : ¬ (j : Int) = i := by omega
        have i3 : ixR (.vl (row false .tup (It t) n j)) (.int i) = some (.vl (.int (t j i))) := by rw [ix_rowF rfl hi]; rfl
        have e1 : trp t (alu n j ++ prt j i) ++ [(j, i, t j i)] = trp t (alu n j ++ prt j (i + 1)) := by
          rw [prt_succ, if_neg q, ← List.append_assoc, trp_app (E := alu n j ++ prt j i)]; rfl
        simp [l_law_few_0, q', ix_tupT hj, i3, tri_eq, len_trp, e1]
        simpa using hl
    · rintro ρ ⟨z4, rfl⟩
      simp
      rw [alu_succ]
  · rintro ρ ⟨z3, z4, rfl⟩
    have ea : alu n n = allP n := rfl
    rw [ea]
    simp [len_trp, rng3_down (N := (allP n).length) (by omega)]
    refine forL_map (F := fun j : Nat => D.int (((allP n).length : Int) - 1 + -(j : Int))) (fun j ρ => ∃ (r : List Pr) (b : Bool) (z5 z6 z7 : Option D), ρ = [some (tupT (It t) n), some (.int n), some (ties b .lst (trp t ((allP n).take ((allP n).length - j) ++ r))), z3, z4, z5, z6, z7] ∧ Few t (allP n) ((allP n).length - j) r) (List.range (allP n).length) ⟨[], true, none, none, none, by simp, by simpa using Few.start⟩ ?_ ?_
    · rintro j x hx ρ ⟨r, b, z5, z6, z7, rfl, f⟩
      obtain ⟨hj, e2⟩ := List.getElem?_eq_some_iff.mp hx
      rw [List.getElem_range] at e2
      subst e2
      have hj : j < (allP n).length := by simpa using hj
      obtain ⟨k, hk⟩ : ∃ k, (allP n).length - j = k + 1 := ⟨(allP n).length - j - 1, by omega⟩
      have hkl : k < (allP n).length := by omega
      rw [hk] at f ⊢
      have ei : ((allP n).length : Int) - 1 + -(j : Int) = (k : Int) := by omega
      rw [ei]
      refine ⟨_, rfl, ?_⟩
      simp
      refine lfew_step ct hn f (List.getElem?_eq_getElem hkl) _ fun r' z6 z7 f' => ?_
      rw [show (allP n).length - (j + 1) = k by omega]
      exact ⟨r', false, _, _, _, rfl, f'⟩
    · rintro ρ ⟨r, b, z5, z6, z7, rfl, f⟩
      have h0 : (allP n).length - (List.range (allP n).length).length = 0 := by simp
      rw [h0] at f ⊢
      cases b <;> simp <;> exact ⟨r, f, by simp⟩
end
end S

/-! Pw6 -/
set_option Elab.async false
set_option linter.all false
set_option maxRecDepth 100000
set_option maxHeartbeats 1000000
namespace Pv
open PySem L2
/-! texts: what their meanings come to -/
section
variable {α : Type} {ρ : Env} {m m1 m2 : MS} {ma mb mi me : M D} {mp : M PR} {Q : Fl → Env → Prop} {ms : List (M D)} {acc : Str}
@[simp] theorem isStr_str {z : Str} : isStr (.str z) = true := rfl
@[simp] theorem wM_binS {f : D → D → Option D} {P : D → Env → Prop} : wM (mBinS f ma mb) ρ P ↔ wM ma ρ fun a ρ1 => isStr a = true ∧ wM mb ρ1 fun b ρ2 => exO (f (frz a) (frz b)) fun d => P d ρ2 := by
  rw [mBinS, wM_bind]
  refine wM_cg fun a ρ1 => ⟨fun p => ?_, fun p => ?_⟩
  · obtain ⟨d, ρ', e, p⟩ := p
    unfold M.chk at e; split at e
    · rename_i ho
      refine ⟨ho, ?_⟩
      have z : wM _ ρ1 P := ⟨d, ρ', e, p⟩
      rw [wM_bind] at z
      exact z.mono fun b ρ2 pp => wM_lift.mp pp
    · cases e
  · obtain ⟨ho, p⟩ := p
    have z : wM (mb.bind fun b => M.lift (f (frz a) (frz b))) ρ1 P := by
      rw [wM_bind]; exact p.mono fun b ρ2 pp => wM_lift.mpr pp
    obtain ⟨r, ρ', e, p⟩ := z
    exact ⟨r, ρ', by unfold M.chk; rw [if_pos ho]; exact e, p⟩
def strP (P : Str → Prop) (d : D) (t : Tg P := .u) : Prop := match d with
  | .str z => P z
  | _ => False
@[simp] theorem strP_str {P : Str → Prop} {z : Str} : strP P (.str z) ↔ P z := Iff.rfl
@[simp] theorem wM_js0 {P : D → Env → Prop} : wM (mJs [] acc) ρ P ↔ P (.str acc) ρ := wM_ret
@[simp] theorem wM_js {P : D → Env → Prop} : wM (mJs (ma :: ms) acc) ρ P ↔ wM ma ρ fun d ρ1 => strP (fun y => (acc ++ y).length ≤ 16777216 ∧ wM (mJs ms (acc ++ y)) ρ1 P) d := by
  rw [mJs, wM_bind]
  refine wM_cg fun d ρ1 => ⟨fun p => ?_, fun p => ?_⟩
  · cases d with
    | str y =>
      obtain ⟨r, ρ', e, p⟩ := p
      dsimp only at e
      unfold M.chk at e; split at e
      · rename_i h; exact ⟨by simpa using h, r, ρ', e, p⟩
      · cases e
    | _ => obtain ⟨_, _, e, _⟩ := p; cases e
  · cases d with
    | str y =>
      obtain ⟨h, r, ρ', e, p⟩ := p
      exact ⟨r, ρ', by dsimp only; unfold M.chk; rw [if_pos (by simpa using h)]; exact e, p⟩
    | _ => exact p.elim
def exK (R : Nat) (P : Env → Prop) (e : D) (a : PR) (ρ : Env) (t : Tg P := .u) : Prop := match a, frz e with
  | .pl p (.nd true .lst xs), .nd false .lst zs => xs.length + zs.length ≤ 16777216 ∧ exO ρ[R]? fun o => exO o fun dr => P (ρ.set R (some (putD p (.nd true .lst (xs ++ zs)) dr)))
  | _, _ => False
theorem exK_pl {R : Nat} {P : Env → Prop} {e : D} {p : List Nat} {xs zs : List D} (he : frz e = .nd false .lst zs) : exK R P e (.pl p (.nd true .lst xs)) ρ ↔ xs.length + zs.length ≤ 16777216 ∧ exO ρ[R]? fun o => exO o fun dr => P (ρ.set R (some (putD p (.nd true .lst (xs ++ zs)) dr))) := by
  unfold exK; rw [he]
@[simp] theorem wM_ext {R : Nat} {P : D → Env → Prop} : wM (mExt R mp me) ρ P ↔ wM mp ρ fun a ρ1 => a.isOwn = true ∧ wM me ρ1 fun e ρ2 => exK R (P .non) e a ρ2 := by
  rw [mExt, wM_bind]
  constructor <;> refine fun h => h.mono fun a ρ1 p => ?_
  · obtain ⟨r, ρ', e, p⟩ := p
    unfold M.chk at e; split at e
    · rename_i ho
      refine ⟨ho, ?_⟩
      have z : wM _ ρ1 P := ⟨r, ρ', e, p⟩
      rw [wM_bind] at z
      clear e p
      refine z.mono fun d ρ2 pp => ?_
      clear z
      obtain ⟨r, ρ', e, p⟩ := pp
      dsimp only at e
      split at e
      · rename_i e1 e2
        split at e
        · cases e
          rw [exK_pl e2]
          exact ⟨by assumption, _, e1, _, rfl, p⟩
        · cases e
      · cases e
    · cases e
  · obtain ⟨ho, p⟩ := p
    have z : wM (me.bind fun e => fun ρ => match a, ρ[R]?, frz e with
      | .pl p (.nd true .lst xs), some (some dr), .nd false .lst zs => if xs.length + zs.length ≤ 16777216 then some (.ok .non, ρ.set R (some (putD p (.nd true .lst (xs ++ zs)) dr))) else none
      | _, _, _ => none) ρ1 P := by
      rw [wM_bind]
      refine p.mono fun d ρ2 pp => ?_
      clear p
      unfold exK at pp
      split at pp
      · rename_i e2
        obtain ⟨l, _, hd, dr, rfl, p⟩ := pp
        exact ⟨_, _, by dsimp only; rw [hd, e2]; exact if_pos l, p⟩
      · exact pp.elim
    obtain ⟨r, ρ', e, p⟩ := z
    exact ⟨r, ρ', by unfold M.chk; rw [if_pos ho]; exact e, p⟩
@[simp] theorem wS_dead : wS mDead ρ Q ↔ False := ⟨fun ⟨_, _, e, _⟩ => (nomatch e), fun h => h.elim⟩
@[simp] theorem gmLst_lst {n : Nat} {gs : List D → Env → Option Env} {xs : List D} : gmLst n gs (.nd false .lst xs) ρ = if xs.length = n then gs xs ρ else none := rfl
@[simp] theorem chOf_str {z : Str} : chOf (.str z) = some (chL z) := rfl
@[simp] theorem fCatS_str {a b : Str} : fCatS (.str a) (.str b) = if a.length + b.length ≤ 16777216 then some (.str (a ++ b)) else none := rfl
@[simp] theorem fIxS_str {a : Str} {i : Int} : fIxS (.str a) (.int i) = if a.length ≤ 16777216 then (atI a.cps.toList i).map fun c => .str ⟨#[c]⟩ else none := rfl
@[simp] theorem fCutS_str {a : Str} {lo hi : Option Int} : fCutS (.str a) lo hi = if a.length ≤ 16777216 then some (.str (cutS a lo hi)) else none := rfl
@[simp] theorem fLenS_str {a : Str} : fLenS [.str a] = if a.length ≤ 16777216 then some (.int a.length) else none := rfl
@[simp] theorem fIntS_str {a : Str} : fIntS [.str a] = if a.length ≤ 640 then (PySem.intText? a).map .int else none := rfl
@[simp] theorem fInS_one {n : Bool} {c : Nat} {z : Str} : fInS n (.str ⟨#[c]⟩) (.str z) = some (.bl (if n = true then !decide (c ∈ z.cps.toList) else decide (c ∈ z.cps.toList))) := rfl
@[simp] theorem fFmt_str {a : Str} : fFmt (.str a) = if a.length ≤ 16777216 then some (.str a) else none := rfl
@[simp] theorem fFmt_int {i : Int} : fFmt (.int i) = if i.natAbs.log2 < 1920 then some (.str (toString i)) else none := rfl
@[simp] theorem fStr_int {i : Int} : fStr [.int i] = if i.natAbs.log2 < 1920 then some (.str (toString i)) else none := rfl
@[simp] theorem fSplit_str {a b : Str} : fSplit (.str a) (.str b) = if (b.length == 0) = false ∧ a.length + 2 ≤ 16777216 then some (.nd true .lst ((Txt.split a b).map .str)) else none := rfl
theorem strL_map : ∀ (ys : List Str), strL (ys.map .str) = some ys
  | [] => rfl
  | y :: ys => by
    show (strL (ys.map .str)).map (y :: ·) = _
    rw [strL_map ys]; rfl
@[simp] theorem fJoin_str {a : Str} {o : Bool} {ys : List Str} : fJoin (.str a) (.nd o .lst (ys.map .str)) = if (ys.map (·.length)).sum + ys.length * a.length ≤ 16777216 then some (.str (Txt.join a ys)) else none := by
  show (strL (ys.map .str)).bind _ = _
  rw [strL_map]; rfl
@[simp] theorem fEq_str {a b : Str} : fEq (.str a) (.str b) = some (.bl (decide (a = b))) := by
  simp [fEq, eqF, toV, scal]
def chP (p q : Int → Int → Bool) (mc : M D) (P : D → Env → Prop) (a b : D) (ρ : Env) (t : Tg P := .u) (u : Tg mc := .u) : Prop := match a, b with
  | .int i, .int j => (p i j = true → wM mc ρ fun c ρ3 => intP (fun l => P (.bl (q j l)) ρ3) c) ∧ (p i j = false → P (.bl false) ρ)
  | _, _ => False
@[simp] theorem chP_int {p q : Int → Int → Bool} {mc : M D} {P : D → Env → Prop} {i j : Int} : chP p q mc P (.int i) (.int j) ρ ↔ (p i j = true → wM mc ρ fun c ρ3 => intP (fun l => P (.bl (q j l)) ρ3) c) ∧ (p i j = false → P (.bl false) ρ) := Iff.rfl
@[simp] theorem wM_chain {p q : Int → Int → Bool} {mc : M D} {P : D → Env → Prop} : wM (mChain p q ma mb mc) ρ P ↔ wM ma ρ fun a ρ1 => wM mb ρ1 fun b ρ2 => chP p q mc P a b ρ2 := by
  rw [mChain, wM_bind]
  refine wM_cg fun a ρ1 => ?_
  rw [wM_bind]
  refine wM_cg fun b ρ2 => ?_
  cases a with
  | int i =>
    cases b with
    | int j =>
      rw [chP_int]
      unfold chK
      dsimp only
      rw [wM_ite, wM_bind]
      constructor
      · rintro ⟨h1, h2⟩
        refine ⟨fun h => (h1 h).mono fun c ρ3 pp => ?_, fun h => wM_ret.mp (h2 (by simp [h]))⟩
        cases c with
        | int l => exact wM_ret (α := D) |>.mp pp
        | _ => obtain ⟨_, _, e, _⟩ := pp; cases e
      · rintro ⟨h1, h2⟩
        refine ⟨fun h => (h1 h).mono fun c ρ3 pp => ?_, fun h => wM_ret.mpr (h2 (by simpa using h))⟩
        cases c with
        | int l => exact wM_ret (α := D) |>.mpr pp
        | _ => exact pp.elim
    | _ => exact ⟨fun ⟨_, _, e, _⟩ => (nomatch e), fun h => h.elim⟩
  | _ => exact ⟨fun ⟨_, _, e, _⟩ => (nomatch e), fun h => h.elim⟩
/-! a list of texts -/
def txts (o : Bool) (ys : List Str) : D := .nd o .lst (ys.map .str)
@[simp] theorem frz_txts {o : Bool} {ys : List Str} : frz (txts o ys) = txts false ys := by simp [txts]
@[simp] theorem rd_txts {ys : List Str} : rdR (txts true ys) = .pl [] (txts true ys) := rfl
@[simp] theorem rd_txtsF {ys : List Str} : rdR (txts false ys) = .vl (txts false ys) := rfl
@[simp] theorem seq_txts {ys : List Str} : seqOf (txts false ys) = some (ys.map .str) := rfl
@[simp] theorem len_txts {o : Bool} {ys : List Str} : fLen (txts o ys) = some (.int ys.length) := by simp [txts]
@[simp] theorem own_txts {ys : List Str} : (PR.pl [] (txts true ys)).isOwn = true := rfl
@[simp] theorem join_txts {a : Str} {o : Bool} {ys : List Str} : fJoin (.str a) (txts o ys) = if (ys.map (·.length)).sum + ys.length * a.length ≤ 16777216 then some (.str (Txt.join a ys)) else none := fJoin_str
theorem split_txts {a b : Str} (h : (b.length == 0) = false) (h2 : a.length + 2 ≤ 16777216) : fSplit (.str a) (.str b) = some (txts true (Txt.split a b)) := by
  rw [fSplit_str, if_pos ⟨h, h2⟩]; rfl
theorem app_txts {R : Nat} {P : Env → Prop} {ys : List Str} {y : Str} : apK R P (.str y) (.pl [] (txts true ys)) ρ ↔ ys.length < 16777216 ∧ exO ρ[R]? fun o => exO o fun dr => P (ρ.set R (some (putD [] (txts true (ys ++ [y])) dr))) := by
  have e : txts true (ys ++ [y]) = .nd true .lst (ys.map D.str ++ [.str y]) := by simp [txts]
  rw [e]
  simp [txts]
theorem ext_txts {R : Nat} {P : Env → Prop} {ys zs : List Str} {e : D} (he : frz e = txts false zs) : exK R P e (.pl [] (txts true ys)) ρ ↔ ys.length + zs.length ≤ 16777216 ∧ exO ρ[R]? fun o => exO o fun dr => P (ρ.set R (some (putD [] (txts true (ys ++ zs)) dr))) := by
  have e1 : txts true (ys ++ zs) = .nd true .lst (ys.map D.str ++ zs.map D.str) := by simp [txts]
  rw [e1]
  unfold txts
  rw [exK_pl he]
  simp
theorem ix_txts {ys : List Str} {k : Nat} {y : Str} (h : ys[k]? = some y) : ixR (.pl [] (txts true ys)) (.int k) = some (.vl (.str y)) := by
  have hk : k < ys.length := (List.getElem?_eq_some_iff.mp h).1
  unfold txts
  simp [ixN_nat hk, h]
theorem ix_txtsF {ys : List Str} {k : Nat} {y : Str} (h : ys[k]? = some y) : ixR (.vl (txts false ys)) (.int k) = some (.vl (.str y)) := by
  have hk : k < ys.length := (List.getElem?_eq_some_iff.mp h).1
  unfold txts
  simp [ixN_nat hk, h]
@[simp] theorem isF_txtsF {ys : List Str} : isF (txts false ys) = true := rfl
@[simp] theorem off_txts {i : Nat} {ys : List Str} : offA i (txts true ys) ρ = ρ.set i none := rfl
@[simp] theorem off_txtsF {i : Nat} {ys : List Str} : offA i (txts false ys) ρ = ρ := rfl
/-! numbers as texts -/
theorem log_small {i : Int} {k : Nat} (h : i.natAbs < 2 ^ k) (hk : k ≤ 1920) (h0 : 0 < k) : i.natAbs.log2 < 1920 := Nat.lt_of_lt_of_le (log2_lt h h0) hk
end
end Pv

/-! Tx -/
set_option Elab.async false
set_option linter.all false
set_option maxRecDepth 100000
set_option maxHeartbeats 1000000
/-! Numbers as texts. -/
namespace Tx
open PySem L2 Pv TL
abbrev AD := PySem.NumText.AllDigits
def nm (i : Int) : Str := Str.ofString (toString i)
/-- the signs of a number -/
def sg (i : Int) : List Nat := if i < 0 then 45 :: numL (-i).toNat else numL i.toNat
theorem tl_nm (i : Int) : tl (nm i) = sg i := by
  unfold sg
  by_cases h : i < 0
  · rw [if_pos h]
    obtain ⟨n, rfl⟩ : ∃ n : Nat, i = -((n : Nat) : Int) := ⟨(-i).toNat, by omega⟩
    unfold nm
    rw [PyProof.Rows.toString_neg h, tl_ofString, String.toList_append, List.map_append]
    have e := tl_num n
    rw [tl_ofString] at e
    rw [show (0 : Int) - -((n : Nat) : Int) = (n : Int) by omega, e, show (-(-((n : Nat) : Int))).toNat = n by omega]
    rfl
  · rw [if_neg h]
    obtain ⟨n, rfl⟩ := Int.eq_ofNat_of_zero_le (show 0 ≤ i by omega)
    rw [Int.toNat_natCast]
    exact tl_num n
theorem sg_signs {i : Int} : ∀ c ∈ sg i, c = 45 ∨ (48 ≤ c ∧ c ≤ 57) := by
  intro c hc
  unfold sg at hc
  split at hc
  · rcases List.mem_cons.mp hc with rfl | hc
    · exact .inl rfl
    · exact .inr (numL_digits _ c hc)
  · exact .inr (numL_digits _ c hc)
theorem sg_free {i : Int} {s : Nat} (h : s < 45) : s ∉ sg i := fun m => by
  rcases sg_signs s m with h | h <;> omega
theorem sg_ne {i : Int} : sg i ≠ [] := by
  unfold sg
  split
  · simp
  · exact numL_ne _
theorem sg_len {i : Int} {k : Nat} (hk : 0 < k) (h : i.natAbs < 10 ^ k) : (sg i).length ≤ k + 1 := by
  unfold sg
  split
  · have := numL_len hk (n := (-i).toNat) (by omega)
    simpa using this
  · have := numL_len hk (n := i.toNat) (by omega)
    omega
theorem nm_len {i : Int} {k : Nat} (hk : 0 < k) (h : i.natAbs < 10 ^ k) : (nm i).length ≤ k + 1 := by
  rw [len_tl, tl_nm]; exact sg_len hk h
theorem nm_int {i : Int} (h : (nm i).length ≤ 4300) : intText? (nm i) = some i := by
  have et : (nm i).cps.toList = sg i := tl_nm i
  by_cases q : i < 0
  · have es : sg i = 45 :: numL (-i).toNat := by unfold sg; rw [if_pos q]
    rw [intText_neg (cs := numL (-i).toNat) (by rw [et, es]) (numL_digits _) (numL_ne _) h, numL_val]
    congr 1; omega
  · have es : sg i = numL i.toNat := by unfold sg; rw [if_neg q]
    rw [intText_digits (by rw [et, es]; exact numL_digits _) (by rw [et, es]; exact numL_ne _) h, et, es, numL_val]
    congr 1; omega
theorem nm_inj {i j : Int} (h : nm i = nm j) (hl : (nm i).length ≤ 4300) : i = j := by
  have h1 := nm_int hl
  rw [h] at h1 hl
  rw [nm_int hl] at h1
  injection h1 with h1
  exact h1.symm
@[simp] theorem nm_repr {i : Int} : Str.ofString i.repr = nm i := rfl
@[simp] theorem nm_str {i : Int} : Str.ofString (toString i) = nm i := rfl
/-! texts put together -/
theorem len_app (a b : Str) : (a ++ b).length = a.length + b.length := by rw [len_tl, len_tl, len_tl, tl_append, List.length_append]
@[simp] theorem empty_app (a : Str) : Str.empty ++ a = a := ext_tl (by rw [tl_append]; rfl)
theorem app_assoc (a b c : Str) : a ++ b ++ c = a ++ (b ++ c) := ext_tl (by simp only [tl_append, List.append_assoc])
theorem tl_sp : tl (Str.ofString " ") = [32] := by decide +kernel
theorem tl_nl : tl (Str.ofString "\n") = [10] := by decide +kernel
/-! what a word writes -/
def readI (w : Str) : Option Int :=
  let cs := tl w
  let ds := if cs.head? = some 45 then cs.tail else cs
  if ds ≠ [] ∧ ds.all (fun c => decide (48 ≤ c ∧ c ≤ 57)) = true then
    (let v : Int := if cs.head? = some 45 then -((PySem.NumText.digitsVal ds : Nat) : Int) else ((PySem.NumText.digitsVal ds : Nat) : Int)
    if nm v = w then some v else none) else none
theorem all_AD {ds : List Nat} : ds.all (fun c => decide (48 ≤ c ∧ c ≤ 57)) = true ↔ AD ds := by
  rw [List.all_eq_true]
  constructor
  · intro h c hc; simpa using h c hc
  · intro h c hc; simpa using h c hc
theorem readI_nm {i : Int} : readI (nm i) = some i := by
  unfold readI
  rw [tl_nm]
  unfold sg
  by_cases q : i < 0
  · rw [if_pos q]
    simp only [List.head?_cons, List.tail_cons, if_true]
    rw [if_pos ⟨numL_ne _, all_AD.mpr (numL_digits _)⟩, numL_val, show -(((-i).toNat : Nat) : Int) = i by omega, if_pos rfl]
  · rw [if_neg q]
    have h0 : (numL i.toNat).head? ≠ some 45 := fun e => by
      have := numL_digits i.toNat 45 (List.mem_of_mem_head? e)
      omega
    simp only [h0, if_false]
    rw [if_pos ⟨numL_ne _, all_AD.mpr (numL_digits _)⟩, numL_val, show ((i.toNat : Nat) : Int) = i by omega, if_pos rfl]
theorem ite_some {p : Prop} [Decidable p] {x : Option Int} {i : Int} (h : (if p then x else none) = some i) : p ∧ x = some i := by
  split at h
  · exact ⟨by assumption, h⟩
  · cases h
theorem readI_of {w : Str} {i : Int} (h : readI w = some i) : nm i = w := by
  unfold readI at h
  obtain ⟨_, h⟩ := ite_some h
  obtain ⟨e, h⟩ := ite_some h
  injection h with h
  rw [← h]; exact e
end Tx

/-! K05a -/
set_option Elab.async false
set_option linter.all false
set_option maxRecDepth 100000
set_option maxHeartbeats 1000000
namespace K05
open PySem L2 Pv Kt
open S (zts app_zts nat_emod frz_ndm tuple_map)
/-! the draws -/
@[simp] theorem frz_zts {o : Bool} {l : List Int} : frz (zts o l) = zts false l := by unfold zts; exact frz_ndm fun _ => rfl
theorem lenZ {o : Bool} {l : List Int} : fLen (zts o l) = some (.int l.length) := by simp [zts, fLen]
theorem ixZ {l : List Int} {k : Nat} {x : Int} (h : l[k]? = some x) : ixR (.pl [] (zts true l)) (.int k) = some (.vl (.int x)) := by
  have hk : k < l.length := (List.getElem?_eq_some_iff.mp h).1
  unfold zts
  rw [ixR_pl]
  simp [ixN_nat hk, h]
theorem setZ {R : Nat} {P : Pv.Env → Prop} {l : List Int} {k : Nat} {x : Int} {ρ : Pv.Env} (hk : k < l.length) : setK R P (.int x) (.int k) (.pl [] (zts true l)) ρ ↔ exO ρ[R]? fun o => exO o fun dr => P (ρ.set R (some (putD [] (zts true (l.set k x)) dr))) := by
  have e : zts true (l.set k x) = .nd true .lst ((l.map D.int).set k (.int x)) := by simp [zts, List.map_set]
  rw [e]
  unfold zts
  rw [setK_pl]
  simp [ixN_nat hk]
theorem draws_last {s0 m0 : Option D} {rs ds : List Int} {j : Nat} (hd : ds.length ≤ 1000) (c : Int) (z6 z7 : Option D) (Q : Fl → Pv.Env → Prop)
    (hQ : ∀ x y, Q .nx [s0, m0, some (zts true rs), some (zts true (ds ++ [x])), some (.int j), some (.int c), z6, y]) :
    wS k_law_draws_for_k_in_range_many__2 [s0, m0, some (zts true rs), some (zts true ds), some (.int j), some (.int c), z6, z7] Q := by
  have p1 : ∀ x : Int, 0 ≤ x % 2147483647 ∧ x % 2147483647 < 2147483647 := fun x => ⟨Int.emod_nonneg _ (by omega), Int.emod_lt_of_pos _ (by omega)⟩
  have p2 : ∀ x : Int, 0 ≤ x % 2147483629 ∧ x % 2147483629 < 2147483629 := fun x => ⟨Int.emod_nonneg _ (by omega), Int.emod_lt_of_pos _ (by omega)⟩
  have m1 := mulOk_r (i := c) (j := 48271) (by decide)
  have m2 := mulOk_r (i := (j : Int)) (j := 69621) (by decide)
  have m3 := mulOk_r (i := (j : Int)) (j := 7919) (by decide)
  unfold k_law_draws_for_k_in_range_many__2
  simp [m1, m2, m3]
  generalize hx : (c * 48271 + (j : Int) * 69621 + 11) % 2147483647 = x
  have hx1 := p1 (c * 48271 + (j : Int) * 69621 + 11)
  rw [hx] at hx1
  have m4 := mulOk_r (i := x) (j := x) (by omega)
  simp [m4]
  generalize hy : (x * x / 4096 + x) % 2147483629 = y
  have hy1 := p2 (x * x / 4096 + x)
  rw [hy] at hy1
  have m5 := mulOk_r (i := y) (j := y) (by omega)
  simp [m5, app_zts, m3]
  exact ⟨by decide, by omega, hQ _ _⟩
theorem spec_draws (ns : List Int) (hn : ns.length ≤ 63) (m : Nat) (hm : m ≤ 1000) : wF fn_law_draws [.nd false .ro (ns.map .int), .int m] fun d o => ∃ ds, d = zts true ds ∧ o = [some (.nd false .ro (ns.map .int)), some (.int m)] := by
  refine wF_run ?_
  have r1 : (m : Int) < 4611686018427387904 := by omega
  have r2 : -4611686018427387904 ≤ (m : Int) := by omega
  simp [m_law_draws, okOwn_cons, wipeE_cons, restE_cons, r1, r2]
  refine exO_of (lcL_mapT (F := fun x => D.int (if x < 0 then -x else x)) ns (fun x hx => ⟨_, rfl, ?_⟩) (by omega)) ?_
  · simp [wipeE_cons]
  have e0 : D.nd true .lst (ns.map fun x => D.int (if x < 0 then -x else x)) = zts true (ns.map fun x => if x < 0 then -x else x) := by
    unfold zts; rw [List.map_map]; rfl
  have e1 : D.nd true .lst [] = zts true [] := rfl
  rw [e0]
  simp [r1, r2, e1]
  refine forL_range (fun j ρ => ∃ rs ds z4 z5 z6 z7, ρ = [some (.nd false .ro (ns.map .int)), some (.int m), some (zts true rs), some (zts true ds), z4, z5, z6, z7] ∧ rs.length = ns.length ∧ ds.length ≤ j) ⟨_, [], none, none, none, none, rfl, by simp, by simp⟩ ?_ ?_
  · rintro j hj ρ ⟨rs, ds, z4, z5, z6, z7, rfl, hr, hd⟩
    refine ⟨_, rfl, ?_⟩
    by_cases h0 : ns = []
    · subst h0
      simp [l_law_draws_0]
      refine draws_last (by omega) _ _ _ _ fun x y => ?_
      simp
      exact ⟨rs, _, ⟨rfl, rfl⟩, by simpa using hr, by simp; omega⟩
    · have hl : 0 < ns.length := List.length_pos_iff.mpr h0
      have hl' : (0 : Int) < (ns.length : Int) := by omega
      obtain ⟨a, ea, ha⟩ := nat_emod (j : Int) hl
      obtain ⟨cell, hc⟩ : ∃ c, ns[a]? = some c := ⟨ns[a], List.getElem?_eq_getElem ha⟩
      obtain ⟨rest, hrr⟩ : ∃ c, rs[a]? = some c := ⟨rs[a], List.getElem?_eq_getElem (by omega)⟩
      have ir := ixZ hrr
      have ixa := ixN_nat ha
      have hl0 : ¬ ((ns.length : Int) = 0) := by omega
      have ixa2 : (ns.map D.int)[a]? = some (.int cell) := by simp [hc]
      simp only [l_law_draws_0]
      simp [hl, ea, ixa, hc, hl0, ir, h0]
      have fin : wS k_law_draws_for_k_in_range_many__2 [some (.nd false .ro (ns.map .int)), some (.int m), some (zts true rs), some (zts true ds), some (.int j), some (.int cell), some (.int a), z7] fun f ρ2 => nextS (fun ρ => ∃ rs ds z4 z5 z6 z7, ρ = [some (.nd false .ro (ns.map .int)), some (.int m), some (zts true rs), some (zts true ds), z4, z5, z6, z7] ∧ rs.length = ns.length ∧ ds.length ≤ j + 1) (fun f ρ1 => sqK (fun ρ1 => wS (mRet (mMv 3)) ρ1 fun f ρ => rtP 2 (fun d o => ∃ ds, d = zts true ds ∧ o = [some (D.nd false Kd.ro (List.map D.int ns)), some (D.int ↑m)]) f ρ) (fun f ρ => rtP 2 (fun d o => ∃ ds, d = zts true ds ∧ o = [some (D.nd false Kd.ro (List.map D.int ns)), some (D.int ↑m)]) f ρ) f ρ1) f ρ2 := by
        refine draws_last (by omega) _ _ _ _ fun x y => ?_
        simp
        exact ⟨rs, _, ⟨rfl, rfl⟩, hr, by simp; omega⟩
      refine ⟨fun h1 => ⟨fun h2 => ?_, fun h2 => fin⟩, fun h1 => fin⟩
      simp [app_zts, ir, setZ (show a < rs.length by omega)]
      exact ⟨by omega, by decide, _, _, ⟨rfl, rfl⟩, by simpa using hr, by simp; omega⟩
  · rintro ρ ⟨rs, ds, z4, z5, z6, z7, rfl, hr, hd⟩
    simp
    exact ⟨ds, rfl⟩
/-! the hand -/
def IsH (h : D) : Prop := ∃ b ds a, h = .nd true .lst [zts b ds, .int a] ∧ 0 ≤ a ∧ (b = true ∨ b = false)
theorem IsH.off {h : D} (hh : IsH h) {i : Nat} {ρ : Pv.Env} : offA i h ρ = ρ.set i none := by
  obtain ⟨b, ds, a, rfl, _⟩ := hh; rfl
theorem take {h : D} (hh : IsH h) (n : Nat) (hn : 0 < n) : wF fn_law_take [h, .int n] fun d o => ∃ h' k, d = .int (k : Nat) ∧ k < n ∧ IsH h' ∧ o = [some h', some (.int n)] := by
  obtain ⟨b, ds, a, rfl, ha, hb⟩ := hh
  refine wF_run ?_
  have n0 : ¬ (n : Int) = 0 := by omega
  have n1 : (0 : Int) < (n : Int) := by omega
  obtain ⟨i, rfl⟩ := Int.eq_ofNat_of_zero_le ha
  have x0 : ixN 2 0 = some 0 := by decide
  have x1 : ixN 2 1 = some 1 := by decide
  have q0 : kidR (some []) 0 (zts b ds) = if b = true then .pl [0] (zts true ds) else .vl (zts false ds) := by
    rcases hb with rfl | rfl <;> rfl
  have q1 : kidR (some []) 1 (D.int (i : Int)) = .vl (.int i) := rfl
  have q2 : ∀ c : Int, kidR (some []) 1 (D.int c) = .vl (.int c) := fun c => rfl
  have dv : divOk 7 = true := by decide
  have hh' : IsH (D.nd true .lst [zts false ds, .int ((i : Int) + 1)]) := ⟨false, ds, _, rfl, by omega, .inr rfl⟩
  have rf : rdR (zts false ds) = .vl (zts false ds) := rfl
  have fin : ∀ ρ, ρ = [some (D.nd true .lst [zts false ds, .int ((i : Int) + 1)]), some (D.int (n : Int)), some (D.int (i : Int)), some (zts false ds)] → wS (mSeq (mIf (mTest (mBin fGe (mRd (mpVar 2)) (mPk fLen (mpVar 3)))) (mRet (M.ret (.int 0))) mNx)
    (mRet (mBin fMod (mBin fDiv (mCB fInt (mCons (mRd (mpIx (mpVar 3) (mRd (mpVar 2)))) mNil)) (M.ret (.int 7))) (mRd (mpVar 1))))) ρ fun f ρ => rtP 2 (fun d o => ∃ h' k, d = .int (k : Nat) ∧ k < n ∧ IsH h' ∧ o = [some h', some (.int n)]) f ρ := by
    rintro ρ rfl
    by_cases hi : i < ds.length
    · have hi' : ¬ ((ds.length : Int) ≤ (i : Int)) := by omega
      obtain ⟨c, hc⟩ : ∃ c, ds[i]? = some c := ⟨ds[i], List.getElem?_eq_getElem hi⟩
      have ic : ixR (.vl (zts false ds)) (.int i) = some (.vl (.int c)) := by
        unfold zts
        rw [ixR_vl]
        simp [ixN_nat hi, hc]
      obtain ⟨k, ek, hk⟩ := nat_emod (c / 7) hn
      simp [lenZ, rf, hi', hi, ic, dv, n0, n1, ek]
      exact ⟨hn, _, k, rfl, hk, hh', rfl⟩
    · have hi' : (ds.length : Int) ≤ (i : Int) := by omega
      simp [lenZ, rf, hi', hi]
      exact ⟨_, 0, rfl, hn, hh', rfl⟩
  rcases hb with rfl | rfl
  · simp at q0
    have := fin _ rfl
    simp at this
    simp [m_law_take, x0, x1, q1, q0, lenZ]
    exact this
  · simp at q0
    have := fin _ rfl
    simp at this
    simp [m_law_take, x0, x1, q1, q0, lenZ]
    exact this
theorem spec_wide {h : D} (hh : IsH h) (n : Nat) (hn : 0 < n) : wF fn_law_wide [h, .int n] fun d o => ∃ h' k, d = .int (k : Nat) ∧ k < n ∧ IsH h' ∧ o = [some h', some (.int n)] := by
  refine wF_run ?_
  simp [m_law_wide, takeA_sl, hh.off]
  refine (take hh 100003 (by decide)).mono ?_
  rintro _ _ ⟨h1, k, rfl, hk, hh, rfl⟩
  have m1 := mulOk_r (i := (k : Int)) (j := 100003) (by decide)
  have n0 : ¬ (n : Int) = 0 := by omega
  have n1 : (0 : Int) < (n : Int) := by omega
  simp [putA_sl, fx_law_take, m1, takeA_sl, hh.off]
  refine (take hh 100003 (by decide)).mono ?_
  rintro _ _ ⟨h2, k2, rfl, hk2, hh, rfl⟩
  obtain ⟨q, eq, hq⟩ := nat_emod ((k : Int) * 100003 + (k2 : Int)) hn
  simp [putA_sl, fx_law_take, n1, eq]
  exact ⟨hn, _, q, rfl, hq, hh, rfl⟩
theorem spec_some {h : D} (hh : IsH h) : wF fn_law_some [h] fun d o => ∃ h' c, d = .int c ∧ IsH h' ∧ o = [some h'] := by
  refine wF_run ?_
  simp [m_law_some, takeA_sl, hh.off]
  refine (take hh 5 (by decide)).mono ?_
  rintro _ _ ⟨h1, k, rfl, hk, hh, rfl⟩
  simp [putA_sl, fx_law_take]
  refine ⟨fun _ => ?_, fun _ => ?_⟩
  · have m1 := mulOk_r (i := 2) (j := 10 ^ 9) (by decide)
    simp [takeA_sl, hh.off]
    refine ⟨m1, ?_⟩
    refine (spec_wide hh 2000000001 (by decide)).mono ?_
    rintro _ _ ⟨h2, k2, rfl, hk2, hh, rfl⟩
    simp [putA_sl, fx_law_wide]
    exact hh
  · simp [takeA_sl, hh.off]
    refine (take hh 9 (by decide)).mono ?_
    rintro _ _ ⟨h2, k2, rfl, hk2, hh, rfl⟩
    simp [putA_sl, fx_law_take]
    exact hh
theorem spec_number {h : D} (hh : IsH h) : wF fn_law_number [h] fun d o => ∃ h' c, d = .int c ∧ IsH h' ∧ o = [some h'] := by
  refine wF_run ?_
  simp [m_law_number, takeA_sl, hh.off]
  refine (take hh 9 (by decide)).mono ?_
  rintro _ _ ⟨h1, k, rfl, hk, hh, rfl⟩
  simp [putA_sl, fx_law_take]
  refine ⟨fun _ => ?_, fun _ => ?_⟩
  · simp [takeA_sl, hh.off]
    refine (spec_wide hh 1999999 (by decide)).mono ?_
    rintro _ _ ⟨h2, k2, rfl, hk2, hh, rfl⟩
    simp [putA_sl, fx_law_wide]
    exact hh
  · simp [takeA_sl, hh.off]
    refine (take hh 7 (by decide)).mono ?_
    rintro _ _ ⟨h2, k2, rfl, hk2, hh, rfl⟩
    simp [putA_sl, fx_law_take]
    exact hh
end K05

/-! K05b -/
set_option Elab.async false
set_option linter.all false
set_option maxRecDepth 100000
set_option maxHeartbeats 1000000
namespace K05
open PySem L2 Pv Kt TL
open S (zts app_zts nat_emod frz_ndm tuple_map)
/-! six names -/
structure Nms (ns : List Str) : Prop where
  len : ns.length = 6
  nd : ns.Nodup
  so : ∀ s ∈ ns, PyData.strOk s = true
def nrm (s : Str) : List Nat := (tl s).filter fun c => decide (c ≠ 117 ∧ c ≠ 122)
theorem nrm_app {a b : Str} : nrm (a ++ b) = nrm a ++ nrm b := by unfold nrm; rw [tl_append, List.filter_append]
def code (i : Nat) : Nat := [97, 98, 99, 100, 120, 121].getD i 0
theorem code_inj {i j : Nat} (hi : i < 6) (hj : j < 6) (h : code i = code j) : i = j := by
  have : ∀ i : Fin 6, ∀ j : Fin 6, code i = code j → i = j := by decide
  have := this ⟨i, hi⟩ ⟨j, hj⟩ h
  exact congrArg Fin.val this
theorem letter {k : Nat} (h : k < 6) : ∃ c, fIxS (.str (Str.ofString "abcdxy")) (.int (k : Nat)) = some (.str c) ∧ nrm c = [code k] ∧ c.length = 1 := by
  rcases k with _ | _ | _ | _ | _ | _ | k
  · exact ⟨_, rfl, by decide +kernel, by decide +kernel⟩
  · exact ⟨_, rfl, by decide +kernel, by decide +kernel⟩
  · exact ⟨_, rfl, by decide +kernel, by decide +kernel⟩
  · exact ⟨_, rfl, by decide +kernel, by decide +kernel⟩
  · exact ⟨_, rfl, by decide +kernel, by decide +kernel⟩
  · exact ⟨_, rfl, by decide +kernel, by decide +kernel⟩
  · omega
theorem nrm_ok {s : Str} {i : Nat} (hi : i < 6) (h : nrm s = [code i]) : PyData.strOk s = true := by
  have hc : code i < 200 := by
    have : ∀ i : Fin 6, code i < 200 := by decide
    exact this ⟨i, hi⟩
  have key : ∀ c ∈ tl s, c < 0x110000 := fun c hm => by
    by_cases q : c ≠ 117 ∧ c ≠ 122
    · have : c ∈ nrm s := List.mem_filter.mpr ⟨hm, by simpa using q⟩
      rw [h] at this
      have := List.mem_singleton.mp this
      omega
    · omega
  unfold PyData.strOk
  rw [← Array.all_toList, List.all_eq_true]
  intro c hm
  simpa using key c hm
theorem spec_names {h : D} (hh : IsH h) : wF fn_law_names_of [h] fun d o => ∃ h' ns, d = txts true ns ∧ Nms ns ∧ IsH h' ∧ o = [some h'] := by
  refine wF_run ?_
  have e1 : D.nd true .lst [] = txts true [] := rfl
  simp [m_law_names_of, e1]
  refine forL_range (n := 6) (fun j ρ => ∃ h' ns z2 z3 z4, ρ = [some h', some (txts true ns), z2, z3, z4] ∧ IsH h' ∧ ns.length = j ∧ ∀ i s, ns[i]? = some s → nrm s = [code i]) ⟨h, [], none, none, none, rfl, hh, rfl, fun i s e => by cases e⟩ ?_ ?_
  · rintro j hj ρ ⟨h', ns, z2, z3, z4, rfl, hh, hl, hn⟩
    refine ⟨_, rfl, ?_⟩
    simp [l_law_names_of_0, takeA_sl, hh.off]
    refine (take hh 4 (by decide)).mono ?_
    rintro _ _ ⟨h1, k, rfl, hk, hh, rfl⟩
    have hb : ∃ b : Str, ((ixN 4 (k : Int)).bind fun x => [D.str (Str.ofString ""), D.str (Str.ofString "u"), D.str (Str.ofString "zzzzzzzzzzz"), D.str (Str.ofString "uz")][x]?) = some (.str b) ∧ nrm b = [] ∧ b.length ≤ 11 := by
      rcases k with _ | _ | _ | _ | k
      · exact ⟨_, rfl, by decide +kernel, by decide +kernel⟩
      · exact ⟨_, rfl, by decide +kernel, by decide +kernel⟩
      · exact ⟨_, rfl, by decide +kernel, by decide +kernel⟩
      · exact ⟨_, rfl, by decide +kernel, by decide +kernel⟩
      · omega
    obtain ⟨b, hb, b1, b2⟩ := hb
    obtain ⟨c, hc, c1, c2⟩ := letter hj
    simp [putA_sl, fx_law_take, -fIxS_str]
    rw [hb, exO_some]
    simp [hc, takeA_sl, hh.off, -fIxS_str]
    refine (take hh 2 (by decide)).mono ?_
    rintro _ _ ⟨h2, k2, rfl, hk2, hh, rfl⟩
    have nx : ∀ s, nrm s = [code j] → ∀ i s', (ns ++ [s])[i]? = some s' → nrm s' = [code i] := fun s hs i s' e => by
      by_cases q : i < ns.length
      · rw [List.getElem?_append_left q] at e; exact hn i s' e
      · have hi := (List.getElem?_eq_some_iff.mp e).1
        simp at hi
        have : i = ns.length := by omega
        subst this
        rw [List.getElem?_append_right (by omega)] at e
        simp at e
        subst e
        rw [hs, hl]
    simp [putA_sl, fx_law_take, app_txts]
    refine ⟨fun _ => ⟨by omega, by omega, h2, _, ⟨rfl, rfl⟩, hh, by simp [hl], ?_⟩, fun _ => ⟨by omega, by omega, h2, _, ⟨rfl, rfl⟩, hh, by simp [hl], ?_⟩⟩
    · exact nx _ (by rw [nrm_app, b1, c1]; rfl)
    · exact nx _ (by rw [nrm_app, b1, c1]; rfl)
  · rintro ρ ⟨h', ns, z2, z3, z4, rfl, hh, hl, hn⟩
    simp
    refine ⟨_, ns, rfl, ⟨hl, ?_, fun s hs => ?_⟩, hh, rfl⟩
    rotate_left
    · obtain ⟨i, hi, rfl⟩ := List.getElem_of_mem hs
      exact nrm_ok (by omega) (hn i _ (List.getElem?_eq_getElem hi))
    refine List.pairwise_iff_getElem.mpr fun i j hi hj hij e => ?_
    have n1 := hn i _ (List.getElem?_eq_getElem hi)
    have n2 := hn j _ (List.getElem?_eq_getElem hj)
    rw [e, n2] at n1
    have := code_inj (by omega) (by omega) (List.cons.inj n1).1
    omega
/-! the variables -/
structure Vars where
  a : Nat → Int
  l : Nat → List Int
def keys (ns : List Str) : List Key := ns.map .inr
/-- the k-th value -/
def val (o : Bool) (V : Vars) (k : Nat) : D := if k < 4 then .int (V.a k) else zts o (V.l k)
def varsD (o : Bool) (ns : List Str) (V : Vars) (n : Nat) : D := .nd o (.dK (keys (ns.take n))) ((List.range n).map (val o V))
theorem kix_str : ∀ {ns : List Str} {k : Nat} {s : Str}, ns.Nodup → ns[k]? = some s → kix (keys ns) (.inr s) = some k
  | [], k, s, _, e => by cases e
  | x :: ns, 0, s, nd, e => by
    cases e
    show (if (Sum.inr x : Key) = .inr x then some 0 else _) = _
    rw [if_pos rfl]
  | x :: ns, k + 1, s, nd, e => by
    have e' : ns[k]? = some s := e
    have hx : ¬ (Sum.inr x : Key) = .inr s := fun z => by
      cases z
      exact (List.nodup_cons.mp nd).1 (List.mem_of_getElem? e')
    show (if (Sum.inr x : Key) = .inr s then some 0 else (kix (keys ns) (.inr s)).map (· + 1)) = _
    rw [if_neg hx, kix_str (List.nodup_cons.mp nd).2 e']; rfl
theorem kix_strN : ∀ {ns : List Str} {s : Str}, s ∉ ns → kix (keys ns) (.inr s) = none
  | [], s, _ => rfl
  | x :: ns, s, h => by
    have hx : ¬ (Sum.inr x : Key) = .inr s := fun z => by cases z; exact h (by simp)
    show (if (Sum.inr x : Key) = .inr s then some 0 else (kix (keys ns) (.inr s)).map (· + 1)) = _
    rw [if_neg hx, kix_strN fun z => h (by simp [z])]; rfl
variable {ns : List Str} {V : Vars}
theorem take_nd {n : Nat} (h : Nms ns) : (ns.take n).Nodup := h.nd.sublist (List.take_sublist _ _)
theorem kix_nm {n k : Nat} {s : Str} (h : Nms ns) (hk : k < n) (e : ns[k]? = some s) : kix (keys (ns.take n)) (.inr s) = some k :=
  kix_str (take_nd h) (by rw [List.getElem?_take_of_lt hk]; exact e)
theorem kix_nmN {n : Nat} {s : Str} (h : Nms ns) (e : ns[n]? = some s) : kix (keys (ns.take n)) (.inr s) = none :=
  kix_strN fun m => by
    obtain ⟨i, hi, e2⟩ := List.getElem_of_mem m
    rw [List.getElem_take] at e2
    have hi' : i < n := by rw [List.length_take] at hi; omega
    obtain ⟨hn, e3⟩ := List.getElem?_eq_some_iff.mp e
    exact List.pairwise_iff_getElem.mp h.nd i n (by omega) hn hi' (e2.trans e3.symm)
@[simp] theorem frz_val {o : Bool} {k : Nat} : frz (val o V k) = val false V k := by
  unfold val; split <;> simp
@[simp] theorem frz_vars {o : Bool} {n : Nat} : frz (varsD o ns V n) = varsD false ns V n := by
  unfold varsD
  show D.nd false _ (frzL _) = _
  rw [frzL_map]
  congr 1
  exact List.map_congr_left fun k _ => frz_val
@[simp] theorem rd_vars {n : Nat} : rdR (varsD true ns V n) = .pl [] (varsD true ns V n) := rfl
@[simp] theorem rd_varsF {n : Nat} : rdR (varsD false ns V n) = .vl (varsD false ns V n) := rfl
theorem dg_varsF {n k : Nat} {s : Str} (h : Nms ns) (hk : k < n) (e : ns[k]? = some s) : dgR (.vl (varsD false ns V n)) (.str s) = some (.vl (val false V k)) := by
  unfold varsD
  rw [dgR_vl, if_pos (show isKey _ (frz (D.str s)) = true from rfl)]
  show (kix (keys (ns.take n)) (.inr s)).bind _ = _
  rw [kix_nm h hk e]
  simp [hk]
theorem dg_vars {n k : Nat} {s : Str} (h : Nms ns) (hk : k < n) (e : ns[k]? = some s) : dgR (.pl [] (varsD true ns V n)) (.str s) = some (kidR (some []) k (val true V k)) := by
  unfold varsD
  rw [dgR_pl, if_pos (show isKey _ (frz (D.str s)) = true from rfl)]
  show (kix (keys (ns.take n)) (.inr s)).bind _ = _
  rw [kix_nm h hk e]
  simp [hk]
/-- a new key -/
theorem put_new {R : Nat} {P : Pv.Env → Prop} {o : Bool} {n : Nat} {s : Str} {x : D} {ρ : Pv.Env} (h : Nms ns) (hn : n < 6) (e : ns[n]? = some s) (hx : x = val true V n) : dpK R P x (.str s) (.pl [] (varsD true ns V n)) ρ ↔ exO ρ[R]? fun o => exO o fun dr => P (ρ.set R (some (putD [] (varsD true ns V (n + 1)) dr))) := by
  have e1 : dPut (.dK (keys (ns.take n))) ((List.range n).map (val true V)) (.str s) x = some (.dK (keys (ns.take (n + 1))), (List.range (n + 1)).map (val true V)) := by
    show (match kix (keys (ns.take n)) (.inr s) with
      | some j => some (Kd.dK (keys (ns.take n)), ((List.range n).map (val true V)).set j x)
      | none => if (keys (ns.take n)).length < 16777216 then some (Kd.dK (keys (ns.take n) ++ [(Sum.inr s : Key)]), (List.range n).map (val true V) ++ [x]) else none) = _
    rw [kix_nmN h e]
    dsimp only
    rw [if_pos (by simp [keys]; omega)]
    rw [List.take_add_one, e, List.range_succ, List.map_append, hx]
    simp [keys]
  unfold varsD
  rw [dpK_pl, frz_str, e1, exO_some]
  have l : ((List.range n).map (val true V)).length < 16777216 := by simp; omega
  exact ⟨fun q => q.2, fun q => ⟨l, q⟩⟩
end K05

/-! K05c -/
set_option Elab.async false
set_option linter.all false
set_option maxRecDepth 100000
set_option maxHeartbeats 1000000
namespace K05
open PySem L2 Pv Kt TL
open S (zts app_zts nat_emod frz_ndm tuple_map)
variable {ns : List Str} {V : Vars}
def nmAt (ns : List Str) (k : Nat) : Str := ns.getD k Str.empty
theorem nm_at (h : Nms ns) {k : Nat} (hk : k < 6) : ns[k]? = some (nmAt ns k) := by
  have := h.len
  unfold nmAt
  rw [List.getD_eq_getElem?_getD, List.getElem?_eq_getElem (by omega)]; rfl
/-! expressions -/
inductive PE where
  | num (i : Int)
  | var (k : Nat) (c : Int)
def encP (ns : List Str) : PE → D
  | .num i => .nd false .tup [.str (Str.ofString "num"), .int i]
  | .var k c => .nd false .tup [.str (Str.ofString "var"), .str (nmAt ns k), .int c]
def valP (V : Vars) : PE → Int
  | .num i => i
  | .var k c => V.a k + c
def okP : PE → Prop
  | .num _ => True
  | .var k _ => k < 4
inductive EX where
  | pl (p : PE)
  | item (k : Nat) (p : PE) (c : Int)
def encE (ns : List Str) : EX → D
  | .pl p => encP ns p
  | .item k p c => .nd false .tup [.str (Str.ofString "item"), .str (nmAt ns k), encP ns p, .int c]
def okE : EX → Prop
  | .pl p => okP p
  | .item k p _ => (4 ≤ k ∧ k < 6) ∧ okP p
def valE (V : Vars) : EX → Option Int
  | .pl p => some (valP V p)
  | .item k p c => if 0 ≤ valP V p ∧ valP V p < (V.l k).length then some ((V.l k).getD (valP V p).toNat 0 + c) else none
@[simp] theorem isF_encP {p : PE} : isF (encP ns p) = true := by cases p <;> rfl
@[simp] theorem isF_encE {e : EX} : isF (encE ns e) = true := by
  cases e
  · exact isF_encP
  · rfl
@[simp] theorem frz_encP {p : PE} : frz (encP ns p) = encP ns p := by cases p <;> simp [encP]
@[simp] theorem frz_encE {e : EX} : frz (encE ns e) = encE ns e := by
  cases e
  · exact frz_encP
  · simp [encE]
@[simp] theorem rd_encP {p : PE} : rdR (encP ns p) = .vl (encP ns p) := by unfold rdR; rw [if_pos isF_encP]
@[simp] theorem rd_encE {e : EX} : rdR (encE ns e) = .vl (encE ns e) := by unfold rdR; rw [if_pos isF_encE]
theorem off_f {i : Nat} {d : D} {ρ : Pv.Env} (h : isF d = true) : offA i d ρ = ρ := by unfold offA; rw [if_pos h]
@[simp] theorem off_encP {i : Nat} {p : PE} {ρ : Pv.Env} : offA i (encP ns p) ρ = ρ := off_f isF_encP
@[simp] theorem off_encE {i : Nat} {e : EX} {ρ : Pv.Env} : offA i (encE ns e) ρ = ρ := off_f isF_encE
@[simp] theorem off_varsF {i n : Nat} {ρ : Pv.Env} : offA i (varsD false ns V n) ρ = ρ := rfl
@[simp] theorem off_vars {i n : Nat} {ρ : Pv.Env} : offA i (varsD true ns V n) ρ = ρ.set i none := rfl
theorem n_num_var : Str.ofString "var" ≠ Str.ofString "num" := by decide +kernel
theorem n_item_num : Str.ofString "item" ≠ Str.ofString "num" := by decide +kernel
theorem n_item_var : Str.ofString "item" ≠ Str.ofString "var" := by decide +kernel
theorem x20 : ixN 2 0 = some 0 := by decide
theorem x21 : ixN 2 1 = some 1 := by decide
theorem x30 : ixN 3 0 = some 0 := by decide
theorem x31 : ixN 3 1 = some 1 := by decide
theorem x32 : ixN 3 2 = some 2 := by decide
theorem x40 : ixN 4 0 = some 0 := by decide
theorem x41 : ixN 4 1 = some 1 := by decide
theorem x42 : ixN 4 2 = some 2 := by decide
theorem x43 : ixN 4 3 = some 3 := by decide
theorem lenZ' {o : Bool} {l : List Int} : fLen (zts o l) = some (.int l.length) := lenZ
@[simp] theorem rd_ztsF {l : List Int} : rdR (zts false l) = .vl (zts false l) := rfl
theorem val_lo {o : Bool} {k : Nat} (h : k < 4) : val o V k = .int (V.a k) := by unfold val; rw [if_pos h]
theorem val_hi {o : Bool} {k : Nat} (h : 4 ≤ k) : val o V k = zts o (V.l k) := by unfold val; rw [if_neg (by omega)]
theorem ixZF {l : List Int} {i : Int} (h0 : 0 ≤ i) (h1 : i < l.length) : ixR (.vl (zts false l)) (.int i) = some (.vl (.int (l.getD i.toNat 0))) := by
  have hk : i.toNat < l.length := by omega
  unfold zts
  rw [ixR_vl]
  simp [ixN_pos h0 h1, hk]
theorem spec_valueP (h : Nms ns) (p : PE) (hp : okP p) (j : Nat) : wF (fn_value_of (j + 1)) [encP ns p, varsD false ns V 6] fun d o => d = .int (valP V p) ∧ o = [some (encP ns p), some (varsD false ns V 6)] := by
  show wF (runF 4 (m_value_of (fn_value_of j)) 2) _ _
  refine wF_run ?_
  cases p with
  | num i => simp [m_value_of, encP, x20, x21, valP]
  | var k c =>
    have hk : k < 4 := hp
    have dg := dg_varsF (V := V) h (show k < 6 by omega) (nm_at h (show k < 6 by omega))
    rw [val_lo hk] at dg
    simp [m_value_of, encP, x30, x31, x32, n_num_var, dg, valP]
theorem spec_lvalueP (h : Nms ns) (p : PE) (hp : okP p) (j : Nat) : wF (fn_law_value (j + 1)) [encP ns p, varsD false ns V 6] fun d o => d = .int (valP V p) ∧ o = [some (encP ns p), some (varsD false ns V 6)] := by
  show wF (runF 4 (m_law_value (fn_law_value j)) 2) _ _
  refine wF_run ?_
  cases p with
  | num i => simp [m_law_value, encP, x20, x21, valP]
  | var k c =>
    have hk : k < 4 := hp
    have dg := dg_varsF (V := V) h (show k < 6 by omega) (nm_at h (show k < 6 by omega))
    rw [val_lo hk] at dg
    simp [m_law_value, encP, x30, x31, x32, n_num_var, dg, valP]
theorem spec_value (h : Nms ns) (e : EX) (he : okE e) : wF (fn_value_of 2) [encE ns e, varsD false ns V 6] fun d o => d = optD (valE V e) ∧ o = [some (encE ns e), some (varsD false ns V 6)] := by
  cases e with
  | pl p => exact spec_valueP h p he 1
  | item k p c =>
    show wF (runF 4 (m_value_of (fn_value_of 1)) 2) _ _
    obtain ⟨⟨k1, k2⟩, hp⟩ := he
    refine wF_run ?_
    have dg := dg_varsF (V := V) h k2 (nm_at h k2)
    rw [val_hi k1] at dg
    simp [m_value_of, encE, x40, x41, x42, x43, n_item_num, n_item_var, takeA_sl]
    refine (spec_valueP h p hp 0).mono ?_
    rintro _ _ ⟨rfl, rfl⟩
    simp [putA_sl, fx_value_of, dg, lenZ, x41, x43, valE]
    by_cases h0 : 0 ≤ valP V p
    · by_cases h1 : valP V p < (V.l k).length
      · simp [h0, h1, ixZF h0 h1, x43]
      · simp [h0, h1]
    · simp [h0]
theorem spec_lvalue (h : Nms ns) (e : EX) (he : okE e) : wF (fn_law_value 2) [encE ns e, varsD false ns V 6] fun d o => d = optD (valE V e) ∧ o = [some (encE ns e), some (varsD false ns V 6)] := by
  cases e with
  | pl p => exact spec_lvalueP h p he 1
  | item k p c =>
    show wF (runF 4 (m_law_value (fn_law_value 1)) 2) _ _
    obtain ⟨⟨k1, k2⟩, hp⟩ := he
    refine wF_run ?_
    have dg := dg_varsF (V := V) h k2 (nm_at h k2)
    rw [val_hi k1] at dg
    simp [m_law_value, encE, x40, x41, x42, x43, n_item_num, n_item_var, dg, takeA_sl]
    refine (spec_lvalueP h p hp 0).mono ?_
    rintro _ _ ⟨rfl, rfl⟩
    simp [putA_sl, fx_law_value, lenZ, x41, x43, valE]
    by_cases h0 : 0 ≤ valP V p
    · by_cases h1 : valP V p < (V.l k).length
      · have h2 : ¬ valP V p < 0 := by omega
        have h3 : ¬ ((V.l k).length : Int) ≤ valP V p := by omega
        simp [h0, h1, h2, h3, ixZF h0 h1, x43]
      · have h2 : ¬ valP V p < 0 := by omega
        have h3 : ((V.l k).length : Int) ≤ valP V p := by omega
        simp [h0, h1, h2, h3]
    · have h2 : valP V p < 0 := by omega
      simp [h0, h2]
end K05

/-! Pw7 -/
set_option Elab.async false
set_option linter.all false
set_option maxRecDepth 100000
set_option maxHeartbeats 1000000
namespace Pv
open PySem L2
section
variable {ρ : Env} {ma mb : M D}
@[simp] theorem wM_binL {f : D → D → Option D} {P : D → Env → Prop} : wM (mBinL f ma mb) ρ P ↔ wM ma ρ fun a ρ1 => isLst a = true ∧ wM mb ρ1 fun b ρ2 => exO (f (frz a) (frz b)) fun d => P d ρ2 := by
  rw [mBinL, wM_bind]
  refine wM_cg fun a ρ1 => ⟨fun p => ?_, fun p => ?_⟩
  · obtain ⟨d, ρ', e, p⟩ := p
    unfold M.chk at e; split at e
    · rename_i ho
      refine ⟨ho, ?_⟩
      have z : wM _ ρ1 P := ⟨d, ρ', e, p⟩
      rw [wM_bind] at z
      exact z.mono fun b ρ2 pp => wM_lift.mp pp
    · cases e
  · obtain ⟨ho, p⟩ := p
    have z : wM (mb.bind fun b => M.lift (f (frz a) (frz b))) ρ1 P := by
      rw [wM_bind]; exact p.mono fun b ρ2 pp => wM_lift.mpr pp
    obtain ⟨r, ρ', e, p⟩ := z
    exact ⟨r, ρ', by unfold M.chk; rw [if_pos ho]; exact e, p⟩
@[simp] theorem isLst_lst {o : Bool} {xs : List D} : isLst (.nd o .lst xs) = true := rfl
theorem fIdx_map {ys : List Str} {b : Str} : fIdx (.nd false .lst (ys.map .str)) (.str b) = if b ∈ ys then some (.int (ys.idxOf b : Nat)) else none := by
  unfold fIdx
  dsimp only
  rw [strL_map]
@[simp] theorem fLenD_nd {o : Bool} {ks : List Key} {xs : List D} : fLenD (.nd o (.dK ks) xs) = some (.int xs.length) := rfl
@[simp] theorem fListD_nd {o : Bool} {ks : List Key} {xs : List D} : fListD (.nd o (.dK ks) xs) = some (.own (ks.map kD)) := rfl
/-- a list built while the slots change -/
theorem lcL_ind {g : D → Env → Option Env} {mt : M Bool} {me : M D} {vs : List Nat} (I : List D → Env → Prop) : ∀ (xs : List D) (acc : List D) (ρ : Env), I acc ρ → acc.length + xs.length ≤ 16777216 →
    (∀ x ∈ xs, ∀ acc ρ, I acc ρ → ∃ ρ1, g x ρ = some ρ1 ∧ wM mt ρ1 fun b ρ2 => b = true ∧ wM me ρ2 fun z ρ3 => I (acc ++ [z]) (wipeE ρ3 vs)) →
    ∃ acc' ρ', lcL g mt me vs xs ρ acc = some (acc', ρ') ∧ I acc' ρ' ∧ acc'.length = acc.length + xs.length
  | [], acc, ρ, h, _, _ => ⟨acc, ρ, rfl, h, rfl⟩
  | x :: xs, acc, ρ, h, l, s => by
    obtain ⟨ρ1, e1, b, ρ2, e2, rfl, z, ρ3, e3, i⟩ := s x (by simp) acc ρ h
    obtain ⟨acc', ρ', e, i', l'⟩ := lcL_ind I xs (acc ++ [z]) (wipeE ρ3 vs) i (by simp at l ⊢; omega) fun y hy => s y (by simp [hy])
    refine ⟨acc', ρ', ?_, i', by simp at l' ⊢; omega⟩
    unfold lcL
    rw [e1]
    dsimp only
    rw [e2]
    dsimp only
    rw [e3]
    dsimp only
    rw [if_pos (by simp at l; omega), e]
end
end Pv

/-! K05f -/
set_option Elab.async false
set_option linter.all false
set_option maxRecDepth 100000
set_option maxHeartbeats 1000000
namespace K05
open PySem L2 Pv Kt TL
open S (zts app_zts nat_emod frz_ndm tuple_map)
variable {ns : List Str} {V : Vars}
@[simp] theorem fNe_bl {i j : Bool} : fNe (.bl i) (.bl j) = some (.bl (!decide (i = j))) := by simp [fNe, eqF, toV, scal]
@[simp] theorem fEq_bl {i j : Bool} : fEq (.bl i) (.bl j) = some (.bl (decide (i = j))) := by simp [fEq, eqF, toV, scal]
@[simp] theorem isNon_bl {b : Bool} : Pv.isNon (.bl b) = false := rfl
/-! comparisons -/
def sgn (s : Nat) : Str := Str.ofString (["<", "<=", ">", ">=", "==", "!="].getD s "")
def cmpB (s : Nat) (a b : Int) : Bool := [decide (a < b), decide (a ≤ b), decide (a > b), decide (a ≥ b), decide (a = b), !decide (a = b)].getD s false
theorem sgn_eq (s t : Nat) (hs : s < 6) (ht : t < 6) : (sgn s = sgn t) ↔ s = t := by
  constructor
  · intro h
    have : ∀ i : Fin 6, ∀ j : Fin 6, sgn i = sgn j → i = j := by decide +kernel
    exact congrArg Fin.val (this ⟨s, hs⟩ ⟨t, ht⟩ h)
  · rintro rfl; rfl
theorem spec_compares {s : Nat} (hs : s < 6) (a b : Int) : wF fn_compares [.str (sgn s), .int a, .int b] fun d o => d = .bl (cmpB s a b) ∧ o = [some (.str (sgn s)), some (.int a), some (.int b)] := by
  refine wF_run ?_
  have q : ∀ t, t < 6 → decide (sgn s = sgn t) = decide (s = t) := fun t ht => by rw [decide_eq_decide]; exact sgn_eq s t hs ht
  have q0 := q 0 (by omega)
  have q1 := q 1 (by omega)
  have q2 := q 2 (by omega)
  have q3 := q 3 (by omega)
  have q4 := q 4 (by omega)
  simp only [decide_eq_decide, show sgn 0 = Str.ofString "<" from rfl, show sgn 1 = Str.ofString "<=" from rfl, show sgn 2 = Str.ofString ">" from rfl, show sgn 3 = Str.ofString ">=" from rfl, show sgn 4 = Str.ofString "==" from rfl] at q0 q1 q2 q3 q4
  rcases s with _ | _ | _ | _ | _ | _ | s
  · simp [m_compares, q0, cmpB]
  · simp [m_compares, q0, q1, cmpB]
  · simp [m_compares, q0, q1, q2, cmpB]
  · simp [m_compares, q0, q1, q2, q3, cmpB]
  · simp [m_compares, q0, q1, q2, q3, q4, cmpB]
  · simp [m_compares, q0, q1, q2, q3, q4, cmpB]
  · omega
def sgns : List Str := (List.range 6).map sgn
theorem idx_sgn {s : Nat} (hs : s < 6) : fIdx (.nd false .lst [.str (Str.ofString "<"), .str (Str.ofString "<="), .str (Str.ofString ">"), .str (Str.ofString ">="), .str (Str.ofString "=="), .str (Str.ofString "!=")]) (.str (sgn s)) = some (.int (s : Nat)) := by
  have e : fIdx (.nd false .lst (sgns.map .str)) (.str (sgn s)) = some (.int (s : Nat)) := by
    have k : ∀ i : Fin 6, sgn i ∈ sgns ∧ sgns.idxOf (sgn i) = i := by decide +kernel
    obtain ⟨k1, k2⟩ := k ⟨s, hs⟩
    rw [fIdx_map, if_pos k1]
    simp only at k2
    rw [k2]
  exact e
theorem spec_compared {s : Nat} (hs : s < 6) (a b : Int) : wF fn_law_compared [.str (sgn s), .int a, .int b] fun d o => d = .bl (cmpB s a b) ∧ o = [some (.str (sgn s)), some (.int a), some (.int b)] := by
  refine wF_run ?_
  have ix := idx_sgn hs
  simp [m_law_compared, ix]
  rcases s with _ | _ | _ | _ | _ | _ | s
  · simp [cmpB, ixN, kidR]
  · simp [cmpB, ixN, kidR]
  · simp [cmpB, ixN, kidR]
  · simp [cmpB, ixN, kidR]
  · simp [cmpB, ixN, kidR]
  · simp [cmpB, ixN, kidR]
  · omega
end K05

/-! K05g -/
set_option Elab.async false
set_option linter.all false
set_option maxRecDepth 100000
set_option maxHeartbeats 1000000
namespace K05
open PySem L2 Pv Kt TL
open S (zts app_zts nat_emod frz_ndm tuple_map)
variable {ns : List Str} {V : Vars}
/-! conditions -/
inductive Cd (ns : List Str) : Nat → D → Prop where
  | cmp {n : Nat} (s : Nat) (hs : s < 6) (e1 e2 : EX) (h1 : okE e1) (h2 : okE e2) : Cd ns n (.nd false .tup [.str (Str.ofString "cmp"), .str (sgn s), encE ns e1, encE ns e2])
  | nt {n : Nat} {c : D} (h : Cd ns n c) : Cd ns (n + 1) (.nd false .tup [.str (Str.ofString "not"), c])
  | ao {n : Nat} (b : Bool) {xs : List D} (h : ∀ x ∈ xs, Cd ns n x) : Cd ns (n + 1) (.nd false .tup [.str (Str.ofString (if b then "and" else "or")), .nd false .tup xs])
theorem Cd.fr {n : Nat} {d : D} (h : Cd ns n d) : isF d = true ∧ frz d = d := by
  induction h with
  | cmp s hs e1 e2 h1 h2 => exact ⟨rfl, by simp⟩
  | nt h ih => exact ⟨rfl, by simp [ih.2]⟩
  | ao b h ih => exact ⟨rfl, by simp [frzL_id fun x hx => (ih x hx).2]⟩
theorem Cd.mono {n : Nat} {d : D} (h : Cd ns n d) : ∀ {m}, n ≤ m → Cd ns m d := by
  induction h with
  | cmp s hs e1 e2 h1 h2 => exact fun _ => .cmp s hs e1 e2 h1 h2
  | nt h ih =>
    intro m hm
    obtain ⟨m, rfl⟩ : ∃ k, m = k + 1 := ⟨m - 1, by omega⟩
    exact .nt (ih (by omega))
  | ao b h ih =>
    intro m hm
    obtain ⟨m, rfl⟩ : ∃ k, m = k + 1 := ⟨m - 1, by omega⟩
    exact .ao b fun x hx => ih x hx (by omega)
def optB : Option Bool → D
  | none => .non
  | some b => .bl b
abbrev VD (ns : List Str) (V : Vars) : D := varsD false ns V 6
/-- both come to r -/
def Both2 (ns : List Str) (V : Vars) (R RL : Fn) (x : D) (r : Option Bool) : Prop :=
  (wF R [x, VD ns V] fun d o => d = optB r ∧ o = [some x, some (VD ns V)]) ∧ wF RL [x, VD ns V] fun d o => d = optB r ∧ o = [some x, some (VD ns V)]
theorem ne_and_cmp : Str.ofString "not" ≠ Str.ofString "cmp" := by decide +kernel
theorem ao_cmp {b : Bool} : decide (Str.ofString (if b then "and" else "or") = Str.ofString "cmp") = false := by cases b <;> decide +kernel
theorem ao_not {b : Bool} : decide (Str.ofString (if b then "and" else "or") = Str.ofString "not") = false := by cases b <;> decide +kernel
theorem ao_and {b : Bool} : decide (Str.ofString (if b then "and" else "or") = Str.ofString "and") = b := by cases b <;> decide +kernel
theorem ao_or {b : Bool} : decide (Str.ofString (if b then "and" else "or") = Str.ofString "or") = !b := by cases b <;> decide +kernel
theorem rd_f {d : D} (h : isF d = true) : rdR d = .vl d := by unfold rdR; rw [if_pos h]
theorem loops (b : Bool) (R RL : Fn) {ys : D} : ∀ (xs : List D), (∀ x ∈ xs, (isF x = true ∧ frz x = x) ∧ ∃ r, Both2 ns V R RL x r) → ∃ res : Option (Option Bool),
    (∀ c z2 z3 z4 z6 Q, (∀ r z6, res = some r → Q (.rt (optB r)) [c, some (VD ns V), z2, z3, none, some (.bl b), z6]) → (∀ z4 z6, res = none → Q .nx [c, some (VD ns V), z2, z3, z4, some (.bl b), z6]) →
      wS (forL (gmName 6) (l_truth_of_0 R) xs) [c, some (VD ns V), z2, z3, z4, some (.bl b), z6] Q) ∧
    (∀ z2 z3 z4 z5 Q, (∀ r z5, res = some r → Q (.rt (optB r)) [some (.nd false .tup [.str (Str.ofString (if b then "and" else "or")), ys]), some (VD ns V), z2, z3, none, z5]) → (∀ z4 z5, res = none → Q .nx [some (.nd false .tup [.str (Str.ofString (if b then "and" else "or")), ys]), some (VD ns V), z2, z3, z4, z5]) →
      wS (forL (gmName 5) (l_law_truth_0 RL) xs) [some (.nd false .tup [.str (Str.ofString (if b then "and" else "or")), ys]), some (VD ns V), z2, z3, z4, z5] Q)
  | [], _ => ⟨none, fun c z2 z3 z4 z6 Q _ h => by simpa using h z4 z6 rfl, fun z2 z3 z4 z5 Q _ h => by simpa using h z4 z5 rfl⟩
  | x :: xs, h => by
    obtain ⟨⟨fx, zx⟩, r, b1, b2⟩ := h x (by simp)
    obtain ⟨res, l1, l2⟩ := loops b R RL (ys := ys) xs fun y hy => h y (by simp [hy])
    have offx : ∀ {i : Nat} {ρ : Pv.Env}, offA i x ρ = ρ := off_f fx
    have rx := rd_f fx
    have ao2 := ao_or (b := b)
    refine ⟨match r with | none => some none | some t => if t = b then res else some (some t), fun c z2 z3 z4 z6 Q q1 q2 => ?_, fun z2 z3 z4 z5 Q q1 q2 => ?_⟩
    · refine forL_cons (ρ1 := [c, some (VD ns V), z2, z3, z4, some (.bl b), some x]) rfl ?_
      simp [l_truth_of_0, takeA_sl, offx]
      refine b1.mono ?_
      rintro _ _ ⟨rfl, rfl⟩
      cases r with
      | none =>
        simp [putA_sl, optB, fx_truth_of, offx]
        exact q1 none _ rfl
      | some t =>
        by_cases q : t = b
        · subst q
          simp [putA_sl, optB, fx_truth_of, offx]
          simp at q1 q2
          exact l1 _ _ _ _ _ Q q1 q2
        · simp [putA_sl, optB, fx_truth_of, offx, q]
          simp [q] at q1
          exact q1 (some t) _ rfl
    · refine forL_cons (ρ1 := [some (.nd false .tup [.str (Str.ofString (if b then "and" else "or")), ys]), some (VD ns V), z2, z3, z4, some x]) rfl ?_
      simp [l_law_truth_0, takeA_sl, offx]
      refine b2.mono ?_
      rintro _ _ ⟨rfl, rfl⟩
      cases r with
      | none =>
        simp [putA_sl, optB, fx_law_truth, offx]
        exact q1 none _ rfl
      | some t =>
        by_cases q : t = b
        · subst q
          simp [putA_sl, optB, fx_law_truth, offx, x20, ao2]
          simp at q1 q2
          exact l2 _ _ _ _ Q q1 q2
        · simp [putA_sl, optB, fx_law_truth, offx, q, x20, ao2]
          simp [q] at q1
          exact fun _ => q1 (some t) _ rfl
theorem truth_ok (hN : Nms ns) {n : Nat} {d : D} (h : Cd ns n d) : ∃ r, Both2 ns V (fn_truth_of (n + 1)) (fn_law_truth (n + 1)) d r := by
  induction h with
  | @cmp n s hs e1 e2 h1 h2 =>
    refine ⟨match valE V e1, valE V e2 with | some a, some b => some (cmpB s a b) | _, _ => none, ?_, ?_⟩
    · show wF (runF 7 (m_truth_of (fn_truth_of n)) 2) _ _
      refine wF_run ?_
      simp [m_truth_of, x40, x41, x42, x43, takeA_sl]
      refine (spec_value hN e1 h1).mono ?_
      rintro _ _ ⟨rfl, rfl⟩
      simp [putA_sl, fx_value_of, x43, x41, takeA_sl]
      refine (spec_value hN e2 h2).mono ?_
      rintro _ _ ⟨rfl, rfl⟩
      cases q1 : valE V e1 with
      | none => simp [putA_sl, fx_value_of, optD, optB]
      | some a =>
        cases q2 : valE V e2 with
        | none => simp [putA_sl, fx_value_of, optD, optB]
        | some b =>
          simp [putA_sl, fx_value_of, optD, optB, x41, takeA_sl]
          refine (spec_compares hs a b).mono ?_
          rintro _ _ ⟨rfl, rfl⟩
          simp [putA_sl, fx_compares]
    · show wF (runF 6 (m_law_truth (fn_law_truth n)) 2) _ _
      refine wF_run ?_
      simp [m_law_truth, x40, x41, x42, x43, takeA_sl]
      refine (spec_lvalue hN e1 h1).mono ?_
      rintro _ _ ⟨rfl, rfl⟩
      cases q1 : valE V e1 with
      | none => simp [putA_sl, fx_law_value, optD, optB]
      | some a =>
        simp [putA_sl, fx_law_value, x43, x41, takeA_sl, optD]
        refine (spec_lvalue hN e2 h2).mono ?_
        rintro _ _ ⟨rfl, rfl⟩
        cases q2 : valE V e2 with
        | none => simp [putA_sl, fx_law_value, optD, optB]
        | some b =>
          simp [putA_sl, fx_law_value, optD, optB, x41, takeA_sl]
          refine (spec_compared hs a b).mono ?_
          rintro _ _ ⟨rfl, rfl⟩
          simp [putA_sl, fx_law_compared]
  | @nt n c h ih =>
    obtain ⟨r, b1, b2⟩ := ih
    obtain ⟨fx, zx⟩ := h.fr
    have offx : ∀ {i : Nat} {ρ : Pv.Env}, offA i c ρ = ρ := off_f fx
    have rx := rd_f fx
    refine ⟨r.map (!·), ?_, ?_⟩
    · show wF (runF 7 (m_truth_of (fn_truth_of (n + 1))) 2) _ _
      refine wF_run ?_
      simp [m_truth_of, x20, x21, ne_and_cmp, rx, fx, zx, takeA_sl]
      refine b1.mono ?_
      rintro _ _ ⟨rfl, rfl⟩
      cases r with
      | none => simp [putA_sl, fx_truth_of, optB]
      | some t => simp [putA_sl, fx_truth_of, optB]
    · show wF (runF 6 (m_law_truth (fn_law_truth (n + 1))) 2) _ _
      refine wF_run ?_
      simp [m_law_truth, x20, x21, ne_and_cmp, rx, fx, zx, takeA_sl]
      refine b2.mono ?_
      rintro _ _ ⟨rfl, rfl⟩
      cases r with
      | none => simp [putA_sl, fx_law_truth, optB]
      | some t => simp [putA_sl, fx_law_truth, optB]
  | @ao n b xs h ih =>
    obtain ⟨res, l1, l2⟩ := loops (ns := ns) (V := V) b (fn_truth_of (n + 1)) (fn_law_truth (n + 1)) (ys := .nd false .tup xs) xs fun x hx => ⟨(h x hx).fr, ih x hx⟩
    have a1 := ao_cmp (b := b)
    have a2 := ao_not (b := b)
    have a3 := ao_and (b := b)
    have zx : frzL xs = xs := frzL_id fun x hx => (h x hx).fr.2
    have rx : rdR (D.nd false .tup xs) = .vl (.nd false .tup xs) := rfl
    refine ⟨res.getD (some b), ?_, ?_⟩
    · show wF (runF 7 (m_truth_of (fn_truth_of (n + 1))) 2) _ _
      refine wF_run ?_
      simp [m_truth_of, x20, x21, a1, a2, a3, rx]
      rw [zx]
      refine l1 _ _ _ _ _ _ (fun r z6 e => ?_) (fun z4 z6 e => ?_)
      · simp [e]
      · simp [e, optB]
    · show wF (runF 6 (m_law_truth (fn_law_truth (n + 1))) 2) _ _
      refine wF_run ?_
      simp [m_law_truth, x20, x21, a1, a2, a3, rx]
      rw [zx]
      refine l2 _ _ _ _ _ (fun r z6 e => ?_) (fun z4 z6 e => ?_)
      · simp [e]
      · simp [e, optB, x20, a3]
end K05

/-! K05h -/
set_option Elab.async false
set_option linter.all false
set_option maxRecDepth 100000
set_option maxHeartbeats 1000000
namespace K05
open PySem L2 Pv Kt TL
open S (zts app_zts nat_emod frz_ndm tuple_map)
variable {ns : List Str} {V : Vars}
abbrev nmD (ns : List Str) : D := txts true ns
theorem ix_nm (h : Nms ns) {k : Nat} (hk : k < 6) : ixR (.pl [] (txts true ns)) (.int k) = some (.vl (.str (nmAt ns k))) := ix_txts (nm_at h hk)
theorem spec_plain {h : D} (hh : IsH h) (hN : Nms ns) : wF fn_law_plain [h, nmD ns] fun d o => ∃ h' p, d = encP ns p ∧ okP p ∧ IsH h' ∧ o = [some h', some (nmD ns)] := by
  refine wF_run ?_
  simp [m_law_plain, takeA_sl, hh.off]
  refine (take hh 3 (by decide)).mono ?_
  rintro _ _ ⟨h1, k, rfl, hk, hh, rfl⟩
  simp [putA_sl, fx_law_take]
  refine ⟨fun _ => ?_, fun _ => ?_⟩
  · simp [takeA_sl, hh.off]
    refine (spec_number hh).mono ?_
    rintro _ _ ⟨h2, c, rfl, hh, rfl⟩
    simp [putA_sl, fx_law_number]
    exact ⟨_, .num c, rfl, trivial, hh, rfl⟩
  · simp [takeA_sl, hh.off]
    refine (take hh 4 (by decide)).mono ?_
    rintro _ _ ⟨h2, k2, rfl, hk2, hh, rfl⟩
    have ix := ix_nm hN (show k2 < 6 by omega)
    simp [putA_sl, fx_law_take, ix, takeA_sl, hh.off]
    refine (spec_number hh).mono ?_
    rintro _ _ ⟨h3, c, rfl, hh, rfl⟩
    simp [putA_sl, fx_law_number, takeA_sl, hh.off]
    refine (take hh 5 (by decide)).mono ?_
    rintro _ _ ⟨h4, k3, rfl, hk3, hh, rfl⟩
    have hb : ∃ b : Int, ((ixN 5 (k3 : Int)).bind fun x => [D.int 0, D.int 0, D.int 1, D.int (-1), D.int c][x]?) = some (.int b) := by
      rcases k3 with _ | _ | _ | _ | _ | k
      · exact ⟨_, rfl⟩
      · exact ⟨_, rfl⟩
      · exact ⟨_, rfl⟩
      · exact ⟨_, rfl⟩
      · exact ⟨_, rfl⟩
      · omega
    obtain ⟨b, hb⟩ := hb
    simp [putA_sl, fx_law_take]
    rw [hb, exO_some]
    simp
    exact ⟨_, .var k2 b, rfl, show k2 < 4 by omega, hh, rfl⟩
theorem spec_expr {h : D} (hh : IsH h) (hN : Nms ns) : wF fn_law_expression [h, nmD ns] fun d o => ∃ h' p, d = encE ns p ∧ okE p ∧ IsH h' ∧ o = [some h', some (nmD ns)] := by
  refine wF_run ?_
  simp [m_law_expression, takeA_sl, hh.off]
  refine (take hh 2 (by decide)).mono ?_
  rintro _ _ ⟨h1, k, rfl, hk, hh, rfl⟩
  simp [putA_sl, fx_law_take]
  refine ⟨fun _ => ?_, fun _ => ?_⟩
  · simp [takeA_sl, hh.off]
    refine (spec_plain hh hN).mono ?_
    rintro _ _ ⟨h2, p, rfl, hp, hh, rfl⟩
    simp [putA_sl, fx_law_plain]
    exact ⟨_, .pl p, rfl, hp, hh, rfl⟩
  · simp [takeA_sl, hh.off]
    refine (take hh 2 (by decide)).mono ?_
    rintro _ _ ⟨h2, k2, rfl, hk2, hh, rfl⟩
    have e4 : (4 : Int) + (k2 : Int) = ((4 + k2 : Nat) : Int) := by omega
    have ix := ix_nm hN (show 4 + k2 < 6 by omega)
    simp [putA_sl, fx_law_take, -Int.natCast_add]
    rw [e4]
    simp [ix, takeA_sl, hh.off, -Int.natCast_add]
    refine (spec_plain hh hN).mono ?_
    rintro _ _ ⟨h3, p, rfl, hp, hh, rfl⟩
    simp [putA_sl, fx_law_plain, takeA_sl, hh.off]
    refine (spec_number hh).mono ?_
    rintro _ _ ⟨h4, c, rfl, hh, rfl⟩
    simp [putA_sl, fx_law_number, takeA_sl, hh.off]
    refine (take hh 4 (by decide)).mono ?_
    rintro _ _ ⟨h5, k3, rfl, hk3, hh, rfl⟩
    have hb : ∃ b : Int, ((ixN 4 (k3 : Int)).bind fun x => [D.int 0, D.int 1, D.int (-2), D.int c][x]?) = some (.int b) := by
      rcases k3 with _ | _ | _ | _ | k
      · exact ⟨_, rfl⟩
      · exact ⟨_, rfl⟩
      · exact ⟨_, rfl⟩
      · exact ⟨_, rfl⟩
      · omega
    obtain ⟨b, hb⟩ := hb
    simp [putA_sl, fx_law_take]
    rw [hb, exO_some]
    simp
    exact ⟨_, .item (4 + k2) p b, rfl, ⟨by omega, hp⟩, hh, rfl⟩
theorem tree_cmp (R : Fn) {h : D} (hh : IsH h) (hN : Nms ns) {z2 z3 z4 : Option D} (Q : Fl → Pv.Env → Prop)
    (hQ : ∀ h' d z5, IsH h' → (∀ n, Cd ns n d) → Q (.rt d) [some h', some (nmD ns), z2, z3, z4, z5, none, none, none]) :
    wS (c_law_tree_0 R) [some h, some (nmD ns), z2, z3, z4, none, none, none, none] Q := by
  unfold c_law_tree_0
  simp [takeA_sl, hh.off]
  refine (take hh 6 (by decide)).mono ?_
  rintro _ _ ⟨h1, k, rfl, hk, hh, rfl⟩
  have hb : ((ixN 6 (k : Int)).bind fun x => [D.str (Str.ofString "<"), D.str (Str.ofString "<="), D.str (Str.ofString ">"), D.str (Str.ofString ">="), D.str (Str.ofString "=="), D.str (Str.ofString "!=")][x]?) = some (.str (sgn k)) := by
    rcases k with _ | _ | _ | _ | _ | _ | k
    · rfl
    · rfl
    · rfl
    · rfl
    · rfl
    · rfl
    · omega
  simp [putA_sl, fx_law_take]
  rw [hb, exO_some]
  simp [takeA_sl, hh.off]
  refine (spec_expr hh hN).mono ?_
  rintro _ _ ⟨h2, e1, rfl, o1, hh, rfl⟩
  simp [putA_sl, fx_law_expression, takeA_sl, hh.off]
  refine (spec_expr hh hN).mono ?_
  rintro _ _ ⟨h3, e2, rfl, o2, hh, rfl⟩
  simp [putA_sl, fx_law_expression]
  exact hQ _ _ _ hh fun n => .cmp k hk e1 e2 o1 o2
theorem tree_parts (R : Fn) {n pu : Nat} (hR : ∀ {h : D}, IsH h → ∀ pu : Nat, pu ≤ 6 → wF R [h, nmD ns, .int n, .int pu] fun d o => ∃ h', Cd ns n d ∧ IsH h' ∧ o = [some h', some (nmD ns), some (.int n), some (.int pu)]) (hp : 2 ≤ pu) (hp6 : pu ≤ 6) {h : D} (hh : IsH h) {z4 z5 : Option D} (Q : Fl → Pv.Env → Prop)
    (hQ : ∀ h' d z6 z7, IsH h' → Cd ns (n + 1) d → Q (.rt d) [some h', some (nmD ns), some (.int (n + 1 : Nat)), some (.int pu), z4, z5, z6, z7, none]) :
    wS (k_law_tree_3 R) [some h, some (nmD ns), some (.int (n + 1 : Nat)), some (.int pu), z4, z5, none, none, none] Q := by
  unfold k_law_tree_3
  have m1 := mulOk_l (i := 3) (j := (pu : Int)) (by decide)
  simp [m1, -Int.natCast_add]
  have e1 : (3 : Int) * (pu : Int) - 3 = ((3 * pu - 3 : Nat) : Int) := by omega
  rw [e1]
  simp [takeA_sl, hh.off, -Int.natCast_add]
  refine (take hh (3 * pu - 3) (by omega)).mono ?_
  rintro _ _ ⟨h1, k, rfl, hk, hh, rfl⟩
  have dv : divOk 3 = true := by decide
  obtain ⟨m, em, hm1, hm2⟩ : ∃ m : Nat, (2 : Int) + (k : Int) / 3 = m ∧ 2 ≤ m ∧ m ≤ 10 := ⟨2 + k / 3, by omega, by omega, by omega⟩
  have r1 : (m : Int) < 4611686018427387904 := by omega
  have r2 : -4611686018427387904 ≤ (m : Int) := by omega
  simp [putA_sl, fx_law_take, dv, em, r1, r2, okOwn_cons, wipeE_cons, restE_cons, -Int.natCast_add]
  obtain ⟨acc, ρ', el, ⟨h2, eρ, hh2, hacc⟩, hl⟩ := lcL_ind (g := gmName 8) (mt := M.ret true) (vs := [8]) (me := mCall fx_law_tree R (mConsS 0 (mConsS 1 (mCons (mBin fSub (mRd (mpVar 2)) (M.ret (.int 1))) (mCons (mBin fDiv (mRd (mpVar 3)) (mRd (mpVar 6))) mNil)))))
    (fun acc ρ => ∃ h', ρ = [some h', some (nmD ns), some (.int (n + 1 : Nat)), some (.int pu), z4, z5, some (.int m), none, none] ∧ IsH h' ∧ ∀ x ∈ acc, Cd ns n x) (rangeL 0 m) [] _ ⟨h1, rfl, hh, by simp⟩ (by simp [rangeL]; omega) (by
      rintro x hx acc ρ ⟨h', rfl, hh, ha⟩
      refine ⟨_, rfl, ?_⟩
      have dvm : divOk (m : Int) = true := by
        have := Nat.log2_le_self m
        unfold divOk; simp; omega
      have e2 : ((n + 1 : Nat) : Int) - 1 = (n : Int) := by omega
      have e3 : (pu : Int) / (m : Int) = ((pu / m : Nat) : Int) := by simp
      simp [e2, dvm, takeA_sl, hh.off, -Int.natCast_add]
      rw [e3]
      refine (hR hh (pu / m) (by have := Nat.div_le_self pu m; omega)).mono ?_
      rintro _ _ ⟨h3, c, hh3, rfl⟩
      simp [putA_sl, fx_law_tree, wipeE_cons, -Int.natCast_add]
      refine ⟨hh3, fun y hy => ?_⟩
      rcases hy with hy | rfl
      · exact ha y hy
      · exact c)
  subst eρ
  rw [el, exO_some]
  have e4 : frzL acc = acc := frzL_id fun x hx => (hacc x hx).fr.2
  have e5 : fTuple (D.nd true .lst acc) = some (.nd false .tup acc) := by
    unfold fTuple
    dsimp only
    have al : allF acc = true := by
      unfold allF
      rw [List.all_eq_true]
      exact fun x hx => (hacc x hx).fr.1
    rw [if_pos ⟨.inl rfl, al⟩]
  simp [takeA_sl, hh2.off, -Int.natCast_add]
  refine (take hh2 2 (by decide)).mono ?_
  rintro _ _ ⟨h4, k4, rfl, hk4, hh4, rfl⟩
  obtain ⟨b, hb⟩ : ∃ b : Bool, ((ixN 2 (k4 : Int)).bind fun x => [D.str (Str.ofString "and"), D.str (Str.ofString "or")][x]?) = some (.str (Str.ofString (if b then "and" else "or"))) := by
    rcases k4 with _ | _ | k
    · exact ⟨true, rfl⟩
    · exact ⟨false, rfl⟩
    · omega
  simp [putA_sl, fx_law_take, -Int.natCast_add]
  rw [hb, exO_some]
  have rl : rdR (D.nd true .lst acc) = .pl [] (.nd true .lst acc) := rfl
  simp [e5, e4, -Int.natCast_add]
  exact hQ _ _ _ _ hh4 (.ao b hacc)
theorem tree_step (R : Fn) {n pu : Nat} (hN : Nms ns) (hR : ∀ {h : D}, IsH h → ∀ pu : Nat, pu ≤ 6 → ∀ n', n = n' + 1 → wF R [h, nmD ns, .int n', .int pu] fun d o => ∃ h', Cd ns n' d ∧ IsH h' ∧ o = [some h', some (nmD ns), some (.int n'), some (.int pu)]) (hpu : pu ≤ 6) {h : D} (hh : IsH h) :
    wF (runF 9 (m_law_tree R) 4) [h, nmD ns, .int n, .int pu] fun d o => ∃ h', Cd ns n d ∧ IsH h' ∧ o = [some h', some (nmD ns), some (.int n), some (.int pu)] := by
  refine wF_run ?_
  simp [m_law_tree, takeA_sl, hh.off]
  refine (take hh 6 (by decide)).mono ?_
  rintro _ _ ⟨h1, k, rfl, hk, hh, rfl⟩
  have fin : ∀ h' d z5, IsH h' → (∀ n, Cd ns n d) → ∀ K : Pv.Env → Prop, sqK K (fun f ρ => rtP 4 (fun d o => ∃ h', Cd ns n d ∧ IsH h' ∧ o = [some h', some (nmD ns), some (.int n), some (.int pu)]) f ρ) (.rt d) [some h', some (nmD ns), some (.int n), some (.int pu), some (.int k), z5, none, none, none] := fun h' d z5 hh' c K => by
    simp
    exact ⟨c n, hh'⟩
  simp [putA_sl, fx_law_take]
  refine ⟨fun _ => tree_cmp _ hh hN _ fun h' d z5 a b => fin h' d z5 a b _, fun n0 => ⟨fun _ => tree_cmp _ hh hN _ fun h' d z5 a b => fin h' d z5 a b _, fun k0 => ⟨fun k2 => ⟨fun _ => tree_cmp _ hh hN _ fun h' d z5 a b => fin h' d z5 a b _, fun p2 => ⟨fun k3 => by omega, fun k3 => ?_⟩⟩, fun k2 => ⟨fun k3 => ?_, fun k3 => by omega⟩⟩⟩⟩
  · obtain ⟨n, rfl⟩ : ∃ n', n = n' + 1 := ⟨n - 1, by omega⟩
    refine tree_parts R (fun hh pu hp => hR hh pu hp n rfl) (by omega) hpu hh _ fun h' d z6 z7 a c => ?_
    simp [-Int.natCast_add]
    exact ⟨c, a⟩
  · obtain ⟨n, rfl⟩ : ∃ n', n = n' + 1 := ⟨n - 1, by omega⟩
    have e2 : ((n + 1 : Nat) : Int) - 1 = (n : Int) := by omega
    rw [e2]
    simp [takeA_sl, hh.off, -Int.natCast_add]
    refine (hR hh pu hpu n rfl).mono ?_
    rintro _ _ ⟨h3, c, hh3, rfl⟩
    simp [putA_sl, fx_law_tree, -Int.natCast_add]
    rw [c.fr.2]
    exact ⟨.nt c, hh3⟩
theorem spec_tree (hN : Nms ns) (n : Nat) : ∀ (j : Nat) (_ : n < j) {h : D} (_ : IsH h) (pu : Nat) (_ : pu ≤ 6), wF (fn_law_tree j) [h, nmD ns, .int n, .int pu] fun d o => ∃ h', Cd ns n d ∧ IsH h' ∧ o = [some h', some (nmD ns), some (.int n), some (.int pu)] := by
  induction n with
  | zero =>
    intro j hj h hh pu hp
    obtain ⟨j, rfl⟩ : ∃ i, j = i + 1 := ⟨j - 1, by omega⟩
    exact tree_step (fn_law_tree j) hN (fun _ _ _ n' e => by omega) hp hh
  | succ n ih =>
    intro j hj h hh pu hp
    obtain ⟨j, rfl⟩ : ∃ i, j = i + 1 := ⟨j - 1, by omega⟩
    exact tree_step (fn_law_tree j) hN (fun hh' pu' hp' n' e => by
      obtain rfl : n = n' := by omega
      exact ih j (by omega) hh' pu' hp') hp hh
end K05

/-! K05i -/
set_option Elab.async false
set_option linter.all false
set_option maxRecDepth 100000
set_option maxHeartbeats 1000000
namespace K05
open PySem L2 Pv Kt TL
open S (zts app_zts nat_emod frz_ndm tuple_map)
variable {ns : List Str} {V V' : Vars}
theorem spec_is_value (r : Option Int) : wF fn_law_is_value [optD r, optD r] fun d o => d = .bl true := by
  refine wF_run ?_
  cases r <;> simp [m_law_is_value, optD, fIsi, tyN]
theorem spec_is_truth (r : Option Bool) : wF fn_law_is_truth [optB r, optB r] fun d o => d = .bl true := by
  refine wF_run ?_
  cases r <;> simp [m_law_is_truth, optB, fIsi, tyN]
/-! dicts that are written -/
/-- the outer one our own, the values as i says -/
def varsX (o i : Bool) (ns : List Str) (V : Vars) (n : Nat) : D := .nd o (.dK (keys (ns.take n))) ((List.range n).map (val i V))
theorem varsX_eq {o : Bool} {n : Nat} : varsX o o ns V n = varsD o ns V n := rfl
@[simp] theorem rd_varsX {i : Bool} {n : Nat} : rdR (varsX true i ns V n) = .pl [] (varsX true i ns V n) := rfl
@[simp] theorem frz_varsX {o i : Bool} {n : Nat} : frz (varsX o i ns V n) = varsD false ns V n := by
  unfold varsX varsD
  show D.nd false _ (frzL _) = _
  rw [frzL_map]
  congr 1
  exact List.map_congr_left fun k _ => frz_val
@[simp] theorem off_varsX {i n : Nat} {b : Bool} {ρ : Pv.Env} : offA i (varsX true b ns V n) ρ = ρ.set i none := rfl
theorem range_cg {i : Bool} {n : Nat} (h : ∀ k, k < n → val i V k = val i V' k) : (List.range n).map (val i V) = (List.range n).map (val i V') := List.map_congr_left fun k hk => h k (by simpa using hk)
theorem varsX_cg {o i : Bool} {n : Nat} (h : ∀ k, k < n → val i V k = val i V' k) : varsX o i ns V n = varsX o i ns V' n := by unfold varsX; rw [range_cg h]
/-- a key not yet there, any value -/
theorem put_any {R : Nat} {P : Pv.Env → Prop} {i : Bool} {n : Nat} {s : Str} {x : D} {ρ : Pv.Env} (h : Nms ns) (hn : n < 6) (e : ns[n]? = some s) : dpK R P x (.str s) (.pl [] (varsX true i ns V n)) ρ ↔ exO ρ[R]? fun o => exO o fun dr => P (ρ.set R (some (putD [] (.nd true (.dK (keys (ns.take (n + 1)))) ((List.range n).map (val i V) ++ [x])) dr))) := by
  have e1 : dPut (.dK (keys (ns.take n))) ((List.range n).map (val i V)) (.str s) x = some (.dK (keys (ns.take (n + 1))), (List.range n).map (val i V) ++ [x]) := by
    show (match kix (keys (ns.take n)) (.inr s) with
      | some j => some (Kd.dK (keys (ns.take n)), ((List.range n).map (val i V)).set j x)
      | none => if (keys (ns.take n)).length < 16777216 then some (Kd.dK (keys (ns.take n) ++ [(Sum.inr s : Key)]), (List.range n).map (val i V) ++ [x]) else none) = _
    rw [kix_nmN h e]
    dsimp only
    rw [if_pos (by simp [keys]; omega)]
    rw [List.take_add_one, e]
    simp [keys]
  unfold varsX
  rw [dpK_pl, frz_str, e1, exO_some]
  have l : ((List.range n).map (val i V)).length < 16777216 := by simp; omega
  exact ⟨fun q => q.2, fun q => ⟨l, q⟩⟩
theorem put_newX {R : Nat} {P : Pv.Env → Prop} {i : Bool} {n : Nat} {s : Str} {x : D} {ρ : Pv.Env} (h : Nms ns) (hn : n < 6) (e : ns[n]? = some s) (hx : x = val i V n) : dpK R P x (.str s) (.pl [] (varsX true i ns V n)) ρ ↔ exO ρ[R]? fun o => exO o fun dr => P (ρ.set R (some (putD [] (varsX true i ns V (n + 1)) dr))) := by
  rw [put_any h hn e]
  have : varsX true i ns V (n + 1) = .nd true (.dK (keys (ns.take (n + 1)))) ((List.range n).map (val i V) ++ [x]) := by
    unfold varsX
    rw [List.range_succ, List.map_append, hx]; rfl
  rw [this]
theorem dput_old {n k : Nat} {s : Str} {x : D} {xs : List D} (h : Nms ns) (hk : k < n) (e : ns[k]? = some s) : dPut (.dK (keys (ns.take n))) xs (.str s) x = some (.dK (keys (ns.take n)), xs.set k x) := by
  show (match kix (keys (ns.take n)) (.inr s) with
    | some j => some (Kd.dK (keys (ns.take n)), xs.set j x)
    | none => _) = _
  rw [kix_nm h hk e]
/-- a key that is there -/
theorem put_old {R : Nat} {P : Pv.Env → Prop} {n k : Nat} {s : Str} {x : D} {xs : List D} {ρ : Pv.Env} (h : Nms ns) (hk : k < n) (hl : xs.length < 1000) (e : ns[k]? = some s) : dpK R P x (.str s) (.pl [] (.nd true (.dK (keys (ns.take n))) xs)) ρ ↔ exO ρ[R]? fun o => exO o fun dr => P (ρ.set R (some (putD [] (.nd true (.dK (keys (ns.take n))) (xs.set k x)) dr))) := by
  have e1 : dPut (.dK (keys (ns.take n))) xs (.str s) x = some (.dK (keys (ns.take n)), xs.set k x) := by
    show (match kix (keys (ns.take n)) (.inr s) with
      | some j => some (Kd.dK (keys (ns.take n)), xs.set j x)
      | none => _) = _
    rw [kix_nm h hk e]
  rw [dpK_pl, frz_str, e1, exO_some]
  exact ⟨fun q => q.2, fun q => ⟨by omega, q⟩⟩
theorem fList_zts {l : List Int} : fList (zts false l) = some (zts true l) := by
  unfold zts fList
  dsimp only
  have al : allF (l.map D.int) = true := by
    unfold allF
    rw [List.all_eq_true]
    intro x hx
    obtain ⟨i, _, rfl⟩ := List.mem_map.mp hx
    rfl
  rw [if_pos ⟨rfl, al⟩]
theorem ix_nmF (h : Nms ns) {k : Nat} (hk : k < 6) : ixR (.vl (txts false ns)) (.int k) = some (.vl (.str (nmAt ns k))) := ix_txtsF (nm_at h hk)
theorem val_fr {k : Nat} : rdR (val false V k) = .vl (val false V k) := by unfold val; split <;> rfl
theorem set_last {xs : List D} {x y : D} {n : Nat} (h : xs.length = n) : (xs ++ [x]).set n y = xs ++ [y] := by
  subst h
  rw [List.set_append_right _ _ (Nat.le_refl _)]
  simp
theorem spec_copied (h : Nms ns) : wF fn_law_copied [varsD false ns V 6, txts false ns] fun d o => d = varsD true ns V 6 := by
  refine wF_run ?_
  have e0 : D.nd true (.dK []) [] = varsX true true ns V 0 := rfl
  simp [m_law_copied, e0]
  refine forL_range (n := 6) (fun j ρ => ∃ z3, ρ = [some (varsD false ns V 6), some (txts false ns), some (varsX true true ns V j), z3]) ⟨none, rfl⟩ ?_ ?_
  · rintro j hj ρ ⟨z3, rfl⟩
    refine ⟨_, rfl, ?_⟩
    have ix := ix_nmF h hj
    have nj := nm_at h hj
    have dg := dg_varsF (V := V) h hj nj
    have pa := fun {R : Nat} {P : Pv.Env → Prop} {x : D} {ρ : Pv.Env} => put_any (V := V) (R := R) (P := P) (i := true) (x := x) (ρ := ρ) h hj nj
    simp [l_law_copied_0, ix, dg, pa]
    by_cases q : j < 4
    · have q' : ¬ (3 : Int) < (j : Int) := by omega
      have q2 : ¬ 3 < j := by omega
      simp [q', q2]
      unfold varsX
      rw [List.range_succ, List.map_append]
      simp [val_lo q]
    · have q' : (3 : Int) < (j : Int) := by omega
      have q2 : 3 < j := by omega
      have po := fun {x : D} {xs : List D} => dput_old (x := x) (xs := xs) h (show j < j + 1 by omega) nj
      have q3 : ¬ (j : Int) ≤ 3 := by omega
      have sl := fun {x y : D} => set_last (xs := (List.range j).map (val true V)) (x := x) (y := y) (n := j) (by simp)
      simp [q', q2, ix, dg, val_hi (show 4 ≤ j by omega), fList_zts, po, q3, sl]
      refine ⟨by omega, ?_⟩
      unfold varsX
      rw [List.range_succ, List.map_append]
      simp [val_hi (show 4 ≤ j by omega)]
  · rintro ρ ⟨z3, rfl⟩
    simp
    rfl
end K05

/-! K05j -/
set_option Elab.async false
set_option linter.all false
set_option maxRecDepth 100000
set_option maxHeartbeats 1000000
namespace K05
open PySem L2 Pv Kt TL
open S (zts app_zts nat_emod frz_ndm tuple_map)
variable {ns : List Str} {V V' : Vars}
def QL : Fl → Pv.Env → Prop := fun f ρ => rtP 1 (fun d _ => d = .bl true) f ρ
def exs (b : Bool) (ns : List Str) (es : List EX) : D := .nd b .lst (es.map (encE ns))
@[simp] theorem frz_exs {b : Bool} {es : List EX} : frz (exs b ns es) = exs false ns es := by unfold exs; exact frz_ndm fun _ => frz_encE
@[simp] theorem rd_exs {es : List EX} : rdR (exs true ns es) = .pl [] (exs true ns es) := rfl
@[simp] theorem rd_exsF {es : List EX} : rdR (exs false ns es) = .vl (exs false ns es) := rfl
@[simp] theorem seq_exs {es : List EX} : seqOf (exs false ns es) = some (es.map (encE ns)) := rfl
@[simp] theorem okB_optB {r : Option Bool} : okB (optB r) = true := by cases r <;> rfl
@[simp] theorem frz_optB {r : Option Bool} : frz (optB r) = optB r := by cases r <;> rfl
@[simp] theorem frz_optD' {r : Option Int} : frz (optD r) = optD r := by cases r <;> rfl
theorem okBL_map {α : Type} {f : α → D} : ∀ {l : List α}, (∀ x ∈ l, okB (f x) = true) → okBL (l.map f) = true
  | [], _ => rfl
  | x :: l, h => by rw [List.map_cons, okBL, h x (by simp), okBL_map fun y hy => h y (by simp [hy])]; rfl
theorem okB_zts {l : List Int} : okB (zts true l) = true := by
  rw [zts, okB, if_pos rfl]
  exact okBL_map fun _ _ => rfl
theorem okB_vars : okB (varsD true ns V 6) = true := by
  rw [varsD, okB, if_pos rfl]
  refine okBL_map fun k _ => ?_
  unfold val
  split
  · rfl
  · exact okB_zts
/-- the loop over the expressions -/
theorem exps_6 (hN : Nms ns) {s h z4 z7 z8 z10 z11 : Option D} {b : Bool} (es : List EX) (he : ∀ e ∈ es, okE e) (Q : Fl → Pv.Env → Prop)
    (hQ : ∀ z9, Q .nx [s, h, some (nmD ns), some (varsD true ns V 6), z4, some (varsD true ns V 6), some (exs false ns es), z7, z8, z9, z10, z11]) (z9 : Option D) :
    wS (forL (gmName 9) l_law_6 (es.map (encE ns))) [s, h, some (nmD ns), some (varsD true ns V 6), z4, some (varsD true ns V 6), some (exs false ns es), z7, z8, z9, z10, z11] Q := by
  refine forL_map (F := encE ns) (fun j ρ => ∃ z9, ρ = [s, h, some (nmD ns), some (varsD true ns V 6), z4, some (varsD true ns V 6), some (exs false ns es), z7, z8, z9, z10, z11]) es ⟨z9, rfl⟩ ?_ ?_
  · rintro j e hx ρ ⟨z9, rfl⟩
    have ho := he e (List.mem_of_getElem? hx)
    refine ⟨_, rfl, ?_⟩
    simp [l_law_6, takeA_sl]
    refine (spec_value hN e ho).mono ?_
    rintro _ _ ⟨rfl, rfl⟩
    simp [putA_sl, fx_value_of, takeA_sl]
    refine (spec_lvalue hN e ho).mono ?_
    rintro _ _ ⟨rfl, rfl⟩
    simp [putA_sl, fx_law_value]
    refine (spec_is_value _).mono ?_
    rintro _ _ rfl
    simp
  · rintro ρ ⟨z9, rfl⟩
    exact hQ _
theorem law_15 (hN : Nms ns) {s h z4 z8 z9 z10 z11 : Option D} {es : List EX} (he : ∀ e ∈ es, okE e) {b : Bool} {c : D} (hc : Cd ns 5 c) :
    wS k_law_15 [s, h, some (nmD ns), some (varsD true ns V 6), z4, some (varsD true ns V 6), some (exs false ns es), some c, z8, z9, z10, z11] QL := by
  unfold k_law_15
  simp
  refine exps_6 hN (b := true) es he _ (fun z9 => ?_) z9
  obtain ⟨r, b1, b2⟩ := truth_ok (V := V) hN hc
  obtain ⟨fc, zc⟩ := hc.fr
  have offc : ∀ {i : Nat} {ρ : Pv.Env}, offA i c ρ = ρ := off_f fc
  simp [zc, takeA_sl, offc]
  refine b1.mono ?_
  rintro _ _ ⟨rfl, rfl⟩
  simp [putA_sl, fx_truth_of, takeA_sl, offc]
  refine b2.mono ?_
  rintro _ _ ⟨rfl, rfl⟩
  simp [putA_sl, fx_law_truth, offc]
  refine (spec_is_truth _).mono ?_
  rintro _ _ rfl
  simp [QL]
theorem law_14 (hN : Nms ns) {s h z4 z5 z8 z9 z10 z11 : Option D} {es : List EX} (he : ∀ e ∈ es, okE e) {c : D} (hc : Cd ns 5 c) :
    wS k_law_14 [s, h, some (nmD ns), some (varsD true ns V 6), z4, z5, some (exs false ns es), some c, z8, z9, z10, z11] QL := by
  unfold k_law_14
  simp [takeA_sl]
  refine (spec_copied hN).mono ?_
  rintro _ _ rfl
  simp [okB_vars]
  exact law_15 hN he (b := true) hc
theorem law_12 (hN : Nms ns) (hl : 0 < (V.l 4).length) {s h z4 z5 z8 z9 z10 z11 : Option D} {es : List EX} (he : ∀ e ∈ es, okE e) {c : D} (hc : Cd ns 5 c) :
    wS k_law_12 [s, h, some (nmD ns), some (varsD true ns V 6), z4, z5, some (exs false ns es), some c, z8, z9, z10, z11] QL := by
  have i0 := ix_nm hN (show 0 < 6 by omega)
  have i4 := ix_nm hN (show 4 < 6 by omega)
  simp only [Int.natCast_zero] at i0
  have i4 : ixR (.pl [] (txts true ns)) (.int 4) = some (.vl (.str (nmAt ns 4))) := i4
  have d0 := dg_vars (V := V) hN (show 0 < 6 by omega) (nm_at hN (show 0 < 6 by omega))
  have q0 : kidR (some []) 0 (val true V 0) = .vl (.int (V.a 0)) := by rw [val_lo (by omega)]; rfl
  rw [q0] at d0
  let V1 : Vars := ⟨fun k => if k = 0 then V.a 0 + 1 else V.a k, V.l⟩
  let V2 : Vars := ⟨V1.a, fun k => if k = 4 then (V.l 4).set 0 ((V.l 4).getD 0 0 - 1) else V.l k⟩
  have po := fun {x : D} {xs : List D} => dput_old (x := x) (xs := xs) hN (show 0 < 6 by omega) (nm_at hN (show 0 < 6 by omega))
  have e1 : ((List.range 6).map (val true V)).set 0 (.int (V.a 0 + 1)) = (List.range 6).map (val true V1) := by
    rw [set_range]
    refine List.map_congr_left fun k _ => ?_
    by_cases q : k = 0
    · subst q; rw [if_pos rfl, val_lo (by omega)]; rfl
    · rw [if_neg q]
      by_cases q4 : k < 4
      · rw [val_lo q4, val_lo q4]; simp [V1, q]
      · rw [val_hi (by omega), val_hi (by omega)]
  have d4 := dg_vars (V := V1) hN (show 4 < 6 by omega) (nm_at hN (show 4 < 6 by omega))
  have q4 : kidR (some []) 4 (val true V1 4) = .pl [4] (zts true (V.l 4)) := by rw [val_hi (by omega)]; rfl
  rw [q4] at d4
  have pd : ∀ {P : Pv.Env → Prop} {ρ : Pv.Env}, dpK 3 P (.int (V.a 0 + 1)) (.str (nmAt ns 0)) (.pl [] (varsD true ns V 6)) ρ ↔ exO ρ[3]? fun o => exO o fun dr => P (ρ.set 3 (some (putD [] (varsD true ns V1 6) dr))) := fun {P ρ} => by
    have := put_old (R := 3) (P := P) (n := 6) (k := 0) (x := .int (V.a 0 + 1)) (xs := (List.range 6).map (val true V)) (ρ := ρ) hN (by omega) (by simp) (nm_at hN (show 0 < 6 by omega))
    rw [e1] at this
    exact this
  have iz : ixR (.pl [4] (zts true (V.l 4))) (.int 0) = some (.vl (.int ((V.l 4).getD 0 0))) := by
    have hx : (V.l 4)[0]? = some ((V.l 4).getD 0 0) := by rw [List.getD_eq_getElem?_getD, List.getElem?_eq_getElem hl]; rfl
    unfold zts
    rw [ixR_pl]
    have : ixN (V.l 4).length 0 = some 0 := ixN_nat (k := 0) hl
    simp [this, hl]
  have sz : ∀ {P : Pv.Env → Prop} {ρ : Pv.Env} {x : Int}, ρ[3]? = some (some (varsD true ns V1 6)) → x = (V.l 4).getD 0 0 - 1 → (setK 3 P (.int x) (.int 0) (.pl [4] (zts true (V.l 4))) ρ ↔ P (ρ.set 3 (some (varsD true ns V2 6)))) := fun {P ρ x} e ex => by
    have e2 : putD [4] (zts true ((V.l 4).set 0 x)) (varsD true ns V1 6) = varsD true ns V2 6 := by
      unfold varsD
      rw [putD_cons, putD_nil, set_range]
      congr 1
      refine List.map_congr_left fun k _ => ?_
      by_cases q : k = 4
      · subst q; rw [if_pos rfl, val_hi (by omega), ex]; rfl
      · rw [if_neg q]
        by_cases q4 : k < 4
        · rw [val_lo q4, val_lo q4]
        · rw [val_hi (by omega), val_hi (by omega)]; simp [V2, q, V1]
    have e3 : zts true ((V.l 4).set 0 x) = .nd true .lst (((V.l 4).map D.int).set 0 (.int x)) := by simp [zts, List.map_set]
    rw [e3] at e2
    have ix : ixN (V.l 4).length 0 = some 0 := ixN_nat (k := 0) hl
    unfold zts
    rw [setK_pl, e]
    simp only [List.length_map, ix, exO_some]
    rw [e2]
  unfold k_law_12
  simp [i0, d0, pd, i4, d4, iz, sz]
  exact law_14 hN he hc
/-- all sevens -/
def V7 : Vars := ⟨fun _ => 7, fun _ => [7]⟩
theorem law_11 (hN : Nms ns) (hl : 0 < (V.l 4).length) {s h z4 z5 z8 z9 z11 : Option D} {es : List EX} (he : ∀ e ∈ es, okE e) {c : D} (hc : Cd ns 5 c) :
    wS k_law_11 [s, h, some (nmD ns), some (varsD true ns V 6), z4, z5, some (exs false ns es), some c, z8, z9, some (varsX true false ns V7 6), z11] QL := by
  obtain ⟨r, b1, b2⟩ := truth_ok (V := V7) hN hc
  obtain ⟨fc, zc⟩ := hc.fr
  have offc : ∀ {i : Nat} {ρ : Pv.Env}, offA i c ρ = ρ := off_f fc
  unfold k_law_11
  simp [zc, takeA_sl, offc]
  refine b1.mono ?_
  rintro _ _ ⟨rfl, rfl⟩
  simp [putA_sl, fx_truth_of, takeA_sl, offc]
  refine b2.mono ?_
  rintro _ _ ⟨rfl, rfl⟩
  simp [putA_sl, fx_law_truth, offc]
  refine (spec_is_truth _).mono ?_
  rintro _ _ rfl
  simp
  exact law_12 hN hl he hc
theorem law_9 (hN : Nms ns) (hl : 0 < (V.l 4).length) {s h z4 z5 z8 z9 z10 z11 : Option D} {es : List EX} (he : ∀ e ∈ es, okE e) {c : D} (hc : Cd ns 5 c) :
    wS k_law_9 [s, h, some (nmD ns), some (varsD true ns V 6), z4, z5, some (exs false ns es), some c, z8, z9, z10, z11] QL := by
  unfold k_law_9
  have e0 : D.nd true (.dK []) [] = varsX true false ns V7 0 := rfl
  simp [e0]
  refine forL_range (n := 6) (fun j ρ => ∃ z4, ρ = [s, h, some (nmD ns), some (varsD true ns V 6), z4, z5, some (exs false ns es), some c, z8, z9, some (varsX true false ns V7 j), z11]) ⟨z4, rfl⟩ ?_ ?_
  · rintro j hj ρ ⟨z4, rfl⟩
    refine ⟨_, rfl, ?_⟩
    have ix := ix_nm hN hj
    have nj := nm_at hN hj
    have pn := fun {R : Nat} {P : Pv.Env → Prop} {ρ : Pv.Env} => put_newX (V := V7) (R := R) (P := P) (i := false) (x := val false V7 j) (ρ := ρ) hN hj nj rfl
    have x20 : ixN 2 0 = some 0 := by decide
    have x21 : ixN 2 1 = some 1 := by decide
    by_cases q : j < 4
    · have q' : ¬ (3 : Int) < (j : Int) := by omega
      have q2 : ¬ 3 < j := by omega
      rw [val_lo q] at pn
      have pn' : ∀ {R : Nat} {P : Pv.Env → Prop} {ρ : Pv.Env}, dpK R P (.int 7) (.str (nmAt ns j)) (.pl [] (varsX true false ns V7 j)) ρ ↔ exO ρ[R]? fun o => exO o fun dr => P (ρ.set R (some (putD [] (varsX true false ns V7 (j + 1)) dr))) := fun {R P ρ} => pn
      simp [l_law_5, ix, q', q2, x20, x21, pn']
    · have q' : (3 : Int) < (j : Int) := by omega
      have q2 : 3 < j := by omega
      rw [val_hi (by omega)] at pn
      have pn' : ∀ {R : Nat} {P : Pv.Env → Prop} {ρ : Pv.Env}, dpK R P (.nd false .lst [.int 7]) (.str (nmAt ns j)) (.pl [] (varsX true false ns V7 j)) ρ ↔ exO ρ[R]? fun o => exO o fun dr => P (ρ.set R (some (putD [] (varsX true false ns V7 (j + 1)) dr))) := fun {R P ρ} => pn
      simp [l_law_5, ix, q', q2, x20, x21, pn']
  · rintro ρ ⟨z4, rfl⟩
    simp
    exact law_11 hN hl he hc
end K05

/-! K05k -/
set_option Elab.async false
set_option linter.all false
set_option maxRecDepth 100000
set_option maxHeartbeats 1000000
namespace K05
open PySem L2 Pv Kt TL
open S (zts app_zts nat_emod frz_ndm tuple_map)
variable {ns : List Str} {V V' : Vars}
/-! the same, deep -/
theorem py_list {α : Type} {f : α → D} {g : α → PyData} {l : List α} (h : ∀ x ∈ l, toPy (f x) = some (g x)) : toPy (.nd false .lst (l.map f)) = some (.list (l.map g)) := by
  show (toPyL (l.map f)).map PyData.list = _
  rw [toPyL_map h]; rfl
theorem flat_shaped {α : Type} {g : α → PyData} {l : List α} (h : ∀ x ∈ l, (g x).canLay0 = true ∧ (g x).depth = 0) : SeqAt.shaped (.list (l.map g)) = true := by
  unfold SeqAt.shaped
  rw [Bool.and_eq_true]
  constructor
  · rw [PyData.canLay0, canL_map]; exact fun x hx => (h x hx).1
  · rw [decide_eq_true_iff, PyData.depth]
    have := depL_map (g := g) (m := 0) (l := l) fun x hx => by rw [(h x hx).2]; exact Nat.le_refl _
    omega
theorem ne_zts {l : List Int} : fNeD (zts false l) (zts false l) = some (.bl false) := by
  refine neD_refl (x := .list (l.map .int)) (py_list fun x _ => rfl) (flat_shaped fun x _ => ⟨by simp [PyData.canLay0], by simp [PyData.depth]⟩)
theorem ne_txts (hN : Nms ns) : fNeD (txts false ns) (txts false ns) = some (.bl false) := by
  refine neD_refl (x := .list (ns.map .str)) (py_list fun x _ => rfl) (flat_shaped fun x hx => ⟨by rw [PyData.canLay0]; exact hN.so x hx, by simp [PyData.depth]⟩)
theorem ne_val {k : Nat} : fNeD (val false V k) (val false V k) = some (.bl false) := by
  unfold val
  split
  · exact neD_refl (x := .int _) rfl (by simp [SeqAt.shaped, PyData.canLay0, PyData.depth])
  · exact ne_zts
theorem keys_txts (hN : Nms ns) : (keys (ns.take 6)).map kD = ns.map D.str := by
  have : ns.take 6 = ns := List.take_of_length_le (by rw [hN.len]; exact Nat.le_refl _)
  rw [this]
  unfold keys
  rw [List.map_map]; rfl
theorem exps_2 (hN : Nms ns) {s h z4 z7 z8 z10 z11 : Option D} (es : List EX) (he : ∀ e ∈ es, okE e) (Q : Fl → Pv.Env → Prop)
    (hQ : ∀ z9, Q .nx [s, h, some (nmD ns), some (varsD true ns V 6), z4, some (varsD true ns V 6), some (exs false ns es), z7, z8, z9, z10, z11]) (z9 : Option D) :
    wS (forL (gmName 9) l_law_2 (es.map (encE ns))) [s, h, some (nmD ns), some (varsD true ns V 6), z4, some (varsD true ns V 6), some (exs false ns es), z7, z8, z9, z10, z11] Q := exps_6 hN (b := true) es he Q hQ z9
theorem law_8 (hN : Nms ns) (hl : 0 < (V.l 4).length) {s h z4 z8 z9 z10 z11 : Option D} {es : List EX} {b : Bool} (he : ∀ e ∈ es, okE e) {c : D} (hc : Cd ns 5 c) :
    wS k_law_8 [s, h, some (nmD ns), some (varsD true ns V 6), z4, some (varsD true ns V 6), some (exs true ns es), some c, z8, z9, z10, z11] QL := by
  obtain ⟨r, b1, b2⟩ := truth_ok (V := V) hN hc
  obtain ⟨fc, zc⟩ := hc.fr
  have offc : ∀ {i : Nat} {ρ : Pv.Env}, offA i c ρ = ρ := off_f fc
  unfold k_law_8
  simp
  refine forL_range (n := 2) (fun j ρ => ∃ z4 z8 z9 b, ρ = [s, h, some (nmD ns), some (varsD true ns V 6), z4, some (varsD true ns V 6), some (exs b ns es), some c, z8, z9, z10, z11] ∧ (0 < j → b = false)) ⟨z4, z8, z9, true, rfl, fun h => absurd h (by omega)⟩ ?_ ?_
  · rintro j hj ρ ⟨z4, z8, z9, b, rfl, _⟩
    refine ⟨_, rfl, ?_⟩
    have body : ∀ z8, wS l_law_4 [s, h, some (nmD ns), some (varsD true ns V 6), z4, some (varsD true ns V 6), some (exs b ns es), some c, z8, z9, z10, z11] fun f ρ2 => nextS (fun ρ => ∃ z4 z8 z9 b, ρ = [s, h, some (nmD ns), some (varsD true ns V 6), z4, some (varsD true ns V 6), some (exs b ns es), some c, z8, z9, z10, z11] ∧ (0 < j + 1 → b = false)) (fun f ρ1 => sqK (fun ρ1 => wS k_law_9 ρ1 QL) QL f ρ1) f ρ2 := by
      intro z8
      unfold l_law_4
      have rest : ∀ z9, wS (mSeq (mIf (mNotT (mBr (fun _ => true) (mTest (mCall fx_law_is_truth fn_law_is_truth (mCons (mCall fx_truth_of (fn_truth_of 6) (mConsS 7 (mConsS 3 mNil))) (mCons (mCall fx_law_truth (fn_law_truth 6) (mConsS 7 (mConsS 5 mNil))) mNil)))))) (mRet (M.ret (.bl false))) mNx)
    (mSeq (mIf (mOrT (mTest (mBin fNe (mPk fLenD (mpVar 3)) (M.ret (.int 6)))) (mBr (fun _ => true) (mTest (mBin fNeD (mPk fListD (mpVar 3)) (mRdF 2 (mpVar 2)))))) (mRet (M.ret (.bl false))) mNx)
    (mFor (mArgs1 fRng1 (mCons (M.ret (.int 6)) mNil)) (gmName 4) l_law_3))) [s, h, some (nmD ns), some (varsD true ns V 6), z4, some (varsD true ns V 6), some (exs false ns es), some c, z8, z9, z10, z11] fun f ρ2 => nextS (fun ρ => ∃ z4 z8 z9 b, ρ = [s, h, some (nmD ns), some (varsD true ns V 6), z4, some (varsD true ns V 6), some (exs b ns es), some c, z8, z9, z10, z11] ∧ (0 < j + 1 → b = false)) (fun f ρ1 => sqK (fun ρ1 => wS k_law_9 ρ1 QL) QL f ρ1) f ρ2 := by
        intro z9
        have lD : ∀ o, fLenD (varsD o ns V 6) = some (.int 6) := fun o => by
          unfold varsD; rw [fLenD_nd]; simp
        have kD' : fListD (varsD false ns V 6) = some (txts true ns) := by
          unfold varsD; rw [fListD_nd, keys_txts hN]; rfl
        simp [zc, takeA_sl, offc]
        refine b1.mono ?_
        rintro _ _ ⟨rfl, rfl⟩
        simp [putA_sl, fx_truth_of, takeA_sl, offc]
        refine b2.mono ?_
        rintro _ _ ⟨rfl, rfl⟩
        simp [putA_sl, fx_law_truth, offc]
        refine (spec_is_truth _).mono ?_
        rintro _ _ rfl
        simp [lD, kD', ne_txts hN]
        refine forL_range (n := 6) (fun i ρ => ∃ z4, ρ = [s, h, some (nmD ns), some (varsD true ns V 6), z4, some (varsD true ns V 6), some (exs false ns es), some c, z8, z9, z10, z11]) ⟨z4, rfl⟩ ?_ ?_
        · rintro i hi ρ ⟨z4, rfl⟩
          refine ⟨_, rfl, ?_⟩
          have ix := ix_nmF hN hi
          have dg := dg_varsF (V := V) hN hi (nm_at hN hi)
          simp [l_law_3, ix, dg, ne_val]
        · rintro ρ ⟨z4, rfl⟩
          simp
      cases b with
      | true =>
        rw [wS_seq, wS_for]
        simp
        refine exps_2 hN es he _ (fun z9 => ?_) z9
        rw [sqK_nx]
        exact rest _
      | false =>
        rw [wS_seq, wS_for]
        simp
        refine exps_2 hN es he _ (fun z9 => ?_) z9
        rw [sqK_nx]
        exact rest _
    exact body _
  · rintro ρ ⟨z4, z8, z9, b, rfl, hb⟩
    have hb := hb (by omega)
    subst hb
    rw [sqK_nx]
    exact law_9 hN hl he hc
theorem law_7 (hN : Nms ns) (hl : 0 < (V.l 4).length) {s z4 z7 z8 z9 z10 z11 : Option D} {h : D} (hh : IsH h) {es : List EX} (he : ∀ e ∈ es, okE e) :
    wS k_law_7 [s, some h, some (nmD ns), some (varsD true ns V 6), z4, some (varsD true ns V 6), some (exs true ns es), z7, z8, z9, z10, z11] QL := by
  unfold k_law_7
  simp [takeA_sl, hh.off]
  refine (take hh 5 (by decide)).mono ?_
  rintro _ _ ⟨h1, k, rfl, hk, hh, rfl⟩
  simp [putA_sl, fx_law_take, takeA_sl, hh.off]
  refine (spec_tree hN k 6 (by omega) hh 6 (by omega)).mono ?_
  rintro c _ ⟨h2, hc, hh, rfl⟩
  simp [putA_sl, fx_law_tree]
  exact law_8 hN hl (b := true) he (hc.mono (by omega))
theorem law_6 (hN : Nms ns) (hl : 0 < (V.l 4).length) {s z4 z6 z7 z8 z9 z10 : Option D} {h : D} (hh : IsH h) :
    wS k_law_6 [s, some h, some (nmD ns), some (varsD true ns V 6), z4, some (varsD true ns V 6), z6, z7, z8, z9, z10, none] QL := by
  unfold k_law_6
  simp [okOwn_cons, wipeE_cons, restE_cons]
  obtain ⟨acc, ρ', el, ⟨h2, es, eρ, ea, hh2, hes⟩, _⟩ := lcL_ind (g := gmName 11) (mt := M.ret true) (vs := [11]) (me := mCall fx_law_expression fn_law_expression (mConsS 1 (mConsS 2 mNil)))
    (fun acc ρ => ∃ h' es, ρ = [s, some h', some (nmD ns), some (varsD true ns V 6), z4, some (varsD true ns V 6), z6, z7, z8, z9, z10, none] ∧ acc = es.map (encE ns) ∧ IsH h' ∧ ∀ e ∈ es, okE e) (rangeL 0 3) [] _ ⟨h, [], rfl, rfl, hh, by simp⟩ (by simp [rangeL]) (by
      rintro x hx acc ρ ⟨h', es, rfl, rfl, hh, ha⟩
      refine ⟨_, rfl, ?_⟩
      simp [takeA_sl, hh.off]
      refine (spec_expr hh hN).mono ?_
      rintro _ _ ⟨h3, e, rfl, he, hh3, rfl⟩
      simp [putA_sl, fx_law_expression, wipeE_cons]
      refine ⟨es ++ [e], by simp, hh3, fun y hy => ?_⟩
      rcases List.mem_append.mp hy with q | q
      · exact ha y q
      · simp at q; subst q; exact he)
  subst eρ
  rw [el, exO_some, ea]
  simp
  exact law_7 hN hl hh2 hes
theorem law_5 (hN : Nms ns) (hl : 0 < (V.l 4).length) {s z4 : Option D} {h : D} (hh : IsH h) :
    wS k_law_5 [s, some h, some (nmD ns), some (varsD true ns V 6), z4, none, none, none, none, none, none, none] QL := by
  unfold k_law_5
  simp [takeA_sl, hh.off]
  refine (spec_copied hN).mono ?_
  rintro _ _ rfl
  simp [okB_vars]
  exact law_6 hN hl hh
/-! the top -/
def setA (V : Vars) (j : Nat) (c : Int) : Vars := ⟨fun k => if k = j then c else V.a k, V.l⟩
def setL (V : Vars) (j : Nat) (l : List Int) : Vars := ⟨V.a, fun k => if k = j then l else V.l k⟩
theorem setA_cg {j : Nat} {c : Int} : varsX true true ns (setA V j c) j = varsX true true ns V j := varsX_cg fun k hk => by
  by_cases q : k < 4
  · rw [val_lo q, val_lo q]
    show D.int (if k = j then c else V.a k) = _
    rw [if_neg (by omega)]
  · rw [val_hi (by omega), val_hi (by omega)]; rfl
theorem setL_cg {j : Nat} {l : List Int} : varsX true true ns (setL V j l) j = varsX true true ns V j := varsX_cg fun k hk => by
  by_cases q : k < 4
  · rw [val_lo q, val_lo q]; rfl
  · rw [val_hi (by omega), val_hi (by omega)]
    show zts true (if k = j then l else V.l k) = _
    rw [if_neg (by omega)]
theorem law_holds : LawD fn_law := by
  intro xs hxs
  suffices h : wF fn_law [.nd false .ro (xs.map .int)] fun d _ => d = .bl true by
    obtain ⟨d, o, e, rfl⟩ := h
    exact ⟨o, e⟩
  refine wF_run ?_
  simp [m_law, takeA_sl]
  refine (spec_draws xs hxs 160 (by omega)).mono ?_
  rintro _ _ ⟨ds, rfl, rfl⟩
  have hh : IsH (D.nd true .lst [zts true ds, .int 0]) := ⟨true, ds, 0, rfl, by omega, .inl rfl⟩
  simp [putA_sl, fx_law_draws]
  generalize D.nd true .lst [zts true ds, .int 0] = h at hh
  simp [takeA_sl, hh.off]
  refine (spec_names hh).mono ?_
  rintro _ _ ⟨h1, ns, rfl, hN, hh, rfl⟩
  have e0 : D.nd true (.dK []) [] = varsX true true ns V7 0 := rfl
  simp [putA_sl, fx_law_names_of, e0]
  refine forL_range (n := 4) (fun j ρ => ∃ h' V z4, ρ = [some (.nd false .ro (xs.map .int)), some h', some (nmD ns), some (varsX true true ns V j), z4, none, none, none, none, none, none, none] ∧ IsH h') ⟨h1, V7, none, rfl, hh⟩ ?_ ?_
  · rintro j hj ρ ⟨h', V, z4, rfl, hh⟩
    refine ⟨_, rfl, ?_⟩
    have ix := ix_nm hN (show j < 6 by omega)
    have nj := nm_at hN (show j < 6 by omega)
    simp [l_law_0, takeA_sl, hh.off]
    refine (spec_some hh).mono ?_
    rintro _ _ ⟨h2, c, rfl, hh, rfl⟩
    have pn : ∀ {R : Nat} {P : Pv.Env → Prop} {ρ : Pv.Env}, dpK R P (.int c) (.str (nmAt ns j)) (.pl [] (varsX true true ns (setA V j c) j)) ρ ↔ exO ρ[R]? fun o => exO o fun dr => P (ρ.set R (some (putD [] (varsX true true ns (setA V j c) (j + 1)) dr))) := fun {R P ρ} => put_newX hN (by omega) nj (by rw [val_lo hj]; simp [setA])
    rw [← setA_cg (j := j) (c := c)]
    simp [putA_sl, fx_law_some, ix, pn]
    exact ⟨_, ⟨rfl, _, rfl⟩, hh⟩
  rintro ρ ⟨h', V, z4, rfl, hh⟩
  simp
  unfold rangeL
  refine forL_map (F := fun i : Nat => D.int (4 + (i : Nat))) (fun j ρ => ∃ h' V z4, ρ = [some (.nd false .ro (xs.map .int)), some h', some (nmD ns), some (varsX true true ns V (4 + j)), z4, none, none, none, none, none, none, none] ∧ IsH h' ∧ (0 < j → 0 < (V.l 4).length)) (List.range 2) ⟨h', V, z4, rfl, hh, fun h => absurd h (by omega)⟩ ?_ ?_
  · rintro j x hx ρ ⟨h', V, z4, rfl, hh, hV⟩
    obtain ⟨hj, e2⟩ := List.getElem?_eq_some_iff.mp hx
    rw [List.getElem_range] at e2
    subst e2
    have hj' : j < 2 := by simpa using hj
    refine ⟨_, rfl, ?_⟩
    have e3 : (4 : Int) + (j : Int) = ((4 + j : Nat) : Int) := by omega
    rw [e3]
    have ix := ix_nm hN (show 4 + j < 6 by omega)
    have nj := nm_at hN (show 4 + j < 6 by omega)
    simp [l_law_1, takeA_sl, hh.off, -Int.natCast_add]
    refine (take hh 6 (by decide)).mono ?_
    rintro _ _ ⟨h2, k, rfl, hk, hh, rfl⟩
    obtain ⟨m, em, hm1, hm2⟩ : ∃ m : Nat, (1 : Int) + (k : Int) = m ∧ 1 ≤ m ∧ m ≤ 6 := ⟨1 + k, by omega, by omega, by omega⟩
    have r1 : (m : Int) < 4611686018427387904 := by omega
    have r2 : -4611686018427387904 ≤ (m : Int) := by omega
    simp [putA_sl, fx_law_take, em, r1, r2, okOwn_cons, wipeE_cons, restE_cons, -Int.natCast_add]
    obtain ⟨acc, ρ', el, ⟨h3, l, eρ, ea, hh3⟩, hl⟩ := lcL_ind (g := gmName 11) (mt := M.ret true) (vs := [11]) (me := mCall fx_law_some fn_law_some (mConsS 1 mNil))
      (fun acc ρ => ∃ h' l, ρ = [some (.nd false .ro (xs.map .int)), some h', some (nmD ns), some (varsX true true ns V (4 + j)), some (.int ((4 + j : Nat) : Int)), none, none, none, none, none, none, none] ∧ acc = l.map D.int ∧ IsH h') (rangeL 0 m) [] _ ⟨h2, [], rfl, rfl, hh⟩ (by simp [rangeL]; omega) (by
        rintro x hx acc ρ ⟨h', l, rfl, rfl, hh⟩
        refine ⟨_, rfl, ?_⟩
        simp [takeA_sl, hh.off, -Int.natCast_add]
        refine (spec_some hh).mono ?_
        rintro _ _ ⟨h3, c, rfl, hh3, rfl⟩
        simp [putA_sl, fx_law_some, wipeE_cons, -Int.natCast_add]
        exact ⟨⟨l ++ [c], by simp⟩, hh3⟩)
    subst eρ
    rw [el, exO_some, ea]
    have hlen : 0 < l.length := by
      rw [ea] at hl
      simp [rangeL] at hl
      omega
    have ez : D.nd true .lst (l.map D.int) = zts true l := rfl
    have pn : ∀ {R : Nat} {P : Pv.Env → Prop} {ρ : Pv.Env}, dpK R P (zts true l) (.str (nmAt ns (4 + j))) (.pl [] (varsX true true ns (setL V (4 + j) l) (4 + j))) ρ ↔ exO ρ[R]? fun o => exO o fun dr => P (ρ.set R (some (putD [] (varsX true true ns (setL V (4 + j) l) (4 + j + 1)) dr))) := fun {R P ρ} => put_newX hN (by omega) nj (by rw [val_hi (by omega)]; simp [setL])
    rw [← setL_cg (j := 4 + j) (l := l)]
    simp [ez, ix, pn, -Int.natCast_add]
    refine ⟨_, setL V (4 + j) l, ⟨rfl, rfl⟩, hh3, ?_⟩
    show 0 < (if 4 = 4 + j then l else V.l 4).length
    split
    · exact hlen
    · exact hV (by omega)
  · rintro ρ ⟨h', V, z4, rfl, hh, hV⟩
    simp
    exact law_5 hN (hV (by simp)) hh
end K05

/-! K05e -/
set_option Elab.async false
set_option linter.all false
set_option maxRecDepth 100000
set_option maxHeartbeats 4000000
namespace K05
open PySem L2 Pv
theorem all_mk {l : PySem.W.OpenLaw} {w : World} {K : PySem.W.Frag} {h : Heap} {mg : Str → Option Value} {fa  f0 f1 f2 f3 f4 f5 f6 f7 f8 f9 f10 f11 f12 f13 f14 f15 f16 f17 f18 : Addr} (X : K.In h) (G : h.Ns mainGlobals mg) (hfa : mg "law" = some (.ref fa))
    {od0 an0 od1 an1 od2 an2 od3 an3 od4 an4 od5 an5 od6 an6 od7 an7 od8 an8 od9 an9 od10 an10 od11 an11 od12 an12 od13 an13 od14 an14 od15 an15 od16 an16 od17 an17 od18 an18 : Option Addr} {sl0 sl1 sl2 sl3 sl4 sl5 sl6 sl7 sl8 sl9 sl10 sl11 sl12 sl13 sl14 sl15 sl16 sl17 sl18 : Array (Option Value)} {oc0 kV0 dc0 pm0 cd0 ct0 oc1 kV1 dc1 pm1 cd1 ct1 oc2 kV2 dc2 pm2 cd2 ct2 oc3 kV3 dc3 pm3 cd3 ct3 oc4 kV4 dc4 pm4 cd4 ct4 oc5 kV5 dc5 pm5 cd5 ct5 oc6 kV6 dc6 pm6 cd6 ct6 oc7 kV7 dc7 pm7 cd7 ct7 oc8 kV8 dc8 pm8 cd8 ct8 oc9 kV9 dc9 pm9 cd9 ct9 oc10 kV10 dc10 pm10 cd10 ct10 oc11 kV11 dc11 pm11 cd11 ct11 oc12 kV12 dc12 pm12 cd12 ct12 oc13 kV13 dc13 pm13 cd13 ct13 oc14 kV14 dc14 pm14 cd14 ct14 oc15 kV15 dc15 pm15 cd15 ct15 oc16 kV16 dc16 pm16 cd16 ct16 oc17 kV17 dc17 pm17 cd17 ct17 oc18 kV18 dc18 pm18 cd18 ct18 : Value}
    (z_abs : PySem.W.nsIn K mainGlobals "abs" = some none)
    (z_bool : PySem.W.nsIn K mainGlobals "bool" = some none)
    (z_int : PySem.W.nsIn K mainGlobals "int" = some none)
    (z_isinstance : PySem.W.nsIn K mainGlobals "isinstance" = some none)
    (z_len : PySem.W.nsIn K mainGlobals "len" = some none)
    (z_list : PySem.W.nsIn K mainGlobals "list" = some none)
    (z_range : PySem.W.nsIn K mainGlobals "range" = some none)
    (z_tuple : PySem.W.nsIn K mainGlobals "tuple" = some none)
    (a0 : PySem.W.nsIn K mainGlobals "_law_draws" = some (some (.ref f0)))
    (l0 : K.lookup f0 = some ⟨oc0, od0, .func (PySem.W.fnOf "_law_draws" "_law_draws" (defArgs s_law_draws) (defBody s_law_draws) (defScope s_law_draws) .none kV0 dc0 pm0 an0 cd0 ct0), sl0⟩)
    (c0 : PySem.W.codeIn K cd0 "_law_draws" = true)
    (k0 : PySem.W.keepIn K (.ref f0) = true)
    (a1 : PySem.W.nsIn K mainGlobals "_law_take" = some (some (.ref f1)))
    (l1 : K.lookup f1 = some ⟨oc1, od1, .func (PySem.W.fnOf "_law_take" "_law_take" (defArgs s_law_take) (defBody s_law_take) (defScope s_law_take) .none kV1 dc1 pm1 an1 cd1 ct1), sl1⟩)
    (c1 : PySem.W.codeIn K cd1 "_law_take" = true)
    (k1 : PySem.W.keepIn K (.ref f1) = true)
    (a2 : PySem.W.nsIn K mainGlobals "_law_names_of" = some (some (.ref f2)))
    (l2 : K.lookup f2 = some ⟨oc2, od2, .func (PySem.W.fnOf "_law_names_of" "_law_names_of" (defArgs s_law_names_of) (defBody s_law_names_of) (defScope s_law_names_of) .none kV2 dc2 pm2 an2 cd2 ct2), sl2⟩)
    (c2 : PySem.W.codeIn K cd2 "_law_names_of" = true)
    (k2 : PySem.W.keepIn K (.ref f2) = true)
    (a3 : PySem.W.nsIn K mainGlobals "_law_wide" = some (some (.ref f3)))
    (l3 : K.lookup f3 = some ⟨oc3, od3, .func (PySem.W.fnOf "_law_wide" "_law_wide" (defArgs s_law_wide) (defBody s_law_wide) (defScope s_law_wide) .none kV3 dc3 pm3 an3 cd3 ct3), sl3⟩)
    (c3 : PySem.W.codeIn K cd3 "_law_wide" = true)
    (k3 : PySem.W.keepIn K (.ref f3) = true)
    (a4 : PySem.W.nsIn K mainGlobals "_law_some" = some (some (.ref f4)))
    (l4 : K.lookup f4 = some ⟨oc4, od4, .func (PySem.W.fnOf "_law_some" "_law_some" (defArgs s_law_some) (defBody s_law_some) (defScope s_law_some) .none kV4 dc4 pm4 an4 cd4 ct4), sl4⟩)
    (c4 : PySem.W.codeIn K cd4 "_law_some" = true)
    (k4 : PySem.W.keepIn K (.ref f4) = true)
    (a5 : PySem.W.nsIn K mainGlobals "_law_copied" = some (some (.ref f5)))
    (l5 : K.lookup f5 = some ⟨oc5, od5, .func (PySem.W.fnOf "_law_copied" "_law_copied" (defArgs s_law_copied) (defBody s_law_copied) (defScope s_law_copied) .none kV5 dc5 pm5 an5 cd5 ct5), sl5⟩)
    (c5 : PySem.W.codeIn K cd5 "_law_copied" = true)
    (k5 : PySem.W.keepIn K (.ref f5) = true)
    (a6 : PySem.W.nsIn K mainGlobals "_law_number" = some (some (.ref f6)))
    (l6 : K.lookup f6 = some ⟨oc6, od6, .func (PySem.W.fnOf "_law_number" "_law_number" (defArgs s_law_number) (defBody s_law_number) (defScope s_law_number) .none kV6 dc6 pm6 an6 cd6 ct6), sl6⟩)
    (c6 : PySem.W.codeIn K cd6 "_law_number" = true)
    (k6 : PySem.W.keepIn K (.ref f6) = true)
    (a7 : PySem.W.nsIn K mainGlobals "_law_plain" = some (some (.ref f7)))
    (l7 : K.lookup f7 = some ⟨oc7, od7, .func (PySem.W.fnOf "_law_plain" "_law_plain" (defArgs s_law_plain) (defBody s_law_plain) (defScope s_law_plain) .none kV7 dc7 pm7 an7 cd7 ct7), sl7⟩)
    (c7 : PySem.W.codeIn K cd7 "_law_plain" = true)
    (k7 : PySem.W.keepIn K (.ref f7) = true)
    (a8 : PySem.W.nsIn K mainGlobals "_law_expression" = some (some (.ref f8)))
    (l8 : K.lookup f8 = some ⟨oc8, od8, .func (PySem.W.fnOf "_law_expression" "_law_expression" (defArgs s_law_expression) (defBody s_law_expression) (defScope s_law_expression) .none kV8 dc8 pm8 an8 cd8 ct8), sl8⟩)
    (c8 : PySem.W.codeIn K cd8 "_law_expression" = true)
    (k8 : PySem.W.keepIn K (.ref f8) = true)
    (a9 : PySem.W.nsIn K mainGlobals "_law_tree" = some (some (.ref f9)))
    (l9 : K.lookup f9 = some ⟨oc9, od9, .func (PySem.W.fnOf "_law_tree" "_law_tree" (defArgs s_law_tree) (defBody s_law_tree) (defScope s_law_tree) .none kV9 dc9 pm9 an9 cd9 ct9), sl9⟩)
    (c9 : PySem.W.codeIn K cd9 "_law_tree" = true)
    (k9 : PySem.W.keepIn K (.ref f9) = true)
    (a10 : PySem.W.nsIn K mainGlobals "_law_is_value" = some (some (.ref f10)))
    (l10 : K.lookup f10 = some ⟨oc10, od10, .func (PySem.W.fnOf "_law_is_value" "_law_is_value" (defArgs s_law_is_value) (defBody s_law_is_value) (defScope s_law_is_value) .none kV10 dc10 pm10 an10 cd10 ct10), sl10⟩)
    (c10 : PySem.W.codeIn K cd10 "_law_is_value" = true)
    (k10 : PySem.W.keepIn K (.ref f10) = true)
    (a11 : PySem.W.nsIn K mainGlobals "value_of" = some (some (.ref f11)))
    (l11 : K.lookup f11 = some ⟨oc11, od11, .func (PySem.W.fnOf "value_of" "value_of" (defArgs s_value_of) (defBody s_value_of) (defScope s_value_of) .none kV11 dc11 pm11 an11 cd11 ct11), sl11⟩)
    (c11 : PySem.W.codeIn K cd11 "value_of" = true)
    (k11 : PySem.W.keepIn K (.ref f11) = true)
    (a12 : PySem.W.nsIn K mainGlobals "_law_value" = some (some (.ref f12)))
    (l12 : K.lookup f12 = some ⟨oc12, od12, .func (PySem.W.fnOf "_law_value" "_law_value" (defArgs s_law_value) (defBody s_law_value) (defScope s_law_value) .none kV12 dc12 pm12 an12 cd12 ct12), sl12⟩)
    (c12 : PySem.W.codeIn K cd12 "_law_value" = true)
    (k12 : PySem.W.keepIn K (.ref f12) = true)
    (a13 : PySem.W.nsIn K mainGlobals "_law_is_truth" = some (some (.ref f13)))
    (l13 : K.lookup f13 = some ⟨oc13, od13, .func (PySem.W.fnOf "_law_is_truth" "_law_is_truth" (defArgs s_law_is_truth) (defBody s_law_is_truth) (defScope s_law_is_truth) .none kV13 dc13 pm13 an13 cd13 ct13), sl13⟩)
    (c13 : PySem.W.codeIn K cd13 "_law_is_truth" = true)
    (k13 : PySem.W.keepIn K (.ref f13) = true)
    (a14 : PySem.W.nsIn K mainGlobals "compares" = some (some (.ref f14)))
    (l14 : K.lookup f14 = some ⟨oc14, od14, .func (PySem.W.fnOf "compares" "compares" (defArgs s_compares) (defBody s_compares) (defScope s_compares) .none kV14 dc14 pm14 an14 cd14 ct14), sl14⟩)
    (c14 : PySem.W.codeIn K cd14 "compares" = true)
    (k14 : PySem.W.keepIn K (.ref f14) = true)
    (a15 : PySem.W.nsIn K mainGlobals "truth_of" = some (some (.ref f15)))
    (l15 : K.lookup f15 = some ⟨oc15, od15, .func (PySem.W.fnOf "truth_of" "truth_of" (defArgs s_truth_of) (defBody s_truth_of) (defScope s_truth_of) .none kV15 dc15 pm15 an15 cd15 ct15), sl15⟩)
    (c15 : PySem.W.codeIn K cd15 "truth_of" = true)
    (k15 : PySem.W.keepIn K (.ref f15) = true)
    (a16 : PySem.W.nsIn K mainGlobals "_law_compared" = some (some (.ref f16)))
    (l16 : K.lookup f16 = some ⟨oc16, od16, .func (PySem.W.fnOf "_law_compared" "_law_compared" (defArgs s_law_compared) (defBody s_law_compared) (defScope s_law_compared) .none kV16 dc16 pm16 an16 cd16 ct16), sl16⟩)
    (c16 : PySem.W.codeIn K cd16 "_law_compared" = true)
    (k16 : PySem.W.keepIn K (.ref f16) = true)
    (a17 : PySem.W.nsIn K mainGlobals "_law_truth" = some (some (.ref f17)))
    (l17 : K.lookup f17 = some ⟨oc17, od17, .func (PySem.W.fnOf "_law_truth" "_law_truth" (defArgs s_law_truth) (defBody s_law_truth) (defScope s_law_truth) .none kV17 dc17 pm17 an17 cd17 ct17), sl17⟩)
    (c17 : PySem.W.codeIn K cd17 "_law_truth" = true)
    (k17 : PySem.W.keepIn K (.ref f17) = true)
    (a18 : PySem.W.nsIn K mainGlobals "law" = some (some (.ref f18)))
    (l18 : K.lookup f18 = some ⟨oc18, od18, .func (PySem.W.fnOf "law" "law" (defArgs s_law) (defBody s_law) (defScope s_law) .none kV18 dc18 pm18 an18 cd18 ct18), sl18⟩)
    (c18 : PySem.W.codeIn K cd18 "law" = true)
    (k18 : PySem.W.keepIn K (.ref f18) = true)
    : ∃ fd : FuncData, (∀ (s : Shared) (u : Value), BindsTo s fd ⟨[u], []⟩ [("script", u)]) ∧ ∃ cl : Nat → Addr, ∀ base : Heap, K.In base → base.Ns mainGlobals mg → FnOk l.prog w K mg base (L2.CX l.prog w) 13 fa fd ["script"] (spP K cl 1 fx_law fn_law) := by
  have e := hfa.symm.trans (PySem.W.mg_of X G a18)
  cases e
  let cl : Nat → Addr := fun _ => 0
  have z : Txt K mg cl  := ⟨PySem.W.mg_none_of X G z_abs, PySem.W.mg_none_of X G z_bool, PySem.W.mg_none_of X G z_int, PySem.W.mg_none_of X G z_isinstance, PySem.W.mg_none_of X G z_len, PySem.W.mg_none_of X G z_list, PySem.W.mg_none_of X G z_range, PySem.W.mg_none_of X G z_tuple⟩
  have F0 := fun_mk (st := s_law_draws) l0 c0 k0
  have b0 := F0.binds (ps := ["script", "many"]) fun _ _ _ _ _ _ us hl => match us, hl with | [_, _], _ => rfl
  have F1 := fun_mk (st := s_law_take) l1 c1 k1
  have b1 := F1.binds (ps := ["hand", "many"]) fun _ _ _ _ _ _ us hl => match us, hl with | [_, _], _ => rfl
  have F2 := fun_mk (st := s_law_names_of) l2 c2 k2
  have b2 := F2.binds (ps := ["hand"]) fun _ _ _ _ _ _ us hl => match us, hl with | [_], _ => rfl
  have F3 := fun_mk (st := s_law_wide) l3 c3 k3
  have b3 := F3.binds (ps := ["hand", "many"]) fun _ _ _ _ _ _ us hl => match us, hl with | [_, _], _ => rfl
  have F4 := fun_mk (st := s_law_some) l4 c4 k4
  have b4 := F4.binds (ps := ["hand"]) fun _ _ _ _ _ _ us hl => match us, hl with | [_], _ => rfl
  have F5 := fun_mk (st := s_law_copied) l5 c5 k5
  have b5 := F5.binds (ps := ["variables", "names"]) fun _ _ _ _ _ _ us hl => match us, hl with | [_, _], _ => rfl
  have F6 := fun_mk (st := s_law_number) l6 c6 k6
  have b6 := F6.binds (ps := ["hand"]) fun _ _ _ _ _ _ us hl => match us, hl with | [_], _ => rfl
  have F7 := fun_mk (st := s_law_plain) l7 c7 k7
  have b7 := F7.binds (ps := ["hand", "names"]) fun _ _ _ _ _ _ us hl => match us, hl with | [_, _], _ => rfl
  have F8 := fun_mk (st := s_law_expression) l8 c8 k8
  have b8 := F8.binds (ps := ["hand", "names"]) fun _ _ _ _ _ _ us hl => match us, hl with | [_, _], _ => rfl
  have F9 := fun_mk (st := s_law_tree) l9 c9 k9
  have b9 := F9.binds (ps := ["hand", "names", "depth", "purse"]) fun _ _ _ _ _ _ us hl => match us, hl with | [_, _, _, _], _ => rfl
  have F10 := fun_mk (st := s_law_is_value) l10 c10 k10
  have b10 := F10.binds (ps := ["found", "expected"]) fun _ _ _ _ _ _ us hl => match us, hl with | [_, _], _ => rfl
  have F11 := fun_mk (st := s_value_of) l11 c11 k11
  have b11 := F11.binds (ps := ["expression", "variables"]) fun _ _ _ _ _ _ us hl => match us, hl with | [_, _], _ => rfl
  have F12 := fun_mk (st := s_law_value) l12 c12 k12
  have b12 := F12.binds (ps := ["expression", "variables"]) fun _ _ _ _ _ _ us hl => match us, hl with | [_, _], _ => rfl
  have F13 := fun_mk (st := s_law_is_truth) l13 c13 k13
  have b13 := F13.binds (ps := ["found", "expected"]) fun _ _ _ _ _ _ us hl => match us, hl with | [_, _], _ => rfl
  have F14 := fun_mk (st := s_compares) l14 c14 k14
  have b14 := F14.binds (ps := ["sign", "left", "right"]) fun _ _ _ _ _ _ us hl => match us, hl with | [_, _, _], _ => rfl
  have F15 := fun_mk (st := s_truth_of) l15 c15 k15
  have b15 := F15.binds (ps := ["condition", "variables"]) fun _ _ _ _ _ _ us hl => match us, hl with | [_, _], _ => rfl
  have F16 := fun_mk (st := s_law_compared) l16 c16 k16
  have b16 := F16.binds (ps := ["sign", "left", "right"]) fun _ _ _ _ _ _ us hl => match us, hl with | [_, _, _], _ => rfl
  have F17 := fun_mk (st := s_law_truth) l17 c17 k17
  have b17 := F17.binds (ps := ["condition", "variables"]) fun _ _ _ _ _ _ us hl => match us, hl with | [_, _], _ => rfl
  have F18 := fun_mk (st := s_law) l18 c18 k18
  refine ⟨PySem.W.fnOf "law" "law" (defArgs s_law) (defBody s_law) (defScope s_law) .none kV18 dc18 pm18 an18 cd18 ct18, fun s v => .of_eq rfl, cl, fun base _ _ => ?_⟩
  have G0 : FnG l.prog w K mg base "_law_draws" 1 ["script", "many"] (spP K cl 2 fx_law_draws fn_law_draws) := ⟨_, _, ok_law_draws F0 z , PySem.W.mg_of X G a0, k0, b0⟩
  have G1 : FnG l.prog w K mg base "_law_take" 1 ["hand", "many"] (spP K cl 2 fx_law_take fn_law_take) := ⟨_, _, ok_law_take F1 z , PySem.W.mg_of X G a1, k1, b1⟩
  have G2 : FnG l.prog w K mg base "_law_names_of" 2 ["hand"] (spP K cl 1 fx_law_names_of fn_law_names_of) := ⟨_, _, ok_law_names_of F2 z G1, PySem.W.mg_of X G a2, k2, b2⟩
  have G3 : FnG l.prog w K mg base "_law_wide" 2 ["hand", "many"] (spP K cl 2 fx_law_wide fn_law_wide) := ⟨_, _, ok_law_wide F3 z G1, PySem.W.mg_of X G a3, k3, b3⟩
  have G4 : FnG l.prog w K mg base "_law_some" 3 ["hand"] (spP K cl 1 fx_law_some fn_law_some) := ⟨_, _, ok_law_some F4 z G1 G3, PySem.W.mg_of X G a4, k4, b4⟩
  have G5 : FnG l.prog w K mg base "_law_copied" 1 ["variables", "names"] (spP K cl 2 fx_law_copied fn_law_copied) := ⟨_, _, ok_law_copied F5 z , PySem.W.mg_of X G a5, k5, b5⟩
  have G6 : FnG l.prog w K mg base "_law_number" 3 ["hand"] (spP K cl 1 fx_law_number fn_law_number) := ⟨_, _, ok_law_number F6 z G1 G3, PySem.W.mg_of X G a6, k6, b6⟩
  have G7 : FnG l.prog w K mg base "_law_plain" 4 ["hand", "names"] (spP K cl 2 fx_law_plain fn_law_plain) := ⟨_, _, ok_law_plain F7 z G1 G6, PySem.W.mg_of X G a7, k7, b7⟩
  have G8 : FnG l.prog w K mg base "_law_expression" 5 ["hand", "names"] (spP K cl 2 fx_law_expression fn_law_expression) := ⟨_, _, ok_law_expression F8 z G1 G7 G6, PySem.W.mg_of X G a8, k8, b8⟩
  have G9 : FnG l.prog w K mg base "_law_tree" 12 ["hand", "names", "depth", "purse"] (spP K cl 4 fx_law_tree (fn_law_tree 6)) := rec_law_tree F9 z G1 G8 (PySem.W.mg_of X G a9) k9 b9 6
  have G10 : FnG l.prog w K mg base "_law_is_value" 1 ["found", "expected"] (spP K cl 2 fx_law_is_value fn_law_is_value) := ⟨_, _, ok_law_is_value F10 z , PySem.W.mg_of X G a10, k10, b10⟩
  have G11 : FnG l.prog w K mg base "value_of" 3 ["expression", "variables"] (spP K cl 2 fx_value_of (fn_value_of 2)) := rec_value_of F11 z  (PySem.W.mg_of X G a11) k11 b11 2
  have G12 : FnG l.prog w K mg base "_law_value" 3 ["expression", "variables"] (spP K cl 2 fx_law_value (fn_law_value 2)) := rec_law_value F12 z  (PySem.W.mg_of X G a12) k12 b12 2
  have G13 : FnG l.prog w K mg base "_law_is_truth" 1 ["found", "expected"] (spP K cl 2 fx_law_is_truth fn_law_is_truth) := ⟨_, _, ok_law_is_truth F13 z , PySem.W.mg_of X G a13, k13, b13⟩
  have G14 : FnG l.prog w K mg base "compares" 1 ["sign", "left", "right"] (spP K cl 3 fx_compares fn_compares) := ⟨_, _, ok_compares F14 z , PySem.W.mg_of X G a14, k14, b14⟩
  have G15 : FnG l.prog w K mg base "truth_of" 10 ["condition", "variables"] (spP K cl 2 fx_truth_of (fn_truth_of 6)) := rec_truth_of F15 z G11 G14 (PySem.W.mg_of X G a15) k15 b15 6
  have G16 : FnG l.prog w K mg base "_law_compared" 1 ["sign", "left", "right"] (spP K cl 3 fx_law_compared fn_law_compared) := ⟨_, _, ok_law_compared F16 z , PySem.W.mg_of X G a16, k16, b16⟩
  have G17 : FnG l.prog w K mg base "_law_truth" 10 ["condition", "variables"] (spP K cl 2 fx_law_truth (fn_law_truth 6)) := rec_law_truth F17 z G12 G16 (PySem.W.mg_of X G a17) k17 b17 6
  exact ok_law F18 z G0 G2 G4 G1 G5 G8 G9 G10 G11 G12 G13 G15 G17
end K05
open PySem PySem.W PyProof.Rows
set_option maxRecDepth 100000 in
set_option maxHeartbeats 0 in
theorem PySem.Challenge.cw_everyinput_k05_values_and_truths_holds : PySem.Challenge.rw_everyinput_k05_values_and_truths.Holds := by
  w_on; o_law; k_head; (case hw => w_witness2)
  k_fill
  refine Pv.walkD (l := PySem.Challenge.rw_everyinput_k05_values_and_truths) (fx := K05.fx_law) (k := 13) K05.law_holds rfl rfl ⟨rfl, by decide, by decide⟩ (fun w h Y => PySem.W.kIn_of Y) ?F
  case F =>
    intro w mg fa h KX G hmg
    refine' K05.all_mk KX G hmg ?z_abs ?z_bool ?z_int ?z_isinstance ?z_len ?z_list ?z_range ?z_tuple ?a0 ?l0 ?c0 ?k0 ?a1 ?l1 ?c1 ?k1 ?a2 ?l2 ?c2 ?k2 ?a3 ?l3 ?c3 ?k3 ?a4 ?l4 ?c4 ?k4 ?a5 ?l5 ?c5 ?k5 ?a6 ?l6 ?c6 ?k6 ?a7 ?l7 ?c7 ?k7 ?a8 ?l8 ?c8 ?k8 ?a9 ?l9 ?c9 ?k9 ?a10 ?l10 ?c10 ?k10 ?a11 ?l11 ?c11 ?k11 ?a12 ?l12 ?c12 ?k12 ?a13 ?l13 ?c13 ?k13 ?a14 ?l14 ?c14 ?k14 ?a15 ?l15 ?c15 ?k15 ?a16 ?l16 ?c16 ?k16 ?a17 ?l17 ?c17 ?k17 ?a18 ?l18 ?c18 ?k18
    (case z_abs => k_is); (case z_bool => k_is); (case z_int => k_is); (case z_isinstance => k_is); (case z_len => k_is); (case z_list => k_is)
    (case z_range => k_is); (case z_tuple => k_is); (case a0 => k_is); (case l0 => k_is); (case c0 => k_is); (case k0 => k_is)
    (case a1 => k_is); (case l1 => k_is); (case c1 => k_is); (case k1 => k_is); (case a2 => k_is); (case l2 => k_is)
    (case c2 => k_is); (case k2 => k_is); (case a3 => k_is); (case l3 => k_is); (case c3 => k_is); (case k3 => k_is)
    (case a4 => k_is); (case l4 => k_is); (case c4 => k_is); (case k4 => k_is); (case a5 => k_is); (case l5 => k_is)
    (case c5 => k_is); (case k5 => k_is); (case a6 => k_is); (case l6 => k_is); (case c6 => k_is); (case k6 => k_is)
    (case a7 => k_is); (case l7 => k_is); (case c7 => k_is); (case k7 => k_is); (case a8 => k_is); (case l8 => k_is)
    (case c8 => k_is); (case k8 => k_is); (case a9 => k_is); (case l9 => k_is); (case c9 => k_is); (case k9 => k_is)
    (case a10 => k_is); (case l10 => k_is); (case c10 => k_is); (case k10 => k_is); (case a11 => k_is); (case l11 => k_is)
    (case c11 => k_is); (case k11 => k_is); (case a12 => k_is); (case l12 => k_is); (case c12 => k_is); (case k12 => k_is)
    (case a13 => k_is); (case l13 => k_is); (case c13 => k_is); (case k13 => k_is); (case a14 => k_is); (case l14 => k_is)
    (case c14 => k_is); (case k14 => k_is); (case a15 => k_is); (case l15 => k_is); (case c15 => k_is); (case k15 => k_is)
    (case a16 => k_is); (case l16 => k_is); (case c16 => k_is); (case k16 => k_is); (case a17 => k_is); (case l17 => k_is)
    (case c17 => k_is); (case k17 => k_is); (case a18 => k_is); (case l18 => k_is); (case c18 => k_is); (case k18 => k_is)
    all_goals exact fa

