import PyProof.Rows.All
import Wide.All
import OpenK.AllK
import Wide.FinOn
import HandS.ForMost
import HandS.ForExc
import HandS.Deep
import HandS.DeepEq
import HandS.Zip
import HandS.Walk
import HandS.TupAny
import HandS.TupLe
import HandS.IsInst
import HandS.Style
import PyProof.Draws
import PyProof.EnumMake
import HandS.Iter
import KE.SortData
import KE.DataMinMax
import HandS.SortKw
import HandS.TupMul
import PyProof.Rows.SeqMore
import HandS.WordsExc
import HandS.Ends
import PySem.Challenge.RW_fullpanes_k35_chords_told
set_option Elab.async false
set_option linter.all false
set_option maxRecDepth 100000
section
/-! VS1: deep values D without a heap, their standing in the abstract heap (Rep, a footprint that counts owned objects), steps. -/
namespace VS
open PySem L2

/-- deep values; the Bool of a list, dict, instance: owned by the one who holds it (else nobody writes it any more) -/
inductive D where
  | non | bl (b : Bool) | int (i : Int) | str (x : Str) | ty (n : String) | gl (n : Nat)
  | tup (ds : List D)
  | lst (o : Bool) (ds : List D)
  | dk (o : Bool) (ks : List Key) (ds : List D)
  | dt (o : Bool) (ks : List (List Key)) (ds : List D)
  | ins (o : Bool) (c : Nat) (ds : List D)
  deriving Inhabited

/-- how often an object is owned -/
abbrev Fp := Addr → Nat
abbrev fp0 : Fp := fun _ => 0
abbrev Zs := Addr → Prop
/-- the written part and the module's objects by number -/
structure KX where
  K : PySem.W.Frag
  ad : Nat → Addr
  fl : Nat → List Str

/-- a thing that nobody writes any more, or one of the written part -/
def FzL (K : PySem.W.Frag) (Z : Zs) (H : Hp) (a : Addr) (vs : List V) : Prop :=
  (Z a ∧ Rd H a (.lst vs)) ∨ (∃ (o : Obj) (its : Array Value) (n : Nat), K.lookup a = some o ∧ o.cls = .type "list" ∧ o.dict = none ∧ o.data = .seq its n ∧ its.size ≤ sizeLine ∧ Vals vs its.toList)
theorem FzL.sq {K : PySem.W.Frag} {Z : Zs} {H : Hp} {a : Addr} {vs : List V} (h : FzL K Z H a vs) : SqL K H a vs := by
  rcases h with ⟨_, h⟩ | h
  · exact .inl h
  · exact .inr h

/-- the one object's own part of a list, dict, instance -/
def At1 (o : Bool) (Z : Zs) (H : Hp) (a : Addr) (u : HO) : Prop := if o = true then H a = some u else Z a ∧ Rd H a u
def one (o : Bool) (a : Addr) : Fp := fun b => if o = true ∧ b = a then 1 else 0

def LAt (K : PySem.W.Frag) (o : Bool) (Z : Zs) (H : Hp) (a : Addr) (vs : List V) : Prop := if o = true then H a = some (.lst vs) else FzL K Z H a vs

mutual
def Rep (k : KX) (Z : Zs) (H : Hp) : D → V → Fp → Prop
  | .non, v, F => v = .non ∧ ∀ a, F a = 0
  | .bl b, v, F => v = .bl b ∧ ∀ a, F a = 0
  | .int i, v, F => v = .int i ∧ ∀ a, F a = 0
  | .str x, v, F => v = .str x ∧ ∀ a, F a = 0
  | .ty n, v, F => v = .ty n ∧ ∀ a, F a = 0
  | .gl n, v, F => v = .ref (k.ad n) ∧ ∀ a, F a = 0
  | .tup ds, v, F => ∃ a vs, v = .ref a ∧ SqT k.K H a vs ∧ Reps k Z H ds vs F
  | .lst o ds, v, F => ∃ a vs G, v = .ref a ∧ LAt k.K o Z H a vs ∧ Reps k Z H ds vs G ∧ (o = false → ∀ b, G b = 0) ∧ ∀ b, F b = G b + one o a b
  | .dk o ks ds, v, F => ∃ a vs G, v = .ref a ∧ At1 o Z H a (.dK (ks.zip vs)) ∧ ks.length = ds.length ∧ Reps k Z H ds vs G ∧ (o = false → ∀ b, G b = 0) ∧ ∀ b, F b = G b + one o a b
  | .dt o ks ds, v, F => ∃ a vs G, v = .ref a ∧ At1 o Z H a (.dT (ks.zip vs)) ∧ ks.length = ds.length ∧ Reps k Z H ds vs G ∧ (o = false → ∀ b, G b = 0) ∧ ∀ b, F b = G b + one o a b
  | .ins o c ds, v, F => ∃ a dx vs G, v = .ref a ∧ At1 o Z H a (.ins (k.ad c) dx ((k.fl c).zip vs)) ∧ ds.length ≤ (k.fl c).length ∧ Reps k Z H ds vs G ∧ (o = false → ∀ b, G b = 0) ∧ ∀ b, F b = G b + one o a b
def Reps (k : KX) (Z : Zs) (H : Hp) : List D → List V → Fp → Prop
  | [], vs, F => vs = [] ∧ ∀ a, F a = 0
  | d :: ds, vs, F => ∃ v r F1 F2, vs = v :: r ∧ Rep k Z H d v F1 ∧ Reps k Z H ds r F2 ∧ ∀ a, F a = F1 a + F2 a
end

section
variable {k : KX} {Z : Zs} {H : Hp} {v : V} {F : Fp} {o : Bool} {ds : List D} {d : D} {vs : List V} {c : Nat}
theorem LAt.own {K : PySem.W.Frag} {a : Addr} (h : LAt K true Z H a vs) : H a = some (.lst vs) := by unfold LAt at h; rw [if_pos rfl] at h; exact h
theorem LAt.fz {K : PySem.W.Frag} {a : Addr} (h : LAt K false Z H a vs) : FzL K Z H a vs := by unfold LAt at h; rw [if_neg Bool.false_ne_true] at h; exact h
theorem LAt.ofOwn {K : PySem.W.Frag} {a : Addr} (h : H a = some (.lst vs)) : LAt K true Z H a vs := by unfold LAt; rw [if_pos rfl]; exact h
theorem LAt.ofFz {K : PySem.W.Frag} {a : Addr} (h : FzL K Z H a vs) : LAt K false Z H a vs := by unfold LAt; rw [if_neg Bool.false_ne_true]; exact h
theorem At1.own {a : Addr} {u : HO} (h : At1 true Z H a u) : H a = some u := by unfold At1 at h; rw [if_pos rfl] at h; exact h
theorem At1.fz {a : Addr} {u : HO} (h : At1 false Z H a u) : Z a ∧ Rd H a u := by unfold At1 at h; rw [if_neg Bool.false_ne_true] at h; exact h
theorem At1.ofOwn {a : Addr} {u : HO} (h : H a = some u) : At1 true Z H a u := by unfold At1; rw [if_pos rfl]; exact h
theorem At1.ofFz {a : Addr} {u : HO} (h : Z a ∧ Rd H a u) : At1 false Z H a u := by unfold At1; rw [if_neg Bool.false_ne_true]; exact h
theorem LAt.sq {K : PySem.W.Frag} {a : Addr} (h : LAt K o Z H a vs) : SqL K H a vs := by
  cases o with
  | true => exact SqL.of h.own
  | false => exact h.fz.sq
theorem rep_lst : Rep k Z H (.lst o ds) v F = ∃ a vs G, v = .ref a ∧ LAt k.K o Z H a vs ∧ Reps k Z H ds vs G ∧ (o = false → ∀ b, G b = 0) ∧ ∀ b, F b = G b + one o a b := by rw [Rep]
theorem rep_tup : Rep k Z H (.tup ds) v F = ∃ a vs, v = .ref a ∧ SqT k.K H a vs ∧ Reps k Z H ds vs F := by rw [Rep]
theorem rep_ins : Rep k Z H (.ins o c ds) v F = ∃ a dx vs G, v = .ref a ∧ At1 o Z H a (.ins (k.ad c) dx ((k.fl c).zip vs)) ∧ ds.length ≤ (k.fl c).length ∧ Reps k Z H ds vs G ∧ (o = false → ∀ b, G b = 0) ∧ ∀ b, F b = G b + one o a b := by rw [Rep]
theorem reps_nil : Reps k Z H [] vs F = (vs = [] ∧ ∀ a, F a = 0) := by rw [Reps]
theorem reps_cons : Reps k Z H (d :: ds) vs F = ∃ v r F1 F2, vs = v :: r ∧ Rep k Z H d v F1 ∧ Reps k Z H ds r F2 ∧ ∀ a, F a = F1 a + F2 a := by rw [Reps]
end
theorem one_le (o : Bool) (a b : Addr) : one o a b ≤ 1 := by unfold one; split <;> omega
theorem one_self (a : Addr) : one true a a = 1 := by simp [one]
theorem one_ne {o : Bool} {a b : Addr} (h : b ≠ a) : one o a b = 0 := by simp [one, h]
theorem one_false (a b : Addr) : one false a b = 0 := by simp [one]

/-- the objects that may be owned -/
def Own1 : HO → Prop
  | .lst _ => True
  | .dK _ => True
  | .dT _ => True
  | .ins _ _ _ => True
  | _ => False

/-- a footprint, well: nothing twice, nothing frozen, all there -/
structure Good (Z : Zs) (H : Hp) (F : Fp) : Prop where
  le : ∀ a, F a ≤ 1
  nz : ∀ a, 1 ≤ F a → ¬ Z a
  ob : ∀ a, 1 ≤ F a → ∃ o, H a = some o ∧ Own1 o
  zh : ∀ a, Z a → ∃ o, H a = some o

/-- all that is tracked and not in F is kept -/
def Keep (F : Fp) (H H' : Hp) : Prop := ∀ b o, H b = some o → F b = 0 → H' b = some o

/-- what some code does to what it holds -/
structure Step (Z : Zs) (H : Hp) (F : Fp) (Z' : Zs) (H' : Hp) (F' : Fp) : Prop where
  z : ∀ a, Z a → Z' a
  zn : ∀ a, Z' a → Z a ∨ 1 ≤ F a ∨ H a = none
  fn : ∀ a, 1 ≤ F' a → 1 ≤ F a ∨ H a = none
  kp : Keep F H H'
  good : Good Z' H' F'

section
variable {k : KX} {Z Z' Z'' : Zs} {H H' H'' : Hp} {F F' F'' G R : Fp}

theorem Good.less (g : Good Z H F) (h : ∀ a, F' a ≤ F a) : Good Z H F' :=
  ⟨fun a => Nat.le_trans (h a) (g.le a), fun a x => g.nz a (Nat.le_trans x (h a)), fun a x => g.ob a (Nat.le_trans x (h a)), g.zh⟩
theorem Good.eq (g : Good Z H F) (h : ∀ a, F' a = F a) : Good Z H F' := g.less fun a => Nat.le_of_eq (h a)
theorem Step.refl (g : Good Z H F) : Step Z H F Z H F := ⟨fun _ h => h, fun _ h => .inl h, fun _ h => .inl h, fun _ _ h _ => h, g⟩
theorem Step.trans (s : Step Z H F Z' H' F') (t : Step Z' H' F' Z'' H'' F'') : Step Z H F Z'' H'' F'' := by
  have e : ∀ a, F a = 0 → H a ≠ none → F' a = 0 := fun a h0 hn => by
    cases q : F' a with
    | zero => rfl
    | succ n =>
      rcases s.fn a (by omega) with x | x
      · omega
      · exact absurd x hn
  have hk : ∀ a, H a ≠ none → H' a = none → 1 ≤ F a := fun a hn h' => by
    cases q : F a with
    | succ n => omega
    | zero =>
      cases r : H a with
      | none => exact absurd r hn
      | some o =>
        have := s.kp a o r q
        rw [h'] at this; cases this
  refine ⟨fun a h => t.z a (s.z a h), fun a h => ?_, fun a h => ?_, fun b o h h0 => ?_, t.good⟩
  · rcases t.zn a h with x | x | x
    · exact s.zn a x
    · rcases s.fn a x with y | y
      · exact .inr (.inl y)
      · exact .inr (.inr y)
    · by_cases hn : H a = none
      · exact .inr (.inr hn)
      · exact .inr (.inl (hk a hn x))
  · rcases t.fn a h with x | x
    · exact s.fn a x
    · by_cases hn : H a = none
      · exact .inr hn
      · exact .inl (hk a hn x)
  · exact t.kp b o (s.kp b o h h0) (e b h0 (by rw [h]; simp))
/-- holding less behind -/
theorem Step.less (s : Step Z H F Z' H' F') (h : ∀ a, F'' a ≤ F' a) : Step Z H F Z' H' F'' :=
  ⟨s.z, s.zn, fun a x => s.fn a (Nat.le_trans x (h a)), s.kp, s.good.less h⟩
theorem Step.eqL (s : Step Z H F Z' H' F') (h : ∀ a, F'' a = F a) : Step Z H F'' Z' H' F' :=
  ⟨s.z, fun a x => by rw [h]; exact s.zn a x, fun a x => by rw [h]; exact s.fn a x, fun b o x y => s.kp b o x (by rw [← h]; exact y), s.good⟩
/-- the frame -/
theorem Step.frame (s : Step Z H F Z' H' F') (g : Good Z H fun a => F a + R a) : Step Z H (fun a => F a + R a) Z' H' (fun a => F' a + R a) := by
  have r1 : ∀ a, 1 ≤ R a → F a = 0 := fun a h => by have := g.le a; omega
  have r2 : ∀ a, 1 ≤ R a → ∃ o, H a = some o ∧ Own1 o := fun a h => g.ob a (by show 1 ≤ F a + R a; omega)
  have r3 : ∀ a, 1 ≤ R a → F' a = 0 := fun a h => by
    cases q : F' a with
    | zero => rfl
    | succ n =>
      rcases s.fn a (by omega) with x | x
      · have := r1 a h; omega
      · obtain ⟨o, e, _⟩ := r2 a h; rw [e] at x; cases x
  have rl : ∀ a, R a ≤ 1 := fun a => by have := g.le a; omega
  refine ⟨s.z, fun a h => ?_, fun a h => ?_, fun b o h h0 => s.kp b o h (by omega), ⟨fun a => ?_, fun a h z => ?_, fun a h => ?_, s.good.zh⟩⟩
  · rcases s.zn a h with x | x | x
    · exact .inl x
    · exact .inr (.inl (by show 1 ≤ F a + R a; omega))
    · exact .inr (.inr x)
  · by_cases hr : 1 ≤ R a
    · exact .inl (by show 1 ≤ F a + R a; omega)
    · rcases s.fn a (by omega) with x | x
      · exact .inl (by show 1 ≤ F a + R a; omega)
      · exact .inr x
  · by_cases hr : 1 ≤ R a
    · have := r3 a hr; have := rl a; show F' a + R a ≤ 1; omega
    · have := s.good.le a; show F' a + R a ≤ 1; omega
  · by_cases hr : 1 ≤ R a
    · rcases s.zn a z with x | x | x
      · exact g.nz a (by show 1 ≤ F a + R a; omega) x
      · have := r1 a hr; omega
      · obtain ⟨o, e, _⟩ := r2 a hr; rw [e] at x; cases x
    · exact s.good.nz a (by omega) z
  · by_cases hr : 1 ≤ R a
    · obtain ⟨o, e, w⟩ := r2 a hr
      exact ⟨o, s.kp a o e (r1 a hr), w⟩
    · exact s.good.ob a (by omega)

/-- what frames need of a step -/
structure Sth (Z : Zs) (H : Hp) (F : Fp) (Z' : Zs) (H' : Hp) (R : Fp) : Prop where
  z : ∀ a, Z a → Z' a
  kp : Keep F H H'
  good : Good Z H fun a => F a + R a
theorem Step.sth (s : Step Z H F Z' H' F') (g : Good Z H fun a => F a + R a) : Sth Z H F Z' H' R := ⟨s.z, s.kp, g⟩

theorem Sth.tup (s : Sth Z H F Z' H' R) {K : PySem.W.Frag} {a : Addr} {vs : List V} (h : SqT K H a vs) : SqT K H' a vs := by
  have f0 : ∀ o, H a = some o → ¬ Own1 o → F a = 0 := fun o e n => by
    cases q : F a with
    | zero => rfl
    | succ m =>
      obtain ⟨o', e', w⟩ := s.good.ob a (by show 1 ≤ F a + R a; omega)
      rw [e] at e'; cases e'; exact absurd w n
  rcases h with (h | ⟨o, h⟩) | h
  · exact .inl (.inl (s.kp a _ h (f0 _ h (fun x => x))))
  · exact .inl (.inr ⟨o, s.kp a _ h (f0 _ h (fun x => x))⟩)
  · exact .inr h
theorem Sth.fz (s : Sth Z H F Z' H' R) {a : Addr} {u : HO} (hz : Z a) (h : Rd H a u) : Z' a ∧ Rd H' a u := by
  have f0 : F a = 0 := by
    cases q : F a with
    | zero => rfl
    | succ m => exact absurd hz (s.good.nz a (by show 1 ≤ F a + R a; omega))
  refine ⟨s.z a hz, ?_⟩
  rcases h with h | ⟨o, h⟩
  · exact .inl (s.kp a _ h f0)
  · exact .inr ⟨o, s.kp a _ h f0⟩
theorem Sth.fzl (s : Sth Z H F Z' H' R) {K : PySem.W.Frag} {a : Addr} {vs : List V} (h : FzL K Z H a vs) : FzL K Z' H' a vs := by
  rcases h with ⟨z, h⟩ | h
  · exact .inl (s.fz z h)
  · exact .inr h
theorem Sth.own (s : Sth Z H F Z' H' R) {a : Addr} {u : HO} (hr : 1 ≤ R a) (h : H a = some u) : H' a = some u :=
  s.kp a u h (by have := s.good.le a; omega)
theorem Sth.sub (s : Sth Z H F Z' H' R) {R' : Fp} (h : ∀ a, R' a ≤ R a) : Sth Z H F Z' H' R' := ⟨s.z, s.kp, s.good.less fun a => Nat.add_le_add_left (h a) _⟩

mutual
theorem Rep.stay : ∀ (d : D) {v : V} {R : Fp}, Rep k Z H d v R → Sth Z H F Z' H' R → Rep k Z' H' d v R
  | .non, _, _, h, _ => by simpa only [Rep] using h
  | .bl _, _, _, h, _ => by simpa only [Rep] using h
  | .int _, _, _, h, _ => by simpa only [Rep] using h
  | .str _, _, _, h, _ => by simpa only [Rep] using h
  | .ty _, _, _, h, _ => by simpa only [Rep] using h
  | .gl _, _, _, h, _ => by simpa only [Rep] using h
  | .tup ds, v, R, h, s => by
    simp only [Rep] at h ⊢
    obtain ⟨a, vs, e, q, r⟩ := h
    exact ⟨a, vs, e, s.tup q, Reps.stay ds r s⟩
  | .lst o ds, v, R, h, s => by
    simp only [Rep] at h ⊢
    obtain ⟨a, vs, G, e, q, r, g, hF⟩ := h
    refine ⟨a, vs, G, e, ?_, Reps.stay ds r (s.sub fun b => by rw [hF]; omega), g, hF⟩
    cases o with
    | true => exact .ofOwn (s.own (by rw [hF, one_self]; omega) q.own)
    | false => exact .ofFz (s.fzl q.fz)
  | .dk o ks ds, v, R, h, s => by
    simp only [Rep] at h ⊢
    obtain ⟨a, vs, G, e, q, hl, r, g, hF⟩ := h
    refine ⟨a, vs, G, e, ?_, hl, Reps.stay ds r (s.sub fun b => by rw [hF]; omega), g, hF⟩
    unfold At1 at q ⊢
    cases o with
    | true =>
      rw [if_pos rfl] at q ⊢
      exact s.own (by rw [hF, one_self]; omega) q
    | false =>
      rw [if_neg Bool.false_ne_true] at q ⊢
      exact s.fz q.1 q.2
  | .dt o ks ds, v, R, h, s => by
    simp only [Rep] at h ⊢
    obtain ⟨a, vs, G, e, q, hl, r, g, hF⟩ := h
    refine ⟨a, vs, G, e, ?_, hl, Reps.stay ds r (s.sub fun b => by rw [hF]; omega), g, hF⟩
    unfold At1 at q ⊢
    cases o with
    | true =>
      rw [if_pos rfl] at q ⊢
      exact s.own (by rw [hF, one_self]; omega) q
    | false =>
      rw [if_neg Bool.false_ne_true] at q ⊢
      exact s.fz q.1 q.2
  | .ins o c ds, v, R, h, s => by
    simp only [Rep] at h ⊢
    obtain ⟨a, dx, vs, G, e, q, hl, r, g, hF⟩ := h
    refine ⟨a, dx, vs, G, e, ?_, hl, Reps.stay ds r (s.sub fun b => by rw [hF]; omega), g, hF⟩
    unfold At1 at q ⊢
    cases o with
    | true =>
      rw [if_pos rfl] at q ⊢
      exact s.own (by rw [hF, one_self]; omega) q
    | false =>
      rw [if_neg Bool.false_ne_true] at q ⊢
      exact s.fz q.1 q.2
theorem Reps.stay : ∀ (ds : List D) {vs : List V} {R : Fp}, Reps k Z H ds vs R → Sth Z H F Z' H' R → Reps k Z' H' ds vs R
  | [], _, _, h, _ => by simpa only [Reps] using h
  | d :: ds, vs, R, h, s => by
    simp only [Reps] at h ⊢
    obtain ⟨v, r, F1, F2, e, h1, h2, hF⟩ := h
    exact ⟨v, r, F1, F2, e, Rep.stay d h1 (s.sub fun a => by rw [hF]; omega), Reps.stay ds h2 (s.sub fun a => by rw [hF]; omega), hF⟩
end

/-- only the footprint's values count -/
theorem Rep.eqF : ∀ {d : D} {v : V} {F F' : Fp}, Rep k Z H d v F → (∀ a, F' a = F a) → Rep k Z H d v F' := fun {d v F F'} h e => by
  have : F' = F := funext e
  rw [this]; exact h
theorem Reps.eqF : ∀ {ds : List D} {vs : List V} {F F' : Fp}, Reps k Z H ds vs F → (∀ a, F' a = F a) → Reps k Z H ds vs F' := fun {ds vs F F'} h e => by
  have : F' = F := funext e
  rw [this]; exact h
theorem Reps.len : ∀ {ds : List D} {vs : List V} {F : Fp}, Reps k Z H ds vs F → ds.length = vs.length
  | [], _, _, h => by simp only [Reps] at h; rw [h.1]; rfl
  | d :: ds, _, _, h => by
    simp only [Reps] at h
    obtain ⟨v, r, _, _, e, _, h2, _⟩ := h
    rw [e, List.length_cons, List.length_cons, Reps.len h2]

/-! ### nothing owned within; frozen -/
mutual
def noOwn : D → Bool
  | .tup ds => noOwns ds
  | .lst o ds => !o && noOwns ds
  | .dk o _ ds => !o && noOwns ds
  | .dt o _ ds => !o && noOwns ds
  | .ins o _ ds => !o && noOwns ds
  | _ => true
def noOwns : List D → Bool
  | [] => true
  | d :: ds => noOwn d && noOwns ds
end
mutual
def frz : D → D
  | .tup ds => .tup (frzs ds)
  | .lst _ ds => .lst false (frzs ds)
  | .dk _ ks ds => .dk false ks (frzs ds)
  | .dt _ ks ds => .dt false ks (frzs ds)
  | .ins _ c ds => .ins false c (frzs ds)
  | .non => .non
  | .bl b => .bl b
  | .int i => .int i
  | .str x => .str x
  | .ty n => .ty n
  | .gl n => .gl n
def frzs : List D → List D
  | [] => []
  | d :: ds => frz d :: frzs ds
end
mutual
theorem Rep.nown : ∀ {d : D} {v : V} {F : Fp}, Rep k Z H d v F → noOwn d = true → ∀ a, F a = 0
  | .non, _, _, h, _ => by simp only [Rep] at h; exact h.2
  | .bl _, _, _, h, _ => by simp only [Rep] at h; exact h.2
  | .int _, _, _, h, _ => by simp only [Rep] at h; exact h.2
  | .str _, _, _, h, _ => by simp only [Rep] at h; exact h.2
  | .ty _, _, _, h, _ => by simp only [Rep] at h; exact h.2
  | .gl _, _, _, h, _ => by simp only [Rep] at h; exact h.2
  | .tup ds, _, _, h, n => by
    simp only [Rep] at h
    simp only [noOwn] at n
    obtain ⟨_, _, _, _, r⟩ := h
    exact Reps.nown r n
  | .lst o ds, _, _, h, n => by
    simp only [Rep] at h
    simp only [noOwn, Bool.and_eq_true, Bool.not_eq_true'] at n
    obtain ⟨a, _, _, _, _, r, _, hF⟩ := h
    obtain ⟨rfl, n⟩ := n
    intro b; rw [hF, one_false, Reps.nown r n]
  | .dk o _ ds, _, _, h, n => by
    simp only [Rep] at h
    simp only [noOwn, Bool.and_eq_true, Bool.not_eq_true'] at n
    obtain ⟨a, _, _, _, _, _, r, _, hF⟩ := h
    obtain ⟨rfl, n⟩ := n
    intro b; rw [hF, one_false, Reps.nown r n]
  | .dt o _ ds, _, _, h, n => by
    simp only [Rep] at h
    simp only [noOwn, Bool.and_eq_true, Bool.not_eq_true'] at n
    obtain ⟨a, _, _, _, _, _, r, _, hF⟩ := h
    obtain ⟨rfl, n⟩ := n
    intro b; rw [hF, one_false, Reps.nown r n]
  | .ins o _ ds, _, _, h, n => by
    simp only [Rep] at h
    simp only [noOwn, Bool.and_eq_true, Bool.not_eq_true'] at n
    obtain ⟨a, _, _, _, _, _, _, r, _, hF⟩ := h
    obtain ⟨rfl, n⟩ := n
    intro b; rw [hF, one_false, Reps.nown r n]
theorem Reps.nown : ∀ {ds : List D} {vs : List V} {F : Fp}, Reps k Z H ds vs F → noOwns ds = true → ∀ a, F a = 0
  | [], _, _, h, _ => by simp only [Reps] at h; exact h.2
  | d :: ds, _, _, h, n => by
    simp only [Reps] at h
    simp only [noOwns, Bool.and_eq_true] at n
    obtain ⟨_, _, _, _, _, h1, h2, hF⟩ := h
    intro a; rw [hF, Rep.nown h1 n.1, Reps.nown h2 n.2]
end
mutual
theorem Rep.frz : ∀ {d : D} {v : V} {F : Fp}, Rep k Z H d v F → (∀ a, Z a → Z' a) → (∀ a, 1 ≤ F a → Z' a) → Rep k Z' H (frz d) v fp0
  | .non, _, _, h, _, _ => by simp only [Rep, VS.frz] at h ⊢; exact ⟨h.1, fun _ => by first | rfl | trivial⟩
  | .bl _, _, _, h, _, _ => by simp only [Rep, VS.frz] at h ⊢; exact ⟨h.1, fun _ => by first | rfl | trivial⟩
  | .int _, _, _, h, _, _ => by simp only [Rep, VS.frz] at h ⊢; exact ⟨h.1, fun _ => by first | rfl | trivial⟩
  | .str _, _, _, h, _, _ => by simp only [Rep, VS.frz] at h ⊢; exact ⟨h.1, fun _ => by first | rfl | trivial⟩
  | .ty _, _, _, h, _, _ => by simp only [Rep, VS.frz] at h ⊢; exact ⟨h.1, fun _ => by first | rfl | trivial⟩
  | .gl _, _, _, h, _, _ => by simp only [Rep, VS.frz] at h ⊢; exact ⟨h.1, fun _ => by first | rfl | trivial⟩
  | .tup ds, _, _, h, z, f => by
    simp only [Rep, VS.frz] at h ⊢
    obtain ⟨a, vs, e, q, r⟩ := h
    exact ⟨a, vs, e, q, Reps.frz r z f⟩
  | .lst o ds, _, _, h, z, f => by
    simp only [Rep, VS.frz] at h ⊢
    obtain ⟨a, vs, G, e, q, r, g, hF⟩ := h
    refine ⟨a, vs, fp0, e, ?_, Reps.frz r z fun b hb => f b (by rw [hF]; omega), fun _ _ => rfl, fun b => by rw [one_false]⟩
    cases o with
    | true => exact .ofFz (.inl ⟨f a (by rw [hF, one_self]; omega), .inl q.own⟩)
    | false =>
      rcases q.fz with q | q
      · exact .ofFz (.inl ⟨z a q.1, q.2⟩)
      · exact .ofFz (.inr q)
  | .dk o ks ds, _, _, h, z, f => by
    simp only [Rep, VS.frz] at h ⊢
    obtain ⟨a, vs, G, e, q, hl, r, g, hF⟩ := h
    refine ⟨a, vs, fp0, e, ?_, by rw [hl, r.len, (Reps.frz r z fun b hb => f b (by rw [hF]; omega)).len], Reps.frz r z fun b hb => f b (by rw [hF]; omega), fun _ _ => rfl, fun b => by rw [one_false]⟩
    unfold At1 at q ⊢
    rw [if_neg Bool.false_ne_true]
    cases o with
    | true => rw [if_pos rfl] at q; exact ⟨f a (by rw [hF, one_self]; omega), .inl q⟩
    | false =>
      rw [if_neg Bool.false_ne_true] at q
      exact ⟨z a q.1, q.2⟩
  | .dt o ks ds, _, _, h, z, f => by
    simp only [Rep, VS.frz] at h ⊢
    obtain ⟨a, vs, G, e, q, hl, r, g, hF⟩ := h
    refine ⟨a, vs, fp0, e, ?_, by rw [hl, r.len, (Reps.frz r z fun b hb => f b (by rw [hF]; omega)).len], Reps.frz r z fun b hb => f b (by rw [hF]; omega), fun _ _ => rfl, fun b => by rw [one_false]⟩
    unfold At1 at q ⊢
    rw [if_neg Bool.false_ne_true]
    cases o with
    | true => rw [if_pos rfl] at q; exact ⟨f a (by rw [hF, one_self]; omega), .inl q⟩
    | false =>
      rw [if_neg Bool.false_ne_true] at q
      exact ⟨z a q.1, q.2⟩
  | .ins o c ds, _, _, h, z, f => by
    simp only [Rep, VS.frz] at h ⊢
    obtain ⟨a, dx, vs, G, e, q, hl, r, g, hF⟩ := h
    refine ⟨a, dx, vs, fp0, e, ?_, by rw [(Reps.frz r z fun b hb => f b (by rw [hF]; omega)).len, ← r.len]; exact hl, Reps.frz r z fun b hb => f b (by rw [hF]; omega), fun _ _ => rfl, fun b => by rw [one_false]⟩
    unfold At1 at q ⊢
    rw [if_neg Bool.false_ne_true]
    cases o with
    | true => rw [if_pos rfl] at q; exact ⟨f a (by rw [hF, one_self]; omega), .inl q⟩
    | false =>
      rw [if_neg Bool.false_ne_true] at q
      exact ⟨z a q.1, q.2⟩
theorem Reps.frz : ∀ {ds : List D} {vs : List V} {F : Fp}, Reps k Z H ds vs F → (∀ a, Z a → Z' a) → (∀ a, 1 ≤ F a → Z' a) → Reps k Z' H (frzs ds) vs fp0
  | [], _, _, h, _, _ => by simp only [Reps, VS.frzs] at h ⊢; exact ⟨h.1, fun _ => by first | rfl | trivial⟩
  | d :: ds, _, _, h, z, f => by
    simp only [Reps, VS.frzs] at h ⊢
    obtain ⟨v, r, F1, F2, e, h1, h2, hF⟩ := h
    exact ⟨v, r, fp0, fp0, e, Rep.frz h1 z fun b hb => f b (by rw [hF]; omega), Reps.frz h2 z fun b hb => f b (by rw [hF]; omega), fun _ => by first | rfl | trivial⟩
end
end
end VS
end

section
/-! VS1m: min of four. -/
namespace VS
open PySem PySem.Spec PyProof.Rows L2
section
variable {prog : Program} {w : World} {A : Around} {E : Value → Shared → Prop} {s : Shared}
theorem args_min4 (a b c d : Value) : argsOk "min" ⟨[a, b, c, d], []⟩ := by unfold argsOk; kernel_rfl
theorem call_min_four {a b c d : Value} {Q : Value → Shared → Prop}
    (h : wpAny (model prog w) A.in1 (pyIter (.ref s.heap.objs.size)) (fun it s₂ => ∃ I fp wr n P St bt, it = .ref I ∧ Walks prog w A.in1 I fp wr n P St ∧ St 0 s₂.heap ∧ (∀ b ∈ fp, b < s₂.heap.objs.size) ∧ 0 < n ∧ CmpOf prog w A.in1 .Lt P bt ∧
      ∀ v h' tk, P (argBest bt (n - 1)) v → (∀ b o, b ∉ wr → s₂.heap.get? b = some o → h'.get? b = some o) → Q v { s₂ with heap := h', toks := tk }) E
      { s with heap := s.heap.push { cls := .type "tuple", data := .seq #[a, b, c, d] } }) :
    wpAny (model prog w) A (call (.builtin "min") [a, b, c, d]) Q E s := by
  have hname : (toString "min" ++ toString ".loop" : String) = "min.loop" := by decide
  refine call_function_tree F.kind_min F.plain_min F.entry_min (args_min4 _ _ _ _) ?_
  show wpAny _ A.in1 (Builtin.Builtins.bindParams "min" ["key", "default"] 0 ⟨[], []⟩ >>= _) _ _ s
  refine wpAny_bind (wpAny_of_eq (show Builtin.Builtins.bindParams "min" ["key", "default"] 0 ⟨[], []⟩ = pure [none, none] from rfl) ?_)
  show wpAny _ A.in1 (newTuple [a, b, c, d] >>= _) _ _ s
  refine wpAny_bind (wpAny_newObj_type ?_)
  refine wpAny_bind (wpAny_mono h (fun it s₂ h₂ => ?_) fun _ _ e => e)
  obtain ⟨I, fp, wr, n, P, St, bt, rfl, W, hst, hfp, hn, hcmp, hQ⟩ := h₂
  refine wpAny_bind (wpAny_newObj_type ?_)
  have hSf : s₂.heap.objs.size ∉ fp := fun hm => Nat.lt_irrefl _ (hfp _ hm)
  rw [hname]
  refine wpAny_pure ⟨plainId_quiet F.plain_min_loop _, codeAny_min_loop_first W bt hcmp s₂.heap.objs.size hSf hn (W.frame _ _ _ hst fun b _ o e => Heap.get?_push_of_some _ e) (Heap.get?_push_size _ rfl) fun v h' tk hP hk => ?_⟩
  exact hQ v h' tk hP fun b o hbw e => hk b o hbw (Nat.ne_of_lt (Heap.lt_size e)) (Heap.get?_push_of_some _ e)
def mn4 (a b c d : Int) : Int := (fun x => (fun y => if d < y then d else y) (if c < x then c else x)) (if b < a then b else a)
theorem min_four_ints {a b c d : Int} {t u x y : Tok} {Q : Value → Shared → Prop} (hh : A.handled = none)
    (h : ∀ v h' tk, (∃ t, v = .int (mn4 a b c d) t) → (∀ d o, s.heap.get? d = some o → h'.get? d = some o) → Q v { s with heap := h', toks := tk }) :
    wpAny (model prog w) A (call (.builtin "min") [.int a t, .int b u, .int c x, .int d y]) Q E s := by
  have hT : (s.heap.push { cls := .type "tuple", data := .seq #[.int a t, .int b u, .int c x, .int d y] }).IsTuple s.heap.objs.size (intItems #[(a, t), (b, u), (c, x), (d, y)]) := ⟨_, Heap.get?_push_size _ rfl, rfl, 0, by simp [intItems]⟩
  refine call_min_four (wpAny_pyIter_tuple hT ?_)
  have hsz : (s.heap.push { cls := .type "tuple", data := .seq #[.int a t, .int b u, .int c x, .int d y] }).objs.size = s.heap.objs.size + 1 := Heap.size_push ..
  refine ⟨_, [_, s.heap.objs.size], [_], _, _, _, _, rfl, Walks.tuple (A := A.in1) hh _ s.heap.objs.size (by rw [hsz]; exact Nat.ne_of_lt (Nat.lt_succ_self _)) (intItems #[(a, t), (b, u), (c, x), (d, y)]),
    ⟨⟨_, Heap.get?_push_size _ rfl, rfl, rfl⟩, hT.push _⟩, fun d hd => ?_, by simp [intItems], CmpOf.ints_lt (numAt #[(a, t), (b, u), (c, x), (d, y)]) (fun _ _ => intItems_at), fun v h' tk hP hk => ?_⟩
  · show d < ((s.heap.push _).push _).objs.size
    rw [Heap.size_push, hsz]
    rcases List.mem_cons.mp hd with rfl | hd
    · rw [hsz]; exact Nat.lt_succ_self _
    · rcases List.mem_cons.mp hd with rfl | hd
      · exact Nat.lt_succ_of_lt (Nat.lt_succ_self _)
      · cases hd
  · have hold : ∀ d o, s.heap.get? d = some o → h'.get? d = some o := fun d o e => by
      refine hk d o (fun hm => ?_) (Heap.get?_push_of_some _ (Heap.get?_push_of_some _ e))
      rcases List.mem_cons.mp hm with e1 | hm
      · have := Heap.lt_size e; rw [e1, hsz] at this; exact Nat.lt_irrefl _ (Nat.lt_of_succ_lt this)
      · cases hm
    refine h v h' tk ?_ hold
    have hP' : (intItems #[(a, t), (b, u), (c, x), (d, y)])[argBest (fun i j => decide (numAt #[(a, t), (b, u), (c, x), (d, y)] i < numAt #[(a, t), (b, u), (c, x), (d, y)] j)) 3]? = some v := by
      have hsz2 : (intItems #[(a, t), (b, u), (c, x), (d, y)]).size - 1 = 3 := by simp [intItems]
      rw [← hsz2]; exact hP
    by_cases h1 : b < a
    · by_cases h2 : c < b
      · by_cases h3 : d < c
        · simp [argBest, numAt, h1, h2, h3, intItems] at hP'
          exact ⟨y, by simp only [mn4, h1, h2, h3, if_true]; exact hP'.symm⟩
        · simp [argBest, numAt, h1, h2, h3, intItems] at hP'
          exact ⟨x, by simp only [mn4, h1, h2, h3, if_true, if_false]; exact hP'.symm⟩
      · by_cases h3 : d < b
        · simp [argBest, numAt, h1, h2, h3, intItems] at hP'
          exact ⟨y, by simp only [mn4, h1, h2, h3, if_true, if_false]; exact hP'.symm⟩
        · simp [argBest, numAt, h1, h2, h3, intItems] at hP'
          exact ⟨u, by simp only [mn4, h1, h2, h3, if_true, if_false]; exact hP'.symm⟩
    · by_cases h2 : c < a
      · by_cases h3 : d < c
        · simp [argBest, numAt, h1, h2, h3, intItems] at hP'
          exact ⟨y, by simp only [mn4, h1, h2, h3, if_true, if_false]; exact hP'.symm⟩
        · simp [argBest, numAt, h1, h2, h3, intItems] at hP'
          exact ⟨x, by simp only [mn4, h1, h2, h3, if_true, if_false]; exact hP'.symm⟩
      · by_cases h3 : d < a
        · simp [argBest, numAt, h1, h2, h3, intItems] at hP'
          exact ⟨y, by simp only [mn4, h1, h2, h3, if_true, if_false]; exact hP'.symm⟩
        · simp [argBest, numAt, h1, h2, h3, intItems] at hP'
          exact ⟨t, by simp only [mn4, h1, h2, h3, if_true, if_false]; exact hP'.symm⟩
end
section
variable {X : Cx}
theorem vals4 {x y z t : V} {us : List Value} (r : Vals [x, y, z, t] us) : ∃ u1 u2 u3 u4, us = [u1, u2, u3, u4] ∧ RelV x u1 ∧ RelV y u2 ∧ RelV z u3 ∧ RelV t u4 := by
  cases r with
  | cons r1 r2 => cases r2 with
    | cons r3 r4 => cases r4 with
      | cons r5 r6 => cases r6 with
        | cons r7 r8 => cases r8; exact ⟨_, _, _, _, rfl, r1, r3, r5, r7⟩
theorem call_min4 (hc : X.calm = true) : CallR X (.builtin "min") (fun xs H Q => ∃ i j k l, xs = [.int i, .int j, .int k, .int l] ∧ Q (.int (mn4 i j k l)) H) := by
  intro pins s σ H xs us Q I r h
  obtain ⟨i, j, k, l, rfl, q⟩ := h
  obtain ⟨u1, u2, u3, u4, rfl, ⟨t1, rfl⟩, ⟨t2, rfl⟩, ⟨t3, rfl⟩, ⟨t4, rfl⟩⟩ := vals4 r
  exact min_four_ints (I.ok.hd hc) fun v h' tk hv kk => ⟨.int (mn4 i j k l), H, I.kept kk, hv, q⟩
end
end VS
end

section
/-! VS1e: enumerate of a tuple. -/
namespace VS
open PySem PySem.Spec PyProof.Rows L2 RZ
open PySem.AutoSeq1 (wpAny_loadPart')
theorem meets_enumerate_newT (l : Addr) (items : Array Value) (n : Nat) (dct : Option Addr) (sl : Array (Option Value)) :
    Meets (Builtin.«enumerate.__new__» ⟨[.type "enumerate", .ref l], []⟩) (fun _ R s => s.heap.get? l = some { cls := .type "tuple", dict := dct, data := .seq items n, slots := sl } ∧
      R (.ok (.ret (.ref (s.heap.push { cls := .type "tuple_iterator", data := .fields #[.ref l, .int 0 0] }).objs.size)))
        { s with heap := (s.heap.push { cls := .type "tuple_iterator", data := .fields #[.ref l, .int 0 0] }).push { cls := .type "enumerate", data := .fields #[.none, .bool false, .ref s.heap.objs.size, rawInt 0, .none, .none] } }) :=
  .of_wp fun prog w A R s h => by
    obtain ⟨hp, g, d, tk, os⟩ := s; obtain ⟨hl, h⟩ := h
    have hsub := sub_enumerate
    have hL : Heap.IsTuple (Shared.heap ⟨hp, g, d, tk, os⟩) l items := ⟨_, hl, rfl, n, rfl⟩
    wp_walk using wpAny_loadPart' hl
    refine wpAny_stack_any fun st => wpAny_pure ?_
    split
    · rename_i c _ _ _ _ _
      cases (c == Value.type "enumerate")
      · wp_walk using wpAny_loadPart' hl, wpAny_pyIter_tuple hL
        exact ⟨_, rfl, h⟩
      · wp_walk using wpAny_loadPart' hl, wpAny_pyIter_tuple hL
        exact ⟨_, rfl, h⟩
    · wp_walk using wpAny_loadPart' hl, wpAny_pyIter_tuple hL
      exact ⟨_, rfl, h⟩
section
variable {prog : Program} {w : World} {A : Around} {E : Value → Shared → Prop} {s : Shared}
theorem call_enumerate_tuple {l : Addr} {items : Array Value} {Q : Value → Shared → Prop} (hL : s.heap.IsTuple l items)
    (h : ∀ h', IsEnum h' (s.heap.objs.size + 1) s.heap.objs.size 0 .none → h'.IsTupleIter s.heap.objs.size l 0 → h'.objs.size = s.heap.objs.size + 2 →
      (∀ b o, s.heap.get? b = some o → h'.get? b = some o) → Q (.ref (s.heap.objs.size + 1)) { s with heap := h' }) :
    wpAny (model prog w) A (call (.type "enumerate") [.ref l]) Q E s := by
  obtain ⟨⟨c, dct, dt, sl⟩, hl, hc, n, hd⟩ := hL
  replace hc : c = .type "tuple" := hc
  replace hd : dt = .seq items n := hd
  subst hc hd
  refine callType_new F.called_enumerate (by decide) (F.typeCall_enumerate_1 _) (F.newCall_enumerate_1 _) (fun obj => F.args_object_init_2 obj _) F.entry_enumerate_new
    (meets_enumerate_newT l items n dct sl) ⟨hl, ?_⟩
  have hz : (s.heap.push { cls := .type "tuple_iterator", data := .fields #[.ref l, .int 0 0] }).objs.size = s.heap.objs.size + 1 := Heap.size_push ..
  show _ ∧ _
  rw [hz]
  have he : IsEnum ((s.heap.push { cls := .type "tuple_iterator", data := .fields #[.ref l, .int 0 0] }).push
      { cls := .type "enumerate", data := .fields #[.none, .bool false, .ref s.heap.objs.size, rawInt 0, .none, .none] }) (s.heap.objs.size + 1) s.heap.objs.size 0 .none := by
    have := Heap.get?_push_size (s.heap.push { cls := .type "tuple_iterator", data := .fields #[.ref l, .int 0 0] })
      (o := { cls := .type "enumerate", data := .fields #[.none, .bool false, .ref s.heap.objs.size, rawInt 0, .none, .none] }) rfl
    rw [hz] at this; exact this
  refine ⟨⟨_, he, rfl⟩, h _ he ⟨_, Heap.get?_push_of_some _ (Heap.get?_push_size _ rfl), rfl, rfl⟩ (by rw [Heap.size_push, hz]) fun b o x => Heap.get?_push_of_some _ (Heap.get?_push_of_some _ x)⟩
theorem draws_tuple (hh : A.handled = none) (it t : Addr) (hne : t ≠ it) (items : Array Value) :
    Draws prog w A it [it, t] items.size (fun i v => items[i]? = some v) (fun i h => h.IsTupleIter it t i ∧ h.IsTuple t items) where
  live := fun _ _ st => let ⟨o, ho, _⟩ := st.1; ⟨o, ho⟩
  frame := fun _ _ _ st hk => ⟨st.1.at fun o e => hk it (by simp) o e, by obtain ⟨o, ho, q⟩ := st.2; exact ⟨o, hk t (by simp) o ho, q⟩⟩
  item := fun i s Q E hi st hQ => by
    refine nextOf_tuple_item st.1 st.2 (x := items[i]) (by simp [hi]) fun h' hit' hs' => ?_
    exact hQ _ h' s.toks (by simp [hi]) ⟨hit', st.2.extBut hs'.extBut hne⟩ hs'
  done := fun s Q E st hE => nextOf_tuple_end hh st.1 st.2 (by simp) hE
theorem wpAny_pyNext_enumT_end {e it l : Addr} {i : Nat} {items : Array Value} {old : Value} {Q : Option Value → Shared → Prop} (hh : A.handled = none)
    (he : IsEnum s.heap e it i old) (hit : s.heap.IsTupleIter it l i) (hl : s.heap.IsTuple l items) (hx : items[i]? = none)
    (hQ : ∀ h', Heap.ExtBut it s.heap h' → Q none { s with heap := h' }) : wpAny (model prog w) A (pyNext (.ref e)) Q E s := by
  have hT : s.TypeIs (.ref e) "enumerate" := ⟨_, he, rfl⟩
  unfold pyNext
  refine wpAny_bind (wpAny_attempt (wpAny_callSpecial?_slot (name := Str.ofString "__next__") hT F.slot_enumerate_next
    (wpAny_call_entry F.slot_enumerate_next hT F.entry_enumerate_next ?_ (F.args_enumerate_next_1 _))))
  show wpAny _ _ (field (.ref e) 2 >>= _) _ _ _
  refine wpAny_bind (wpAny_field he rfl (x := .ref it) rfl ?_)
  refine wpAny_bind (nextOf_tuple_end hh hit hl hx fun h' x he' hx' => ?_)
  obtain ⟨o, ho, hc⟩ := hx'
  refine wpAny_bind (wpAny_isInstance (T := "StopIteration") (b := true) ⟨o, ho, hc⟩ isSubtype_stop ?_)
  exact wpAny_pure (hQ _ he')
end
/-- the tuple at a as it stands at each turn, each item in a new pair -/
def IteT (K : PySem.W.Frag) (a : Addr) : It :=
  ⟨fun i H => ∃ (xs : List V) (x : V), SqT K H a xs ∧ xs[i]? = some x, fun i H v H' => ∃ T x, v = .ref T ∧ H T = none ∧ H' = upd H T (.tup [.int (i : Nat), x]) ∧ ∀ xs, SqT K H a xs → xs[i]? = some x, fun i H => ∃ xs : List V, SqT K H a xs ∧ xs.length ≤ i⟩
theorem turn_enumT {P : Program} {w : World} {K : PySem.W.Frag} {elts : List Expr} {kk : Nat} {tpos : Pos} (a e it : Addr) (hai : a ≠ it) (hae : e ≠ a) :
    Turn P w K (.Tuple elts kk tpos) (IteT K a) [e, it] e (fun i h => (∃ old, IsEnum h e it ((i : Nat) : Int) old) ∧ h.IsTupleIter it a i ∧ e ≠ it) where
  mem := by simp
  obj := fun i h st b hb => by
    obtain ⟨⟨old, he⟩, ⟨o, ho, hc, hd⟩, _⟩ := st
    have e' : b = e ∨ b = it := by simpa using hb
    rcases e' with z | z
    · rw [z]; exact ⟨_, he, fun v q => nomatch q⟩
    · rw [z]; exact ⟨o, ho, fun v q => by rw [hd] at q; cases q⟩
  keep := fun i h h' st k => let ⟨⟨old, he⟩, hi, hne⟩ := st; ⟨⟨old, k e (by simp) _ he⟩, hi.at fun o q => k it (by simp) o q, hne⟩
  item := by
    intro X hP hw hK hc i pins s σ H E I hf st hg
    subst hP hw hK
    obtain ⟨⟨old, he⟩, hit, hne⟩ := st
    obtain ⟨xs, x, hq, hx⟩ := hg
    obtain ⟨its, rv, p, hz⟩ := I.tuple hq
    obtain ⟨u, hu, ru⟩ := rv.get hx
    have hel : e < s.heap.objs.size := Heap.lt_size he
    have hil : it < s.heap.objs.size := by obtain ⟨_, q, _⟩ := hit; exact Heap.lt_size q
    have hlt : i < its.toArray.size := by
      have := (List.getElem?_eq_some_iff.mp hu).1
      simpa using this
    have D := draws_tuple (prog := X.prog) (w := X.w) (A := X.A.in1) (I.ok.hd hc) it a hai its.toArray
    refine wpAny_pyNext_enum_itemD D he ⟨hit, p⟩ hlt hne (by simp [hne, hae]) fun x' h' tk hP ho hst hT hsz hk => ?_
    obtain ⟨hit', _⟩ := hst
    have ex : x' = u := by
      have hP' : its.toArray[i]? = some x' := hP
      have h2 : its.toArray[i]? = some u := by simpa using hu
      rw [h2] at hP'; exact (Option.some.inj hP').symm
    subst ex
    refine ⟨_, rfl, wpAny_letOwnedTupleGo_enum (s := { s with heap := h', toks := tk + 1 }) ho fun h'' he' sb => ?_⟩
    have hT2 : h''.get? s.heap.objs.size = some { cls := .type "tuple", data := .seq #[.int i tk, x'] } := (sb.2 _ (Nat.ne_of_gt hel)).trans hT
    have new : ObjOk X.prog X.w (upd H s.heap.objs.size (.tup [.int (i : Nat), x])) h'' s.heap.objs.size (.tup [.int (i : Nat), x]) :=
      ⟨by show 2 ≤ sizeLine; decide, [.int i tk, x'], .cons ⟨_, rfl⟩ (.cons ru .nil), ⟨_, hT2, rfl, _, rfl⟩⟩
    have I1 : Inv X pins σ (upd H s.heap.objs.size (.tup [.int (i : Nat), x])) { s with heap := h'', toks := tk + 1 } :=
      I.turnedNew (ch := [e, it]) (fun b ob hb q => (sb.2 b (fun z => hb (by simp [z]))).trans (hk b ob (fun z => hb (by simp [z])) (fun z => hb (by simp [z])) q)) hf (Nat.le_refl _) new
    refine ⟨.ref s.heap.objs.size, _, I1, rfl, ⟨_, x, rfl, I.hok.fresh (Nat.le_refl _), rfl, fun ys hy => by rw [I.tuple_inj hy hq]; exact hx⟩, ⟨⟨x', ?_⟩, hit'.at fun o q => (sb.2 it (Ne.symm hne)).trans q, hne⟩, fun b hb => ?_⟩
    · have e1 : ((i + 1 : Nat) : Int) = (i : Int) + 1 := by omega
      rw [e1]; exact he'
    · have hb' : b < s.heap.objs.size := by
        have e' : b = e ∨ b = it := by simpa using hb
        rcases e' with z | z
        · rw [z]; exact hel
        · rw [z]; exact hil
      rw [upd_ne (Nat.ne_of_lt hb')]
      exact (hf b hb).1
  done := by
    intro X hP hw hK hc i pins s σ H E I hf st hg
    subst hP hw hK
    obtain ⟨⟨old, he⟩, hit, hne⟩ := st
    obtain ⟨xs, hq, hx⟩ := hg
    obtain ⟨its, rv, p, hz⟩ := I.tuple hq
    obtain ⟨f0, f1, f2, f3, f4, f5⟩ := hf it (by simp)
    have hl := rv.length
    refine wpAny_pyNext_enumT_end (I.ok.hd hc) he hit p (by simp; omega) fun h' eb => ⟨rfl, I.turned (t' := s.toks) (fun b o hb q => eb b o hb q) f0 f1 f3 f4 f5⟩
  self := fun A i s Q E st h => let ⟨⟨_, he⟩, _⟩ := st; wpAny_pyIter_enum he h
theorem walk_enumT {K : PySem.W.Frag} {a : Addr} {xs : List V} : Walk (IteT K a) xs.length (fun H => SqT K H a xs) (YPair (fun i => some (.int (i : Nat))) (fun i => xs[i]?)) := by
  refine ⟨fun i _ hi q => ⟨xs, xs[i], q, by simp [hi]⟩, fun _ q => ⟨xs, q, Nat.le_refl _⟩, fun i H v H' _ q y => ?_⟩
  obtain ⟨T, x, h1, h2, h3, h4⟩ := y
  exact ⟨T, .int (i : Nat), x, h1, h2, h3, rfl, h4 xs q⟩
def iEnumA (K : PySem.W.Frag) (ta : TA) : TI := fun σ H R => ta σ H fun vs H1 => ∃ a xs, vs = [.ref a] ∧ ((SqL K H1 a xs ∧ R (Ite K a) H1) ∨ (SqT K H1 a xs ∧ R (IteT K a) H1))
theorem pi_enumA {X : Cx} {e : Expr} {ta : TA} {p pos tpos : Pos} {elts : List Expr} {kk : Nat} (hg : Gl X "enumerate") (hm : X.mg "enumerate" = none) (ha : PA X [e] ta) (hs : starEach [e] X.env = [(false, eval e X.env)] := by rfl) :
    PI X (.Tuple elts kk tpos) (.Call (.Name "enumerate" p) [e] [] pos) (iEnumA X.K ta) := by
  refine ⟨fun pins s σ H R I h => ?_⟩
  refine Call_ (ld_blt I hg hm boot_enumerate (PyProof.Rows.callWith_type1 (thn (ha.run pos pins s σ H _ I h) fun us s1 ⟨vs, H1, I1, r1, q1⟩ => ?_) hs rfl))
  obtain ⟨a, xs, ex, q⟩ := q1
  subst ex
  cases r1 with
  | cons r rr =>
    cases rr
    cases r
    have fr : ∀ b, b ∈ [s1.heap.objs.size + 1, s1.heap.objs.size] → FpOk X pins H1 b := fun b hb => by
      have e' : b = s1.heap.objs.size + 1 ∨ b = s1.heap.objs.size := by simpa using hb
      have hle : s1.heap.objs.size ≤ b := by
        rcases e' with z | z
        · rw [z]; exact Nat.le_add_right _ _
        · rw [z]; exact Nat.le_refl _
      exact I1.fpOk hle (I1.hok.fresh hle)
    rcases q with ⟨hq, q⟩ | ⟨hq, q⟩
    · obtain ⟨its, rv, p', hz⟩ := I1.list hq
      refine call_enumerate_list p'.isList fun h' he hit hsz hk => wpAny_pyIter_enum he ?_
      have I2 : Inv X pins σ H1 { s1 with heap := h' } := I1.kept (t' := s1.toks) hk
      exact ⟨s1.heap.objs.size + 1, [s1.heap.objs.size + 1, s1.heap.objs.size], _, _, H1, rfl, I2, turn_enum a (s1.heap.objs.size + 1) s1.heap.objs.size, ⟨⟨.none, he⟩, hit, Nat.succ_ne_self _⟩, fr, q⟩
    · obtain ⟨its, rv, p', hz⟩ := I1.tuple hq
      obtain ⟨o1, ho1, _⟩ := id p'
      have hlt := Heap.lt_size ho1
      refine call_enumerate_tuple (show s1.heap.IsTuple a its.toArray from p') fun h' he hit hsz hk => wpAny_pyIter_enum he ?_
      have I2 : Inv X pins σ H1 { s1 with heap := h' } := I1.kept (t' := s1.toks) hk
      exact ⟨s1.heap.objs.size + 1, [s1.heap.objs.size + 1, s1.heap.objs.size], _, _, H1, rfl, I2, turn_enumT a (s1.heap.objs.size + 1) s1.heap.objs.size (Nat.ne_of_lt hlt) (Nat.ne_of_gt (Nat.lt_succ_of_lt hlt)), ⟨⟨.none, he⟩, hit, Nat.succ_ne_self _⟩, fr, q⟩
end VS
end

section
/-! VS1s: sorted, min, max of lists of whole numbers or of tuples of whole numbers. -/
namespace VS
open PySem PySem.Spec PyProof.Rows L2 PySem.W
/-- sorting keys: whole numbers or rows of them -/
inductive SK where
  | n (i : Int) | r (x : Int) (xs : List Int)
  deriving DecidableEq
def SK.py : SK → PyData
  | .n i => .int i
  | .r x xs => .tuple (.int x :: xs.map .int)
def SK.le : SK → SK → Bool
  | .n i, .n j => decide (i ≤ j)
  | .r x xs, .r y ys => decide (x :: xs ≤ y :: ys)
  | .n _, .r _ _ => true
  | .r _ _, .n _ => false
/-- all of one kind -/
def SK.kin : SK → SK → Bool
  | .n _, .n _ => true
  | .r _ _, .r _ _ => true
  | _, _ => false
theorem sk_total (a b : SK) : (a.le b || b.le a) = true := by
  cases a <;> cases b
  · rename_i i j
    simp only [SK.le, Bool.or_eq_true, decide_eq_true_eq]
    omega
  · rfl
  · rfl
  · rename_i x xs y ys
    simp only [SK.le, Bool.or_eq_true, decide_eq_true_eq]
    exact List.le_total _ _
theorem sk_trans (a b c : SK) (h1 : a.le b = true) (h2 : b.le c = true) : a.le c = true := by
  cases a <;> cases b <;> cases c <;> simp only [SK.le, decide_eq_true_eq, Bool.false_eq_true] at h1 h2 ⊢
  · omega
  · exact List.le_trans h1 h2
theorem sk_antisymm {a b : SK} (h1 : a.le b = true) (h2 : b.le a = true) : a = b := by
  cases a <;> cases b <;> simp only [SK.le, decide_eq_true_eq, Bool.false_eq_true] at h1 h2
  · congr; omega
  · have := List.le_antisymm h1 h2
    rw [List.cons.injEq] at this
    rw [this.1, this.2]
theorem py_le {a b : SK} (h : a.kin b = true) : dataLe false SK.py a b = a.le b := by
  cases a with
  | n i => cases b with
    | n j =>
      show (!dataLt (.int j) (.int i)) = decide (i ≤ j)
      rw [dataLt_int, not_lt_int]
    | r _ _ => cases h
  | r x xs => cases b with
    | n j => cases h
    | r y ys =>
      show (!dataLt (.tuple ((y :: ys).map .int)) (.tuple ((x :: xs).map .int))) = decide (x :: xs ≤ y :: ys)
      rw [dataLt_tuple]
      show (!rowLt ((y :: ys).map .int) ((x :: xs).map .int)) = _
      rw [dataLt_ints]
      by_cases h : y :: ys < x :: xs
      · have h' : ¬ x :: xs ≤ y :: ys := fun r => List.not_lt.mpr r h
        simp [h, h']
      · have h' : x :: xs ≤ y :: ys := List.not_lt.mp h
        simp [h, h']
theorem py_alike {a b : SK} (h : a.kin b = true) : alike a.py b.py = true := by
  cases a with
  | n i => cases b with
    | n j => simp [SK.py, alike]
    | r _ _ => cases h
  | r x xs => cases b with
    | n j => cases h
    | r y ys => simp [SK.py, alike, alikeAll, alike_ints]
theorem py_depth (a : SK) : a.py.depth ≤ 1 := by
  cases a with
  | n i => simp [SK.py, PyData.depth]
  | r x xs =>
    have : PyData.depthAll (.int x :: xs.map .int) = 0 := depth_ints (x :: xs)
    simp only [SK.py, PyData.depth, this]; omega
theorem py_inj {a b : SK} (h : a.py = b.py) : a = b := by
  cases a with
  | n i => cases b with
    | n j => simp only [SK.py, PyData.int.injEq] at h; rw [h]
    | r _ _ => simp [SK.py] at h
  | r x xs => cases b with
    | n j => simp [SK.py] at h
    | r y ys =>
      simp only [SK.py, PyData.tuple.injEq, List.cons.injEq, PyData.int.injEq] at h
      obtain ⟨h1, h2⟩ := h
      have := List.map_inj_right (f := PyData.int) (fun a b e => by injection e) |>.mp h2
      rw [h1, this]
def KinAll (ks : List SK) : Prop := ∀ a ∈ ks, ∀ b ∈ ks, a.kin b = true
theorem KinAll.alike {ks : List SK} (h : KinAll ks) : AllAlike (ks.map SK.py) := fun d hd d' hd' => by
  obtain ⟨a, ha, rfl⟩ := List.mem_map.mp hd
  obtain ⟨b, hb, rfl⟩ := List.mem_map.mp hd'
  exact py_alike (h a ha b hb)
theorem KinAll.sortable {ks : List SK} (h : KinAll ks) : Sortable (ks.map SK.py) := by
  cases ks with
  | nil => exact .inl fun d hd => by simp at hd
  | cons a r =>
    cases a with
    | n i =>
      refine .inr fun d hd => ?_
      obtain ⟨b, hb, rfl⟩ := List.mem_map.mp hd
      have := h (.n i) (by simp) b hb
      cases b with
      | n j => exact ⟨by simp [SK.py], fun xs => by simp [SK.py]⟩
      | r _ _ => cases this
    | r x xs =>
      refine .inl fun d hd => ?_
      obtain ⟨b, hb, rfl⟩ := List.mem_map.mp hd
      have := h (.r x xs) (by simp) b hb
      cases b with
      | n j => cases this
      | r y ys => exact ⟨_, _, rfl⟩
theorem mergeSort_congr {α : Type} {l : List α} {le le' : α → α → Bool} (h : ∀ a ∈ l, ∀ b ∈ l, le a b = le' a b) : l.mergeSort le = l.mergeSort le' := by
  have e : ∀ (s : α → α → Bool), l.mergeSort s = (l.attach.mergeSort fun a b => s a.1 b.1).map (·.1) := fun s => by
    rw [List.map_mergeSort (r := fun a b => s a.1 b.1) (s := s) (f := fun a : { x // x ∈ l } => a.1) (fun a _ b _ => rfl)]
    rw [List.attach_map_subtype_val]
  rw [e le, e le']
  congr 1
  congr 1
  funext a b
  exact h a.1 a.2 b.1 b.2
theorem KinAll.sort {ks : List SK} (h : KinAll ks) : ks.mergeSort (dataLe false SK.py) = ks.mergeSort SK.le := mergeSort_congr fun a ha b hb => py_le (h a ha b hb)
/-- what a key stands for, abstractly -/
def SKV (K : PySem.W.Frag) (H : Hp) (v : V) (k : SK) : Prop := match k with
  | .n i => v = .int i
  | .r x xs => ∃ a, v = .ref a ∧ SqT K H a ((x :: xs).map V.int)
def SKVs (K : PySem.W.Frag) (H : Hp) : List V → List SK → Prop := EachIs (SKV K H)
theorem dp_ints (K : PySem.W.Frag) (H : Hp) : ∀ l : List Int, DpAll K H (l.map V.int) (l.map PyData.int)
  | [] => .nil
  | a :: r => .cons (.int a) (dp_ints K H r)
theorem SKV.dp {K : PySem.W.Frag} {H : Hp} {v : V} {k : SK} (h : SKV K H v k) : Dp K H v k.py := by
  cases k with
  | n i => cases h; exact .int i
  | r x xs => obtain ⟨a, rfl, q⟩ := h; exact .tup q (dp_ints K H (x :: xs))
theorem each_vals {α : Type} {P : V → α → Prop} : ∀ {vs : List V} {us : List Value} {ks : List α}, EachIs P vs ks → Vals vs us → EachIs (fun u k => ∃ v, RelV v u ∧ P v k) us ks
  | _, _, _, .nil, .nil => .nil
  | _, _, _, .cons h t, .cons r rs => .cons ⟨_, r, h⟩ (each_vals t rs)
theorem vals_each {α : Type} {P : V → α → Prop} : ∀ {us : List Value} {ks : List α}, EachIs (fun u k => ∃ v, RelV v u ∧ P v k) us ks → ∃ vs, EachIs P vs ks ∧ Vals vs us
  | _, _, .nil => ⟨[], .nil, .nil⟩
  | _, _, .cons ⟨v, r, h⟩ t => by
    obtain ⟨vs, e, q⟩ := vals_each t
    exact ⟨v :: vs, .cons h e, .cons r q⟩
section
variable {X : Cx}
/-- sorted(xs) -/
def rSortK (K : PySem.W.Frag) : List V → Hp → VK → Prop := fun vs H Q => ∃ (a : Addr) (ws : List V) (ks : List SK), vs = [V.ref a] ∧ SqL K H a ws ∧ SKVs K H ws ks ∧ KinAll ks ∧
  ∀ ws' p, SKVs K H ws' (ks.mergeSort SK.le) → H p = none → Q (.ref p) (upd H p (.lst ws'))
theorem cr_sortK (hu : X.A.units + 64 < cLine) : CallR X (.builtin "sorted") (rSortK X.K) := by
  intro pins s σ H vs us Q I r h
  obtain ⟨a, ws, ks, rfl, hs, hk, ka, q⟩ := h
  obtain ⟨its, rv, hl, hz⟩ := I.list hs
  rw [Vals.ref1 r]
  have e := each_vals hk rv
  have er : EachIs (fun u k => ∃ as, Reads s.heap u (SK.py k) as) its ks := e.mono fun u k ⟨v, r, h⟩ => Dp.reads I _ _ _ h.dp r
  have ln : its.length = ks.length := e.length
  have ln2 := rv.length
  refine sorted_data hl.isList e er ka.alike ka.sortable (by omega) (fun b _ => by have := py_depth b; omega) fun out ho eo => ?_
  rw [ka.sort] at eo
  obtain ⟨ws', e', rv'⟩ := vals_each eo
  obtain ⟨ep, he'⟩ := PyProof.Rows.sortedAll_at s.heap its out.toArray
  have l3 := rv'.length
  exact ⟨.ref _, upd H (s.heap.objs.size + 1) (.lst ws'), I.laid (t' := s.toks) (fun _ _ => PyProof.Rows.sortedAll_old) (Nat.le_succ _) ⟨by omega, out, ep, rv', he'⟩, rfl, q ws' _ e' (I.hok.fresh (Nat.le_succ _))⟩
end
def minK (k : SK) (ks : List SK) : SK := ks.foldl (fun a y => if a.le y then a else y) k
def maxK (k : SK) (ks : List SK) : SK := ks.foldl (fun a y => if y.le a then a else y) k
theorem lt_py {a y : SK} (h : a.kin y = true) : dataLt y.py a.py = !(a.le y) := by
  rw [← py_le h]
  show _ = !(!dataLt y.py a.py)
  rw [Bool.not_not]
theorem minK_py : ∀ (ks : List SK) (k : SK), KinAll (k :: ks) → minD k.py (ks.map SK.py) = (minK k ks).py ∧ (minK k ks) ∈ k :: ks
  | [], k, _ => ⟨rfl, by simp [minK]⟩
  | y :: r, k, h => by
    have hk : k.kin y = true := h k (by simp) y (by simp)
    have e1 : minD k.py ((y :: r).map SK.py) = minD (if k.le y then k else y).py (r.map SK.py) := by
      show List.foldl _ (if dataLt y.py k.py = true then y.py else k.py) _ = _
      rw [lt_py hk]
      cases k.le y <;> rfl
    have e2 : minK k (y :: r) = minK (if k.le y then k else y) r := rfl
    have h' : KinAll ((if k.le y then k else y) :: r) := fun a ha b hb => by
      have mem : ∀ x, x ∈ (if k.le y then k else y) :: r → x ∈ k :: y :: r := fun x hx => by
        rcases List.mem_cons.mp hx with z | z
        · subst z; split <;> simp
        · simp [z]
      exact h a (mem a ha) b (mem b hb)
    obtain ⟨q1, q2⟩ := minK_py r _ h'
    refine ⟨by rw [e1, e2, q1], ?_⟩
    rw [e2]
    rcases List.mem_cons.mp q2 with z | z
    · rw [z]; split <;> simp
    · simp [z]
theorem maxK_py : ∀ (ks : List SK) (k : SK), KinAll (k :: ks) → maxD k.py (ks.map SK.py) = (maxK k ks).py ∧ (maxK k ks) ∈ k :: ks
  | [], k, _ => ⟨rfl, by simp [maxK]⟩
  | y :: r, k, h => by
    have hk : y.kin k = true := h y (by simp) k (by simp)
    have e1 : maxD k.py ((y :: r).map SK.py) = maxD (if y.le k then k else y).py (r.map SK.py) := by
      show List.foldl _ (if dataLt k.py y.py = true then y.py else k.py) _ = _
      rw [lt_py hk]
      cases y.le k <;> rfl
    have e2 : maxK k (y :: r) = maxK (if y.le k then k else y) r := rfl
    have h' : KinAll ((if y.le k then k else y) :: r) := fun a ha b hb => by
      have mem : ∀ x, x ∈ (if y.le k then k else y) :: r → x ∈ k :: y :: r := fun x hx => by
        rcases List.mem_cons.mp hx with z | z
        · subst z; split <;> simp
        · simp [z]
      exact h a (mem a ha) b (mem b hb)
    obtain ⟨q1, q2⟩ := maxK_py r _ h'
    refine ⟨by rw [e1, e2, q1], ?_⟩
    rw [e2]
    rcases List.mem_cons.mp q2 with z | z
    · rw [z]; split <;> simp
    · simp [z]
theorem KinAll.alikeAll {ks : List SK} (h : KinAll ks) : AlikeAll (ks.map SK.py) := ⟨h.alike, fun d hd => by
  obtain ⟨a, _, rfl⟩ := List.mem_map.mp hd
  cases a <;> simp [SK.py]⟩
theorem py_depths : ∀ ks : List SK, PyData.depthAll (ks.map SK.py) ≤ 1
  | [] => by simp [PyData.depthAll]
  | k :: r => by
    have := py_depth k
    have := py_depths r
    simp only [List.map_cons, PyData.depthAll]
    omega
theorem each_get {α β : Type} {P : α → β → Prop} : ∀ {as : List α} {bs : List β} {i : Nat} {a : α}, EachIs P as bs → as[i]? = some a → ∃ b, bs[i]? = some b ∧ P a b
  | _, _, i, a, .nil, h => by simp at h
  | _, _, 0, a, .cons h t, e => by
    rw [List.getElem?_cons_zero] at e
    cases e
    exact ⟨_, rfl, h⟩
  | _, _, i + 1, a, .cons h t, e => by
    rw [List.getElem?_cons_succ] at e
    obtain ⟨b, e1, q⟩ := each_get t e
    exact ⟨b, by simpa using e1, q⟩
section
variable {X : Cx} {pins : List (Addr × Obj)} {σ : L2.St} {H : Hp} {s : Shared}
/-- the one that min tells stands for the least key -/
theorem best_is (I : Inv X pins σ H s) {ks : List SK} {its : List Value} (ka : KinAll ks) (e : EachIs (fun u k => ∃ v, RelV v u ∧ SKV X.K H v k) its ks) {m : SK} (hm : m ∈ ks) {i : Nat} {v : Value} {h' : Heap} {bs : List Addr}
    (hv : its.toArray[i]? = some v) (r : Reads h' v m.py bs) (kp : ∀ b o, s.heap.get? b = some o → h'.get? b = some o) : ∃ x, RelV x v ∧ SKV X.K H x m := by
  obtain ⟨k, hk, x, rx, q⟩ := each_get e (i := i) (a := v) (by simpa using hv)
  obtain ⟨as, r1⟩ := Dp.reads I _ _ _ q.dp rx
  have r2 := PyProof.Rows.Reads.keeps kp r1
  have hkm := List.mem_of_getElem? hk
  have := py_inj (alike_unique _ _ _ _ _ (py_alike (ka k hkm m hm)) r2 r)
  subst this
  exact ⟨x, rx, q⟩
/-- min(xs), max(xs) -/
def rBest (K : PySem.W.Frag) (f : SK → List SK → SK) : List V → Hp → VK → Prop := fun vs H Q => ∃ (a : Addr) (ws : List V) (k : SK) (ks : List SK), vs = [V.ref a] ∧ (SqL K H a ws ∨ SqT K H a ws) ∧ SKVs K H ws (k :: ks) ∧ KinAll (k :: ks) ∧
  ∀ v, SKV K H v (f k ks) → Q v H
theorem cr_minK (hc : X.calm = true) (hu : X.A.units + 64 < cLine) : CallR X (.builtin "min") (rBest X.K minK) := by
  intro pins s σ H vs us Q I r h
  obtain ⟨a, ws, k, ks, rfl, hs, hk, ka, q⟩ := h
  rw [Vals.ref1 r]
  obtain ⟨m1, m2⟩ := minK_py ks k ka
  have fin : ∀ {its : List Value}, Vals ws its → (∃ as, ReadsAll s.heap its ((k :: ks).map SK.py) as) ∧ ∀ (i : Nat) (v : Value) (h' : Heap) (tk : Nat) (bs : List Addr), its.toArray[i]? = some v → Reads h' v (minD k.py (ks.map SK.py)) bs → (∀ b o, s.heap.get? b = some o → h'.get? b = some o) → EP X pins σ Q v { s with heap := h', toks := tk } := fun {its} rv => by
    have e := each_vals hk rv
    have er : EachIs (fun u k => ∃ as, Reads s.heap u (SK.py k) as) its (k :: ks) := e.mono fun u k ⟨v, r, h⟩ => Dp.reads I _ _ _ h.dp r
    refine ⟨each_readsAll SK.py er, fun i v h' tk bs hv rd kp => ?_⟩
    rw [m1] at rd
    obtain ⟨x, rx, qx⟩ := best_is I ka e m2 hv rd kp
    exact ⟨x, H, I.kept kp, rx, q x qx⟩
  have hd := py_depths (k :: ks)
  rcases hs with hs | hs
  · obtain ⟨its, rv, hl, hz⟩ := I.list hs
    obtain ⟨⟨as, rd⟩, f⟩ := fin rv
    exact min_list_data (I.ok.hd hc) hl.isList (show ReadsAll s.heap its.toArray.toList (k.py :: ks.map SK.py) as from rd) ka.alikeAll (by rw [List.map_cons] at hd; omega) f
  · obtain ⟨its, rv, hl, hz⟩ := I.tuple hs
    obtain ⟨⟨as, rd⟩, f⟩ := fin rv
    exact min_tuple_data (I.ok.hd hc) (show s.heap.IsTuple a its.toArray from hl) (show ReadsAll s.heap its.toArray.toList (k.py :: ks.map SK.py) as from rd) ka.alikeAll (by rw [List.map_cons] at hd; omega) f
theorem cr_maxK (hc : X.calm = true) (hu : X.A.units + 64 < cLine) : CallR X (.builtin "max") (rBest X.K maxK) := by
  intro pins s σ H vs us Q I r h
  obtain ⟨a, ws, k, ks, rfl, hs, hk, ka, q⟩ := h
  rw [Vals.ref1 r]
  obtain ⟨m1, m2⟩ := maxK_py ks k ka
  have fin : ∀ {its : List Value}, Vals ws its → (∃ as, ReadsAll s.heap its ((k :: ks).map SK.py) as) ∧ ∀ (i : Nat) (v : Value) (h' : Heap) (tk : Nat) (bs : List Addr), its.toArray[i]? = some v → Reads h' v (maxD k.py (ks.map SK.py)) bs → (∀ b o, s.heap.get? b = some o → h'.get? b = some o) → EP X pins σ Q v { s with heap := h', toks := tk } := fun {its} rv => by
    have e := each_vals hk rv
    have er : EachIs (fun u k => ∃ as, Reads s.heap u (SK.py k) as) its (k :: ks) := e.mono fun u k ⟨v, r, h⟩ => Dp.reads I _ _ _ h.dp r
    refine ⟨each_readsAll SK.py er, fun i v h' tk bs hv rd kp => ?_⟩
    rw [m1] at rd
    obtain ⟨x, rx, qx⟩ := best_is I ka e m2 hv rd kp
    exact ⟨x, H, I.kept kp, rx, q x qx⟩
  have hd := py_depths (k :: ks)
  rcases hs with hs | hs
  · obtain ⟨its, rv, hl, hz⟩ := I.list hs
    obtain ⟨⟨as, rd⟩, f⟩ := fin rv
    exact max_list_data (I.ok.hd hc) hl.isList (show ReadsAll s.heap its.toArray.toList (k.py :: ks.map SK.py) as from rd) ka.alikeAll (by rw [List.map_cons] at hd; omega) f
  · obtain ⟨its, rv, hl, hz⟩ := I.tuple hs
    obtain ⟨⟨as, rd⟩, f⟩ := fin rv
    exact max_tuple_data (I.ok.hd hc) (show s.heap.IsTuple a its.toArray from hl) (show ReadsAll s.heap its.toArray.toList (k.py :: ks.map SK.py) as from rd) ka.alikeAll (by rw [List.map_cons] at hd; omega) f
/-- min(xs, default=d) of a list -/
def rBestD (K : PySem.W.Frag) (f : SK → List SK → SK) : List V → List V → Hp → VK → Prop := fun vs zs H Q => ∃ (a : Addr) (d : V) (ws : List V) (ks : List SK), vs = [V.ref a] ∧ zs = [d] ∧ SqL K H a ws ∧ SKVs K H ws ks ∧ KinAll ks ∧
  match ks with
  | [] => Q d H
  | k :: r => ∀ v, SKV K H v (f k r) → Q v H
theorem cr_minKD (hc : X.calm = true) (hu : X.A.units + 64 < cLine) : CallRK X (.builtin "min") [Str.ofString "default"] (rBestD X.K minK) := by
  intro pins s σ H vs zs us ws' Q I r rz h
  obtain ⟨a, d, ws, ks, rfl, rfl, hs, hk, ka, q⟩ := h
  rw [Vals.ref1 r]
  obtain ⟨u, rfl, ru⟩ := Vals.one rz
  obtain ⟨its, rv, hl, hz⟩ := I.list hs
  have e := each_vals hk rv
  have er : EachIs (fun u k => ∃ as, Reads s.heap u (SK.py k) as) its ks := e.mono fun u k ⟨v, r, h⟩ => Dp.reads I _ _ _ h.dp r
  obtain ⟨as, rd⟩ := each_readsAll SK.py er
  have hd := py_depths ks
  refine min_list_default (I.ok.hd hc) hl.isList (show ReadsAll s.heap its.toArray.toList (ks.map SK.py) as from rd) ka.alikeAll (by omega) (fun h0 h' tk kp => ?_) fun y ys i v h' tk bs h1 hv rdv kp => ?_
  · rw [List.map_eq_nil_iff] at h0
    subst h0
    exact ⟨d, H, I.kept kp, ru, q⟩
  · cases ks with
    | nil => cases h1
    | cons k r =>
      rw [List.map_cons, List.cons.injEq] at h1
      obtain ⟨rfl, rfl⟩ := h1
      obtain ⟨m1, m2⟩ := minK_py r k ka
      rw [m1] at rdv
      obtain ⟨x, rx, qx⟩ := best_is I ka e m2 hv rdv kp
      exact ⟨x, H, I.kept kp, rx, q x qx⟩
theorem cr_maxKD (hc : X.calm = true) (hu : X.A.units + 64 < cLine) : CallRK X (.builtin "max") [Str.ofString "default"] (rBestD X.K maxK) := by
  intro pins s σ H vs zs us ws' Q I r rz h
  obtain ⟨a, d, ws, ks, rfl, rfl, hs, hk, ka, q⟩ := h
  rw [Vals.ref1 r]
  obtain ⟨u, rfl, ru⟩ := Vals.one rz
  obtain ⟨its, rv, hl, hz⟩ := I.list hs
  have e := each_vals hk rv
  have er : EachIs (fun u k => ∃ as, Reads s.heap u (SK.py k) as) its ks := e.mono fun u k ⟨v, r, h⟩ => Dp.reads I _ _ _ h.dp r
  obtain ⟨as, rd⟩ := each_readsAll SK.py er
  have hd := py_depths ks
  refine max_list_default (I.ok.hd hc) hl.isList (show ReadsAll s.heap its.toArray.toList (ks.map SK.py) as from rd) ka.alikeAll (by omega) (fun h0 h' tk kp => ?_) fun y ys i v h' tk bs h1 hv rdv kp => ?_
  · rw [List.map_eq_nil_iff] at h0
    subst h0
    exact ⟨d, H, I.kept kp, ru, q⟩
  · cases ks with
    | nil => cases h1
    | cons k r =>
      rw [List.map_cons, List.cons.injEq] at h1
      obtain ⟨rfl, rfl⟩ := h1
      obtain ⟨m1, m2⟩ := maxK_py r k ka
      rw [m1] at rdv
      obtain ⟨x, rx, qx⟩ := best_is I ka e m2 hv rdv kp
      exact ⟨x, H, I.kept kp, rx, q x qx⟩
end
end VS
end

section
set_option maxHeartbeats 1000000
/-! VS1t: tuple * 1. -/
namespace VS
open PySem PySem.Spec PyProof.Rows L2
open PySem.AutoSeq1 (wpAny_loadPart')
theorem tuple_mul1 (l : Addr) (items : Array Value) (n : Nat) (dd : Option Addr) (sl : Array (Option Value)) (u : Tok) (c1 : (items.isEmpty || (1 : Int) == 1) = true) :
    Meets (Builtin.«tuple.__mul__» ⟨[.ref l, .int 1 u], []⟩) (fun _ R s => s.heap.get? l = some { cls := .type "tuple", dict := dd, data := .seq items n, slots := sl } ∧ R (.ok (.ret (Value.ref l))) s) :=
  .of_wp fun prog w A R s h => by
    obtain ⟨hp, g, d, tk, os⟩ := s
    obtain ⟨hl, h⟩ := h
    have f1 := AutoSeq1.idx_int
    have f2 := AutoSeq1.sub_tuple_tuple
    wp_walk using wpAny_loadPart' hl
    repeat (first
      | (refine wpAny_ite_false (decide_eq_false (by decide)) ?_; wp_walk using wpAny_loadPart' hl)
      | (refine wpAny_ite_true (decide_eq_true c1) ?_; wp_walk using wpAny_loadPart' hl)
      | (refine wpAny_ite_true (by decide) ?_; wp_walk using wpAny_loadPart' hl))
    exact ⟨_, rfl, h⟩
def rRepT1 (K : PySem.W.Frag) : R2 := fun x y H Q => ∃ l xs, x = .ref l ∧ y = .int 1 ∧ SqT K H l xs ∧ Q (.ref l) H
section
variable {X : Cx}
theorem op_repT1 : OpR X (binaryOp .Mult) (rRepT1 X.K) := by
  intro pins s σ H x y v u Q I rx ry h
  obtain ⟨l, xs, rfl, rfl, hT, q⟩ := h
  cases rx
  obtain ⟨t, rfl⟩ := ry
  obtain ⟨its, r, ⟨⟨cls, dd, data, sl⟩, ho, hc, n, hd⟩, hs⟩ := I.tuple hT
  simp only at hc hd
  subst hc hd
  refine wpAny_binaryOp_repeat_ref (T := "tuple") (U := "int") (by decide) ⟨_, ho, rfl⟩ (fun s' => typeIs_int s' 1 t) noFill_tuple_mul F.fills_int_mul F.slot_int_rmul repeat_tuple F.slot_int_index.lookup
    (call_meets F.slot_int_rmul (typeIs_int s 1 t) F.entry_int_rmul (F.args_int_rmul_2 _ _) (int_rmul_tuple 1 t l its.toArray n dd sl)
      ⟨ho, rfl, ⟨_, ho, rfl⟩, call_meets F.slot_tuple_mul ⟨_, ho, rfl⟩ F.entry_tuple_mul (F.args_tuple_mul_2 _ _) (tuple_mul1 l its.toArray n dd sl t (by simp)) ⟨ho, ?_⟩⟩)
  exact ⟨.ref l, H, I, rfl, q⟩
end
end VS
end

section
set_option maxHeartbeats 1000000
/-! VS1r: a[::-1] of a tuple or a list. -/
namespace VS
open PySem PySem.Spec PyProof.Rows L2 HT
theorem filterMap_of {α β : Type} {f : α → Option β} {g : α → β} : ∀ {l : List α}, (∀ m ∈ l, f m = some (g m)) → l.filterMap f = l.map g
  | [], _ => rfl
  | a :: l, h => by rw [List.filterMap_cons_some (h a (by simp)), List.map_cons, filterMap_of fun m hm => h m (by simp [hm])]
theorem pick_rev (xs : Array Value) : ((List.range xs.size).filterMap fun (m : Nat) => xs[((xs.size : Int) - 1 + (m : Int) * -1).toNat]?).toArray = xs.toList.reverse.toArray := by
  congr 1
  rw [filterMap_of (g := fun m => xs.toList.reverse.getD m .none) fun m hm => ?_]
  · apply List.ext_getElem
    · simp
    · intro i h1 h2
      rw [List.length_map, List.length_range] at h1
      rw [List.getElem_map, List.getElem_range, List.getD_eq_getElem?_getD, List.getElem?_eq_getElem h2]
      rfl
  · have hm := List.mem_range.mp hm
    have e : ((xs.size : Int) - 1 + (m : Int) * -1).toNat = xs.size - 1 - m := by omega
    rw [e]
    have h1 : xs.size - 1 - m < xs.size := by omega
    rw [Array.getElem?_eq_getElem h1, List.getD_eq_getElem?_getD, List.getElem?_reverse (by simpa using hm)]
    simp only [Array.length_toList]
    rw [List.getElem?_eq_getElem (by simpa using h1)]
    rfl
section
variable {prog : Program} {w : World} {A : Around} {E : Value → Shared → Prop} {s : Shared}
theorem sliceApplied_rev {sl : Addr} {t : Tok} {n : Nat} {Q : Int × Int × Nat → Shared → Prop} (hs : s.heap.IsSliceOf sl .none .none (.int (-1) t))
    (h : Q ((n : Int) - 1, -1, n) s) : wpAny (model prog w) A (Builtin.Slice.sliceApplied (.ref sl) (pure (n : Int))) Q E s := by
  obtain ⟨os, hos, hcs, hds⟩ := id hs
  unfold Builtin.Slice.sliceApplied Builtin.Slice.sliceFields
  refine wpAny_bind (wpAny_bind (wpAny_field hos hds (x := .none) rfl (wpAny_bind (wpAny_field hos hds (x := .none) rfl (wpAny_bind (wpAny_field hos hds (x := .int (-1) t) rfl (wpAny_pure ?_)))))))
  refine wpAny_bind (slicePart_int ?_)
  show wpAny _ _ (if ((-1 : Int) == 0) = true then _ else _) _ _ s
  rw [if_neg (by decide)]
  refine wpAny_bind (slicePart_none (wpAny_bind (slicePart_none (wpAny_bind (wpAny_pure ?_)))))
  show wpAny _ _ (match Builtin.Slice.sliceAdjust none none (-1) (n : Int) with | (lo, hi) => pure (lo, (-1 : Int), Builtin.Slice.slicePlaces lo hi (-1))) _ _ s
  have e1 : Builtin.Slice.sliceAdjust none none (-1) (n : Int) = ((n : Int) - 1, -1) := rfl
  have e2 : Builtin.Slice.slicePlaces ((n : Int) - 1) (-1) (-1) = n := by
    unfold Builtin.Slice.slicePlaces
    rw [if_neg (by decide)]
    by_cases h0 : (n : Int) - 1 > -1
    · rw [if_pos h0]
      simp only [Int.neg_neg, Int.ediv_one]
      omega
    · rw [if_neg h0]
      omega
  rw [e1]
  show wpAny _ _ (pure ((n : Int) - 1, (-1 : Int), Builtin.Slice.slicePlaces ((n : Int) - 1) (-1) (-1))) _ _ s
  rw [e2]
  exact wpAny_pure h
theorem getItem_tuple_rev {t sl : Addr} {items : Array Value} {tk : Tok} {Q : Value → Shared → Prop} (ht : IsTup s.heap t items) (hs : s.heap.IsSliceOf sl .none .none (.int (-1) tk))
    (h : Q (.ref s.heap.objs.size) { s with heap := s.heap.push { cls := .type "tuple", data := .seq items.toList.reverse.toArray } })
    (hsz : items.size ≤ sizeLine) : wpAny (model prog w) A (getItem (.ref t) (.ref sl)) Q E s := by
  have htake : sizeOk (.seq items.toList.reverse.toArray) := by
    show items.toList.reverse.toArray.size ≤ sizeLine
    rw [List.size_toArray, List.length_reverse, Array.length_toList]
    omega
  obtain ⟨os, hos, hcs, hds⟩ := id hs
  have hTs : s.TypeIs (.ref sl) "slice" := ⟨os, hos, hcs⟩
  unfold getItem
  try with_reducible refine wpAny_holding ?_
  first | refine wpAny_bind (wpAny_pure ?_) | skip
  refine wpAny_bind (wpAny_sequenceKey ht.typeIs (by decide) ?_)
  refine wpAny_bind (wpAny_callSpecial?_slot (name := Str.ofString "__getitem__") ht.typeIs PyProof.Rows.slot_tuple_getitem
    (wpAny_call_entry PyProof.Rows.slot_tuple_getitem ht.typeIs entry_tuple_getitem ?_ (args_tuple_getitem _ _)))
  show wpAny _ _ (Builtin.Tuple.tupleItemsOf (.ref t) >>= _) _ _ s
  refine wpAny_bind (tupleItemsOf_ ht ?_)
  refine wpAny_bind (wpAny_typeOf hTs ?_)
  rw [if_pos (by decide)]
  refine wpAny_bind (sliceApplied_rev hs ?_)
  have hno : ¬ ((((items.size : Nat) : Int) - 1 == 0 && (-1 : Int) == 1 && items.size == items.size) = true) := by simp
  show wpAny _ _ (if ((((items.size : Nat) : Int) - 1) == 0 && (-1 : Int) == 1 && items.size == items.size) = true then _ else _) _ _ s
  rw [if_neg hno, pick_rev]
  first
    | exact wpAny_bind (m := Builtin.Tuple.tupleExact _) (wpAny_newObj_type (wpAny_pure ⟨_, rfl, wpAny_pure h⟩) htake)
    | exact wpAny_bind (m := Builtin.Tuple.tupleExact _) (wpAny_newObj_type (wpAny_bind (wpAny_pure (wpAny_pure ⟨_, rfl, wpAny_pure h⟩))) htake)
    | exact wpAny_bind (wpAny_bind (m := Builtin.Tuple.tupleExact _) (wpAny_newObj_type (wpAny_pure (wpAny_pure ⟨_, rfl, wpAny_pure h⟩)) htake))
    | exact wpAny_bind (wpAny_bind (m := Builtin.Tuple.tupleExact _) (wpAny_newObj_type (wpAny_pure ⟨_, rfl, wpAny_pure h⟩) htake))
end
section
variable {X : Cx} {e st : Expr} {te ts : TE} {pos p2 : Pos}
/-- a[::-1] -/
def tRevT (K : PySem.W.Frag) (te ts : TE) : TE := fun σ H Q => te σ H fun x H1 => ts σ H1 fun y H2 => y = .int (-1) ∧ ∃ a xs, x = .ref a ∧ SqT K H2 a xs ∧ ∀ p, H2 p = none → Q (.ref p) (upd H2 p (.tup xs.reverse))
theorem pe_revT (he : PE X e te) (hs : PE X st ts) : PE X (.Subscript e (.Slice none none (some st) p2) pos) (tRevT X.K te ts) := by
  refine ⟨fun pins s σ H Q I h => ?_⟩
  refine Subscript_ (thn (he.run pins s σ H _ I h) fun v s1 ⟨x, H1, I1, r1, q1⟩ => ?_)
  refine wpAny_Slice ?_
  rw [evalPart_none]
  refine wpAny_pure ?_
  refine wpAny_pure ?_
  rw [evalPart_some]
  refine thn (hs.run pins s1 σ H1 _ I1 q1) fun u s2 ⟨y, H2, I2, r2, ey, a, xs, ex, hq, q2⟩ => ?_
  subst ey ex
  obtain ⟨tk, rfl⟩ := r2
  cases r1
  obtain ⟨its, r, ht, hz⟩ := I2.tuple hq
  have I4 : Inv X pins σ H2 { s2 with heap := s2.heap.push { cls := .type "slice", data := .fields #[.none, .none, .int (-1) tk] } } := I2.kept (t' := s2.toks) fun b ob q => Heap.get?_push_of_some _ q
  obtain ⟨its', r', ht', hz'⟩ := I4.tuple hq
  have hlen : its'.toArray.size = xs.length := by rw [List.size_toArray]; exact r'.length.symm
  show wpAny (model X.prog X.w) X.A (subscriptTail e (.Slice none none (some st) p2) (.ref a) (.ref s2.heap.objs.size)) (EP X pins σ Q) X.xe { s2 with heap := s2.heap.push { cls := .type "slice", data := .fields #[.none, .none, .int (-1) tk] } }
  refine PyProof.Rows.tail_any (ops := [.ref a, .ref s2.heap.objs.size]) ht'.typeIs PyProof.Rows.slot_tuple_getitem.lookup ?_ (by with_unfolding_all rfl)
  refine getItem_tuple_rev ht' (Heap.IsSliceOf.new ..) ?_ (by rw [hlen]; exact hz')
  refine ⟨.ref (s2.heap.push { cls := .type "slice", data := .fields #[.none, .none, .int (-1) tk] }).objs.size, _, I4.laid (t' := s2.toks) (o := .tup xs.reverse) (fun b ob q => Heap.get?_push_of_some _ q) (Nat.le_refl _) ?_, rfl, q2 _ (I4.hok.fresh (Nat.le_refl _))⟩
  exact ⟨by rw [List.length_reverse]; exact hz', _, r'.reverse, IsTup.new _ _⟩
end
end VS
end

section
/-! VS2: the own small language (IE, IS), its meaning over deep values. -/
namespace VS
open PySem L2

abbrev Gm := List (Option D)
inductive R (α : Type) where
  | ok (a : α) | exc (c : Nat) (g : Gm) | stuck
def R.bind {α β : Type} (m : R α) (f : α → R β) : R β := match m with
  | .ok a => f a
  | .exc c g => .exc c g
  | .stuck => .stuck
@[simp] theorem bind_ok {α β : Type} (a : α) (f : α → R β) : (R.ok a).bind f = f a := rfl
@[simp] theorem bind_exc {α β : Type} (c : Nat) (g : Gm) (f : α → R β) : (R.exc c g).bind f = .exc c g := rfl
@[simp] theorem bind_stuck {α β : Type} (f : α → R β) : (R.stuck).bind f = .stuck := rfl
theorem bind_bind {α β γ : Type} (m : R α) (f : α → R β) (g : β → R γ) : (m.bind f).bind g = m.bind fun a => (f a).bind g := by cases m <;> rfl
def opt {α : Type} : Option α → R α
  | some a => .ok a
  | none => .stuck
@[simp] theorem opt_some {α : Type} (a : α) : opt (some a) = .ok a := rfl
@[simp] theorem opt_none {α : Type} : opt (none : Option α) = .stuck := rfl

/-- a bool is wanted -/
def onBl {α : Type} (d : D) (f : Bool → R α) : R α := match d with
  | .bl b => f b
  | _ => .stuck
@[simp] theorem onBl_bl {α : Type} (b : Bool) (f : Bool → R α) : onBl (.bl b) f = f b := rfl
theorem onBl_no {α : Type} {d : D} {f : Bool → R α} (h : ∀ b, d ≠ .bl b) : onBl d f = .stuck := by
  cases d <;> first | rfl | exact absurd rfl (h _)
/-- built-in operations by values -/
inductive Op where
  | add | sub | mul | mod | fdiv | pow | neg
  | eq | ne | lt | le | gt | ge | isn | nsn | inn | nin
  | ix | rev
  | len | int | abs | min2 | max2 | min4 | minl | maxl | suml | anyl | alll | list | tuple | sorted | isi | mind | maxd
  deriving DecidableEq

/-- methods that change the one that they are called of -/
inductive Mm where
  | append | extend | pop | popAt | insert | reverse | clear
  deriving DecidableEq

/-- plain reckoning of places: ints, slots, +, -, unary - -/
inductive SX where
  | num (i : Int) | var (i : Nat) | add (a b : SX) | sub (a b : SX) | neg (a : SX)
/-- a place: a slot, an item or an attribute of a place -/
inductive PL where
  | slot (i : Nat) | ix (p : PL) (e : SX) | att (p : PL) (c j : Nat)
/-- targets -/
inductive TG1 where
  | nm (i : Nat) | tup (is : List Nat)

mutual
inductive IE where
  | con (d : D)
  | glb (n : Nat)
  | rd (p : PL) | mv (i : Nat) | fz (i : Nat)
  | fx (e : IE)
  | tup (es : IOs) | lst (es : IOs)
  | op (o : Op) (es : IOs)
  | sl (lo hi : Bool) (es : IOs)
  | slx (lo hi : SX) (es : IOs)
  | nt (a : IE) | band (es : IEs) | bor (es : IEs) | ife (c a b : IE)
  | chn (o p : Op) (a b c : IE)
  | call (f : Nat) (es : IOs)
  | mth (m : Mm) (p : PL) (es : IOs)
  | lc (it : II) (tg : TG1) (own : List Nat) (ifs : IEs) (elt : IE)
inductive IEs where
  | nil | cons (e : IE) (r : IEs)
/-- operands: a value, a slot that is looked at behind all, a place at the end -/
inductive IOs where
  | nil | val (e : IE) (r : IOs) | slt (i : Nat) (r : IOs) | pla (p : PL)
/-- what is walked -/
inductive II where
  | seq (e : IE) | slt (i : Nat) | rng1 (es : IOs) | rng2 (es : IOs) | zip (es : IOs) | enu (es : IOs)
end

mutual
inductive IS where
  | asg (t : TG1) (e : IE)
  | par (is : List Nat) (es : IOs)
  | put (p : PL) (k : IE) (e : IE)
  | aug (sub : Bool) (p : PL) (k : SX) (e : IE)
  | agn (sub : Bool) (i : Nat) (e : IE)
  | ex (e : IE)
  | ret (e : IE) | retN
  | iff (c : IE) (a b : ISs)
  | whl (n : Nat) (c : IE) (b : ISs) (clr : List Nat)
  | frr (it : II) (t : TG1) (b : ISs) (clr : List Nat)
  | frc (i : Nat) (t : TG1) (b : ISs) (clr : List Nat)
  | brk | pas | cnt | stk
inductive ISs where
  | nil | cons (s : IS) (r : ISs)
  | clr (i : Nat) (r : ISs)
end

/-! ### places -/
def getS (g : Gm) (i : Nat) : Option D := (g[i]?).bind id
def evS : SX → Gm → Option Int
  | .num i, _ => some i
  | .var i, g => match getS g i with
    | some (.int k) => some k
    | _ => none
  | .add a b, g => match evS a g, evS b g with
    | some x, some y => some (x + y)
    | _, _ => none
  | .sub a b, g => match evS a g, evS b g with
    | some x, some y => some (x - y)
    | _, _ => none
  | .neg a, g => match evS a g with
    | some x => some (-x)
    | _ => none
def itemsOf : D → Option (List D)
  | .lst _ ds => some ds
  | .tup ds => some ds
  | _ => none
def getPl : PL → Gm → Option D
  | .slot i, g => getS g i
  | .ix p e, g => match getPl p g, evS e g with
    | some (.lst _ ds), some i => (ixN ds.length i).bind fun j => ds[j]?
    | some (.tup ds), some i => (ixN ds.length i).bind fun j => ds[j]?
    | _, _ => none
  | .att p c j, g => match getPl p g with
    | some (.ins true c' ds) => if c' = c then ds[j]? else none
    | _ => none
/-- the place's thing is another one now -/
def setPl : PL → D → Gm → Option Gm
  | .slot i, d, g => if i < g.length then some (g.set i (some d)) else none
  | .ix p e, d, g => match getPl p g, evS e g with
    | some (.lst true ds), some i => match ixN ds.length i with
      | some j => setPl p (.lst true (ds.set j d)) g
      | none => none
    | some (.tup ds), some i => match ixN ds.length i with
      | some j => setPl p (.tup (ds.set j d)) g
      | none => none
    | _, _ => none
  | .att p c j, d, g => match getPl p g with
    | some (.ins true c' ds) => if c' = c ∧ j < ds.length then setPl p (.ins true c (ds.set j d)) g else none
    | _ => none

/-- what is handed on item by item -/
def ownItems : D → Option (List D)
  | .lst true ds => some ds
  | .tup ds => some ds
  | _ => none

/-! ### equality of data -/
mutual
def plain : D → Nat → Bool
  | .non, _ => true
  | .bl _, _ => true
  | .int _, _ => true
  | .str x, _ => x.cps.all (· < 0x110000)
  | .tup ds, n => match n with
    | 0 => false
    | m + 1 => plains ds m
  | .lst _ ds, n => match n with
    | 0 => false
    | m + 1 => plains ds m
  | .ty _, _ => false
  | .gl _, _ => false
  | .dk _ _ _, _ => false
  | .dt _ _ _, _ => false
  | .ins _ _ _, _ => false
def plains : List D → Nat → Bool
  | [], _ => true
  | d :: ds, n => plain d n && plains ds n
end
mutual
def deq : D → D → Bool
  | .non, e => match e with
    | .non => true
    | _ => false
  | .bl a, e => match e with
    | .bl b => a == b
    | .int j => (if a then 1 else 0) == j
    | _ => false
  | .int i, e => match e with
    | .bl b => i == (if b then 1 else 0)
    | .int j => i == j
    | _ => false
  | .str x, e => match e with
    | .str y => x == y
    | _ => false
  | .tup xs, e => match e with
    | .tup ys => deqs xs ys
    | _ => false
  | .lst _ xs, e => match e with
    | .lst _ ys => deqs xs ys
    | _ => false
  | _, _ => false
def deqs : List D → List D → Bool
  | [], e => match e with
    | [] => true
    | _ :: _ => false
  | x :: xs, e => match e with
    | y :: ys => deq x y && deqs xs ys
    | [] => false
end
def intsD : List D → Option (List Int)
  | [] => some []
  | .int i :: r => (intsD r).map (i :: ·)
  | _ :: _ => none
def boolsD : List D → Option (List Bool)
  | [] => some []
  | .bl i :: r => (boolsD r).map (i :: ·)
  | _ :: _ => none
def b2d (b : Bool) : D := .bl b
def opMul (a b : Int) : Option D := if (-(2 ^ 64) < a ∧ a < 2 ^ 64) ∨ (-(2 ^ 64) < b ∧ b < 2 ^ 64) then some (.int (a * b)) else none
/-- a built-in type of a value, for isinstance -/
def tyOf : D → Option String
  | .non => some "NoneType"
  | .bl _ => some "bool"
  | .int _ => some "int"
  | .str _ => some "str"
  | .tup _ => some "tuple"
  | .lst _ _ => some "list"
  | .dk _ _ _ => some "dict"
  | _ => none
def opAdd : D → D → Option D
  | .int a, .int b => some (.int (a + b))
  | .str a, .str b => if a.length + b.length ≤ sizeLine then some (.str (a ++ b)) else none
  | .lst _ a, .lst _ b => if noOwns a ∧ noOwns b ∧ a.length + b.length ≤ sizeLine then some (.lst true (a ++ b)) else none
  | .tup a, .tup b => if noOwns a ∧ noOwns b ∧ a.length + b.length ≤ sizeLine then some (.tup (a ++ b)) else none
  | _, _ => none
def opMulD : D → D → Option D
  | .int a, .int b => opMul a b
  | .lst true a, .int k => if noOwns a ∧ 0 ≤ k ∧ k < 2 ^ 63 ∧ a.length * k.toNat ≤ sizeLine then some (.lst true (List.flatten (List.replicate k.toNat a))) else none
  | .tup a, .int k => if noOwns a ∧ a ≠ [] ∧ 1 ≤ k ∧ k ≤ 1000 ∧ a.length ≤ 1000 then some (.tup (List.flatten (List.replicate k.toNat a))) else none
  | _, _ => none
def opI2 (f : Int → Int → Option D) : D → D → Option D
  | .int a, .int b => f a b
  | _, _ => none
def opI1 (f : Int → Option D) : D → Option D
  | .int a => f a
  | _ => none
def opEq (neg : Bool) (a b : D) : Option D := if plain a 60 ∧ plain b 60 then some (.bl (if neg then !deq a b else deq a b)) else none
def isNonD : D → Bool
  | .non => true
  | _ => false
def opIsn (neg : Bool) (a b : D) : Option D := match b with
  | .non => some (.bl (if neg then !isNonD a else isNonD a))
  | _ => none
def opIn (neg : Bool) (x t : D) : Option D := match t with
  | .tup ds => if plain x 60 ∧ plains ds 59 then some (.bl (if neg then !ds.any fun z => deq z x else ds.any fun z => deq z x)) else none
  | .lst _ ds => if plain x 60 ∧ plains ds 59 then some (.bl (if neg then !ds.any fun z => deq z x else ds.any fun z => deq z x)) else none
  | _ => none
def opIx (t i : D) : Option D := match itemsOf t, i with
  | some ds, .int i => ((ixN ds.length i).bind fun j => ds[j]?).bind fun d => if noOwn d then some d else none
  | _, _ => none
def opLen (t : D) : Option D := (itemsOf t).map fun ds => .int ds.length
def opInt : D → Option D
  | .int i => some (.int i)
  | .bl b => some (.int (if b then 1 else 0))
  | _ => none
def opSum : D → Option D
  | .lst _ ds => (intsD ds).map fun ns => .int ns.sum
  | _ => none
def opAny : D → Option D
  | .lst _ ds => (boolsD ds).map fun bs => .bl (bs.any id)
  | _ => none
def opAll : D → Option D
  | .lst _ ds => (boolsD ds).map fun bs => .bl (bs.all id)
  | _ => none
def opList (t : D) : Option D := (itemsOf t).bind fun ds => if noOwns ds then some (.lst true ds) else none
def opTuple (t : D) : Option D := (itemsOf t).bind fun ds => if noOwns ds then some (.tup ds) else none
def opIsi (a t : D) : Option D := match t with
  | .ty t => (tyOf a).bind fun s => (kitB s t).map .bl
  | _ => none
/-- sorting keys of values -/
def skD : D → Option SK
  | .int i => some (.n i)
  | .tup ds => match ds with
    | .int x :: r => (intsD r).map (.r x)
    | _ => none
  | _ => none
def sksD : List D → Option (List SK)
  | [] => some []
  | d :: r => match skD d, sksD r with
    | some k, some ks => some (k :: ks)
    | _, _ => none
def dSK : SK → D
  | .n i => .int i
  | .r x xs => .tup (.int x :: xs.map .int)
def kinB : List SK → Bool
  | [] => true
  | a :: r => r.all fun b => a.kin b
def opSorted : D → Option D
  | .lst _ ds => (sksD ds).bind fun ks => if kinB ks then some (.lst true ((ks.mergeSort SK.le).map dSK)) else none
  | _ => none
def bestOf (f : SK → List SK → SK) (ds : List D) : Option D := (sksD ds).bind fun ks => match ks with
  | [] => none
  | k :: r => if kinB (k :: r) then some (dSK (f k r)) else none
def opBest (f : SK → List SK → SK) : D → Option D
  | .lst _ ds => bestOf f ds
  | .tup ds => bestOf f ds
  | _ => none
def opBestD (f : SK → List SK → SK) : D → D → Option D
  | .lst _ ds, d => if noOwn d then (sksD ds).bind fun ks => match ks with
      | [] => some d
      | k :: r => if kinB (k :: r) then some (dSK (f k r)) else none
    else none
  | _, _ => none
def opRev : D → Option D
  | .tup ds => if noOwns ds then some (.tup ds.reverse) else none
  | _ => none
def opMin4 : D → D → D → D → Option D
  | .int a, .int b, .int c, .int d => some (.int (mn4 a b c d))
  | _, _, _, _ => none
def opD : Op → List D → Option D
  | .add, [a, b] => opAdd a b
  | .sub, [a, b] => opI2 (fun a b => some (.int (a - b))) a b
  | .mul, [a, b] => opMulD a b
  | .mod, [a, b] => opI2 (fun a b => if 0 < b then some (.int (a % b)) else none) a b
  | .fdiv, [a, b] => opI2 (fun a b => if 0 < b ∧ b < 1073741824 then some (.int (a / b)) else none) a b
  | .pow, [a, b] => opI2 (fun a b => if 0 ≤ b ∧ b ≤ 1000000 ∧ a.natAbs < 2 ^ 64 then some (.int (a ^ b.toNat)) else none) a b
  | .neg, [a] => opI1 (fun a => some (.int (-a))) a
  | .eq, [a, b] => opEq false a b
  | .ne, [a, b] => opEq true a b
  | .lt, [a, b] => opI2 (fun a b => some (.bl (decide (a < b)))) a b
  | .le, [a, b] => opI2 (fun a b => some (.bl (decide (a ≤ b)))) a b
  | .gt, [a, b] => opI2 (fun a b => some (.bl (decide (b < a)))) a b
  | .ge, [a, b] => opI2 (fun a b => some (.bl (decide (b ≤ a)))) a b
  | .isn, [a, b] => opIsn false a b
  | .nsn, [a, b] => opIsn true a b
  | .inn, [a, b] => opIn false a b
  | .nin, [a, b] => opIn true a b
  | .ix, [a, b] => opIx a b
  | .len, [a] => opLen a
  | .int, [a] => opInt a
  | .abs, [a] => opI1 (fun i => some (.int (if i < 0 then -i else i))) a
  | .min2, [a, b] => opI2 (fun i j => some (.int (if j < i then j else i))) a b
  | .max2, [a, b] => opI2 (fun i j => some (.int (if i < j then j else i))) a b
  | .min4, [a, b, c, d] => opMin4 a b c d
  | .suml, [a] => opSum a
  | .anyl, [a] => opAny a
  | .alll, [a] => opAll a
  | .list, [a] => opList a
  | .tuple, [a] => opTuple a
  | .isi, [a, b] => opIsi a b
  | .sorted, [a] => opSorted a
  | .rev, [a] => opRev a
  | .minl, [a] => opBest minK a
  | .maxl, [a] => opBest maxK a
  | .mind, [a, b] => opBestD minK a b
  | .maxd, [a, b] => opBestD maxK a b
  | _, _ => none
def opSl (d : D) (lo hi : Option Int) : Option D := match d with
  | .lst _ ds => if noOwns ds then some (.lst true ((ds.drop (HT.sIx ds.length 0 lo)).take (HT.sIx ds.length ds.length hi - HT.sIx ds.length 0 lo))) else none
  | .tup ds => if noOwns ds then some (.tup ((ds.drop (HT.sIx ds.length 0 lo)).take (HT.sIx ds.length ds.length hi - HT.sIx ds.length 0 lo))) else none
  | _ => none
def opSl1 (ds : List D) (i j : Int) : Option D := match ds with
  | [d] => opSl d (some i) (some j)
  | _ => none
/-- by the parts that are written -/
def opSlB (lo hi : Bool) (ds : List D) : Option D := match lo, hi, ds with
  | false, false, [d] => opSl d none none
  | true, false, [d, .int i] => opSl d (some i) none
  | false, true, [d, .int j] => opSl d none (some j)
  | _, _, _ => none
def isOwnL : D → Bool
  | .lst true _ => true
  | _ => false
/-- a method's answer and what its object is behind it -/
def opM : Mm → D → List D → Option (D × D)
  | .append, .lst true ds, [d] => if ds.length < sizeLine then some (.non, .lst true (ds ++ [d])) else none
  | .extend, .lst true ds, [.lst true es] => if noOwns es ∧ ds.length + es.length ≤ sizeLine then some (.non, .lst true (ds ++ es)) else none
  | .pop, .lst true ds, [] => (ds[ds.length - 1]?).map fun d => (d, .lst true ds.dropLast)
  | .reverse, .lst true ds, [] => some (.non, .lst true ds.reverse)
  | .clear, .lst true ds, [] => if noOwns ds then some (.non, .lst true []) else none
  | _, _, _ => none
def augD (sub : Bool) (d e : D) : Option D := match d, e with
  | .int i, .int n => some (.int (if sub then i - n else i + n))
  | _, _ => none
/-- l[k] = d -/
def opPut (t k d : D) : Option D := match t, k with
  | .lst true ds, .int i => (ixN ds.length i).map fun j => .lst true (ds.set j d)
  | _, _ => none

/-! ### meaning -/
inductive Opd where
  | v (d : D) | p (p : PL)
def finO : List Opd → Gm → Option (List D)
  | [], _ => some []
  | .v d :: r, g => (finO r g).map (d :: ·)
  | .p p :: r, g => match getPl p g, finO r g with
    | some d, some ds => some (d :: ds)
    | _, _ => none
def valsO : List Opd → Option (List D)
  | [] => some []
  | .v d :: r => (valsO r).map (d :: ·)
  | .p _ :: _ => none
/-- for a call: the slots' things are handed in -/
def takeO : List Opd → Gm → Option (List D × Gm)
  | [], g => some ([], g)
  | .v d :: r, g => (takeO r g).map fun p => (d :: p.1, p.2)
  | .p (.slot i) :: r, g => match getS g i with
    | some d => (takeO r (g.set i none)).map fun p => (d :: p.1, p.2)
    | none => none
  | .p _ :: _, _ => none
/-- .. and come back -/
def backO : List Opd → Gm → Gm → Gm
  | [], _, g => g
  | .v _ :: r, o :: os, g => backO r os g
  | .p (.slot i) :: r, o :: os, g => backO r os (g.set i o)
  | .p _ :: r, _ :: os, g => backO r os g
  | _ :: _, [], g => g
inductive Fl where
  | nx | bk | ct | rt (d : D)
/-- a target takes a thing -/
def setNs : List Nat → List D → Gm → Option Gm
  | [], [], g => some g
  | i :: is, d :: ds, g => if i < g.length then setNs is ds (g.set i (some d)) else none
  | _, _, _ => none
def setT : TG1 → D → Gm → Option Gm
  | .nm i, d, g => if i < g.length then some (g.set i (some d)) else none
  | .tup is, .tup ds, g => setNs is ds g
  | _, _, _ => none
def clrs (is : List Nat) (g : Gm) : Gm := is.foldl (fun g i => g.set i none) g
def rngs (a : Int) : Nat → List D
  | 0 => []
  | n + 1 => .int a :: rngs (a + 1) n
def zipD : List D → List D → List D
  | a :: r, b :: s => .tup [a, b] :: zipD r s
  | _, _ => []
def zipV : List D → Option (List D)
  | [.lst _ ds, .lst _ es] => if noOwns ds = true ∧ noOwns es = true then some (zipD ds es) else none
  | [.tup ds, .tup es] => if noOwns ds = true ∧ noOwns es = true then some (zipD ds es) else none
  | _ => none
def enuD : Nat → List D → List D
  | _, [] => []
  | n, d :: r => .tup [.int n, d] :: enuD (n + 1) r
def enuV : List D → Option (List D)
  | [.lst _ ds] => if noOwns ds = true then some (enuD 0 ds) else none
  | [.tup ds] => if noOwns ds = true then some (enuD 0 ds) else none
  | _ => none
def rngD1 : List D → Option (List D)
  | [.int j] => if -(2 ^ 62) ≤ j ∧ j < 2 ^ 62 then some (rngs 0 j.toNat) else none
  | _ => none
def rngD2 : List D → Option (List D)
  | [.int i, .int j] => if -(2 ^ 62) ≤ i ∧ i < 2 ^ 62 ∧ -(2 ^ 62) ≤ j ∧ j < 2 ^ 62 then some (rngs i (j - i).toNat) else none
  | _ => none

/-- behind a loop's turn -/
def aft (clr : List Nat) (L : Gm → R (Fl × Gm)) (q : Fl × Gm) : R (Fl × Gm) := match q.1 with
  | .nx => L (clrs clr q.2)
  | .ct => L (clrs clr q.2)
  | .bk => .ok (.nx, clrs clr q.2)
  | .rt d => .ok (.rt d, q.2)
@[simp] theorem aft_nx (clr : List Nat) (L : Gm → R (Fl × Gm)) (g : Gm) : aft clr L (.nx, g) = L (clrs clr g) := rfl
@[simp] theorem aft_ct (clr : List Nat) (L : Gm → R (Fl × Gm)) (g : Gm) : aft clr L (.ct, g) = L (clrs clr g) := rfl
@[simp] theorem aft_bk (clr : List Nat) (L : Gm → R (Fl × Gm)) (g : Gm) : aft clr L (.bk, g) = .ok (.nx, clrs clr g) := rfl
@[simp] theorem aft_rt (clr : List Nat) (L : Gm → R (Fl × Gm)) (d : D) (g : Gm) : aft clr L (.rt d, g) = .ok (.rt d, g) := rfl
/-- one after another -/
def thn1 (L : Gm → R (Fl × Gm)) (q : Fl × Gm) : R (Fl × Gm) := match q.1 with
  | .nx => L q.2
  | .ct => .ok (.ct, q.2)
  | .bk => .ok (.bk, q.2)
  | .rt d => .ok (.rt d, q.2)
@[simp] theorem thn1_nx (L : Gm → R (Fl × Gm)) (g : Gm) : thn1 L (.nx, g) = L g := rfl
@[simp] theorem thn1_ct (L : Gm → R (Fl × Gm)) (g : Gm) : thn1 L (.ct, g) = .ok (.ct, g) := rfl
@[simp] theorem thn1_bk (L : Gm → R (Fl × Gm)) (g : Gm) : thn1 L (.bk, g) = .ok (.bk, g) := rfl
@[simp] theorem thn1_rt (L : Gm → R (Fl × Gm)) (d : D) (g : Gm) : thn1 L (.rt d, g) = .ok (.rt d, g) := rfl
def forD (t : TG1) (clr : List Nat) (body : Gm → R (Fl × Gm)) : List D → Gm → R (Fl × Gm)
  | [], g => .ok (.nx, g)
  | d :: ds, g => (opt (setT t d g)).bind fun g1 => (body g1).bind (aft clr fun g' => forD t clr body ds g')
def whlD (c : Gm → R (D × Gm)) (clr : List Nat) (body : Gm → R (Fl × Gm)) : Nat → Gm → R (Fl × Gm)
  | 0, _ => .stuck
  | n + 1, g => (c g).bind fun p => onBl p.1 fun z => if z = true then (body p.2).bind (aft clr fun g' => whlD c clr body n g') else .ok (.nx, p.2)
/-- no exception leaves a comprehension -/
def okOnly {α : Type} : R α → R α
  | .ok a => .ok a
  | _ => .stuck
@[simp] theorem okOnly_ok {α : Type} (a : α) : okOnly (R.ok a) = .ok a := rfl
@[simp] theorem okOnly_stuck {α : Type} : okOnly (R.stuck : R α) = .stuck := rfl
@[simp] theorem okOnly_exc {α : Type} (c : Nat) (g : Gm) : okOnly (R.exc c g : R α) = .stuck := rfl
/-- a comprehension's items -/
def lcD (t : TG1) (own : List Nat) (cond : Gm → R (Bool × Gm)) (elt : Gm → R (D × Gm)) : List D → List D → Gm → R (List D × Gm)
  | acc, [], g => .ok (acc, g)
  | acc, d :: ds, g => (opt (setT t d g)).bind fun g1 => (okOnly (cond g1)).bind fun p =>
    if p.1 = true then (okOnly (elt p.2)).bind fun q => if acc.length < sizeLine then lcD t own cond elt (acc ++ [q.1]) ds (clrs own q.2) else .stuck
    else lcD t own cond elt acc ds (clrs own p.2)
def noneAt (own : List Nat) (g : Gm) : Bool := own.all fun i => (getS g i).isNone

abbrev Call := Nat → List D → R (D × Gm)
/-! nothing that stood is changed by these -/
mutual
def pureE : IE → Bool
  | .con _ => true
  | .glb _ => true
  | .rd _ => true
  | .tup es => pureO es
  | .lst es => pureO es
  | .op _ es => pureO es
  | .sl _ _ es => pureO es
  | .slx _ _ es => pureO es
  | .nt a => pureE a
  | _ => false
def pureO : IOs → Bool
  | .nil => true
  | .val e r => pureE e && pureO r
  | .slt _ r => pureO r
  | .pla _ => true
end
section
variable (gl : Nat → Option D) (call : Call)
mutual
def denE : IE → Gm → R (D × Gm)
  | .con d, g => .ok (d, g)
  | .glb n, g => (opt (gl n)).bind fun d => .ok (d, g)
  | .rd p, g => match getPl p g with
    | some d => if noOwn d = true then .ok (d, g) else .stuck
    | none => .stuck
  | .mv i, g => match getS g i with
    | some d => .ok (d, g.set i none)
    | none => .stuck
  | .fz i, g => match getS g i with
    | some d => .ok (frz d, g.set i (some (frz d)))
    | none => .stuck
  | .fx e, g => (denE e g).bind fun p => .ok (frz p.1, p.2)
  | .tup es, g => (denO es g).bind fun p => (opt (valsO p.1)).bind fun ds => .ok (.tup ds, p.2)
  | .lst es, g => (denO es g).bind fun p => (opt (valsO p.1)).bind fun ds => .ok (.lst true ds, p.2)
  | .op o es, g => (denO es g).bind fun p => (opt (finO p.1 p.2)).bind fun ds => (opt (opD o ds)).bind fun d => .ok (d, p.2)
  | .sl lo hi es, g => (denO es g).bind fun p => (opt (finO p.1 p.2)).bind fun ds => (opt (opSlB lo hi ds)).bind fun d => .ok (d, p.2)
  | .slx lo hi es, g => (denO es g).bind fun p => (opt (finO p.1 p.2)).bind fun ds => (opt (evS lo p.2)).bind fun i => (opt (evS hi p.2)).bind fun j => (opt (opSl1 ds i j)).bind fun d => .ok (d, p.2)
  | .nt a, g => (denE a g).bind fun p => onBl p.1 fun b => .ok (.bl (!b), p.2)
  | .band es, g => denA true es g
  | .bor es, g => denA false es g
  | .ife c a b, g => (denE c g).bind fun p => onBl p.1 fun z => if z = true then denE a p.2 else denE b p.2
  | .chn o o' a b c, g => (denE a g).bind fun p => (denE b p.2).bind fun q => (opt (opD o [p.1, q.1])).bind fun d => onBl d fun z =>
    if z = true then if noOwn q.1 = true then (denE c q.2).bind fun r => (opt (opD o' [q.1, r.1])).bind fun d => .ok (d, r.2) else .stuck else .ok (.bl false, q.2)
  | .call f es, g => (denO es g).bind fun p => (opt (takeO p.1 p.2)).bind fun q => match call f q.1 with
    | .ok (d, outs) => .ok (d, backO p.1 outs q.2)
    | .exc c outs => .exc c (backO p.1 outs q.2)
    | .stuck => .stuck
  | .mth m p es, g => (opt (getPl p g)).bind fun t => if isOwnL t = true then (denO es g).bind fun q => (opt (valsO q.1)).bind fun as => (opt (getPl p q.2)).bind fun d => (opt (opM m d as)).bind fun r => (opt (setPl p r.2 q.2)).bind fun g' => .ok (r.1, g') else .stuck
  | .lc it t own ifs elt, g => (denI it g).bind fun p => if noneAt own p.2 = true then (lcD t own (denC ifs) (denE elt) [] p.1 p.2).bind fun q => .ok (.lst true q.1, q.2) else .stuck
def denO : IOs → Gm → R (List Opd × Gm)
  | .nil, g => .ok ([], g)
  | .val e r, g => (denE e g).bind fun p => (denO r p.2).bind fun q => .ok (.v p.1 :: q.1, q.2)
  | .slt i r, g => (opt (getS g i)).bind fun _ => (denO r g).bind fun q => .ok (.p (.slot i) :: q.1, q.2)
  | .pla p, g => (opt (getPl p g)).bind fun _ => .ok ([.p p], g)
/-- and (true), or (false) -/
def denA (c : Bool) : IEs → Gm → R (D × Gm)
  | .nil, _ => .stuck
  | .cons e r, g => match r with
    | .nil => (denE e g).bind fun p => onBl p.1 fun b => .ok (.bl b, p.2)
    | .cons _ _ => (denE e g).bind fun p => onBl p.1 fun b => if b = c then denA c r p.2 else .ok (.bl b, p.2)
/-- a comprehension's ifs -/
def denC : IEs → Gm → R (Bool × Gm)
  | .nil, g => .ok (true, g)
  | .cons e r, g => (denE e g).bind fun p => onBl p.1 fun z => if z = true then denC r p.2 else .ok (false, p.2)
def denI : II → Gm → R (List D × Gm)
  | .seq e, g => (denE e g).bind fun p => match p.1 with
    | .lst _ ds => if noOwns ds = true then .ok (ds, p.2) else .stuck
    | .tup ds => if noOwns ds = true then .ok (ds, p.2) else .stuck
    | _ => .stuck
  | .slt i, g => .stuck
  | .rng1 es, g => (denO es g).bind fun p => (opt (finO p.1 p.2)).bind fun as => (opt (rngD1 as)).bind fun ds => .ok (ds, p.2)
  | .rng2 es, g => (denO es g).bind fun p => (opt (finO p.1 p.2)).bind fun as => (opt (rngD2 as)).bind fun ds => .ok (ds, p.2)
  | .zip es, g => (denO es g).bind fun p => (opt (valsO p.1)).bind fun ds => (opt (zipV ds)).bind fun its => .ok (its, p.2)
  | .enu es, g => (denO es g).bind fun p => (opt (valsO p.1)).bind fun ds => (opt (enuV ds)).bind fun its => .ok (its, p.2)
end
mutual
def denS : IS → Gm → R (Fl × Gm)
  | .asg t e, g => (denE gl call e g).bind fun p => (opt (setT t p.1 p.2)).bind fun g' => .ok (.nx, g')
  | .par is es, g => (denO gl call es g).bind fun p => (opt (valsO p.1)).bind fun ds => (opt (setNs is ds p.2)).bind fun g' => .ok (.nx, g')
  | .put p k e, g => (denE gl call e g).bind fun q => (opt (getPl p q.2)).bind fun t0 => if isOwnL t0 = true then (denE gl call k q.2).bind fun r => (opt (getPl p r.2)).bind fun t => (opt (opPut t r.1 q.1)).bind fun t' => (opt (setPl p t' r.2)).bind fun g' => .ok (.nx, g') else .stuck
  | .aug sub p k e, g => (opt (getPl p g)).bind fun t => (opt (evS k g)).bind fun i => (opt (opIx t (.int i))).bind fun d => (okOnly (denE gl call e g)).bind fun q => (opt (augD sub d q.1)).bind fun d' => (opt (opPut t (.int i) d')).bind fun t' => (opt (setPl p t' g)).bind fun g' => .ok (.nx, g')
  | .agn sub i e, g => (opt (getS g i)).bind fun d => (denE gl call e g).bind fun q => (opt (augD sub d q.1)).bind fun d' => (opt (setT (.nm i) d' q.2)).bind fun g' => .ok (.nx, g')
  | .ex e, g => (denE gl call e g).bind fun p => .ok (.nx, p.2)
  | .ret e, g => (denE gl call e g).bind fun p => .ok (.rt p.1, p.2)
  | .retN, g => .ok (.rt .non, g)
  | .iff c a b, g => (denE gl call c g).bind fun p => onBl p.1 fun z => if z = true then denSs a p.2 else denSs b p.2
  | .whl n c b clr, g => whlD (denE gl call c) clr (denSs b) n (clrs clr g)
  | .frr it t b clr, g => (denI gl call it g).bind fun p => forD t clr (denSs b) p.1 (clrs clr p.2)
  | .frc i t b clr, g => (opt (getS g i)).bind fun d => (opt (ownItems d)).bind fun ds => forD t clr (denSs b) ds (clrs clr (g.set i none))
  | .brk, g => .ok (.bk, g)
  | .cnt, g => .ok (.ct, g)
  | .pas, g => .ok (.nx, g)
  | .stk, _ => .stuck
def denSs : ISs → Gm → R (Fl × Gm)
  | .nil, g => .ok (.nx, g)
  | .cons s r, g => (denS s g).bind (thn1 fun g' => denSs r g')
  | .clr i r, g => denSs r (g.set i none)
end
end
/-- a def: how many parameters, how many slots, which slots the body stores to, the body -/
structure Def where
  name : Str
  np : Nat
  ns : Nat
  asg : List Nat
  body : ISs
def outs (f : Def) (g : Gm) : Gm := clrs f.asg (g.take f.np)
def runD (gl : Nat → Option D) (call : Call) (f : Def) (ds : List D) : R (D × Gm) :=
  if ds.length = f.np then match denSs gl call f.body (ds.map some ++ List.replicate (f.ns - f.np) none) with
    | .ok (.rt d, g) => .ok (d, outs f g)
    | .ok (.nx, g) => .ok (.non, outs f g)
    | .ok (_, _) => .stuck
    | .exc c g => .exc c (outs f g)
    | .stuck => .stuck
  else .stuck
/-- a program: the module's values by number, the defs by number -/
structure Prog where
  gl : Nat → Option (Str × D)
  fn : Nat → Option Def
abbrev Prog.val (P : Prog) : Nat → Option D := fun n => (P.gl n).map (·.2)
def callD (P : Prog) : Nat → Call
  | 0, _, _ => .stuck
  | k + 1, f, ds => match P.fn f with
    | some d => runD P.val (callD P k) d ds
    | none => .stuck
end VS
end

section
/-! VS3: the slots' standing, focus on a place. -/
namespace VS
open PySem L2
local macro_rules | `(tactic| walk_at "fp") => `(tactic| ((try dsimp only at *); omega))

def SlotR (k : KX) (Z : Zs) (H : Hp) (s : Option D) (o : Option V) (F : Fp) : Prop := match s with
  | none => ∀ a, F a = 0
  | some d => ∃ v, o = some v ∧ Rep k Z H d v F
def StR (k : KX) (Z : Zs) (H : Hp) : Gm → St → Fp → Prop
  | [], σ, F => σ = [] ∧ ∀ a, F a = 0
  | s :: g, σ, F => ∃ o r F1 F2, σ = o :: r ∧ SlotR k Z H s o F1 ∧ StR k Z H g r F2 ∧ ∀ a, F a = F1 a + F2 a
section
variable {k : KX} {Z Z' Z'' : Zs} {H H' H'' : Hp} {F F' F'' G R' Q : Fp} {g g' : Gm} {σ σ' : St}
theorem SlotR.stay {s : Option D} {o : Option V} {Q : Fp} (h : SlotR k Z H s o Q) (t : Sth Z H F Z' H' Q) : SlotR k Z' H' s o Q := by
  cases s with
  | none => exact h
  | some d => obtain ⟨v, e, r⟩ := h; exact ⟨v, e, Rep.stay d r t⟩
theorem StR.stay : ∀ {g : Gm} {σ : St} {Q : Fp}, StR k Z H g σ Q → Sth Z H F Z' H' Q → StR k Z' H' g σ Q
  | [], _, _, h, _ => h
  | s :: g, _, _, ⟨o, r, F1, F2, e, h1, h2, hF⟩, t => ⟨o, r, F1, F2, e, h1.stay (t.sub fun a => by rw [hF]; walk_at "fp"), h2.stay (t.sub fun a => by rw [hF]; walk_at "fp"), hF⟩
theorem StR.eqF (h : StR k Z H g σ F) (e : ∀ a, F' a = F a) : StR k Z H g σ F' := by
  have : F' = F := funext e
  rw [this]; exact h
theorem StR.len : ∀ {g : Gm} {σ : St} {F : Fp}, StR k Z H g σ F → g.length = σ.length
  | [], _, _, h => by rw [h.1]; rfl
  | s :: g, _, _, ⟨o, r, _, _, e, _, h2, _⟩ => by rw [e, List.length_cons, List.length_cons, h2.len]
/-- a slot is looked at, and may get another thing -/
theorem StR.slot : ∀ {g : Gm} {σ : St} {F : Fp} {i : Nat} {s : Option D}, StR k Z H g σ F → g[i]? = some s → ∃ o Fd R, σ[i]? = some o ∧ SlotR k Z H s o Fd ∧ (∀ a, F a = Fd a + R a) ∧
    ∀ {Z' H' s' o' F'}, SlotR k Z' H' s' o' F' → Sth Z H Fd Z' H' R → StR k Z' H' (g.set i s') (σ.set i o') fun a => F' a + R a
  | s :: g, _, F, 0, s', ⟨o, r, F1, F2, e, h1, h2, hF⟩, hi => by
    simp only [List.getElem?_cons_zero, Option.some.injEq] at hi
    subst hi e
    exact ⟨o, F1, F2, rfl, h1, hF, fun h t => ⟨_, _, _, F2, rfl, h, h2.stay t, fun _ => rfl⟩⟩
  | s :: g, _, F, i + 1, s', ⟨o, r, F1, F2, e, h1, h2, hF⟩, hi => by
    simp only [List.getElem?_cons_succ] at hi
    subst e
    obtain ⟨o2, Fd, R, e2, h3, hF2, up⟩ := h2.slot hi
    refine ⟨o2, Fd, fun a => F1 a + R a, by simpa using e2, h3, fun a => by rw [hF, hF2]; walk_at "fp", fun {Z' H' s'' o' F'} h t => ?_⟩
    refine ⟨o, _, F1, fun a => F' a + R a, rfl, h1.stay (t.sub fun a => by walk_at "fp"), up h (t.sub fun a => by walk_at "fp"), fun a => by walk_at "fp"⟩
theorem getS_some {i : Nat} {d : D} (h : getS g i = some d) : g[i]? = some (some d) := by
  unfold getS at h
  cases e : g[i]? with
  | none => rw [e] at h; cases h
  | some s => rw [e] at h; simp at h; rw [h]
theorem StR.get {i : Nat} {d : D} (h : StR k Z H g σ F) (e : getS g i = some d) : ∃ v Fd R, σ[i]? = some (some v) ∧ Rep k Z H d v Fd ∧ (∀ a, F a = Fd a + R a) ∧
    ∀ {Z' H' s' o' F'}, SlotR k Z' H' s' o' F' → Sth Z H Fd Z' H' R → StR k Z' H' (g.set i s') (σ.set i o') fun a => F' a + R a := by
  obtain ⟨o, Fd, R, e1, ⟨v, e2, r⟩, hF, up⟩ := h.slot (getS_some e)
  subst e2
  exact ⟨v, Fd, R, e1, r, hF, up⟩
theorem set_same {i : Nat} {o : Option V} (h : σ[i]? = some o) : σ.set i o = σ := by
  obtain ⟨hl, e⟩ := List.getElem?_eq_some_iff.mp h
  rw [← e]; exact List.set_getElem_self hl
/-- a slot's thing is dropped -/
theorem StR.clr : ∀ {g : Gm} {σ : St} {F : Fp} (i : Nat), StR k Z H g σ F → ∃ F', StR k Z H (g.set i none) σ F' ∧ ∀ a, F' a ≤ F a
  | [], _, F, _, h => ⟨F, h, fun _ => Nat.le_refl _⟩
  | s :: g, _, F, 0, ⟨o, r, F1, F2, e, h1, h2, hF⟩ => ⟨F2, ⟨o, r, fp0, F2, e, fun _ => rfl, h2, fun a => by simp⟩, fun a => by rw [hF]; walk_at "fp"⟩
  | s :: g, _, F, i + 1, ⟨o, r, F1, F2, e, h1, h2, hF⟩ => by
    obtain ⟨F', h3, hl⟩ := h2.clr i
    exact ⟨fun a => F1 a + F' a, ⟨o, r, F1, F', e, h1, h3, fun _ => rfl⟩, fun a => by rw [hF]; have := hl a; walk_at "fp"⟩
theorem StR.clrs : ∀ (is : List Nat) {g : Gm} {F : Fp}, StR k Z H g σ F → ∃ F', StR k Z H (VS.clrs is g) σ F' ∧ ∀ a, F' a ≤ F a
  | [], g, F, h => ⟨F, h, fun _ => Nat.le_refl _⟩
  | i :: is, g, F, h => by
    obtain ⟨F1, h1, l1⟩ := h.clr i
    obtain ⟨F2, h2, l2⟩ := StR.clrs is h1
    exact ⟨F2, h2, fun a => Nat.le_trans (l2 a) (l1 a)⟩

/-! ### an item of a list of things -/
theorem Reps.at : ∀ {ds : List D} {vs : List V} {F : Fp} {j : Nat} {d : D}, Reps k Z H ds vs F → ds[j]? = some d → ∃ v Fd R, vs[j]? = some v ∧ Rep k Z H d v Fd ∧ (∀ a, F a = Fd a + R a) ∧
    ∀ {Z' H' d' v' F'}, Rep k Z' H' d' v' F' → Sth Z H Fd Z' H' R → Reps k Z' H' (ds.set j d') (vs.set j v') fun a => F' a + R a
  | [], _, _, _, _, _, h => by simp at h
  | e :: ds, _, F, 0, d, h, hj => by
    simp only [Reps] at h
    obtain ⟨v, r, F1, F2, rfl, h1, h2, hF⟩ := h
    simp only [List.getElem?_cons_zero, Option.some.injEq] at hj
    subst hj
    refine ⟨v, F1, F2, rfl, h1, hF, fun {Z' H' d' v' F'} h t => ?_⟩
    simp only [List.set_cons_zero, Reps]
    exact ⟨v', r, F', F2, rfl, h, Reps.stay ds h2 t, fun _ => rfl⟩
  | e :: ds, _, F, j + 1, d, h, hj => by
    simp only [Reps] at h
    obtain ⟨v, r, F1, F2, rfl, h1, h2, hF⟩ := h
    simp only [List.getElem?_cons_succ] at hj
    obtain ⟨v2, Fd, R, e2, h3, hF2, up⟩ := h2.at hj
    refine ⟨v2, Fd, fun a => F1 a + R a, by simpa using e2, h3, fun a => by rw [hF, hF2]; walk_at "fp", fun {Z' H' d' v' F'} h t => ?_⟩
    simp only [List.set_cons_succ, Reps]
    exact ⟨v, _, F1, fun a => F' a + R a, rfl, Rep.stay e h1 (t.sub fun a => by walk_at "fp"), up h (t.sub fun a => by walk_at "fp"), fun a => by walk_at "fp"⟩
theorem Reps.atz {ds : List D} {vs : List V} {F : Fp} {j : Nat} {d : D} (h : Reps k Z H ds vs F) (e : ds[j]? = some d) : ∃ v Fd, vs[j]? = some v ∧ Rep k Z H d v Fd ∧ ∀ a, Fd a ≤ F a := by
  obtain ⟨v, Fd, R, e1, r, hF, _⟩ := h.at e
  exact ⟨v, Fd, e1, r, fun a => by rw [hF]; walk_at "fp"⟩
theorem ixN_lt {n : Nat} {i : Int} {j : Nat} (h : ixN n i = some j) : j < n := by
  unfold ixN at h
  split at h
  · split at h
    · cases h; walk_at "fp"
    · cases h
  · split at h
    · cases h; walk_at "fp"
    · cases h
theorem set_self {α : Type} {l : List α} {j : Nat} {x : α} (h : l[j]? = some x) : l.set j x = l := by
  obtain ⟨hl, e⟩ := List.getElem?_eq_some_iff.mp h
  rw [← e]; exact List.set_getElem_self hl

/-! ### plain reckoning over the slots -/
def SXAt (σ : St) : SX → Int → Prop
  | .num i, n => n = i
  | .var j, n => σ[j]? = some (some (.int n))
  | .add a b, n => ∃ x y, SXAt σ a x ∧ SXAt σ b y ∧ n = x + y
  | .sub a b, n => ∃ x y, SXAt σ a x ∧ SXAt σ b y ∧ n = x - y
  | .neg a, n => ∃ x, SXAt σ a x ∧ n = -x
theorem StR.sx (h : StR k Z H g σ F) : ∀ {e : SX} {n : Int}, evS e g = some n → SXAt σ e n
  | .num i, n, q => by simp only [evS, Option.some.injEq] at q; exact q.symm
  | .var j, n, q => by
    simp only [evS] at q
    split at q
    · rename_i m hm
      cases q
      obtain ⟨v, _, _, e1, r, _⟩ := h.get hm
      simp only [Rep] at r
      rw [r.1] at e1; exact e1
    · cases q
  | .add a b, n, q => by
    simp only [evS] at q
    split at q
    · rename_i x y hx hy
      cases q
      exact ⟨x, y, h.sx hx, h.sx hy, rfl⟩
    · cases q
  | .sub a b, n, q => by
    simp only [evS] at q
    split at q
    · rename_i x y hx hy
      cases q
      exact ⟨x, y, h.sx hx, h.sx hy, rfl⟩
    · cases q
  | .neg a, n, q => by
    simp only [evS] at q
    split at q
    · rename_i x hx
      cases q
      exact ⟨x, h.sx hx, rfl⟩
    · cases q

/-! ### places -/
def Acc (k : KX) (σ : St) (H : Hp) : PL → V → Prop
  | .slot i, v => σ[i]? = some (some v)
  | .ix p e, v => ∃ a vs i, Acc k σ H p (.ref a) ∧ SXAt σ e i ∧ (SqL k.K H a vs ∨ SqT k.K H a vs) ∧ atI vs i = some v
  | .att p c j, v => ∃ a dx vs f, Acc k σ H p (.ref a) ∧ H a = some (.ins (k.ad c) dx ((k.fl c).zip vs)) ∧ (k.fl c)[j]? = some f ∧ vs[j]? = some v

/-- the place's thing, apart; another one may come to it -/
def Foc (k : KX) (Z : Zs) (H : Hp) (g : Gm) (σ : St) (F : Fp) (p : PL) (d : D) (v : V) : Prop :=
  ∃ Fd R, (∀ a, F a = Fd a + R a) ∧ Rep k Z H d v Fd ∧ ∀ {Z' H' d' F' g'}, setPl p d' g = some g' → Rep k Z' H' d' v F' → Sth Z H Fd Z' H' R → StR k Z' H' g' σ fun a => F' a + R a
theorem Sth.more {Fd Fe R1 R2 : Fp} (t : Sth Z H Fd Z' H' R1) (h1 : ∀ a, Fd a ≤ Fe a) (h2 : ∀ a, Fe a + R2 a ≤ Fd a + R1 a) : Sth Z H Fe Z' H' R2 :=
  ⟨t.z, fun b o e q => t.kp b o e (by have := h1 b; omega), t.good.less h2⟩
theorem atI_of {α : Type} {vs : List α} {i : Int} {j : Nat} {v : α} (h : ixN vs.length i = some j) (e : vs[j]? = some v) : atI vs i = some v := by
  unfold atI; rw [h]; exact e
theorem focus (h : StR k Z H g σ F) (gd : Good Z H F) : ∀ (p : PL) {d : D}, getPl p g = some d → ∃ v, Acc k σ H p v ∧ Foc k Z H g σ F p d v
  | .slot i, d, e => by
    simp only [getPl] at e
    obtain ⟨v, Fd, R, e1, r, hF, up⟩ := h.get e
    refine ⟨v, e1, Fd, R, hF, r, fun {Z' H' d' F' g'} e2 r' t => ?_⟩
    simp only [setPl] at e2
    split at e2
    · cases e2
      have := up (s' := some d') (o' := some v) ⟨v, rfl, r'⟩ t
      rw [set_same e1] at this
      exact this
    · cases e2
  | .ix p x, d, e => by
    simp only [getPl] at e
    split at e
    · rename_i ob ds i hp hx
      obtain ⟨v0, ac, Fd, R, hF, r0, up⟩ := focus h gd p hp
      have hx' := hx
      cases hj : ixN ds.length i with
      | none => rw [hj] at e; cases e
      | some j =>
        rw [hj] at e
        have e : ds[j]? = some d := e
        rw [rep_lst] at r0
        obtain ⟨a, vs, G, rfl, q, rs, gz, hG⟩ := r0
        obtain ⟨v, F1, R1, e1, r1, hF1, up1⟩ := rs.at e
        have hl := rs.len
        refine ⟨v, ⟨a, vs, i, ac, h.sx hx, .inl q.sq, atI_of (by rw [← hl]; exact hj) e1⟩, F1, fun b => R b + R1 b + one ob a b, fun b => by rw [hF, hG, hF1]; walk_at "fp", r1, fun {Z' H' d' F' g'} e2 r' t => ?_⟩
        · simp only [setPl] at e2
          rw [hp, hx'] at e2
          cases ob with
          | false => cases e2
          | true =>
            simp only at e2
            rw [hj] at e2
            have q := q.own
            have keepA : H' a = some (.lst vs) := t.own (by rw [one_self]; walk_at "fp") q
            have rs' := up1 r' (t.more (fun _ => Nat.le_refl _) fun b => by walk_at "fp")
            have r2 : Rep k Z' H' (.lst true (ds.set j d')) (.ref a) fun b => F' b + R1 b + one true a b := by
              rw [rep_lst]
              refine ⟨a, vs, fun b => F' b + R1 b, rfl, .ofOwn keepA, ?_, fun z => (by cases z), fun b => rfl⟩
              rw [set_self e1] at rs'
              exact rs'
            have := up e2 r2 (t.more (fun b => by rw [hG, hF1]; walk_at "fp") fun b => by rw [hG, hF1]; walk_at "fp")
            exact this.eqF fun b => by walk_at "fp"
    · rename_i ds i hp hx
      obtain ⟨v0, ac, Fd, R, hF, r0, up⟩ := focus h gd p hp
      cases hj : ixN ds.length i with
      | none => rw [hj] at e; cases e
      | some j =>
        rw [hj] at e
        have e : ds[j]? = some d := e
        rw [rep_tup] at r0
        obtain ⟨a, vs, rfl, q, rs⟩ := r0
        obtain ⟨v, F1, R1, e1, r1, hF1, up1⟩ := rs.at e
        have hl := rs.len
        refine ⟨v, ⟨a, vs, i, ac, h.sx hx, .inr q, atI_of (by rw [← hl]; exact hj) e1⟩, F1, fun b => R b + R1 b, fun b => by rw [hF, hF1]; walk_at "fp", r1, fun {Z' H' d' F' g'} e2 r' t => ?_⟩
        simp only [setPl] at e2
        rw [hp, hx] at e2
        simp only at e2
        rw [hj] at e2
        have rs' := up1 r' (t.more (fun _ => Nat.le_refl _) fun b => by walk_at "fp")
        have r2 : Rep k Z' H' (.tup (ds.set j d')) (.ref a) fun b => F' b + R1 b := by
          rw [rep_tup]
          rw [set_self e1] at rs'
          exact ⟨a, vs, rfl, t.tup q, rs'⟩
        have := up e2 r2 (t.more (fun b => by rw [hF1]; walk_at "fp") fun b => by rw [hF1]; walk_at "fp")
        exact this.eqF fun b => by walk_at "fp"
    · cases e
  | .att p c j, d, e => by
    simp only [getPl] at e
    split at e
    · rename_i c' ds hp
      split at e
      · rename_i hc
        subst hc
        obtain ⟨v0, ac, Fd, R, hF, r0, up⟩ := focus h gd p hp
        rw [rep_ins] at r0
        obtain ⟨a, dx, vs, G, rfl, q, hfl, rs, gz, hG⟩ := r0
        obtain ⟨v, F1, R1, e1, r1, hF1, up1⟩ := rs.at e
        have hl := rs.len
        have hjl : j < ds.length := (List.getElem?_eq_some_iff.mp e).1
        have q := q.own
        obtain ⟨f, hf⟩ : ∃ f, (k.fl c')[j]? = some f := ⟨_, List.getElem?_eq_getElem (by walk_at "fp")⟩
        refine ⟨v, ⟨a, dx, vs, f, ac, q, hf, e1⟩, F1, fun b => R b + R1 b + one true a b, fun b => by rw [hF, hG, hF1]; walk_at "fp", r1, fun {Z' H' d' F' g'} e2 r' t => ?_⟩
        simp only [setPl] at e2
        rw [hp] at e2
        simp only [true_and] at e2
        rw [if_pos hjl] at e2
        have keepA := t.own (by rw [one_self]; walk_at "fp") q
        have rs' := up1 r' (t.more (fun _ => Nat.le_refl _) fun b => by walk_at "fp")
        have r2 : Rep k Z' H' (.ins true c' (ds.set j d')) (.ref a) fun b => F' b + R1 b + one true a b := by
          rw [rep_ins]
          refine ⟨a, dx, vs, fun b => F' b + R1 b, rfl, .ofOwn keepA, by rw [List.length_set]; exact hfl, ?_, fun z => (by cases z), fun b => rfl⟩
          rw [set_self e1] at rs'
          exact rs'
        have := up e2 r2 (t.more (fun b => by rw [hG, hF1]; walk_at "fp") fun b => by rw [hG, hF1]; walk_at "fp")
        exact this.eqF fun b => by walk_at "fp"
      · cases e
    · cases e
end
end VS
end

section
set_option maxHeartbeats 1000000
/-! VS4: the operations by values: what the hand layer's rules give. -/
namespace VS
open PySem PySem.Spec PyProof.Rows L2
local macro_rules | `(tactic| walk_at "fp") => `(tactic| ((try dsimp only at *); omega))

/-- each stands, whoever owns it -/
def RE (k : KX) (Z : Zs) (H : Hp) : List D → List V → Prop := fun ds vs => Paired (fun d v => ∃ F, Rep k Z H d v F) ds vs
/-- what is wanted of an operation's answer -/
def Ans (k : KX) (Z : Zs) (H : Hp) (d : D) (Q : VK) : Prop := ∀ v H' Z' F, Rep k Z' H' d v F → Step Z H fp0 Z' H' F → Q v H'
def rD (k : KX) (f : List D → Option D) : List V → Hp → VK → Prop := fun vs H Q => ∃ Z ds d, RE k Z H ds vs ∧ Good Z H fp0 ∧ f ds = some d ∧ Ans k Z H d Q
def rD2 (k : KX) (f : List D → Option D) : R2 := fun x y H Q => rD k f [x, y] H Q

section
variable {k : KX} {Z Z' : Zs} {H H' : Hp} {F F' G : Fp} {Q : VK} {d : D} {v : V} {ds : List D} {vs : List V}
theorem RE.two {ds : List D} {x y : V} (h : RE k Z H ds [x, y]) : ∃ a b, ds = [a, b] ∧ (∃ F, Rep k Z H a x F) ∧ ∃ F, Rep k Z H b y F := by
  cases h with
  | cons h1 t => cases t with
    | cons h2 t => cases t; exact ⟨_, _, rfl, h1, h2⟩
theorem RE.one {ds : List D} {x : V} (h : RE k Z H ds [x]) : ∃ a, ds = [a] ∧ ∃ F, Rep k Z H a x F := by
  cases h with
  | cons h1 t => cases t; exact ⟨_, rfl, h1⟩
theorem Ans.same (h : Ans k Z H d Q) (g : Good Z H fp0) (r : Rep k Z H d v fp0) : Q v H := h v H Z fp0 r (Step.refl g)
theorem Ans.int {i : Int} (h : Ans k Z H (.int i) Q) (g : Good Z H fp0) : Q (.int i) H := h.same g (by rw [Rep]; exact ⟨rfl, fun _ => rfl⟩)
theorem Ans.bl {b : Bool} (h : Ans k Z H (.bl b) Q) (g : Good Z H fp0) : Q (.bl b) H := h.same g (by rw [Rep]; exact ⟨rfl, fun _ => rfl⟩)
theorem Ans.str {x : Str} (h : Ans k Z H (.str x) Q) (g : Good Z H fp0) : Q (.str x) H := h.same g (by rw [Rep]; exact ⟨rfl, fun _ => rfl⟩)
theorem Ans.non (h : Ans k Z H .non Q) (g : Good Z H fp0) : Q .non H := h.same g (by rw [Rep]; exact ⟨rfl, fun _ => rfl⟩)
/-- a new object -/
theorem keep_upd {p : Addr} {o : HO} (hp : H p = none) : Keep F H (upd H p o) := fun b u e _ => by rw [upd_ne (ne_of_none e hp)]; exact e
theorem Good.upd {p : Addr} {o : HO} (g : Good Z H F) (hp : H p = none) : Good Z (upd H p o) F :=
  ⟨g.le, g.nz, fun a h => by obtain ⟨u, e, w⟩ := g.ob a h; exact ⟨u, by rw [upd_ne (ne_of_none e hp)]; exact e, w⟩, fun a h => by obtain ⟨u, e⟩ := g.zh a h; exact ⟨u, by rw [upd_ne (ne_of_none e hp)]; exact e⟩⟩
theorem Good.new {p : Addr} {o : HO} (g : Good Z H F) (hp : H p = none) (w : Own1 o) : Good Z (L2.upd H p o) fun a => F a + one true p a := by
  have hf : F p = 0 := by
    cases q : F p with
    | zero => rfl
    | succ n => obtain ⟨u, e, _⟩ := g.ob p (by omega); rw [hp] at e; cases e
  have hz : ¬ Z p := fun z => by obtain ⟨u, e⟩ := g.zh p z; rw [hp] at e; cases e
  refine ⟨fun a => ?_, fun a h => ?_, fun a h => ?_, fun a h => ?_⟩
  · by_cases e : a = p
    · subst e; rw [one_self, hf]; exact Nat.le_refl _
    · rw [one_ne e]; have := g.le a; omega
  · by_cases e : a = p
    · subst e; exact hz
    · rw [one_ne e] at h; exact g.nz a (by omega)
  · by_cases e : a = p
    · subst e; exact ⟨_, upd_same, w⟩
    · rw [one_ne e] at h
      obtain ⟨u, e', w⟩ := g.ob a (by omega)
      exact ⟨u, by rw [upd_ne e]; exact e', w⟩
  · obtain ⟨u, e'⟩ := g.zh a h
    exact ⟨u, by rw [upd_ne (ne_of_none e' hp)]; exact e'⟩
theorem sth0 (hp : H p = none) (g : Good Z H F) {o : HO} : Sth Z H fp0 Z (L2.upd H p o) F := ⟨fun _ h => h, keep_upd hp, g.eq fun a => by simp⟩
theorem Step.newL {p : Addr} (g : Good Z H fp0) (hp : H p = none) {o : HO} (w : Own1 o) : Step Z H fp0 Z (L2.upd H p o) (one true p) :=
  ⟨fun _ h => h, fun _ h => .inl h, fun a h => by
    by_cases e : a = p
    · subst e; exact .inr hp
    · rw [one_ne e] at h; omega, keep_upd hp, (g.new hp w).eq fun a => by simp⟩
theorem Step.newT {p : Addr} (g : Good Z H fp0) (hp : H p = none) {o : HO} : Step Z H fp0 Z (L2.upd H p o) fp0 :=
  ⟨fun _ h => h, fun _ h => .inl h, fun a h => by simp at h, keep_upd hp, g.upd hp⟩
/-- unowned things stay as the heap grows -/
theorem Reps.grow {p : Addr} {o : HO} (r : Reps k Z H ds vs fp0) (g : Good Z H fp0) (hp : H p = none) : Reps k Z (L2.upd H p o) ds vs fp0 := Reps.stay ds r (sth0 hp g)
theorem Ans.lst (h : Ans k Z H (.lst true ds) Q) (g : Good Z H fp0) (r : Reps k Z H ds vs fp0) : ∀ p, H p = none → Q (.ref p) (upd H p (.lst vs)) := fun p hp =>
  h (.ref p) _ Z (one true p) (by
    rw [rep_lst]
    exact ⟨p, vs, fp0, rfl, .ofOwn upd_same, r.grow g hp, fun z => (by cases z), fun b => by simp⟩) (Step.newL g hp trivial)
theorem Ans.tup (h : Ans k Z H (.tup ds) Q) (g : Good Z H fp0) (r : Reps k Z H ds vs fp0) : ∀ p, H p = none → Q (.ref p) (upd H p (.tup vs)) := fun p hp =>
  h (.ref p) _ Z fp0 (by
    rw [rep_tup]
    exact ⟨p, vs, rfl, SqT.of upd_same, r.grow g hp⟩) (Step.newT g hp)

theorem rep_int {i : Int} (h : Rep k Z H (.int i) v F) : v = .int i := by rw [Rep] at h; exact h.1
theorem rep_bl {i : Bool} (h : Rep k Z H (.bl i) v F) : v = .bl i := by rw [Rep] at h; exact h.1
theorem rep_str {i : Str} (h : Rep k Z H (.str i) v F) : v = .str i := by rw [Rep] at h; exact h.1
theorem rep_non (h : Rep k Z H .non v F) : v = .non := by rw [Rep] at h; exact h.1
theorem rep_ty {n : String} (h : Rep k Z H (.ty n) v F) : v = .ty n := by rw [Rep] at h; exact h.1
theorem rep_seq {o : Bool} (h : Rep k Z H (.lst o ds) v F) : ∃ a vs G, v = .ref a ∧ SqL k.K H a vs ∧ Reps k Z H ds vs G ∧ ds.length = vs.length := by
  rw [rep_lst] at h
  obtain ⟨a, vs, G, e, q, r, _⟩ := h
  exact ⟨a, vs, G, e, q.sq, r, r.len⟩
theorem rep_seqT (h : Rep k Z H (.tup ds) v F) : ∃ a vs G, v = .ref a ∧ SqT k.K H a vs ∧ Reps k Z H ds vs G ∧ ds.length = vs.length := by
  rw [rep_tup] at h
  obtain ⟨a, vs, e, q, r⟩ := h
  exact ⟨a, vs, F, e, q, r, r.len⟩
theorem Reps.un (r : Reps k Z H ds vs F) (n : noOwns ds = true) : Reps k Z H ds vs fp0 := r.eqF fun a => by rw [r.nown n]
theorem Rep.un (r : Rep k Z H d v F) (n : noOwn d = true) : Rep k Z H d v fp0 := r.eqF fun a => by rw [r.nown n]
theorem Reps.append : ∀ {ds es : List D} {vs ws : List V} {F G : Fp}, Reps k Z H ds vs F → Reps k Z H es ws G → Reps k Z H (ds ++ es) (vs ++ ws) fun a => F a + G a
  | [], es, vs, ws, F, G, h, h' => by
    rw [reps_nil] at h
    rw [h.1]
    exact h'.eqF fun a => by rw [h.2]; simp
  | d :: ds, es, vs, ws, F, G, h, h' => by
    rw [reps_cons] at h
    obtain ⟨v, r, F1, F2, rfl, h1, h2, hF⟩ := h
    rw [List.cons_append, List.cons_append, reps_cons]
    exact ⟨v, r ++ ws, F1, fun a => F2 a + G a, rfl, h1, Reps.append h2 h', fun a => by rw [hF]; walk_at "fp"⟩
theorem Reps.append0 {es : List D} {ws : List V} (h : Reps k Z H ds vs fp0) (h' : Reps k Z H es ws fp0) : Reps k Z H (ds ++ es) (vs ++ ws) fp0 := (h.append h').eqF fun a => rfl
theorem Reps.take0 : ∀ {ds : List D} {vs : List V} (n : Nat), Reps k Z H ds vs fp0 → Reps k Z H (ds.take n) (vs.take n) fp0
  | ds, vs, 0, h => by simp only [List.take_zero]; rw [reps_nil]; exact ⟨rfl, fun _ => rfl⟩
  | [], vs, n + 1, h => by rw [reps_nil] at h; rw [h.1]; simp only [List.take_nil]; rw [reps_nil]; exact ⟨rfl, fun _ => rfl⟩
  | d :: ds, vs, n + 1, h => by
    rw [reps_cons] at h
    obtain ⟨v, r, F1, F2, rfl, h1, h2, hF⟩ := h
    have e1 : ∀ a, F1 a = 0 := fun a => by have : 0 = F1 a + F2 a := hF a; omega
    have e2 : ∀ a, F2 a = 0 := fun a => by have : 0 = F1 a + F2 a := hF a; omega
    simp only [List.take_succ_cons]
    rw [reps_cons]
    exact ⟨v, _, F1, fp0, rfl, h1, Reps.take0 n (h2.eqF fun a => (e2 a).symm), fun a => by rw [e1]; rfl⟩
theorem Reps.drop0 : ∀ {ds : List D} {vs : List V} (n : Nat), Reps k Z H ds vs fp0 → Reps k Z H (ds.drop n) (vs.drop n) fp0
  | ds, vs, 0, h => h
  | [], vs, n + 1, h => by rw [reps_nil] at h; rw [h.1]; simp only [List.drop_nil]; rw [reps_nil]; exact ⟨rfl, fun _ => rfl⟩
  | d :: ds, vs, n + 1, h => by
    rw [reps_cons] at h
    obtain ⟨v, r, F1, F2, rfl, h1, h2, hF⟩ := h
    have e2 : ∀ a, F2 a = 0 := fun a => by have : 0 = F1 a + F2 a := hF a; omega
    simp only [List.drop_succ_cons]
    exact Reps.drop0 n (h2.eqF fun a => (e2 a).symm)
theorem Reps.rep0 : ∀ (n : Nat), Reps k Z H ds vs fp0 → Reps k Z H (List.flatten (List.replicate n ds)) (List.flatten (List.replicate n vs)) fp0
  | 0, _ => by simp only [List.replicate_zero, List.flatten_nil]; rw [reps_nil]; exact ⟨rfl, fun _ => rfl⟩
  | n + 1, h => by
    simp only [List.replicate_succ, List.flatten_cons]
    exact h.append0 (Reps.rep0 n h)
theorem Reps.ints : ∀ {ds : List D} {vs : List V} {ns : List Int} {F : Fp}, Reps k Z H ds vs F → intsD ds = some ns → vs = ns.map V.int
  | [], _, _, _, h, e => by
    rw [reps_nil] at h
    simp only [intsD, Option.some.injEq] at e
    subst e; rw [h.1]; rfl
  | .int i :: ds, _, ns, _, h, e => by
    rw [reps_cons] at h
    obtain ⟨v, r, F1, F2, rfl, h1, h2, hF⟩ := h
    simp only [intsD, Option.map_eq_some_iff] at e
    obtain ⟨ms, e1, rfl⟩ := e
    rw [rep_int h1, Reps.ints h2 e1]; rfl
  | .non :: _, _, _, _, _, e => by simp [intsD] at e
  | .bl _ :: _, _, _, _, _, e => by simp [intsD] at e
  | .str _ :: _, _, _, _, _, e => by simp [intsD] at e
  | .ty _ :: _, _, _, _, _, e => by simp [intsD] at e
  | .gl _ :: _, _, _, _, _, e => by simp [intsD] at e
  | .tup _ :: _, _, _, _, _, e => by simp [intsD] at e
  | .lst _ _ :: _, _, _, _, _, e => by simp [intsD] at e
  | .dk _ _ _ :: _, _, _, _, _, e => by simp [intsD] at e
  | .dt _ _ _ :: _, _, _, _, _, e => by simp [intsD] at e
  | .ins _ _ _ :: _, _, _, _, _, e => by simp [intsD] at e
theorem Reps.bools : ∀ {ds : List D} {vs : List V} {ns : List Bool} {F : Fp}, Reps k Z H ds vs F → boolsD ds = some ns → vs = ns.map V.bl
  | [], _, _, _, h, e => by
    rw [reps_nil] at h
    simp only [boolsD, Option.some.injEq] at e
    subst e; rw [h.1]; rfl
  | .bl i :: ds, _, ns, _, h, e => by
    rw [reps_cons] at h
    obtain ⟨v, r, F1, F2, rfl, h1, h2, hF⟩ := h
    simp only [boolsD, Option.map_eq_some_iff] at e
    obtain ⟨ms, e1, rfl⟩ := e
    rw [rep_bl h1, Reps.bools h2 e1]; rfl
  | .non :: _, _, _, _, _, e => by simp [boolsD] at e
  | .int _ :: _, _, _, _, _, e => by simp [boolsD] at e
  | .str _ :: _, _, _, _, _, e => by simp [boolsD] at e
  | .ty _ :: _, _, _, _, _, e => by simp [boolsD] at e
  | .gl _ :: _, _, _, _, _, e => by simp [boolsD] at e
  | .tup _ :: _, _, _, _, _, e => by simp [boolsD] at e
  | .lst _ _ :: _, _, _, _, _, e => by simp [boolsD] at e
  | .dk _ _ _ :: _, _, _, _, _, e => by simp [boolsD] at e
  | .dt _ _ _ :: _, _, _, _, _, e => by simp [boolsD] at e
  | .ins _ _ _ :: _, _, _, _, _, e => by simp [boolsD] at e
end

/-! ### data -/
mutual
def toPy : D → PyData
  | .non => .none
  | .bl b => .bool b
  | .int i => .int i
  | .str x => .str x
  | .tup ds => .tuple (toPys ds)
  | .lst _ ds => .list (toPys ds)
  | _ => .none
def toPys : List D → List PyData
  | [] => []
  | d :: ds => toPy d :: toPys ds
end
mutual
theorem plain_py : ∀ (d : D) (n : Nat), plain d n = true → (toPy d).canLay0 = true ∧ (toPy d).depth ≤ n
  | .non, _, _ => ⟨by simp [toPy, PyData.canLay0], by simp [toPy, PyData.depth]⟩
  | .bl _, _, _ => ⟨by simp [toPy, PyData.canLay0], by simp [toPy, PyData.depth]⟩
  | .int _, _, _ => ⟨by simp [toPy, PyData.canLay0], by simp [toPy, PyData.depth]⟩
  | .str x, _, h => ⟨by simp only [plain] at h; simp only [toPy, PyData.canLay0]; exact h, by simp [toPy, PyData.depth]⟩
  | .tup _, 0, h => by simp [plain] at h
  | .lst _ _, 0, h => by simp [plain] at h
  | .tup ds, n + 1, h => by
    simp only [plain] at h
    obtain ⟨h1, h2⟩ := plains_py ds n h
    simp only [toPy, PyData.canLay0, PyData.depth]
    exact ⟨h1, by omega⟩
  | .lst _ ds, n + 1, h => by
    simp only [plain] at h
    obtain ⟨h1, h2⟩ := plains_py ds n h
    simp only [toPy, PyData.canLay0, PyData.depth]
    exact ⟨h1, by omega⟩
  | .ty _, _, h => by simp [plain] at h
  | .gl _, _, h => by simp [plain] at h
  | .dk _ _ _, _, h => by simp [plain] at h
  | .dt _ _ _, _, h => by simp [plain] at h
  | .ins _ _ _, _, h => by simp [plain] at h
theorem plains_py : ∀ (ds : List D) (n : Nat), plains ds n = true → PyData.canLayAll0 (toPys ds) = true ∧ PyData.depthAll (toPys ds) ≤ n
  | [], _, _ => ⟨by simp [toPys, PyData.canLayAll0], by simp [toPys, PyData.depthAll]⟩
  | d :: ds, n, h => by
    simp only [plains, Bool.and_eq_true] at h
    obtain ⟨h1, h2⟩ := plain_py d n h.1
    obtain ⟨h3, h4⟩ := plains_py ds n h.2
    simp only [toPys, PyData.canLayAll0, PyData.depthAll, Bool.and_eq_true]
    exact ⟨⟨h1, h3⟩, by omega⟩
end
theorem plain_shaped {n : Nat} {d : D} (hn : n ≤ 64) (h : plain d n = true) : SeqAt.shaped (toPy d) = true := by
  obtain ⟨h1, h2⟩ := plain_py d n h
  show ((toPy d).canLay0 && decide ((toPy d).depth ≤ 64)) = true
  rw [h1, Bool.true_and]
  exact decide_eq_true (by omega)
mutual
theorem plain_dp {k : KX} {Z : Zs} {H : Hp} : ∀ (d : D) (n : Nat) {v : V} {F : Fp}, plain d n = true → Rep k Z H d v F → Dp k.K H v (toPy d)
  | .non, _, _, _, _, r => by rw [rep_non r, toPy]; exact .non
  | .bl _, _, _, _, _, r => by rw [rep_bl r, toPy]; exact .bl _
  | .int _, _, _, _, _, r => by rw [rep_int r, toPy]; exact .int _
  | .str x, _, _, _, _, r => by rw [rep_str r, toPy]; exact .str _
  | .tup _, 0, _, _, h, _ => by simp [plain] at h
  | .lst _ _, 0, _, _, h, _ => by simp [plain] at h
  | .tup ds, n + 1, _, _, h, r => by
    simp only [plain] at h
    obtain ⟨a, vs, G, rfl, q, rs, _⟩ := rep_seqT r
    rw [toPy]
    exact .tup q (plains_dp ds n h rs)
  | .lst _ ds, n + 1, _, _, h, r => by
    simp only [plain] at h
    obtain ⟨a, vs, G, rfl, q, rs, _⟩ := rep_seq r
    rw [toPy]
    exact .lst q (plains_dp ds n h rs)
  | .ty _, _, _, _, h, _ => by simp [plain] at h
  | .gl _, _, _, _, h, _ => by simp [plain] at h
  | .dk _ _ _, _, _, _, h, _ => by simp [plain] at h
  | .dt _ _ _, _, _, _, h, _ => by simp [plain] at h
  | .ins _ _ _, _, _, _, h, _ => by simp [plain] at h
theorem plains_dp {k : KX} {Z : Zs} {H : Hp} : ∀ (ds : List D) (n : Nat) {vs : List V} {F : Fp}, plains ds n = true → Reps k Z H ds vs F → DpAll k.K H vs (toPys ds)
  | [], _, _, _, _, r => by rw [reps_nil] at r; rw [r.1, toPys]; exact .nil
  | d :: ds, n, _, _, h, r => by
    simp only [plains, Bool.and_eq_true] at h
    rw [reps_cons] at r
    obtain ⟨v, t, F1, F2, rfl, h1, h2, hF⟩ := r
    rw [toPys]
    exact .cons (plain_dp d n h.1 h1) (plains_dp ds n h.2 h2)
end
mutual
theorem deq_py : ∀ (d e : D) (n m : Nat), plain d n = true → plain e m = true → deq d e = PyData.eqv (toPy d) (toPy e)
  | d, e, n, m, h, h' => by
    cases d <;> cases e <;> first
      | (exfalso; simp [plain] at h; done)
      | (exfalso; simp [plain] at h'; done)
      | (simp only [deq, toPy, PyData.eqv]; done)
      | (cases n with
         | zero => (exfalso; simp [plain] at h; done)
         | succ n => cases m with
           | zero => (exfalso; simp [plain] at h'; done)
           | succ m =>
             simp only [plain] at h h'
             simp only [deq, toPy, PyData.eqv]
             exact deqs_py _ _ n m h h')
theorem deqs_py : ∀ (ds es : List D) (n m : Nat), plains ds n = true → plains es m = true → deqs ds es = PyData.eqvAll (toPys ds) (toPys es)
  | [], [], _, _, _, _ => by simp only [deqs, toPys, PyData.eqvAll]
  | [], _ :: _, _, _, _, _ => by simp only [deqs, toPys, PyData.eqvAll]
  | _ :: _, [], _, _, _, _ => by simp only [deqs, toPys, PyData.eqvAll]
  | d :: ds, e :: es, n, m, h, h' => by
    simp only [plains, Bool.and_eq_true] at h h'
    simp only [deqs, toPys, PyData.eqvAll]
    rw [deq_py d e n m h.1 h'.1, deqs_py ds es n m h.2 h'.2]
end
end VS
end

section
set_option maxHeartbeats 1000000
/-! VS5: the rules of the operations by values. -/
namespace VS
open PySem PySem.Spec PyProof.Rows L2

section
variable {X : Cx} {k : KX} (hK : X.K = k.K)
theorem opr_of {f : List D → Option D} {g : Value → Value → Sem Value} (h : ∀ {Z : Zs} {H : Hp} {a b d : D} {x y : V} {Fa Fb : Fp} {Q : VK}, Rep k Z H a x Fa → Rep k Z H b y Fb → Good Z H fp0 → f [a, b] = some d → VS.Ans k Z H d Q →
    ∃ r, OpR X g r ∧ r x y H Q) : OpR X g (rD2 k f) := by
  intro pins s σ H x y v u Q I rx ry ⟨Z, ds, d, re, gd, e, an⟩
  obtain ⟨a, b, rfl, ⟨Fa, ra⟩, ⟨Fb, rb⟩⟩ := re.two
  obtain ⟨r, hr, q⟩ := h ra rb gd e an
  exact hr pins s σ H x y v u Q I rx ry q
theorem opr_int {g : Value → Value → Sem Value} {f : Int → Int → Option D} {op : Op} (hop : ∀ a b, opD op [a, b] = opI2 f a b) {C : Int → Int → Prop} {gv : Int → Int → V}
    (hr : OpR X g (rI C gv)) (h : ∀ i j d, f i j = some d → C i j ∧ ∀ {Z H F}, Rep k Z H d (gv i j) F) : OpR X g (rD2 k (opD op)) := opr_of fun {Z H a b d x y Fa Fb Q} ra rb gd e an => by
  rw [hop] at e
  unfold opI2 at e
  split at e
  · rename_i i j
    obtain ⟨c, r⟩ := h i j d e
    exact ⟨_, hr, i, j, rep_int ra, rep_int rb, c, an.same gd r⟩
  · cases e
theorem opr_sub : OpR X (binaryOp .Sub) (rD2 k (opD .sub)) := opr_of fun {Z H a b d x y Fa Fb Q} ra rb gd e an => by
  replace e : opI2 _ a b = some d := e
  unfold opI2 at e
  split at e
  · cases e
    exact ⟨_, op_sub, _, _, rep_int ra, rep_int rb, an.int gd⟩
  · cases e
theorem opr_mod : OpR X (binaryOp .Mod) (rD2 k (opD .mod)) := opr_of fun {Z H a b d x y Fa Fb Q} ra rb gd e an => by
  replace e : opI2 _ a b = some d := e
  unfold opI2 at e
  split at e
  · dsimp only at e
    split at e
    · rename_i c; cases e
      exact ⟨_, op_mod, _, _, rep_int ra, rep_int rb, c, an.int gd⟩
    · cases e
  · cases e
theorem opr_fdiv : OpR X (binaryOp .FloorDiv) (rD2 k (opD .fdiv)) := opr_of fun {Z H a b d x y Fa Fb Q} ra rb gd e an => by
  replace e : opI2 _ a b = some d := e
  unfold opI2 at e
  split at e
  · dsimp only at e
    split at e
    · rename_i c; cases e
      exact ⟨_, op_fdiv, _, _, rep_int ra, rep_int rb, c, an.int gd⟩
    · cases e
  · cases e
theorem opr_pow : OpR X (binaryOp .Pow) (rD2 k (opD .pow)) := opr_of fun {Z H a b d x y Fa Fb Q} ra rb gd e an => by
  replace e : opI2 _ a b = some d := e
  unfold opI2 at e
  split at e
  · dsimp only at e
    split at e
    · rename_i c; cases e
      exact ⟨_, op_pow, _, _, rep_int ra, rep_int rb, c, an.int gd⟩
    · cases e
  · cases e
theorem opr_lt : OpR X (compareOp .Lt) (rD2 k (opD .lt)) := opr_of fun {Z H a b d x y Fa Fb Q} ra rb gd e an => by
  replace e : opI2 _ a b = some d := e
  unfold opI2 at e
  split at e
  · cases e
    exact ⟨_, op_lt, _, _, rep_int ra, rep_int rb, an.bl gd⟩
  · cases e
theorem opr_le : OpR X (compareOp .LtE) (rD2 k (opD .le)) := opr_of fun {Z H a b d x y Fa Fb Q} ra rb gd e an => by
  replace e : opI2 _ a b = some d := e
  unfold opI2 at e
  split at e
  · cases e
    exact ⟨_, op_le, _, _, rep_int ra, rep_int rb, an.bl gd⟩
  · cases e
theorem opr_gt : OpR X (compareOp .Gt) (rD2 k (opD .gt)) := opr_of fun {Z H a b d x y Fa Fb Q} ra rb gd e an => by
  replace e : opI2 _ a b = some d := e
  unfold opI2 at e
  split at e
  · cases e
    exact ⟨_, op_gt, _, _, rep_int ra, rep_int rb, an.bl gd⟩
  · cases e
theorem opr_ge : OpR X (compareOp .GtE) (rD2 k (opD .ge)) := opr_of fun {Z H a b d x y Fa Fb Q} ra rb gd e an => by
  replace e : opI2 _ a b = some d := e
  unfold opI2 at e
  split at e
  · cases e
    exact ⟨_, op_ge, _, _, rep_int ra, rep_int rb, an.bl gd⟩
  · cases e
include hK in
/-- list + list, whoever holds them -/
theorem op_catL : OpR X (binaryOp .Add) (fun x y H Q => ∃ l b xs zs, x = .ref l ∧ y = .ref b ∧ SqL k.K H l xs ∧ SqL k.K H b zs ∧ xs.length + zs.length ≤ sizeLine ∧ ∀ p, H p = none → Q (.ref p) (upd H p (.lst (xs ++ zs)))) := by
  intro pins s σ H x y v u Q I rx ry h
  obtain ⟨l, b, xs, zs, rfl, rfl, hH, hB, hz, q⟩ := h
  cases rx
  cases ry
  rw [← hK] at hH hB
  obtain ⟨its, r, ⟨⟨cls, dd, data, sl⟩, n, ho, hc, hdn, hd⟩, _⟩ := I.list hH
  obtain ⟨its2, r2, ⟨⟨cls2, dd2, data2, sl2⟩, n2, ho2, hc2, hdn2, hd2⟩, _⟩ := I.list hB
  simp only at hc hd hc2 hd2
  subst hc hd hc2 hd2
  have hl := r.length
  have hl2 := r2.length
  have ea : its.toArray ++ its2.toArray = (its ++ its2).toArray := by simp
  refine PySem.concat_meets ⟨_, ho, rfl⟩ ⟨_, ho2, rfl⟩ PySem.noFill_list_add PySem.seq_list_add PySem.F.slot_list_add PySem.F.entry_list_add (PySem.F.args_list_add_2 _ _) (PyProof.Rows.list_addW l b its.toArray its2.toArray n n2 dd dd2 sl sl2 (by simp; omega)) ⟨ho, ho2, ?_⟩
  rw [ea]
  exact ⟨.ref _, _, I.lnew (t' := s.toks) (r.append r2) (by rw [List.length_append]; omega), rfl, q _ I.fresh⟩
include hK in
theorem opr_add : OpR X (binaryOp .Add) (rD2 k (opD .add)) := opr_of fun {Z H a b d x y Fa Fb Q} ra rb gd e an => by
  replace e : opAdd a b = some d := e
  unfold opAdd at e
  split at e
  · cases e
    exact ⟨_, op_add, _, _, rep_int ra, rep_int rb, an.int gd⟩
  · split at e
    · rename_i c; cases e
      exact ⟨_, op_add_str, _, _, rep_str ra, rep_str rb, c, an.str gd⟩
    · cases e
  · split at e
    · rename_i c; cases e
      obtain ⟨c1, c2, c3⟩ := c
      obtain ⟨p, vs, G, rfl, q, r, l⟩ := rep_seq ra
      obtain ⟨p', ws, G', rfl, q', r', l'⟩ := rep_seq rb
      exact ⟨_, op_catL hK, p, p', vs, ws, rfl, rfl, q, q', by omega, an.lst gd ((r.un c1).append0 (r'.un c2))⟩
    · cases e
  · split at e
    · rename_i c; cases e
      obtain ⟨c1, c2, c3⟩ := c
      obtain ⟨p, vs, G, rfl, q, r, l⟩ := rep_seqT ra
      obtain ⟨p', ws, G', rfl, q', r', l'⟩ := rep_seqT rb
      have r1 := (r.un c1).append0 (r'.un c2)
      refine ⟨_, op_catA, p, p', vs, ws, rfl, rfl, by rw [hK]; exact q, by rw [hK]; exact q', by omega, fun ev => ?_, fun _ ev => ?_, fun _ _ => an.tup gd r1⟩
      · subst ev
        refine an.same gd ?_
        rw [rep_tup]
        exact ⟨p', ws, rfl, q', r1⟩
      · subst ev
        refine an.same gd ?_
        rw [rep_tup]
        rw [List.append_nil] at r1
        exact ⟨p, vs, rfl, q, r1⟩
    · cases e
  · cases e
include hK in
theorem opr_mul : OpR X (binaryOp .Mult) (rD2 k (opD .mul)) := opr_of fun {Z H a b d x y Fa Fb Q} ra rb gd e an => by
  replace e : opMulD a b = some d := e
  unfold opMulD at e
  split at e
  · unfold opMul at e
    split at e
    · rename_i c; cases e
      exact ⟨_, op_mul, _, _, rep_int ra, rep_int rb, c, an.int gd⟩
    · cases e
  · split at e
    · rename_i c; cases e
      obtain ⟨c1, c2, c3, c4⟩ := c
      rw [rep_lst] at ra
      obtain ⟨p, vs, G, rfl, q, r, _⟩ := ra
      have l := r.len
      exact ⟨_, op_rep, p, _, vs, rfl, rep_int rb, q.own, by omega, c3, by rw [← l]; exact c4, an.lst gd (Reps.rep0 _ (r.un c1))⟩
    · cases e
  · rename_i ds i
    split at e
    · rename_i c; cases e
      obtain ⟨c1, c2, c3, c4, c5⟩ := c
      obtain ⟨p, vs, G, rfl, q, r, _⟩ := rep_seqT ra
      have l := r.len
      have rr := Reps.rep0 i.toNat (r.un c1)
      rcases Int.lt_or_eq_of_le c3 with h1 | h1
      · exact ⟨_, op_repT, p, i, vs, rfl, rep_int rb, by rw [hK]; exact q, fun z => c2 (by rw [z] at l; exact List.eq_nil_of_length_eq_zero l), by omega, c4, by omega, an.tup gd rr⟩
      · subst h1
        have e1 : ∀ {α : Type} (l : List α), List.flatten (List.replicate (1 : Int).toNat l) = l := fun l => by
          show List.flatten [l] = l
          simp
        rw [e1, e1] at rr
        refine ⟨_, op_repT1, p, vs, rfl, rep_int rb, by rw [hK]; exact q, an.same gd ?_⟩
        rw [e1, rep_tup]
        exact ⟨p, vs, rfl, q, rr⟩
    · cases e
  · cases e
include hK in
theorem opr_eq (hu : X.A.units + 64 < cLine) : OpR X (compareOp .Eq) (rD2 k (opD .eq)) := opr_of fun {Z H a b d x y Fa Fb Q} ra rb gd e an => by
  replace e : opEq false a b = some d := e
  unfold opEq at e
  split at e
  · rename_i c; cases e
    refine ⟨_, op_eqD hu, toPy a, toPy b, by rw [hK]; exact plain_dp a 60 c.1 ra, by rw [hK]; exact plain_dp b 60 c.2 rb, plain_shaped (by decide) c.1, plain_shaped (by decide) c.2, ?_⟩
    rw [← deq_py a b 60 60 c.1 c.2]
    exact an.bl gd
  · cases e
include hK in
theorem opr_ne (hu : X.A.units + 64 < cLine) : OpR X (compareOp .NotEq) (rD2 k (opD .ne)) := opr_of fun {Z H a b d x y Fa Fb Q} ra rb gd e an => by
  replace e : opEq true a b = some d := e
  unfold opEq at e
  split at e
  · rename_i c; cases e
    refine ⟨_, op_neD hu, toPy a, toPy b, by rw [hK]; exact plain_dp a 60 c.1 ra, by rw [hK]; exact plain_dp b 60 c.2 rb, plain_shaped (by decide) c.1, plain_shaped (by decide) c.2, ?_⟩
    rw [← deq_py a b 60 60 c.1 c.2]
    exact an.bl gd
  · cases e
theorem rep_isn {Z : Zs} {H : Hp} {a : D} {x : V} {F : Fp} (r : Rep k Z H a x F) : decide (x = V.non) = isNonD a := by
  cases a with
  | non => rw [rep_non r]; rfl
  | bl _ => rw [rep_bl r]; rfl
  | int _ => rw [rep_int r]; rfl
  | str _ => rw [rep_str r]; rfl
  | ty _ => rw [rep_ty r]; rfl
  | gl _ => rw [Rep] at r; rw [r.1]; rfl
  | tup _ => obtain ⟨_, _, _, e, _⟩ := rep_seqT r; rw [e]; rfl
  | lst _ _ => obtain ⟨_, _, _, e, _⟩ := rep_seq r; rw [e]; rfl
  | dk _ _ _ => rw [Rep] at r; obtain ⟨_, _, _, e, _⟩ := r; rw [e]; rfl
  | dt _ _ _ => rw [Rep] at r; obtain ⟨_, _, _, e, _⟩ := r; rw [e]; rfl
  | ins _ _ _ => rw [rep_ins] at r; obtain ⟨_, _, _, _, e, _⟩ := r; rw [e]; rfl
theorem opr_isn : OpR X (compareOp .Is) (rD2 k (opD .isn)) := opr_of fun {Z H a b d x y Fa Fb Q} ra rb gd e an => by
  replace e : opIsn false a b = some d := e
  unfold opIsn at e
  split at e
  · cases e
    refine ⟨_, op_isN, rep_non rb, ?_⟩
    rw [rep_isn ra]
    exact an.bl gd
  · cases e
theorem opr_nsn : OpR X (compareOp .IsNot) (rD2 k (opD .nsn)) := opr_of fun {Z H a b d x y Fa Fb Q} ra rb gd e an => by
  replace e : opIsn true a b = some d := e
  unfold opIsn at e
  split at e
  · cases e
    refine ⟨_, op_notN, rep_non rb, ?_⟩
    rw [rep_isn ra]
    exact an.bl gd
  · cases e
theorem any_py {x : D} (n : Nat) (hx : plain x n = true) : ∀ (ds : List D) (m : Nat), plains ds m = true → (ds.any fun z => deq z x) = ((toPys ds).any fun z => PyData.eqv z (toPy x))
  | [], _, _ => rfl
  | d :: ds, m, h => by
    simp only [plains, Bool.and_eq_true] at h
    simp only [toPys, List.any_cons]
    rw [deq_py d x m n h.1 hx, any_py n hx ds m h.2]
def rInDT (K : PySem.W.Frag) (neg : Bool) : R2 := fun x y H Q => ∃ d ds, Dp K H x d ∧ Dp K H y (.tuple ds) ∧ SeqAt.shaped d = true ∧ SeqAt.shaped (.tuple ds) = true ∧ Q (.bl (if neg then !ds.any fun z => PyData.eqv z d else ds.any fun z => PyData.eqv z d)) H
theorem op_inDT (hu : X.A.units + 65 < cLine) : OpR X (compareOp .In) (rInDT X.K false) := by
  intro pins s σ H x y v u Q I rx ry h
  obtain ⟨d, ds, hd, he, sd, se, q⟩ := h
  obtain ⟨as, r1⟩ := Dp.reads I d x v hd rx
  obtain ⟨bs, r2⟩ := Dp.reads I (.tuple ds) y u he ry
  exact SeqAt.in_tuple_reads r2 r1 (SeqAt.canLay_of_shaped se) (SeqAt.canLay_of_shaped sd) (room_in_shaped sd hu) ⟨.bl _, H, I, rfl, q⟩
theorem op_ninDT (hu : X.A.units + 65 < cLine) : OpR X (compareOp .NotIn) (rInDT X.K true) := by
  intro pins s σ H x y v u Q I rx ry h
  obtain ⟨d, ds, hd, he, sd, se, q⟩ := h
  obtain ⟨as, r1⟩ := Dp.reads I d x v hd rx
  obtain ⟨bs, r2⟩ := Dp.reads I (.tuple ds) y u he ry
  exact SeqAt.notIn_tuple_reads r2 r1 (SeqAt.canLay_of_shaped se) (SeqAt.canLay_of_shaped sd) (room_in_shaped sd hu) ⟨.bl _, H, I, rfl, q⟩
include hK in
theorem opr_inn (hu : X.A.units + 65 < cLine) : OpR X (compareOp .In) (rD2 k (opD .inn)) := opr_of fun {Z H a b d x y Fa Fb Q} ra rb gd e an => by
  replace e : opIn false a b = some d := e
  unfold opIn at e
  split at e
  · rename_i ds
    split at e
    · rename_i c; cases e
      have pb : plain (.tup ds) 60 = true := by simp only [plain]; exact c.2
      refine ⟨_, op_inDT hu, toPy a, toPys ds, by rw [hK]; exact plain_dp a 60 c.1 ra, ?_, plain_shaped (by decide) c.1, ?_, ?_⟩
      · have := plain_dp (.tup ds) 60 pb rb
        rw [toPy] at this
        rw [hK]; exact this
      · have := plain_shaped (by decide) pb
        rw [toPy] at this
        exact this
      · rw [← any_py 60 c.1 ds 59 c.2]
        exact an.bl gd
    · cases e
  · rename_i o ds
    split at e
    · rename_i c; cases e
      have pb : plain (.lst o ds) 60 = true := by simp only [plain]; exact c.2
      refine ⟨_, op_inD hu, toPy a, toPys ds, by rw [hK]; exact plain_dp a 60 c.1 ra, ?_, plain_shaped (by decide) c.1, ?_, ?_⟩
      · have := plain_dp (.lst o ds) 60 pb rb
        rw [toPy] at this
        rw [hK]; exact this
      · have := plain_shaped (by decide) pb
        rw [toPy] at this
        exact this
      · rw [← any_py 60 c.1 ds 59 c.2]
        exact an.bl gd
    · cases e
  · cases e
include hK in
theorem opr_nin (hu : X.A.units + 65 < cLine) : OpR X (compareOp .NotIn) (rD2 k (opD .nin)) := opr_of fun {Z H a b d x y Fa Fb Q} ra rb gd e an => by
  replace e : opIn true a b = some d := e
  unfold opIn at e
  split at e
  · rename_i ds
    split at e
    · rename_i c; cases e
      have pb : plain (.tup ds) 60 = true := by simp only [plain]; exact c.2
      refine ⟨_, op_ninDT hu, toPy a, toPys ds, by rw [hK]; exact plain_dp a 60 c.1 ra, ?_, plain_shaped (by decide) c.1, ?_, ?_⟩
      · have := plain_dp (.tup ds) 60 pb rb
        rw [toPy] at this
        rw [hK]; exact this
      · have := plain_shaped (by decide) pb
        rw [toPy] at this
        exact this
      · rw [← any_py 60 c.1 ds 59 c.2]
        exact an.bl gd
    · cases e
  · rename_i o ds
    split at e
    · rename_i c; cases e
      have pb : plain (.lst o ds) 60 = true := by simp only [plain]; exact c.2
      refine ⟨_, op_notInD hu, toPy a, toPys ds, by rw [hK]; exact plain_dp a 60 c.1 ra, ?_, plain_shaped (by decide) c.1, ?_, ?_⟩
      · have := plain_dp (.lst o ds) 60 pb rb
        rw [toPy] at this
        rw [hK]; exact this
      · have := plain_shaped (by decide) pb
        rw [toPy] at this
        exact this
      · rw [← any_py 60 c.1 ds 59 c.2]
        exact an.bl gd
    · cases e
  · cases e
include hK in
theorem ixr_ix : IxR X (rD2 k (opD .ix)) := by
  intro value slice pins s σ H x y v u Q I rx ry ⟨Z, ds, d, re, gd, e, an⟩ hs
  obtain ⟨a, b, rfl, ⟨Fa, ra⟩, ⟨Fb, rb⟩⟩ := re.two
  replace e : opIx a b = some d := e
  unfold opIx at e
  split at e
  · rename_i ds i hds
    simp only [Option.bind_eq_some_iff] at e
    obtain ⟨d', ⟨j, hj, hd⟩, e⟩ := e
    split at e
    · rename_i hn; cases e
      cases a with
      | lst o es =>
        simp only [itemsOf, Option.some.injEq] at hds
        subst hds
        obtain ⟨p, vs, G, rfl, q, r, l⟩ := rep_seq ra
        obtain ⟨w, Fd, e1, r1, _⟩ := r.atz hd
        exact ix_seq value slice pins s σ H _ y v u Q I rx ry (.inl ⟨p, vs, i, w, rfl, rep_int rb, by rw [hK]; exact q, atI_of (by rw [← l]; exact hj) e1, an.same gd (r1.un hn)⟩) hs
      | tup es =>
        simp only [itemsOf, Option.some.injEq] at hds
        subst hds
        obtain ⟨p, vs, G, rfl, q, r, l⟩ := rep_seqT ra
        obtain ⟨w, Fd, e1, r1, _⟩ := r.atz hd
        exact ix_seq value slice pins s σ H _ y v u Q I rx ry (.inr (.inl ⟨p, vs, i, w, rfl, rep_int rb, by rw [hK]; exact q, atI_of (by rw [← l]; exact hj) e1, an.same gd (r1.un hn)⟩)) hs
      | _ => simp [itemsOf] at hds
    · cases e
  · cases e

/-! ### built-ins -/
theorem cr_of {f : List D → Option D} {g : Value} (h : ∀ {Z : Zs} {H : Hp} {a d : D} {x : V} {Fa : Fp} {Q : VK}, Rep k Z H a x Fa → Good Z H fp0 → f [a] = some d → VS.Ans k Z H d Q → ∃ r, CallR X g r ∧ r [x] H Q)
    (hl : ∀ ds d, f ds = some d → ds.length = 1) : CallR X g (rD k f) := by
  intro pins s σ H vs us Q I r ⟨Z, ds, d, re, gd, e, an⟩
  have l := hl ds d e
  cases re with
  | nil => cases l
  | cons h1 t => cases t with
    | cons _ _ => cases l
    | nil =>
      obtain ⟨F, h1⟩ := h1
      obtain ⟨r', hr, q⟩ := h h1 gd e an
      exact hr pins s σ H _ us Q I r q
theorem cr_of2 {f : List D → Option D} {g : Value} (h : ∀ {Z : Zs} {H : Hp} {a b d : D} {x y : V} {Fa Fb : Fp} {Q : VK}, Rep k Z H a x Fa → Rep k Z H b y Fb → Good Z H fp0 → f [a, b] = some d → VS.Ans k Z H d Q → ∃ r, CallR X g r ∧ r [x, y] H Q)
    (hl : ∀ ds d, f ds = some d → ds.length = 2) : CallR X g (rD k f) := by
  intro pins s σ H vs us Q I r ⟨Z, ds, d, re, gd, e, an⟩
  have l := hl ds d e
  cases re with
  | nil => cases l
  | cons h1 t => cases t with
    | nil => cases l
    | cons h2 t => cases t with
      | cons _ _ => cases l
      | nil =>
        obtain ⟨F, h1⟩ := h1
        obtain ⟨G, h2⟩ := h2
        obtain ⟨r', hr, q⟩ := h h1 h2 gd e an
        exact hr pins s σ H _ us Q I r q
theorem op1_len {o : Op} (h : ∀ a b r, opD o (a :: b :: r) = none) (h0 : opD o [] = none) : ∀ ds d, opD o ds = some d → ds.length = 1 := fun ds d e => by
  match ds with
  | [] => rw [h0] at e; cases e
  | [a] => rfl
  | a :: b :: r => rw [h] at e; cases e
theorem op2_len {o : Op} (h : ∀ a b c r, opD o (a :: b :: c :: r) = none) (h0 : opD o [] = none) (h1 : ∀ a, opD o [a] = none) : ∀ ds d, opD o ds = some d → ds.length = 2 := fun ds d e => by
  match ds with
  | [] => rw [h0] at e; cases e
  | [a] => rw [h1] at e; cases e
  | [a, b] => rfl
  | a :: b :: c :: r => rw [h] at e; cases e
include hK in
theorem crl_len : CallR X (.builtin "len") (rD k (opD .len)) := cr_of (fun {Z H a d x Fa Q} ra gd e an => by
  replace e : opLen a = some d := e
  unfold opLen at e
  simp only [Option.map_eq_some_iff] at e
  obtain ⟨ds, hds, rfl⟩ := e
  cases a with
  | lst o es =>
    simp only [itemsOf, Option.some.injEq] at hds
    subst hds
    obtain ⟨p, vs, G, rfl, q, r, l⟩ := rep_seq ra
    refine ⟨_, call_len_seq, p, vs, rfl, .inl (by rw [hK]; exact q), ?_⟩
    rw [← l]; exact an.int gd
  | tup es =>
    simp only [itemsOf, Option.some.injEq] at hds
    subst hds
    obtain ⟨p, vs, G, rfl, q, r, l⟩ := rep_seqT ra
    refine ⟨_, call_len_seq, p, vs, rfl, .inr (by rw [hK]; exact q), ?_⟩
    rw [← l]; exact an.int gd
  | _ => simp [itemsOf] at hds) (op1_len (fun _ _ _ => rfl) rfl)
theorem crl_int : CallR X (.type "int") (rD k (opD .int)) := cr_of (fun {Z H a d x Fa Q} ra gd e an => by
  replace e : opInt a = some d := e
  unfold opInt at e
  split at e
  · cases e
    rw [rep_int ra]
    exact ⟨_, call_int1, .inl ⟨_, rfl, an.int gd⟩⟩
  · cases e
    rw [rep_bl ra]
    exact ⟨_, call_int1, .inr ⟨_, rfl, an.int gd⟩⟩
  · cases e) (op1_len (fun _ _ _ => rfl) rfl)
theorem crl_abs : CallR X (.builtin "abs") (rD k (opD .abs)) := cr_of (fun {Z H a d x Fa Q} ra gd e an => by
  replace e : opI1 _ a = some d := e
  unfold opI1 at e
  split at e
  · cases e
    rw [rep_int ra]
    exact ⟨_, call_abs, _, rfl, an.int gd⟩
  · cases e) (op1_len (fun _ _ _ => rfl) rfl)
theorem crl_min2 (hc : X.calm = true) : CallR X (.builtin "min") (rD k (opD .min2)) := cr_of2 (fun {Z H a b d x y Fa Fb Q} ra rb gd e an => by
  replace e : opI2 _ a b = some d := e
  unfold opI2 at e
  split at e
  · cases e
    rw [rep_int ra, rep_int rb]
    exact ⟨_, call_min2 hc, _, _, rfl, an.int gd⟩
  · cases e) (op2_len (fun _ _ _ _ => rfl) rfl fun _ => rfl)
theorem crl_min4 (hc : X.calm = true) : CallR X (.builtin "min") (rD k (opD .min4)) := by
  intro pins s σ H vs us Q I r ⟨Z, ds, d, re, gd, e, an⟩
  have l : ds.length = 4 := by
    match ds, e with
    | [_, _, _, _], _ => rfl
  match ds, l with
  | [a, b, c, d4], _ =>
    cases re with
    | cons h1 t => cases t with
      | cons h2 t => cases t with
        | cons h3 t => cases t with
          | cons h4 t =>
            cases t
            obtain ⟨_, h1⟩ := h1; obtain ⟨_, h2⟩ := h2; obtain ⟨_, h3⟩ := h3; obtain ⟨_, h4⟩ := h4
            replace e : opMin4 a b c d4 = some d := e
            unfold opMin4 at e
            split at e
            · cases e
              rw [rep_int h1, rep_int h2, rep_int h3, rep_int h4] at r
              exact call_min4 hc pins s σ H _ us Q I r ⟨_, _, _, _, rfl, an.int gd⟩
            · cases e
theorem crl_max2 (hc : X.calm = true) : CallR X (.builtin "max") (rD k (opD .max2)) := cr_of2 (fun {Z H a b d x y Fa Fb Q} ra rb gd e an => by
  replace e : opI2 _ a b = some d := e
  unfold opI2 at e
  split at e
  · cases e
    rw [rep_int ra, rep_int rb]
    exact ⟨_, call_max2 hc, _, _, rfl, an.int gd⟩
  · cases e) (op2_len (fun _ _ _ _ => rfl) rfl fun _ => rfl)
include hK in
theorem crl_sum (hc : X.calm = true) : CallR X (.builtin "sum") (rD k (opD .suml)) := cr_of (fun {Z H a d x Fa Q} ra gd e an => by
  replace e : opSum a = some d := e
  unfold opSum at e
  split at e
  · simp only [Option.map_eq_some_iff] at e
    obtain ⟨ns, hn, rfl⟩ := e
    obtain ⟨p, vs, G, rfl, q, r, l⟩ := rep_seq ra
    have ev := r.ints hn
    subst ev
    exact ⟨_, cr_sum hc, p, ns, rfl, by rw [hK]; exact q, an.int gd⟩
  · cases e) (op1_len (fun _ _ _ => rfl) rfl)
include hK in
theorem crl_any (hc : X.calm = true) : CallR X (.builtin "any") (rD k (opD .anyl)) := cr_of (fun {Z H a d x Fa Q} ra gd e an => by
  replace e : opAny a = some d := e
  unfold opAny at e
  split at e
  · simp only [Option.map_eq_some_iff] at e
    obtain ⟨ns, hn, rfl⟩ := e
    obtain ⟨p, vs, G, rfl, q, r, l⟩ := rep_seq ra
    have ev := r.bools hn
    subst ev
    exact ⟨_, cr_any hc, p, ns, rfl, by rw [hK]; exact q, an.bl gd⟩
  · cases e) (op1_len (fun _ _ _ => rfl) rfl)
include hK in
theorem crl_all (hc : X.calm = true) : CallR X (.builtin "all") (rD k (opD .alll)) := cr_of (fun {Z H a d x Fa Q} ra gd e an => by
  replace e : VS.opAll a = some d := e
  unfold VS.opAll at e
  split at e
  · simp only [Option.map_eq_some_iff] at e
    obtain ⟨ns, hn, rfl⟩ := e
    obtain ⟨p, vs, G, rfl, q, r, l⟩ := rep_seq ra
    have ev := r.bools hn
    subst ev
    exact ⟨_, cr_all hc, p, ns, rfl, by rw [hK]; exact q, an.bl gd⟩
  · cases e) (op1_len (fun _ _ _ => rfl) rfl)
include hK in
theorem crl_list : CallR X (.type "list") (rD k (opD .list)) := cr_of (fun {Z H a d x Fa Q} ra gd e an => by
  replace e : opList a = some d := e
  unfold opList at e
  simp only [Option.bind_eq_some_iff] at e
  obtain ⟨ds, hds, e⟩ := e
  split at e
  · rename_i hn; cases e
    cases a with
    | lst o es =>
      simp only [itemsOf, Option.some.injEq] at hds
      subst hds
      obtain ⟨p, vs, G, rfl, q, r, l⟩ := rep_seq ra
      exact ⟨_, call_list_of, p, vs, rfl, .inl (by rw [hK]; exact q), an.lst gd (r.un hn)⟩
    | tup es =>
      simp only [itemsOf, Option.some.injEq] at hds
      subst hds
      obtain ⟨p, vs, G, rfl, q, r, l⟩ := rep_seqT ra
      exact ⟨_, call_list_of, p, vs, rfl, .inr (by rw [hK]; exact q), an.lst gd (r.un hn)⟩
    | _ => simp [itemsOf] at hds
  · cases e) (op1_len (fun _ _ _ => rfl) rfl)
include hK in
theorem crl_tuple : CallR X (.type "tuple") (rD k (opD .tuple)) := cr_of (fun {Z H a d x Fa Q} ra gd e an => by
  replace e : opTuple a = some d := e
  unfold opTuple at e
  simp only [Option.bind_eq_some_iff] at e
  obtain ⟨ds, hds, e⟩ := e
  split at e
  · rename_i hn; cases e
    cases a with
    | lst o es =>
      simp only [itemsOf, Option.some.injEq] at hds
      subst hds
      obtain ⟨p, vs, G, rfl, q, r, l⟩ := rep_seq ra
      exact ⟨_, call_tuple_of, p, vs, rfl, .inl ⟨by rw [hK]; exact q, an.tup gd (r.un hn)⟩⟩
    | tup es =>
      simp only [itemsOf, Option.some.injEq] at hds
      subst hds
      obtain ⟨p, vs, G, rfl, q, r, l⟩ := rep_seqT ra
      refine ⟨_, call_tuple_of, p, vs, rfl, .inr ⟨by rw [hK]; exact q, an.same gd ?_⟩⟩
      rw [rep_tup]
      exact ⟨p, vs, rfl, q, r.un hn⟩
    | _ => simp [itemsOf] at hds
  · cases e) (op1_len (fun _ _ _ => rfl) rfl)
theorem rep_ty4 {Z : Zs} {H : Hp} {a : D} {x : V} {F : Fp} {t : String} (r : Rep k Z H a x F) (h : tyOf a = some t) : TyX k.K H x (.type t) := by
  cases a with
  | non => simp only [tyOf, Option.some.injEq] at h; subst h; rw [rep_non r]; exact .base .non
  | bl _ => simp only [tyOf, Option.some.injEq] at h; subst h; rw [rep_bl r]; exact .base (.bl _)
  | int _ => simp only [tyOf, Option.some.injEq] at h; subst h; rw [rep_int r]; exact .base (.int _)
  | str _ => simp only [tyOf, Option.some.injEq] at h; subst h; rw [rep_str r]; exact .base (.str _)
  | tup ds =>
    simp only [tyOf, Option.some.injEq] at h; subst h
    obtain ⟨p, vs, G, rfl, q, _⟩ := rep_seqT r
    rcases q with (q | ⟨o, q⟩) | ⟨o, its, n, q, c, _⟩
    · exact .base (.tup q)
    · exact .fTuple q
    · exact .kTuple q c
  | lst o ds =>
    simp only [tyOf, Option.some.injEq] at h; subst h
    obtain ⟨p, vs, G, rfl, q, _⟩ := rep_seq r
    rcases q with (q | ⟨o, q⟩) | ⟨o, its, n, q, c, _⟩
    · exact .base (.lst q)
    · exact .base (.frz q)
    · exact .kList q c
  | dk o ks ds =>
    simp only [tyOf, Option.some.injEq] at h; subst h
    rw [Rep] at r
    obtain ⟨p, vs, G, rfl, q, _⟩ := r
    cases o with
    | true => exact .base (.dK q.own)
    | false => rcases q.fz.2 with q | ⟨o, q⟩
               · exact .base (.dK q)
               · exact .fDict q
  | dt o ks ds => simp [tyOf] at h
  | _ => simp [tyOf] at h
include hK in
theorem crl_isi : CallR X (.builtin "isinstance") (rD k (opD .isi)) := cr_of2 (fun {Z H a b d x y Fa Fb Q} ra rb gd e an => by
  replace e : opIsi a b = some d := e
  unfold opIsi at e
  split at e
  · simp only [Option.bind_eq_some_iff, Option.map_eq_some_iff] at e
    obtain ⟨s, hs, r, hr, rfl⟩ := e
    rw [rep_ty rb]
    exact ⟨_, call_isi, x, .ty _, .type s, .type _, r, rfl, .ty _, by rw [hK]; exact rep_ty4 ra hs, kit_ty hr, an.bl gd⟩
  · cases e) (op2_len (fun _ _ _ _ => rfl) rfl fun _ => rfl)
end
end VS
end

section
set_option maxHeartbeats 1000000
/-! VS5s: sorted, min, max; in for tuples. -/
namespace VS
open PySem PySem.Spec PyProof.Rows L2 PySem.W
theorem kin_symm {a b : SK} (h : a.kin b = true) : b.kin a = true := by cases a <;> cases b <;> first | rfl | cases h
theorem kin_trans {a b c : SK} (h : a.kin b = true) (h' : b.kin c = true) : a.kin c = true := by cases a <;> cases b <;> cases c <;> first | rfl | (cases h; done) | (cases h'; done)
theorem kin_self (a : SK) : a.kin a = true := by cases a <;> rfl
theorem kinB_all {ks : List SK} (h : kinB ks = true) : KinAll ks := by
  cases ks with
  | nil => intro a ha; cases ha
  | cons z r =>
    simp only [kinB, List.all_eq_true] at h
    have q : ∀ a ∈ z :: r, z.kin a = true := fun a ha => by
      rcases List.mem_cons.mp ha with e | e
      · rw [e]; exact kin_self z
      · exact h a e
    exact fun a ha b hb => kin_trans (kin_symm (q a ha)) (q b hb)
section
variable {k : KX} {Z : Zs} {H : Hp} {G : Fp}
theorem reps_ints : ∀ l : List Int, Reps k Z H (l.map .int) (l.map V.int) fp0
  | [] => by rw [List.map_nil, List.map_nil, reps_nil]; exact ⟨rfl, fun _ => rfl⟩
  | a :: r => by
    rw [List.map_cons, List.map_cons, reps_cons]
    exact ⟨.int a, r.map V.int, fp0, fp0, rfl, by rw [Rep]; exact ⟨rfl, fun _ => rfl⟩, reps_ints r, fun _ => rfl⟩
theorem rep_sk {d : D} {v : V} {F : Fp} {s : SK} (r : Rep k Z H d v F) (h : skD d = some s) : SKV k.K H v s := by
  cases d with
  | int i =>
    simp only [skD, Option.some.injEq] at h
    subst h
    exact rep_int r
  | tup ds =>
    simp only [skD] at h
    split at h
    · rename_i x rest
      simp only [Option.map_eq_some_iff] at h
      obtain ⟨ns, hn, rfl⟩ := h
      obtain ⟨a, vs, G, rfl, q, r, l⟩ := rep_seqT r
      have hn' : intsD (.int x :: rest) = some (x :: ns) := by simp only [intsD, hn, Option.map_some]
      have ev := r.ints hn'
      subst ev
      exact ⟨a, rfl, q⟩
    · cases h
  | _ => simp [skD] at h
theorem reps_sk : ∀ {ds : List D} {vs : List V} {G : Fp} {ks : List SK}, Reps k Z H ds vs G → sksD ds = some ks → SKVs k.K H vs ks
  | [], vs, G, ks, r, h => by
    rw [reps_nil] at r
    simp only [sksD, Option.some.injEq] at h
    obtain ⟨rfl, _⟩ := r
    subst h
    exact .nil
  | d :: ds, vs, G, ks, r, h => by
    rw [reps_cons] at r
    obtain ⟨v, t, F1, F2, rfl, r1, r2, _⟩ := r
    simp only [sksD] at h
    cases hd : skD d with
    | none => rw [hd] at h; cases h
    | some s =>
      cases hs : sksD ds with
      | none => rw [hd, hs] at h; cases h
      | some ss =>
        rw [hd, hs] at h
        simp only [Option.some.injEq] at h
        subst h
        exact .cons (rep_sk r1 hd) (reps_sk r2 hs)
theorem skv_rep {v : V} {s : SK} (h : SKV k.K H v s) : Rep k Z H (dSK s) v fp0 := by
  cases s with
  | n i => rw [dSK, Rep]; exact ⟨h, fun _ => rfl⟩
  | r x xs =>
    obtain ⟨a, rfl, q⟩ := h
    rw [dSK, rep_tup]
    exact ⟨a, _, rfl, q, reps_ints (x :: xs)⟩
theorem skvs_reps : ∀ {vs : List V} {ks : List SK}, SKVs k.K H vs ks → Reps k Z H (ks.map dSK) vs fp0
  | _, _, .nil => by rw [List.map_nil, reps_nil]; exact ⟨rfl, fun _ => rfl⟩
  | _, _, .cons h t => by
    rw [List.map_cons, reps_cons]
    exact ⟨_, _, fp0, fp0, rfl, skv_rep h, skvs_reps t, fun _ => rfl⟩
end
section
variable {X : Cx} {k : KX} (hK : X.K = k.K)
include hK in
theorem crl_sorted (hu : X.A.units + 64 < cLine) : CallR X (.builtin "sorted") (rD k (opD .sorted)) := cr_of (fun {Z H a d x Fa Q} ra gd e an => by
  replace e : opSorted a = some d := e
  unfold opSorted at e
  split at e
  · simp only [Option.bind_eq_some_iff] at e
    obtain ⟨ks, hks, e⟩ := e
    split at e
    · rename_i hn; cases e
      obtain ⟨p, vs, G, rfl, q, r, l⟩ := rep_seq ra
      exact ⟨_, cr_sortK hu, p, vs, ks, rfl, by rw [hK]; exact q, by rw [hK]; exact reps_sk r hks, kinB_all hn, fun ws' p' hw hp => an.lst gd (skvs_reps (by rw [hK] at hw; exact hw)) p' hp⟩
    · cases e
  · cases e) (op1_len (fun _ _ _ => rfl) rfl)
theorem best_of {f : SK → List SK → SK} {ds : List D} {d : D} (e : bestOf f ds = some d) : ∃ s ks, sksD ds = some (s :: ks) ∧ kinB (s :: ks) = true ∧ d = dSK (f s ks) := by
  unfold bestOf at e
  simp only [Option.bind_eq_some_iff] at e
  obtain ⟨ks, hks, e⟩ := e
  cases ks with
  | nil => cases e
  | cons s r =>
    dsimp only at e
    split at e
    · rename_i h; cases e; exact ⟨s, r, hks, h, rfl⟩
    · cases e
include hK in
theorem crl_best {f : SK → List SK → SK} {o : Op} {id : String} (ho : (f = minK ∧ o = .minl ∧ id = "min") ∨ (f = maxK ∧ o = .maxl ∧ id = "max")) (hc : X.calm = true) (hu : X.A.units + 64 < cLine) : CallR X (.builtin id) (rD k (opD o)) := by
  have hf : ∀ a, opD o [a] = opBest f a := fun a => by rcases ho with ⟨rfl, rfl, _⟩ | ⟨rfl, rfl, _⟩ <;> rfl
  have hr : CallR X (.builtin id) (rBest X.K f) := by
    rcases ho with ⟨rfl, _, rfl⟩ | ⟨rfl, _, rfl⟩
    · exact cr_minK hc hu
    · exact cr_maxK hc hu
  refine cr_of (fun {Z H a d x Fa Q} ra gd e an => ?_) ?_
  · rw [hf] at e
    refine ⟨_, hr, ?_⟩
    unfold opBest at e
    split at e
    · obtain ⟨s, ks, hs, hb, rfl⟩ := best_of e
      obtain ⟨p, vs, G, rfl, q, r, l⟩ := rep_seq ra
      exact ⟨p, vs, s, ks, rfl, .inl (by rw [hK]; exact q), by rw [hK]; exact reps_sk r hs, kinB_all hb, fun v hv => an.same gd (skv_rep (by rw [hK] at hv; exact hv))⟩
    · obtain ⟨s, ks, hs, hb, rfl⟩ := best_of e
      obtain ⟨p, vs, G, rfl, q, r, l⟩ := rep_seqT ra
      exact ⟨p, vs, s, ks, rfl, .inr (by rw [hK]; exact q), by rw [hK]; exact reps_sk r hs, kinB_all hb, fun v hv => an.same gd (skv_rep (by rw [hK] at hv; exact hv))⟩
    · cases e
  · rcases ho with ⟨_, rfl, _⟩ | ⟨_, rfl, _⟩
    · exact op1_len (fun _ _ _ => rfl) rfl
    · exact op1_len (fun _ _ _ => rfl) rfl
/-- one value and one keyword's -/
def rK (k : KX) (f : List D → Option D) : List V → List V → Hp → VK → Prop := fun vs zs H Q => match vs with
  | [x] => rD k f (x :: zs) H Q
  | _ => False
include hK in
theorem crl_bestD {f : SK → List SK → SK} {o : Op} {id : String} (ho : (f = minK ∧ o = .mind ∧ id = "min") ∨ (f = maxK ∧ o = .maxd ∧ id = "max")) (hc : X.calm = true) (hu : X.A.units + 64 < cLine) : CallRK X (.builtin id) [Str.ofString "default"] (rK k (opD o)) := by
  have hf : ∀ a b, opD o [a, b] = opBestD f a b := fun a b => by rcases ho with ⟨rfl, rfl, _⟩ | ⟨rfl, rfl, _⟩ <;> rfl
  have hr : CallRK X (.builtin id) [Str.ofString "default"] (rBestD X.K f) := by
    rcases ho with ⟨rfl, _, rfl⟩ | ⟨rfl, _, rfl⟩
    · exact cr_minKD hc hu
    · exact cr_maxKD hc hu
  intro pins s σ H vs zs us ws Q I r rz h
  unfold rK at h
  split at h
  · rename_i x
    obtain ⟨Z, ds, d, re, gd, e, an⟩ := h
    have l : ds.length = 2 := by
      rcases ho with ⟨_, rfl, _⟩ | ⟨_, rfl, _⟩
      · exact op2_len (o := .mind) (fun _ _ _ _ => rfl) rfl (fun _ => rfl) ds d e
      · exact op2_len (o := .maxd) (fun _ _ _ _ => rfl) rfl (fun _ => rfl) ds d e
    cases re with
    | cons h1 t => cases t with
      | nil => cases l
      | cons h2 t => cases t with
        | cons _ _ => cases l
        | nil =>
          obtain ⟨F, ra⟩ := h1
          obtain ⟨F2, rb⟩ := h2
          rw [hf] at e
          refine hr pins s σ H _ _ us ws Q I r rz ?_
          unfold opBestD at e
          split at e
          · split at e
            · rename_i hn
              simp only [Option.bind_eq_some_iff] at e
              obtain ⟨ks, hks, e⟩ := e
              obtain ⟨p, vs, G, rfl, q, r, l⟩ := rep_seq ra
              cases ks with
              | nil =>
                cases e
                refine ⟨p, _, vs, [], rfl, rfl, by rw [hK]; exact q, by rw [hK]; exact reps_sk r hks, (fun a ha => by cases ha), ?_⟩
                exact an.same gd (rb.un hn)
              | cons s0 ks =>
                dsimp only at e
                split at e
                · rename_i hb; cases e
                  exact ⟨p, _, vs, s0 :: ks, rfl, rfl, by rw [hK]; exact q, by rw [hK]; exact reps_sk r hks, kinB_all hb, fun v hv => an.same gd (skv_rep (by rw [hK] at hv; exact hv))⟩
                · cases e
            · cases e
          · cases e
  · exact h.elim
end
end VS
end

section
set_option maxHeartbeats 1000000
/-! VS6: readings by meanings; the text matched with the own language (mt). -/
namespace VS
open PySem PySem.Spec PyProof.Rows L2
local macro_rules | `(tactic| walk_at "fp") => `(tactic| ((try dsimp only at *); omega))

/-! ### what a piece of the text is to be -/
structure Ct where
  P : Prog
  N : List Str
  sc : Scope
  top : Bool
  asg : List Nat
  blt : List Str
  fl : Nat → List Str
  cf : Str → Bool
abbrev blkCt (c : Ct) (scope : Scope) : Ct := { c with sc := relS scope c.sc, top := false, cf := fun x => scope.names.lookup x == some .cell }

def visB (c : Ct) (i : Nat) (x : Str) : Bool := decide (c.N[i]? = some x) && (match c.sc.names.lookup x with | some .local => true | some .cell => true | some .free => true | _ => false) && !(x == ("__debug__" : Str)) && !(x == ("__classdict__" : Str))
def glB (c : Ct) (x : Str) : Bool := decide (c.sc.names.lookup x = some .globalImplicit) && !(x == ("__debug__" : Str)) && decide (x ≠ "__name__")
def locB (c : Ct) (i : Nat) (x : Str) : Bool := decide (c.N[i]? = some x) && (match c.sc.names.lookup x with | some .local => true | some .cell => c.cf x | _ => false)
def noSt : Expr → Bool
  | .Starred _ _ => false
  | _ => true
def noSl : Expr → Bool
  | .Slice _ _ _ _ => false
  | _ => true
def noSet : Expr → Bool
  | .Set _ _ _ => false
  | _ => true
def plainT : Expr → Bool
  | .UnaryOp .Not _ _ => false
  | .BoolOp _ _ _ => false
  | .IfExp _ _ _ _ => false
  | .Compare _ _ _ _ => false
  | _ => true
def noLc : Expr → Bool
  | .ListComp _ _ _ _ => false
  | .SetComp _ _ _ _ => false
  | .DictComp _ _ _ _ _ => false
  | _ => true
def mtN (c : Ct) (i : Nat) : Expr → Bool
  | .Name x _ => visB c i x
  | _ => false
def mtX (c : Ct) : SX → Expr → Bool
  | .num i, e => match e with
    | .Constant (.int j) _ _ => decide (i = j)
    | _ => false
  | .var i, e => mtN c i e
  | .add a b, e => match e with
    | .BinOp l .Add r _ => mtX c a l && mtX c b r
    | _ => false
  | .sub a b, e => match e with
    | .BinOp l .Sub r _ => mtX c a l && mtX c b r
    | _ => false
  | .neg a, e => match e with
    | .UnaryOp .USub l _ => mtX c a l
    | _ => false
def mtP (c : Ct) : PL → Expr → Bool
  | .slot i, e => mtN c i e
  | .ix p x, e => match e with
    | .Subscript a b _ => mtP c p a && mtX c x b && noSl b
    | _ => false
  | .att p cc j, e => match e with
    | .Attribute a f _ => false
    | _ => false
def binOf : Op → Option Operator
  | .add => some .Add
  | .sub => some .Sub
  | .mul => some .Mult
  | .mod => some .Mod
  | .fdiv => some .FloorDiv
  | .pow => some .Pow
  | _ => none
def cmpOf : Op → Option CmpOp
  | .eq => some .Eq
  | .ne => some .NotEq
  | .lt => some .Lt
  | .le => some .LtE
  | .gt => some .Gt
  | .ge => some .GtE
  | .isn => some .Is
  | .nsn => some .IsNot
  | .inn => some .In
  | .nin => some .NotIn
  | _ => none
/-- operations that chains are made of -/
def chnOf : Op → Option CmpOp
  | .lt => some .Lt
  | .le => some .LtE
  | .gt => some .Gt
  | .ge => some .GtE
  | _ => none
def fnOf : Op → Option Str
  | .len => some "len"
  | .abs => some "abs"
  | .min2 => some "min"
  | .max2 => some "max"
  | .min4 => some "min"
  | .suml => some "sum"
  | .anyl => some "any"
  | .alll => some "all"
  | .isi => some "isinstance"
  | .sorted => some "sorted"
  | .minl => some "min"
  | .maxl => some "max"
  | _ => none
def tyOp : Op → Option Str
  | .int => some "int"
  | .list => some "list"
  | .tuple => some "tuple"
  | _ => none
/-- built-ins with one keyword -/
def kwOf : Op → Option (Str × Str)
  | .mind => some ("min", "default")
  | .maxd => some ("max", "default")
  | _ => none
def tyNames : List String := ["int", "bool", "str", "list", "tuple", "dict", "set"]
def argsOf (c : Ct) (o : Op) : Expr → Option (List Expr)
  | .BinOp a bo b _ => if binOf o = some bo then some [a, b] else none
  | .UnaryOp .USub a _ => if o = .neg then some [a] else none
  | .Compare a [co] [b] _ => if cmpOf o = some co ∧ behindInMarks co b = false then some [a, b] else none
  | .Subscript a (.Slice none none (some (.UnaryOp .USub (.Constant (.int 1) _ _) _)) _) _ => if o = .rev then some [a] else none
  | .Subscript a b _ => if o = .ix ∧ noSl b = true then some [a, b] else none
  | .Call (.Name x _) [e] [⟨some kw, v, _⟩] _ => if kwOf o = some (x, kw) ∧ x ∈ c.blt ∧ glB c x = true then some [e, v] else none
  | .Call (.Name x _) (e :: es) [] _ => if (fnOf o = some x ∨ tyOp o = some x) ∧ x ∈ c.blt ∧ glB c x = true then some (e :: es) else none
  | _ => none
def slArgs (lo hi : Bool) : Expr → Option (List Expr)
  | .Subscript a (.Slice l h none _) _ => match lo, hi, l, h with
    | false, false, none, none => some [a]
    | true, false, some x, none => some [a, x]
    | false, true, none, some y => some [a, y]
    | _, _, _, _ => none
  | _ => none
def mmNm : Mm → Str
  | .append => "append"
  | .extend => "extend"
  | .pop => "pop"
  | .popAt => "pop"
  | .insert => "insert"
  | .reverse => "reverse"
  | .clear => "clear"
def mtT (c : Ct) : TG1 → Expr → Bool
  | .nm i, e => match e with
    | .Name x _ => locB c i x && (!c.top || c.asg.contains i)
    | _ => false
  | .tup is, e => match e with
    | .Tuple es _ _ => decide (is.length = es.length) && (is.zip es).all fun p => match p.2 with
      | .Name x _ => locB c p.1 x && (!c.top || c.asg.contains p.1)
      | _ => false
    | _ => false
def rngNm : Str := "range"
mutual
def mtE (c : Ct) : IE → Expr → Bool
  | .con d, e => match e with
    | .Constant .none _ _ => (match d with | .non => true | _ => false)
    | .Constant (.bool b) _ _ => (match d with | .bl b' => b == b' | _ => false)
    | .Constant (.int i) _ _ => (match d with | .int j => decide (i = j) | _ => false)
    | .Constant (.str x) _ _ => (match d with | .str y => decide (x = y) | _ => false)
    | .Name x _ => (match d with | .ty n => tyNames.contains n && decide (x = (n : Str)) && decide (x ∈ c.blt) && glB c x | _ => false)
    | _ => false
  | .glb n, e => match e with
    | .Name x _ => (match c.P.gl n with | some (y, _) => decide (x = y) && glB c x | none => false)
    | _ => false
  | .rd p, e => mtP c p e
  | .mv i, e => mtN c i e
  | .fz i, e => mtN c i e
  | .fx a, e => match e with
    | .Call f l ks pos => mtE c a (.Call f l ks pos)
    | _ => false
  | .tup es, e => match e with
    | .Tuple l _ _ => mtO c es l && decide (l.length ≤ 1000)
    | _ => false
  | .lst es, e => match e with
    | .List l _ => mtO c es l && decide (l.length ≤ 1000)
    | _ => false
  | .op o es, e => match argsOf c o e with
    | some l => mtO c es l
    | none => false
  | .sl lo hi es, e => match slArgs lo hi e with
    | some l => mtO c es l
    | none => false
  | .slx lo hi es, e => match e with
    | .Subscript a (.Slice (some l) (some h) none _) _ => mtO c es [a] && mtX c lo l && mtX c hi h
    | _ => false
  | .nt a, e => match e with
    | .UnaryOp .Not x _ => mtE c a x && noIf a
    | _ => false
  | .band es, e => match e with
    | .BoolOp .And l _ => mtB c es l
    | _ => false
  | .bor es, e => match e with
    | .BoolOp .Or l _ => mtB c es l
    | _ => false
  | .ife t a b, e => match e with
    | .IfExp t' a' b' _ => mtE c t t' && noIf t && mtE c a a' && mtE c b b'
    | _ => false
  | .chn o o' a b d, e => match e with
    | .Compare a' [co, co'] [b', d'] _ => decide (chnOf o = some co) && decide (chnOf o' = some co') && mtE c a a' && mtE c b b' && mtE c d d'
    | _ => false
  | .call f es, e => match e with
    | .Call (.Name x _) (a :: l) [] _ => (match c.P.fn f with | some d => decide (d.name = x) && glB c x && mtO c es (a :: l) | none => false)
    | _ => false
  | .mth m p es, e => match e with
    | .Call (.Attribute o a apos) l [] cpos => mtP c p o && decide (a = mmNm m) && mtO c es l && (match p with | .slot _ => true | _ => pureO es) && (apos.endLine == cpos.line) && decide (l.length < 20)
    | _ => false
  | .lc it tg own ifs elt, e => match e with
    | .ListComp el [⟨tge, ite, ife, 0⟩] scope _ => blkC c.N c.sc scope (own.map fun i => ((c.N[i]?).getD "", i)) && mtI c it tge ite && noSet ite &&
        mtT (blkCt c scope) tg tge && mtC (blkCt c scope) ifs ife && mtE (blkCt c scope) elt el &&
        (match tg with | .nm i => own.contains i | .tup is => is.all fun i => own.contains i)
    | _ => false
/-- no conditional expression where a test stands -/
def noIf : IE → Bool
  | .ife _ _ _ => false
  | .fx _ => false
  | .nt a => noIf a
  | .band es => noIfs es
  | .bor es => noIfs es
  | _ => true
def noIfs : IEs → Bool
  | .nil => true
  | .cons e r => noIf e && noIfs r
def mtB (c : Ct) : IEs → List Expr → Bool
  | .nil, _ => false
  | .cons e r, l => match l with
    | [] => false
    | x :: xs => mtE c e x && noIf e && (match r with | .nil => xs.isEmpty | .cons _ _ => mtB c r xs)
def mtC (c : Ct) : IEs → List Expr → Bool
  | .nil, l => l.isEmpty
  | .cons e r, l => match l with
    | [x] => mtE c e x && noIf e && (match r with | .nil => true | _ => false)
    | _ => false
def mtO (c : Ct) : IOs → List Expr → Bool
  | .nil, l => l.isEmpty
  | .val e r, l => match l with
    | [] => false
    | x :: xs => noSt x && mtE c e x && mtO c r xs
  | .slt i r, l => match l with
    | [] => false
    | x :: xs => mtN c i x && mtO c r xs
  | .pla p, l => match l with
    | [x] => noSt x && mtP c p x
    | _ => false
/-- what is walked, by a target -/
def mtI (c : Ct) : II → Expr → Expr → Bool
  | .seq e, _, x => mtE c e x
  | .slt _, _, _ => false
  | .rng1 es, _, x => match x with
    | .Call (.Name r _) [a] [] _ => decide (r = rngNm) && decide (rngNm ∈ c.blt) && glB c r && mtO c es [a]
    | _ => false
  | .rng2 es, _, x => match x with
    | .Call (.Name r _) [a, b] [] _ => decide (r = rngNm) && decide (rngNm ∈ c.blt) && glB c r && mtO c es [a, b]
    | _ => false
  | .zip es, tg, x => match x with
    | .Call (.Name r _) [p, q] [] _ => decide (r = ("zip" : Str)) && decide (("zip" : Str) ∈ c.blt) && glB c r && mtO c es [p, q] && (match tg with | .Tuple _ _ _ => true | _ => false)
    | _ => false
  | .enu es, tg, x => match x with
    | .Call (.Name r _) [p] [] _ => decide (r = ("enumerate" : Str)) && decide (("enumerate" : Str) ∈ c.blt) && glB c r && mtO c es [p] && (match tg with | .Tuple _ _ _ => true | _ => false)
    | _ => false
end
end VS
end

section
set_option maxHeartbeats 1000000
/-! VS7: readings of expressions by their meanings; operands. -/
namespace VS
open PySem PySem.Spec PyProof.Rows L2
local macro_rules | `(tactic| walk_at "fp") => `(tactic| ((try dsimp only at *); omega))

/-- what a def promises: its meaning at the level lv -/
def spOf (k : KX) (P : Prog) (lv f : Nat) : Sp := fun vs H Q E => ∃ Z ds F, Good Z H F ∧ Reps k Z H ds vs F ∧ match callD P lv f ds with
  | .ok p => ∀ v H' Z' F1 F2, Rep k Z' H' p.1 v F1 → StR k Z' H' p.2 (vs.map some) F2 → Step Z H F Z' H' (fun a => F1 a + F2 a) → Q v H'
  | .exc cl os => ∀ H' Z' F2, StR k Z' H' os (vs.map some) F2 → Step Z H F Z' H' F2 → E (.ref (k.ad cl)) none H'
  | .stuck => False
structure WF (c : Ct) (k : KX) (lv : Nat) (X : Cx) (W : WX) : Prop where
  N : X.N = c.N
  nd : c.N.Nodup
  sc : X.env.scope = c.sc
  fn : ∀ x, c.cf x = true → X.fn x = true
  calm : X.calm = true
  room : Room lv X.A
  K : X.K = k.K
  gl : ∀ n x d, c.P.gl n = some (x, d) → ∃ u v, X.mg x = some u ∧ RelV v u ∧ ∀ Z H, Rep k Z H d v fp0
  bl : ∀ x ∈ c.blt, X.mg x = none
  fns : ∀ f d, c.P.fn f = some d → ∃ fd ps, FnOk X.prog X.w X.K X.mg X.base (L2.CX X.prog X.w) lv (k.ad f) fd ps (spOf k c.P lv f) ∧ X.mg d.name = some (.ref (k.ad f)) ∧ PySem.W.keepIn X.K (.ref (k.ad f)) = true ∧ Binds X.K fd ps []
  tk : Takes X W
  fl : c.fl = k.fl

/-- behind an expression -/
def PostE (k : KX) (σ : L2.St) (pu : Bool) (Z : Zs) (H : Hp) (F : Fp) (g g' : Gm) (d : D) (v : V) (H' : Hp) : Prop :=
  ∃ Z' F1 F2, StR k Z' H' g' σ F1 ∧ Rep k Z' H' d v F2 ∧ Step Z H F Z' H' (fun a => F1 a + F2 a) ∧ (pu = true → g' = g ∧ Step Z H fp0 Z' H' F2)
/-- an exception leaves -/
def PostX (k : KX) (W : WX) (σ : L2.St) (Z : Zs) (H : Hp) (F : Fp) (cl : Nat) (g' : Gm) : Prop :=
  ∀ H' Z' F1, StR k Z' H' g' σ F1 → Step Z H F Z' H' F1 → W (.ref (k.ad cl)) none σ H'
def rdE (k : KX) (W : WX) (pu : Bool) (den : Gm → R (D × Gm)) : TE := fun σ H Q => ∃ g Z F, StR k Z H g σ F ∧ Good Z H F ∧ match den g with
  | .ok p => ∀ v H', PostE k σ pu Z H F g p.2 p.1 v H' → Q v H'
  | .exc cl g' => PostX k W σ Z H F cl g'
  | .stuck => False

theorem PE.weak {X : Cx} {e : Expr} {t t' : TE} (h : PE X e t) (w : ∀ σ H Q, t' σ H Q → t σ H Q) : PE X e t' := ⟨fun pins s σ H Q I q => h.run pins s σ H Q I (w σ H Q q)⟩
theorem PT.weak {X : Cx} {e : Expr} {t t' : TT} (h : PT X e t) (w : ∀ σ H Q, t' σ H Q → t σ H Q) : PT X e t' := ⟨fun pins s σ H Q I q => h.run pins s σ H Q I (w σ H Q q)⟩
theorem PW.weak {X : Cx} {e : Expr} {t t' : TT} (h : PW X e t) (w : ∀ σ H Q, t' σ H Q → t σ H Q) : PW X e t' := ⟨fun wh pins s σ H Q I q => h.run wh pins s σ H Q I (w σ H Q q)⟩
theorem PS.weak {X : Cx} {e : Stmt} {t t' : TS} (h : PS X e t) (w : ∀ D σ H, t' D σ H → t D σ H) : PS X e t' := ⟨fun pins s σ H D I q => h.run pins s σ H D I (w D σ H q)⟩
theorem PSs.weak {X : Cx} {e : List Stmt} {t t' : TS} (h : PSs X e t) (w : ∀ D σ H, t' D σ H → t D σ H) : PSs X e t' := ⟨fun pins s σ H D I q => h.run pins s σ H D I (w D σ H q)⟩
theorem PA.weak {X : Cx} {e : List Expr} {t t' : TA} (h : PA X e t) (w : ∀ σ H Q, t' σ H Q → t σ H Q) : PA X e t' := ⟨fun pos pins s σ H Q I q => h.run pos pins s σ H Q I (w σ H Q q)⟩
theorem PI.weak {X : Cx} {tg e : Expr} {t t' : TI} (h : PI X tg e t) (w : ∀ σ H Q, t' σ H Q → t σ H Q) : PI X tg e t' := ⟨fun pins s σ H Q I q => h.run pins s σ H Q I (w σ H Q q)⟩

section
variable {k : KX} {W : WX} {Z Z' Z'' : Zs} {H H' H'' : Hp} {F F' G F1 F2 F3 : Fp} {σ : L2.St} {g g' : Gm} {Q : VK} {d : D} {v : V} {pu : Bool} {den : Gm → R (D × Gm)}
/-- what was done first -/
theorem PostX.behind {cl : Nat} (h : PostX k W σ Z H F cl g') (s : Step Z H F Z' H' F') (hF : ∀ a, G a ≤ F' a) : PostX k W σ Z' H' G cl g' := fun H2 Z2 F2 st s2 => h H2 Z2 F2 st ((s.less hF).trans s2)
theorem PostE.pure0 (h : PostE k σ pu Z H F g g' d v H') (hp : pu = true) : g' = g := by obtain ⟨_, _, _, _, _, _, q⟩ := h; exact (q hp).1
/-- a value that stands as it is -/
theorem postE_same (st : StR k Z H g σ F) (gd : Good Z H F) (r : Rep k Z H d v fp0) : PostE k σ pu Z H F g g d v H :=
  ⟨Z, F, fp0, st, r, (Step.refl gd).less fun a => by simp, fun _ => ⟨rfl, Step.refl (gd.less fun a => by simp)⟩⟩
/-- an operation behind its operands -/
theorem postE_op (st : StR k Z' H' g' σ F1) (s : Step Z H F Z' H' (fun a => F1 a + F2 a)) (p : pu = true → g' = g ∧ Step Z H fp0 Z' H' F2) (r : Rep k Z'' H'' d v F3) (s2 : Step Z' H' fp0 Z'' H'' F3) : PostE k σ pu Z H F g g' d v H'' := by
  have g1 : Good Z' H' F1 := s.good.less fun a => by omega
  have g2 : Good Z' H' fun a => fp0 a + F1 a := g1.eq fun a => by simp
  refine ⟨Z'', F1, F3, st.stay (s2.sth g2), r, ?_, fun hp => ⟨(p hp).1, ?_⟩⟩
  · have s3 := s2.frame (R := F1) g2
    have s4 := (s.less (F'' := F1) fun a => by omega).trans (s3.eqL (F'' := F1) fun a => by simp)
    exact s4.less fun a => by omega
  · exact ((p hp).2.less fun a => by simp).trans s2
/-- an answer, behind operands -/
theorem ans_of (st : StR k Z' H' g' σ F1) (s : Step Z H F Z' H' (fun a => F1 a + F2 a)) (p : pu = true → g' = g ∧ Step Z H fp0 Z' H' F2) (h : ∀ v H'', PostE k σ pu Z H F g g' d v H'' → Q v H'') : VS.Ans k Z' H' d Q :=
  fun v H'' Z'' F3 r s2 => h v H'' (postE_op st s p r s2)

/-! ### operands -/
def tPl (k : KX) (p : PL) : TE := fun σ H Q => ∃ v, Acc k σ H p v ∧ Q v H
section
variable (k : KX) (W : WX) (gl : Nat → Option D) (call : Call)
def seqO : IOs → TA
  | .nil => tNil
  | .val e r => tCons (rdE k W (pureE e) (denE gl call e)) (seqO r)
  | .slt i r => tCons (tPl k (.slot i)) (seqO r)
  | .pla p => tCons (tPl k p) tNil
def PEs (X : Cx) : IOs → List Expr → Prop
  | .nil, l => l = []
  | .val e r, l => ∃ x xs, l = x :: xs ∧ noSt x = true ∧ PE X x (rdE k W (pureE e) (denE gl call e)) ∧ PEs X r xs
  | .slt i r, l => ∃ x xs, l = x :: xs ∧ noSt x = true ∧ PE X x (tPl k (.slot i)) ∧ PEs X r xs
  | .pla p, l => ∃ x, l = [x] ∧ noSt x = true ∧ PE X x (tPl k p)
def ORep (Z : Zs) (H : Hp) (g : Gm) (σ : L2.St) : List Opd → List V → Fp → Prop
  | [], vs, F => vs = [] ∧ ∀ a, F a = 0
  | .v d :: r, vs, F => ∃ v t F1 F2, vs = v :: t ∧ Rep k Z H d v F1 ∧ ORep Z H g σ r t F2 ∧ ∀ a, F a = F1 a + F2 a
  | .p p :: r, vs, F => ∃ v t, vs = v :: t ∧ (∀ d, getPl p g = some d → ∃ F', Rep k Z H d v F') ∧ (∀ i, p = .slot i → σ[i]? = some (some v)) ∧ ORep Z H g σ r t F
def PostO (σ : L2.St) (pu : Bool) (Z : Zs) (H : Hp) (F : Fp) (g g' : Gm) (os : List Opd) (vs : List V) (H' : Hp) : Prop :=
  ∃ Z' F1 F2, StR k Z' H' g' σ F1 ∧ ORep k Z' H' g' σ os vs F2 ∧ Step Z H F Z' H' (fun a => F1 a + F2 a) ∧ (pu = true → g' = g ∧ Step Z H fp0 Z' H' F2)
end
theorem starEach_cons {e : Expr} {es : List Expr} {env : Env} (h : noSt e = true) : starEach (e :: es) env = (false, eval e env) :: starEach es env := by
  cases e <;> first | rfl | (simp [noSt] at h)
theorem PEs.pa {X : Cx} {gl : Nat → Option D} {call : Call} : ∀ {es : IOs} {l : List Expr}, PEs k W gl call X es l → PA X l (seqO k W gl call es)
  | .nil, l, h => by
    have h : l = [] := h
    subst h; exact pa_nil
  | .val e r, l, h => by
    obtain ⟨x, xs, rfl, n, p, q⟩ := h
    exact pa_cons p (PEs.pa q) (starEach_cons n)
  | .slt i r, l, h => by
    obtain ⟨x, xs, rfl, n, p, q⟩ := h
    exact pa_cons p (PEs.pa q) (starEach_cons n)
  | .pla p, l, h => by
    obtain ⟨x, rfl, n, p⟩ := h
    exact pa_cons p pa_nil (starEach_cons n)
theorem PEs.noStar {X : Cx} {gl : Nat → Option D} {call : Call} {env : Env} {pos : Pos} : ∀ {es : IOs} {l : List Expr}, PEs k W gl call X es l → (backTo pos (starEach l env)).any (·.1) = false
  | .nil, l, h => by
    have h : l = [] := h
    subst h; rfl
  | .val e r, l, h => by
    obtain ⟨x, xs, rfl, n, p, q⟩ := h
    rw [starEach_cons n]
    show (false || (backTo pos (starEach xs env)).any (·.1)) = false
    rw [Bool.false_or]; exact PEs.noStar q
  | .slt i r, l, h => by
    obtain ⟨x, xs, rfl, n, p, q⟩ := h
    rw [starEach_cons n]
    show (false || (backTo pos (starEach xs env)).any (·.1)) = false
    rw [Bool.false_or]; exact PEs.noStar q
  | .pla p, l, h => by
    obtain ⟨x, rfl, n, p⟩ := h
    rw [starEach_cons n]; rfl
theorem PEs.tl {X : Cx} {gl : Nat → Option D} {call : Call} {es : IOs} {x : Expr} {l : List Expr} {env : Env} {pos : Pos} (h : PEs k W gl call X es (x :: l)) : starEach (x :: l) env = (false, eval x env) :: starEach l env ∧ (backTo pos (starEach l env)).any (·.1) = false := by
  cases es with
  | nil => cases h
  | val e r => obtain ⟨_, _, e1, n, p, q⟩ := h; cases e1; exact ⟨starEach_cons n, q.noStar⟩
  | slt i r => obtain ⟨_, _, e1, n, p, q⟩ := h; cases e1; exact ⟨starEach_cons n, q.noStar⟩
  | pla p => obtain ⟨_, e1, n, p⟩ := h; cases e1; exact ⟨starEach_cons n, rfl⟩
theorem PEs.two {X : Cx} {gl : Nat → Option D} {call : Call} {es : IOs} {a b : Expr} (h : PEs k W gl call X es [a, b]) : ∃ ta tb, PE X a ta ∧ PE X b tb ∧ ∀ σ H K, seqO k W gl call es σ H K → ta σ H fun x H1 => tb σ H1 fun y H2 => K [x, y] H2 := by
  cases es with
  | nil => cases h
  | pla p => obtain ⟨_, e, _⟩ := h; cases e
  | val e r =>
    obtain ⟨_, _, e1, n, p, q⟩ := h
    cases e1
    cases r with
    | nil => cases q
    | val e r =>
      obtain ⟨_, _, e1, n, p', q⟩ := q
      cases e1
      cases r with
      | nil => exact ⟨_, _, p, p', fun _ _ _ h => h⟩
      | val _ _ => obtain ⟨_, _, e1, _⟩ := q; cases e1
      | slt _ _ => obtain ⟨_, _, e1, _⟩ := q; cases e1
      | pla _ => obtain ⟨_, e1, _⟩ := q; cases e1
    | slt i r =>
      obtain ⟨_, _, e1, n, p', q⟩ := q
      cases e1
      cases r with
      | nil => exact ⟨_, _, p, p', fun _ _ _ h => h⟩
      | val _ _ => obtain ⟨_, _, e1, _⟩ := q; cases e1
      | slt _ _ => obtain ⟨_, _, e1, _⟩ := q; cases e1
      | pla _ => obtain ⟨_, e1, _⟩ := q; cases e1
    | pla pp =>
      obtain ⟨_, e1, n, p'⟩ := q
      cases e1
      exact ⟨_, _, p, p', fun _ _ _ h => h⟩
  | slt i r =>
    obtain ⟨_, _, e1, n, p, q⟩ := h
    cases e1
    cases r with
    | nil => cases q
    | val e r =>
      obtain ⟨_, _, e1, n, p', q⟩ := q
      cases e1
      cases r with
      | nil => exact ⟨_, _, p, p', fun _ _ _ h => h⟩
      | val _ _ => obtain ⟨_, _, e1, _⟩ := q; cases e1
      | slt _ _ => obtain ⟨_, _, e1, _⟩ := q; cases e1
      | pla _ => obtain ⟨_, e1, _⟩ := q; cases e1
    | slt i r =>
      obtain ⟨_, _, e1, n, p', q⟩ := q
      cases e1
      cases r with
      | nil => exact ⟨_, _, p, p', fun _ _ _ h => h⟩
      | val _ _ => obtain ⟨_, _, e1, _⟩ := q; cases e1
      | slt _ _ => obtain ⟨_, _, e1, _⟩ := q; cases e1
      | pla _ => obtain ⟨_, e1, _⟩ := q; cases e1
    | pla pp =>
      obtain ⟨_, e1, n, p'⟩ := q
      cases e1
      exact ⟨_, _, p, p', fun _ _ _ h => h⟩
theorem PEs.fst {X : Cx} {gl : Nat → Option D} {call : Call} {es : IOs} {a : Expr} (h : PEs k W gl call X es [a]) : ∃ ta, PE X a ta ∧ ∀ σ H K, seqO k W gl call es σ H K → ta σ H fun x H1 => K [x] H1 := by
  cases es with
  | nil => cases h
  | pla p => obtain ⟨_, e, n, p⟩ := h; cases e; exact ⟨_, p, fun _ _ _ h => h⟩
  | val e r =>
    obtain ⟨_, _, e1, n, p, q⟩ := h
    cases e1
    cases r with
    | nil => exact ⟨_, p, fun _ _ _ h => h⟩
    | val _ _ => obtain ⟨_, _, e1, _⟩ := q; cases e1
    | slt _ _ => obtain ⟨_, _, e1, _⟩ := q; cases e1
    | pla _ => obtain ⟨_, e1, _⟩ := q; cases e1
  | slt e r =>
    obtain ⟨_, _, e1, n, p, q⟩ := h
    cases e1
    cases r with
    | nil => exact ⟨_, p, fun _ _ _ h => h⟩
    | val _ _ => obtain ⟨_, _, e1, _⟩ := q; cases e1
    | slt _ _ => obtain ⟨_, _, e1, _⟩ := q; cases e1
    | pla _ => obtain ⟨_, e1, _⟩ := q; cases e1

theorem ORep.len : ∀ {os : List Opd} {vs : List V} {F : Fp}, ORep k Z H g σ os vs F → os.length = vs.length
  | [], _, _, h => by rw [h.1]; rfl
  | .v d :: r, _, _, h => by obtain ⟨_, _, _, _, rfl, _, h2, _⟩ := h; simp [ORep.len h2]
  | .p d :: r, _, _, h => by obtain ⟨_, _, rfl, _, _, h2⟩ := h; simp [ORep.len h2]
/-- the operands run -/
theorem seqO_ok {gl : Nat → Option D} {call : Call} : ∀ (es : IOs) {σ : L2.St} {H : Hp} {K : List V → Hp → Prop} {g : Gm} {Z : Zs} {F : Fp}, StR k Z H g σ F → Good Z H F →
    (match denO gl call es g with
      | .ok p => ∀ vs H', PostO k σ (pureO es) Z H F g p.2 p.1 vs H' → K vs H'
      | .exc cl g' => PostX k W σ Z H F cl g'
      | .stuck => False) → seqO k W gl call es σ H K
  | .nil, σ, H, K, g, Z, F, st, gd, h => h [] H ⟨Z, F, fp0, st, ⟨rfl, fun _ => rfl⟩, (Step.refl gd).less fun a => by simp, fun _ => ⟨rfl, Step.refl (gd.less fun a => by simp)⟩⟩
  | .val e r, σ, H, K, g, Z, F, st, gd, h => by
    refine ⟨g, Z, F, st, gd, ?_⟩
    simp only [denO] at h
    cases he : denE gl call e g with
    | stuck => rw [he] at h; exact h
    | exc cl g' => rw [he] at h; exact h
    | ok p =>
      rw [he] at h
      rintro v H1 ⟨Z1, F1, F2, st1, r1, s1, p1⟩
      have g1 : Good Z1 H1 F1 := s1.good.less fun a => by omega
      refine seqO_ok r (g := p.2) (Z := Z1) (F := F1) st1 g1 ?_
      simp only [bind_ok] at h
      cases hr : denO gl call r p.2 with
      | stuck => rw [hr] at h; exact h
      | exc cl g' => rw [hr] at h; exact PostX.behind h s1 fun a => by omega
      | ok q =>
        rw [hr] at h
        rintro vs H2 ⟨Z2, F3, F4, st2, r2, s2, p2⟩
        refine h (v :: vs) H2 ⟨Z2, F3, fun a => F2 a + F4 a, st2, ⟨v, vs, F2, F4, rfl, Rep.stay _ r1 (s2.sth s1.good), r2, fun _ => rfl⟩, ?_, fun hp => ?_⟩
        · have s3 := s1.trans (s2.frame (R := F2) s1.good)
          exact s3.less fun a => by walk_at "fp"
        · simp only [pureO, Bool.and_eq_true] at hp
          obtain ⟨e1, t1⟩ := p1 hp.1
          obtain ⟨e2, t2⟩ := p2 hp.2
          refine ⟨e2.trans e1, ?_⟩
          have t3 := t1.trans ((t2.frame (R := F2) (t1.good.eq fun a => by simp)).eqL (F'' := F2) fun a => by simp)
          exact t3.less fun a => by walk_at "fp"
  | .slt i r, σ, H, K, g, Z, F, st, gd, h => by
    simp only [denO] at h
    cases hs : getS g i with
    | none => rw [hs] at h; exact h.elim
    | some d =>
      rw [hs] at h
      obtain ⟨v, Fd, R, e1, _⟩ := st.get hs
      refine ⟨v, e1, ?_⟩
      refine seqO_ok r st gd ?_
      simp only [opt_some, bind_ok] at h
      cases hr : denO gl call r g with
      | stuck => rw [hr] at h; exact h
      | exc cl g' => rw [hr] at h; exact h
      | ok q =>
        rw [hr] at h
        rintro vs H2 ⟨Z2, F3, F4, st2, r2, s2, p2⟩
        refine h (v :: vs) H2 ⟨Z2, F3, F4, st2, ⟨v, vs, rfl, fun d' e2 => ?_, fun j ej => by cases ej; exact e1, r2⟩, s2, fun hp => p2 hp⟩
        simp only [getPl] at e2
        obtain ⟨v', Fd', R', e3, r', _⟩ := st2.get e2
        rw [e1] at e3
        cases e3
        exact ⟨Fd', r'⟩
  | .pla p, σ, H, K, g, Z, F, st, gd, h => by
    simp only [denO] at h
    cases hs : getPl p g with
    | none => rw [hs] at h; exact h.elim
    | some d =>
      rw [hs] at h
      obtain ⟨v, ac, Fd, R, hF, r, up⟩ := focus st gd p hs
      refine ⟨v, ac, ?_⟩
      refine h [v] H ⟨Z, F, fp0, st, ⟨v, [], rfl, fun d' e2 => ?_, fun i ei => ?_, rfl, fun _ => rfl⟩, (Step.refl gd).less fun a => by simp, fun _ => ⟨rfl, Step.refl (gd.less fun a => by simp)⟩⟩
      · rw [hs] at e2; cases e2; exact ⟨Fd, r⟩
      · subst ei; exact ac
theorem ORep.re : ∀ {os : List Opd} {vs : List V} {F : Fp} {ds : List D}, ORep k Z H g σ os vs F → finO os g = some ds → RE k Z H ds vs
  | [], vs, F, ds, h, e => by
    simp only [finO, Option.some.injEq] at e
    subst e
    rw [h.1]; exact .nil
  | .v d :: r, vs, F, ds, h, e => by
    obtain ⟨v, t, F1, F2, rfl, h1, h2, _⟩ := h
    simp only [finO, Option.map_eq_some_iff] at e
    obtain ⟨es, e, rfl⟩ := e
    exact .cons ⟨F1, h1⟩ (ORep.re h2 e)
  | .p p :: r, vs, F, ds, h, e => by
    obtain ⟨v, t, rfl, h1, _, h2⟩ := h
    simp only [finO] at e
    split at e
    · rename_i d es hd he
      cases e
      exact .cons (h1 d hd) (ORep.re h2 he)
    · cases e
theorem ORep.vals : ∀ {os : List Opd} {vs : List V} {F : Fp} {ds : List D}, ORep k Z H g σ os vs F → valsO os = some ds → Reps k Z H ds vs F
  | [], vs, F, ds, h, e => by
    simp only [valsO, Option.some.injEq] at e
    subst e
    rw [reps_nil]; exact h
  | .v d :: r, vs, F, ds, h, e => by
    obtain ⟨v, t, F1, F2, rfl, h1, h2, hF⟩ := h
    simp only [valsO, Option.map_eq_some_iff] at e
    obtain ⟨es, e, rfl⟩ := e
    rw [reps_cons]
    exact ⟨v, t, F1, F2, rfl, h1, ORep.vals h2 e, hF⟩
  | .p p :: r, vs, F, ds, h, e => by simp [valsO] at e
/-- an operation's reading by its operands' -/
theorem rdE_op {gl : Nat → Option D} {call : Call} {es : IOs} {f : List D → Option D} (pe : pu = true → pureO es = true)
    (h : rdE k W pu (fun g => (denO gl call es g).bind fun p => (opt (finO p.1 p.2)).bind fun ds => (opt (f ds)).bind fun d => .ok (d, p.2)) σ H Q) : seqO k W gl call es σ H fun vs H' => rD k f vs H' Q := by
  obtain ⟨g, Z, F, st, gd, h⟩ := h
  dsimp only at h
  refine seqO_ok es st gd ?_
  cases he : denO gl call es g with
  | stuck => rw [he] at h; exact h
  | exc cl g' => rw [he] at h; exact h
  | ok p =>
    rw [he] at h
    simp only [bind_ok] at h
    rintro vs H1 ⟨Z1, F1, F2, st1, r1, s1, p1⟩
    cases hf : finO p.1 p.2 with
    | none => rw [hf] at h; exact h.elim
    | some ds =>
      rw [hf] at h
      simp only [opt_some, bind_ok] at h
      cases hd : f ds with
      | none => rw [hd] at h; exact h.elim
      | some d =>
        rw [hd] at h
        exact ⟨Z1, ds, d, r1.re hf, s1.good.less fun a => by simp, hd, ans_of st1 s1 (fun hp => p1 (pe hp)) h⟩
end
end VS
end

section
set_option maxHeartbeats 1000000
/-! VS8: one rule for each kind of expression. -/
namespace VS
open PySem PySem.Spec PyProof.Rows L2
local macro_rules | `(tactic| walk_at "fp") => `(tactic| ((try dsimp only at *); omega))

/-- behind a test -/
def PostT (k : KX) (σ : L2.St) (Z : Zs) (H : Hp) (F : Fp) (g' : Gm) (H' : Hp) : Prop := ∃ Z' F1, StR k Z' H' g' σ F1 ∧ Step Z H F Z' H' F1
def rdT (k : KX) (W : WX) (den : Gm → R (D × Gm)) : TT := fun σ H Q => ∃ g Z F, StR k Z H g σ F ∧ Good Z H F ∧ match den g with
  | .ok (.bl b, g') => ∀ H', PostT k σ Z H F g' H' → Q b H'
  | .ok _ => False
  | .exc cl g' => PostX k W σ Z H F cl g'
  | .stuck => False
section
variable {c : Ct} {k : KX} {lv : Nat} {X : Cx} {W : WX} {Z Z' Z'' : Zs} {H H' H'' : Hp} {F F' G F1 F2 F3 : Fp} {σ : L2.St} {g g' : Gm} {Q : VK} {d : D} {v : V} {pu : Bool} {den : Gm → R (D × Gm)} {e : Expr}
theorem PostE.t (h : PostE k σ pu Z H F g g' d v H') : PostT k σ Z H F g' H' := by
  obtain ⟨Z', F1, F2, st, r, s, _⟩ := h
  exact ⟨Z', F1, st, s.less fun a => by omega⟩
theorem rdT_rdE {QT : Bool → Hp → Prop} (h : rdT k W den σ H QT) : rdE k W pu den σ H fun x H' => ∃ b, x = .bl b ∧ QT b H' := by
  obtain ⟨g, Z, F, st, gd, h⟩ := h
  refine ⟨g, Z, F, st, gd, ?_⟩
  cases hd : den g with
  | stuck => rw [hd] at h; exact h
  | exc cl g' => rw [hd] at h; exact h
  | ok p =>
    rw [hd] at h
    obtain ⟨d, g'⟩ := p
    intro v H' po
    cases d with
    | bl b =>
      refine ⟨b, ?_, h H' po.t⟩
      obtain ⟨_, _, _, _, r, _⟩ := po
      exact rep_bl r
    | _ => exact h.elim
theorem pt_plain {t : TE} (pe : PE X e t) (hp : plainT e = true) (w : ∀ σ H Q, rdE k W pu den σ H Q → t σ H Q) : PT X e (rdT k W den) := by
  have he : ∀ whole, isTrue e X.env whole = (do let v ← whole; standAt e.pos; holding [v] (truthy v)) := fun whole => by
    cases e <;> first
      | rfl
      | (simp [plainT] at hp; done)
      | (rename_i op a p; cases op <;> first | rfl | (simp [plainT] at hp; done))
  exact PT.weak (pt_val pe he) fun σ H Q h => w σ H _ (rdT_rdE h)

/-! ### constants, names -/
theorem w_con {t : VK → Prop} (hr : ∀ Z H, Rep k Z H d v fp0) : ∀ σ H Q, rdE k W pu (fun g => .ok (d, g)) σ H Q → tC v σ H Q := fun σ H Q ⟨g, Z, F, st, gd, h⟩ => h v H (postE_same st gd (hr Z H))
theorem pe_con (w : WF c k lv X W) {d : D} {gl : Nat → Option D} {call : Call} (h : mtE c (.con d) e = true) : ∃ t, PE X e t ∧ plainT e = true ∧ ∀ σ H Q, rdE k W true (denE gl call (.con d)) σ H Q → t σ H Q := by
  have go : ∀ {v : V}, (∀ Z H, Rep k Z H d v fp0) → ∀ σ H Q, rdE k W true (denE gl call (.con d)) σ H Q → tC v σ H Q := fun hr σ H Q ⟨g, Z, F, st, gd, h⟩ => by
    simp only [denE] at h
    exact h _ H (postE_same st gd (hr Z H))
  simp only [mtE] at h
  split at h
  · split at h
    · exact ⟨_, pe_non, rfl, go fun _ _ => by rw [Rep]; exact ⟨rfl, fun _ => rfl⟩⟩
    · cases h
  · split at h
    · have h := eq_of_beq h
      subst h
      exact ⟨_, pe_bl, rfl, go fun _ _ => by rw [Rep]; exact ⟨rfl, fun _ => rfl⟩⟩
    · cases h
  · split at h
    · have h := of_decide_eq_true h
      subst h
      exact ⟨_, pe_int, rfl, go fun _ _ => by rw [Rep]; exact ⟨rfl, fun _ => rfl⟩⟩
    · cases h
  · split at h
    · have h := of_decide_eq_true h
      subst h
      exact ⟨_, pe_str, rfl, go fun _ _ => by rw [Rep]; exact ⟨rfl, fun _ => rfl⟩⟩
    · cases h
  · split at h
    · rename_i x p n
      simp only [Bool.and_eq_true, decide_eq_true_eq] at h
      obtain ⟨⟨⟨h1, h2⟩, h3⟩, h4⟩ := h
      subst h2
      simp only [glB, Bool.and_eq_true, decide_eq_true_eq, Bool.not_eq_true'] at h4
      obtain ⟨⟨g1, g2⟩, g3⟩ := h4
      have hg : Gl X n := by show X.env.scope.names.lookup _ = _; rw [w.sc]; exact g1
      have hv : bootBuiltins n = some (.type n) := by
        have h1 : n ∈ tyNames := by simpa using h1
        simp only [tyNames, List.mem_cons, List.not_mem_nil, or_false] at h1
        rcases h1 with rfl | rfl | rfl | rfl | rfl | rfl | rfl <;> decide +kernel
      exact ⟨_, pe_bltn (v := .ty n) hg (w.bl _ h3) hv rfl g3 g2, rfl, go fun _ _ => by rw [Rep]; exact ⟨rfl, fun _ => rfl⟩⟩
    · cases h
  · cases h
theorem pe_glb (w : WF c k lv X W) {n : Nat} {call : Call} (h : mtE c (.glb n) e = true) : ∃ t, PE X e t ∧ plainT e = true ∧ ∀ σ H Q, rdE k W true (denE c.P.val call (.glb n)) σ H Q → t σ H Q := by
  simp only [mtE] at h
  split at h
  · rename_i x p
    split at h
    · rename_i y d hn
      simp only [glB, Bool.and_eq_true, decide_eq_true_eq, Bool.not_eq_true'] at h
      obtain ⟨rfl, ⟨g1, g2⟩, g3⟩ := h
      have hg : Gl X x := by show X.env.scope.names.lookup _ = _; rw [w.sc]; exact g1
      obtain ⟨u, v, hm, r, rp⟩ := w.gl n x d hn
      refine ⟨_, pe_glob hg hm r g2, rfl, fun σ H Q ⟨g, Z, F, st, gd, h⟩ => ?_⟩
      simp only [denE, Prog.val, hn, Option.map_some, opt_some, bind_ok] at h
      exact h v H (postE_same st gd (rp Z H))
    · cases h
  · cases h

/-! ### places -/
theorem pe_nm (w : WF c k lv X W) {i : Nat} (h : mtN c i e = true) : PE X e (tPl k (.slot i)) := by
  unfold mtN at h
  split at h
  · rename_i x p
    simp only [visB, Bool.and_eq_true, decide_eq_true_eq, Bool.not_eq_true'] at h
    obtain ⟨⟨⟨h1, h2⟩, h3⟩, h4⟩ := h
    have hv : Vis X.env.scope x := by
      unfold Vis
      rw [w.sc]
      split at h2 <;> first | (rename_i q; exact .inl q) | (rename_i q; exact .inr (.inl q)) | (rename_i q; exact .inr (.inr q)) | cases h2
    exact pe_var (by rw [w.N]; exact h1) hv h3 h4
  · cases h
theorem nm_st {i : Nat} (h : mtN c i e = true) : noSt e = true := by
  unfold mtN at h
  split at h
  · rfl
  · cases h
theorem pe_sx (w : WF c k lv X W) : ∀ {x : SX} {e : Expr}, mtX c x e = true → PE X e fun σ H Q => ∃ i, SXAt σ x i ∧ Q (.int i) H
  | .num i, e, h => by
    simp only [mtX] at h
    split at h
    · have h := of_decide_eq_true h
      subst h
      exact PE.weak pe_int fun σ H Q ⟨j, e, q⟩ => by cases e; exact q
    · cases h
  | .var i, e, h => by
    simp only [mtX] at h
    exact PE.weak (pe_nm w h) fun σ H Q ⟨j, e, q⟩ => ⟨.int j, e, q⟩
  | .add a b, e, h => by
    simp only [mtX] at h
    split at h
    · simp only [Bool.and_eq_true] at h
      exact PE.weak (pe_op op_add (pe_sx w h.1) (pe_sx w h.2)) fun σ H Q ⟨j, ⟨x, y, ex, ey, ej⟩, q⟩ => ⟨x, ex, y, ey, x, y, rfl, rfl, by subst ej; exact q⟩
    · cases h
  | .sub a b, e, h => by
    simp only [mtX] at h
    split at h
    · simp only [Bool.and_eq_true] at h
      exact PE.weak (pe_op op_sub (pe_sx w h.1) (pe_sx w h.2)) fun σ H Q ⟨j, ⟨x, y, ex, ey, ej⟩, q⟩ => ⟨x, ex, y, ey, x, y, rfl, rfl, by subst ej; exact q⟩
    · cases h
  | .neg a, e, h => by
    simp only [mtX] at h
    split at h
    · exact PE.weak (pe_un un_neg (pe_sx w h)) fun σ H Q ⟨j, ⟨x, ex, ej⟩, q⟩ => ⟨x, ex, x, rfl, by subst ej; exact q⟩
    · cases h
theorem plainIx {b : Expr} (h : noSl b = true) : PlainIx b := fun o i => by
  cases b <;> first | rfl | (simp [noSl] at h; done)
theorem pe_pl (w : WF c k lv X W) : ∀ {p : PL} {e : Expr}, mtP c p e = true → PE X e (tPl k p) ∧ plainT e = true ∧ noSt e = true
  | .slot i, e, h => by
    simp only [mtP] at h
    refine ⟨pe_nm w h, ?_, nm_st h⟩
    unfold mtN at h
    split at h
    · rfl
    · cases h
  | .ix p x, e, h => by
    simp only [mtP] at h
    split at h
    · simp only [Bool.and_eq_true] at h
      obtain ⟨⟨h1, h2⟩, h3⟩ := h
      refine ⟨PE.weak (pe_ix ix_seq (pe_pl w h1).1 (pe_sx w h2) (plainIx h3)) fun σ H Q ⟨v, ac, q⟩ => ?_, rfl, rfl⟩
      obtain ⟨a, vs, i, ac, sx, sq, ai⟩ := ac
      refine ⟨.ref a, ac, i, sx, ?_⟩
      rcases sq with sq | sq
      · exact .inl ⟨a, vs, i, v, rfl, rfl, by rw [w.K]; exact sq, ai, q⟩
      · exact .inr (.inl ⟨a, vs, i, v, rfl, rfl, by rw [w.K]; exact sq, ai, q⟩)
    · cases h
  | .att p cc j, e, h => by
    simp only [mtP] at h
    split at h <;> cases h
theorem w_rd {p : PL} {gl : Nat → Option D} {call : Call} : ∀ σ H Q, rdE k W true (denE gl call (.rd p)) σ H Q → tPl k p σ H Q := fun σ H Q ⟨g, Z, F, st, gd, h⟩ => by
  simp only [denE] at h
  cases hp : getPl p g with
  | none => rw [hp] at h; exact h.elim
  | some d =>
    rw [hp] at h
    dsimp only at h
    obtain ⟨v, ac, Fd, R, hF, r, _⟩ := focus st gd p hp
    by_cases hn : noOwn d = true
    · rw [if_pos hn] at h
      exact ⟨v, ac, h v H (postE_same st gd (r.un hn))⟩
    · rw [if_neg hn] at h
      exact h.elim
theorem w_mv {i : Nat} {gl : Nat → Option D} {call : Call} : ∀ σ H Q, rdE k W false (denE gl call (.mv i)) σ H Q → tPl k (.slot i) σ H Q := fun σ H Q ⟨g, Z, F, st, gd, h⟩ => by
  simp only [denE] at h
  cases hp : getS g i with
  | none => rw [hp] at h; exact h.elim
  | some d =>
    rw [hp] at h
    obtain ⟨v, Fd, R, e1, r, hF, up⟩ := st.get hp
    refine ⟨v, e1, h v H ?_⟩
    have u := up (Z' := Z) (H' := H) (s' := none) (o' := some v) (F' := fp0) (fun _ => rfl) ⟨fun _ z => z, fun _ _ e _ => e, gd.eq fun a => by rw [hF]⟩
    rw [set_same e1] at u
    exact ⟨Z, R, Fd, u.eqF fun a => by simp, r, (Step.refl gd).less fun a => by rw [hF]; omega, fun z => by cases z⟩
/-- frozen: nothing more is done to it -/
theorem Step.freeze (gd : Good Z H F) (hF : ∀ a, F a = F1 a + F2 a) : Step Z H F (fun a => Z a ∨ 1 ≤ F1 a) H F2 := by
  refine ⟨fun _ z => .inl z, fun a z => ?_, fun a h => .inl (by rw [hF]; omega), fun _ _ e _ => e, ⟨fun a => ?_, fun a h z => ?_, fun a h => gd.ob a (by rw [hF]; omega), fun a z => ?_⟩⟩
  · rcases z with z | z
    · exact .inl z
    · exact .inr (.inl (by rw [hF]; omega))
  · have := gd.le a; rw [hF] at this; omega
  · rcases z with z | z
    · exact gd.nz a (by rw [hF]; omega) z
    · have := gd.le a; rw [hF] at this; omega
  · rcases z with z | z
    · exact gd.zh a z
    · obtain ⟨o, e, _⟩ := gd.ob a (by rw [hF]; omega); exact ⟨o, e⟩
theorem Reps.moreZ {ds : List D} {vs : List V} (r : Reps k Z H ds vs F) (gd : Good Z H F) (z : ∀ a, Z a → Z' a) : Reps k Z' H ds vs F := Reps.stay ds r ⟨z, fun _ _ e _ => e, gd.eq (F' := fun a => fp0 a + F a) fun a => by simp⟩
theorem StR.moreZ (r : StR k Z H g σ F) (gd : Good Z H F) (z : ∀ a, Z a → Z' a) : StR k Z' H g σ F := r.stay ⟨z, fun _ _ e _ => e, gd.eq (F' := fun a => fp0 a + F a) fun a => by simp⟩
theorem w_fz {i : Nat} {gl : Nat → Option D} {call : Call} : ∀ σ H Q, rdE k W false (denE gl call (.fz i)) σ H Q → tPl k (.slot i) σ H Q := fun σ H Q ⟨g, Z, F, st, gd, h⟩ => by
  simp only [denE] at h
  cases hp : getS g i with
  | none => rw [hp] at h; exact h.elim
  | some d =>
    rw [hp] at h
    obtain ⟨v, Fd, R, e1, r, hF, up⟩ := st.get hp
    refine ⟨v, e1, h v H ?_⟩
    have fr : Rep k (fun a => Z a ∨ 1 ≤ Fd a) H (frz d) v fp0 := r.frz (fun _ z => .inl z) fun _ z => .inr z
    have u := up (Z' := fun a => Z a ∨ 1 ≤ Fd a) (H' := H) (s' := some (frz d)) (o' := some v) (F' := fp0) ⟨v, rfl, fr⟩ ⟨fun _ z => .inl z, fun _ _ e _ => e, gd.eq fun a => by rw [hF]⟩
    rw [set_same e1] at u
    exact ⟨_, R, fp0, u.eqF fun a => by simp, fr, (Step.freeze gd hF).less fun a => by simp, fun z => by cases z⟩

theorem w_fx {a : IE} {pu : Bool} {gl : Nat → Option D} {call : Call} : ∀ σ H Q, rdE k W false (denE gl call (.fx a)) σ H Q → rdE k W pu (denE gl call a) σ H Q := fun σ H Q ⟨g, Z, F, st, gd, h⟩ => by
  refine ⟨g, Z, F, st, gd, ?_⟩
  simp only [denE] at h
  cases he : denE gl call a g with
  | stuck => rw [he] at h; exact h
  | exc cl g' => rw [he] at h; exact h
  | ok p =>
    rw [he] at h
    rintro v H' ⟨Z', F1, F2, st1, r1, s1, _⟩
    have gd1 := s1.good
    have g1 : Good Z' H' F1 := gd1.less fun a => by omega
    refine h v H' ⟨fun a => Z' a ∨ 1 ≤ F2 a, F1, fp0, st1.moreZ g1 (fun _ z => .inl z), r1.frz (fun _ z => .inl z) (fun _ z => .inr z), ?_, fun z => by cases z⟩
    exact (s1.trans (Step.freeze gd1 (F1 := F2) (F2 := F1) fun a => by omega)).less fun a => by simp
/-! ### displays -/
theorem w_lst {es : IOs} {gl : Nat → Option D} {call : Call} {n : Nat} (hn : ∀ os g g', denO gl call es g = .ok (os, g') → os.length ≤ sizeLine) :
    ∀ σ H Q, rdE k W (pureO es) (denE gl call (.lst es)) σ H Q → tLst (seqO k W gl call es) σ H Q := fun σ H Q ⟨g, Z, F, st, gd, h⟩ => by
  simp only [denE] at h
  refine seqO_ok es st gd ?_
  cases he : denO gl call es g with
  | stuck => rw [he] at h; exact h
  | exc cl g' => rw [he] at h; exact h
  | ok p =>
    rw [he] at h
    simp only [bind_ok] at h
    rintro vs H1 ⟨Z1, F1, F2, st1, r1, s1, p1⟩
    cases hv : valsO p.1 with
    | none => rw [hv] at h; exact h.elim
    | some ds =>
      rw [hv] at h
      simp only [opt_some, bind_ok] at h
      have rs := r1.vals hv
      refine ⟨by rw [← r1.len]; exact hn p.1 g p.2 he, fun a ha => h _ _ ?_⟩
      have gl := s1.good
      have g2 : Good Z1 H1 F2 := gl.less fun a => by omega
      have g1 : Good Z1 H1 F1 := gl.less fun a => by omega
      have gn := gl.new ha (o := .lst vs) trivial
      refine ⟨Z1, F1, fun b => F2 b + one true a b, st1.stay (sth0 ha g1), ?_, ⟨s1.z, s1.zn, fun b hb => ?_, fun b o e q => ?_, gn.eq fun b => by walk_at "fp"⟩, fun hp => ⟨(p1 hp).1, ?_⟩⟩
      · rw [rep_lst]
        exact ⟨a, vs, F2, rfl, .ofOwn upd_same, Reps.stay ds rs (sth0 ha g2), fun z => (by cases z), fun _ => rfl⟩
      · by_cases hba : b = a
        · subst hba
          by_cases hn : H b = none
          · exact .inr hn
          · cases hf : F b with
            | succ n => exact .inl (by omega)
            | zero =>
              obtain ⟨o, e⟩ : ∃ o, H b = some o := by cases q : H b with | none => exact absurd q hn | some o => exact ⟨o, rfl⟩
              have := s1.kp b o e hf
              rw [ha] at this; cases this
        · have hb : 1 ≤ F1 b + (F2 b + one true a b) := hb
          rw [one_ne hba] at hb
          exact s1.fn b (by show 1 ≤ F1 b + F2 b; omega)
      · have := s1.kp b o e q
        rw [upd_ne (ne_of_none this ha)]; exact this
      · have t1 := (p1 hp).2
        have t2 : Step Z1 H1 F2 Z1 (upd H1 a (.lst vs)) fun b => F2 b + one true a b := ⟨fun _ z => z, fun _ z => .inl z, fun b hb => by
          by_cases hba : b = a
          · subst hba; exact .inr ha
          · have hb : 1 ≤ F2 b + one true a b := hb
            rw [one_ne hba] at hb; exact .inl (by omega), keep_upd ha, gn.less fun b => by walk_at "fp"⟩
        exact t1.trans t2
theorem w_tup {es : IOs} {gl : Nat → Option D} {call : Call} {n : Nat} (hn : ∀ os g g', denO gl call es g = .ok (os, g') → os.length ≤ sizeLine) :
    ∀ σ H Q, rdE k W (pureO es) (denE gl call (.tup es)) σ H Q → tTup (seqO k W gl call es) σ H Q := fun σ H Q ⟨g, Z, F, st, gd, h⟩ => by
  simp only [denE] at h
  refine seqO_ok es st gd ?_
  cases he : denO gl call es g with
  | stuck => rw [he] at h; exact h
  | exc cl g' => rw [he] at h; exact h
  | ok p =>
    rw [he] at h
    simp only [bind_ok] at h
    rintro vs H1 ⟨Z1, F1, F2, st1, r1, s1, p1⟩
    cases hv : valsO p.1 with
    | none => rw [hv] at h; exact h.elim
    | some ds =>
      rw [hv] at h
      simp only [opt_some, bind_ok] at h
      have rs := r1.vals hv
      refine ⟨by rw [← r1.len]; exact hn p.1 g p.2 he, fun a ha => h _ _ ?_⟩
      have gl := s1.good
      have g2 : Good Z1 H1 F2 := gl.less fun a => by omega
      have g1 : Good Z1 H1 F1 := gl.less fun a => by omega
      have gn := gl.upd ha (o := .tup vs)
      refine ⟨Z1, F1, F2, st1.stay (sth0 ha g1), ?_, ⟨s1.z, s1.zn, s1.fn, fun b o e q => ?_, gn⟩, fun hp => ⟨(p1 hp).1, ?_⟩⟩
      · rw [rep_tup]
        exact ⟨a, vs, rfl, SqT.of upd_same, Reps.stay ds rs (sth0 ha g2)⟩
      · have := s1.kp b o e q
        rw [upd_ne (ne_of_none this ha)]; exact this
      · have t1 := (p1 hp).2
        have t2 : Step Z1 H1 F2 Z1 (upd H1 a (.tup vs)) F2 := ⟨fun _ z => z, fun _ z => .inl z, fun b hb => .inl hb, keep_upd ha, gn.less fun b => by omega⟩
        exact t1.trans t2
theorem mtO_len {gl : Nat → Option D} {call : Call} : ∀ {es : IOs} {l : List Expr} {os : List Opd} {g g' : Gm}, mtO c es l = true → denO gl call es g = .ok (os, g') → os.length = l.length
  | .nil, l, os, g, g', h, e => by
    simp only [mtO] at h
    simp only [denO] at e
    cases e
    cases l with
    | nil => rfl
    | cons _ _ => cases h
  | .val a r, l, os, g, g', h, e => by
    simp only [mtO] at h
    split at h
    · cases h
    · simp only [Bool.and_eq_true] at h
      simp only [denO] at e
      cases h1 : denE gl call a g with
      | stuck => rw [h1] at e; cases e
      | exc _ _ => rw [h1] at e; cases e
      | ok p =>
        rw [h1] at e
        simp only [bind_ok] at e
        cases h2 : denO gl call r p.2 with
        | stuck => rw [h2] at e; cases e
        | exc _ _ => rw [h2] at e; cases e
        | ok q =>
          rw [h2] at e
          simp only [bind_ok] at e
          cases e
          simp [mtO_len h.2 h2]
  | .slt i r, l, os, g, g', h, e => by
    simp only [mtO] at h
    split at h
    · cases h
    · simp only [Bool.and_eq_true] at h
      simp only [denO] at e
      cases h1 : getS g i with
      | none => rw [h1] at e; cases e
      | some d =>
        rw [h1] at e
        simp only [opt_some, bind_ok] at e
        cases h2 : denO gl call r g with
        | stuck => rw [h2] at e; cases e
        | exc _ _ => rw [h2] at e; cases e
        | ok q =>
          rw [h2] at e
          simp only [bind_ok] at e
          cases e
          simp [mtO_len h.2 h2]
  | .pla p, l, os, g, g', h, e => by
    simp only [mtO] at h
    split at h
    · simp only [denO] at e
      cases h1 : getPl p g with
      | none => rw [h1] at e; cases e
      | some d => rw [h1] at e; cases e; rfl
    · cases h
end
end VS
end

section
set_option maxHeartbeats 1000000
/-! VS9: operations, slices, truth, calls. -/
namespace VS
open PySem PySem.Spec PyProof.Rows L2
local macro_rules | `(tactic| walk_at "fp") => `(tactic| ((try dsimp only at *); omega))
section
variable {c : Ct} {k : KX} {lv : Nat} {X : Cx} {W : WX} {Z Z' Z'' : Zs} {H H' H'' : Hp} {F F' G F1 F2 F3 : Fp} {σ : L2.St} {g g' : Gm} {Q : VK} {d : D} {v : V} {pu : Bool} {den : Gm → R (D × Gm)} {e : Expr} {gl : Nat → Option D} {call : Call}
theorem binR (w : WF c k lv X W) {o : Op} {bo : Operator} (h : binOf o = some bo) : OpR X (binaryOp bo) (rD2 k (opD o)) := by
  cases o <;> simp only [binOf, Option.some.injEq] at h <;> first | cases h | skip
  · exact opr_add w.K
  · exact opr_sub
  · exact opr_mul w.K
  · exact opr_mod
  · exact opr_fdiv
  · exact opr_pow
theorem unr_neg : UnR X (unaryOp .USub) (fun x H Q => rD k (opD .neg) [x] H Q) := by
  intro pins s σ H x v Q I rx ⟨Z, ds, d, re, gd, e, an⟩
  obtain ⟨a, rfl, Fa, ra⟩ := re.one
  replace e : opI1 _ a = some d := e
  unfold opI1 at e
  split at e
  · cases e
    exact un_neg pins s σ H x v Q I rx ⟨_, rep_int ra, an.int gd⟩
  · cases e
theorem cmpR (w : WF c k lv X W) {o : Op} {bo : CmpOp} (h : cmpOf o = some bo) : OpR X (compareOp bo) (rD2 k (opD o)) := by
  have h1 := w.room.un
  have hu : X.A.units + 65 < cLine := by omega
  have hu' : X.A.units + 64 < cLine := by omega
  cases o <;> simp only [cmpOf, Option.some.injEq] at h <;> first | cases h | skip
  · exact opr_eq w.K hu'
  · exact opr_ne w.K hu'
  · exact opr_lt
  · exact opr_le
  · exact opr_gt
  · exact opr_ge
  · exact opr_isn
  · exact opr_nsn
  · exact opr_inn w.K hu
  · exact opr_nin w.K hu
theorem chnR (w : WF c k lv X W) {o : Op} {bo : CmpOp} (h : chnOf o = some bo) : OpR X (compareOp bo) (rD2 k (opD o)) ∧ bo ≠ .In ∧ bo ≠ .NotIn := by
  cases o <;> simp only [chnOf, Option.some.injEq] at h <;> first | cases h | skip
  · exact ⟨opr_lt, by decide, by decide⟩
  · exact ⟨opr_le, by decide, by decide⟩
  · exact ⟨opr_gt, by decide, by decide⟩
  · exact ⟨opr_ge, by decide, by decide⟩
theorem fnR (w : WF c k lv X W) {o : Op} {x : Str} (h : fnOf o = some x) : ∃ id, CallR X (.builtin id) (rD k (opD o)) ∧ bootBuiltins x = some (.builtin id) := by
  cases o <;> simp only [fnOf, Option.some.injEq] at h <;> first | cases h | skip
  · exact ⟨_, crl_len w.K, PySem.boot_len⟩
  · exact ⟨_, crl_abs, by decide +kernel⟩
  · exact ⟨_, crl_min2 w.calm, by decide +kernel⟩
  · exact ⟨_, crl_max2 w.calm, by decide +kernel⟩
  · exact ⟨_, crl_min4 w.calm, by decide +kernel⟩
  · exact ⟨_, crl_best w.K (.inl ⟨rfl, rfl, rfl⟩) w.calm (by have := w.room.un; omega), by decide +kernel⟩
  · exact ⟨_, crl_best w.K (.inr ⟨rfl, rfl, rfl⟩) w.calm (by have := w.room.un; omega), by decide +kernel⟩
  · exact ⟨_, crl_sum w.K w.calm, by decide +kernel⟩
  · exact ⟨_, crl_any w.K w.calm, by decide +kernel⟩
  · exact ⟨_, crl_all w.K w.calm, by decide +kernel⟩
  · exact ⟨_, crl_sorted w.K (by have := w.room.un; omega), by decide +kernel⟩
  · exact ⟨_, crl_isi w.K, by decide +kernel⟩
theorem kwR (w : WF c k lv X W) {o : Op} {x kw : Str} (h : kwOf o = some (x, kw)) : ∃ id, CallRK X (.builtin id) [kw] (rK k (opD o)) ∧ bootBuiltins x = some (.builtin id) := by
  have h1 := w.room.un
  cases o <;> simp only [kwOf, Option.some.injEq, Prod.mk.injEq, reduceCtorEq] at h
  · obtain ⟨rfl, rfl⟩ := h
    exact ⟨_, crl_bestD w.K (.inl ⟨rfl, rfl, rfl⟩) w.calm (by omega), by decide +kernel⟩
  · obtain ⟨rfl, rfl⟩ := h
    exact ⟨_, crl_bestD w.K (.inr ⟨rfl, rfl, rfl⟩) w.calm (by omega), by decide +kernel⟩
theorem PEs.st {es : IOs} {a : Expr} {l : List Expr} (h : PEs k W gl call X es (a :: l)) : noSt a = true := by
  cases es with
  | nil => cases h
  | val e r => obtain ⟨_, _, e1, n, p, q⟩ := h; cases e1; exact n
  | slt i r => obtain ⟨_, _, e1, n, p, q⟩ := h; cases e1; exact n
  | pla p => obtain ⟨_, e1, n, p⟩ := h; cases e1; exact n
theorem tyR (w : WF c k lv X W) {o : Op} {x : Str} (h : tyOp o = some x) : ∃ id, CallR X (.type id) (rD k (opD o)) ∧ bootBuiltins x = some (.type id) := by
  cases o <;> simp only [tyOp, Option.some.injEq] at h <;> first | cases h | skip
  · exact ⟨_, crl_int, by decide +kernel⟩
  · exact ⟨_, crl_list w.K, by decide +kernel⟩
  · exact ⟨_, crl_tuple w.K, by decide +kernel⟩
theorem gl_of (w : WF c k lv X W) {x : Str} (h : glB c x = true) : Gl X x ∧ (x == ("__debug__" : Str)) = false ∧ x ≠ "__name__" := by
  simp only [glB, Bool.and_eq_true, decide_eq_true_eq, Bool.not_eq_true'] at h
  obtain ⟨⟨g1, g2⟩, g3⟩ := h
  exact ⟨by show X.env.scope.names.lookup _ = _; rw [w.sc]; exact g1, g2, g3⟩
theorem w_op {o : Op} {es : IOs} : ∀ σ H Q, rdE k W (pureO es) (denE gl call (.op o es)) σ H Q → seqO k W gl call es σ H fun vs H' => rD k (opD o) vs H' Q := fun σ H Q h => by
  have e : denE gl call (.op o es) = fun g => (denO gl call es g).bind fun p => (opt (finO p.1 p.2)).bind fun ds => (opt (opD o ds)).bind fun d => .ok (d, p.2) := by funext g; simp only [denE]
  rw [e] at h
  exact rdE_op (fun z => z) h
/-! ### slices -/
def Mono (t : TE) : Prop := ∀ σ H (Q Q' : VK), (∀ v H', Q v H' → Q' v H') → t σ H Q → t σ H Q'
theorem mono_rdE : Mono (rdE k W pu den) := fun σ H Q Q' m ⟨g, Z, F, st, gd, h⟩ => by
  refine ⟨g, Z, F, st, gd, ?_⟩
  cases hd : den g with
  | stuck => rw [hd] at h; exact h
  | exc cl g' => rw [hd] at h; exact h
  | ok p => rw [hd] at h; exact fun v H' po => m v H' (h v H' po)
theorem mono_tPl {p : PL} : Mono (tPl k p) := fun σ H Q Q' m ⟨v, ac, q⟩ => ⟨v, ac, m v H q⟩
theorem PEs.cons {es : IOs} {a : Expr} {l : List Expr} (h : PEs k W gl call X es (a :: l)) : ∃ ta es', PE X a ta ∧ Mono ta ∧ PEs k W gl call X es' l ∧ ∀ σ H K, seqO k W gl call es σ H K → ta σ H fun x H1 => seqO k W gl call es' σ H1 fun vs H2 => K (x :: vs) H2 := by
  cases es with
  | nil => cases h
  | val e r => obtain ⟨_, _, e1, n, p, q⟩ := h; cases e1; exact ⟨_, r, p, mono_rdE, q, fun _ _ _ z => z⟩
  | slt i r => obtain ⟨_, _, e1, n, p, q⟩ := h; cases e1; exact ⟨_, r, p, mono_tPl, q, fun _ _ _ z => z⟩
  | pla p => obtain ⟨_, e1, n, p⟩ := h; cases e1; exact ⟨_, .nil, p, mono_tPl, rfl, fun _ _ _ z => z⟩
theorem PEs.nil' {es : IOs} (h : PEs k W gl call X es []) : es = .nil := by
  cases es with
  | nil => rfl
  | val e r => obtain ⟨_, _, e1, _⟩ := h; cases e1
  | slt i r => obtain ⟨_, _, e1, _⟩ := h; cases e1
  | pla p => obtain ⟨_, e1, _⟩ := h; cases e1
theorem rdE_opK {es : IOs} {f : List D → Option D} {K : List V → Hp → Prop} (hK : ∀ vs H', rD k f vs H' Q → K vs H')
    (h : rdE k W (pureO es) (fun g => (denO gl call es g).bind fun p => (opt (finO p.1 p.2)).bind fun ds => (opt (f ds)).bind fun d => .ok (d, p.2)) σ H Q) : seqO k W gl call es σ H K := by
  obtain ⟨g, Z, F, st, gd, h⟩ := h
  dsimp only at h
  refine seqO_ok es st gd ?_
  cases he : denO gl call es g with
  | stuck => rw [he] at h; exact h
  | exc cl g' => rw [he] at h; exact h
  | ok p =>
    rw [he] at h
    simp only [bind_ok] at h
    rintro vs H1 ⟨Z1, F1, F2, st1, r1, s1, p1⟩
    cases hf : finO p.1 p.2 with
    | none => rw [hf] at h; exact h.elim
    | some ds =>
      rw [hf] at h
      simp only [opt_some, bind_ok] at h
      cases hd : f ds with
      | none => rw [hd] at h; exact h.elim
      | some d =>
        rw [hd] at h
        exact hK vs H1 ⟨Z1, ds, d, r1.re hf, s1.good.less fun a => by simp, hd, ans_of st1 s1 p1 h⟩
theorem Reps.rev : ∀ {ds : List D} {vs : List V}, Reps k Z H ds vs fp0 → Reps k Z H ds.reverse vs.reverse fp0
  | [], vs, h => by
    rw [reps_nil] at h
    rw [h.1, List.reverse_nil, List.reverse_nil, reps_nil]
    exact ⟨rfl, fun _ => rfl⟩
  | d :: ds, vs, h => by
    rw [reps_cons] at h
    obtain ⟨v, r, F1, F2, rfl, h1, h2, hF⟩ := h
    have z1 : ∀ a, F1 a = 0 := fun a => by have : (0 : Nat) = F1 a + F2 a := hF a; omega
    have z2 : ∀ a, F2 a = 0 := fun a => by have : (0 : Nat) = F1 a + F2 a := hF a; omega
    rw [List.reverse_cons, List.reverse_cons]
    refine (Reps.rev (h2.eqF fun a => (z2 a).symm)).append0 ?_
    rw [reps_cons]
    exact ⟨v, [], fp0, fp0, rfl, h1.eqF fun a => (z1 a).symm, by rw [reps_nil]; exact ⟨rfl, fun _ => rfl⟩, fun _ => rfl⟩
/-- t[::-1] -/
theorem rev_w (hK : X.K = k.K) {es : IOs} {ta : TE} (s : ∀ σ H K, seqO k W gl call es σ H K → ta σ H fun x H1 => K [x] H1) : ∀ σ H Q, rdE k W (pureO es) (denE gl call (.op .rev es)) σ H Q → tRevT X.K ta (tUn (rU fun i => .int (-i)) (tC (.int 1))) σ H Q := fun σ H Q h => by
  have e : denE gl call (.op .rev es) = fun g => (denO gl call es g).bind fun p => (opt (finO p.1 p.2)).bind fun ds => (opt (opD .rev ds)).bind fun d => .ok (d, p.2) := by funext g; simp only [denE]
  rw [e] at h
  refine s σ H (fun vs H' => match vs with | [x] => tUn (rU fun i => .int (-i)) (tC (.int 1)) σ H' fun y H2 => y = .int (-1) ∧ ∃ a xs, x = .ref a ∧ SqT X.K H2 a xs ∧ ∀ p, H2 p = none → Q (.ref p) (upd H2 p (.tup xs.reverse)) | _ => True) (rdE_opK (fun vs H' ⟨Z, ds, d, re, gd, e, an⟩ => ?_) h)
  split
  · obtain ⟨a, rfl, F, ra⟩ := re.one
    replace e : opRev a = some d := e
    unfold opRev at e
    split at e
    · split at e
      · rename_i hn; cases e
        obtain ⟨p, vs, G, rfl, q, r, l⟩ := rep_seqT ra
        exact ⟨1, rfl, rfl, p, vs, rfl, by rw [hK]; exact q, an.tup gd (Reps.rev (r.un hn))⟩
      · cases e
    · cases e
  · trivial
/-- an operation, as a value and as a test -/
theorem op_ok (w : WF c k lv X W) {o : Op} {es : IOs} {l : List Expr} (ha : argsOf c o e = some l) (p : PEs k W gl call X es l) :
    PE X e (rdE k W (pureO es) (denE gl call (.op o es))) ∧ PT X e (rdT k W (denE gl call (.op o es))) := by
  have both : ∀ {t : TE}, PE X e t → plainT e = true → (∀ σ H Q, rdE k W (pureO es) (denE gl call (.op o es)) σ H Q → t σ H Q) → PE X e (rdE k W (pureO es) (denE gl call (.op o es))) ∧ PT X e (rdT k W (denE gl call (.op o es))) :=
    fun pe hp hw => ⟨PE.weak pe hw, pt_plain pe hp hw⟩
  unfold argsOf at ha
  split at ha
  · split at ha
    · rename_i hb; cases ha
      obtain ⟨ta, tb, pa, pb, s⟩ := p.two
      exact both (pe_op (binR w hb) pa pb) rfl fun σ H Q h => s σ H _ (w_op σ H Q h)
    · cases ha
  · split at ha
    · rename_i hb; cases ha
      subst hb
      obtain ⟨ta, pa, s⟩ := p.fst
      exact both (pe_un unr_neg pa) rfl fun σ H Q h => s σ H _ (w_op σ H Q h)
    · cases ha
  · split at ha
    · rename_i hb; cases ha
      obtain ⟨ta, tb, pa, pb, s⟩ := p.two
      refine ⟨PE.weak (pe_cmpR (cmpR w hb.1) pa pb hb.2) fun σ H Q h => s σ H _ (w_op σ H Q h), PT.weak (pt_cmpR (cmpR w hb.1) pa pb hb.2) fun σ H Q h => s σ H _ (w_op σ H _ (rdT_rdE h))⟩
    · cases ha
  · split at ha
    · rename_i hb; cases ha
      subst hb
      obtain ⟨ta, pa, s⟩ := p.fst
      exact both (pe_revT pa (pe_un un_neg pe_int)) rfl fun σ H Q h => rev_w w.K s σ H Q h
    · cases ha
  · split at ha
    · rename_i hb; cases ha
      obtain ⟨ta, tb, pa, pb, s⟩ := p.two
      obtain ⟨rfl, hb⟩ := hb
      exact both (pe_ix (ixr_ix w.K) pa pb (plainIx hb)) rfl fun σ H Q h => s σ H _ (w_op σ H Q h)
    · cases ha
  · split at ha
    · rename_i x np e1 kw v1 kp pos hb; cases ha
      obtain ⟨h1, h2, h3⟩ := hb
      obtain ⟨hg, hdb, hn⟩ := gl_of w h3
      obtain ⟨id, hr, hv⟩ := kwR w h1
      have n := p.st
      have hs : starEach [e1] X.env = (false, eval e1 X.env) :: starEach [] X.env := starEach_cons n
      have he : backTo pos (starEach [e1] X.env) = (false, eval e1 X.env) :: backTo pos (starEach [] X.env) := by rw [hs]; rfl
      have hpl : (backTo pos (starEach [e1] X.env)).any (·.1) = false := by rw [hs]; rfl
      obtain ⟨ta, tb, pa, pb, s⟩ := p.two
      exact both (pe_callBK (kws := [⟨some kw, v1, kp⟩]) (ks := [kw]) hr hg (w.bl _ h2) hv (pa_cons pa pa_nil hs) (pk_cons pb pk_nil) hn hdb he hpl rfl rfl rfl) rfl fun σ H Q h => s σ H _ (w_op σ H Q h)
    · cases ha
  · split at ha
    · rename_i x np e es' pos hb; cases ha
      obtain ⟨h1, h2, h3⟩ := hb
      obtain ⟨hg, hdb, hn⟩ := gl_of w h3
      obtain ⟨hs, hpl⟩ := p.tl (env := X.env) (pos := pos)
      rcases h1 with h1 | h1
      · obtain ⟨id, hr, hv⟩ := fnR w h1
        exact both (pe_callB hr hg (w.bl _ h2) hv p.pa hn hdb hs hpl) rfl fun σ H Q h => w_op σ H Q h
      · obtain ⟨id, hr, hv⟩ := tyR w h1
        exact both (pe_callTy hr hg (w.bl _ h2) hv p.pa hn hdb hs hpl) rfl fun σ H Q h => w_op σ H Q h
    · cases ha
  · cases ha
def rSl (k : KX) : V → Option Int → Option Int → Hp → VK → Prop := fun x lo hi H Q => ∃ Z t d F, Rep k Z H t x F ∧ Good Z H fp0 ∧ opSl t lo hi = some d ∧ VS.Ans k Z H d Q
theorem cut_reps {ds : List D} {vs : List V} (r : Reps k Z H ds vs fp0) (l : ds.length = vs.length) (lo hi : Option Int) : Reps k Z H ((ds.drop (HT.sIx ds.length 0 lo)).take (HT.sIx ds.length ds.length hi - HT.sIx ds.length 0 lo)) (cutV vs lo hi) fp0 := by
  unfold cutV
  rw [← l]
  exact (r.drop0 _).take0 _
theorem slR (hK : X.K = k.K) : SlR X (rSl k) := by
  intro pins s σ H x v vl vu lo hi sl Q I rx hs pl pu ⟨Z, t, d, F, r, gd, e, an⟩
  unfold opSl at e
  split at e
  · split at e
    · rename_i hn; cases e
      obtain ⟨a, vs, G, rfl, q, rs, l⟩ := rep_seq r
      exact sl_list pins s σ H _ v vl vu lo hi sl Q I rx hs pl pu ⟨a, vs, rfl, by rw [hK]; exact q, an.lst gd (cut_reps (rs.un hn) l lo hi)⟩
    · cases e
  · split at e
    · rename_i hn; cases e
      obtain ⟨a, vs, G, rfl, q, rs, l⟩ := rep_seqT r
      have rc := cut_reps (rs.un hn) l lo hi
      refine sl_tupA pins s σ H _ v vl vu lo hi sl Q I rx hs pl pu ⟨a, vs, rfl, by rw [hK]; exact q, fun ⟨e1, e2⟩ => an.same gd ?_, fun _ => an.tup gd rc⟩
      rw [rep_tup]
      refine ⟨a, vs, rfl, q, ?_⟩
      have : cutV vs lo hi = vs := by
        unfold cutV
        rw [e1, e2]; simp
      rw [this] at rc
      exact rc
    · cases e
  · cases e
theorem po_part {e : Expr} {t : TE} (p : PE X e t) : PO X (some e) (tPart t) := po_some p
theorem RE.three {ds : List D} {x y z : V} (h : RE k Z H ds [x, y, z]) : ∃ a b d, ds = [a, b, d] ∧ (∃ F, Rep k Z H a x F) ∧ (∃ F, Rep k Z H b y F) ∧ ∃ F, Rep k Z H d z F := by
  cases h with
  | cons h1 t => cases t with
    | cons h2 t => cases t with
      | cons h3 t => cases t; exact ⟨_, _, _, rfl, h1, h2, h3⟩
theorem PEs.three {es : IOs} {a b c : Expr} (h : PEs k W gl call X es [a, b, c]) : ∃ ta tb tc, PE X a ta ∧ PE X b tb ∧ PE X c tc ∧ ∀ σ H K, seqO k W gl call es σ H K → ta σ H fun x H1 => tb σ H1 fun y H2 => tc σ H2 fun z H3 => K [x, y, z] H3 := by
  obtain ⟨ta, es', pa, m, q, s⟩ := h.cons
  obtain ⟨tb, tc, pb, pc, s2⟩ := q.two
  exact ⟨ta, tb, tc, pa, pb, pc, fun σ H K z => m σ H _ _ (fun x H1 z1 => s2 σ H1 _ z1) (s σ H K z)⟩
theorem sl_ok (w : WF c k lv X W) {lo hi : Bool} {es : IOs} {l : List Expr} (ha : slArgs lo hi e = some l) (p : PEs k W gl call X es l) :
    PE X e (rdE k W (pureO es) (denE gl call (.sl lo hi es))) ∧ plainT e = true := by
  have de : denE gl call (.sl lo hi es) = fun g => (denO gl call es g).bind fun p => (opt (finO p.1 p.2)).bind fun ds => (opt (opSlB lo hi ds)).bind fun d => .ok (d, p.2) := by funext g; simp only [denE]
  rw [de]
  unfold slArgs at ha
  split at ha
  · split at ha
    · cases ha
      obtain ⟨ta, pa, s⟩ := p.fst
      refine ⟨PE.weak (pe_slice (slR w.K) pa po_none po_none) fun σ H Q h => s σ H (fun vs H' => match vs with | [x] => rSl k x none none H' Q | _ => True) (rdE_opK (fun vs H' ⟨Z, ds, d, re, gd, e, an⟩ => ?_) h), rfl⟩
      split
      · obtain ⟨a, rfl, Fa, ra⟩ := re.one
        exact ⟨Z, a, d, Fa, ra, gd, e, an⟩
      · trivial
    · cases ha
      obtain ⟨ta, tb, pa, pb, s⟩ := p.two
      refine ⟨PE.weak (pe_slice (slR w.K) pa (po_some pb) po_none) fun σ H Q h => s σ H (fun vs H' => match vs with | [x, y] => ∃ i, y = .int i ∧ rSl k x (some i) none H' Q | _ => True) (rdE_opK (fun vs H' ⟨Z, ds, d, re, gd, e, an⟩ => ?_) h), rfl⟩
      split
      · obtain ⟨a, b, rfl, ⟨Fa, ra⟩, ⟨Fb, rb⟩⟩ := re.two
        cases b <;> first | (simp [opSlB] at e; done) | skip
        exact ⟨_, rep_int rb, Z, a, d, Fa, ra, gd, e, an⟩
      · trivial
    · cases ha
      obtain ⟨ta, tb, pa, pb, s⟩ := p.two
      refine ⟨PE.weak (pe_slice (slR w.K) pa po_none (po_some pb)) fun σ H Q h => s σ H (fun vs H' => match vs with | [x, y] => ∃ i, y = .int i ∧ rSl k x none (some i) H' Q | _ => True) (rdE_opK (fun vs H' ⟨Z, ds, d, re, gd, e, an⟩ => ?_) h), rfl⟩
      split
      · obtain ⟨a, b, rfl, ⟨Fa, ra⟩, ⟨Fb, rb⟩⟩ := re.two
        cases b <;> first | (simp [opSlB] at e; done) | skip
        exact ⟨_, rep_int rb, Z, a, d, Fa, ra, gd, e, an⟩
      · trivial
    · cases ha
  · cases ha
theorem slx_ok (w : WF c k lv X W) {lo hi : SX} {es : IOs} {a l h : Expr} {p2 pos : Pos} (p : PEs k W gl call X es [a]) (hl : mtX c lo l = true) (hh : mtX c hi h = true) :
    PE X (.Subscript a (.Slice (some l) (some h) none p2) pos) (rdE k W (pureO es) (denE gl call (.slx lo hi es))) := by
  obtain ⟨ta, pa, s⟩ := p.fst
  refine PE.weak (pe_slice (slR w.K) pa (po_some (pe_sx w hl)) (po_some (pe_sx w hh))) fun σ H Q hq => s σ H (fun vs H' => match vs with | [x] => ∃ i, SXAt σ lo i ∧ ∃ i', V.int i = .int i' ∧ ∃ j, SXAt σ hi j ∧ ∃ j', V.int j = .int j' ∧ rSl k x (some i') (some j') H' Q | _ => True) ?_
  · obtain ⟨g, Z, F, st, gd, h⟩ := hq
    simp only [denE] at h
    refine seqO_ok es st gd ?_
    cases he : denO gl call es g with
    | stuck => rw [he] at h; exact h
    | exc cl g' => rw [he] at h; exact h
    | ok p =>
      rw [he] at h
      simp only [bind_ok] at h
      rintro vs H1 ⟨Z1, F1, F2, st1, r1, s1, p1⟩
      cases hf : finO p.1 p.2 with
      | none => rw [hf] at h; exact h.elim
      | some ds =>
        rw [hf] at h
        simp only [opt_some, bind_ok] at h
        cases hi' : evS lo p.2 with
        | none => rw [hi'] at h; exact h.elim
        | some i =>
          rw [hi'] at h
          simp only [opt_some, bind_ok] at h
          cases hj : evS hi p.2 with
          | none => rw [hj] at h; exact h.elim
          | some j =>
            rw [hj] at h
            simp only [opt_some, bind_ok] at h
            cases hd : opSl1 ds i j with
            | none => rw [hd] at h; exact h.elim
            | some d =>
              rw [hd] at h
              have re := r1.re hf
              split
              · obtain ⟨a, rfl, Fa, ra⟩ := re.one
                exact ⟨i, st1.sx hi', i, rfl, j, st1.sx hj, j, rfl, Z1, a, d, Fa, ra, s1.good.less fun a => by simp, hd, ans_of st1 s1 p1 h⟩
              · trivial
end
end VS
end

section
set_option maxHeartbeats 1000000
/-! VS10: not, and, or, conditional expressions, chains, calls of defs. -/
namespace VS
open PySem PySem.Spec PyProof.Rows L2
local macro_rules | `(tactic| walk_at "fp") => `(tactic| ((try dsimp only at *); omega))
section
variable {c : Ct} {k : KX} {lv : Nat} {X : Cx} {W : WX} {Z Z' Z'' : Zs} {H H' H'' : Hp} {F F' G F1 F2 F3 : Fp} {σ : L2.St} {g g' g1 : Gm} {Q : VK} {d : D} {v : V} {pu : Bool} {den : Gm → R (D × Gm)} {e : Expr} {gl : Nat → Option D} {call : Call}
theorem PostE.imp (h : PostE k σ pu Z H F g g' d v H') : PostE k σ false Z H F g g' d v H' := by
  obtain ⟨Z', F1, F2, st, r, s, _⟩ := h
  exact ⟨Z', F1, F2, st, r, s, fun z => by cases z⟩
/-- another value in its place -/
theorem PostE.bl {b b' : Bool} (h : PostE k σ pu Z H F g g' (.bl b) v H') : PostE k σ pu Z H F g g' (.bl b') (.bl b') H' := by
  obtain ⟨Z', F1, F2, st, r, s, p⟩ := h
  rw [Rep] at r
  exact ⟨Z', F1, F2, st, by rw [Rep]; exact ⟨rfl, r.2⟩, s, p⟩
theorem PostE.behind (h : PostE k σ pu Z' H' F' g1 g' d v H'') (s : Step Z H F Z' H' F') : PostE k σ false Z H F g g' d v H'' := by
  obtain ⟨Z2, F1, F2, st, r, s2, _⟩ := h
  exact ⟨Z2, F1, F2, st, r, s.trans s2, fun z => by cases z⟩
theorem PostT.behind {H'' : Hp} (h : PostT k σ Z' H' F' g' H'') (s : Step Z H F Z' H' F') : PostT k σ Z H F g' H'' := by
  obtain ⟨Z2, F1, st, s2⟩ := h
  exact ⟨Z2, F1, st, s.trans s2⟩

/-- one part runs first; what is left is asked at its end -/
theorem rdE_then {da : Gm → R (D × Gm)} {pa : Bool} {f : D × Gm → R (D × Gm)} {Q' : VK} (h : rdE k W false (fun g => (da g).bind f) σ H Q)
    (n : ∀ {g Z F p v H' Z' F1 F2}, StR k Z' H' p.2 σ F1 → Rep k Z' H' p.1 v F2 → Step Z H F Z' H' (fun a => F1 a + F2 a) →
      (match f p with
        | .ok q => ∀ v H'', PostE k σ false Z H F g q.2 q.1 v H'' → Q v H''
        | .exc cl g' => PostX k W σ Z H F cl g'
        | .stuck => False) → Q' v H') : rdE k W pa da σ H Q' := by
  obtain ⟨g, Z, F, st, gd, h⟩ := h
  refine ⟨g, Z, F, st, gd, ?_⟩
  dsimp only at h
  cases hd : da g with
  | stuck => rw [hd] at h; exact h
  | exc cl g' => rw [hd] at h; exact h
  | ok p =>
    rw [hd] at h
    rintro v H' ⟨Z', F1, F2, st1, r1, s1, _⟩
    exact n (g := g) st1 r1 s1 h
theorem rdT_then {da : Gm → R (D × Gm)} {f : D × Gm → R (D × Gm)} {QT : Bool → Hp → Prop} {Q' : Bool → Hp → Prop} (h : rdT k W (fun g => (da g).bind f) σ H QT) (hb : ∀ p, (∀ b, p.1 ≠ .bl b) → f p = .stuck)
    (n : ∀ {Z F b g' H' Z' F1}, StR k Z' H' g' σ F1 → Step Z H F Z' H' F1 →
      (match f (.bl b, g') with
        | .ok (.bl b, g') => ∀ H'', PostT k σ Z H F g' H'' → QT b H''
        | .ok _ => False
        | .exc cl g' => PostX k W σ Z H F cl g'
        | .stuck => False) → Q' b H') : rdT k W da σ H Q' := by
  obtain ⟨g, Z, F, st, gd, h⟩ := h
  refine ⟨g, Z, F, st, gd, ?_⟩
  dsimp only at h
  cases hd : da g with
  | stuck => rw [hd] at h; exact h
  | exc cl g' => rw [hd] at h; exact h
  | ok p =>
    rw [hd] at h
    obtain ⟨d, g1⟩ := p
    by_cases hx : ∃ b, d = .bl b
    · obtain ⟨b, rfl⟩ := hx
      rintro H' ⟨Z', F1, st1, s1⟩
      exact n st1 s1 h
    · have := hb (d, g1) fun b eb => hx ⟨b, eb⟩
      simp only [bind_ok] at h
      rw [this] at h
      exact h.elim

/-! ### not -/
theorem nt_ok {a : IE} {x : Expr} {pos : Pos} (pe : PE X x (rdE k W (pureE a) (denE gl call a))) (pt : PT X x (rdT k W (denE gl call a))) :
    PE X (.UnaryOp .Not x pos) (rdE k W (pureE (.nt a)) (denE gl call (.nt a))) ∧ PT X (.UnaryOp .Not x pos) (rdT k W (denE gl call (.nt a))) := by
  constructor
  · refine PE.weak (pe_not pe) fun σ H Q ⟨g, Z, F, st, gd, h⟩ => ⟨g, Z, F, st, gd, ?_⟩
    simp only [denE] at h
    cases hd : denE gl call a g with
    | stuck => rw [hd] at h; exact h
    | exc cl g' => rw [hd] at h; exact h
    | ok p =>
      rw [hd] at h
      obtain ⟨d, g1⟩ := p
      intro v H' po
      cases d with
      | bl b =>
        refine ⟨b, ?_, h _ H' ?_⟩
        · obtain ⟨_, _, _, _, r, _⟩ := po; exact rep_bl r
        · simp only [pureE]; exact po.bl
      | _ => exact h.elim
  · refine PT.weak (pt_not pt) fun σ H Q h => ?_
    have e : denE gl call (.nt a) = fun g => (denE gl call a g).bind fun p => onBl p.1 fun b => .ok (.bl (!b), p.2) := by funext g; simp only [denE]
    rw [e] at h
    exact rdT_then h (fun p hp => onBl_no hp) fun {Z F b g' H' Z' F1} st s h => h H' ⟨Z', F1, st, s⟩

/-! ### and, or -/
section
variable (k : KX) (W : WX) (gl : Nat → Option D) (call : Call)
def BEs (X : Cx) : IEs → List Expr → Prop
  | .nil, _ => False
  | .cons e r, l => ∃ x xs, l = x :: xs ∧ PE X x (rdE k W (pureE e) (denE gl call e)) ∧ PT X x (rdT k W (denE gl call e)) ∧ (match r with | .nil => xs = [] | .cons _ _ => BEs X r xs)
end
theorem denA_one {b : Bool} {e : IE} : denA gl call b (.cons e .nil) = fun g => (denE gl call e g).bind fun p => onBl p.1 fun b => .ok (.bl b, p.2) := by funext g; simp only [denA]
theorem denA_more {b : Bool} {e e' : IE} {r : IEs} : denA gl call b (.cons e (.cons e' r)) = fun g => (denE gl call e g).bind fun p => onBl p.1 fun a => if a = b then denA gl call b (.cons e' r) p.2 else .ok (.bl a, p.2) := by
  funext g; rw [denA]
theorem and_ok : ∀ {es : IEs} {l : List Expr} {pos : Pos}, BEs k W gl call X es l → PE X (.BoolOp .And l pos) (rdE k W false (denA gl call true es)) ∧ PW X (.BoolOp .And l pos) (rdT k W (denA gl call true es))
  | .nil, _, _, h => h.elim
  | .cons e .nil, l, pos, h => by
    obtain ⟨x, xs, rfl, pe, pt, q⟩ := h
    have q : xs = [] := q
    subst q
    rw [denA_one]
    constructor
    · refine PE.weak (pe_one pe) fun σ H Q h => rdE_then h fun {g Z F p v H' Z' F1 F2} st r s h => ?_
      obtain ⟨d, g1⟩ := p
      cases d with
      | bl b => exact h v H' ⟨Z', F1, F2, st, r, s, fun z => by cases z⟩
      | _ => exact h.elim
    · exact PW.weak (pw_and1 pt) fun σ H Q h => rdT_then h (fun p hp => onBl_no hp) fun {Z F b g' H' Z' F1} st s h => h H' ⟨Z', F1, st, s⟩
  | .cons e (.cons e' r), l, pos, h => by
    obtain ⟨x, xs, rfl, pe, pt, q⟩ := h
    have q : BEs k W gl call X (.cons e' r) xs := q
    obtain ⟨i1, i2⟩ := and_ok (pos := pos) q
    obtain ⟨y, ys, rfl, _⟩ := q
    rw [denA_more]
    constructor
    · refine PE.weak (pe_and pe i1) fun σ H Q h => rdE_then h fun {g Z F p v H' Z' F1 F2} st r s h => ?_
      obtain ⟨d, g1⟩ := p
      cases d with
      | bl b =>
        refine ⟨b, rep_bl r, ?_⟩
        have s1 : Step Z H F Z' H' F1 := s.less fun a => by omega
        cases b with
        | true =>
          rw [if_pos rfl]
          refine ⟨g1, Z', F1, st, s1.good, ?_⟩
          simp only [if_pos] at h
          cases hd : denA gl call true (.cons e' _) g1 with
          | stuck => rw [hd] at h; exact h
          | exc cl g' => rw [hd] at h; exact h.behind s1 fun a => Nat.le_refl _
          | ok p => rw [hd] at h; exact fun v H'' po => h v H'' (po.behind s1)
        | false =>
          rw [if_neg Bool.false_ne_true]
          have := rep_bl r
          subst this
          exact h _ H' ⟨Z', F1, F2, st, r, s, fun z => by cases z⟩
      | _ => exact h.elim
    · refine PW.weak (pw_and pt i2) fun σ H Q h => rdT_then h (fun p hp => onBl_no hp) fun {Z F b g' H' Z' F1} st s h => ?_
      cases b with
      | true =>
        rw [if_pos rfl]
        refine ⟨g', Z', F1, st, s.good, ?_⟩
        simp only [if_pos] at h
        cases hd : denA gl call true (.cons e' _) g' with
        | stuck => rw [hd] at h; exact h
        | exc cl g' => rw [hd] at h; exact h.behind s fun a => Nat.le_refl _
        | ok p =>
          rw [hd] at h
          obtain ⟨d, g2⟩ := p
          cases d <;> first | exact h | exact fun H'' po => h H'' (po.behind s)
      | false =>
        rw [if_neg Bool.false_ne_true]
        exact h H' ⟨Z', F1, st, s⟩
theorem or_ok : ∀ {es : IEs} {l : List Expr} {pos : Pos}, BEs k W gl call X es l → PE X (.BoolOp .Or l pos) (rdE k W false (denA gl call false es)) ∧ PW X (.BoolOp .Or l pos) (rdT k W (denA gl call false es))
  | .nil, _, _, h => h.elim
  | .cons e .nil, l, pos, h => by
    obtain ⟨x, xs, rfl, pe, pt, q⟩ := h
    have q : xs = [] := q
    subst q
    rw [denA_one]
    constructor
    · refine PE.weak (pe_one pe) fun σ H Q h => rdE_then h fun {g Z F p v H' Z' F1 F2} st r s h => ?_
      obtain ⟨d, g1⟩ := p
      cases d with
      | bl b => exact h v H' ⟨Z', F1, F2, st, r, s, fun z => by cases z⟩
      | _ => exact h.elim
    · exact PW.weak (pw_or1 pt) fun σ H Q h => rdT_then h (fun p hp => onBl_no hp) fun {Z F b g' H' Z' F1} st s h => h H' ⟨Z', F1, st, s⟩
  | .cons e (.cons e' r), l, pos, h => by
    obtain ⟨x, xs, rfl, pe, pt, q⟩ := h
    have q : BEs k W gl call X (.cons e' r) xs := q
    obtain ⟨i1, i2⟩ := or_ok (pos := pos) q
    obtain ⟨y, ys, rfl, _⟩ := q
    rw [denA_more]
    constructor
    · refine PE.weak (pe_or pe i1) fun σ H Q h => rdE_then h fun {g Z F p v H' Z' F1 F2} st r s h => ?_
      obtain ⟨d, g1⟩ := p
      cases d with
      | bl b =>
        refine ⟨b, rep_bl r, ?_⟩
        have s1 : Step Z H F Z' H' F1 := s.less fun a => by omega
        cases b with
        | false =>
          rw [if_neg Bool.false_ne_true]
          refine ⟨g1, Z', F1, st, s1.good, ?_⟩
          simp only [if_pos] at h
          cases hd : denA gl call false (.cons e' _) g1 with
          | stuck => rw [hd] at h; exact h
          | exc cl g' => rw [hd] at h; exact h.behind s1 fun a => Nat.le_refl _
          | ok p => rw [hd] at h; exact fun v H'' po => h v H'' (po.behind s1)
        | true =>
          rw [if_pos rfl]
          have := rep_bl r
          subst this
          exact h _ H' ⟨Z', F1, F2, st, r, s, fun z => by cases z⟩
      | _ => exact h.elim
    · refine PW.weak (pw_or pt i2) fun σ H Q h => rdT_then h (fun p hp => onBl_no hp) fun {Z F b g' H' Z' F1} st s h => ?_
      cases b with
      | false =>
        rw [if_neg Bool.false_ne_true]
        refine ⟨g', Z', F1, st, s.good, ?_⟩
        simp only [if_pos] at h
        cases hd : denA gl call false (.cons e' _) g' with
        | stuck => rw [hd] at h; exact h
        | exc cl g' => rw [hd] at h; exact h.behind s fun a => Nat.le_refl _
        | ok p =>
          rw [hd] at h
          obtain ⟨d, g2⟩ := p
          cases d <;> first | exact h | exact fun H'' po => h H'' (po.behind s)
      | true =>
        rw [if_pos rfl]
        exact h H' ⟨Z', F1, st, s⟩

/-! ### a if t else b -/
theorem ife_ok {t a b : IE} {t' a' b' : Expr} {pos : Pos} (pt : PT X t' (rdT k W (denE gl call t))) (pa : PE X a' (rdE k W (pureE a) (denE gl call a))) (pb : PE X b' (rdE k W (pureE b) (denE gl call b))) :
    PE X (.IfExp t' a' b' pos) (rdE k W false (denE gl call (.ife t a b))) := by
  refine PE.weak (pe_ifExp pt pa pb) fun σ H Q ⟨g, Z, F, st, gd, h⟩ => ⟨g, Z, F, st, gd, ?_⟩
  simp only [denE] at h
  cases hd : denE gl call t g with
  | stuck => rw [hd] at h; exact h
  | exc cl g' => rw [hd] at h; exact h
  | ok p =>
    rw [hd] at h
    obtain ⟨d, g1⟩ := p
    cases d with
    | bl z =>
      rintro H' ⟨Z', F1, st1, s1⟩
      cases z with
      | true =>
        rw [if_pos rfl]
        refine ⟨g1, Z', F1, st1, s1.good, ?_⟩
        simp only [bind_ok] at h
        cases hd : denE gl call a g1 with
        | stuck => rw [hd] at h; exact h
        | exc cl g' => rw [hd] at h; exact h.behind s1 fun a => Nat.le_refl _
        | ok p => rw [hd] at h; exact fun v H'' po => h v H'' (po.behind s1)
      | false =>
        rw [if_neg Bool.false_ne_true]
        refine ⟨g1, Z', F1, st1, s1.good, ?_⟩
        simp only [bind_ok] at h
        cases hd : denE gl call b g1 with
        | stuck => rw [hd] at h; exact h
        | exc cl g' => rw [hd] at h; exact h.behind s1 fun a => Nat.le_refl _
        | ok p => rw [hd] at h; exact fun v H'' po => h v H'' (po.behind s1)
    | _ => exact h.elim
end
end VS
end

section
set_option maxHeartbeats 1000000
/-! VS11: chains, calls of defs, methods. -/
namespace VS
open PySem PySem.Spec PyProof.Rows L2
local macro_rules | `(tactic| walk_at "fp") => `(tactic| ((try dsimp only at *); omega))
section
variable {c : Ct} {k : KX} {lv : Nat} {X : Cx} {W : WX} {Z Z' Z'' : Zs} {H H' H'' : Hp} {F F' G F1 F2 F3 : Fp} {σ : L2.St} {g g' g1 : Gm} {Q : VK} {d : D} {v : V} {pu : Bool} {den : Gm → R (D × Gm)} {e : Expr} {gl : Nat → Option D} {call : Call}
theorem chn_w {o o' : Op} {a b d : IE} {ta tb : TE} : ∀ σ H Q, rdE k W false (denE gl call (.chn o o' a b d)) σ H Q →
    tChain (rD2 k (opD o)) (rD2 k (opD o')) (rdE k W (pureE a) (denE gl call a)) (rdE k W (pureE b) (denE gl call b)) (rdE k W (pureE d) (denE gl call d)) σ H Q := fun σ H Q h => by
  have e : denE gl call (.chn o o' a b d) = fun g => (denE gl call a g).bind fun p => (denE gl call b p.2).bind fun q => (opt (opD o [p.1, q.1])).bind fun r => onBl r fun z =>
      if z = true then if noOwn q.1 = true then (denE gl call d q.2).bind fun r => (opt (opD o' [q.1, r.1])).bind fun d => .ok (d, r.2) else .stuck else .ok (.bl false, q.2) := by funext g; simp only [denE]
  rw [e] at h
  refine rdE_then h fun {g Z F p v H1 Z1 F1 F2} st1 r1 s1 h => ?_
  have g1 : Good Z1 H1 F1 := s1.good.less fun a => by omega
  refine ⟨p.2, Z1, F1, st1, g1, ?_⟩
  cases hb : denE gl call b p.2 with
  | stuck => rw [hb] at h; exact h
  | exc cl g' => rw [hb] at h; exact PostX.behind h s1 fun a => by omega
  | ok q =>
    rw [hb] at h
    simp only [bind_ok] at h
    rintro y H2 ⟨Z2, F3, F4, st2, r2, s2, _⟩
    cases ho : opD o [p.1, q.1] with
    | none => rw [ho] at h; exact h.elim
    | some r =>
      rw [ho] at h
      simp only [opt_some, bind_ok] at h
      have r1' := Rep.stay p.1 r1 (s2.sth s1.good)
      have sA : Step Z H F Z2 H2 F3 := (s1.trans (s2.frame (R := F2) s1.good)).less fun a => by walk_at "fp"
      refine ⟨Z2, [p.1, q.1], r, .cons ⟨_, r1'⟩ (.cons ⟨_, r2⟩ .nil), s2.good.less fun a => by simp, ho, fun z H3 Z3 F5 r3 s3 => ?_⟩
      by_cases hx : ∃ w, r = .bl w
      · obtain ⟨w, rfl⟩ := hx
        refine ⟨w, rep_bl r3, ?_⟩
        have gd2 : Good Z2 H2 fun a => fp0 a + F3 a := s2.good.less fun a => by show 0 + F3 a ≤ F3 a + F4 a; omega
        have st3 := st2.stay (s3.sth gd2)
        have sB : Step Z H F Z3 H3 F3 := (sA.trans ((s3.frame (R := F3) gd2).eqL (F'' := F3) fun a => by simp)).less fun a => by omega
        cases w with
        | true =>
          rw [if_pos rfl]
          simp only [onBl_bl, if_pos] at h
          by_cases hn : noOwn q.1 = true
          · rw [if_pos hn] at h
            have r2' := Rep.stay q.1 (r2.un hn) (s3.sth (R := fp0) (s2.good.less fun a => by simp))
            refine ⟨q.2, Z3, F3, st3, sB.good, ?_⟩
            cases hc : denE gl call d q.2 with
            | stuck => rw [hc] at h; exact h
            | exc cl g' => rw [hc] at h; exact PostX.behind h sB fun a => Nat.le_refl _
            | ok t =>
              rw [hc] at h
              simp only [bind_ok] at h
              rintro u H4 ⟨Z4, F6, F7, st4, r4, s4, _⟩
              cases ho' : opD o' [q.1, t.1] with
              | none => rw [ho'] at h; exact h.elim
              | some r' =>
                rw [ho'] at h
                simp only [opt_some, bind_ok] at h
                have gd3 : Good Z3 H3 fun a => F3 a + fp0 a := sB.good.eq fun a => by simp
                have r2'' := Rep.stay q.1 r2' (s4.sth (R := fp0) gd3)
                have sC := sB.trans s4
                exact ⟨Z4, [q.1, t.1], r', .cons ⟨_, r2''⟩ (.cons ⟨_, r4⟩ .nil), s4.good.less fun a => by simp, ho', ans_of st4 sC (fun z => by cases z) h⟩
          · rw [if_neg hn] at h; exact h.elim
        | false =>
          rw [if_neg Bool.false_ne_true]
          simp only [onBl_bl] at h
          exact h _ H3 ⟨Z3, F3, fp0, st3, by rw [Rep]; exact ⟨rfl, fun _ => rfl⟩, sB.less fun a => by simp, fun z => by cases z⟩
      · rw [onBl_no fun b eb => hx ⟨b, eb⟩] at h
        exact h.elim
theorem chn_ok (w : WF c k lv X W) {o o' : Op} {co co' : CmpOp} {a b d : IE} {a' b' d' : Expr} {pos : Pos} (ho : chnOf o = some co) (ho' : chnOf o' = some co')
    (pa : PE X a' (rdE k W (pureE a) (denE gl call a))) (pb : PE X b' (rdE k W (pureE b) (denE gl call b))) (pd : PE X d' (rdE k W (pureE d) (denE gl call d))) :
    PE X (.Compare a' [co, co'] [b', d'] pos) (rdE k W false (denE gl call (.chn o o' a b d))) ∧ PT X (.Compare a' [co, co'] [b', d'] pos) (rdT k W (denE gl call (.chn o o' a b d))) := by
  obtain ⟨r1, _, _⟩ := chnR w ho
  obtain ⟨r2, n1, n2⟩ := chnR w ho'
  have hm : lastMarks [co, co'] [b', d'] = false := nomark d' n1 n2
  exact ⟨PE.weak (pe_chain r1 r2 pa pb pd hm) (chn_w (ta := tC .non) (tb := tC .non)), PT.weak (pt_chain r1 r2 pa pb pd hm) fun σ H Q h => chn_w (ta := tC .non) (tb := tC .non) σ H _ (rdT_rdE h)⟩

/-! ### calls of defs -/
theorem takeO_ok : ∀ {os : List Opd} {g0 g g2 : Gm} {vs : List V} {ds : List D} {F1 F2 : Fp}, StR k Z H g σ F1 → ORep k Z H g0 σ os vs F2 → Good Z H (fun a => F1 a + F2 a) → takeO os g = some (ds, g2) →
    ∃ Fa F3, Reps k Z H ds vs Fa ∧ StR k Z H g2 σ F3 ∧ ∀ a, F1 a + F2 a = Fa a + F3 a
  | [], _, g, g2, vs, ds, F1, F2, st, r, gd, h => by
    simp only [takeO, Option.some.injEq, Prod.mk.injEq] at h
    obtain ⟨rfl, rfl⟩ := h
    exact ⟨fp0, F1, by rw [reps_nil]; exact ⟨r.1, fun _ => rfl⟩, st, fun a => by rw [r.2]; simp⟩
  | .v d :: os, g0, g, g2, vs, ds, F1, F2, st, r, gd, h => by
    obtain ⟨v, t, G1, G2, rfl, r1, r2, hF⟩ := r
    simp only [takeO, Option.map_eq_some_iff, Prod.mk.injEq] at h
    obtain ⟨⟨es, g3⟩, h, rfl, rfl⟩ := h
    obtain ⟨Fa, F3, r3, st3, e⟩ := takeO_ok st r2 (gd.less fun a => by rw [hF]; omega) h
    refine ⟨fun a => G1 a + Fa a, F3, ?_, st3, fun a => ?_⟩
    · rw [reps_cons]; exact ⟨v, t, G1, Fa, rfl, r1, r3, fun _ => rfl⟩
    · have := e a; rw [hF]; walk_at "fp"
  | .p (.slot i) :: os, g0, g, g2, vs, ds, F1, F2, st, r, gd, h => by
    obtain ⟨v, t, rfl, _, ev, r2⟩ := r
    simp only [takeO] at h
    split at h
    · rename_i d hd
      simp only [Option.map_eq_some_iff, Prod.mk.injEq] at h
      obtain ⟨⟨es, g3⟩, h, rfl, rfl⟩ := h
      obtain ⟨v', Fd, R, e1, rd, hF, up⟩ := st.get hd
      rw [ev i rfl] at e1
      cases e1
      have u := up (Z' := Z) (H' := H) (s' := none) (o' := some v) (F' := fp0) (fun _ => rfl) ⟨fun _ z => z, fun _ _ e _ => e, gd.less fun a => by rw [hF]; omega⟩
      rw [set_same (ev i rfl)] at u
      obtain ⟨Fa, F3, r3, st3, e⟩ := takeO_ok (u.eqF (F' := R) fun a => by simp) r2 (gd.less fun a => by rw [hF]; omega) h
      refine ⟨fun a => Fd a + Fa a, F3, ?_, st3, fun a => ?_⟩
      · rw [reps_cons]; exact ⟨v, t, Fd, Fa, rfl, rd, r3, fun _ => rfl⟩
      · have := e a; rw [hF]; walk_at "fp"
    · cases h
  | .p (.ix _ _) :: os, g0, g, g2, vs, ds, F1, F2, st, r, gd, h => by simp [takeO] at h
  | .p (.att _ _ _) :: os, g0, g, g2, vs, ds, F1, F2, st, r, gd, h => by simp [takeO] at h
theorem backO_ok : ∀ {os : List Opd} {H0 : Hp} {Z0 : Zs} {g0 : Gm} {outs g : Gm} {vs : List V} {F0 F1 F2 : Fp}, StR k Z H g σ F1 → ORep k Z0 H0 g0 σ os vs F0 → StR k Z H outs (vs.map some) F2 → Good Z H (fun a => F1 a + F2 a) →
    ∃ F3, StR k Z H (backO os outs g) σ F3 ∧ ∀ a, F3 a ≤ F1 a + F2 a
  | [], _, _, _, outs, g, vs, F0, F1, F2, st, r, so, gd => by
    simp only [backO]
    exact ⟨F1, st, fun a => by omega⟩
  | .v d :: os, _, _, _, outs, g, vs, F0, F1, F2, st, r, so, gd => by
    obtain ⟨v, t, G1, G2, rfl, r1, r2, hF⟩ := r
    cases outs with
    | nil => simp only [backO]; exact ⟨F1, st, fun a => by omega⟩
    | cons o outs =>
      obtain ⟨o', r', K1, K2, e, s1, s2, hK⟩ := so
      simp only [List.map_cons] at e
      cases e
      simp only [backO]
      obtain ⟨F3, st3, l⟩ := backO_ok st r2 s2 (gd.less fun a => by rw [hK]; omega)
      exact ⟨F3, st3, fun a => by have := l a; rw [hK]; omega⟩
  | .p (.slot i) :: os, _, _, _, outs, g, vs, F0, F1, F2, st, r, so, gd => by
    obtain ⟨v, t, rfl, _, ev, r2⟩ := r
    cases outs with
    | nil => simp only [backO]; exact ⟨F1, st, fun a => by omega⟩
    | cons o outs =>
      obtain ⟨o', r', K1, K2, e, s1, s2, hK⟩ := so
      simp only [List.map_cons] at e
      cases e
      simp only [backO]
      have hi : i < g.length := by
        rw [st.len]
        exact (List.getElem?_eq_some_iff.mp (ev i rfl)).1
      obtain ⟨o2, Fd, R, e1, sl, hF, up⟩ := st.slot (List.getElem?_eq_getElem hi)
      rw [ev i rfl] at e1
      cases e1
      have u := up (Z' := Z) (H' := H) (s' := o) (o' := some v) (F' := K1) s1 ⟨fun _ z => z, fun _ _ e _ => e, gd.less fun a => by rw [hF]; omega⟩
      rw [set_same (ev i rfl)] at u
      obtain ⟨F3, st3, l⟩ := backO_ok u r2 s2 (gd.less fun a => by rw [hF, hK]; omega)
      exact ⟨F3, st3, fun a => by have := l a; rw [hF, hK]; omega⟩
  | .p (.ix _ _) :: os, _, _, _, outs, g, vs, F0, F1, F2, st, r, so, gd => by
    obtain ⟨v, t, rfl, _, ev, r2⟩ := r
    cases outs with
    | nil => simp only [backO]; exact ⟨F1, st, fun a => by omega⟩
    | cons o outs =>
      obtain ⟨o', r', K1, K2, e, s1, s2, hK⟩ := so
      simp only [List.map_cons] at e
      cases e
      simp only [backO]
      obtain ⟨F3, st3, l⟩ := backO_ok st r2 s2 (gd.less fun a => by rw [hK]; omega)
      exact ⟨F3, st3, fun a => by have := l a; rw [hK]; omega⟩
  | .p (.att _ _ _) :: os, _, _, _, outs, g, vs, F0, F1, F2, st, r, so, gd => by
    obtain ⟨v, t, rfl, _, ev, r2⟩ := r
    cases outs with
    | nil => simp only [backO]; exact ⟨F1, st, fun a => by omega⟩
    | cons o outs =>
      obtain ⟨o', r', K1, K2, e, s1, s2, hK⟩ := so
      simp only [List.map_cons] at e
      cases e
      simp only [backO]
      obtain ⟨F3, st3, l⟩ := backO_ok st r2 s2 (gd.less fun a => by rw [hK]; omega)
      exact ⟨F3, st3, fun a => by have := l a; rw [hK]; omega⟩
theorem call_w {f : Nat} {es : IOs} {P : Prog} : ∀ σ H Q, rdE k W false (denE gl (callD P lv) (.call f es)) σ H Q → tCallS (spOf k P lv f) (WE W) (seqO k W gl (callD P lv) es) σ H Q := fun σ H Q ⟨g, Z, F, st, gd, h⟩ => by
  simp only [denE] at h
  show seqO k W gl (callD P lv) es σ H fun vs H1 => spOf k P lv f vs H1 Q (WE W σ)
  refine seqO_ok es st gd ?_
  cases he : denO gl (callD P lv) es g with
  | stuck => rw [he] at h; exact h
  | exc cl g' => rw [he] at h; exact h
  | ok p =>
    rw [he] at h
    simp only [bind_ok] at h
    rintro vs H1 ⟨Z1, F1, F2, st1, r1, s1, p1⟩
    cases ht : takeO p.1 p.2 with
    | none => rw [ht] at h; exact h.elim
    | some q =>
      rw [ht] at h
      simp only [opt_some, bind_ok] at h
      obtain ⟨Fa, F3, ra, st3, e⟩ := takeO_ok st1 r1 s1.good ht
      have gd1 : Good Z1 H1 fun a => Fa a + F3 a := s1.good.eq fun a => (e a).symm
      have s1' : Step Z H F Z1 H1 fun a => Fa a + F3 a := s1.less fun a => Nat.le_of_eq (e a).symm
      refine ⟨Z1, q.1, Fa, gd1.less fun a => by omega, ra, ?_⟩
      cases hc : callD P lv f q.1 with
      | stuck => rw [hc] at h; exact h
      | exc cl os =>
        rw [hc] at h
        intro H2 Z2 F4 so s2
        have s3 := s2.frame (R := F3) gd1
        obtain ⟨F5, st5, l⟩ := backO_ok (st3.stay (s2.sth gd1)) r1 so (s3.good.eq fun a => by omega)
        exact h H2 Z2 F5 st5 ((s1'.trans s3).less fun a => by have := l a; omega)
      | ok r =>
        rw [hc] at h
        intro v H2 Z2 F4 F6 rv so s2
        have s3 := s2.frame (R := F3) gd1
        obtain ⟨F5, st5, l⟩ := backO_ok (st3.stay (s2.sth gd1)) r1 so (s3.good.less fun a => by walk_at "fp")
        exact h v H2 ⟨Z2, F5, F4, st5, rv, (s1'.trans s3).less fun a => by have := l a; walk_at "fp", fun z => by cases z⟩
theorem call_ok (w : WF c k lv X W) {f : Nat} {es : IOs} {dd : Def} {x : Str} {p pos : Pos} {a : Expr} {l : List Expr} (hf : c.P.fn f = some dd) (hx : dd.name = x) (hg : glB c x = true) (pe : PEs k W gl (callD c.P lv) X es (a :: l)) :
    PE X (.Call (.Name x p) (a :: l) [] pos) (rdE k W false (denE gl (callD c.P lv) (.call f es))) := by
  obtain ⟨g1, g2, g3⟩ := gl_of w hg
  obtain ⟨fd, ps, FO, hm, hk, hb⟩ := w.fns f dd hf
  obtain ⟨hs, hpl⟩ := pe.tl (env := X.env) (pos := pos)
  subst hx
  exact PE.weak (pe_callS FO w.room g1 hm hk hb (fun σ => passAt w.tk σ) pe.pa g2 hs hpl) call_w
end
end VS
end

section
set_option maxHeartbeats 1000000
/-! VS12: methods that change their object. -/
namespace VS
open PySem PySem.Spec PyProof.Rows L2
local macro_rules | `(tactic| walk_at "fp") => `(tactic| ((try dsimp only at *); omega))
section
variable {c : Ct} {k : KX} {lv : Nat} {X : Cx} {W : WX} {Z Z' Z'' : Zs} {H H' H'' : Hp} {F F' G F1 F2 F3 : Fp} {σ : L2.St} {g g' g1 : Gm} {Q : VK} {d : D} {v : V} {pu : Bool} {den : Gm → R (D × Gm)} {e : Expr} {gl : Nat → Option D} {call : Call}
theorem Reps.perm_rev : ∀ {ds : List D} {vs : List V} {F : Fp}, Reps k Z H ds vs F → Reps k Z H ds.reverse vs.reverse F
  | [], vs, F, h => by rw [reps_nil] at h; rw [h.1]; simp only [List.reverse_nil]; rw [reps_nil]; exact ⟨rfl, h.2⟩
  | d :: ds, vs, F, h => by
    rw [reps_cons] at h
    obtain ⟨v, r, F1, F2, rfl, h1, h2, hF⟩ := h
    simp only [List.reverse_cons]
    have h3 : Reps k Z H [d] [v] F1 := by rw [reps_cons]; exact ⟨v, [], F1, fp0, rfl, h1, by rw [reps_nil]; exact ⟨rfl, fun _ => rfl⟩, fun a => by simp⟩
    exact (Reps.append (Reps.perm_rev h2) h3).eqF fun a => by rw [hF]; omega
theorem Reps.snoc : ∀ {ds : List D} {vs : List V} {F : Fp} {d : D}, Reps k Z H ds vs F → ds[ds.length - 1]? = some d → ∃ v F1 F2, vs[vs.length - 1]? = some v ∧ Rep k Z H d v F1 ∧ Reps k Z H ds.dropLast vs.dropLast F2 ∧ ∀ a, F a = F1 a + F2 a
  | [], vs, F, d, h, e => by simp at e
  | [x], vs, F, d, h, e => by
    rw [reps_cons] at h
    obtain ⟨v, r, F1, F2, rfl, h1, h2, hF⟩ := h
    rw [reps_nil] at h2
    obtain ⟨rfl, h2⟩ := h2
    simp at e
    subst e
    exact ⟨v, F1, F2, rfl, h1, by simp only [List.dropLast_singleton]; rw [reps_nil]; exact ⟨rfl, h2⟩, hF⟩
  | x :: y :: ds, vs, F, d, h, e => by
    rw [reps_cons] at h
    obtain ⟨v, r, F1, F2, rfl, h1, h2, hF⟩ := h
    obtain ⟨w, G1, G2, e1, r1, r2, hG⟩ := Reps.snoc h2 (d := d) (by simpa using e)
    have l := h2.len
    cases r with
    | nil => simp at l
    | cons z r =>
      refine ⟨w, G1, fun a => F1 a + G2 a, by simpa using e1, r1, ?_, fun a => by rw [hF, hG]; walk_at "fp"⟩
      simp only [List.dropLast_cons₂]
      rw [reps_cons]
      exact ⟨v, _, F1, G2, rfl, h1, r2, fun _ => rfl⟩

/-- an owned list gets other items -/
theorem Step.updL {a : Addr} {vs vs' : List V} (gd : Good Z H F) (ha : H a = some (.lst vs)) (hf : 1 ≤ F a) (hl : ∀ b, F' b ≤ F b) : Step Z H F Z (upd H a (.lst vs')) F' := by
  have g1 := gd.less hl
  refine ⟨fun _ z => z, fun _ z => .inl z, fun b h => .inl (Nat.le_trans h (hl b)), fun b o e q => ?_, ⟨g1.le, g1.nz, fun b h => ?_, fun b z => ?_⟩⟩
  · rw [upd_ne]; exact e
    intro z; subst z; omega
  · by_cases hb : b = a
    · subst hb; exact ⟨_, upd_same, trivial⟩
    · obtain ⟨o, e, w⟩ := g1.ob b h; exact ⟨o, by rw [upd_ne hb]; exact e, w⟩
  · by_cases hb : b = a
    · subst hb; exact ⟨_, upd_same⟩
    · obtain ⟨o, e⟩ := gd.zh b z; exact ⟨o, by rw [upd_ne hb]; exact e⟩
theorem sthL {a : Addr} {vs vs' : List V} {R : Fp} (gd : Good Z H fun b => one true a b + R b) : Sth Z H (one true a) Z (upd H a (.lst vs')) R :=
  ⟨fun _ z => z, fun b o e q => (by
    rw [upd_ne]
    · exact e
    · intro z; subst z; rw [one_self] at q; exact absurd q (by decide)), gd⟩

def rM : Mm → V → List V → Hp → VK → Prop
  | .append => rAppend
  | .extend => rExtend
  | .pop => rPop
  | .reverse => rReverse
  | .clear => rClear
  | _ => fun _ _ _ _ => False
def mmId : Mm → String
  | .append => "list.append"
  | .extend => "list.extend"
  | .pop => "list.pop"
  | .popAt => "list.pop"
  | .insert => "list.insert"
  | .reverse => "list.reverse"
  | .clear => "list.clear"
theorem mtM_ok (m : Mm) : MtR X (mmId m) (rM m) := by
  cases m with
  | append => exact mt_append
  | extend => exact mt_extend
  | pop => exact mt_pop
  | reverse => exact mt_reverse
  | clear => exact mt_clear
  | popAt => exact fun _ _ _ _ _ _ _ _ _ _ _ _ h => h.elim
  | insert => exact fun _ _ _ _ _ _ _ _ _ _ _ _ h => h.elim
theorem mm_run {m : Mm} {ds as : List D} {ans d' : D} {a : Addr} {vs xs : List V} {Fas : Fp} (ho : opM m (.lst true ds) as = some (ans, d')) (ha : H a = some (.lst vs)) (r : Reps k Z H ds vs G) (ra : Reps k Z H as xs Fas)
    (gd : Good Z H fun b => G b + one true a b + Fas b)
    (h : ∀ va vs' ds' G' Fr, Rep k Z H ans va Fr → d' = .lst true ds' → Reps k Z H ds' vs' G' → (∀ b, G' b + Fr b ≤ G b + Fas b) → Q va (upd H a (.lst vs'))) : rM m (.ref a) xs H Q := by
  have l := r.len
  unfold opM at ho
  split at ho
  · rename_i es x hes
    cases hes
    split at ho
    · rename_i hz
      cases ho
      rw [reps_cons] at ra
      obtain ⟨v, t, K1, K2, rfl, r1, r2, hK⟩ := ra
      rw [reps_nil] at r2
      obtain ⟨rfl, k2⟩ := r2
      refine ⟨a, vs, v, rfl, rfl, ha, by omega, h .non _ _ (fun b => G b + K1 b) fp0 (by rw [Rep]; exact ⟨rfl, fun _ => rfl⟩) rfl (Reps.append r (by rw [reps_cons]; exact ⟨v, [], K1, fp0, rfl, r1, by rw [reps_nil]; exact ⟨rfl, fun _ => rfl⟩, fun a => by simp⟩)) fun b => ?_⟩
      have := hK b; have := k2 b
      show G b + K1 b + 0 ≤ _; omega
    · cases ho
  · rename_i es x hes
    cases hes
    split at ho
    · rename_i hz
      cases ho
      rw [reps_cons] at ra
      obtain ⟨v, t, K1, K2, rfl, r1, r2, hK⟩ := ra
      rw [reps_nil] at r2
      obtain ⟨rfl, k2⟩ := r2
      rw [rep_lst] at r1
      obtain ⟨b, zs, G2, rfl, q, r3, _, hG⟩ := r1
      have l2 := r3.len
      refine ⟨a, b, vs, zs, rfl, rfl, ha, q.own, by omega, h .non _ _ G fp0 (by rw [Rep]; exact ⟨rfl, fun _ => rfl⟩) rfl ((Reps.append r (r3.un hz.1)).eqF fun a => by simp) fun b => by simp⟩
    · cases ho
  · rename_i es hes
    cases hes
    simp only [Option.map_eq_some_iff, Prod.mk.injEq] at ho
    obtain ⟨dd, e, rfl, rfl⟩ := ho
    rw [reps_nil] at ra
    obtain ⟨rfl, k2⟩ := ra
    obtain ⟨v, K1, K2, e1, r1, r2, hK⟩ := r.snoc e
    exact ⟨a, vs, v, rfl, rfl, ha, e1, h v _ _ K2 K1 r1 rfl r2 fun b => by have := hK b; omega⟩
  · rename_i es hes
    cases hes
    cases ho
    rw [reps_nil] at ra
    obtain ⟨rfl, k2⟩ := ra
    exact ⟨a, vs, rfl, rfl, ha, h .non _ _ G fp0 (by rw [Rep]; exact ⟨rfl, fun _ => rfl⟩) rfl r.perm_rev fun b => by simp⟩
  · rename_i es hes
    cases hes
    split at ho
    · cases ho
      rw [reps_nil] at ra
      obtain ⟨rfl, k2⟩ := ra
      exact ⟨a, vs, rfl, rfl, ha, h .non _ _ fp0 fp0 (by rw [Rep]; exact ⟨rfl, fun _ => rfl⟩) rfl (by rw [reps_nil]; exact ⟨rfl, fun _ => rfl⟩) fun b => by simp⟩
    · cases ho
  · cases ho
theorem opM_own {m : Mm} {t ans d' : D} {as : List D} (ho : opM m t as = some (ans, d')) : ∃ ds, t = .lst true ds := by
  unfold opM at ho
  split at ho <;> first | exact ⟨_, rfl⟩ | cases ho
/-- a focus stays as new things come -/
theorem Foc.grow {p : PL} (f : Foc k Z H g σ F p d v) (s : Step Z H fp0 Z' H' F') (gd : Good Z H F) : Foc k Z' H' g σ F p d v := by
  obtain ⟨Fd, R, hF, r, up⟩ := f
  have g1 : Good Z H fun a => fp0 a + F a := gd.eq fun a => by simp
  refine ⟨Fd, R, hF, Rep.stay d r (s.sth (g1.less fun a => by rw [hF]; omega)), fun {Z'' H'' d' F' g'} e r' t => up e r' ⟨fun a z => t.z a (s.z a z), fun b o e q => t.kp b o (s.kp b o e rfl) q, gd.less fun a => Nat.le_of_eq (hF a).symm⟩⟩

/-- the method behind its arguments -/
theorem mth_end {m : Mm} {p : PL} {as : List D} {ans d' : D} {xs : List V} {g2 : Gm} {Z0 : Zs} {H0 : Hp} {F0 : Fp} {g0 : Gm} (st : StR k Z H g σ F1) (f : Foc k Z H g σ F1 p d v) (ra : Reps k Z H as xs F2) (s : Step Z0 H0 F0 Z H fun a => F1 a + F2 a)
    (ho : opM m d as = some (ans, d')) (hs : setPl p d' g = some g2) (h : ∀ va H', PostE k σ false Z0 H0 F0 g0 g2 ans va H' → Q va H') : rM m v xs H Q := by
  obtain ⟨ds, rfl⟩ := opM_own ho
  obtain ⟨Fd, R, hF, r, up⟩ := f
  rw [rep_lst] at r
  obtain ⟨a, vs, G, rfl, q, rs, _, hG⟩ := r
  have ha := q.own
  have gd := s.good
  refine mm_run ho ha rs ra (gd.less fun b => by have := hF b; have := hG b; omega) fun va vs' ds' G' Fr r1 ed r2 le => h va _ ?_
  subst ed
  have e1 : ∀ b, F1 b = G b + one true a b + R b := fun b => by rw [hF, hG]
  have gA : Good Z H fun b => one true a b + (G' b + Fr b + R b) := gd.less fun b => by have := le b; have := e1 b; omega
  have r2' := Reps.stay ds' r2 (sthL (a := a) (vs := vs) (vs' := vs') (gA.less fun b => by omega))
  have r1' := Rep.stay ans r1 (sthL (a := a) (vs := vs) (vs' := vs') (gA.less fun b => by omega))
  have rn : Rep k Z (upd H a (.lst vs')) (.lst true ds') (.ref a) fun b => G' b + one true a b := by
    rw [rep_lst]
    exact ⟨a, vs', G', rfl, .ofOwn upd_same, r2', fun z => (by cases z), fun _ => rfl⟩
  have sR : Sth Z H Fd Z (upd H a (.lst vs')) R := by
    have t : Sth Z H (one true a) Z (upd H a (.lst vs')) (fun b => G b + R b) := sthL (vs := vs) (gd.less fun b => by have := e1 b; omega)
    exact t.more (fun b => by rw [hG]; omega) fun b => by rw [hG]; omega
  have stn := up hs rn sR
  have s2 := Step.updL (vs' := vs') (F' := fun b => (G' b + one true a b + R b) + Fr b) gd ha (by have := e1 a; rw [one_self] at this; omega) fun b => by have := le b; have := e1 b; walk_at "fp"
  exact ⟨Z, _, Fr, stn, r1', s.trans s2, fun z => by cases z⟩
theorem mth_w {m : Mm} {p : PL} {es : IOs} (hp : (∃ i, p = .slot i) ∨ pureO es = true) : ∀ σ H Q, rdE k W false (denE gl call (.mth m p es)) σ H Q → tBM k.K "list" (rM m) (tPl k p) (seqO k W gl call es) σ H Q := fun σ H Q ⟨g, Z, F, st, gd, h⟩ => by
  simp only [denE] at h
  cases h0 : getPl p g with
  | none => rw [h0] at h; exact h.elim
  | some d0 =>
    rw [h0] at h
    simp only [opt_some, bind_ok] at h
    by_cases hl : isOwnL d0 = true
    · rw [if_pos hl] at h
      obtain ⟨v, ac, f0⟩ := focus st gd p h0
      have ty : tyV k.K "list" v H := by
        unfold isOwnL at hl
        split at hl
        · obtain ⟨Fd, R, hF, r, up⟩ := f0
          obtain ⟨a, vs, G, rfl, q, _⟩ := rep_seq r
          exact .inl ⟨rfl, vs, q⟩
        · cases hl
      refine ⟨v, ac, ty, ?_⟩
      refine seqO_ok es st gd ?_
      cases he : denO gl call es g with
      | stuck => rw [he] at h; exact h
      | exc cl g' => rw [he] at h; exact h
      | ok q =>
        rw [he] at h
        simp only [bind_ok] at h
        rintro xs H1 ⟨Z1, F1, F2, st1, r1, s1, p1⟩
        cases hv : valsO q.1 with
        | none => rw [hv] at h; exact h.elim
        | some as =>
          rw [hv] at h
          simp only [opt_some, bind_ok] at h
          cases hg : getPl p q.2 with
          | none => rw [hg] at h; exact h.elim
          | some d =>
            rw [hg] at h
            simp only [opt_some, bind_ok] at h
            cases ho : opM m d as with
            | none => rw [ho] at h; exact h.elim
            | some r =>
              rw [ho] at h
              simp only [opt_some, bind_ok] at h
              cases hs : setPl p r.2 q.2 with
              | none => rw [hs] at h; exact h.elim
              | some g2 =>
                rw [hs] at h
                have ra := r1.vals hv
                rcases hp with ⟨i, rfl⟩ | hp
                · obtain ⟨v', ac', f⟩ := focus st1 (s1.good.less fun a => by omega) _ hg
                  have e : v' = v := by
                    have a1 : σ[i]? = some (some v') := ac'
                    have a2 : σ[i]? = some (some v) := ac
                    rw [a1] at a2; exact (Option.some.inj (Option.some.inj a2))
                  subst e
                  exact mth_end st1 f ra s1 (ans := r.1) (d' := r.2) ho hs h
                · obtain ⟨eg, s2⟩ := p1 hp
                  rw [eg] at hg hs
                  rw [h0] at hg
                  cases hg
                  have g0 : Good Z H fun a => fp0 a + F a := gd.eq fun a => by simp
                  have s3 : Step Z H F Z1 H1 fun a => F a + F2 a := ((s2.frame (R := F) g0).eqL (F'' := F) fun a => by simp).less fun a => by omega
                  exact mth_end (st.stay (s2.sth g0)) (f0.grow s2 gd) ra s3 (ans := r.1) (d' := r.2) ho hs h
    · rw [if_neg hl] at h; exact h.elim
theorem noStarAll {env : Env} {pos : Pos} : ∀ {es : IOs} {l : List Expr}, PEs k W gl call X es l → (backTo pos (starEach l env)).all (fun x => !x.1) = true
  | .nil, l, h => by
    have h : l = [] := h
    subst h; rfl
  | .val e r, l, h => by
    obtain ⟨x, xs, rfl, n, p, q⟩ := h
    rw [starEach_cons n]
    show (true && (backTo pos (starEach xs env)).all fun x => !x.1) = true
    rw [Bool.true_and]; exact noStarAll q
  | .slt i r, l, h => by
    obtain ⟨x, xs, rfl, n, p, q⟩ := h
    rw [starEach_cons n]
    show (true && (backTo pos (starEach xs env)).all fun x => !x.1) = true
    rw [Bool.true_and]; exact noStarAll q
  | .pla p, l, h => by
    obtain ⟨x, rfl, n, p⟩ := h
    rw [starEach_cons n]; rfl
theorem base_pl {p : PL} {o : Expr} (h : mtP c p o = true) (a : Str) (env : Env) : attributeBase o a env (eval o env) = eval o env := by
  cases p with
  | slot i =>
    simp only [mtP] at h
    unfold mtN at h
    split at h
    · rfl
    · cases h
  | ix p x =>
    simp only [mtP] at h
    split at h
    · rfl
    · cases h
  | att p cc j =>
    simp only [mtP] at h
    split at h <;> cases h
theorem mm_slot (m : Mm) : Slot "list" (mmNm m) (mmId m) := by
  cases m
  · exact PySem.F.slot_list_append
  · exact PySem.F.slot_list_extend
  · exact PySem.F.slot_list_pop
  · exact PySem.F.slot_list_pop
  · exact PySem.F.slot_list_insert
  · exact PySem.F.slot_list_reverse
  · exact PySem.F.slot_list_clear
theorem mm_ty (m : Mm) : typeOf (.builtin (mmId m)) = pure (.type "method_descriptor") := by
  cases m
  · exact PySem.F.type_list_append
  · exact PySem.F.type_list_extend
  · exact PySem.F.type_list_pop
  · exact PySem.F.type_list_pop
  · exact PySem.F.type_list_insert
  · exact PySem.F.type_list_reverse
  · exact PySem.F.type_list_clear
theorem mth_ok (w : WF c k lv X W) {m : Mm} {p : PL} {es : IOs} {o : Expr} {a : Str} {apos cpos : Pos} {l : List Expr} (hp : mtP c p o = true) (hm : a = mmNm m) (pe : PEs k W gl call X es l) (hpp : (∃ i, p = .slot i) ∨ pureO es = true)
    (hline : (apos.endLine == cpos.line) = true) (hfew : l.length < 20) : PE X (.Call (.Attribute o a apos) l [] cpos) (rdE k W false (denE gl call (.mth m p es))) := by
  subst hm
  have po := (pe_pl w hp).1
  cases l with
  | nil =>
    cases pe.nil'
    refine PE.weak (pe_bm0 PySem.F.plainAttrs_list (mm_slot m) (mm_ty m) (mtM_ok m) po (base_pl hp _ _) hline) fun σ H Q h => ?_
    rw [w.K]
    exact mth_w hpp σ H Q h
  | cons e es' =>
    obtain ⟨hs, hpl⟩ := pe.tl (env := X.env) (pos := cpos)
    refine PE.weak (pe_bm PySem.F.plainAttrs_list (mm_slot m) (mm_ty m) (mtM_ok m) po pe.pa (base_pl hp _ _) ?_ hline hs hpl) fun σ H Q h => ?_
    · rw [noStarAll pe]
      have : decide ((e :: es').length + ([] : List Keyword).length + (if ([] : List Keyword).isEmpty then 0 else 1) < 30) = true := decide_eq_true (by
        have : (e :: es').length < 20 := hfew
        simp only [List.length_nil, List.isEmpty_nil, if_true]; omega)
      rw [this]; rfl
    · rw [w.K]
      exact mth_w hpp σ H Q h
end
end VS
end

section
set_option maxHeartbeats 1000000
/-! VS13: what is walked, targets, list comprehensions. -/
namespace VS
open PySem PySem.Spec PyProof.Rows L2
local macro_rules | `(tactic| walk_at "fp") => `(tactic| ((try dsimp only at *); omega))

/-- frozen things and tuples stay -/
def Kept (Z : Zs) (H H' : Hp) : Prop := ∀ a o, H a = some o → (Z a ∨ ¬ Own1 o) → H' a = some o
section
variable {c : Ct} {k : KX} {lv : Nat} {X : Cx} {W : WX} {Z Z' Z'' Z0 Z1 : Zs} {H H' H'' H0 H1 : Hp} {F F' G F1 F2 F3 : Fp} {σ σ' : L2.St} {g g' g1 : Gm} {Q : VK} {d : D} {v : V} {pu : Bool} {den : Gm → R (D × Gm)} {e : Expr} {gl : Nat → Option D} {call : Call}
theorem Kept.refl : Kept Z H H := fun _ _ e _ => e
theorem Kept.trans (h : Kept Z H H') (h' : Kept Z' H' H'') (z : ∀ a, Z a → Z' a) : Kept Z H H'' := fun a o e w => h' a o (h a o e w) (w.imp (z a) fun x => x)
theorem Step.kept (s : Step Z H F Z' H' F') (gd : Good Z H F) : Kept Z H H' := fun a o e w => s.kp a o e (by
  cases q : F a with
  | zero => rfl
  | succ n =>
    rcases w with w | w
    · exact absurd w (gd.nz a (by omega))
    · obtain ⟨o', e', w'⟩ := gd.ob a (by omega)
      rw [e] at e'; cases e'; exact absurd w' w)
theorem kept_upd {p : Addr} {o : HO} (hp : H p = none) : Kept Z H (upd H p o) := fun b u e _ => by rw [upd_ne (ne_of_none e hp)]; exact e
open Classical in
theorem Kept.sth (h : Kept Z H H') (z : ∀ a, Z a → Z' a) (zh : ∀ a, Z a → ∃ o, H a = some o) : Sth Z H (fun a => if (∃ o, H a = some o ∧ Own1 o) ∧ ¬ Z a then 1 else 0) Z' H' fp0 := by
  refine ⟨z, fun b o e q => h b o e ?_, fun a => ?_, fun a x => ?_, fun a x => ?_, zh⟩
  · by_cases hz : Z b
    · exact .inl hz
    · refine .inr fun w => ?_
      rw [if_pos ⟨⟨o, e, w⟩, hz⟩] at q
      cases q
  · show (if _ then 1 else 0) + 0 ≤ 1
    split <;> omega
  · have x : 1 ≤ (if (∃ o, H a = some o ∧ Own1 o) ∧ ¬ Z a then 1 else 0) + 0 := x
    split at x
    · rename_i q; exact q.2
    · omega
  · have x : 1 ≤ (if (∃ o, H a = some o ∧ Own1 o) ∧ ¬ Z a then 1 else 0) + 0 := x
    split at x
    · rename_i q; exact q.1
    · omega
theorem Rep.kept (r : Rep k Z H d v fp0) (h : Kept Z H H') (z : ∀ a, Z a → Z' a) (zh : ∀ a, Z a → ∃ o, H a = some o) : Rep k Z' H' d v fp0 := Rep.stay d r (h.sth z zh)
theorem Reps.kept {ds : List D} {vs : List V} (r : Reps k Z H ds vs fp0) (h : Kept Z H H') (z : ∀ a, Z a → Z' a) (zh : ∀ a, Z a → ∃ o, H a = some o) : Reps k Z' H' ds vs fp0 := Reps.stay ds r (h.sth z zh)
theorem Kept.fzl {K : PySem.W.Frag} {a : Addr} {vs : List V} (r : FzL K Z H a vs) (h : Kept Z H H') : SqL K H' a vs := by
  rcases r with ⟨z, r | ⟨o, r⟩⟩ | r
  · exact .inl (.inl (h a _ r (.inl z)))
  · exact .inl (.inr ⟨o, h a _ r (.inl z)⟩)
  · exact .inr r
theorem Kept.sqt {K : PySem.W.Frag} {a : Addr} {vs : List V} (r : SqT K H a vs) (h : Kept Z H H') : SqT K H' a vs := by
  rcases r with (r | ⟨o, r⟩) | r
  · exact .inl (.inl (h a _ r (.inr fun x => x)))
  · exact .inl (.inr ⟨o, h a _ r (.inr fun x => x)⟩)
  · exact .inr r

/-- an iterator that gives the things, while what it walks stays -/
def ItOk (k : KX) (J : It) (its : List D) (Z0 : Zs) (H0 : Hp) : Prop :=
  Walk J its.length (fun H => Kept Z0 H0 H) fun i H x H' => (∃ d, its[i]? = some d ∧ Rep k Z0 H' d x fp0) ∧ (H' = H ∨ ∃ p o, H p = none ∧ H' = upd H p (.tup o))
def PostI (k : KX) (σ : L2.St) (Z : Zs) (H : Hp) (F : Fp) (g' : Gm) (its : List D) (J : It) (H' : Hp) : Prop := ∃ Z' F1, StR k Z' H' g' σ F1 ∧ Step Z H F Z' H' F1 ∧ ItOk k J its Z' H'
def rdI (k : KX) (W : WX) (den : Gm → R (List D × Gm)) : TI := fun σ H R => ∃ g Z F, StR k Z H g σ F ∧ Good Z H F ∧ match den g with
  | .ok p => ∀ J H', PostI k σ Z H F p.2 p.1 J H' → R J H'
  | .exc cl g' => PostX k W σ Z H F cl g'
  | .stuck => False

/-- a list, a tuple -/
theorem pi_seq {tg l : Expr} {tl : TE} (hl : PE X l tl) : PI X tg l (fun σ H R => tl σ H fun x H1 => ∃ a, x = .ref a ∧ (((∃ xs, SqL X.K H1 a xs) ∧ R (Itl X.K a) H1) ∨ ((∃ xs, SqT X.K H1 a xs) ∧ R (Itt X.K a) H1))) := by
  refine ⟨fun pins s σ H R I h => ?_⟩
  refine thn (hl.run pins s σ H _ I h) fun v s1 ⟨x, H1, I1, r1, q1⟩ => ?_
  obtain ⟨a, e, q⟩ := q1
  subst e
  cases r1
  rcases q with ⟨⟨xs, hq⟩, q⟩ | ⟨⟨xs, hq⟩, q⟩
  · obtain ⟨its, rv, p, hz⟩ := I1.list hq
    refine wpAny_pyIter_list p.isList ?_
    refine ⟨s1.heap.objs.size, [s1.heap.objs.size], _, _, H1, rfl, I1.kept (t' := s1.toks) fun b o e => Heap.get?_push_of_some _ e, turn_list a _, ⟨_, Heap.get?_push_size _ rfl, rfl, rfl⟩, fun b hb => ?_, q⟩
    have e : b = s1.heap.objs.size := by simpa using hb
    subst e
    exact I1.fpOk (Nat.le_refl _) (I1.hok.fresh (Nat.le_refl _))
  · obtain ⟨its, rv, p, hz⟩ := I1.tuple hq
    refine wpAny_pyIter_tuple (show s1.heap.IsTuple a its.toArray from p) ?_
    refine ⟨s1.heap.objs.size, [s1.heap.objs.size], _, _, H1, rfl, I1.kept (t' := s1.toks) fun b o e => Heap.get?_push_of_some _ e, turn_tuple a _, ⟨_, Heap.get?_push_size _ rfl, rfl, rfl⟩, fun b hb => ?_, q⟩
    have e : b = s1.heap.objs.size := by simpa using hb
    subst e
    exact I1.fpOk (Nat.le_refl _) (I1.hok.fresh (Nat.le_refl _))
/-- what is owned of a value is frozen as it is walked -/
theorem froze {ds : List D} {vs : List V} (st : StR k Z H g σ F1) (s : Step Z0 H0 F Z H fun a => F1 a + F2 a) : StR k (fun a => Z a ∨ 1 ≤ F2 a) H g σ F1 ∧ Step Z0 H0 F (fun a => Z a ∨ 1 ≤ F2 a) H F1 := by
  have gd := s.good
  have fz := Step.freeze (F1 := F2) (F2 := F1) gd fun a => by omega
  refine ⟨st.moreZ (gd.less fun a => by omega) fun _ z => .inl z, ?_⟩
  exact s.trans fz
theorem pi_seq_ok (w : WF c k lv X W) {a : IE} {tg x : Expr} (p : PE X x (rdE k W (pureE a) (denE gl call a))) : PI X tg x (rdI k W (denI gl call (.seq a))) := by
  refine PI.weak (pi_seq p) fun σ H R ⟨g, Z, F, st, gd, h⟩ => ⟨g, Z, F, st, gd, ?_⟩
  simp only [denI] at h
  cases he : denE gl call a g with
  | stuck => rw [he] at h; exact h
  | exc cl g' => rw [he] at h; exact h
  | ok p =>
    rw [he] at h
    simp only [bind_ok] at h
    rintro v H1 ⟨Z1, F1, F2, st1, r1, s1, _⟩
    obtain ⟨st2, s2⟩ := froze (ds := []) (vs := []) st1 s1
    have zh2 := s2.good.zh
    obtain ⟨d, g'⟩ := p
    cases d with
    | lst o ds =>
      simp only at h
      by_cases hn : noOwns ds = true
      · rw [if_pos hn] at h
        rw [rep_lst] at r1
        obtain ⟨ad, vs, G, rfl, q, rs, _, hF⟩ := r1
        have l := rs.len
        have rs0 : Reps k (fun a => Z1 a ∨ 1 ≤ F2 a) H1 ds vs fp0 := Reps.moreZ (rs.un hn) (s1.good.less fun a => by show 0 ≤ _; omega) fun _ z => .inl z
        have fz : FzL k.K (fun a => Z1 a ∨ 1 ≤ F2 a) H1 ad vs := by
          cases o with
          | true => exact .inl ⟨.inr (by rw [hF, one_self]; omega), .inl q.own⟩
          | false => rcases q.fz with z | z
                     · exact .inl ⟨.inl z.1, z.2⟩
                     · exact .inr z
        refine ⟨ad, rfl, .inl ⟨⟨vs, by rw [w.K]; exact fz.sq⟩, h _ _ ⟨_, F1, st2, s2, ?_⟩⟩⟩
        unfold ItOk
        rw [l, w.K]
        refine walk_list.mono (fun H2 kp => kp.fzl fz) fun i H2 y H3 hi kp ⟨e1, e2⟩ => ⟨?_, .inl e1⟩
        subst e1
        obtain ⟨d, hd⟩ : ∃ d, ds[i]? = some d := ⟨_, List.getElem?_eq_getElem (by omega)⟩
        obtain ⟨y', Fd, e3, rd, _⟩ := (rs0.kept kp (fun _ z => z) zh2).atz hd
        rw [e2] at e3; cases e3
        exact ⟨d, hd, rd.eqF fun a => by have := (rs0.kept kp (fun _ z => z) zh2).nown; exact (rd.nown (by
          have : ∀ (l : List D) (j : Nat) (d : D), noOwns l = true → l[j]? = some d → noOwn d = true := fun l => by
            induction l with
            | nil => intro j d _ h; simp at h
            | cons x xs ih =>
              intro j d hn h
              simp only [noOwns, Bool.and_eq_true] at hn
              cases j with
              | zero => simp at h; subst h; exact hn.1
              | succ j => exact ih j d hn.2 (by simpa using h)
          exact this ds i d hn hd) a).symm⟩
      · rw [if_neg hn] at h; exact h.elim
    | tup ds =>
      simp only at h
      by_cases hn : noOwns ds = true
      · rw [if_pos hn] at h
        rw [rep_tup] at r1
        obtain ⟨ad, vs, rfl, q, rs⟩ := r1
        have l := rs.len
        have rs0 : Reps k (fun a => Z1 a ∨ 1 ≤ F2 a) H1 ds vs fp0 := Reps.moreZ (rs.un hn) (s1.good.less fun a => by show 0 ≤ _; omega) fun _ z => .inl z
        refine ⟨ad, rfl, .inr ⟨⟨vs, by rw [w.K]; exact q⟩, h _ _ ⟨_, F1, st2, s2, ?_⟩⟩⟩
        unfold ItOk
        rw [l, w.K]
        refine walk_tup.mono (fun H2 kp => kp.sqt q) fun i H2 y H3 hi kp ⟨e1, e2⟩ => ⟨?_, .inl e1⟩
        subst e1
        obtain ⟨d, hd⟩ : ∃ d, ds[i]? = some d := ⟨_, List.getElem?_eq_getElem (by omega)⟩
        obtain ⟨y', Fd, e3, rd, le⟩ := (rs0.kept kp (fun _ z => z) zh2).atz hd
        rw [e2] at e3; cases e3
        exact ⟨d, hd, rd.eqF fun a => by have : Fd a ≤ 0 := le a; show 0 = _; omega⟩
      · rw [if_neg hn] at h; exact h.elim
    | _ => exact h.elim
end
end VS
end

section
set_option maxHeartbeats 1000000
/-! VS14: ranges, targets. -/
namespace VS
open PySem PySem.Spec PyProof.Rows L2
local macro_rules | `(tactic| walk_at "fp") => `(tactic| ((try dsimp only at *); omega))
section
variable {c : Ct} {k : KX} {lv : Nat} {X : Cx} {W : WX} {Z Z' Z'' Z0 Z1 : Zs} {H H' H'' H0 H1 : Hp} {F F' G F1 F2 F3 : Fp} {σ σ' : L2.St} {g g' g1 : Gm} {Q : VK} {d : D} {v : V} {pu : Bool} {den : Gm → R (D × Gm)} {e : Expr} {gl : Nat → Option D} {call : Call}
theorem rngs_len : ∀ (n : Nat) (a : Int), (rngs a n).length = n
  | 0, _ => rfl
  | n + 1, a => by simp only [rngs, List.length_cons, rngs_len n]
theorem rngs_get : ∀ (n : Nat) (a : Int) (i : Nat), i < n → (rngs a n)[i]? = some (.int (a + i))
  | 0, _, _, h => by omega
  | n + 1, a, 0, _ => by simp [rngs]
  | n + 1, a, i + 1, h => by
    simp only [rngs, List.getElem?_cons_succ]
    rw [rngs_get n (a + 1) i (by omega)]
    congr 2
    omega
theorem itOk_rng {lo : Int} {n : Nat} : ItOk k (Itr lo n) (rngs lo n) Z H := by
  unfold ItOk
  rw [rngs_len]
  exact walk_range.mono (fun _ _ => trivial) fun i H2 x H3 hi _ ⟨e1, e2⟩ => ⟨⟨.int (lo + i), rngs_get n lo i hi, by rw [e2, Rep]; exact ⟨rfl, fun _ => rfl⟩⟩, .inl e1⟩
theorem pi_rng1 (w : WF c k lv X W) {es : IOs} {tg a : Expr} {p pos : Pos} (hb : rngNm ∈ c.blt) (hg : glB c rngNm = true) (pe : PEs k W gl call X es [a]) : PI X tg (.Call (.Name rngNm p) [a] [] pos) (rdI k W (denI gl call (.rng1 es))) := by
  obtain ⟨g1, _, _⟩ := gl_of w hg
  obtain ⟨hs, _⟩ := pe.tl (env := X.env) (pos := pos)
  refine PI.weak (pi_range1 g1 (w.bl _ hb) pe.pa hs) fun σ H R ⟨g, Z, F, st, gd, h⟩ => ?_
  simp only [denI] at h
  refine seqO_ok es st gd ?_
  cases he : denO gl call es g with
  | stuck => rw [he] at h; exact h
  | exc cl g' => rw [he] at h; exact h
  | ok q =>
    rw [he] at h
    simp only [bind_ok] at h
    rintro vs H1 ⟨Z1, F1, F2, st1, r1, s1, _⟩
    cases hf : finO q.1 q.2 with
    | none => rw [hf] at h; exact h.elim
    | some ds =>
      rw [hf] at h
      simp only [opt_some, bind_ok] at h
      cases hr : rngD1 ds with
      | none => rw [hr] at h; exact h.elim
      | some its =>
        rw [hr] at h
        have re := r1.re hf
        unfold rngD1 at hr
        split at hr
        · split at hr
          · rename_i hz; cases hr
            cases re with
            | cons h1 t =>
              cases t
              obtain ⟨_, h1⟩ := h1
              exact ⟨_, by rw [rep_int h1], hz.1, hz.2, h _ H1 ⟨Z1, F1, st1, s1.less fun a => by omega, itOk_rng⟩⟩
          · cases hr
        · cases hr
theorem pi_rng2 (w : WF c k lv X W) {es : IOs} {tg a b : Expr} {p pos : Pos} (hb : rngNm ∈ c.blt) (hg : glB c rngNm = true) (pe : PEs k W gl call X es [a, b]) : PI X tg (.Call (.Name rngNm p) [a, b] [] pos) (rdI k W (denI gl call (.rng2 es))) := by
  obtain ⟨g1, _, _⟩ := gl_of w hg
  obtain ⟨hs, _⟩ := pe.tl (env := X.env) (pos := pos)
  obtain ⟨_, es', _, _, q2, _⟩ := pe.cons
  obtain ⟨hs2, _⟩ := q2.tl (env := X.env) (pos := pos)
  refine PI.weak (pi_range2 g1 (w.bl _ hb) pe.pa (by rw [hs, hs2]; rfl) (by rw [hs2]; rfl)) fun σ H R ⟨g, Z, F, st, gd, h⟩ => ?_
  simp only [denI] at h
  refine seqO_ok es st gd ?_
  cases he : denO gl call es g with
  | stuck => rw [he] at h; exact h
  | exc cl g' => rw [he] at h; exact h
  | ok q =>
    rw [he] at h
    simp only [bind_ok] at h
    rintro vs H1 ⟨Z1, F1, F2, st1, r1, s1, _⟩
    cases hf : finO q.1 q.2 with
    | none => rw [hf] at h; exact h.elim
    | some ds =>
      rw [hf] at h
      simp only [opt_some, bind_ok] at h
      cases hr : rngD2 ds with
      | none => rw [hr] at h; exact h.elim
      | some its =>
        rw [hr] at h
        have re := r1.re hf
        unfold rngD2 at hr
        split at hr
        · split at hr
          · rename_i hz; cases hr
            cases re with
            | cons h1 t =>
              cases t with
              | cons h2 t =>
                cases t
                obtain ⟨_, h1⟩ := h1
                obtain ⟨_, h2⟩ := h2
                exact ⟨_, _, by rw [rep_int h1, rep_int h2], hz, h _ H1 ⟨Z1, F1, st1, s1.less fun a => by omega, itOk_rng⟩⟩
          · cases hr
        · cases hr

/-! ### targets -/
def gNs : List Nat → TGs
  | [] => gNil
  | i :: is => gCons (gName i) (gNs is)
def gT (K : PySem.W.Frag) : TG1 → TG
  | .nm i => gName i
  | .tup is => gTup K is.length (gNs is)
def slots : TG1 → List Nat
  | .nm i => [i]
  | .tup is => is
def nmB (c : Ct) (i : Nat) : Expr → Bool
  | .Name x _ => locB c i x && (!c.top || c.asg.contains i)
  | _ => false
theorem pg_nm (w : WF c k lv X W) {i : Nat} {x : Str} {p : Pos} (h : locB c i x = true) : PG X (.Name x p) (gName i) := by
  simp only [locB, Bool.and_eq_true, decide_eq_true_eq] at h
  obtain ⟨h1, h2⟩ := h
  have hi : X.N[i]? = some x := by rw [w.N]; exact h1
  have nd : X.N.Nodup := by rw [w.N]; exact w.nd
  cases hl : c.sc.names.lookup x with
  | none => rw [hl] at h2; cases h2
  | some kd =>
    rw [hl] at h2
    cases kd with
    | «local» =>
      have e : X.env.scope.names.lookup x = some .local := by rw [w.sc]; exact hl
      exact pg_name nd hi (.inl e) (.inr e)
    | cell =>
      have e : X.env.scope.names.lookup x = some .cell := by rw [w.sc]; exact hl
      exact pg_name nd hi (.inr e) (.inl (w.fn x h2))
    | free => cases h2
    | globalExplicit => cases h2
    | globalImplicit => cases h2
theorem pgs_nms (w : WF c k lv X W) : ∀ {is : List Nat} {es : List Expr}, is.length = es.length → (is.zip es).all (fun p => match p.2 with | .Name x _ => locB c p.1 x && (!c.top || c.asg.contains p.1) | _ => false) = true →
    PGs X es (gNs is) ∧ (assignEach es X.env).length = is.length ∧ (assignEach es X.env).findIdx? (·.1) = none
  | [], [], _, _ => ⟨pgs_nil, rfl, rfl⟩
  | i :: is, e :: es, hl, h => by
    simp only [List.zip_cons_cons, List.all_cons, Bool.and_eq_true] at h
    obtain ⟨h1, h2⟩ := h
    obtain ⟨r1, r2, r3⟩ := pgs_nms w (by simpa using hl) h2
    split at h1
    · rename_i x p
      simp only [Bool.and_eq_true] at h1
      refine ⟨pgs_cons (pg_nm w h1.1) r1 rfl, ?_, ?_⟩
      · show (assignEach es X.env).length + 1 = _; rw [r2]; rfl
      · show List.findIdx? _ ((false, assign (.Name x p) X.env) :: assignEach es X.env) = none
        rw [List.findIdx?_cons]
        simp [r3]
    · cases h1
  | [], _ :: _, hl, _ => by cases hl
  | _ :: _, [], hl, _ => by cases hl
theorem pg_ok (w : WF c k lv X W) {t : TG1} {e : Expr} (h : mtT c t e = true) : PG X e (gT X.K t) ∧ (c.top = true → ∀ i ∈ slots t, i ∈ c.asg) := by
  cases t with
  | nm i =>
    simp only [mtT] at h
    split at h
    · simp only [Bool.and_eq_true, Bool.or_eq_true, Bool.not_eq_true'] at h
      refine ⟨pg_nm w h.1, fun ht j hj => ?_⟩
      have : j = i := by simpa [slots] using hj
      subst this
      rcases h.2 with z | z
      · rw [ht] at z; cases z
      · simpa using z
    · cases h
  | tup is =>
    simp only [mtT] at h
    split at h
    · simp only [Bool.and_eq_true, decide_eq_true_eq] at h
      obtain ⟨hl, h⟩ := h
      obtain ⟨r1, r2, r3⟩ := pgs_nms w hl h
      refine ⟨pg_tup w.calm r1 r2 r3, fun ht j hj => ?_⟩
      have hj : j ∈ is := hj
      obtain ⟨n, hn, en⟩ := List.mem_iff_getElem.mp hj
      have hn2 : n < (is.zip ‹List Expr›).length := by simp; omega
      have hm := List.getElem_mem hn2
      rw [List.all_eq_true] at h
      have q := h _ hm
      simp only [List.getElem_zip] at q
      split at q
      · simp only [Bool.and_eq_true, Bool.or_eq_true, Bool.not_eq_true'] at q
        rcases q.2 with z | z
        · rw [ht] at z; cases z
        · rw [en] at z; simpa using z
      · cases q
    · cases h
/-- a target takes its thing -/
theorem setNs_ok : ∀ {is : List Nat} {ds : List D} {vs : List V} {g g' : Gm} {σ : L2.St} {F1 F2 : Fp} {K : L2.St → Hp → Prop}, StR k Z H g σ F1 → Reps k Z H ds vs F2 → Good Z H (fun a => F1 a + F2 a) → setNs is ds g = some g' →
    (∀ σ' F', StR k Z H g' σ' F' → (∀ a, F' a ≤ F1 a + F2 a) → (∀ j, j ∉ is → σ'[j]? = σ[j]?) → σ'.length = σ.length → K σ' H) → gNs is vs σ H K
  | [], [], vs, g, g', σ, F1, F2, K, st, r, gd, e, h => by
    simp only [setNs, Option.some.injEq] at e
    subst e
    rw [reps_nil] at r
    exact ⟨r.1, h σ F1 st (fun a => by omega) (fun _ _ => rfl) rfl⟩
  | i :: is, d :: ds, vs, g, g', σ, F1, F2, K, st, r, gd, e, h => by
    simp only [setNs] at e
    split at e
    · rename_i hi
      rw [reps_cons] at r
      obtain ⟨v, t, G1, G2, rfl, r1, r2, hF⟩ := r
      obtain ⟨o, Fd, R, e1, sl, hF1, up⟩ := st.slot (List.getElem?_eq_getElem hi)
      have u := up (Z' := Z) (H' := H) (s' := some d) (o' := some v) (F' := G1) ⟨v, rfl, r1⟩ ⟨fun _ z => z, fun _ _ e _ => e, gd.less fun a => by rw [hF1]; omega⟩
      refine ⟨v, t, rfl, ?_⟩
      show gNs is t (σ.set i (some v)) H K
      refine setNs_ok u r2 (gd.less fun a => by rw [hF1, hF]; walk_at "fp") e fun σ' F' st' l ag ln => h σ' F' st' (fun a => by have := l a; rw [hF1, hF]; walk_at "fp") (fun j hj => ?_) (by rw [ln, List.length_set])
      rw [List.mem_cons, not_or] at hj
      rw [ag j hj.2, List.getElem?_set_ne (Ne.symm hj.1)]
    · cases e
  | [], _ :: _, vs, g, g', σ, F1, F2, K, st, r, gd, e, h => by simp [setNs] at e
  | _ :: _, [], vs, g, g', σ, F1, F2, K, st, r, gd, e, h => by simp [setNs] at e
theorem setT_ok {K : PySem.W.Frag} (hK : K = k.K) {t : TG1} {Kk : L2.St → Hp → Prop} (st : StR k Z H g σ F1) (r : Rep k Z H d v F2) (gd : Good Z H (fun a => F1 a + F2 a)) (e : setT t d g = some g')
    (h : ∀ σ' F', StR k Z H g' σ' F' → (∀ a, F' a ≤ F1 a + F2 a) → (∀ j, j ∉ slots t → σ'[j]? = σ[j]?) → σ'.length = σ.length → Kk σ' H) : gT K t v σ H Kk := by
  cases t with
  | nm i =>
    simp only [setT] at e
    split at e
    · rename_i hi
      cases e
      obtain ⟨o, Fd, R, e1, sl, hF1, up⟩ := st.slot (List.getElem?_eq_getElem hi)
      have u := up (Z' := Z) (H' := H) (s' := some d) (o' := some v) (F' := F2) ⟨v, rfl, r⟩ ⟨fun _ z => z, fun _ _ e _ => e, gd.less fun a => by rw [hF1]; omega⟩
      exact h _ _ u (fun a => by rw [hF1]; omega) (fun j hj => by
        have : j ≠ i := by simpa [slots] using hj
        rw [List.getElem?_set_ne (Ne.symm this)]) (by rw [List.length_set])
    · cases e
  | tup is =>
    cases d with
    | tup ds =>
      simp only [setT] at e
      rw [rep_tup] at r
      obtain ⟨a, vs, rfl, q, rs⟩ := r
      have l : vs.length = is.length := by
        rw [← rs.len]
        have : ∀ (is : List Nat) (ds : List D) (g g' : Gm), setNs is ds g = some g' → ds.length = is.length := fun is => by
          induction is with
          | nil => intro ds g g' h; cases ds with | nil => rfl | cons _ _ => simp [setNs] at h
          | cons i is ih =>
            intro ds g g' h
            cases ds with
            | nil => simp [setNs] at h
            | cons d ds =>
              simp only [setNs] at h
              split at h
              · simp [ih ds _ _ h]
              · cases h
        exact this is ds g g' e
      exact ⟨a, vs, rfl, by rw [hK]; exact q, l, setNs_ok st rs gd e h⟩
    | _ => simp [setT] at e
end
end VS
end

section
set_option maxHeartbeats 1000000
/-! VS14z: zip of two lists or two tuples. -/
namespace VS
open PySem PySem.Spec PyProof.Rows L2 RZ
local macro_rules | `(tactic| walk_at "fp") => `(tactic| ((try dsimp only at *); omega))
theorem zipD_len : ∀ (ds es : List D), (zipD ds es).length = min ds.length es.length
  | [], _ => by simp [zipD]
  | _ :: _, [] => by simp [zipD]
  | d :: ds, e :: es => by simp only [zipD, List.length_cons, zipD_len ds es]; omega
theorem zipD_get : ∀ {ds es : List D} {i : Nat} {d e : D}, ds[i]? = some d → es[i]? = some e → (zipD ds es)[i]? = some (.tup [d, e])
  | [], _, i, d, e, h, _ => by simp at h
  | _ :: _, [], i, d, e, _, h => by simp at h
  | x :: ds, y :: es, 0, d, e, h1, h2 => by simp at h1 h2; subst h1; subst h2; rfl
  | x :: ds, y :: es, i + 1, d, e, h1, h2 => by
    simp only [zipD, List.getElem?_cons_succ]
    exact zipD_get (by simpa using h1) (by simpa using h2)
theorem noOwns_get : ∀ {l : List D} {j : Nat} {d : D}, noOwns l = true → l[j]? = some d → noOwn d = true
  | [], _, _, _, h => by simp at h
  | x :: xs, 0, d, hn, h => by
    simp only [noOwns, Bool.and_eq_true] at hn
    simp at h; subst h; exact hn.1
  | x :: xs, j + 1, d, hn, h => by
    simp only [noOwns, Bool.and_eq_true] at hn
    exact noOwns_get hn.2 (by simpa using h)
section
variable {c : Ct} {k : KX} {lv : Nat} {X : Cx} {W : WX} {Z Z' Z'' Z0 Z1 : Zs} {H H' H'' H0 H1 : Hp} {F F' G F1 F2 F3 : Fp} {σ σ' : L2.St} {g g' g1 : Gm} {Q : VK} {d : D} {v : V} {pu : Bool} {den : Gm → R (D × Gm)} {e : Expr} {gl : Nat → Option D} {call : Call}
theorem walk_zipT {K : PySem.W.Frag} {a b : Addr} {xs ys : List V} {n : Nat} (hn : n = min xs.length ys.length) : Walk (ItzT K a b) n (fun H => SqT K H a xs ∧ SqT K H b ys) (YPair (fun i => xs[i]?) (fun i => ys[i]?)) := by
  subst hn
  refine ⟨fun i _ hi q => ?_, fun _ q => ⟨xs, ys, q.1, q.2, by omega⟩, fun i H v H' _ q y => ?_⟩
  · have hx : i < xs.length := by omega
    have hy : i < ys.length := by omega
    exact ⟨xs, ys, xs[i], ys[i], q.1, q.2, by simp [hx], by simp [hy]⟩
  · obtain ⟨T, x, z, h1, h2, h3, h4, h5⟩ := y
    exact ⟨T, x, z, h1, h2, h3, h4 xs q.1, h5 ys q.2⟩
/-- a pair's own tuple -/
theorem pair_rep {T : Addr} {x y : V} {ds es : List D} {vs ws : List V} {i : Nat} (rs : Reps k Z H ds vs fp0) (ts : Reps k Z H es ws fp0) (zh : ∀ a, Z a → ∃ o, H a = some o) (hT : H T = none) (hx : vs[i]? = some x) (hy : ws[i]? = some y) :
    ∃ d, (zipD ds es)[i]? = some d ∧ Rep k Z (upd H T (.tup [x, y])) d (.ref T) fp0 := by
  have l1 := rs.len
  have l2 := ts.len
  have i1 : i < vs.length := (List.getElem?_eq_some_iff.mp hx).1
  have i2 : i < ws.length := (List.getElem?_eq_some_iff.mp hy).1
  obtain ⟨d, hd⟩ : ∃ d, ds[i]? = some d := ⟨_, List.getElem?_eq_getElem (by omega)⟩
  obtain ⟨e, he⟩ : ∃ e, es[i]? = some e := ⟨_, List.getElem?_eq_getElem (by omega)⟩
  have kp : Kept Z H (upd H T (.tup [x, y])) := kept_upd hT
  obtain ⟨x', Fd, e1, rd, le1⟩ := (rs.kept kp (fun _ z => z) zh).atz hd
  obtain ⟨y', Fe, e2, re, le2⟩ := (ts.kept kp (fun _ z => z) zh).atz he
  rw [hx] at e1; cases e1
  rw [hy] at e2; cases e2
  refine ⟨_, zipD_get hd he, ?_⟩
  rw [rep_tup]
  refine ⟨T, [x, y], rfl, .inl (.inl upd_same), ?_⟩
  rw [reps_cons]
  refine ⟨x, [y], Fd, Fe, rfl, rd, ?_, fun a => by have : Fd a ≤ 0 := le1 a; have : Fe a ≤ 0 := le2 a; show 0 = _; omega⟩
  rw [reps_cons]
  exact ⟨y, [], Fe, fp0, rfl, re, by rw [reps_nil]; exact ⟨rfl, fun _ => rfl⟩, fun a => by show Fe a = Fe a + 0; omega⟩
theorem pi_zip_ok (w : WF c k lv X W) {es : IOs} {a b : Expr} {p pos tp : Pos} {elts : List Expr} {kk : Nat} (hb : ("zip" : Str) ∈ c.blt) (hg : glB c "zip" = true) (pe : PEs k W gl call X es [a, b]) : PI X (.Tuple elts kk tp) (.Call (.Name "zip" p) [a, b] [] pos) (rdI k W (denI gl call (.zip es))) := by
  obtain ⟨g1, _, _⟩ := gl_of w hg
  obtain ⟨hs, hpl⟩ := pe.tl (env := X.env) (pos := pos)
  refine PI.weak (pi_zipA g1 (w.bl _ hb) pe.pa hs hpl) fun σ H R ⟨g, Z, F, st, gd, h⟩ => ?_
  simp only [denI] at h
  refine seqO_ok es st gd ?_
  cases he : denO gl call es g with
  | stuck => rw [he] at h; exact h
  | exc cl g' => rw [he] at h; exact h
  | ok q =>
    rw [he] at h
    simp only [bind_ok] at h
    rintro vs H1 ⟨Z1, F1, F2, st1, r1, s1, _⟩
    cases hv : valsO q.1 with
    | none => rw [hv] at h; exact h.elim
    | some ds =>
      rw [hv] at h
      simp only [opt_some, bind_ok] at h
      cases hz : zipV ds with
      | none => rw [hz] at h; exact h.elim
      | some its =>
        rw [hz] at h
        have r := r1.vals hv
        obtain ⟨st2, s2⟩ := froze (ds := []) (vs := []) st1 s1
        have zh2 := s2.good.zh
        have g0 : Good Z1 H1 fp0 := s1.good.less fun a => by show 0 ≤ _; omega
        unfold zipV at hz
        split at hz
        · rename_i o1 xs o2 ys
          split at hz
          · rename_i hn
            cases hz
            rw [reps_cons] at r
            obtain ⟨v1, t, K1, K2, rfl, ra, r, hK⟩ := r
            rw [reps_cons] at r
            obtain ⟨v2, t, K3, K4, rfl, rb, r, hK2⟩ := r
            rw [reps_nil] at r
            obtain ⟨rfl, hK4⟩ := r
            rw [rep_lst] at ra rb
            obtain ⟨a1, us, G1, rfl, q1, ra, _, hG1⟩ := ra
            obtain ⟨a2, ws, G2, rfl, q2, rb, _, hG2⟩ := rb
            have ra0 : Reps k (fun a => Z1 a ∨ 1 ≤ F2 a) H1 xs us fp0 := Reps.moreZ (ra.un hn.1) g0 fun _ z => .inl z
            have rb0 : Reps k (fun a => Z1 a ∨ 1 ≤ F2 a) H1 ys ws fp0 := Reps.moreZ (rb.un hn.2) g0 fun _ z => .inl z
            have fz : ∀ {o : Bool} {ad : Addr} {vs : List V}, LAt k.K o Z1 H1 ad vs → (o = true → 1 ≤ F2 ad) → FzL k.K (fun a => Z1 a ∨ 1 ≤ F2 a) H1 ad vs := fun {o ad vs} q l => by
              cases o with
              | true => exact .inl ⟨.inr (l rfl), .inl q.own⟩
              | false => rcases q.fz with z | z
                         · exact .inl ⟨.inl z.1, z.2⟩
                         · exact .inr z
            have f1 := fz q1 fun z => by subst z; rw [hK, hG1, one_self]; omega
            have f2 := fz q2 fun z => by subst z; rw [hK, hK2, hG2, one_self]; omega
            have l1 := ra.len
            have l2 := rb.len
            refine ⟨a1, a2, us, ws, rfl, .inl ⟨by rw [w.K]; exact f1.sq, by rw [w.K]; exact f2.sq, h _ _ ⟨_, F1, st2, s2, ?_⟩⟩⟩
            unfold ItOk
            rw [zipD_len, l1, l2, w.K]
            refine (walk_zip rfl).mono (fun H2 kp => ⟨kp.fzl f1, kp.fzl f2⟩) fun i H2 y H3 hi kp ⟨T, x, z, e1, e2, e3, e4, e5⟩ => ?_
            subst e1 e3
            have zk : ∀ a, (Z1 a ∨ 1 ≤ F2 a) → ∃ o, H2 a = some o := fun a z => by
              obtain ⟨o, e⟩ := zh2 a z
              exact ⟨o, kp a o e (.inl z)⟩
            obtain ⟨d, hd, rd⟩ := pair_rep (ra0.kept kp (fun _ z => z) zh2) (rb0.kept kp (fun _ z => z) zh2) zk e2 e4 e5
            exact ⟨⟨d, hd, rd⟩, .inr ⟨T, _, e2, rfl⟩⟩
          · cases hz
        · rename_i xs ys
          split at hz
          · rename_i hn
            cases hz
            rw [reps_cons] at r
            obtain ⟨v1, t, K1, K2, rfl, ra, r, hK⟩ := r
            rw [reps_cons] at r
            obtain ⟨v2, t, K3, K4, rfl, rb, r, hK2⟩ := r
            rw [reps_nil] at r
            obtain ⟨rfl, hK4⟩ := r
            rw [rep_tup] at ra rb
            obtain ⟨a1, us, rfl, q1, ra⟩ := ra
            obtain ⟨a2, ws, rfl, q2, rb⟩ := rb
            have ra0 : Reps k (fun a => Z1 a ∨ 1 ≤ F2 a) H1 xs us fp0 := Reps.moreZ (ra.un hn.1) g0 fun _ z => .inl z
            have rb0 : Reps k (fun a => Z1 a ∨ 1 ≤ F2 a) H1 ys ws fp0 := Reps.moreZ (rb.un hn.2) g0 fun _ z => .inl z
            have l1 := ra.len
            have l2 := rb.len
            refine ⟨a1, a2, us, ws, rfl, .inr ⟨by rw [w.K]; exact q1, by rw [w.K]; exact q2, h _ _ ⟨_, F1, st2, s2, ?_⟩⟩⟩
            unfold ItOk
            rw [zipD_len, l1, l2, w.K]
            refine (walk_zipT rfl).mono (fun H2 kp => ⟨kp.sqt q1, kp.sqt q2⟩) fun i H2 y H3 hi kp ⟨T, x, z, e1, e2, e3, e4, e5⟩ => ?_
            subst e1 e3
            have zk : ∀ a, (Z1 a ∨ 1 ≤ F2 a) → ∃ o, H2 a = some o := fun a z => by
              obtain ⟨o, e⟩ := zh2 a z
              exact ⟨o, kp a o e (.inl z)⟩
            obtain ⟨d, hd, rd⟩ := pair_rep (ra0.kept kp (fun _ z => z) zh2) (rb0.kept kp (fun _ z => z) zh2) zk e2 e4 e5
            exact ⟨⟨d, hd, rd⟩, .inr ⟨T, _, e2, rfl⟩⟩
          · cases hz
        · cases hz
theorem enuD_len : ∀ (ds : List D) (n : Nat), (enuD n ds).length = ds.length
  | [], _ => rfl
  | _ :: ds, n => by simp only [enuD, List.length_cons, enuD_len ds]
theorem enuD_get : ∀ {ds : List D} {n i : Nat} {d : D}, ds[i]? = some d → (enuD n ds)[i]? = some (.tup [.int ((n + i : Nat) : Int), d])
  | [], n, i, d, h => by simp at h
  | x :: ds, n, 0, d, h => by simp at h; subst h; rfl
  | x :: ds, n, i + 1, d, h => by
    simp only [enuD, List.getElem?_cons_succ]
    have := enuD_get (n := n + 1) (ds := ds) (i := i) (d := d) (by simpa using h)
    rw [this, show n + 1 + i = n + (i + 1) by omega]
/-- an enumerated item's own tuple -/
theorem enu_rep {T : Addr} {y : V} {ds : List D} {vs : List V} {i : Nat} {x : V} (rs : Reps k Z H ds vs fp0) (zh : ∀ a, Z a → ∃ o, H a = some o) (hT : H T = none) (hx : some (.int (i : Nat)) = some x) (hy : vs[i]? = some y) :
    ∃ d, (enuD 0 ds)[i]? = some d ∧ Rep k Z (upd H T (.tup [x, y])) d (.ref T) fp0 := by
  cases hx
  have l1 := rs.len
  have i1 : i < vs.length := (List.getElem?_eq_some_iff.mp hy).1
  obtain ⟨d, hd⟩ : ∃ d, ds[i]? = some d := ⟨_, List.getElem?_eq_getElem (by omega)⟩
  have kp : Kept Z H (upd H T (.tup [.int (i : Nat), y])) := kept_upd hT
  obtain ⟨x', Fd, e1, rd, le1⟩ := (rs.kept kp (fun _ z => z) zh).atz hd
  rw [hy] at e1; cases e1
  have hg := enuD_get (n := 0) hd
  rw [Nat.zero_add] at hg
  refine ⟨_, hg, ?_⟩
  rw [rep_tup]
  refine ⟨T, [.int (i : Nat), y], rfl, .inl (.inl upd_same), ?_⟩
  rw [reps_cons]
  refine ⟨.int (i : Nat), [y], fp0, Fd, rfl, by rw [Rep]; exact ⟨rfl, fun _ => rfl⟩, ?_, fun a => by have : Fd a ≤ 0 := le1 a; show 0 = 0 + Fd a; omega⟩
  rw [reps_cons]
  exact ⟨y, [], Fd, fp0, rfl, rd, by rw [reps_nil]; exact ⟨rfl, fun _ => rfl⟩, fun a => by show Fd a = Fd a + 0; omega⟩
theorem pi_enu_ok (w : WF c k lv X W) {es : IOs} {a : Expr} {p pos tp : Pos} {elts : List Expr} {kk : Nat} (hb : ("enumerate" : Str) ∈ c.blt) (hg : glB c "enumerate" = true) (pe : PEs k W gl call X es [a]) : PI X (.Tuple elts kk tp) (.Call (.Name "enumerate" p) [a] [] pos) (rdI k W (denI gl call (.enu es))) := by
  obtain ⟨g1, _, _⟩ := gl_of w hg
  have n := pe.st
  have hs : starEach [a] X.env = [(false, eval a X.env)] := starEach_cons n
  refine PI.weak (pi_enumA g1 (w.bl _ hb) pe.pa hs) fun σ H R ⟨g, Z, F, st, gd, h⟩ => ?_
  simp only [denI] at h
  refine seqO_ok es st gd ?_
  cases he : denO gl call es g with
  | stuck => rw [he] at h; exact h
  | exc cl g' => rw [he] at h; exact h
  | ok q =>
    rw [he] at h
    simp only [bind_ok] at h
    rintro vs H1 ⟨Z1, F1, F2, st1, r1, s1, _⟩
    cases hv : valsO q.1 with
    | none => rw [hv] at h; exact h.elim
    | some ds =>
      rw [hv] at h
      simp only [opt_some, bind_ok] at h
      cases hz : enuV ds with
      | none => rw [hz] at h; exact h.elim
      | some its =>
        rw [hz] at h
        have r := r1.vals hv
        obtain ⟨st2, s2⟩ := froze (ds := []) (vs := []) st1 s1
        have zh2 := s2.good.zh
        have g0 : Good Z1 H1 fp0 := s1.good.less fun a => by show 0 ≤ _; omega
        unfold enuV at hz
        split at hz
        · rename_i o1 xs
          split at hz
          · rename_i hn
            cases hz
            rw [reps_cons] at r
            obtain ⟨v1, t, K1, K2, rfl, ra, r, hK⟩ := r
            rw [reps_nil] at r
            obtain ⟨rfl, hK4⟩ := r
            rw [rep_lst] at ra
            obtain ⟨a1, us, G1, rfl, q1, ra, _, hG1⟩ := ra
            have ra0 : Reps k (fun a => Z1 a ∨ 1 ≤ F2 a) H1 xs us fp0 := Reps.moreZ (ra.un hn) g0 fun _ z => .inl z
            have fz : ∀ {o : Bool} {ad : Addr} {vs : List V}, LAt k.K o Z1 H1 ad vs → (o = true → 1 ≤ F2 ad) → FzL k.K (fun a => Z1 a ∨ 1 ≤ F2 a) H1 ad vs := fun {o ad vs} q l => by
              cases o with
              | true => exact .inl ⟨.inr (l rfl), .inl q.own⟩
              | false => rcases q.fz with z | z
                         · exact .inl ⟨.inl z.1, z.2⟩
                         · exact .inr z
            have f1 := fz q1 fun z => by subst z; rw [hK, hG1, one_self]; omega
            have l1 := ra.len
            refine ⟨a1, us, rfl, .inl ⟨by rw [w.K]; exact f1.sq, h _ _ ⟨_, F1, st2, s2, ?_⟩⟩⟩
            unfold ItOk
            rw [enuD_len, l1, w.K]
            refine walk_enum.mono (fun H2 kp => kp.fzl f1) fun i H2 y H3 hi kp ⟨T, x, z, e1, e2, e3, e4, e5⟩ => ?_
            subst e1 e3
            have zk : ∀ a, (Z1 a ∨ 1 ≤ F2 a) → ∃ o, H2 a = some o := fun a z => by
              obtain ⟨o, e⟩ := zh2 a z
              exact ⟨o, kp a o e (.inl z)⟩
            obtain ⟨d, hd, rd⟩ := enu_rep (ra0.kept kp (fun _ z => z) zh2) zk e2 e4 e5
            exact ⟨⟨d, hd, rd⟩, .inr ⟨T, _, e2, rfl⟩⟩
          · cases hz
        · rename_i xs
          split at hz
          · rename_i hn
            cases hz
            rw [reps_cons] at r
            obtain ⟨v1, t, K1, K2, rfl, ra, r, hK⟩ := r
            rw [reps_nil] at r
            obtain ⟨rfl, hK4⟩ := r
            rw [rep_tup] at ra
            obtain ⟨a1, us, rfl, q1, ra⟩ := ra
            have ra0 : Reps k (fun a => Z1 a ∨ 1 ≤ F2 a) H1 xs us fp0 := Reps.moreZ (ra.un hn) g0 fun _ z => .inl z
            have l1 := ra.len
            refine ⟨a1, us, rfl, .inr ⟨by rw [w.K]; exact q1, h _ _ ⟨_, F1, st2, s2, ?_⟩⟩⟩
            unfold ItOk
            rw [enuD_len, l1, w.K]
            refine walk_enumT.mono (fun H2 kp => kp.sqt q1) fun i H2 y H3 hi kp ⟨T, x, z, e1, e2, e3, e4, e5⟩ => ?_
            subst e1 e3
            have zk : ∀ a, (Z1 a ∨ 1 ≤ F2 a) → ∃ o, H2 a = some o := fun a z => by
              obtain ⟨o, e⟩ := zh2 a z
              exact ⟨o, kp a o e (.inl z)⟩
            obtain ⟨d, hd, rd⟩ := enu_rep (ra0.kept kp (fun _ z => z) zh2) zk e2 e4 e5
            exact ⟨⟨d, hd, rd⟩, .inr ⟨T, _, e2, rfl⟩⟩
          · cases hz
        · cases hz
end
end VS
end

section
set_option maxHeartbeats 1000000
/-! VS15: list comprehensions. -/
namespace VS
open PySem PySem.Spec PyProof.Rows L2
local macro_rules | `(tactic| walk_at "fp") => `(tactic| ((try dsimp only at *); omega))
section
variable {c : Ct} {k : KX} {lv : Nat} {X : Cx} {W : WX} {Z Z' Z'' Z0 Z1 : Zs} {H H' H'' H0 H1 : Hp} {F F' G F1 F2 F3 : Fp} {σ σ' : L2.St} {g g' g1 : Gm} {Q : VK} {d : D} {v : V} {pu : Bool} {den : Gm → R (D × Gm)} {e : Expr} {gl : Nat → Option D} {call : Call}
theorem wf_blk (w : WF c k lv X W) (s : Shared) (H : Hp) (scope : Scope) (C : Addr) (cl : List (Str × Addr)) (fp : List Addr) :
    WF (blkCt c scope) k lv (X.blk s H scope (compEnvC scope cl C X.env) fp) (fun _ _ _ _ => False) :=
  ⟨w.N, w.nd, (by show relS scope X.env.scope = _; rw [w.sc]), fun x z => z, w.calm, w.room, w.K, w.gl, w.bl, w.fns, takes0, w.fl⟩
theorem wipe_get : ∀ (vs : List Nat) (j : Nat), (wipe σ vs)[j]? = if j ∈ vs ∧ j < σ.length then some none else σ[j]?
  | [], j => by simp [wipe]
  | v :: vs, j => by
    unfold wipe
    by_cases h : v = j
    · subst h
      by_cases hl : v < σ.length
      · rw [List.getElem?_set_self (by rw [wipe_length]; exact hl), if_pos ⟨by simp, hl⟩]
      · rw [List.getElem?_eq_none (by rw [List.length_set, wipe_length]; omega), if_neg (fun z => hl z.2), List.getElem?_eq_none (by omega)]
    · rw [List.getElem?_set_ne h, wipe_get vs j]
      by_cases hj : j ∈ vs
      · simp [hj]
      · simp [hj, Ne.symm h]
theorem wipe_of {vs : List Nat} (h : ∀ j, j ∉ vs → σ'[j]? = (wipe σ vs)[j]?) (l : σ'.length = σ.length) : wipe σ' vs = wipe σ vs := by
  apply List.ext_getElem?
  intro j
  rw [wipe_get, wipe_get]
  by_cases hj : j ∈ vs
  · by_cases hl : j < σ.length
    · rw [if_pos ⟨hj, by omega⟩, if_pos ⟨hj, hl⟩]
    · rw [if_neg (fun z => by omega), if_neg (fun z => hl z.2), List.getElem?_eq_none (by omega), List.getElem?_eq_none (by omega)]
  · have := h j hj
    rw [wipe_get] at this
    rw [if_neg (fun z => hj z.1), this]
/-- only the slots that hold something count -/
theorem StR.chg : ∀ {g : Gm} {σ σ' : L2.St} {F : Fp}, StR k Z H g σ F → (∀ (i : Nat) (d : D), g[i]? = some (some d) → σ'[i]? = σ[i]?) → σ'.length = σ.length → StR k Z H g σ' F
  | [], σ, σ', F, h, _, l => by
    rw [h.1] at l
    exact ⟨by simpa using l, h.2⟩
  | s :: g, σ, σ', F, ⟨o, r, F1, F2, e, h1, h2, hF⟩, a, l => by
    subst e
    cases σ' with
    | nil => simp at l
    | cons o' r' =>
      refine ⟨o', r', F1, F2, rfl, ?_, h2.chg (fun i d e => by simpa using a (i + 1) d (by simpa using e)) (by simpa using l), hF⟩
      cases s with
      | none => exact h1
      | some d =>
        have := a 0 d rfl
        simp at this
        rw [this]; exact h1
theorem noneAt_get {own : List Nat} (h : noneAt own g = true) {i : Nat} (hi : i ∈ own) : ∀ d, g[i]? ≠ some (some d) := fun d e => by
  unfold noneAt at h
  rw [List.all_eq_true] at h
  have := h i hi
  unfold getS at this
  rw [e] at this
  cases this
theorem clrs_len : ∀ (own : List Nat) (g : Gm), (VS.clrs own g).length = g.length
  | [], _ => rfl
  | i :: own, g => by
    show (VS.clrs own (g.set i none)).length = _
    rw [clrs_len own, List.length_set]
theorem clrs_get : ∀ (own : List Nat) (g : Gm) (j : Nat) (d : D), (VS.clrs own g)[j]? = some (some d) → j ∉ own ∧ g[j]? = some (some d)
  | [], _, _, _, e => ⟨by simp, e⟩
  | i :: own, g, j, d, e => by
    obtain ⟨h1, h2⟩ := clrs_get own (g.set i none) j d e
    by_cases hj : i = j
    · subst hj
      by_cases hl : i < g.length
      · rw [List.getElem?_set_self hl] at h2; cases h2
      · rw [List.getElem?_eq_none (by rw [List.length_set]; omega)] at h2; cases h2
    · rw [List.getElem?_set_ne hj] at h2
      exact ⟨by simp [h1, Ne.symm hj], h2⟩
theorem noneAt_clrs (own : List Nat) (g : Gm) : noneAt own (VS.clrs own g) = true := by
  unfold noneAt
  rw [List.all_eq_true]
  intro i hi
  unfold getS
  cases e : (VS.clrs own g)[i]? with
  | none => rfl
  | some s =>
    cases s with
    | none => rfl
    | some d => exact absurd hi (clrs_get own g i d e).1

/-! ### the ifs -/
def rdB (k : KX) (W : WX) (den : Gm → R (Bool × Gm)) : TT := fun σ H Q => ∃ g Z F, StR k Z H g σ F ∧ Good Z H F ∧ match den g with
  | .ok p => ∀ H', PostT k σ Z H F p.2 H' → Q p.1 H'
  | .exc cl g' => PostX k W σ Z H F cl g'
  | .stuck => False
theorem PTs.weak {X : Cx} {e : List Expr} {t t' : TT} (h : PTs X e t) (w : ∀ σ H Q, t' σ H Q → t σ H Q) : PTs X e t' := ⟨fun pins s σ H Q I q => h.run pins s σ H Q I (w σ H Q q)⟩
theorem ptc_nil : PTs X [] (rdB k W (denC gl call .nil)) := PTs.weak pts_nil fun σ H Q ⟨g, Z, F, st, gd, h⟩ => by
  simp only [denC] at h
  exact h H ⟨Z, F, st, Step.refl gd⟩
theorem ptc_one {a : IE} {x : Expr} (p : PT X x (rdT k W (denE gl call a))) : PTs X [x] (rdB k W (denC gl call (.cons a .nil))) := PTs.weak (pts_one p) fun σ H Q ⟨g, Z, F, st, gd, h⟩ => by
  refine ⟨g, Z, F, st, gd, ?_⟩
  simp only [denC] at h
  cases hd : denE gl call a g with
  | stuck => rw [hd] at h; exact h
  | exc cl g' => rw [hd] at h; exact h
  | ok p =>
    rw [hd] at h
    obtain ⟨d, g'⟩ := p
    cases d with
    | bl b =>
      cases b <;> exact h
    | _ => exact h.elim
theorem own_map (N : List Str) (own : List Nat) : (own.map fun i => (((N[i]?).getD "" : Str), i)).map (·.2) = own := by
  rw [List.map_map]
  conv => rhs; rw [← List.map_id own]
  rfl
/-- what is framed while the element runs: the list that is made -/
def Pv (k : KX) (σ : L2.St) (own : List Nat) (Z1 : Zs) (H1 : Hp) (F1 : Fp) (Da : Addr) (rest : Nat → List D → Gm → R (List D × Gm)) (q : List D × Gm) (i : Nat) (H : Hp) : Prop :=
  ∃ gi Zi Fi acc accV Fa, StR k Zi H gi (wipe σ own) Fi ∧ noneAt own gi = true ∧ H Da = some (.lst accV) ∧ Reps k Zi H acc accV Fa ∧ Step Z1 H1 F1 Zi H (fun a => Fi a + (Fa a + one true Da a)) ∧ rest i acc gi = .ok q
theorem lc_w {it : II} {t : TG1} {own : List Nat} {ifs : IEs} {elt : IE} {wi : TI} {K : PySem.W.Frag} (hK : K = k.K) (hs : ∀ j ∈ slots t, j ∈ own) (hwi : ∀ σ H R, rdI k W (denI gl call it) σ H R → wi σ H R) :
    ∀ σ H Q, rdE k W false (denE gl call (.lc it t own ifs elt)) σ H Q → tLc wi (gT K t) (rdB k (fun _ _ _ _ => False) (denC gl call ifs)) (rdE k (fun _ _ _ _ => False) (pureE elt) (denE gl call elt)) own σ H Q := fun σ H Q ⟨g, Z, F, st, gd, h⟩ => by
  refine hwi σ H _ ⟨g, Z, F, st, gd, ?_⟩
  simp only [denE] at h
  cases hi : denI gl call it g with
  | stuck => rw [hi] at h; exact h
  | exc cl g' => rw [hi] at h; exact h
  | ok p =>
    rw [hi] at h
    simp only [bind_ok] at h
    rintro J H1 ⟨Z1, F1, st1, s1, ok⟩
    by_cases hn : noneAt own p.2 = true
    · rw [if_pos hn] at h
      cases hl : lcD t own (denC gl call ifs) (denE gl call elt) [] p.1 p.2 with
      | stuck => rw [hl] at h; exact h.elim
      | exc cl g' =>
        exfalso
        have : ∀ (ds acc : List D) (g : Gm) (cl : Nat) (g' : Gm), lcD t own (denC gl call ifs) (denE gl call elt) acc ds g ≠ .exc cl g' := fun ds => by
          induction ds with
          | nil => intro acc g cl g' e; simp [lcD] at e
          | cons d ds ih =>
            intro acc g cl g' e
            simp only [lcD] at e
            cases h1 : setT t d g with
            | none => rw [h1] at e; cases e
            | some g1 =>
              rw [h1] at e
              simp only [opt_some, bind_ok] at e
              cases h2 : denC gl call ifs g1 with
              | stuck => rw [h2] at e; cases e
              | exc _ _ => rw [h2] at e; cases e
              | ok p =>
                rw [h2] at e
                simp only [okOnly_ok, bind_ok] at e
                split at e
                · cases h3 : denE gl call elt p.2 with
                  | stuck => rw [h3] at e; cases e
                  | exc _ _ => rw [h3] at e; cases e
                  | ok q =>
                    rw [h3] at e
                    simp only [okOnly_ok, bind_ok] at e
                    split at e
                    · exact ih _ _ _ _ e
                    · cases e
                · exact ih _ _ _ _ e
        exact this _ _ _ _ _ hl
      | ok q =>
        rw [hl] at h
        intro Da hD
        have gd1 := s1.good
        refine lc_it ok (Pv k σ own Z1 H1 F1 Da (fun i acc gi => lcD t own (denC gl call ifs) (denE gl call elt) acc (p.1.drop i) gi) q) ?_ ?_ ?_ ?_
        · -- the start
          have gn := gd1.new hD (o := .lst []) trivial
          refine ⟨p.2, Z1, F1, [], [], fp0, (st1.stay (sth0 hD gd1)).chg (fun i d e => ?_) (wipe_length _ _), hn, upd_same, by rw [reps_nil]; exact ⟨rfl, fun _ => rfl⟩, ⟨fun _ z => z, fun _ z => .inl z, fun a ha => ?_, keep_upd hD, gn.eq fun a => by simp⟩, hl⟩
          · rw [wipe_get, if_neg fun z => noneAt_get hn z.1 d e]
          · by_cases e : a = Da
            · subst e; exact .inr hD
            · have ha : 1 ≤ F1 a + (0 + one true Da a) := ha
              rw [one_ne e] at ha; exact .inl (by omega)
        · rintro i H2 _ ⟨gi, Zi, Fi, acc, accV, Fa, _, _, _, _, s2, _⟩
          exact s2.kept gd1
        · -- a turn
          rintro i x H2 H3 hlt ⟨gi, Zi, Fi, acc, accV, Fa, st2, hn2, hDa, ra, s2, hr⟩ ⟨⟨d, hd, rx⟩, hH3⟩
          have gd2 := s2.good
          have dr : p.1.drop i = d :: p.1.drop (i + 1) := by
            obtain ⟨hl', e'⟩ := List.getElem?_eq_some_iff.mp hd
            rw [List.drop_eq_getElem_cons hl', e']
          dsimp only at hr
          rw [dr] at hr
          simp only [lcD] at hr
          -- the item's own heap
          have s3 : ∀ {F : Fp}, Good Zi H2 F → Step Zi H2 F Zi H3 F := fun {F} gF => by
            rcases hH3 with rfl | ⟨p', o', hp', rfl⟩
            · exact Step.refl gF
            · have := (Step.newT (gF.less fun a => by show 0 ≤ _; omega) hp' (o := .tup o')).frame (R := F) (gF.eq fun a => by simp)
              exact (this.eqL (F'' := F) fun a => by simp).less fun a => by simp
          have s23 := s2.trans (s3 gd2)
          have gd3 := s23.good
          have st3 := st2.stay (⟨fun _ z => z, fun b o e _ => (s3 (F := fp0) (gd2.less fun a => by show 0 ≤ _; omega)).kp b o e rfl, gd2.less fun a => by show 0 + Fi a ≤ Fi a + (Fa a + one true Da a); omega⟩ : Sth Zi H2 fp0 Zi H3 Fi)
          have ra3 := Reps.stay acc ra (⟨fun _ z => z, fun b o e _ => (s3 (F := fp0) (gd2.less fun a => by show 0 ≤ _; omega)).kp b o e rfl, gd2.less fun a => by show 0 + Fa a ≤ Fi a + (Fa a + one true Da a); omega⟩ : Sth Zi H2 fp0 Zi H3 Fa)
          have hDa3 : H3 Da = some (.lst accV) := (s3 (F := fp0) (gd2.less fun a => by show 0 ≤ _; omega)).kp _ _ hDa rfl
          have rx3 : Rep k Zi H3 d x fp0 := Rep.stay d rx ⟨fun a z => s2.z a z, fun _ _ e _ => e, ⟨fun a => by show 0 + 0 ≤ 1; omega, fun a z => by exact absurd z (by show ¬ 1 ≤ 0 + 0; omega), fun a z => by exact absurd z (by show ¬ 1 ≤ 0 + 0; omega), fun a z => gd3.zh a (s2.z a z)⟩⟩
          cases h1 : setT t d gi with
          | none => rw [h1] at hr; cases hr
          | some g1 =>
            rw [h1] at hr
            simp only [opt_some, bind_ok] at hr
            refine setT_ok hK st3 rx3 (gd3.less fun a => by show Fi a + 0 ≤ _; omega) h1 fun σ2 F2 st4 l4 ag ln => ⟨wipe_of (fun j hj => ag j fun z => hj (hs j z)) (ln.trans (wipe_length _ _)), ?_⟩
            -- the frame: the list that is made
            have l4' : ∀ a, F2 a ≤ Fi a := fun a => by have : F2 a ≤ Fi a + 0 := l4 a; omega
            have gd4 : Good Zi H3 fun a => F2 a + (Fa a + one true Da a) := gd3.less fun a => by have := l4' a; omega
            refine ⟨g1, Zi, F2, st4, gd4.less fun a => by omega, ?_⟩
            have hback : ∀ {Z5 H5 g5 F5}, StR k Z5 H5 g5 σ2 F5 → ∃ F6, StR k Z5 H5 (VS.clrs own g5) (wipe σ own) F6 ∧ ∀ a, F6 a ≤ F5 a := fun {Z5 H5 g5 F5} s5 => by
              obtain ⟨F6, s6, l6⟩ := s5.clrs own
              refine ⟨F6, s6.chg (fun i d e => ?_) (ln.symm), l6⟩
              have := (clrs_get own g5 i d e).1
              exact (ag i fun z => this (hs i z)).symm
            cases h2 : denC gl call ifs g1 with
            | stuck => rw [h2] at hr; cases hr
            | exc _ _ => rw [h2] at hr; cases hr
            | ok pc =>
              rw [h2] at hr
              simp only [okOnly_ok, bind_ok] at hr
              rintro H4 ⟨Z4, F4, st5, s5⟩
              have s6 := s5.frame (R := fun a => Fa a + one true Da a) gd4
              have ra4 := Reps.stay acc ra3 (s5.sth (R := Fa) (gd4.less fun a => by omega))
              have hDa4 : H4 Da = some (.lst accV) := s5.kp _ _ hDa3 (by have := gd4.le Da; rw [one_self] at this; omega)
              have sT : Step Z1 H1 F1 Z4 H4 fun a => F4 a + (Fa a + one true Da a) := (s23.less fun a => by have := l4' a; omega).trans s6
              by_cases hb : pc.1 = true
              · rw [if_pos hb] at hr ⊢
                cases h3 : denE gl call elt pc.2 with
                | stuck => rw [h3] at hr; cases hr
                | exc _ _ => rw [h3] at hr; cases hr
                | ok qe =>
                  rw [h3] at hr
                  simp only [okOnly_ok, bind_ok] at hr
                  refine ⟨pc.2, Z4, F4, st5, sT.good.less fun a => by omega, ?_⟩
                  rw [h3]
                  rintro y H5 ⟨Z5, F5, Fe, st7, re, s7, _⟩
                  by_cases hz : acc.length < sizeLine
                  · rw [if_pos hz] at hr
                    have s8 := s7.frame (R := fun a => Fa a + one true Da a) sT.good
                    have ra5 := Reps.stay acc ra4 (s7.sth (R := Fa) (sT.good.less fun a => by omega))
                    have hDa5 : H5 Da = some (.lst accV) := s7.kp _ _ hDa4 (by have := sT.good.le Da; rw [one_self] at this; omega)
                    have sU := sT.trans s8
                    have gd5 := sU.good
                    obtain ⟨F6, st8, l8⟩ := hback st7
                    have rn : Reps k Z5 H5 (acc ++ [qe.1]) (accV ++ [y]) fun a => Fa a + Fe a := Reps.append ra5 (by rw [reps_cons]; exact ⟨y, [], Fe, fp0, rfl, re, by rw [reps_nil]; exact ⟨rfl, fun _ => rfl⟩, fun a => by simp⟩)
                    have gA : Good Z5 H5 fun a => one true Da a + (F6 a + (Fa a + Fe a)) := gd5.less fun a => by have := l8 a; walk_at "fp"
                    refine ⟨accV, hDa5, by rw [← ra.len]; exact hz, VS.clrs own qe.2, Z5, F6, acc ++ [qe.1], accV ++ [y], fun a => Fa a + Fe a, st8.stay (sthL (vs := accV) (gA.less fun a => by omega)), noneAt_clrs _ _, upd_same, Reps.stay _ rn (sthL (vs := accV) (gA.less fun a => by walk_at "fp")), ?_, hr⟩
                    exact sU.trans (Step.updL (vs' := accV ++ [y]) (F' := fun a => F6 a + (Fa a + Fe a + one true Da a)) gd5 hDa5 (by show 1 ≤ F5 Da + Fe Da + (Fa Da + one true Da Da); rw [one_self]; omega) fun a => by have := l8 a; walk_at "fp")
                  · rw [if_neg hz] at hr; cases hr
              · rw [if_neg hb] at hr ⊢
                obtain ⟨F6, st8, l8⟩ := hback st5
                exact ⟨VS.clrs own pc.2, Z4, F6, acc, accV, Fa, st8, noneAt_clrs _ _, hDa4, ra4, sT.less fun a => by have := l8 a; omega, hr⟩
        · -- the end
          rintro H2 ⟨gi, Zi, Fi, acc, accV, Fa, st2, hn2, hDa, ra, s2, hr⟩
          dsimp only at hr
          rw [List.drop_length] at hr
          simp only [lcD] at hr
          cases hr
          refine h (.ref Da) H2 ⟨Zi, Fi, fun a => Fa a + one true Da a, st2.chg (fun i d e => ?_) (wipe_length _ _).symm, ?_, s1.trans s2, fun z => by cases z⟩
          · rw [wipe_get, if_neg fun z => noneAt_get hn2 z.1 d e]
          · rw [rep_lst]
            exact ⟨Da, accV, Fa, rfl, .ofOwn hDa, ra, fun z => (by cases z), fun _ => rfl⟩
    · rw [if_neg hn] at h; exact h.elim
end
end VS
end

section
set_option maxHeartbeats 2000000
/-! VS16: every expression of the own language stands for the text that it matches. -/
namespace VS
open PySem PySem.Spec PyProof.Rows L2
section
variable {k : KX} {lv : Nat}
theorem pl_both {X : Cx} {W : WX} {e : Expr} {pu q : Bool} {den : Gm → R (D × Gm)} (p : PE X e (rdE k W pu den)) (hp : plainT e = true) : PE X e (rdE k W pu den) ∧ (q = true → PT X e (rdT k W den)) := ⟨p, fun _ => pt_plain p hp fun _ _ _ z => z⟩
mutual
theorem sE : ∀ (ie : IE) {c : Ct} {X : Cx} {W : WX} {e : Expr}, WF c k lv X W → mtE c ie e = true →
    PE X e (rdE k W (pureE ie) (denE c.P.val (callD c.P lv) ie)) ∧ (noIf ie = true → PT X e (rdT k W (denE c.P.val (callD c.P lv) ie)))
  | .con d, c, X, W, e, w, h => by
    obtain ⟨t, p, hp, hw⟩ := pe_con w (gl := c.P.val) (call := callD c.P lv) h
    exact ⟨PE.weak p hw, fun _ => pt_plain p hp hw⟩
  | .glb n, c, X, W, e, w, h => by
    obtain ⟨t, p, hp, hw⟩ := VS.pe_glb w (call := callD c.P lv) h
    exact ⟨PE.weak p hw, fun _ => pt_plain p hp hw⟩
  | .rd p, c, X, W, e, w, h => by
    simp only [mtE] at h
    obtain ⟨p1, p2, _⟩ := pe_pl w h
    exact ⟨PE.weak p1 w_rd, fun _ => pt_plain p1 p2 w_rd⟩
  | .mv i, c, X, W, e, w, h => by
    simp only [mtE] at h
    obtain ⟨p1, p2, _⟩ := pe_pl w (p := .slot i) (by simpa only [mtP] using h)
    exact ⟨PE.weak p1 w_mv, fun _ => pt_plain p1 p2 w_mv⟩
  | .fz i, c, X, W, e, w, h => by
    simp only [mtE] at h
    obtain ⟨p1, p2, _⟩ := pe_pl w (p := .slot i) (by simpa only [mtP] using h)
    exact ⟨PE.weak p1 w_fz, fun _ => pt_plain p1 p2 w_fz⟩
  | .fx a, c, X, W, e, w, h => by
    simp only [mtE] at h
    split at h
    · exact ⟨PE.weak (sE a w h).1 w_fx, fun z => by simp [noIf] at z⟩
    · cases h
  | .tup es, c, X, W, e, w, h => by
    simp only [mtE] at h
    split at h
    · rename_i es' k' pos
      simp only [Bool.and_eq_true, decide_eq_true_eq] at h
      have hw := w_tup (k := k) (W := W) (es := es) (gl := c.P.val) (call := callD c.P lv) (n := 0) fun os g g' e => by
        rw [mtO_len h.1 e]; exact Nat.le_trans h.2 (by decide)
      have p := L2.pe_tup (X := X) (x1 := k') (pos := pos) (PEs.pa (sO es w h.1))
      exact ⟨PE.weak p hw, fun _ => pt_plain p rfl hw⟩
    · cases h
  | .lst es, c, X, W, e, w, h => by
    simp only [mtE] at h
    split at h
    · rename_i es' pos
      simp only [Bool.and_eq_true, decide_eq_true_eq] at h
      have hw := w_lst (k := k) (W := W) (es := es) (gl := c.P.val) (call := callD c.P lv) (n := 0) fun os g g' e => by
        rw [mtO_len h.1 e]; exact Nat.le_trans h.2 (by decide)
      have p := L2.pe_lst (X := X) (pos := pos) (PEs.pa (sO es w h.1))
      exact ⟨PE.weak p hw, fun _ => pt_plain p rfl hw⟩
    · cases h
  | .op o es, c, X, W, e, w, h => by
    simp only [mtE] at h
    split at h
    · rename_i l ha
      obtain ⟨p1, p2⟩ := op_ok w ha (sO es w h)
      exact ⟨p1, fun _ => p2⟩
    · cases h
  | .sl lo hi es, c, X, W, e, w, h => by
    simp only [mtE] at h
    split at h
    · rename_i l ha
      obtain ⟨p1, p2⟩ := sl_ok w ha (sO es w h)
      exact ⟨p1, fun _ => pt_plain p1 p2 fun _ _ _ z => z⟩
    · cases h
  | .slx lo hi es, c, X, W, e, w, h => by
    simp only [mtE] at h
    split at h
    · simp only [Bool.and_eq_true] at h
      exact pl_both (slx_ok w (sO es w h.1.1) h.1.2 h.2) rfl
    · cases h
  | .nt a, c, X, W, e, w, h => by
    simp only [mtE] at h
    split at h
    · simp only [Bool.and_eq_true] at h
      obtain ⟨p1, p2⟩ := sE a w h.1
      obtain ⟨q1, q2⟩ := nt_ok p1 (p2 h.2)
      exact ⟨q1, fun _ => q2⟩
    · cases h
  | .band es, c, X, W, e, w, h => by
    simp only [mtE] at h
    split at h
    · rename_i l pos
      obtain ⟨q1, q2⟩ := and_ok (pos := pos) (sB es w h)
      have e : denE c.P.val (callD c.P lv) (.band es) = denA c.P.val (callD c.P lv) true es := by funext g; simp only [denE]
      rw [e]
      exact ⟨q1, fun _ => q2.pt⟩
    · cases h
  | .bor es, c, X, W, e, w, h => by
    simp only [mtE] at h
    split at h
    · rename_i l pos
      obtain ⟨q1, q2⟩ := or_ok (pos := pos) (sB es w h)
      have e : denE c.P.val (callD c.P lv) (.bor es) = denA c.P.val (callD c.P lv) false es := by funext g; simp only [denE]
      rw [e]
      exact ⟨q1, fun _ => q2.pt⟩
    · cases h
  | .ife t a b, c, X, W, e, w, h => by
    simp only [mtE] at h
    split at h
    · simp only [Bool.and_eq_true] at h
      obtain ⟨⟨⟨h1, h2⟩, h3⟩, h4⟩ := h
      exact ⟨ife_ok ((sE t w h1).2 h2) (sE a w h3).1 (sE b w h4).1, fun z => by simp [noIf] at z⟩
    · cases h
  | .chn o o' a b d, c, X, W, e, w, h => by
    simp only [mtE] at h
    split at h
    · simp only [Bool.and_eq_true, decide_eq_true_eq] at h
      obtain ⟨⟨⟨⟨h1, h2⟩, h3⟩, h4⟩, h5⟩ := h
      obtain ⟨q1, q2⟩ := chn_ok w h1 h2 (sE a w h3).1 (sE b w h4).1 (sE d w h5).1
      exact ⟨q1, fun _ => q2⟩
    · cases h
  | .call f es, c, X, W, e, w, h => by
    simp only [mtE] at h
    split at h
    · split at h
      · rename_i dd hf
        simp only [Bool.and_eq_true, decide_eq_true_eq] at h
        obtain ⟨⟨h1, h2⟩, h3⟩ := h
        exact pl_both (call_ok (gl := c.P.val) w hf h1 h2 (sO es w h3)) rfl
      · cases h
    · cases h
  | .mth m p es, c, X, W, e, w, h => by
    simp only [mtE] at h
    split at h
    · simp only [Bool.and_eq_true, decide_eq_true_eq] at h
      obtain ⟨⟨⟨⟨⟨h1, h2⟩, h3⟩, h4⟩, h5⟩, h6⟩ := h
      have hp : (∃ i, p = .slot i) ∨ pureO es = true := by
        cases p with
        | slot i => exact .inl ⟨i, rfl⟩
        | ix _ _ => exact .inr h4
        | att _ _ _ => exact .inr h4
      exact pl_both (mth_ok (gl := c.P.val) w h1 h2 (sO es w h3) hp h5 h6) rfl
    · cases h
  | .lc it tg own ifs elt, c, X, W, e, w, h => by
    simp only [mtE] at h
    split at h
    · simp only [Bool.and_eq_true] at h
      obtain ⟨⟨⟨⟨⟨⟨h1, h2⟩, h3⟩, h4⟩, h5⟩, h6⟩, h7⟩ := h
      have hs : ∀ j ∈ slots tg, j ∈ own := by
        cases tg with
        | nm i => intro j hj; have : j = i := by simpa [slots] using hj
                  subst this; simpa using h7
        | tup is => intro j hj; rw [List.all_eq_true] at h7; simpa using h7 j hj
      have bk := blkOk_by h1
      rw [← w.N, ← w.sc] at bk
      have hset : ∀ x, foldedSetIterable _ X.env x = pure x := fun x => by
        rename_i el tge ite ife scope pos
        show foldedSetIterable ite X.env x = pure x
        cases ite <;> first | rfl | (simp [noSet] at h3; done)
      have p1 := pe_lc (pos := ‹Pos›) w.calm (by rw [w.N]; exact w.nd) (sI it w h2) bk
        (g := gT X.K tg) (fun s H C cl fp => (pg_ok (wf_blk w s H _ C cl fp) h4).1) (fun s H C cl fp => sC ifs (wf_blk w s H _ C cl fp) h5) (fun s H C cl fp => (sE elt (wf_blk w s H _ C cl fp) h6).1) hset
      rw [own_map X.N own] at p1
      have hw := lc_w (k := k) (W := W) (gl := c.P.val) (call := callD c.P lv) (it := it) (t := tg) (own := own) (ifs := ifs) (elt := elt) w.K hs fun _ _ _ z => z
      exact ⟨PE.weak p1 hw, fun _ => pt_plain p1 rfl hw⟩
    · cases h
theorem sO : ∀ (es : IOs) {c : Ct} {X : Cx} {W : WX} {l : List Expr}, WF c k lv X W → mtO c es l = true → PEs k W c.P.val (callD c.P lv) X es l
  | .nil, c, X, W, l, w, h => by
    simp only [mtO] at h
    cases l with
    | nil => rfl
    | cons _ _ => cases h
  | .val e r, c, X, W, l, w, h => by
    simp only [mtO] at h
    split at h
    · cases h
    · simp only [Bool.and_eq_true] at h
      exact ⟨_, _, rfl, h.1.1, (sE e w h.1.2).1, sO r w h.2⟩
  | .slt i r, c, X, W, l, w, h => by
    simp only [mtO] at h
    split at h
    · cases h
    · simp only [Bool.and_eq_true] at h
      exact ⟨_, _, rfl, nm_st h.1, pe_nm w h.1, sO r w h.2⟩
  | .pla p, c, X, W, l, w, h => by
    simp only [mtO] at h
    split at h
    · simp only [Bool.and_eq_true] at h
      exact ⟨_, rfl, h.1, (pe_pl w h.2).1⟩
    · cases h
theorem sB : ∀ (es : IEs) {c : Ct} {X : Cx} {W : WX} {l : List Expr}, WF c k lv X W → mtB c es l = true → BEs k W c.P.val (callD c.P lv) X es l
  | .nil, c, X, W, l, w, h => by simp [mtB] at h
  | .cons e .nil, c, X, W, l, w, h => by
    simp only [mtB] at h
    split at h
    · cases h
    · simp only [Bool.and_eq_true, List.isEmpty_iff] at h
      obtain ⟨p1, p2⟩ := sE e w h.1.1
      exact ⟨_, _, rfl, p1, p2 h.1.2, h.2⟩
  | .cons e (.cons e' r), c, X, W, l, w, h => by
    simp only [mtB] at h
    split at h
    · cases h
    · simp only [Bool.and_eq_true] at h
      obtain ⟨p1, p2⟩ := sE e w h.1.1
      exact ⟨_, _, rfl, p1, p2 h.1.2, sB (.cons e' r) w h.2⟩
theorem sC : ∀ (es : IEs) {c : Ct} {X : Cx} {W : WX} {l : List Expr}, WF c k lv X W → mtC c es l = true → PTs X l (rdB k W (denC c.P.val (callD c.P lv) es))
  | .nil, c, X, W, l, w, h => by
    simp only [mtC] at h
    cases l with
    | nil => exact ptc_nil
    | cons _ _ => cases h
  | .cons e .nil, c, X, W, l, w, h => by
    simp only [mtC] at h
    split at h
    · simp only [Bool.and_eq_true] at h
      exact ptc_one ((sE e w h.1.1).2 h.1.2)
    · cases h
  | .cons e (.cons _ _), c, X, W, l, w, h => by
    simp only [mtC] at h
    split at h
    · simp at h
    · cases h
theorem sI : ∀ (it : II) {c : Ct} {X : Cx} {W : WX} {tg x : Expr}, WF c k lv X W → mtI c it tg x = true → PI X tg x (rdI k W (denI c.P.val (callD c.P lv) it))
  | .seq e, c, X, W, tg, x, w, h => by
    simp only [mtI] at h
    exact pi_seq_ok w (sE e w h).1
  | .slt _, c, X, W, tg, x, w, h => by simp [mtI] at h
  | .rng1 es, c, X, W, tg, x, w, h => by
    simp only [mtI] at h
    split at h
    · simp only [Bool.and_eq_true, decide_eq_true_eq] at h
      obtain ⟨⟨⟨rfl, h2⟩, h3⟩, h4⟩ := h
      exact pi_rng1 w h2 h3 (sO es w h4)
    · cases h
  | .rng2 es, c, X, W, tg, x, w, h => by
    simp only [mtI] at h
    split at h
    · simp only [Bool.and_eq_true, decide_eq_true_eq] at h
      obtain ⟨⟨⟨rfl, h2⟩, h3⟩, h4⟩ := h
      exact pi_rng2 w h2 h3 (sO es w h4)
    · cases h
  | .zip es, c, X, W, tg, x, w, h => by
    simp only [mtI] at h
    split at h
    · simp only [Bool.and_eq_true, decide_eq_true_eq] at h
      obtain ⟨⟨⟨⟨rfl, h2⟩, h3⟩, h4⟩, h5⟩ := h
      cases tg with
      | Tuple elts kk tp => exact pi_zip_ok w h2 h3 (sO es w h4)
      | _ => cases h5
    · cases h
  | .enu es, c, X, W, tg, x, w, h => by
    simp only [mtI] at h
    split at h
    · simp only [Bool.and_eq_true, decide_eq_true_eq] at h
      obtain ⟨⟨⟨⟨rfl, h2⟩, h3⟩, h4⟩, h5⟩ := h
      cases tg with
      | Tuple elts kk tp => exact pi_enu_ok w h2 h3 (sO es w h4)
      | _ => cases h5
    · cases h
end
/-- name = [..], stored swapped -/
theorem set_lc (it : II) (tg : TG1) (own : List Nat) (ifs : IEs) (elt : IE) {c : Ct} {X : Cx} {W : WX} {el tge ite : Expr} {ife : List Expr} {scope : Scope} {pos : Pos} (w : WF c k lv X W) (h : mtE c (.lc it tg own ifs elt) (.ListComp el [⟨tge, ite, ife, 0⟩] scope pos) = true)
    {y : Str} {py spos : Pos} {i : Nat} (hy : c.N[i]? = some y) (hyl : c.sc.names.lookup y = some .local) (hsw : swapsWith (.ListComp el [⟨tge, ite, ife, 0⟩] scope pos) (some (.Name y py)) spos.line X.env = pure true) :
    PS X (.Assign [.Name y py] (.ListComp el [⟨tge, ite, ife, 0⟩] scope pos) spos) (tAsg (rdE k W false (denE c.P.val (callD c.P lv) (.lc it tg own ifs elt))) (gName i)) := by
  simp only [mtE, Bool.and_eq_true] at h
  obtain ⟨⟨⟨⟨⟨⟨h1, h2⟩, h3⟩, h4⟩, h5⟩, h6⟩, h7⟩ := h
  have hs : ∀ j ∈ slots tg, j ∈ own := by
    cases tg with
    | nm i => intro j hj; have : j = i := by simpa [slots] using hj
              subst this; simpa using h7
    | tup is => intro j hj; rw [List.all_eq_true] at h7; simpa using h7 j hj
  have bk := blkOk_by h1
  rw [← w.N, ← w.sc] at bk
  have hset : ∀ x, foldedSetIterable ite X.env x = pure x := fun x => by
    cases ite <;> first | rfl | (simp [noSet] at h3; done)
  have p1 := ps_setLc (py := py) (spos := spos) (i := i) w.calm (by rw [w.N]; exact w.nd) (by rw [w.N]; exact hy) (by rw [w.sc]; exact hyl) hsw (sI it w h2) bk
    (g := gT X.K tg) (fun s H C cl fp => (pg_ok (wf_blk w s H _ C cl fp) h4).1) (fun s H C cl fp => sC ifs (wf_blk w s H _ C cl fp) h5) (fun s H C cl fp => (sE elt (wf_blk w s H _ C cl fp) h6).1) hset
  rw [own_map X.N own] at p1
  exact PS.weak p1 fun D σ H h => lc_w (k := k) (W := W) (gl := c.P.val) (call := callD c.P lv) (it := it) (t := tg) (own := own) (ifs := ifs) (elt := elt) w.K hs (fun _ _ _ z => z) σ H _ h
end
end VS
end

section
set_option maxHeartbeats 1000000
/-! VS17: statements matched, their readings; small statements. -/
namespace VS
open PySem PySem.Spec PyProof.Rows L2
local macro_rules | `(tactic| walk_at "fp") => `(tactic| ((try dsimp only at *); omega))

def isLc : Expr → Bool
  | .ListComp _ _ _ _ => true
  | _ => false
def isTup : Expr → Bool
  | .Tuple _ _ _ => true
  | _ => false
/-- names of which one is no plain local -/
def celT (c : Ct) : Expr → Bool
  | .Tuple ts _ _ => ts.any fun e => match e with
    | .Name id _ => !decide (c.sc.names.lookup id = some .local)
    | _ => false
  | _ => false
/-- a comprehension is stored swapped with its name's old value -/
def swB (c : Ct) (t : Str) (tl : Nat) : Expr → Bool
  | .ListComp el gens scope pos => decide (c.sc.names.lookup t = some .local) && decide (tl = pos.line) && !(scope.names.any fun p => p.1 == t && (p.2 == .local || p.2 == .cell))
  | _ => false
def nmsOf (c : Ct) (line : Nat) : List Expr → Option (List Str)
  | [] => some []
  | .Name id pos :: r => if c.sc.names.lookup id = some .local ∧ pos.line = line then (nmsOf c line r).map (id :: ·) else none
  | _ :: _ => none
def lineOf : List Expr → Nat
  | e :: _ => e.pos.line
  | [] => 0
/-- a, b = x, y by way of the stack -/
def parB (c : Ct) (ts vs : List Expr) : Bool := (match nmsOf c (lineOf ts) ts with | some ns => decide (ns.eraseDups.length = ns.length) | none => false) && !vs.all (foldedForSure 8) && !vs.all (constantsAlone 8) && vs.all noSt
def fnK (c : Ct) : Bool := match c.sc.kind with | .function => true | _ => false
mutual
def mtS (c : Ct) : IS → Stmt → Bool
  | .asg t e, s => match s with
    | .Assign [tg] x pos => mtT c t tg && mtE c e x && (!isTup tg || !isTup x || celT c tg) && fnK c && (noLc x || isLc x)
    | _ => false
  | .par is es, s => match s with
    | .Assign [.Tuple ts k1 p1] (.Tuple vs k2 p2) pos => mtT c (.tup is) (.Tuple ts k1 p1) && mtO c es vs && decide (vs.length = is.length) && fnK c && decide (is.Nodup) &&
        ((parB c ts vs && (decide (is.length = 2) || decide (is.length = 3)))) && decide (vs.length ≤ 1000)
    | _ => false
  | .put p k e, s => match s with
    | .Assign [.Subscript o i pp] x pos => mtE c e x && mtP c p o && mtE c k i && noSl i && pureE k
    | _ => false
  | .aug sub p k e, s => match s with
    | .AugAssign (.Subscript o i tp) op x pos => mtP c p o && mtX c k i && noSl i && mtE c e x && pureE e && (match op with | .Add => !sub | .Sub => sub | _ => false)
    | _ => false
  | .agn sub i e, s => match s with
    | .AugAssign (.Name y tp) op x pos => locB c i y && (!c.top || c.asg.contains i) && mtE c e x && (match op with | .Add => !sub | .Sub => sub | _ => false)
    | _ => false
  | .ex e, s => match s with
    | .Expr x pos => mtE c e x && noLc x
    | _ => false
  | .ret e, s => match s with
    | .Return (some x) _ => mtE c e x
    | _ => false
  | .retN, s => match s with
    | .Return none _ => true
    | _ => false
  | .iff t a b, s => match s with
    | .If x p q _ => mtE c t x && noIf t && mtSs c a p && mtSs c b q
    | _ => false
  | .whl n t b clr, s => match s with
    | .While x p [] _ => mtE c t x && noIf t && mtSs c b p
    | _ => false
  | .frr it t b clr, s => match s with
    | .For tg x p [] _ => mtI c it tg x && noSet x && mtT c t tg && mtSs c b p
    | _ => false
  | .frc i t b clr, s => match s with
    | .For tg x p [] _ => mtN c i x && noSet x && mtT c t tg && mtSs c b p
    | _ => false
  | .brk, s => match s with
    | .Break _ => true
    | _ => false
  | .cnt, s => match s with
    | .Continue _ => true
    | _ => false
  | .stk, _ => true
  | .pas, s => match s with
    | .Pass _ => true
    | _ => false
def mtSs (c : Ct) : ISs → List Stmt → Bool
  | .nil, l => l.isEmpty
  | .cons s r, l => match l with
    | [] => false
    | x :: xs => mtS c s x && mtSs c r xs
  | .clr _ r, l => mtSs c r l
end

/-- behind a statement -/
def PostS (k : KX) (asg : List Nat) (σ : L2.St) (Z : Zs) (H : Hp) (F : Fp) (g' : Gm) (σ' : L2.St) (H' : Hp) : Prop :=
  ∃ Z' F1, StR k Z' H' g' σ' F1 ∧ Step Z H F Z' H' F1 ∧ (∀ i, i ∉ asg → σ'[i]? = σ[i]?) ∧ σ'.length = σ.length
def PostR (k : KX) (asg : List Nat) (σ : L2.St) (Z : Zs) (H : Hp) (F : Fp) (g' : Gm) (d : D) (v : V) (H' : Hp) : Prop :=
  ∃ σ' Z' F1 F2, StR k Z' H' g' σ' F1 ∧ Rep k Z' H' d v F2 ∧ Step Z H F Z' H' (fun a => F1 a + F2 a) ∧ (∀ i, i ∉ asg → σ'[i]? = σ[i]?) ∧ σ'.length = σ.length
/-- what is wanted behind -/
def Want (k : KX) (W : WX) (asg : List Nat) (D : Ends) (σ : L2.St) (Z : Zs) (H : Hp) (F : Fp) : R (Fl × Gm) → Prop
  | .ok (.nx, g') => ∀ σ' H', PostS k asg σ Z H F g' σ' H' → D.nx σ' H'
  | .ok (.bk, g') => ∀ σ' H', PostS k asg σ Z H F g' σ' H' → D.bk σ' H'
  | .ok (.ct, g') => ∀ σ' H', PostS k asg σ Z H F g' σ' H' → D.ct σ' H'
  | .ok (.rt d, g') => ∀ v H', PostR k asg σ Z H F g' d v H' → D.rt v H'
  | .exc cl g' => ∀ σ' H', PostS k asg σ Z H F g' σ' H' → W (.ref (k.ad cl)) none σ' H'
  | .stuck => False
def rdS (k : KX) (W : WX) (asg : List Nat) (den : Gm → R (Fl × Gm)) : TS := fun D σ H => ∃ g Z F, StR k Z H g σ F ∧ Good Z H F ∧ Want k W asg D σ Z H F (den g)
section
variable {c : Ct} {k : KX} {lv : Nat} {X : Cx} {W : WX} {Z Z' Z'' Z0 Z1 : Zs} {H H' H'' H0 H1 : Hp} {F F' G F1 F2 F3 : Fp} {σ σ' : L2.St} {g g' g1 : Gm} {Q : VK} {d : D} {v : V} {pu : Bool} {den : Gm → R (D × Gm)} {e : Expr} {gl : Nat → Option D} {call : Call} {asg : List Nat} {En : Ends}
theorem postS0 (st : StR k Z H g σ F) (gd : Good Z H F) : PostS k asg σ Z H F g σ H := ⟨Z, F, st, Step.refl gd, fun _ _ => rfl, rfl⟩
/-- what is wanted, behind what was done -/
theorem Want.behind {r : R (Fl × Gm)} (h : Want k W asg En σ Z H F r) (s : Step Z H F Z' H' F') (ks : ∀ i, i ∉ asg → σ'[i]? = σ[i]?) (ln : σ'.length = σ.length) : Want k W asg En σ' Z' H' F' r := by
  have go : ∀ {g' σ2 H2}, PostS k asg σ' Z' H' F' g' σ2 H2 → PostS k asg σ Z H F g' σ2 H2 := fun {g' σ2 H2} ⟨Z2, F2, st, s2, k2, l2⟩ => ⟨Z2, F2, st, s.trans s2, fun i hi => (k2 i hi).trans (ks i hi), l2.trans ln⟩
  match r, h with
  | .ok (.nx, g'), h => exact fun σ2 H2 p => h σ2 H2 (go p)
  | .ok (.bk, g'), h => exact fun σ2 H2 p => h σ2 H2 (go p)
  | .ok (.ct, g'), h => exact fun σ2 H2 p => h σ2 H2 (go p)
  | .ok (.rt d, g'), h => exact fun v H2 ⟨σ2, Z2, F2, F3, st, r, s2, k2, l2⟩ => h v H2 ⟨σ2, Z2, F2, F3, st, r, s.trans s2, fun i hi => (k2 i hi).trans (ks i hi), l2.trans ln⟩
  | .exc cl g', h => exact fun σ2 H2 p => h σ2 H2 (go p)
/-- an expression runs first -/
theorem rdS_then {da : Gm → R (D × Gm)} {pa : Bool} {f : D × Gm → R (Fl × Gm)} {Q' : VK} (h : rdS k W asg (fun g => (da g).bind f) En σ H)
    (n : ∀ {Z F p v H' Z' F1 F2}, StR k Z' H' p.2 σ F1 → Rep k Z' H' p.1 v F2 → Step Z H F Z' H' (fun a => F1 a + F2 a) → Want k W asg En σ Z H F (f p) → Q' v H') : rdE k W pa da σ H Q' := by
  obtain ⟨g, Z, F, st, gd, h⟩ := h
  refine ⟨g, Z, F, st, gd, ?_⟩
  dsimp only at h
  cases hd : da g with
  | stuck => rw [hd] at h; exact h
  | exc cl g' =>
    rw [hd] at h
    exact fun H' Z' F1 st' s' => h σ H' ⟨Z', F1, st', s', fun _ _ => rfl, rfl⟩
  | ok p =>
    rw [hd] at h
    rintro v H' ⟨Z', F1, F2, st1, r1, s1, _⟩
    exact n st1 r1 s1 h
/-- a test runs first -/
theorem rdS_test {da : Gm → R (D × Gm)} {f : Bool → Gm → R (Fl × Gm)} {Q' : Bool → Hp → Prop} (h : rdS k W asg (fun g => (da g).bind fun p => onBl p.1 fun b => f b p.2) En σ H)
    (n : ∀ {b g' H' Z' F1}, StR k Z' H' g' σ F1 → Good Z' H' F1 → Want k W asg En σ Z' H' F1 (f b g') → Q' b H') : rdT k W da σ H Q' := by
  obtain ⟨g, Z, F, st, gd, h⟩ := h
  refine ⟨g, Z, F, st, gd, ?_⟩
  dsimp only at h
  cases hd : da g with
  | stuck => rw [hd] at h; exact h
  | exc cl g' =>
    rw [hd] at h
    exact fun H' Z' F1 st' s' => h σ H' ⟨Z', F1, st', s', fun _ _ => rfl, rfl⟩
  | ok p =>
    rw [hd] at h
    obtain ⟨d, g1⟩ := p
    by_cases hx : ∃ b, d = .bl b
    · obtain ⟨b, rfl⟩ := hx
      rintro H' ⟨Z', F1, st1, s1⟩
      exact n st1 s1.good (Want.behind (r := f b g1) h s1 (fun _ _ => rfl) rfl)
    · simp only [bind_ok] at h
      rw [onBl_no fun b eb => hx ⟨b, eb⟩] at h
      exact h.elim
theorem swap_no {tg x : Expr} {line : Nat} {env : Env} (h2 : noLc x = true) : swapsWithSole [tg] x line env = pure false := by
  cases x <;> first | rfl | (simp [noLc] at h2; done)
theorem swap_expr {x : Expr} {line : Nat} {env : Env} {t : Option Expr} (h2 : noLc x = true) : swapsWith x t line env = pure false := by
  cases x <;> first | rfl | (simp [noLc] at h2; done)
theorem swap_sub {o i x : Expr} {p : Pos} {line : Nat} {env : Env} : swapsWithSole [.Subscript o i p] x line env = pure false := by
  cases x <;> rfl
theorem swap_tup {ts : List Expr} {n : Nat} {x : Expr} {p : Pos} {line : Nat} {env : Env} : swapsWithSole [.Tuple ts n p] x line env = pure false := by
  cases x <;> rfl
end
end VS
end

section
set_option maxHeartbeats 1000000
/-! VS18: assignments. -/
namespace VS
open PySem PySem.Spec PyProof.Rows L2
local macro_rules | `(tactic| walk_at "fp") => `(tactic| ((try dsimp only at *); omega))
section
variable {c : Ct} {k : KX} {lv : Nat} {X : Cx} {W : WX} {Z Z' Z'' Z0 Z1 : Zs} {H H' H'' H0 H1 : Hp} {F F' G F1 F2 F3 : Fp} {σ σ' : L2.St} {g g' g1 : Gm} {Q : VK} {d : D} {v : V} {pu : Bool} {den : Gm → R (D × Gm)} {e : Expr} {gl : Nat → Option D} {call : Call} {asg : List Nat} {En : Ends}
theorem asg_w {t : TG1} {a : IE} {K : PySem.W.Frag} (hK : K = k.K) (ha : ∀ i ∈ slots t, i ∈ asg) : ∀ En σ H, rdS k W asg (denS gl call (.asg t a)) En σ H → tAsg (rdE k W (pureE a) (denE gl call a)) (gT K t) En σ H := fun En σ H h => by
  have e : denS gl call (.asg t a) = fun g => (denE gl call a g).bind fun p => (opt (setT t p.1 p.2)).bind fun g' => .ok (.nx, g') := by funext g; simp only [denS]
  rw [e] at h
  refine rdS_then h fun {Z F p v H' Z' F1 F2} st r s h => ?_
  cases hs : setT t p.1 p.2 with
  | none => rw [hs] at h; exact h.elim
  | some g' =>
    rw [hs] at h
    exact setT_ok hK st r s.good hs fun σ' F' st' l ag ln => h σ' H' ⟨Z', F', st', s.less l, fun i hi => ag i fun z => hi (ha i z), ln⟩
theorem swapsWith_lc {el : Expr} {gens : List Comprehension} {scope : Scope} {pos tp : Pos} {t : Str} {line : Nat} {env : Env} : swapsWith (.ListComp el gens scope pos) (some (.Name t tp)) line env =
    pure (env.blockKind == .function && env.kindOf t == some .local && tp.line == pos.line && !(scope.names.any fun (n, k) => n == t && (k == .local || k == .cell))) := rfl
theorem not_lc {a : IE} {el : Expr} {gens : List Comprehension} {scope : Scope} {pos : Pos} (h : mtE c a (.ListComp el gens scope pos) = true) : ∃ it tg own ifs elt tge ite ife, a = .lc it tg own ifs elt ∧ gens = [⟨tge, ite, ife, 0⟩] := by
  cases a with
  | lc it tg own ifs elt =>
    simp only [mtE] at h
    split at h
    · rename_i e1
      cases e1
      exact ⟨it, tg, own, ifs, elt, _, _, _, rfl, rfl⟩
    · cases h
  | rd p => exfalso; simp only [mtE] at h; cases p <;> simp [mtP, mtN] at h
  | mv p => exfalso; simp only [mtE] at h; simp [mtN] at h
  | fz p => exfalso; simp only [mtE] at h; simp [mtN] at h
  | _ => exfalso; simp [mtE, argsOf, slArgs] at h
theorem fnK_blk (w : WF c k lv X W) (h : fnK c = true) : X.env.blockKind = .function := by
  unfold Env.blockKind
  rw [w.sc]
  unfold fnK at h
  cases hk : c.sc.kind <;> rw [hk] at h <;> first | exact ite_self _ | cases h
theorem filterMap_lt {α β : Type} {f : α → Option β} : ∀ {l : List α}, (∃ x ∈ l, f x = none) → (l.filterMap f).length < l.length
  | [], h => by obtain ⟨x, hx, _⟩ := h; cases hx
  | a :: l, h => by
    cases ha : f a with
    | none =>
      rw [List.filterMap_cons_none ha, List.length_cons]
      exact Nat.lt_succ_of_le (List.length_filterMap_le f l)
    | some b =>
      rw [List.filterMap_cons_some ha, List.length_cons, List.length_cons]
      obtain ⟨x, hx, e⟩ := h
      rcases List.mem_cons.mp hx with z | z
      · rw [z, ha] at e; cases e
      · exact Nat.succ_lt_succ (filterMap_lt ⟨x, z, e⟩)
theorem no_swap {env : Env} {ts vs : List Expr} {n n2 : Nat} {p p2 : Pos} (hk : ∀ id, env.kindOf id = some .local → c.sc.names.lookup id = some .local)
    (h : (ts.any fun e => match e with | .Name id _ => !decide (c.sc.names.lookup id = some .local) | _ => false) = true) : swappedStores [.Tuple ts n p] (.Tuple vs n2 p2) env = pure none := by
  unfold swappedStores
  by_cases h1 : (!(ts.length == 2 || ts.length == 3) || vs.length != ts.length || env.blockKind != .function) = true
  · exact if_pos h1
  refine (if_neg h1).trans ?_
  by_cases h2 : (vs.any fun | .Starred .. => true | _ => false) = true
  · exact if_pos h2
  refine (if_neg h2).trans ?_
  refine if_pos ?_
  rw [Bool.or_eq_true]
  left
  rw [bne_iff_ne]
  apply Nat.ne_of_lt
  apply filterMap_lt
  obtain ⟨e, he, q⟩ := List.any_eq_true.mp h
  refine ⟨e, he, ?_⟩
  cases e with
  | Name id pos =>
    simp only [Bool.not_eq_true', decide_eq_false_iff_not] at q
    have : (env.kindOf id == some .local) = false := by
      rw [beq_eq_false_iff_ne]
      exact fun z => q (hk id z)
    simp only [this, Bool.false_and, Bool.false_eq_true, if_false]
  | _ => simp at q
theorem asg_ok (w : WF c k lv X W) (ht : c.top = true) {t : TG1} {a : IE} {tg x : Expr} {pos : Pos} (h1 : mtT c t tg = true) (h2 : mtE c a x = true) (h3 : (!isTup tg || !isTup x || celT c tg) = true) (h4 : fnK c = true) (h5 : (noLc x || isLc x) = true) :
    PS X (.Assign [tg] x pos) (rdS k W c.asg (denS c.P.val (callD c.P lv) (.asg t a))) := by
  obtain ⟨pg, ha⟩ := pg_ok w h1
  have ha := ha ht
  have pe := (sE a w h2).1
  have go : swapsWithSole [tg] x pos.line X.env = pure false → PS X (.Assign [tg] x pos) (rdS k W c.asg (denS c.P.val (callD c.P lv) (.asg t a))) := fun hs => by
    have hw : swappedStores [tg] x X.env = pure none := by
      cases tg with
      | Tuple ts n p =>
        cases x with
        | Tuple vs n2 p2 =>
          simp only [isTup, Bool.not_true, Bool.false_or, celT] at h3
          exact no_swap (fun id hid => by rw [Env.kindOf, w.sc] at hid; exact hid) h3
        | _ => rfl
      | List ts p => exfalso; cases t <;> simp [mtT] at h1
      | _ => cases x <;> rfl
    have h1' : (assignEach [tg] X.env).map (·.2) = [assign tg X.env] := by
      cases t with
      | nm i => simp only [mtT] at h1; split at h1 <;> first | rfl | cases h1
      | tup is => simp only [mtT] at h1; split at h1 <;> first | rfl | cases h1
    exact PS.weak (ps_asg pe pg hs hw h1') (asg_w w.K ha)
  by_cases hn : noLc x = true
  · exact go (swap_no hn)
  · cases x with
    | ListComp el gens scope pos2 =>
      cases t with
      | tup is =>
        simp only [mtT] at h1
        split at h1
        · exact go swap_tup
        · cases h1
      | nm i =>
        simp only [mtT] at h1
        split at h1
        · rename_i y py
          have hsw := swapsWith_lc (el := el) (gens := gens) (scope := scope) (pos := pos2) (tp := py) (t := y) (line := pos.line) (env := X.env)
          cases hb : (X.env.blockKind == .function && X.env.kindOf y == some .local && py.line == pos2.line && !(scope.names.any fun (n, k) => n == y && (k == .local || k == .cell))) with
          | false =>
            rw [hb] at hsw
            exact go hsw
          | true =>
            rw [hb] at hsw
            simp only [Bool.and_eq_true] at hb h1
            obtain ⟨⟨⟨_, hl⟩, _⟩, _⟩ := hb
            have hl : X.env.scope.names.lookup y = some .local := by simpa [Env.kindOf] using hl
            rw [w.sc] at hl
            obtain ⟨it, tg, own, ifs, elt, tge, ite, ife, rfl, rfl⟩ := not_lc h2
            have hi : c.N[i]? = some y := by
              have := h1.1
              simp only [locB, Bool.and_eq_true, decide_eq_true_eq] at this
              exact this.1
            exact PS.weak (set_lc it tg own ifs elt w h2 hi hl hsw) (asg_w (K := k.K) rfl ha)
        · cases h1
    | _ => first | (exfalso; exact hn rfl) | (exfalso; simp [noLc, isLc] at h5; done)

/-! ### a, b = x, y -/
theorem sw2 {env : Env} {n1 n2 : Str} {q1 q2 p1 p2 : Pos} {k1 k2 : Nat} {vs : List Expr} (hb : env.blockKind = .function) (l1 : env.kindOf n1 = some .local) (l2 : env.kindOf n2 = some .local) (h2 : q2.line = q1.line)
    (hl : vs.length = 2) (hd : [n1, n2].eraseDups.length = 2) (hst : ∀ x ∈ vs, noSt x = true)
    (hf : vs.all (foldedForSure 8) = false) (hc : vs.all (constantsAlone 8) = false) : swappedStores [.Tuple [.Name n1 q1, .Name n2 q2] k1 p1] (.Tuple vs k2 p2) env = pure (some [n1, n2]) := by
  unfold swappedStores
  have a1 : (q1.line == q1.line) = true := beq_self_eq_true _
  have a2 : (q2.line == q1.line) = true := by rw [h2]; exact beq_self_eq_true _
  refine (if_neg ?_).trans ((if_neg ?_).trans ?_)
  · rw [hl, hb]; exact Bool.false_ne_true
  · rw [Bool.not_eq_true, List.any_eq_false]
    intro x hx
    have := hst x hx
    cases x <;> first | (simp [noSt] at this; done) | simp
  · simp only [List.head?_cons, Option.map_some, Option.getD_some, List.filterMap_cons, List.filterMap_nil, Expr.pos, l1, a1, l2, a2, beq_self_eq_true, Bool.and_self, if_true, hd, hf, hc, List.length_cons, List.length_nil, bne_self_eq_false, Bool.or_self, Bool.false_eq_true, if_false]
theorem sw3 {env : Env} {n1 n2 n3 : Str} {q1 q2 q3 p1 p2 : Pos} {k1 k2 : Nat} {vs : List Expr} (hb : env.blockKind = .function) (l1 : env.kindOf n1 = some .local) (l2 : env.kindOf n2 = some .local) (l3 : env.kindOf n3 = some .local) (h2 : q2.line = q1.line) (h3 : q3.line = q1.line)
    (hl : vs.length = 3) (hd : [n1, n2, n3].eraseDups.length = 3) (hst : ∀ x ∈ vs, noSt x = true)
    (hf : vs.all (foldedForSure 8) = false) (hc : vs.all (constantsAlone 8) = false) : swappedStores [.Tuple [.Name n1 q1, .Name n2 q2, .Name n3 q3] k1 p1] (.Tuple vs k2 p2) env = pure (some [n1, n2, n3]) := by
  unfold swappedStores
  have a1 : (q1.line == q1.line) = true := beq_self_eq_true _
  have a2 : (q2.line == q1.line) = true := by rw [h2]; exact beq_self_eq_true _
  have a3 : (q3.line == q1.line) = true := by rw [h3]; exact beq_self_eq_true _
  refine (if_neg ?_).trans ((if_neg ?_).trans ?_)
  · rw [hl, hb]; exact Bool.false_ne_true
  · rw [Bool.not_eq_true, List.any_eq_false]
    intro x hx
    have := hst x hx
    cases x <;> first | (simp [noSt] at this; done) | simp
  · simp only [List.head?_cons, Option.map_some, Option.getD_some, List.filterMap_cons, List.filterMap_nil, Expr.pos, l1, a1, l2, a2, l3, a3, beq_self_eq_true, Bool.and_self, if_true, hd, hf, hc, List.length_cons, List.length_nil, bne_self_eq_false, Bool.or_self, Bool.false_eq_true, if_false]
theorem par_w {is : List Nat} {es : IOs} (ha : ∀ i ∈ is, i ∈ asg) {K : List V → L2.St → Hp → (L2.St → Hp → Prop) → Prop}
    (hK : ∀ {ds vs g g' σ F1 F2 Z H Q}, StR k Z H g σ F1 → Reps k Z H ds vs F2 → Good Z H (fun a => F1 a + F2 a) → setNs is ds g = some g' →
      (∀ σ' F', StR k Z H g' σ' F' → (∀ a, F' a ≤ F1 a + F2 a) → (∀ j, j ∉ is → σ'[j]? = σ[j]?) → σ'.length = σ.length → Q σ' H) → K vs σ H Q) :
    ∀ En σ H, rdS k W asg (denS gl call (.par is es)) En σ H → seqO k W gl call es σ H fun vs H1 => K vs σ H1 En.nx := fun En σ H ⟨g, Z, F, st, gd, h⟩ => by
  simp only [denS] at h
  refine seqO_ok es st gd ?_
  cases he : denO gl call es g with
  | stuck => rw [he] at h; exact h
  | exc cl g' => rw [he] at h; exact fun H' Z' F1 st' s' => h σ H' ⟨Z', F1, st', s', fun _ _ => rfl, rfl⟩
  | ok p =>
    rw [he] at h
    simp only [bind_ok] at h
    rintro vs H1 ⟨Z1, F1, F2, st1, r1, s1, _⟩
    cases hv : valsO p.1 with
    | none => rw [hv] at h; exact h.elim
    | some ds =>
      rw [hv] at h
      simp only [opt_some, bind_ok] at h
      cases hs : setNs is ds p.2 with
      | none => rw [hs] at h; exact h.elim
      | some g' =>
        rw [hs] at h
        exact hK st1 (r1.vals hv) s1.good hs fun σ' F' st' l ag ln => h σ' H1 ⟨Z1, F', st', s1.less l, fun i hi => ag i fun z => hi (ha i z), ln⟩
theorem setNs_len : ∀ {is : List Nat} {ds : List D} {g g' : Gm}, setNs is ds g = some g' → ds.length = is.length
  | [], [], _, _, _ => rfl
  | [], _ :: _, _, _, h => by simp [setNs] at h
  | _ :: _, [], _, _, h => by simp [setNs] at h
  | i :: is, d :: ds, g, g', h => by
    simp only [setNs] at h
    split at h
    · simp [setNs_len h]
    · cases h
theorem par_ok (w : WF c k lv X W) (ht : c.top = true) {is : List Nat} {es : IOs} {ts vs : List Expr} {k1 k2 : Nat} {p1 p2 pos : Pos} (h1 : mtT c (.tup is) (.Tuple ts k1 p1) = true) (h2 : mtO c es vs = true) (hl : vs.length = is.length) (hk : fnK c = true) (hnd : is.Nodup)
    (hb : parB c ts vs = true) (h23 : is.length = 2 ∨ is.length = 3) : PS X (.Assign [.Tuple ts k1 p1] (.Tuple vs k2 p2) pos) (rdS k W c.asg (denS c.P.val (callD c.P lv) (.par is es))) := by
  have ha := (pg_ok w h1).2 ht
  simp only [mtT, Bool.and_eq_true, decide_eq_true_eq] at h1
  obtain ⟨hlt, hz⟩ := h1
  simp only [parB, Bool.and_eq_true, Bool.not_eq_true'] at hb
  obtain ⟨⟨⟨b1, b2⟩, b3⟩, b4⟩ := hb
  cases hn : nmsOf c (lineOf ts) ts with
  | none => rw [hn] at b1; cases b1
  | some ns =>
    rw [hn] at b1
    have b1 := of_decide_eq_true b1
    have bk := fnK_blk w hk
    have hst := fun x hx => (List.all_eq_true.mp b4) x hx
    have kd : ∀ {x : Str}, c.sc.names.lookup x = some .local → X.env.kindOf x = some .local := fun h => by rw [Env.kindOf, w.sc]; exact h
    have pa := PEs.pa (sO es w h2)
    have nd : X.N.Nodup := by rw [w.N]; exact w.nd
    have nl : ∀ {i : Nat} {x : Str} {p : Pos}, locB c i x = true → X.N[i]? = some x := fun h => by
      simp only [locB, Bool.and_eq_true, decide_eq_true_eq] at h; rw [w.N]; exact h.1
    rcases h23 with h23 | h23
    · match is, ts, vs, h23, hlt, hl with
      | [i, j], [a, b], [x, y], _, _, _ =>
        simp only [List.zip_cons_cons, List.zip_nil_left, List.all_cons, List.all_nil, Bool.and_true, Bool.and_eq_true] at hz
        cases a with
        | Name n1 q1 =>
          cases b with
          | Name n2 q2 =>
            simp only [Bool.and_eq_true] at hz
            simp only [nmsOf] at hn
            split at hn
            · rename_i z1
              split at hn
              · rename_i z2
                simp only [Option.map_some, Option.some.injEq] at hn
                subst hn
                have hij : i ≠ j := by simp at hnd; exact hnd
                refine PS.weak (ps_par w.calm nd (nl (p := q1) hz.1.1) (nl (p := q2) hz.2.1) hij (by rw [w.sc]; exact z1.1) (by rw [w.sc]; exact z2.1) pa (sw2 bk (kd z1.1) (kd z2.1) (z2.2.trans z1.2.symm) (by rfl) b1 hst b2 b3) swap_tup) (par_w (K := fun vs σ H Q => ∃ v w, vs = [v, w] ∧ Q ((σ.set i (some v)).set j (some w)) H) ha fun {ds vs g g' σ F1 F2 Z H Q} st r gd e h => ?_)
                have q := setNs_ok (K := Q) st r gd e h
                obtain ⟨v, t, rfl, v2, t2, rfl, e3, q⟩ := q
                subst e3
                exact ⟨v, v2, rfl, q⟩
              · simp at hn
            · cases hn
          | _ => simp at hz
        | _ => simp at hz
    · match is, ts, vs, h23, hlt, hl with
      | [i, j, l], [a, b, b'], [x, y, z], _, _, _ =>
        simp only [List.zip_cons_cons, List.zip_nil_left, List.all_cons, List.all_nil, Bool.and_true, Bool.and_eq_true] at hz
        cases a with
        | Name n1 q1 =>
          cases b with
          | Name n2 q2 =>
            cases b' with
            | Name n3 q3 =>
              simp only [Bool.and_eq_true] at hz
              simp only [nmsOf] at hn
              split at hn
              · rename_i z1
                split at hn
                · rename_i z2
                  split at hn
                  · rename_i z3
                    simp only [Option.map_some, Option.some.injEq] at hn
                    subst hn
                    simp only [List.nodup_cons, List.mem_cons, List.not_mem_nil, or_false, not_or] at hnd
                    refine PS.weak (ps_par3 w.calm nd (nl (p := q1) hz.1.1) (nl (p := q2) hz.2.1.1) (nl (p := q3) hz.2.2.1) hnd.1.1 hnd.1.2 hnd.2.1 (by rw [w.sc]; exact z1.1) (by rw [w.sc]; exact z2.1) (by rw [w.sc]; exact z3.1) pa (sw3 bk (kd z1.1) (kd z2.1) (kd z3.1) (z2.2.trans z1.2.symm) (z3.2.trans z1.2.symm) (by rfl) b1 hst b2 b3) swap_tup) (par_w (K := fun vs σ H Q => ∃ u v w, vs = [u, v, w] ∧ Q (((σ.set i (some u)).set j (some v)).set l (some w)) H) ha fun {ds vs g g' σ F1 F2 Z H Q} st r gd e h => ?_)
                    have q := setNs_ok (K := Q) st r gd e h
                    obtain ⟨v, t, rfl, v2, t2, rfl, v3, t3, rfl, e3, q⟩ := q
                    subst e3
                    exact ⟨v, v2, v3, rfl, q⟩
                  · simp at hn
                · simp at hn
              · cases hn
            | _ => simp at hz
          | _ => simp at hz
        | _ => simp at hz
end
end VS
end

section
set_option maxHeartbeats 1000000
/-! VS19: item stores, loops, blocks. -/
namespace VS
open PySem PySem.Spec PyProof.Rows L2
local macro_rules | `(tactic| walk_at "fp") => `(tactic| ((try dsimp only at *); omega))
section
variable {c : Ct} {k : KX} {lv : Nat} {X : Cx} {W : WX} {Z Z' Z'' Z0 Z1 : Zs} {H H' H'' H0 H1 : Hp} {F F' F0 G F1 F2 F3 : Fp} {σ σ' : L2.St} {g g' g1 : Gm} {Q : VK} {d : D} {v : V} {pu : Bool} {den : Gm → R (D × Gm)} {e : Expr} {gl : Nat → Option D} {call : Call} {asg : List Nat} {En : Ends}
theorem put_end {p : PL} {t' di dv : D} {o i : V} {Fi Fv : Fp} {g2 : Gm} {K : L2.St → Hp → Prop} (st : StR k Z H g σ F1) (f : Foc k Z H g σ F1 p d o) (ri : Rep k Z H di i Fi) (rv : Rep k Z H dv v Fv) (s : Step Z0 H0 F0 Z H fun a => F1 a + Fv a)
    (ho : opPut d di dv = some t') (hs : setPl p t' g = some g2) (h : ∀ H', PostS k asg σ Z0 H0 F0 g2 σ H' → K σ H') : rSetL o i v H (fun H3 => K σ H3) := by
  unfold opPut at ho
  split at ho
  · rename_i ds n
    simp only [Option.map_eq_some_iff] at ho
    obtain ⟨j, hj, rfl⟩ := ho
    obtain ⟨Fd, R, hF, r, up⟩ := f
    rw [rep_lst] at r
    obtain ⟨a, vs, G, rfl, q, rs, _, hG⟩ := r
    have ha := q.own
    have gd := s.good
    have l := rs.len
    obtain ⟨d0, hd0⟩ : ∃ d0, ds[j]? = some d0 := ⟨_, List.getElem?_eq_getElem (ixN_lt hj)⟩
    obtain ⟨v0, Fj, R1, e1, r1, hG1, up1⟩ := rs.at hd0
    refine ⟨a, vs, n, j, rfl, rep_int ri, ha, by rw [← l]; exact hj, h _ ?_⟩
    have e1 : ∀ b, F1 b = Fj b + R1 b + one true a b + R b := fun b => by rw [hF, hG, hG1]
    have r2 := up1 rv (⟨fun _ z => z, fun b o e _ => e, gd.less fun b => by have := e1 b; walk_at "fp"⟩ : Sth Z H Fj Z H R1)
    have gA : Good Z H fun b => one true a b + ((Fv b + R1 b) + R b) := gd.less fun b => by have := e1 b; walk_at "fp"
    have r2' := Reps.stay (ds.set j dv) r2 (sthL (a := a) (vs := vs) (vs' := vs.set j v) (gA.less fun b => by walk_at "fp"))
    have rn : Rep k Z (upd H a (.lst (vs.set j v))) (.lst true (ds.set j dv)) (.ref a) fun b => (Fv b + R1 b) + one true a b := by
      rw [rep_lst]
      exact ⟨a, vs.set j v, fun b => Fv b + R1 b, rfl, .ofOwn upd_same, r2', fun z => (by cases z), fun _ => rfl⟩
    have sR : Sth Z H Fd Z (upd H a (.lst (vs.set j v))) R := by
      have t : Sth Z H (one true a) Z (upd H a (.lst (vs.set j v))) (fun b => G b + R b) := sthL (vs := vs) (gd.less fun b => by have := e1 b; have := hG1 b; walk_at "fp")
      exact t.more (fun b => by rw [hG]; omega) fun b => by rw [hG]; omega
    have stn := up hs rn sR
    have s2 := Step.updL (vs' := vs.set j v) (F' := fun b => (Fv b + R1 b) + one true a b + R b) gd ha (by have := e1 a; rw [one_self] at this; walk_at "fp") fun b => by have := e1 b; walk_at "fp"
    exact ⟨Z, _, stn, s.trans s2, fun _ _ => rfl, rfl⟩
  · cases ho
theorem opPut_own {t di dv t' : D} (ho : opPut t di dv = some t') : ∃ ds n, t = .lst true ds ∧ di = .int n := by
  unfold opPut at ho
  split at ho
  · exact ⟨_, _, rfl, rfl⟩
  · cases ho
theorem put_w {p : PL} {kx e : IE} (hp : pureE kx = true) : ∀ En σ H, rdS k W asg (denS gl call (.put p kx e)) En σ H → tAsg (rdE k W (pureE e) (denE gl call e)) (gSub (tPl k p) (rdE k W (pureE kx) (denE gl call kx)) rSetL) En σ H := fun En σ H h => by
  have eq : denS gl call (.put p kx e) = fun g => (denE gl call e g).bind fun q => (opt (getPl p q.2)).bind fun t0 => if isOwnL t0 = true then (denE gl call kx q.2).bind fun r => (opt (getPl p r.2)).bind fun t => (opt (opPut t r.1 q.1)).bind fun t' => (opt (setPl p t' r.2)).bind fun g' => .ok (.nx, g') else .stuck := by funext g; simp only [denS]
  rw [eq] at h
  refine rdS_then h fun {Z F q v H' Z' F1 F2} st r s h => ?_
  cases h0 : getPl p q.2 with
  | none => rw [h0] at h; exact h.elim
  | some t0 =>
    rw [h0] at h
    simp only [opt_some, bind_ok] at h
    split at h
    · obtain ⟨v0, ac, f0⟩ := focus st (s.good.less fun a => by omega) p h0
      refine ⟨v0, ac, q.2, Z', F1, st, s.good.less fun a => by omega, ?_⟩
      have g1 : Good Z' H' fun a => fp0 a + (F1 a + F2 a) := s.good.eq fun a => by simp
      cases hk : denE gl call kx q.2 with
      | stuck => rw [hk] at h; exact h.elim
      | exc cl g' =>
        rw [hk] at h
        exact fun H2 Z2 F3 st2 s2 => h σ H2 ⟨Z2, F3, st2, (s.less (F'' := F1) fun a => by omega).trans s2, fun _ _ => rfl, rfl⟩
      | ok r2 =>
        rw [hk] at h
        simp only [bind_ok] at h
        rintro i H2 ⟨Z2, F3, F4, st2, ri, s2, p2⟩
        obtain ⟨eg, s3⟩ := p2 hp
        rw [eg, h0] at h
        simp only [opt_some, bind_ok] at h
        cases ho : opPut t0 r2.1 q.1 with
        | none => rw [ho] at h; exact h.elim
        | some t' =>
          rw [ho] at h
          simp only [opt_some, bind_ok] at h
          cases hs : setPl p t' q.2 with
          | none => rw [hs] at h; exact h.elim
          | some g2 =>
            rw [hs] at h
            have s5 : Step Z H F Z2 H2 fun a => F1 a + F2 a := s.trans (((s3.frame (R := fun a => F1 a + F2 a) g1).eqL (F'' := fun a => F1 a + F2 a) fun a => by simp).less fun a => by walk_at "fp")
            exact put_end (K := En.nx) (st.stay (s3.sth (g1.less fun a => by simp))) (f0.grow s3 (s.good.less fun a => by omega)) ri (Rep.stay q.1 r (s3.sth (g1.less fun a => by walk_at "fp"))) s5 ho hs (h σ)
    · exact h.elim
/-- o[i] of a list, by values -/
theorem get_list : PGet X (rIxL X.K) := by
  intro pins s σ H x y v u Q I rx ry h
  obtain ⟨p, xs, i, z, rfl, rfl, hq, he, q⟩ := h
  cases rx
  obtain ⟨t, rfl⟩ := ry
  obtain ⟨its, r, pl, hz⟩ := I.list hq
  obtain ⟨j, h1, h2, h3, h4, h5⟩ := atI_get he
  obtain ⟨w, ew, rw'⟩ := r.get h2
  have hl := r.length
  have hn := line63
  have fin : EP X pins σ Q w s := ⟨z, H, I, rw', q⟩
  by_cases h0 : 0 ≤ i
  · have hj : i.toNat = j := by
      rw [seqIndex_of h0 h5] at h1
      exact Option.some.inj h1
    exact wpAny_getItem_list (x := w) pl.isList h0 (by omega) (by rw [hj]; simpa using ew) fin
  · have hj : (i + (its.toArray.size : Int)).toNat = j := by
      rw [seqIndex_neg (by omega) h4] at h1
      rw [List.size_toArray, ← hl]
      exact Option.some.inj h1
    exact wpAny_getItem_list_neg (x := w) pl.isList (by omega) (by rw [List.size_toArray] <;> omega) (by omega) (by rw [hj]; simpa using ew) fin
def ipOf (sub : Bool) : TIp := ipI fun i j => if sub then i - j else i + j
theorem ip_of {op : Operator} {sub : Bool} (h : (match op with | .Add => !sub | .Sub => sub | _ => false) = true) : PIp X op (ipOf sub) := by
  split at h
  · cases sub with
    | true => cases h
    | false => exact ip_add
  · cases sub with
    | false => cases h
    | true => exact ip_sub
  · cases h
theorem augD_some {sub : Bool} {a b e : D} (h : augD sub a b = some e) : ∃ i n, a = .int i ∧ b = .int n ∧ e = .int (if sub then i - n else i + n) := by
  unfold augD at h
  split at h
  · cases h; exact ⟨_, _, rfl, rfl, rfl⟩
  · cases h
theorem rep_i {i : Int} : Rep k Z H (.int i) (.int i) fp0 := by rw [Rep]; exact ⟨rfl, fun _ => rfl⟩
theorem aug_w {sub : Bool} {p : PL} {kx : SX} {e : IE} (hp : pureE e = true) : ∀ En σ H, rdS k W asg (denS gl call (.aug sub p kx e)) En σ H → tAugS (tPl k p) (fun σ H Q => ∃ i, SXAt σ kx i ∧ Q (.int i) H) (rdE k W (pureE e) (denE gl call e)) (rIxL k.K) (ipOf sub) rSetL En σ H := fun En σ H ⟨g, Z, F, st, gd, h⟩ => by
  simp only [denS] at h
  cases h0 : getPl p g with
  | none => rw [h0] at h; exact h.elim
  | some t =>
    rw [h0] at h
    simp only [opt_some, bind_ok] at h
    cases hi : evS kx g with
    | none => rw [hi] at h; exact h.elim
    | some i =>
      rw [hi] at h
      simp only [opt_some, bind_ok] at h
      cases hx : opIx t (.int i) with
      | none => rw [hx] at h; exact h.elim
      | some d =>
        rw [hx] at h
        simp only [opt_some, bind_ok] at h
        obtain ⟨v0, ac, f0⟩ := focus st gd p h0
        refine ⟨v0, ac, i, st.sx hi, ?_⟩
        cases he : denE gl call e g with
        | stuck => rw [he] at h; exact h.elim
        | exc cl g' => rw [he] at h; exact h.elim
        | ok q =>
          rw [he] at h
          simp only [okOnly_ok, bind_ok] at h
          cases ha : augD sub d q.1 with
          | none => rw [ha] at h; exact h.elim
          | some d' =>
            rw [ha] at h
            simp only [opt_some, bind_ok] at h
            cases ho : opPut t (.int i) d' with
            | none => rw [ho] at h; exact h.elim
            | some t' =>
              rw [ho] at h
              simp only [opt_some, bind_ok] at h
              cases hs : setPl p t' g with
              | none => rw [hs] at h; exact h.elim
              | some g2 =>
                rw [hs] at h
                obtain ⟨a, b, rfl, eb, rfl⟩ := augD_some ha
                obtain ⟨ds, n, rfl, en⟩ := opPut_own ho
                cases en
                have f1 := f0
                obtain ⟨Fd, R, hF, r, up⟩ := f0
                rw [rep_lst] at r
                obtain ⟨ad, vs, G, rfl, qq, rs, _, hG⟩ := r
                have l := rs.len
                simp only [opIx, itemsOf, Option.bind_eq_some_iff] at hx
                obtain ⟨d1, ⟨j, hj, hd⟩, hx⟩ := hx
                split at hx
                · cases hx
                  obtain ⟨w, Fw, e1, rw1, _⟩ := rs.atz hd
                  rw [rep_int rw1] at e1
                  refine ⟨ad, vs, i, _, rfl, rfl, qq.sq, atI_of (by rw [← l]; exact hj) e1, g, Z, F, st, gd, ?_⟩
                  rw [he]
                  rintro y H2 ⟨Z2, F3, F4, st2, ry, s2, p2⟩
                  obtain ⟨eg, s3⟩ := p2 hp
                  rw [eb] at ry
                  refine ⟨a, b, rfl, rep_int ry, ?_⟩
                  have g1 : Good Z H fun a => fp0 a + F a := gd.eq fun a => by simp
                  have s5 : Step Z H F Z2 H2 fun a => F a + fp0 a := ((s3.frame (R := F) g1).eqL (F'' := F) fun a => by simp).less fun a => by show F a + 0 ≤ F4 a + F a; omega
                  exact put_end (K := En.nx) (st.stay (s3.sth g1)) (f1.grow s3 gd) rep_i rep_i s5 ho hs (h σ)
                · cases hx
theorem agn_w {sub : Bool} {i : Nat} {e : IE} (ha : i ∈ asg) : ∀ En σ H, rdS k W asg (denS gl call (.agn sub i e)) En σ H → tAug i (rdE k W (pureE e) (denE gl call e)) (ipOf sub) En σ H := fun En σ H ⟨g, Z, F, st, gd, h⟩ => by
  simp only [denS] at h
  cases h0 : getS g i with
  | none => rw [h0] at h; exact h.elim
  | some d =>
    rw [h0] at h
    simp only [opt_some, bind_ok] at h
    obtain ⟨v0, Fd, R, e1, r0, hF, up⟩ := st.get h0
    refine ⟨v0, e1, ?_⟩
    have hh : rdS k W asg (fun g' => (denE gl call e g').bind fun q => (opt (augD sub d q.1)).bind fun d' => (opt (setT (.nm i) d' q.2)).bind fun g' => .ok (.nx, g')) En σ H := ⟨g, Z, F, st, gd, h⟩
    refine rdS_then hh fun {Z F q v H' Z' F1 F2} st r s h => ?_
    cases hd : augD sub d q.1 with
    | none => rw [hd] at h; exact h.elim
    | some d' =>
      rw [hd] at h
      simp only [opt_some, bind_ok] at h
      obtain ⟨a, b, rfl, eb, rfl⟩ := augD_some hd
      rw [eb] at r
      refine ⟨a, b, rep_int r0, rep_int r, ?_⟩
      cases hs : setT (.nm i) (.int (if sub then a - b else a + b)) q.2 with
      | none => rw [hs] at h; exact h.elim
      | some g' =>
        rw [hs] at h
        refine setT_ok (K := k.K) rfl (t := .nm i) (Kk := En.nx) st (rep_i (Z := Z') (H := H')) (s.good.less fun a => by show F1 a + 0 ≤ _; omega) hs fun σ' F' st' l ag ln => h σ' H' ⟨Z', F', st', s.less fun a => by have : F' a ≤ F1 a + 0 := l a; omega, fun j hj => ag j fun z => hj ?_, ln⟩
        have z : j = i := by simpa [slots] using z
        rw [z]; exact ha
/-! ### loops -/
theorem Want.loop {clr : List Nat} {L : Gm → R (Fl × Gm)} {N : L2.St → Hp → Prop} {r : R (Fl × Gm)} (h : Want k W asg En σ Z H F (r.bind (aft clr L)))
    (hN : ∀ g' σ' H' Z' F', StR k Z' H' g' σ' F' → Step Z H F Z' H' F' → (∀ i, i ∉ asg → σ'[i]? = σ[i]?) → σ'.length = σ.length → Want k W asg En σ' Z' H' F' (L g') → N σ' H') :
    Want k W asg { En with nx := N, ct := N, bk := En.nx } σ Z H F r := by
  have clr1 : ∀ {g' σ' H'}, PostS k asg σ Z H F g' σ' H' → PostS k asg σ Z H F (clrs clr g') σ' H' := fun {g' σ' H'} ⟨Z', F1, st, s, ks, ln⟩ => by
    obtain ⟨F2, st2, le⟩ := st.clrs clr
    exact ⟨Z', F2, st2, s.less le, ks, ln⟩
  have go : ∀ {g'}, Want k W asg En σ Z H F (L (clrs clr g')) → ∀ σ' H', PostS k asg σ Z H F g' σ' H' → N σ' H' := fun {g'} h σ' H' p => by
    obtain ⟨Z', F1, st, s, ks, ln⟩ := clr1 p
    exact hN _ σ' H' Z' F1 st s ks ln (Want.behind h s ks ln)
  match r, h with
  | .stuck, h => exact h
  | .exc cl g', h => exact h
  | .ok (.nx, g'), h => exact go h
  | .ok (.ct, g'), h => exact go h
  | .ok (.bk, g'), h => exact fun σ' H' p => h σ' H' (clr1 p)
  | .ok (.rt d, g'), h => exact h
theorem whl_w {n : Nat} {t : IE} {b : ISs} {clr : List Nat} : ∀ En σ H, rdS k W asg (denS gl call (.whl n t b clr)) En σ H → tWhile (rdT k W (denE gl call t)) (rdS k W asg (denSs gl call b)) En σ H := fun En σ H ⟨g, Z, F, st, gd, h⟩ => by
  simp only [denS] at h
  refine ⟨fun m σ H => ∃ g Z F, StR k Z H g σ F ∧ Good Z H F ∧ Want k W asg En σ Z H F (whlD (denE gl call t) clr (denSs gl call b) m g), ⟨n, ?_⟩, ?_⟩
  · obtain ⟨F2, st2, le⟩ := st.clrs clr
    exact ⟨_, Z, F2, st2, gd.less le, Want.behind h ((Step.refl gd).less le) (fun _ _ => rfl) rfl⟩
  · rintro m σ H ⟨g, Z, F, st, gd, h⟩
    cases m with
    | zero => exact h.elim
    | succ m =>
      have hh : rdS k W asg (fun g => (denE gl call t g).bind fun p => onBl p.1 fun z => (fun (z : Bool) g => if z = true then (denSs gl call b g).bind (aft clr fun g' => whlD (denE gl call t) clr (denSs gl call b) m g') else .ok (.nx, g)) z p.2) En σ H := ⟨g, Z, F, st, gd, h⟩
      refine rdS_test (f := fun (z : Bool) g => if z = true then (denSs gl call b g).bind (aft clr fun g' => whlD (denE gl call t) clr (denSs gl call b) m g') else .ok (.nx, g)) hh fun {z g' H' Z' F1} st gd h => ?_
      cases z with
      | true =>
        rw [if_pos rfl]
        refine ⟨fun σ' H' => ∃ g Z F, StR k Z H' g σ' F ∧ Good Z H' F ∧ Want k W asg En σ' Z H' F (whlD (denE gl call t) clr (denSs gl call b) m g), fun σ' H' w => ⟨m, Nat.lt_succ_self m, w⟩, g', Z', F1, st, gd, ?_⟩
        exact Want.loop h fun g2 σ2 H2 Z2 F2 st2 s2 ks ln w => ⟨g2, Z2, F2, st2, s2.good, w⟩
      | false =>
        rw [if_neg Bool.false_ne_true]
        exact h σ H' (postS0 st gd)
theorem for_w {it : II} {t : TG1} {b : ISs} {clr : List Nat} {K : PySem.W.Frag} (hK : K = k.K) (ha : ∀ i ∈ slots t, i ∈ asg) : ∀ En σ H, rdS k W asg (denS gl call (.frr it t b clr)) En σ H → tFor (rdI k W (denI gl call it)) (gT K t) (rdS k W asg (denSs gl call b)) En σ H := fun En σ H ⟨g, Z, F, st, gd, h⟩ => by
  simp only [denS] at h
  refine ⟨g, Z, F, st, gd, ?_⟩
  cases hi : denI gl call it g with
  | stuck => rw [hi] at h; exact h.elim
  | exc cl g' => rw [hi] at h; exact fun H2 Z2 F3 st2 s2 => h σ H2 ⟨Z2, F3, st2, s2, fun _ _ => rfl, rfl⟩
  | ok p =>
    rw [hi] at h
    simp only [bind_ok] at h
    rintro J H1 ⟨Z1, F1, st1, s1, ok⟩
    have gd1 := s1.good
    refine for_it ok (fun i σ H => ∃ gi Zi Fi, StR k Zi H gi σ Fi ∧ Step Z1 H1 F1 Zi H Fi ∧ Want k W asg En σ Zi H Fi (forD t clr (denSs gl call b) (p.1.drop i) gi)) ?_ ?_ ?_ ?_
    · obtain ⟨F2, st2, le⟩ := st1.clrs clr
      exact ⟨_, Z1, F2, st2, (Step.refl gd1).less le, Want.behind h (s1.less le) (fun _ _ => rfl) rfl⟩
    · rintro i σ2 H2 _ ⟨gi, Zi, Fi, st2, s2, _⟩
      exact s2.kept gd1
    · rintro i x σ2 H2 H3 hlt ⟨gi, Zi, Fi, st2, s2, h⟩ ⟨⟨d, hd, rx⟩, hH3⟩
      have gd2 := s2.good
      have dr : p.1.drop i = d :: p.1.drop (i + 1) := by
        obtain ⟨hl', e'⟩ := List.getElem?_eq_some_iff.mp hd
        rw [List.drop_eq_getElem_cons hl', e']
      rw [dr] at h
      simp only [forD] at h
      have s3 : ∀ {F : Fp}, Good Zi H2 F → Step Zi H2 F Zi H3 F := fun {F} gF => by
        rcases hH3 with rfl | ⟨p', o', hp', rfl⟩
        · exact Step.refl gF
        · have := (Step.newT (gF.less fun a => by show 0 ≤ _; omega) hp' (o := .tup o')).frame (R := F) (gF.eq fun a => by simp)
          exact (this.eqL (F'' := F) fun a => by simp).less fun a => by simp
      have s30 : Step Zi H2 fp0 Zi H3 fp0 := s3 (gd2.less fun a => by show 0 ≤ _; omega)
      have st3 := st2.stay (s30.sth (gd2.eq fun a => by simp))
      have s23 := s2.trans (s3 gd2)
      have h3 := Want.behind h (s3 gd2) (fun _ _ => rfl) rfl
      have rx3 : Rep k Zi H3 d x fp0 := Rep.stay d rx ⟨s23.z, fun _ _ e _ => e, ⟨fun a => by show 0 + 0 ≤ 1; omega, fun a z => absurd z (by show ¬ 1 ≤ 0 + 0; omega), fun a z => absurd z (by show ¬ 1 ≤ 0 + 0; omega), fun a z => by
        obtain ⟨o, e⟩ := gd1.zh a z
        by_cases q : ∃ o, H3 a = some o
        · exact q
        · exact s23.good.zh a (s23.z a z)⟩⟩
      cases hs : setT t d gi with
      | none => rw [hs] at h3; exact h3.elim
      | some g1 =>
        rw [hs] at h3
        simp only [opt_some, bind_ok] at h3
        refine setT_ok hK st3 rx3 (s23.good.eq fun a => by simp) hs fun σ' F' st' l ag ln => ⟨g1, Zi, F', st', s23.good.less fun a => by have : F' a ≤ Fi a + 0 := l a; omega, ?_⟩
        have le : ∀ a, F' a ≤ Fi a := fun a => by have : F' a ≤ Fi a + 0 := l a; omega
        have h4 := Want.behind h3 ((Step.refl s23.good).less le) (fun i hi => ag i fun z => hi (ha i z)) ln
        exact Want.loop h4 fun g2 σ2 H2 Z2 F2 st2 s4 ks ln w => ⟨g2, Z2, F2, st2, (s23.less le).trans s4, w⟩
    · rintro σ2 H2 ⟨gi, Zi, Fi, st2, s2, h⟩
      rw [List.drop_eq_nil_of_le (Nat.le_refl _)] at h
      exact h σ2 H2 (postS0 st2 s2.good)

/-! ### a loop that hands on what it walks -/
def Box (k : KX) (H : Hp) (o : Bool) (a : Addr) (vs : List V) : Prop := if o = true then H a = some (.lst vs) else SqT k.K H a vs
theorem Box.stay {o : Bool} {a : Addr} {vs : List V} {R : Fp} (b : Box k H o a vs) (t : Sth Z H R Z' H' (one o a)) : Box k H' o a vs := by
  cases o with
  | true =>
    have b : H a = some (.lst vs) := b
    exact (t.own (by rw [one_self]; decide) b : H' a = some (.lst vs))
  | false =>
    have b : SqT k.K H a vs := b
    exact (t.tup b : SqT k.K H' a vs)
theorem Want.loopR {clr : List Nat} {L : Gm → R (Fl × Gm)} {N : L2.St → Hp → Prop} {r : R (Fl × Gm)} {Rs : Fp} (h : Want k W asg En σ Z H (fun a => F a + Rs a) (r.bind (aft clr L))) (gd : Good Z H fun a => F a + Rs a)
    (hN : ∀ g' σ' H' Z' F', StR k Z' H' g' σ' F' → Step Z H F Z' H' F' → (∀ i, i ∉ asg → σ'[i]? = σ[i]?) → σ'.length = σ.length → Want k W asg En σ' Z' H' (fun a => F' a + Rs a) (L g') → N σ' H') :
    Want k W asg { En with nx := N, ct := N, bk := En.nx } σ Z H F r := by
  have fr : ∀ {Z' H' F'}, Step Z H F Z' H' F' → Step Z H (fun a => F a + Rs a) Z' H' fun a => F' a + Rs a := fun s => s.frame gd
  have lift : ∀ {g' σ' H'}, PostS k asg σ Z H F g' σ' H' → PostS k asg σ Z H (fun a => F a + Rs a) g' σ' H' := fun {g' σ' H'} ⟨Z', F1, st, s, ks, ln⟩ =>
    ⟨Z', F1, st, (fr s).less fun a => by show F1 a ≤ F1 a + Rs a; omega, ks, ln⟩
  have clr1 : ∀ {g' σ' H'}, PostS k asg σ Z H F g' σ' H' → PostS k asg σ Z H F (clrs clr g') σ' H' := fun {g' σ' H'} ⟨Z', F1, st, s, ks, ln⟩ => by
    obtain ⟨F2, st2, le⟩ := st.clrs clr
    exact ⟨Z', F2, st2, s.less le, ks, ln⟩
  have go : ∀ {g'}, Want k W asg En σ Z H (fun a => F a + Rs a) (L (clrs clr g')) → ∀ σ' H', PostS k asg σ Z H F g' σ' H' → N σ' H' := fun {g'} h σ' H' p => by
    obtain ⟨Z', F1, st, s, ks, ln⟩ := clr1 p
    exact hN _ σ' H' Z' F1 st s ks ln (Want.behind h (fr s) ks ln)
  match r, h with
  | .stuck, h => exact h
  | .exc cl g', h => exact fun σ' H' p => h σ' H' (lift p)
  | .ok (.nx, g'), h => exact go h
  | .ok (.ct, g'), h => exact go h
  | .ok (.bk, g'), h => exact fun σ' H' p => h σ' H' (lift (clr1 p))
  | .ok (.rt d, g'), h => exact fun v H' ⟨σ', Z', F1, F2, st, r, s, ks, ln⟩ => h v H' ⟨σ', Z', F1, F2, st, r, (fr s).less fun a => by show F1 a + F2 a ≤ F1 a + F2 a + Rs a; omega, ks, ln⟩
theorem frc_core {t : TG1} {b : ISs} {clr : List Nat} {K : PySem.W.Frag} (hK : K = k.K) (ha : ∀ i ∈ slots t, i ∈ asg) {J : It} {o : Bool} {a : Addr} {vs : List V} {ds : List D} (hw : Walk J vs.length (fun H => Box k H o a vs) (YAt vs))
    (st : StR k Z H g σ F1) (rs : Reps k Z H ds vs G) (bx : Box k H o a vs) (gd : Good Z H fun b => F1 b + (G b + one o a b)) (h : Want k W asg En σ Z H (fun b => F1 b + (G b + one o a b)) (forD t clr (denSs gl call b) ds g)) :
    ∃ W' : Nat → Nat → L2.St → Hp → Prop, (∃ m, W' 0 m σ H) ∧ ∀ i m σ H, W' i m σ H →
      (J.stop i H ∧ En.nx σ H) ∨ (J.go i H ∧ ∃ N : L2.St → Hp → Prop, (∀ σ' H', N σ' H' → ∃ m', m' < m ∧ W' (i + 1) m' σ' H') ∧ ∀ x H', J.yld i H x H' → gT K t x σ H' fun σ2 H2 => rdS k W asg (denSs gl call b) { En with nx := N, ct := N, bk := En.nx } σ2 H2) := by
  have l := rs.len
  refine for_it hw (fun i σ H => ∃ gi Zi Fi Gi, StR k Zi H gi σ Fi ∧ Reps k Zi H (ds.drop i) (vs.drop i) Gi ∧ Box k H o a vs ∧ Good Zi H (fun b => Fi b + (Gi b + one o a b)) ∧ Want k W asg En σ Zi H (fun b => Fi b + (Gi b + one o a b)) (forD t clr (denSs gl call b) (ds.drop i) gi)) ?_ ?_ ?_ ?_
  · exact ⟨g, Z, F1, G, st, rs, bx, gd, h⟩
  · rintro i σ2 H2 _ ⟨gi, Zi, Fi, Gi, _, _, bx, _⟩
    exact bx
  · rintro i x σ2 H2 H3 hlt ⟨gi, Zi, Fi, Gi, st2, r2, bx2, gd2, h⟩ ⟨e1, e2⟩
    subst e1
    obtain ⟨d, hd⟩ : ∃ d, ds[i]? = some d := ⟨_, List.getElem?_eq_getElem (by omega)⟩
    have dr : ds.drop i = d :: ds.drop (i + 1) := by
      obtain ⟨hl', e'⟩ := List.getElem?_eq_some_iff.mp hd
      rw [List.drop_eq_getElem_cons hl', e']
    have vr : vs.drop i = x :: vs.drop (i + 1) := by
      obtain ⟨hl', e'⟩ := List.getElem?_eq_some_iff.mp e2
      rw [List.drop_eq_getElem_cons hl', e']
    rw [dr, vr, reps_cons] at r2
    obtain ⟨x', r', Fd, G2, e3, rx, r3, hG⟩ := r2
    cases e3
    rw [dr] at h
    simp only [forD] at h
    cases hs : setT t d gi with
    | none => rw [hs] at h; exact h.elim
    | some g1 =>
      rw [hs] at h
      simp only [opt_some, bind_ok] at h
      refine setT_ok hK st2 rx (gd2.less fun b => by have := hG b; show Fi b + Fd b ≤ _; omega) hs fun σ' F' st' le ag ln => ?_
      have gd3 : Good Zi H3 fun b => F' b + (G2 b + one o a b) := gd2.less fun b => by have := hG b; have := le b; walk_at "fp"
      refine ⟨g1, Zi, F', st', gd3.less fun b => by show F' b ≤ F' b + (G2 b + one o a b); omega, ?_⟩
      have h4 := Want.behind h ((Step.refl gd2).less (F'' := fun b => F' b + (G2 b + one o a b)) fun b => by have := hG b; have := le b; walk_at "fp") (fun i hi => ag i fun z => hi (ha i z)) ln
      refine Want.loopR h4 gd3 fun g2 σ2 H2 Z2 F2 st2 s4 ks ln w => ?_
      have s5 := s4.frame gd3
      exact ⟨g2, Z2, F2, G2, st2, Reps.stay _ r3 (s4.sth (gd3.less fun b => by show F' b + G2 b ≤ F' b + (G2 b + one o a b); omega)), bx2.stay (s4.sth (gd3.less fun b => by show F' b + one o a b ≤ F' b + (G2 b + one o a b); omega)), s5.good, w⟩
  · rintro σ2 H2 ⟨gi, Zi, Fi, Gi, st2, r2, bx2, gd2, h⟩
    rw [← l, List.drop_eq_nil_of_le (Nat.le_refl _)] at h
    exact h σ2 H2 ⟨Zi, Fi, st2, (Step.refl gd2).less fun b => by omega, fun _ _ => rfl, rfl⟩

theorem frc_w {i : Nat} {t : TG1} {b : ISs} {clr : List Nat} {K : PySem.W.Frag} (hK : K = k.K) (ha : ∀ i ∈ slots t, i ∈ asg) : ∀ En σ H, rdS k W asg (denS gl call (.frc i t b clr)) En σ H →
    tFor (fun σ H R => tPl k (.slot i) σ H fun x H1 => ∃ a, x = .ref a ∧ (((∃ xs, SqL K H1 a xs) ∧ R (Itl K a) H1) ∨ ((∃ xs, SqT K H1 a xs) ∧ R (Itt K a) H1))) (gT K t) (rdS k W asg (denSs gl call b)) En σ H := fun En σ H ⟨g, Z, F, st, gd, h⟩ => by
  simp only [denS] at h
  cases h0 : getS g i with
  | none => rw [h0] at h; exact h.elim
  | some d =>
    rw [h0] at h
    simp only [opt_some, bind_ok] at h
    obtain ⟨v, Fd, R, e1, r, hF, up⟩ := st.get h0
    have st1 := up (Z' := Z) (H' := H) (s' := none) (o' := some v) (F' := fp0) (fun _ => rfl) ⟨fun _ z => z, fun _ _ e _ => e, gd.less fun a => by rw [hF]; omega⟩
    rw [set_same e1] at st1
    obtain ⟨F2, st2, le⟩ := st1.clrs clr
    have le : ∀ a, F2 a ≤ R a := fun a => by have : F2 a ≤ 0 + R a := le a; omega
    refine ⟨v, e1, ?_⟩
    unfold ownItems at h
    split at h
    · rename_i ds
      simp only [opt_some, bind_ok] at h
      rw [rep_lst] at r
      obtain ⟨a, vs, G, rfl, q, rs, _, hG⟩ := r
      have q := q.own
      have tot : ∀ a', F2 a' + (G a' + one true a a') ≤ F a' := fun a' => by have := le a'; have := hF a'; have := hG a'; omega
      refine ⟨a, rfl, .inl ⟨⟨vs, .inl (.inl q)⟩, ?_⟩⟩
      exact frc_core hK ha (o := true) ((walk_list (K := K) (a := a) (xs := vs)).mono (fun H2 bx => .inl (.inl bx)) fun _ _ _ _ _ _ y => y) st2 rs q (gd.less tot) (Want.behind h ((Step.refl gd).less tot) (fun _ _ => rfl) rfl)
    · rename_i ds
      simp only [opt_some, bind_ok] at h
      rw [rep_tup] at r
      obtain ⟨a, vs, rfl, q, rs⟩ := r
      have tot : ∀ a', F2 a' + (Fd a' + one false a a') ≤ F a' := fun a' => by have := le a'; have := hF a'; have z : one false a a' = 0 := (by unfold one; simp); omega
      refine ⟨a, rfl, .inr ⟨⟨vs, by rw [hK]; exact q⟩, ?_⟩⟩
      exact frc_core hK ha (o := false) ((walk_tup (K := K) (a := a) (xs := vs)).mono (fun H2 bx => by rw [hK]; exact bx) fun _ _ _ _ _ _ y => y) st2 rs q (gd.less tot) (Want.behind h ((Step.refl gd).less tot) (fun _ _ => rfl) rfl)
    · exact h.elim

/-! ### blocks -/
theorem seq_w {s : IS} {r : ISs} : ∀ En σ H, rdS k W asg (denSs gl call (.cons s r)) En σ H → tSeq (rdS k W asg (denS gl call s)) (rdS k W asg (denSs gl call r)) En σ H := fun En σ H ⟨g, Z, F, st, gd, h⟩ => by
  simp only [denSs] at h
  refine ⟨g, Z, F, st, gd, ?_⟩
  match hr : denS gl call s g, h with
  | .stuck, h => exact h
  | .exc cl g', h => exact h
  | .ok (.nx, g'), h => exact fun σ' H' ⟨Z', F1, st', s', ks, ln⟩ => ⟨g', Z', F1, st', s'.good, Want.behind h s' ks ln⟩
  | .ok (.ct, g'), h => exact h
  | .ok (.bk, g'), h => exact h
  | .ok (.rt d, g'), h => exact h
end
end VS
end

section
set_option maxHeartbeats 2000000
/-! VS20: every statement of the own language stands for the text that it matches. -/
namespace VS
open PySem PySem.Spec PyProof.Rows L2
section
variable {k : KX} {lv : Nat}
theorem ret_w {W : WX} {asg : List Nat} {gl : Nat → Option D} {call : Call} {e : IE} : ∀ En σ H, rdS k W asg (denS gl call (.ret e)) En σ H → tRet (rdE k W (pureE e) (denE gl call e)) En σ H := fun En σ H h => by
  have eq : denS gl call (.ret e) = fun g => (denE gl call e g).bind fun p => .ok (.rt p.1, p.2) := by funext g; simp only [denS]
  rw [eq] at h
  exact rdS_then h fun {Z F p v H' Z' F1 F2} st r s h => h v H' ⟨σ, Z', F1, F2, st, r, s, fun _ _ => rfl, rfl⟩
theorem ex_w {W : WX} {asg : List Nat} {gl : Nat → Option D} {call : Call} {e : IE} : ∀ En σ H, rdS k W asg (denS gl call (.ex e)) En σ H → tDrop (rdE k W (pureE e) (denE gl call e)) En σ H := fun En σ H h => by
  have eq : denS gl call (.ex e) = fun g => (denE gl call e g).bind fun p => .ok (.nx, p.2) := by funext g; simp only [denS]
  rw [eq] at h
  exact rdS_then h fun {Z F p v H' Z' F1 F2} st r s h => h σ H' ⟨Z', F1, st, s.less fun a => by omega, fun _ _ => rfl, rfl⟩
theorem rdS_nx {W : WX} {asg : List Nat} {f : Gm → Fl} {En : Ends} {σ : L2.St} {H : Hp} (h : rdS k W asg (fun g => .ok (f g, g)) En σ H) : ∃ g Z F, StR k Z H g σ F ∧ Good Z H F ∧ Want k W asg En σ Z H F (.ok (f g, g)) := h
theorem if_w {W : WX} {asg : List Nat} {gl : Nat → Option D} {call : Call} {t : IE} {a b : ISs} : ∀ En σ H, rdS k W asg (denS gl call (.iff t a b)) En σ H → tIfS (rdT k W (denE gl call t)) (rdS k W asg (denSs gl call a)) (rdS k W asg (denSs gl call b)) En σ H := fun En σ H h => by
  have eq : denS gl call (.iff t a b) = fun g => (denE gl call t g).bind fun p => onBl p.1 fun z => (fun (z : Bool) g => if z = true then denSs gl call a g else denSs gl call b g) z p.2 := by funext g; simp only [denS]
  rw [eq] at h
  refine rdS_test (f := fun (z : Bool) g => if z = true then denSs gl call a g else denSs gl call b g) h fun {z g' H' Z' F1} st gd h => ?_
  cases z with
  | true => rw [if_pos rfl]; exact ⟨g', Z', F1, st, gd, h⟩
  | false => rw [if_neg Bool.false_ne_true]; exact ⟨g', Z', F1, st, gd, h⟩
mutual
theorem sS : ∀ (s : IS) {c : Ct} {X : Cx} {W : WX} {st : Stmt}, WF c k lv X W → c.top = true → PassesOwn (model X.prog X.w) X.A X.env X.xe → mtS c s st = true → PS X st (rdS k W c.asg (denS c.P.val (callD c.P lv) s))
  | .asg t e, c, X, W, st, w, ht, hp, h => by
    simp only [mtS] at h
    split at h
    · simp only [Bool.and_eq_true] at h
      obtain ⟨⟨⟨⟨h1, h2⟩, h3⟩, h4⟩, h5⟩ := h
      exact asg_ok w ht h1 h2 h3 h4 h5
    · cases h
  | .par is es, c, X, W, st, w, ht, hp, h => by
    simp only [mtS] at h
    split at h
    · simp only [Bool.and_eq_true, Bool.or_eq_true, decide_eq_true_eq] at h
      obtain ⟨⟨⟨⟨⟨⟨h1, h2⟩, h3⟩, h4⟩, h5⟩, h6, h7⟩, h8⟩ := h
      exact par_ok w ht h1 h2 h3 h4 h5 h6 h7
    · cases h
  | .put p kx e, c, X, W, st, w, ht, hp, h => by
    simp only [mtS] at h
    split at h
    · rename_i o i pp x pos
      simp only [Bool.and_eq_true] at h
      obtain ⟨⟨⟨⟨h1, h2⟩, h3⟩, h4⟩, h5⟩ := h
      have pg := pg_sub (X := X) (pos := pp) (pe_pl w h2).1 (sE kx w h3).1 set_list (fun v => by cases i <;> first | rfl | (simp [noSl] at h4; done))
      exact PS.weak (ps_asg (sE e w h1).1 pg swap_sub (by cases x <;> rfl) (by rfl)) (put_w h5)
    · cases h
  | .aug sub p kx e, c, X, W, st, w, ht, hp, h => by
    simp only [mtS] at h
    split at h
    · rename_i o i tp op x pos
      simp only [Bool.and_eq_true] at h
      obtain ⟨⟨⟨⟨⟨h1, h2⟩, h3⟩, h4⟩, h5⟩, h6⟩ := h
      have a1 := ps_augS (pos := pos) (tpos := tp) (pe_pl w h1).1 (pe_sx w h2) get_list (sE e w h4).1 (ip_of h6) set_list (fun ov iv new => by cases i <;> first | rfl | (simp [noSl] at h3; done))
      rw [w.K] at a1
      exact PS.weak a1 (aug_w h5)
    · cases h
  | .agn sub i e, c, X, W, st, w, ht, hp, h => by
    simp only [mtS] at h
    split at h
    · rename_i y tp op x pos
      simp only [Bool.and_eq_true] at h
      obtain ⟨⟨⟨h1, h2⟩, h3⟩, h4⟩ := h
      have ha : i ∈ c.asg := by simpa [ht] using h2
      have h1' := h1
      simp only [locB, Bool.and_eq_true, decide_eq_true_eq] at h1'
      obtain ⟨g1, g2⟩ := h1'
      have hi : X.N[i]? = some y := by rw [w.N]; exact g1
      have nd : X.N.Nodup := by rw [w.N]; exact w.nd
      cases hl : c.sc.names.lookup y with
      | none => rw [hl] at g2; cases g2
      | some kd =>
        rw [hl] at g2
        cases kd with
        | «local» =>
          have e1 : X.env.scope.names.lookup y = some .local := by rw [w.sc]; exact hl
          exact PS.weak (ps_aug (pos := pos) (pos' := tp) nd hi (.inl e1) (sE e w h3).1 (ip_of h4) (.inr e1)) (agn_w ha)
        | cell =>
          have e1 : X.env.scope.names.lookup y = some .cell := by rw [w.sc]; exact hl
          exact PS.weak (ps_aug (pos := pos) (pos' := tp) nd hi (.inr e1) (sE e w h3).1 (ip_of h4) (.inl (w.fn y g2))) (agn_w ha)
        | free => cases g2
        | globalExplicit => cases g2
        | globalImplicit => cases g2
    · cases h
  | .ex e, c, X, W, st, w, ht, hp, h => by
    simp only [mtS] at h
    split at h
    · simp only [Bool.and_eq_true] at h
      exact PS.weak (ps_expr (sE e w h.1).1 (swap_expr h.2)) ex_w
    · cases h
  | .ret e, c, X, W, st, w, ht, hp, h => by
    simp only [mtS] at h
    split at h
    · exact PS.weak (ps_ret (sE e w h).1) ret_w
    · cases h
  | .retN, c, X, W, st, w, ht, hp, h => by
    simp only [mtS] at h
    split at h
    · refine PS.weak ps_retN fun En σ H ⟨g, Z, F, st, gd, h⟩ => ?_
      simp only [denS] at h
      exact h .non H ⟨σ, Z, F, fp0, st, by rw [Rep]; exact ⟨rfl, fun _ => rfl⟩, (Step.refl gd).less fun a => by simp, fun _ _ => rfl, rfl⟩
    · cases h
  | .iff t a b, c, X, W, st, w, ht, hp, h => by
    simp only [mtS] at h
    split at h
    · simp only [Bool.and_eq_true] at h
      obtain ⟨⟨⟨h1, h2⟩, h3⟩, h4⟩ := h
      exact PS.weak (ps_if ((sE t w h1).2 h2) (sSs a w ht hp h3) (sSs b w ht hp h4)) if_w
    · cases h
  | .whl n t b clr, c, X, W, st, w, ht, hp, h => by
    simp only [mtS] at h
    split at h
    · simp only [Bool.and_eq_true] at h
      obtain ⟨⟨h1, h2⟩, h3⟩ := h
      exact PS.weak (ps_while hp ((sE t w h1).2 h2) (sSs b w ht hp h3)) whl_w
    · cases h
  | .frr it t b clr, c, X, W, st, w, ht, hp, h => by
    simp only [mtS] at h
    split at h
    · rename_i tg x p pos
      simp only [Bool.and_eq_true] at h
      obtain ⟨⟨⟨h1, h2⟩, h3⟩, h4⟩ := h
      obtain ⟨pg, ha⟩ := pg_ok w h3
      have hset : ∀ y, foldedSetIterable x X.env y = pure y := fun y => by
        cases x <;> first | rfl | (simp [noSet] at h2; done)
      exact PS.weak (ps_for hp w.calm (sI it w h1) pg (sSs b w ht hp h4) hset) (for_w w.K (ha ht))
    · cases h
  | .frc i t b clr, c, X, W, st, w, ht, hp, h => by
    simp only [mtS] at h
    split at h
    · rename_i tg x p pos
      simp only [Bool.and_eq_true] at h
      obtain ⟨⟨⟨h1, h2⟩, h3⟩, h4⟩ := h
      obtain ⟨pg, ha⟩ := pg_ok w h3
      have hset : ∀ y, foldedSetIterable x X.env y = pure y := fun y => by
        cases x <;> first | rfl | (simp [noSet] at h2; done)
      exact PS.weak (ps_for hp w.calm (pi_seq (pe_nm w h1)) pg (sSs b w ht hp h4) hset) (frc_w w.K (ha ht))
    · cases h
  | .brk, c, X, W, st, w, ht, hp, h => by
    simp only [mtS] at h
    split at h
    · refine PS.weak ps_break fun En σ H ⟨g, Z, F, st, gd, h⟩ => ?_
      simp only [denS] at h
      exact h σ H (postS0 st gd)
    · cases h
  | .cnt, c, X, W, st, w, ht, hp, h => by
    simp only [mtS] at h
    split at h
    · refine PS.weak ps_continue fun En σ H ⟨g, Z, F, st, gd, h⟩ => ?_
      simp only [denS] at h
      exact h σ H (postS0 st gd)
    · cases h
  | .stk, c, X, W, st, w, ht, hp, h => ⟨fun pins s σ H D I ⟨g, Z, F, st, gd, q⟩ => by
    simp only [denS] at q
    exact q.elim⟩
  | .pas, c, X, W, st, w, ht, hp, h => by
    simp only [mtS] at h
    split at h
    · refine PS.weak ps_pass fun En σ H ⟨g, Z, F, st, gd, h⟩ => ?_
      simp only [denS] at h
      exact h σ H (postS0 st gd)
    · cases h
theorem sSs : ∀ (s : ISs) {c : Ct} {X : Cx} {W : WX} {st : List Stmt}, WF c k lv X W → c.top = true → PassesOwn (model X.prog X.w) X.A X.env X.xe → mtSs c s st = true → PSs X st (rdS k W c.asg (denSs c.P.val (callD c.P lv) s))
  | .nil, c, X, W, st, w, ht, hp, h => by
    simp only [mtSs, List.isEmpty_iff] at h
    subst h
    refine PSs.weak pss_nil fun En σ H ⟨g, Z, F, st, gd, h⟩ => ?_
    simp only [denSs] at h
    exact h σ H (postS0 st gd)
  | .cons s r, c, X, W, st, w, ht, hp, h => by
    simp only [mtSs] at h
    split at h
    · cases h
    · simp only [Bool.and_eq_true] at h
      exact PSs.weak (pss_cons (sS s w ht hp h.1) (sSs r w ht hp h.2)) seq_w
  | .clr i r, c, X, W, st, w, ht, hp, h => by
    simp only [mtSs] at h
    refine PSs.weak (sSs r w ht hp h) fun En σ H ⟨g, Z, F, st, gd, h⟩ => ?_
    simp only [denSs] at h
    obtain ⟨F', st', le⟩ := st.clr i
    exact ⟨_, Z, F', st', gd.less le, Want.behind h ((Step.refl gd).less le) (fun _ _ => rfl) rfl⟩
end
end
end VS
end

section
set_option maxHeartbeats 1000000
/-! VS21: defs. -/
namespace VS
open PySem PySem.Spec PyProof.Rows L2
local macro_rules | `(tactic| walk_at "fp") => `(tactic| ((try dsimp only at *); omega))
/-- a def's text, its parameters, its slots -/
structure Src where
  st : Stmt
  ps : List Str
  N : List Str
abbrev ctOf (P : Prog) (blt : List Str) (fl : Nat → List Str) (s : Src) (d : Def) : Ct := { P := P, N := s.N, sc := defScope s.st, top := true, asg := d.asg, blt := blt, fl := fl, cf := fun _ => true }
def scB (N ps : List Str) (sc : Scope) : Bool := (match sc.kind with | .function => true | _ => false) && !sc.isCoroutine && !sc.isGenerator && decide N.Nodup && decide (N.take ps.length = ps) &&
  ps.all (fun x => decide (sc.names.lookup x = some .local) || decide (sc.names.lookup x = some .cell)) && sc.names.all (fun y => match y.2 with | .free => false | _ => true)
theorem scB_ok {N ps : List Str} {sc : Scope} (h : scB N ps sc = true) : FnScope N ps sc := by
  simp only [scB, Bool.and_eq_true, Bool.not_eq_true', decide_eq_true_eq, List.all_eq_true, Bool.or_eq_true] at h
  obtain ⟨⟨⟨⟨⟨⟨h1, h2⟩, h3⟩, h4⟩, h5⟩, h6⟩, h7⟩ := h
  refine ⟨?_, h2, h3, h4, h5, h6, fun y hy z => ?_⟩
  · cases e : sc.kind <;> rw [e] at h1 <;> first | rfl | cases h1
  · have := h7 y hy
    rw [z] at this
    cases this
def chkDef (P : Prog) (blt : List Str) (fl : Nat → List Str) (s : Src) (d : Def) : Bool := mtSs (ctOf P blt fl s d) d.body (defBody s.st) && decide (d.np = s.ps.length) && decide (d.ns = s.N.length) && scB s.N s.ps (defScope s.st)
section
variable {k : KX} {Z Z' : Zs} {H H' : Hp} {F F' F1 F2 : Fp} {σ σ' : L2.St} {g g' : Gm}
theorem str_vals : ∀ {ds : List D} {vs : List V} {F : Fp} (n : Nat), Reps k Z H ds vs F → StR k Z H (ds.map some ++ List.replicate n none) (vs.map some ++ List.replicate n none) F
  | [], vs, F, 0, h => by rw [reps_nil] at h; rw [h.1]; exact ⟨rfl, h.2⟩
  | [], vs, F, n + 1, h => by
    have := str_vals n h
    rw [reps_nil] at h
    obtain ⟨rfl, h2⟩ := h
    exact ⟨none, _, fp0, F, rfl, fun _ => rfl, this, fun a => by simp⟩
  | d :: ds, vs, F, n, h => by
    rw [reps_cons] at h
    obtain ⟨v, r, F1, F2, rfl, h1, h2, hF⟩ := h
    exact ⟨some v, _, F1, F2, rfl, ⟨v, rfl, h1⟩, str_vals n h2, hF⟩
theorem StR.take : ∀ (n : Nat) {g : Gm} {σ : L2.St} {F : Fp}, StR k Z H g σ F → ∃ F', StR k Z H (g.take n) (σ.take n) F' ∧ ∀ a, F' a ≤ F a
  | 0, g, σ, F, h => ⟨fp0, ⟨rfl, fun _ => rfl⟩, fun a => Nat.zero_le _⟩
  | n + 1, [], σ, F, h => by
    obtain ⟨rfl, h2⟩ := h
    exact ⟨fp0, ⟨rfl, fun _ => rfl⟩, fun a => Nat.zero_le _⟩
  | n + 1, s :: g, σ, F, ⟨o, r, F1, F2, e, h1, h2, hF⟩ => by
    subst e
    obtain ⟨F', h', le⟩ := StR.take n h2
    exact ⟨fun a => F1 a + F' a, ⟨o, r.take n, F1, F', rfl, h1, h', fun _ => rfl⟩, fun a => by rw [hF]; have := le a; walk_at "fp"⟩
theorem outs_ok {d : Def} {vs : List V} (st : StR k Z H g σ' F) (hn : vs.length = d.np) (hl : vs.length ≤ σ'.length) (h : ∀ i, i ∉ d.asg → i < vs.length → σ'[i]? = (vs.map some)[i]?) : ∃ F', StR k Z H (outs d g) (vs.map some) F' ∧ ∀ a, F' a ≤ F a := by
  obtain ⟨F1, st1, l1⟩ := StR.take d.np st
  obtain ⟨F2, st2, l2⟩ := st1.clrs d.asg
  refine ⟨F2, st2.chg (fun i x e => ?_) ?_, fun a => Nat.le_trans (l2 a) (l1 a)⟩
  · obtain ⟨h1, h2⟩ := clrs_get d.asg _ i x e
    have hi : i < d.np := by
      rcases Nat.lt_or_ge i d.np with z | z
      · exact z
      · rw [List.getElem?_eq_none (by rw [List.length_take]; omega)] at h2; cases h2
    rw [List.getElem?_take_of_lt hi]
    exact (h i h1 (by omega)).symm
  · rw [List.length_map, List.length_take]; omega
end
section
variable {P : Prog} {k : KX} {prog : Program} {w : World} {mg : Str → Option Value} {base : Heap} {blt : List Str}
/-- what the written part has of the defs -/
structure PrgOk (P : Prog) (k : KX) (mg : Str → Option Value) (blt : List Str) (src : Nat → Src) (fdOf : Nat → FuncData) : Prop where
  chk : ∀ f d, P.fn f = some d → chkDef P blt k.fl (src f) d = true
  fn : ∀ f d, P.fn f = some d → Fun k.K d.name d.name (src f).st (k.ad f) (fdOf f) ∧ mg d.name = some (.ref (k.ad f)) ∧ Binds k.K (fdOf f) (src f).ps []
  gl : ∀ n x d, P.gl n = some (x, d) → ∃ u v, mg x = some u ∧ RelV v u ∧ ∀ Z H, Rep k Z H d v fp0
  bl : ∀ x ∈ blt, mg x = none
theorem defs_ok {src : Nat → Src} {fdOf : Nat → FuncData} (T : PrgOk P k mg blt src fdOf) : ∀ (lv f : Nat) (d : Def), P.fn f = some d → FnOk prog w k.K mg base (L2.CX prog w) lv (k.ad f) (fdOf f) (src f).ps (spOf k P lv f)
  | 0, f, d, _ => by
    have no : ∀ vs H Q E, spOf k P 0 f vs H Q E → False := fun vs H Q E ⟨Z, ds, F, _, _, h⟩ => by
      simp only [callD] at h
    exact ⟨fun vs H Q E h => (no vs H Q E h).elim, fun A outer s H args us vs Q E _ _ _ _ h => (no vs H Q E h).elim⟩
  | lv + 1, f, d, hf => by
    obtain ⟨hF, hm, hb⟩ := T.fn f d hf
    have hc := T.chk f d hf
    simp only [chkDef, Bool.and_eq_true, decide_eq_true_eq] at hc
    obtain ⟨⟨⟨c1, c2⟩, c3⟩, c4⟩ := hc
    have S := scB_ok c4
    have npl : (src f).ps.length ≤ (src f).N.length := by have := congrArg List.length S.pre; rw [List.length_take] at this; omega
    have cd : ∀ ds, callD P (lv + 1) f ds = runD P.val (callD P lv) d ds := fun ds => by simp only [callD, hf]
    refine hF.okX S (fun vs H Q E ⟨Z, ds, F, gd, r, h⟩ => ?_) fun cdv A outer s H vs Q E hr ⟨Z, ds, F, gd, r, h⟩ => ?_
    · rw [cd] at h
      unfold runD at h
      by_cases hlen : ds.length = d.np
      · rw [← r.len, ← c2]; exact hlen
      · rw [if_neg hlen] at h; exact h.elim
    · rw [cd] at h
      unfold runD at h
      by_cases hlen : ds.length = d.np
      · rw [if_pos hlen] at h
        have wf : WF (ctOf P blt k.fl (src f) d) k lv (cxOf (L2.CX prog w) prog w k.K mg base (src f).N d.name (defScope (src f).st) (k.ad f) cdv A outer s H E) (fun cls dx _ H => E cls dx H) :=
          { N := rfl, nd := S.nd, sc := rfl, fn := fun _ _ => rfl, calm := rfl, room := hr, K := rfl, gl := T.gl, bl := T.bl,
            fns := fun f' d' hf' => by
              obtain ⟨hF', hm', hb'⟩ := T.fn f' d' hf'
              exact ⟨fdOf f', (src f').ps, defs_ok T lv f' d' hf', hm', hF'.kp, hb'⟩
            tk := takes_of rfl rfl rfl rfl, fl := rfl }
        refine ⟨_, sSs d.body wf rfl (passes_of rfl) c1, ?_⟩
        have lv1 : vs.length = d.np := by rw [← r.len]; exact hlen
        have hst : L2.start (src f).N vs = vs.map some ++ List.replicate (d.ns - d.np) none := by
          unfold L2.start; rw [lv1, c3]
        rw [hst]
        refine ⟨_, Z, F, str_vals (d.ns - d.np) r, gd, ?_⟩
        have back : ∀ {g' : Gm} {σ' : L2.St} {Z' : Zs} {H' : Hp} {F1 : Fp}, StR k Z' H' g' σ' F1 → (∀ i, i ∉ d.asg → σ'[i]? = (vs.map some ++ List.replicate (d.ns - d.np) none)[i]?) → σ'.length = (vs.map some ++ List.replicate (d.ns - d.np) (none : Option V)).length → ∃ F', StR k Z' H' (outs d g') (vs.map some) F' ∧ ∀ a, F' a ≤ F1 a := fun {g' σ' Z' H' F1} st ks ln => by
          refine outs_ok st lv1 (by rw [ln, List.length_append, List.length_map]; omega) fun i hi hl => ?_
          rw [ks i hi, List.getElem?_append_left (by rw [List.length_map]; exact hl)]
        match hr : denSs P.val (callD P lv) d.body (ds.map some ++ List.replicate (d.ns - d.np) none), h with
        | .stuck, h => exact h
        | .exc cl g', h =>
          exact fun σ' H' ⟨Z', F1, st, s, ks, ln⟩ => by
            obtain ⟨F', st', le⟩ := back st ks ln
            exact h H' Z' F' st' (s.less le)
        | .ok (.nx, g'), h =>
          exact fun σ' H' ⟨Z', F1, st, s, ks, ln⟩ => by
            obtain ⟨F', st', le⟩ := back st ks ln
            exact h .non H' Z' fp0 F' (by rw [Rep]; exact ⟨rfl, fun _ => rfl⟩) st' (s.less fun a => by have := le a; show 0 + F' a ≤ _; omega)
        | .ok (.rt x, g'), h =>
          exact fun v H' ⟨σ', Z', F1, F2, st, rx, s, ks, ln⟩ => by
            obtain ⟨F', st', le⟩ := back st ks ln
            exact h v H' Z' F2 F' rx st' (s.less fun a => by have := le a; walk_at "fp")
        | .ok (.bk, g'), h => exact h.elim
        | .ok (.ct, g'), h => exact h.elim
      · rw [if_neg hlen] at h; exact h.elim
end
/-- the law's def, by its meaning -/
def tracked (H : Hp) : Zs := fun a => ∃ o, H a = some o
def spLaw (K : PySem.W.Frag) : Sp := fun vs H Q _ => ∃ (a : Addr) (ns : List Int), vs = [.ref a] ∧ SqL K H a (ns.map V.int) ∧ ns.length ≤ 63 ∧ Only H ∧ ∀ H', Q (.bl true) H'
theorem law_sp {P : Prog} {k : KX} {lv f : Nat} (hlaw : ∀ ns : List Int, ns.length ≤ 63 → ∃ os, callD P lv f [.lst false (ns.map .int)] = .ok (.bl true, os)) : ∀ vs H Q E, spLaw k.K vs H Q E → spOf k P lv f vs H Q E := by
  rintro vs H Q E ⟨a, ns, rfl, hS, hl, hO, hQ⟩
  obtain ⟨os, e⟩ := hlaw ns hl
  have gd : Good (tracked H) H fp0 := ⟨fun _ => Nat.zero_le _, fun _ h => absurd h (by show ¬ 1 ≤ 0; omega), fun _ h => absurd h (by show ¬ 1 ≤ 0; omega), fun _ z => z⟩
  have rs : ∀ (ns : List Int), Reps k (tracked H) H (ns.map .int) (ns.map V.int) fp0 := fun ns => by
    induction ns with
    | nil => rw [List.map_nil, List.map_nil, reps_nil]; exact ⟨rfl, fun _ => rfl⟩
    | cons i r ih => rw [List.map_cons, List.map_cons, reps_cons]; exact ⟨.int i, _, fp0, fp0, rfl, rep_i, ih, fun _ => rfl⟩
  have fz : FzL k.K (tracked H) H a (ns.map V.int) := by
    rcases hS with h | h
    · refine .inl ⟨?_, h⟩
      rcases h with h | ⟨o, h⟩
      · exact ⟨_, h⟩
      · exact ⟨_, h⟩
    · exact .inr h
  refine ⟨tracked H, [.lst false (ns.map .int)], fp0, gd, ?_, ?_⟩
  · rw [reps_cons]
    refine ⟨.ref a, [], fp0, fp0, rfl, ?_, by rw [reps_nil]; exact ⟨rfl, fun _ => rfl⟩, fun _ => rfl⟩
    rw [rep_lst]
    exact ⟨a, ns.map V.int, fp0, rfl, .ofFz fz, rs ns, fun _ _ => rfl, fun b => rfl⟩
  · rw [e]
    intro v H' Z' F1 F2 r _ _
    rw [rep_bl r]
    exact hQ H'
/-- the law's end -/
theorem law_walk {LV : Nat} {l : PySem.W.OpenLaw} {q : Program} {loose : List Str} {XP : (Str → Option Value) → Heap → Prop} {YP : World → Heap → Prop} {d : DefRec} {K : Params → PySem.W.Frag} {x : Str} (hLV : Room LV callerA) (hn : l.most = some 63) (hdf : d.params.defaults = [])
    (hY : ∀ (w : World) (h : Heap), YP w h → (K w.params).In h)
    (F : ∀ (w : World) (mg : Str → Option Value) (fa : Addr) (h : Heap), (K w.params).In h → h.Ns mainGlobals mg → mg d.name = some (.ref fa) →
      ∃ fd : FuncData, (∀ (s : Shared) (u : Value), BindsTo s fd ⟨[u], []⟩ [(x, u)]) ∧ ∀ base : Heap, (K w.params).In base → base.Ns mainGlobals mg → FnOk l.prog w (K w.params) mg base (L2.CX l.prog w) LV fa fd [x] (spLaw (K w.params))) :
    PySem.W.WalkO q loose XP YP l.row.toRowW d [] (fun f vs => PySem.call f vs) :=
  L2.walk_of (n := 63) (k := LV) (x := x) (CX := fun w => L2.CX l.prog w) (sp := fun w => spLaw (K w.params)) hn (by decide) hdf hLV hY F (fun _ _ a ns hl hO hS => ⟨a, ns, rfl, hS, hl, hO, fun _ => rfl⟩) fun _ _ _ _ _ ⟨_, _, _, _, _, _, _, _, _, _, _, _, z⟩ => z
end VS
end

section
set_option maxHeartbeats 1000000
/-! VS22: plain facts on the own language's meanings: loops, tables of 0 and 1. -/
namespace VS
open PySem L2 VS
theorem addN (a b : Int) : opAdd (.int a) (.int b) = some (.int (a + b)) := rfl
abbrev pool (a b c : Int) : D := .lst true [.int a, .int b, .int c]
theorem opMul_l {a b : Int} (h1 : -(2 ^ 64) < a) (h2 : a < 2 ^ 64) : opMul a b = some (.int (a * b)) := if_pos (.inl ⟨h1, h2⟩)
/-! loops by what stays true -/
theorem forD_inv {t : TG1} {clr : List Nat} {body : Gm → R (Fl × Gm)} (I : Nat → Gm → Prop) : ∀ (ds : List D) (j : Nat) (g : Gm), I j g →
    (∀ i d g, ds[i]? = some d → I (j + i) g → ∃ g1 g2, setT t d g = some g1 ∧ body g1 = .ok (.nx, g2) ∧ I (j + i + 1) (clrs clr g2)) → ∃ g', forD t clr body ds g = .ok (.nx, g') ∧ I (j + ds.length) g'
  | [], j, g, h, _ => ⟨g, rfl, h⟩
  | d :: ds, j, g, h, st => by
    obtain ⟨g1, g2, e1, e2, h2⟩ := st 0 d g rfl h
    obtain ⟨g', e3, h3⟩ := forD_inv I ds (j + 1) (clrs clr g2) h2 fun i d g hi hI => by
      have := st (i + 1) d g (by simpa using hi) (by rw [show j + (i + 1) = j + 1 + i by omega]; exact hI)
      rw [show j + (i + 1) + 1 = j + 1 + i + 1 by omega] at this
      exact this
    refine ⟨g', ?_, by rw [List.length_cons, show j + (ds.length + 1) = j + 1 + ds.length by omega]; exact h3⟩
    simp only [forD, e1, opt_some, bind_ok, e2, aft_nx]
    exact e3
theorem lcD_inv {t : TG1} {own : List Nat} {cond : Gm → R (Bool × Gm)} {elt : Gm → R (D × Gm)} (I : Nat → List D → Gm → Prop) : ∀ (ds : List D) (j : Nat) (acc : List D) (g : Gm), I j acc g → acc.length + ds.length ≤ sizeLine → (∀ j acc g, I j acc g → acc.length ≤ j) → j + ds.length ≤ sizeLine →
    (∀ i d acc g, ds[i]? = some d → I (j + i) acc g → ∃ g1 g2 b, setT t d g = some g1 ∧ cond g1 = .ok (b, g2) ∧ (b = false → I (j + i + 1) acc (clrs own g2)) ∧ (b = true → ∃ x g3, elt g2 = .ok (x, g3) ∧ I (j + i + 1) (acc ++ [x]) (clrs own g3))) →
    ∃ acc' g', lcD t own cond elt acc ds g = .ok (acc', g') ∧ I (j + ds.length) acc' g'
  | [], j, acc, g, h, _, _, _, _ => ⟨acc, g, rfl, h⟩
  | d :: ds, j, acc, g, h, hz, hl, hj, st => by
    obtain ⟨g1, g2, b, e1, e2, h1, h2⟩ := st 0 d acc g rfl h
    have st' : ∀ i d acc g, ds[i]? = some d → I (j + 1 + i) acc g → ∃ g1 g2 b, setT t d g = some g1 ∧ cond g1 = .ok (b, g2) ∧ (b = false → I (j + 1 + i + 1) acc (clrs own g2)) ∧ (b = true → ∃ x g3, elt g2 = .ok (x, g3) ∧ I (j + 1 + i + 1) (acc ++ [x]) (clrs own g3)) := fun i d acc g hi hI => by
      have := st (i + 1) d acc g (by simpa using hi) (by rw [show j + (i + 1) = j + 1 + i by omega]; exact hI)
      rw [show j + (i + 1) + 1 = j + 1 + i + 1 by omega] at this
      exact this
    have hj' : j + 1 + ds.length ≤ sizeLine := by rw [List.length_cons] at hj; omega
    have al := hl _ _ _ h
    rw [List.length_cons] at hj
    cases b with
    | false =>
      have q := h1 rfl
      have al2 := hl _ _ _ q
      obtain ⟨acc', g', e3, h3⟩ := lcD_inv I ds (j + 1) acc _ q (by omega) hl hj' st'
      refine ⟨acc', g', ?_, by rw [List.length_cons, show j + (ds.length + 1) = j + 1 + ds.length by omega]; exact h3⟩
      simp only [lcD, e1, opt_some, bind_ok, e2, okOnly_ok]
      simpa using e3
    | true =>
      obtain ⟨x, g3, e4, q⟩ := h2 rfl
      have al2 := hl _ _ _ q
      obtain ⟨acc', g', e3, h3⟩ := lcD_inv I ds (j + 1) (acc ++ [x]) _ q (by omega) hl hj' st'
      refine ⟨acc', g', ?_, by rw [List.length_cons, show j + (ds.length + 1) = j + 1 + ds.length by omega]; exact h3⟩
      simp only [lcD, e1, opt_some, bind_ok, e2, okOnly_ok, e4, if_true]
      rw [if_pos (by omega)]
      exact e3
/-! small facts -/
theorem ixN_nat {n r : Nat} (h : r < n) : ixN n (r : Int) = some r := by
  unfold ixN
  rw [if_pos (by omega), if_pos (by omega)]
  simp
theorem rng1_ok {n : Nat} (h : n ≤ 1000) : rngD1 [.int (n : Int)] = some (rngs 0 n) := by
  unfold rngD1
  simp only
  rw [if_pos ⟨by omega, by omega⟩]
  simp
theorem rng2_ok {i n : Nat} (h : i + n ≤ 1000) : rngD2 [.int (i : Int), .int ((i : Int) + (n : Int))] = some (rngs i n) := by
  unfold rngD2
  simp only
  rw [if_pos ⟨by omega, by omega, by omega, by omega⟩]
  congr 2
  omega
theorem rng2_of {i j : Int} {a n : Nat} (hi : i = a) (hj : j = (a : Int) + n) (h : a + n ≤ 1000) : rngD2 [.int i, .int j] = some (rngs a n) := by
  subst hi; subst hj; exact rng2_ok h
theorem line_eq : sizeLine = 16777216 := sizeLine_eq
theorem noOwns_map {α : Type} {f : α → D} (h : ∀ x, noOwn (f x) = true) : ∀ l : List α, noOwns (l.map f) = true
  | [] => rfl
  | a :: r => by rw [List.map_cons, noOwns, h, noOwns_map h r]; rfl
def rowD (row : List Int) : D := .lst true (row.map .int)
def ownT (t : List (List Int)) : D := .lst true (t.map rowD)
def tupR (row : List Int) : D := .tup (row.map .int)
def tupT (t : List (List Int)) : D := .tup (t.map tupR)
structure Tab (R C : Nat) (t : List (List Int)) : Prop where
  len : t.length = R
  row : ∀ x ∈ t, x.length = C
  bit : ∀ x ∈ t, ∀ y ∈ x, y = 0 ∨ y = 1
theorem Tab.set {R C : Nat} {t : List (List Int)} (h : Tab R C t) {r : Nat} {row : List Int} (hl : row.length = C) (hb : ∀ y ∈ row, y = 0 ∨ y = 1) : Tab R C (t.set r row) := by
  refine ⟨by rw [List.length_set]; exact h.len, fun x hx => ?_, fun x hx => ?_⟩
  · rcases List.mem_or_eq_of_mem_set hx with z | z
    · exact h.row x z
    · rw [z]; exact hl
  · rcases List.mem_or_eq_of_mem_set hx with z | z
    · exact h.bit x z
    · rw [z]; exact hb
theorem Tab.get {R C : Nat} {t : List (List Int)} (h : Tab R C t) {r : Nat} (hr : r < R) : ∃ row, t[r]? = some row ∧ row.length = C ∧ ∀ y ∈ row, y = 0 ∨ y = 1 := by
  have hl : r < t.length := by rw [h.len]; exact hr
  exact ⟨t[r], List.getElem?_eq_getElem hl, h.row _ (List.getElem_mem hl), h.bit _ (List.getElem_mem hl)⟩
theorem set_bit {row : List Int} {c : Nat} {w : Int} (hb : ∀ y ∈ row, y = 0 ∨ y = 1) (hw : w = 0 ∨ w = 1) : ∀ y ∈ row.set c w, y = 0 ∨ y = 1 := fun y hy => by
  rcases List.mem_or_eq_of_mem_set hy with z | z
  · exact hb y z
  · rw [z]; exact hw
theorem ownT_get {t : List (List Int)} {r : Nat} {row : List Int} (h : t[r]? = some row) : (t.map rowD)[r]? = some (rowD row) := by rw [List.getElem?_map, h]; rfl
theorem ownT_set (t : List (List Int)) (r : Nat) (row : List Int) : (t.map rowD).set r (rowD row) = (t.set r row).map rowD := by rw [List.map_set]
theorem lt_of_get {α : Type} {l : List α} {i : Nat} {a : α} (h : l[i]? = some a) : i < l.length := (List.getElem?_eq_some_iff.mp h).1
theorem runD_rt {gl : Nat → Option D} {call : Call} {d : Def} {ds : List D} {g0 g : Gm} {x : D} (hl : ds.length = d.np) (h0 : ds.map some ++ List.replicate (d.ns - d.np) none = g0) (h : denSs gl call d.body g0 = .ok (.rt x, g)) : runD gl call d ds = .ok (x, outs d g) := by
  unfold runD
  rw [if_pos hl, h0, h]
theorem nat_of {i : Int} (h : 0 ≤ i) : ∃ n : Nat, i = n := Int.eq_ofNat_of_zero_le h
theorem tab_rep {R C : Nat} {w : Int} (hw : w = 0 ∨ w = 1) : Tab R C (List.replicate R (List.replicate C w)) :=
  ⟨by simp, fun x hx => by rw [List.eq_of_mem_replicate hx]; simp, fun x hx y hy => by rw [List.eq_of_mem_replicate hx] at hy; rw [List.eq_of_mem_replicate hy]; exact hw⟩
theorem flat1 {α : Type} (n : Nat) (x : α) : (List.replicate n [x]).flatten = List.replicate n x := by
  induction n with
  | zero => rfl
  | succ n ih => rw [List.replicate_succ, List.flatten_cons, ih]; rfl
theorem rep_mul {w : Int} {C : Nat} (hC : C ≤ 100) : opMulD (.lst true [.int w]) (.int C) = some (rowD (List.replicate C w)) := by
  unfold opMulD
  simp only
  have h : noOwns [.int w] = true ∧ (0 : Int) ≤ C ∧ (C : Int) < 2 ^ 63 ∧ ([D.int w]).length * (C : Int).toNat ≤ sizeLine := by
    refine ⟨rfl, by omega, by omega, ?_⟩
    rw [line_eq, Int.toNat_natCast, List.length_singleton]
    omega
  rw [if_pos h, Int.toNat_natCast, flat1]
  unfold rowD
  rw [List.map_replicate]
theorem pickL {l : List D} {x : D} {n : Nat} (h : l[n]? = some x) (hx : noOwn x = true) : opIx (.lst true l) (.int n) = some x := by
  unfold opIx
  simp only [itemsOf, ixN_nat (lt_of_get h), Option.bind_some, h, hx, if_true]
theorem eqI (x y : Int) : opEq false (.int x) (.int y) = some (.bl (x == y)) := by simp [opEq, plain, deq]
theorem neI (x y : Int) : opEq true (.int x) (.int y) = some (.bl (!(x == y))) := by simp [opEq, plain, deq]
def frR (row : List Int) : D := .lst false (row.map .int)
theorem frzs_ints : ∀ l : List Int, frzs (l.map .int) = l.map .int
  | [] => rfl
  | a :: r => by rw [List.map_cons, frzs, frzs_ints r]; rfl
theorem frzs_rows : ∀ t : List (List Int), frzs (t.map rowD) = t.map frR
  | [] => rfl
  | a :: r => by rw [List.map_cons, frzs, frzs_rows r]; unfold rowD frR; rw [frz, frzs_ints]; rfl
theorem frz_ownT (t : List (List Int)) : frz (ownT t) = .lst false (t.map frR) := by unfold ownT; rw [frz, frzs_rows]
theorem noOwns_ints (l : List Int) : noOwns (l.map .int) = true := noOwns_map (fun _ => rfl) l
theorem noOwn_frR (l : List Int) : noOwn (frR l) = true := by unfold frR; rw [noOwn, noOwns_ints]; rfl
theorem noOwn_tupR (l : List Int) : noOwn (tupR l) = true := by unfold tupR; rw [noOwn, noOwns_ints]
theorem tup_frR (row : List Int) : opTuple (frR row) = some (tupR row) := by
  unfold opTuple frR tupR
  simp only [itemsOf, Option.bind_some, noOwns_ints, if_true]
theorem tup_rows (t : List (List Int)) : opTuple (.lst true (t.map tupR)) = some (tupT t) := by
  unfold opTuple tupT
  simp only [itemsOf, Option.bind_some, noOwns_map noOwn_tupR, if_true]
/-- a cell, 0 outside -/
def cell (t : List (List Int)) (r c : Nat) : Int := ((t[r]?).bind fun row => row[c]?).getD 0
def atT (t : List (List Int)) (r c : Int) : Int := if 0 ≤ r ∧ 0 ≤ c then cell t r.toNat c.toNat else 0
theorem tupT_get {t : List (List Int)} {r : Nat} {row : List Int} (h : t[r]? = some row) : (t.map tupR)[r]? = some (tupR row) := by rw [List.getElem?_map, h]; rfl
theorem cell_out {R C : Nat} {t : List (List Int)} (T : Tab R C t) {r c : Nat} (h : R ≤ r ∨ C ≤ c) : cell t r c = 0 := by
  unfold cell
  rcases Nat.lt_or_ge r R with hr | hr
  · obtain ⟨row, h1, h2, _⟩ := T.get hr
    rw [h1, Option.bind_some, List.getElem?_eq_none (by omega)]; rfl
  · rw [List.getElem?_eq_none (by rw [T.len]; exact hr)]; rfl
theorem cell_in {R C : Nat} {t : List (List Int)} (T : Tab R C t) {r c : Nat} (hr : r < R) (hc : c < C) : ∃ row y, t[r]? = some row ∧ row.length = C ∧ row[c]? = some y ∧ cell t r c = y ∧ (y = 0 ∨ y = 1) := by
  obtain ⟨row, h1, h2, h3⟩ := T.get hr
  have hl : c < row.length := by omega
  exact ⟨row, row[c], h1, h2, List.getElem?_eq_getElem hl, by unfold cell; rw [h1, Option.bind_some, List.getElem?_eq_getElem hl]; rfl, h3 _ (List.getElem_mem hl)⟩
section
variable {R C : Nat} {t : List (List Int)}
theorem lenT (T : Tab R C t) : opLen (tupT t) = some (.int R) := by unfold opLen tupT; simp [itemsOf, T.len]
theorem row0 (T : Tab R C t) (hR : 0 < R) : ∃ row, t[0]? = some row ∧ row.length = C := by
  obtain ⟨row, h1, h2, _⟩ := T.get hR
  exact ⟨row, h1, h2⟩
theorem getPl_slot (i : Nat) (g : Gm) : getPl (.slot i) g = getS g i := by rw [getPl]
/-- places of the table in slot 0 -/
theorem pl0 (T : Tab R C t) (hR : 0 < R) (g : Gm) : ∃ row, row.length = C ∧ getPl (.ix (.slot 0) (.num 0)) (some (tupT t) :: g) = some (tupR row) := by
  obtain ⟨row, h1, h2⟩ := row0 T hR
  refine ⟨row, h2, ?_⟩
  have i0 : ixN t.length 0 = some 0 := ixN_nat (n := t.length) (r := 0) (lt_of_get h1)
  simp [getPl, getS, evS, tupT, i0, tupT_get h1, h1]
theorem plrc (T : Tab R C t) {r c : Nat} (hr : r < R) (hc : c < C) {i j : Nat} (g : Gm) (hi : getS g i = some (.int r)) (hj : getS g j = some (.int c)) (h0 : getS g 0 = some (tupT t)) : getPl (.ix (.ix (.slot 0) (.var i)) (.var j)) g = some (.int (cell t r c)) := by
  obtain ⟨row, y, h1, h2, h3, h4, _⟩ := cell_in T hr hc
  have i1 : ixN t.length (r : Int) = some r := ixN_nat (lt_of_get h1)
  have i2 : ixN row.length (c : Int) = some c := ixN_nat (lt_of_get h3)
  have e1 : getPl (.ix (.slot 0) (.var i)) g = some (tupR row) := by
    unfold getPl
    rw [show getPl (.slot 0) g = some (.tup (t.map tupR)) from h0, show evS (.var i) g = some (r : Int) by unfold evS; rw [hi]]
    simp only [List.length_map, i1, Option.bind_some, tupT_get h1]
  unfold getPl
  rw [e1, show evS (.var j) g = some (c : Int) by unfold evS; rw [hj]]
  unfold tupR
  simp only [List.length_map, i2, Option.bind_some, List.getElem?_map, h3, h4, Option.map_some]
theorem lenR {row : List Int} (h : row.length = C) : opLen (tupR row) = some (.int C) := by unfold opLen tupR; simp [itemsOf, h]
end
theorem plains_of {n : Nat} : ∀ {ds : List D}, (∀ d ∈ ds, plain d n = true) → plains ds n = true
  | [], _ => by rw [plains]
  | d :: ds, h => by rw [plains, h d (by simp), plains_of fun x hx => h x (by simp [hx])]; rfl
theorem deqs_of : ∀ {ds : List D}, (∀ d ∈ ds, deq d d = true) → deqs ds ds = true
  | [], _ => by rw [deqs]
  | d :: ds, h => by
    have h1 := h d (by simp)
    have h2 := deqs_of (ds := ds) fun x hx => h x (List.mem_cons_of_mem _ hx)
    rw [deqs]
    simp only [h1, h2, Bool.and_self]
theorem lenL (o : Bool) (ds : List D) : opLen (.lst o ds) = some (.int ds.length) := rfl
/-! loops by the state at each turn -/
theorem forD_seq {t : TG1} {clr : List Nat} {body : Gm → R (Fl × Gm)} : ∀ (ds : List D) (S : Nat → Gm),
    (∀ i d, ds[i]? = some d → ∃ g1 g2, setT t d (S i) = some g1 ∧ body g1 = .ok (.nx, g2) ∧ clrs clr g2 = S (i + 1)) → forD t clr body ds (S 0) = .ok (.nx, S ds.length)
  | [], S, _ => rfl
  | d :: ds, S, st => by
    obtain ⟨g1, g2, e1, e2, e3⟩ := st 0 d rfl
    have ih := forD_seq ds (fun i => S (i + 1)) fun i d h => st (i + 1) d (by simpa using h)
    simp only [forD, e1, opt_some, bind_ok, e2, aft_nx]
    rw [e3]
    exact ih
/-- by a step of a state -/
theorem forD_fold {t : TG1} {clr : List Nat} {body : Gm → R (Fl × Gm)} {α σ : Type} (enc : α → D) (G : σ → Gm) (step : σ → α → σ) (P : σ → Prop) : ∀ (xs : List α) (s : σ), P s →
    (∀ x ∈ xs, ∀ s, P s → P (step s x) ∧ ∃ g1 g2, setT t (enc x) (G s) = some g1 ∧ body g1 = .ok (.nx, g2) ∧ clrs clr g2 = G (step s x)) → forD t clr body (xs.map enc) (G s) = .ok (.nx, G (xs.foldl step s)) ∧ P (xs.foldl step s)
  | [], s, hp, _ => ⟨rfl, hp⟩
  | x :: xs, s, hp, st => by
    obtain ⟨hp', g1, g2, e1, e2, e3⟩ := st x (by simp) s hp
    obtain ⟨ih, q⟩ := forD_fold enc G step P xs (step s x) hp' fun y hy => st y (by simp [hy])
    refine ⟨?_, q⟩
    simp only [List.map_cons, forD, e1, opt_some, bind_ok, e2, aft_nx]
    rw [e3]
    exact ih
/-- a loop that returns at the first one that has an answer -/
theorem forD_find {t : TG1} {clr : List Nat} {body : Gm → R (Fl × Gm)} {α : Type} (enc : α → D) (g0 : Gm) (f : α → Option D) (Q : Gm → Prop) : ∀ (xs : List α),
    (∀ x ∈ xs, ∃ g1 g2, setT t (enc x) g0 = some g1 ∧ match f x with
      | none => body g1 = .ok (.nx, g2) ∧ clrs clr g2 = g0
      | some d => body g1 = .ok (.rt d, g2) ∧ Q g2) → match xs.findSome? f with
      | none => forD t clr body (xs.map enc) g0 = .ok (.nx, g0)
      | some d => ∃ g2, forD t clr body (xs.map enc) g0 = .ok (.rt d, g2) ∧ Q g2
  | [], _ => rfl
  | x :: xs, st => by
    obtain ⟨g1, g2, e1, e2⟩ := st x (by simp)
    have ih := forD_find enc g0 f Q xs fun y hy => st y (by simp [hy])
    rw [List.findSome?_cons]
    cases hf : f x with
    | none =>
      rw [hf] at e2
      obtain ⟨e2, e3⟩ := e2
      simp only [List.map_cons, forD, e1, opt_some, bind_ok, e2, aft_nx, e3]
      exact ih
    | some d =>
      rw [hf] at e2
      dsimp only at e2
      obtain ⟨e2, q⟩ := e2
      refine ⟨g2, ?_, q⟩
      simp only [List.map_cons, forD, e1, opt_some, bind_ok, e2, aft_rt]
/-- a comprehension whose parts leave all as it was -/
theorem lcD_pure {t : TG1} {own : List Nat} {cond : Gm → R (Bool × Gm)} {elt : Gm → R (D × Gm)} {α : Type} (enc : α → D) (p : α → Bool) (f : α → D) (g0 : Gm) : ∀ (xs : List α) (acc : List D),
    acc.length + xs.length ≤ sizeLine →
    (∀ x ∈ xs, ∃ g1, setT t (enc x) g0 = some g1 ∧ cond g1 = .ok (p x, g1) ∧ (p x = true → elt g1 = .ok (f x, g1)) ∧ clrs own g1 = g0) →
    lcD t own cond elt acc (xs.map enc) g0 = .ok (acc ++ (xs.filter p).map f, g0)
  | [], acc, _, _ => by simp [lcD]
  | x :: xs, acc, hl, st => by
    obtain ⟨g1, e1, e2, e3, e4⟩ := st x (by simp)
    rw [List.length_cons] at hl
    cases hp : p x with
    | false =>
      have ih := lcD_pure enc p f g0 xs acc (by omega) fun y hy => st y (by simp [hy])
      rw [hp] at e2
      simp only [List.map_cons, lcD, e1, opt_some, bind_ok, e2, okOnly_ok, Bool.false_eq_true, if_false, e4]
      rw [ih, List.filter_cons_of_neg (by rw [hp]; simp)]
    | true =>
      have ih := lcD_pure enc p f g0 xs (acc ++ [f x]) (by rw [List.length_append, List.length_singleton]; omega) fun y hy => st y (by simp [hy])
      rw [hp] at e2
      simp only [List.map_cons, lcD, e1, opt_some, bind_ok, e2, okOnly_ok, if_true, e3 hp, e4]
      rw [if_pos (by omega), ih, List.filter_cons_of_pos hp, List.map_cons, List.append_assoc]
      rfl
theorem whlD_seq {c : Gm → R (D × Gm)} {clr : List Nat} {body : Gm → R (Fl × Gm)} : ∀ (n N : Nat) (S : Nat → Gm), n < N →
    (∀ i, i < n → c (S i) = .ok (.bl true, S i) ∧ ∃ g2, body (S i) = .ok (.nx, g2) ∧ clrs clr g2 = S (i + 1)) → c (S n) = .ok (.bl false, S n) → whlD c clr body N (S 0) = .ok (.nx, S n)
  | 0, N + 1, S, _, _, h => by simp only [whlD, h, bind_ok, onBl_bl]; rfl
  | n + 1, N + 1, S, hN, st, h => by
    obtain ⟨e1, g2, e2, e3⟩ := st 0 (by omega)
    have ih := whlD_seq n N (fun i => S (i + 1)) (by omega) (fun i hi => st (i + 1) (by omega)) h
    simp only [whlD, e1, bind_ok, onBl_bl, if_true, e2, aft_nx]
    rw [e3]
    exact ih
theorem rngs_map (a : Int) : ∀ n : Nat, rngs a n = (List.range n).map fun i : Nat => .int (a + i)
  | 0 => rfl
  | n + 1 => by
    rw [rngs, rngs_map (a + 1) n, List.range_succ_eq_map, List.map_cons, List.map_map]
    have h0 : (D.int a) = .int (a + ((0 : Nat) : Int)) := by simp
    rw [← h0]
    congr 1
    apply List.map_congr_left
    intro i _
    show D.int (a + 1 + (i : Int)) = .int (a + ((i + 1 : Nat) : Int))
    congr 1
    omega
theorem rngs_nat (n : Nat) : rngs 0 n = (List.range n).map fun i : Nat => .int i := by
  rw [rngs_map]
  apply List.map_congr_left
  intro i _
  rw [Int.zero_add]
theorem rngs_nat2 (a n : Nat) : rngs a n = (List.range' a n).map fun i : Nat => .int i := by
  rw [rngs_map, List.range'_eq_map_range, List.map_map]
  apply List.map_congr_left
  intro i _
  show D.int ((a : Int) + i) = .int ((a + i : Nat) : Int)
  congr 1
theorem rng2_nat {i j : Int} {a b : Nat} (hi : i = a) (hj : j = b) (hb : b ≤ 1000) (ha : a ≤ 1000) : rngD2 [.int i, .int j] = some ((List.range' a (b - a)).map fun i : Nat => .int i) := by
  subst hi; subst hj
  unfold rngD2
  simp only
  rw [if_pos ⟨by omega, by omega, by omega, by omega⟩, show ((b : Int) - a).toNat = b - a by omega, rngs_nat2]
theorem rng1_nat {j : Int} {n : Nat} (hj : j = n) (h : n ≤ 1000) : rngD1 [.int j] = some ((List.range n).map fun i : Nat => .int i) := by
  subst hj
  rw [rng1_ok h, rngs_nat]
end VS
end

section
set_option maxHeartbeats 1000000
/-! VS23: boxes of a table: all, full ones, rising; heights; sums. No program in sight. -/
namespace VS
open PySem L2 VS
/-! ### sorted -/
theorem sksD_map {α : Type} {enc : α → D} {sk : α → SK} (h1 : ∀ x, skD (enc x) = some (sk x)) : ∀ xs : List α, sksD (xs.map enc) = some (xs.map sk)
  | [] => rfl
  | x :: xs => by simp only [List.map_cons, sksD, h1, sksD_map h1 xs]
theorem sort_eq {xs ys : List SK} (p : xs.Perm ys) (pw : ys.Pairwise fun x y => x.le y = true) : xs.mergeSort SK.le = ys :=
  List.Perm.eq_of_pairwise (le := fun a b => SK.le a b = true) (fun a b _ _ h1 h2 => sk_antisymm h1 h2) (List.pairwise_mergeSort sk_trans sk_total xs) pw ((List.mergeSort_perm xs SK.le).trans p)
theorem kinB_map {α : Type} {sk : α → SK} (hk : ∀ x y, (sk x).kin (sk y) = true) : ∀ xs : List α, kinB (xs.map sk) = true
  | [] => rfl
  | x :: xs => by simp only [List.map_cons, kinB, List.all_map, List.all_eq_true]; intro y _; exact hk x y
theorem sorted_perm {α : Type} {enc : α → D} {sk : α → SK} (h1 : ∀ x, skD (enc x) = some (sk x)) (h2 : ∀ x, dSK (sk x) = enc x) (hk : ∀ x y, (sk x).kin (sk y) = true) {o : Bool} {xs ys : List α} (p : xs.Perm ys)
    (pw : ys.Pairwise fun x y => (sk x).le (sk y) = true) : opSorted (.lst o (xs.map enc)) = some (.lst true (ys.map enc)) := by
  unfold opSorted
  simp only [sksD_map h1, Option.bind_some, kinB_map hk, if_true]
  rw [sort_eq (p.map sk) (List.pairwise_map.mpr pw), List.map_map]
  congr 2
  exact List.map_congr_left fun x _ => h2 x
/-! ### boxes -/
abbrev Bx := Nat × Nat × Nat × Nat
def boxD (x : Bx) : D := .tup [.int x.1, .int x.2.1, .int x.2.2.1, .int x.2.2.2]
def skB (x : Bx) : SK := .r x.1 [(x.2.1 : Int), (x.2.2.1 : Int), (x.2.2.2 : Int)]
def ltB (x y : Bx) : Prop := x.1 < y.1 ∨ (x.1 = y.1 ∧ (x.2.1 < y.2.1 ∨ (x.2.1 = y.2.1 ∧ (x.2.2.1 < y.2.2.1 ∨ (x.2.2.1 = y.2.2.1 ∧ x.2.2.2 < y.2.2.2)))))
theorem skB_d (x : Bx) : skD (boxD x) = some (skB x) := by simp [skD, boxD, skB, intsD]
theorem dskB (x : Bx) : dSK (skB x) = boxD x := by simp [dSK, skB, boxD]
theorem ltB_ne {x y : Bx} (h : ltB x y) : x ≠ y := by
  rintro rfl
  unfold ltB at h
  omega
theorem cons_le_of {x y : Int} {xs ys : List Int} (h : x < y ∨ (x = y ∧ xs ≤ ys)) : x :: xs ≤ y :: ys := by
  rw [List.cons_le_cons_iff]; exact h
theorem ltB_le {x y : Bx} (h : ltB x y) : (skB x).le (skB y) = true := by
  unfold ltB at h
  unfold skB SK.le
  rw [decide_eq_true_eq]
  refine cons_le_of ?_
  rcases h with h | ⟨h, h'⟩
  · left; omega
  right
  refine ⟨by omega, cons_le_of ?_⟩
  rcases h' with h | ⟨h, h'⟩
  · left; omega
  right
  refine ⟨by omega, cons_le_of ?_⟩
  rcases h' with h | ⟨h, h'⟩
  · left; omega
  right
  refine ⟨by omega, cons_le_of ?_⟩
  left; omega
def allBx (R C : Nat) : List Bx := (List.range R).flatMap fun a => (List.range C).flatMap fun l => (List.range' (a + 1) (R - a)).flatMap fun b => (List.range' (l + 1) (C - l)).map fun r => (a, l, b, r)
theorem mem_allBx {R C : Nat} {x : Bx} : x ∈ allBx R C ↔ x.1 < x.2.2.1 ∧ x.2.2.1 ≤ R ∧ x.2.1 < x.2.2.2 ∧ x.2.2.2 ≤ C := by
  obtain ⟨a, l, b, r⟩ := x
  simp only [allBx, List.mem_flatMap, List.mem_range, List.mem_map, List.mem_range'_1, Prod.mk.injEq]
  constructor
  · rintro ⟨a', ha, l', hl, b', hb, r', hr, rfl, rfl, rfl, rfl⟩
    omega
  · rintro ⟨h1, h2, h3, h4⟩
    exact ⟨a, by omega, l, by omega, b, by omega, r, by omega, rfl, rfl, rfl, rfl⟩
theorem range_lt (n : Nat) : (List.range n).Pairwise (· < ·) := List.pairwise_lt_range
theorem range'_lt (a n : Nat) : (List.range' a n).Pairwise (· < ·) := List.pairwise_lt_range'
theorem allBx_lt (R C : Nat) : (allBx R C).Pairwise ltB := by
  unfold allBx
  rw [List.pairwise_flatMap]
  refine ⟨fun a _ => ?_, (range_lt R).imp fun {a a'} h x hx y hy => ?_⟩
  · rw [List.pairwise_flatMap]
    refine ⟨fun l _ => ?_, (range_lt C).imp fun {l l'} h x hx y hy => ?_⟩
    · rw [List.pairwise_flatMap]
      refine ⟨fun b _ => ?_, (range'_lt _ _).imp fun {b b'} h x hx y hy => ?_⟩
      · rw [List.pairwise_map]
        exact (range'_lt _ _).imp fun h => .inr ⟨rfl, .inr ⟨rfl, .inr ⟨rfl, h⟩⟩⟩
      · obtain ⟨r, _, rfl⟩ := List.mem_map.mp hx
        obtain ⟨r', _, rfl⟩ := List.mem_map.mp hy
        exact .inr ⟨rfl, .inr ⟨rfl, .inl h⟩⟩
    · obtain ⟨b, _, hx⟩ := List.mem_flatMap.mp hx
      obtain ⟨r, _, rfl⟩ := List.mem_map.mp hx
      obtain ⟨b', _, hy⟩ := List.mem_flatMap.mp hy
      obtain ⟨r', _, rfl⟩ := List.mem_map.mp hy
      exact .inr ⟨rfl, .inl h⟩
  · obtain ⟨l, _, hx⟩ := List.mem_flatMap.mp hx
    obtain ⟨b, _, hx⟩ := List.mem_flatMap.mp hx
    obtain ⟨r, _, rfl⟩ := List.mem_map.mp hx
    obtain ⟨l', _, hy⟩ := List.mem_flatMap.mp hy
    obtain ⟨b', _, hy⟩ := List.mem_flatMap.mp hy
    obtain ⟨r', _, rfl⟩ := List.mem_map.mp hy
    exact .inl h
theorem flatMap_len {α β : Type} {f : α → List β} {m : Nat} : ∀ {l : List α}, (∀ x ∈ l, (f x).length ≤ m) → (l.flatMap f).length ≤ l.length * m
  | [], _ => by simp
  | x :: l, h => by
    have h1 := h x (by simp)
    have h2 := flatMap_len (l := l) fun y hy => h y (by simp [hy])
    rw [List.flatMap_cons, List.length_append, List.length_cons, Nat.add_mul]
    omega
theorem allBx_len {R C : Nat} (hR : R ≤ 10) (hC : C ≤ 10) : (allBx R C).length ≤ 10000 := by
  have h1 : ∀ a l b, ((List.range' (l + 1) (C - l)).map fun r => ((a, l, b, r) : Bx)).length ≤ 10 := fun a l b => by rw [List.length_map, List.length_range']; omega
  have h2 : ∀ a l, ((List.range' (a + 1) (R - a)).flatMap fun b => (List.range' (l + 1) (C - l)).map fun r => ((a, l, b, r) : Bx)).length ≤ 100 := fun a l => by
    have := flatMap_len (m := 10) (l := List.range' (a + 1) (R - a)) (f := fun b => (List.range' (l + 1) (C - l)).map fun r => ((a, l, b, r) : Bx)) fun b _ => h1 a l b
    rw [List.length_range'] at this
    have : (R - a) * 10 ≤ 10 * 10 := Nat.mul_le_mul (by omega) (by omega)
    omega
  have h3 : ∀ a, ((List.range C).flatMap fun l => (List.range' (a + 1) (R - a)).flatMap fun b => (List.range' (l + 1) (C - l)).map fun r => ((a, l, b, r) : Bx)).length ≤ 1000 := fun a => by
    have := flatMap_len (m := 100) (l := List.range C) (f := fun l => (List.range' (a + 1) (R - a)).flatMap fun b => (List.range' (l + 1) (C - l)).map fun r => ((a, l, b, r) : Bx)) fun l _ => h2 a l
    rw [List.length_range] at this
    have : C * 100 ≤ 10 * 100 := Nat.mul_le_mul (by omega) (by omega)
    omega
  have := flatMap_len (m := 1000) (l := List.range R) (f := fun a => (List.range C).flatMap fun l => (List.range' (a + 1) (R - a)).flatMap fun b => (List.range' (l + 1) (C - l)).map fun r => ((a, l, b, r) : Bx)) fun a _ => h3 a
  rw [List.length_range] at this
  have : R * 1000 ≤ 10 * 1000 := Nat.mul_le_mul (by omega) (by omega)
  unfold allBx
  omega
/-! ### full -/
def isFull (t : List (List Int)) (x : Bx) : Bool := (List.range' x.1 (x.2.2.1 - x.1)).all fun i => (List.range' x.2.1 (x.2.2.2 - x.2.1)).all fun j => cell t i j == 1
theorem isFull_iff {t : List (List Int)} {a l b r : Nat} : isFull t (a, l, b, r) = true ↔ ∀ i, a ≤ i → i < b → ∀ j, l ≤ j → j < r → cell t i j = 1 := by
  simp only [isFull, List.all_eq_true, List.mem_range'_1, beq_iff_eq]
  constructor
  · intro h i h1 h2 j h3 h4
    exact h i (by omega) j (by omega)
  · intro h i hi j hj
    exact h i (by omega) (by omega) j (by omega) (by omega)
def fullBx (t : List (List Int)) (R C : Nat) : List Bx := (allBx R C).filter (isFull t)
theorem fullBx_lt (t : List (List Int)) (R C : Nat) : (fullBx t R C).Pairwise ltB := (allBx_lt R C).filter _
theorem mem_fullBx {t : List (List Int)} {R C : Nat} {a l b r : Nat} : (a, l, b, r) ∈ fullBx t R C ↔ (a < b ∧ b ≤ R ∧ l < r ∧ r ≤ C) ∧ ∀ i, a ≤ i → i < b → ∀ j, l ≤ j → j < r → cell t i j = 1 := by
  unfold fullBx
  rw [List.mem_filter, mem_allBx, isFull_iff]
theorem sorted_bx {o : Bool} {xs ys : List Bx} (nd : xs.Nodup) (pw : ys.Pairwise ltB) (mem : ∀ x, x ∈ xs ↔ x ∈ ys) : opSorted (.lst o (xs.map boxD)) = some (.lst true (ys.map boxD)) :=
  sorted_perm skB_d dskB (fun _ _ => rfl) ((List.perm_ext_iff_of_nodup nd (pw.imp fun h => ltB_ne h)).mpr mem) (pw.imp fun h => ltB_le h)
/-! ### heights -/
/-- how many yes cells stand on one another above row n -/
def hgt (t : List (List Int)) (c : Nat) : Nat → Nat
  | 0 => 0
  | n + 1 => if cell t n c = 1 then hgt t c n + 1 else 0
theorem hgt_le (t : List (List Int)) (c : Nat) : ∀ n, hgt t c n ≤ n
  | 0 => Nat.le_refl _
  | n + 1 => by
    have := hgt_le t c n
    unfold hgt
    split <;> omega
theorem hgt_iff (t : List (List Int)) (c : Nat) : ∀ {n a : Nat}, a ≤ n → ((∀ i, a ≤ i → i < n → cell t i c = 1) ↔ n - hgt t c n ≤ a)
  | 0, a, h => by
    constructor
    · intro _; omega
    · intro _ i h1 h2; omega
  | n + 1, a, h => by
    have hl := hgt_le t c n
    unfold hgt
    by_cases h1 : cell t n c = 1
    · rw [if_pos h1]
      rcases Nat.lt_or_ge n a with h2 | h2
      · constructor
        · intro _; omega
        · intro _ i h3 h4; omega
      · have ih := hgt_iff t c h2
        constructor
        · intro q
          have := ih.mp fun i h3 h4 => q i h3 (by omega)
          omega
        · intro q i h3 h4
          rcases Nat.lt_or_ge i n with h5 | h5
          · exact ih.mpr (by omega) i h3 h5
          · have : i = n := by omega
            subst this; exact h1
    · rw [if_neg h1]
      constructor
      · intro q
        rcases Nat.lt_or_ge n a with h2 | h2
        · omega
        · exact absurd (q n h2 (by omega)) h1
      · intro q i h3 h4; omega
/-- within the height all cells are yes; beside it none -/
theorem hgt_in {t : List (List Int)} {c n i : Nat} (h : i < hgt t c n) : cell t (n - 1 - i) c = 1 := by
  have hl := hgt_le t c n
  exact (hgt_iff t c (n := n) (a := n - hgt t c n) (by omega)).mpr (by omega) (n - 1 - i) (by omega) (by omega)
theorem hgt_out {t : List (List Int)} {c n : Nat} (h : hgt t c n < n) : cell t (n - 1 - hgt t c n) c ≠ 1 := fun q => by
  have hl := hgt_le t c n
  have := (hgt_iff t c (n := n) (a := n - 1 - hgt t c n) (by omega)).mp fun i h1 h2 => by
    rcases Nat.lt_or_ge (n - 1 - hgt t c n) i with h3 | h3
    · have := hgt_in (t := t) (c := c) (n := n) (i := n - 1 - i) (by omega)
      rwa [show n - 1 - (n - 1 - i) = i by omega] at this
    · have : i = n - 1 - hgt t c n := by omega
      subst this; exact q
  omega
/-- the least height of so many columns from one on -/
def lea (t : List (List Int)) (n l : Nat) : Nat → Nat
  | 0 => hgt t l n
  | i + 1 => min (lea t n l i) (hgt t (l + i) n)
theorem lea_le (t : List (List Int)) (n l : Nat) : ∀ i, lea t n l i ≤ n
  | 0 => hgt_le t l n
  | i + 1 => by have := lea_le t n l i; unfold lea; omega
theorem lea_iff (t : List (List Int)) (n l : Nat) {a : Nat} (ha : a ≤ n) : ∀ i, (n - lea t n l (i + 1) ≤ a ↔ ∀ j, l ≤ j → j < l + i + 1 → n - hgt t j n ≤ a)
  | 0 => by
    simp only [lea, Nat.add_zero, Nat.min_self]
    constructor
    · intro h j h1 h2
      have : j = l := by omega
      subst this; exact h
    · intro h; exact h l (by omega) (by omega)
  | i + 1 => by
    have ih := lea_iff t n l ha i
    have e : lea t n l (i + 1 + 1) = min (lea t n l (i + 1)) (hgt t (l + (i + 1)) n) := rfl
    rw [e]
    have h1 := hgt_le t (l + (i + 1)) n
    have h2 := lea_le t n l (i + 1)
    constructor
    · intro h j h3 h4
      rcases Nat.lt_or_ge j (l + i + 1) with h5 | h5
      · exact ih.mp (by omega) j h3 h5
      · have : j = l + (i + 1) := by omega
        subst this; omega
    · intro h
      have := ih.mpr fun j h3 h4 => h j h3 (by omega)
      have := h (l + (i + 1)) (by omega) (by omega)
      omega
/-- a box is full just where its first row isn't above the least height -/
theorem full_lea {t : List (List Int)} {a l b i : Nat} (ha : a ≤ b) : (∀ r, a ≤ r → r < b → ∀ j, l ≤ j → j < l + i + 1 → cell t r j = 1) ↔ b - lea t b l (i + 1) ≤ a := by
  rw [lea_iff t b l ha i]
  constructor
  · intro h j h1 h2
    exact (hgt_iff t j ha).mp fun r h3 h4 => h r h3 h4 j h1 h2
  · intro h r h3 h4 j h1 h2
    exact (hgt_iff t j ha).mpr (h j h1 h2) r h3 h4
def tallR (t : List (List Int)) (n l j : Nat) : List Bx := if 0 < lea t n l (j + 1) then [(n - lea t n l (j + 1), l, n, l + j + 1)] else []
def tallL (t : List (List Int)) (n C : Nat) : List Bx := (List.range C).flatMap fun l => (List.range (C - l)).flatMap fun j => tallR t n l j
def topsL (x : Bx) : List Bx := (List.range' x.1 (x.2.2.1 - x.1)).map fun a => (a, x.2.1, x.2.2.1, x.2.2.2)
def foundL (t : List (List Int)) (R C : Nat) : List Bx := (List.range R).flatMap fun row => (tallL t (row + 1) C).flatMap topsL
theorem mem_tallL {t : List (List Int)} {n C : Nat} {x : Bx} : x ∈ tallL t n C ↔ ∃ l j, l < C ∧ j < C - l ∧ 0 < lea t n l (j + 1) ∧ x = (n - lea t n l (j + 1), l, n, l + j + 1) := by
  simp only [tallL, List.mem_flatMap, List.mem_range]
  constructor
  · rintro ⟨l, hl, j, hj, hx⟩
    unfold tallR at hx
    split at hx
    · rename_i h
      rw [List.mem_singleton] at hx
      exact ⟨l, j, hl, hj, h, hx⟩
    · cases hx
  · rintro ⟨l, j, hl, hj, h, rfl⟩
    refine ⟨l, hl, j, hj, ?_⟩
    unfold tallR
    rw [if_pos h]; simp
theorem mem_foundL {t : List (List Int)} {R C : Nat} {x : Bx} : x ∈ foundL t R C ↔ x ∈ fullBx t R C := by
  obtain ⟨a, l, b, r⟩ := x
  rw [mem_fullBx]
  simp only [foundL, List.mem_flatMap, List.mem_range, mem_tallL]
  constructor
  · rintro ⟨row, hrow, y, ⟨l', j, hl, hj, h, rfl⟩, hx⟩
    simp only [topsL, List.mem_map, List.mem_range'_1, Prod.mk.injEq] at hx
    obtain ⟨a', ha, rfl, rfl, rfl, rfl⟩ := hx
    have hle := lea_le t (row + 1) l' (j + 1)
    have hd : row + 1 - lea t (row + 1) l' (j + 1) ≤ a' ∧ a' < row + 1 := by omega
    exact ⟨by omega, (full_lea (by omega)).mpr hd.1⟩
  · rintro ⟨⟨h1, h2, h3, h4⟩, hf⟩
    obtain ⟨j, rfl⟩ : ∃ j, r = l + j + 1 := ⟨r - l - 1, by omega⟩
    obtain ⟨row, rfl⟩ : ∃ row, b = row + 1 := ⟨b - 1, by omega⟩
    have q := (full_lea (t := t) (l := l) (i := j) (show a ≤ row + 1 by omega)).mp hf
    have hle := lea_le t (row + 1) l (j + 1)
    refine ⟨row, by omega, _, ⟨l, j, by omega, by omega, by omega, rfl⟩, ?_⟩
    exact List.mem_map.mpr ⟨a, by rw [List.mem_range'_1]; dsimp only; omega, rfl⟩
theorem foundL_nodup (t : List (List Int)) (R C : Nat) : (foundL t R C).Nodup := by
  unfold foundL List.Nodup
  rw [List.pairwise_flatMap]
  refine ⟨fun row _ => ?_, (range_lt R).imp fun {a a'} h x hx y hy => ?_⟩
  · unfold tallL
    rw [List.pairwise_flatMap]
    refine ⟨fun x _ => ?_, ?_⟩
    · unfold topsL
      rw [List.pairwise_map]
      refine (range'_lt _ _).imp fun {a a'} h e => ?_
      simp only [Prod.mk.injEq] at e
      omega
    · rw [List.pairwise_flatMap]
      have out : ∀ {l j : Nat} {x : Bx}, x ∈ tallR t (row + 1) l j → x.2.1 = l ∧ x.2.2.2 = l + j + 1 := fun {l j x} hx => by
        unfold tallR at hx
        split at hx
        · rw [List.mem_singleton] at hx
          subst hx; exact ⟨rfl, rfl⟩
        · cases hx
      have tops : ∀ {x y : Bx}, y ∈ topsL x → y.2.1 = x.2.1 ∧ y.2.2.2 = x.2.2.2 := fun {x y} hy => by
        unfold topsL at hy
        obtain ⟨a, _, rfl⟩ := List.mem_map.mp hy
        exact ⟨rfl, rfl⟩
      refine ⟨fun l _ => ?_, (range_lt C).imp fun {l l'} h x hx y hy u hu v hv e => ?_⟩
      · rw [List.pairwise_flatMap]
        refine ⟨fun j _ => ?_, (range_lt _).imp fun {j j'} h x hx y hy u hu v hv e => ?_⟩
        · unfold tallR
          split
          · exact List.pairwise_singleton _ _
          · exact List.Pairwise.nil
        · obtain ⟨_, h1⟩ := out hx
          obtain ⟨_, h2⟩ := out hy
          obtain ⟨_, h3⟩ := tops hu
          obtain ⟨_, h4⟩ := tops hv
          subst e
          omega
      · obtain ⟨j, _, hx⟩ := List.mem_flatMap.mp hx
        obtain ⟨j', _, hy⟩ := List.mem_flatMap.mp hy
        obtain ⟨h1, _⟩ := out hx
        obtain ⟨h2, _⟩ := out hy
        obtain ⟨h3, _⟩ := tops hu
        obtain ⟨h4, _⟩ := tops hv
        subst e
        omega
  · have bot : ∀ {n : Nat} {x : Bx}, x ∈ (tallL t n C).flatMap topsL → x.2.2.1 = n := fun {n x} hx => by
      obtain ⟨y, hy, hx⟩ := List.mem_flatMap.mp hx
      obtain ⟨l, j, _, _, _, rfl⟩ := mem_tallL.mp hy
      obtain ⟨a, _, rfl⟩ := List.mem_map.mp hx
      rfl
    rintro rfl
    have h1 := bot hx
    have h2 := bot hy
    omega
theorem sorted_found {o : Bool} (t : List (List Int)) (R C : Nat) : opSorted (.lst o ((foundL t R C).map boxD)) = some (.lst true ((fullBx t R C).map boxD)) :=
  sorted_bx (foundL_nodup t R C) (fullBx_lt t R C) fun _ => mem_foundL
end VS
end

section
set_option maxHeartbeats 1000000
/-! VS24: sums over boxes. -/
namespace VS
open PySem L2 VS
def rowF (f : Nat → Nat → Int) (i : Nat) : Nat → Int
  | 0 => 0
  | j + 1 => rowF f i j + f i j
def sumF (f : Nat → Nat → Int) : Nat → Nat → Int
  | 0, _ => 0
  | i + 1, j => sumF f i j + rowF f i j
theorem sumF_zero (f : Nat → Nat → Int) : ∀ i, sumF f i 0 = 0
  | 0 => rfl
  | i + 1 => by rw [sumF, sumF_zero f i]; rfl
theorem sumF_step (f : Nat → Nat → Int) (i j : Nat) : sumF f (i + 1) (j + 1) = sumF f (i + 1) j + sumF f i (j + 1) - sumF f i j + f i j := by
  simp only [sumF, rowF]; omega
/-- what a box holds -/
def boxF (f : Nat → Nat → Int) (x : Bx) : Int := sumF f x.2.2.1 x.2.2.2 - sumF f x.2.2.1 x.2.1 - sumF f x.1 x.2.2.2 + sumF f x.1 x.2.1
theorem rowF_seg {f : Nat → Nat → Int} {i : Nat} (h : ∀ j, f i j ≤ 1) (l : Nat) : ∀ k : Nat, rowF f i (l + k) - rowF f i l ≤ k ∧ (rowF f i (l + k) - rowF f i l = k ↔ ∀ j, l ≤ j → j < l + k → f i j = 1)
  | 0 => ⟨by simp, by simp; intro j h1 h2; omega⟩
  | k + 1 => by
    obtain ⟨h1, h2⟩ := rowF_seg h l k
    have h3 := h (l + k)
    have e : rowF f i (l + (k + 1)) = rowF f i (l + k) + f i (l + k) := rfl
    rw [e]
    refine ⟨by omega, ?_⟩
    constructor
    · intro q j h4 h5
      rcases Nat.lt_or_ge j (l + k) with h6 | h6
      · exact h2.mp (by omega) j h4 h6
      · have : j = l + k := by omega
        subst this; omega
    · intro q
      have q1 := h2.mpr fun j h4 h5 => q j h4 (by omega)
      have q2 := q (l + k) (by omega) (by omega)
      omega
theorem sumF_seg {f : Nat → Nat → Int} (h : ∀ i j, f i j ≤ 1) (a l k : Nat) : ∀ m : Nat, sumF f (a + m) (l + k) - sumF f (a + m) l - (sumF f a (l + k) - sumF f a l) ≤ m * k ∧
    (sumF f (a + m) (l + k) - sumF f (a + m) l - (sumF f a (l + k) - sumF f a l) = m * k ↔ ∀ i, a ≤ i → i < a + m → ∀ j, l ≤ j → j < l + k → f i j = 1)
  | 0 => ⟨by simp, by simp; intro i h1 h2; omega⟩
  | m + 1 => by
    obtain ⟨h1, h2⟩ := sumF_seg h a l k m
    obtain ⟨h3, h4⟩ := rowF_seg (h (a + m)) l k
    have e : ∀ j, sumF f (a + (m + 1)) j = sumF f (a + m) j + rowF f (a + m) j := fun j => rfl
    rw [e, e]
    have e2 : ((m + 1 : Nat) : Int) * k = m * k + k := by rw [Int.natCast_add, Int.add_mul]; simp
    rw [e2]
    generalize (m : Int) * k = mk at *
    refine ⟨by omega, ?_⟩
    constructor
    · intro q i h5 h6
      rcases Nat.lt_or_ge i (a + m) with h7 | h7
      · exact h2.mp (by omega) i h5 h7
      · have : i = a + m := by omega
        subst this
        exact h4.mp (by omega)
    · intro q
      have q1 := h2.mpr fun i h5 h6 => q i h5 (by omega)
      have q2 := h4.mpr (q (a + m) (by omega) (by omega))
      omega
theorem boxF_full {f : Nat → Nat → Int} (h : ∀ i j, f i j ≤ 1) {a l b r : Nat} (hb : a ≤ b) (hr : l ≤ r) : (boxF f (a, l, b, r) = ((b : Int) - a) * ((r : Int) - l)) ↔ ∀ i, a ≤ i → i < b → ∀ j, l ≤ j → j < r → f i j = 1 := by
  obtain ⟨m, rfl⟩ : ∃ m, b = a + m := ⟨b - a, by omega⟩
  obtain ⟨k, rfl⟩ : ∃ k, r = l + k := ⟨r - l, by omega⟩
  have := (sumF_seg h a l k m).2
  rw [← this]
  unfold boxF
  dsimp only
  rw [show ((a + m : Nat) : Int) - a = m by omega, show ((l + k : Nat) : Int) - l = k by omega]
  constructor <;> intro q <;> omega
theorem cell_bit {R C : Nat} {t : List (List Int)} (T : Tab R C t) (r c : Nat) : cell t r c = 0 ∨ cell t r c = 1 := by
  rcases Nat.lt_or_ge r R with h1 | h1
  · rcases Nat.lt_or_ge c C with h2 | h2
    · obtain ⟨_, _, _, _, _, e, hb⟩ := cell_in T h1 h2
      rw [e]; exact hb
    · exact .inl (cell_out T (.inr h2))
  · exact .inl (cell_out T (.inl h1))
theorem full_yes {R C : Nat} {t : List (List Int)} (T : Tab R C t) {x : Bx} (h1 : x.1 ≤ x.2.2.1) (h2 : x.2.1 ≤ x.2.2.2) : (boxF (cell t) x == ((x.2.2.1 : Int) - x.1) * ((x.2.2.2 : Int) - x.2.1)) = isFull t x := by
  obtain ⟨a, l, b, r⟩ := x
  rw [Bool.eq_iff_iff, beq_iff_eq, isFull_iff]
  exact boxF_full (fun i j => by rcases cell_bit T i j with h | h <;> omega) h1 h2
open PySem L2 VS
/-! more loops -/
theorem forD_acc {t : TG1} {clr : List Nat} {body : Gm → R (Fl × Gm)} {α : Type} (enc : α → D) (G : List D → Gm) (f : α → List D) (B : Nat) : ∀ (xs : List α) (acc : List D), acc.length + (xs.flatMap f).length ≤ B →
    (∀ x ∈ xs, ∀ acc, acc.length + (f x).length ≤ B → ∃ g1 g2, setT t (enc x) (G acc) = some g1 ∧ body g1 = .ok (.nx, g2) ∧ clrs clr g2 = G (acc ++ f x)) →
    forD t clr body (xs.map enc) (G acc) = .ok (.nx, G (acc ++ xs.flatMap f))
  | [], acc, _, _ => by rw [List.flatMap_nil, List.append_nil]; rfl
  | x :: xs, acc, hl, st => by
    rw [List.flatMap_cons, List.length_append] at hl
    obtain ⟨g1, g2, e1, e2, e3⟩ := st x (by simp) acc (by omega)
    have ih := forD_acc enc G f B xs (acc ++ f x) (by rw [List.length_append]; omega) fun y hy => st y (by simp [hy])
    simp only [List.map_cons, forD, e1, opt_some, bind_ok, e2, aft_nx]
    rw [e3, ih, List.flatMap_cons, List.append_assoc]
theorem flatMap_one {α β : Type} (f : α → β) (l : List α) : (l.flatMap fun x => [f x]) = l.map f := by
  induction l with
  | nil => rfl
  | cons x l ih => rw [List.flatMap_cons, List.map_cons, ih]; rfl
theorem lcD_map {t : TG1} {own : List Nat} {elt : Gm → R (D × Gm)} {α : Type} (enc : α → D) (f : α → D) (g0 : Gm) (xs : List α) (hl : xs.length ≤ sizeLine)
    (st : ∀ x ∈ xs, ∃ g1, setT t (enc x) g0 = some g1 ∧ elt g1 = .ok (f x, g1) ∧ clrs own g1 = g0) : lcD t own (fun g => .ok (true, g)) elt [] (xs.map enc) g0 = .ok (xs.map f, g0) := by
  have := lcD_pure (t := t) (own := own) (cond := fun g => .ok (true, g)) (elt := elt) enc (fun _ => true) f g0 xs [] (by simpa using hl) fun x hx => by
    obtain ⟨g1, e1, e2, e3⟩ := st x hx
    exact ⟨g1, e1, rfl, fun _ => e2, e3⟩
  rw [List.filter_eq_self.mpr fun _ _ => rfl, List.nil_append] at this
  exact this
theorem get_map {α : Type} {f : α → D} {xs : List α} {i : Nat} {d : D} (h : (xs.map f)[i]? = some d) : ∃ x, xs[i]? = some x ∧ d = f x := by
  rw [List.getElem?_map, Option.map_eq_some_iff] at h
  obtain ⟨x, hx, e⟩ := h
  exact ⟨x, hx, e.symm⟩
theorem get_range {n i x : Nat} (h : (List.range n)[i]? = some x) : i < n ∧ x = i := by
  rw [List.getElem?_eq_some_iff] at h
  obtain ⟨hi, e⟩ := h
  rw [List.length_range] at hi
  rw [List.getElem_range] at e
  exact ⟨hi, e.symm⟩
theorem range'_range (a n : Nat) : List.range' a n = (List.range n).map (a + ·) := List.range'_eq_map_range
theorem plxy {R C : Nat} {t : List (List Int)} (T : Tab R C t) {r c : Nat} (hr : r < R) (hc : c < C) {p : PL} {e1 e2 : SX} {g : Gm} (h0 : getPl p g = some (tupT t)) (h1 : evS e1 g = some (r : Int)) (h2 : evS e2 g = some (c : Int)) :
    getPl (.ix (.ix p e1) e2) g = some (.int (cell t r c)) := by
  obtain ⟨row, y, q1, q2, q3, q4, _⟩ := cell_in T hr hc
  have i1 : ixN t.length (r : Int) = some r := ixN_nat (lt_of_get q1)
  have i2 : ixN row.length (c : Int) = some c := ixN_nat (lt_of_get q3)
  have e1' : getPl (.ix p e1) g = some (tupR row) := by
    unfold getPl
    rw [h0, h1]
    simp only [tupT, List.length_map, i1, Option.bind_some, tupT_get q1]
  unfold getPl
  rw [e1', h2]
  simp only [tupR, List.length_map, i2, Option.bind_some, List.getElem?_map, q3, q4, Option.map_some]
/-- an item of a list or a tuple in a place -/
theorem plx {p : PL} {e : SX} {g : Gm} {t : D} {ds : List D} {i : Nat} {d : D} (h0 : getPl p g = some t) (ht : itemsOf t = some ds) (he : evS e g = some (i : Int)) (hd : ds[i]? = some d) : getPl (.ix p e) g = some d := by
  have i1 : ixN ds.length (i : Int) = some i := ixN_nat (lt_of_get hd)
  unfold getPl
  rw [h0, he]
  cases t <;> simp only [itemsOf, Option.some.injEq, reduceCtorEq] at ht
  · subst ht; simp only [i1, Option.bind_some, hd]
  · subst ht; simp only [i1, Option.bind_some, hd]
theorem appD {ds : List D} {d : D} (h : ds.length < 1000000) : opM .append (.lst true ds) [d] = some (.non, .lst true (ds ++ [d])) := by
  unfold opM
  simp only
  rw [if_pos (by rw [line_eq]; omega)]
theorem extD {ds es : List D} (hn : noOwns es = true) (h : ds.length + es.length ≤ 1000000) : opM .extend (.lst true ds) [.lst true es] = some (.non, .lst true (ds ++ es)) := by
  unfold opM
  simp only
  rw [if_pos ⟨hn, by rw [line_eq]; omega⟩]
theorem lenLst (o : Bool) (ds : List D) : opLen (.lst o ds) = some (.int ds.length) := rfl
theorem lenTup (ds : List D) : opLen (.tup ds) = some (.int ds.length) := rfl
theorem noOwn_boxD (x : Bx) : noOwn (boxD x) = true := rfl
theorem noOwns_bx (l : List Bx) : noOwns (l.map boxD) = true := noOwns_map noOwn_boxD l
theorem flatMap_lt {α β : Type} {f : α → List β} {l : List α} {m n k : Nat} (h : ∀ x ∈ l, (f x).length ≤ m) (hl : l.length ≤ n) (hk : n * m ≤ k) : (l.flatMap f).length ≤ k :=
  Nat.le_trans (flatMap_len h) (Nat.le_trans (Nat.mul_le_mul_right m hl) hk)
theorem tallL_len (t : List (List Int)) (n : Nat) {C : Nat} (hC : C ≤ 10) : (tallL t n C).length ≤ 100 := by
  unfold tallL
  refine flatMap_lt (m := 10) (n := 10) (fun l _ => ?_) (by rw [List.length_range]; exact hC) (by omega)
  refine flatMap_lt (m := 1) (n := 10) (fun j _ => ?_) (by rw [List.length_range]; omega) (by omega)
  unfold tallR
  split <;> simp
theorem foundL_len (t : List (List Int)) {R C : Nat} (hR : R ≤ 10) (hC : C ≤ 10) : (foundL t R C).length ≤ 10000 := by
  unfold foundL
  refine flatMap_lt (m := 1000) (n := 10) (fun r hr => ?_) (by rw [List.length_range]; exact hR) (by omega)
  refine flatMap_lt (m := 10) (n := 100) (fun x hx => ?_) (tallL_len t _ hC) (by omega)
  unfold topsL
  rw [List.length_map, List.length_range']
  obtain ⟨l, j, _, _, _, rfl⟩ := mem_tallL.mp hx
  have := List.mem_range.mp hr
  dsimp only
  omega
end VS
end

section
set_option maxHeartbeats 1000000
/-! VS25: equal things; a script's cells. -/
namespace VS
open PySem L2 VS
theorem plains_map {α : Type} {f : α → D} {n : Nat} (h : ∀ x, plain (f x) n = true) (l : List α) : plains (l.map f) n = true := plains_of fun d hd => by
  obtain ⟨x, _, rfl⟩ := List.mem_map.mp hd
  exact h x
theorem deqs_map {α : Type} {f : α → D} (h : ∀ x, deq (f x) (f x) = true) (l : List α) : deqs (l.map f) (l.map f) = true := deqs_of fun d hd => by
  obtain ⟨x, _, rfl⟩ := List.mem_map.mp hd
  exact h x
theorem plain_boxD (x : Bx) (n : Nat) (h : 0 < n) : plain (boxD x) n = true := by
  obtain ⟨m, rfl⟩ : ∃ m, n = m + 1 := ⟨n - 1, by omega⟩
  simp [boxD, plain, plains]
theorem deq_boxD (x y : Bx) : deq (boxD x) (boxD y) = decide (x = y) := by
  obtain ⟨a, l, b, r⟩ := x
  obtain ⟨a', l', b', r'⟩ := y
  rw [Bool.eq_iff_iff]
  simp only [boxD, deq, deqs, Bool.and_eq_true, beq_iff_eq, and_true, decide_eq_true_eq, Prod.mk.injEq]
  omega
theorem plain_lst {α : Type} {f : α → D} {n : Nat} (h : ∀ x, plain (f x) n = true) (o : Bool) (l : List α) : plain (.lst o (l.map f)) (n + 1) = true := by simp only [plain]; exact plains_map h l
mutual
theorem plain_up : ∀ (d : D) (n m : Nat), n ≤ m → plain d n = true → plain d m = true
  | .non, _, _, _, _ => by simp [plain]
  | .bl _, _, _, _, _ => by simp [plain]
  | .int _, _, _, _, _ => by simp [plain]
  | .str _, _, _, _, q => by simpa [plain] using q
  | .ty _, _, _, _, q => by simp [plain] at q
  | .gl _, _, _, _, q => by simp [plain] at q
  | .dk _ _ _, _, _, _, q => by simp [plain] at q
  | .dt _ _ _, _, _, _, q => by simp [plain] at q
  | .ins _ _ _, _, _, _, q => by simp [plain] at q
  | .tup ds, n, m, h, q => by
    cases n with
    | zero => simp [plain] at q
    | succ n => cases m with
      | zero => omega
      | succ m =>
        simp only [plain] at q ⊢
        exact plains_up ds n m (by omega) q
  | .lst o ds, n, m, h, q => by
    cases n with
    | zero => simp [plain] at q
    | succ n => cases m with
      | zero => omega
      | succ m =>
        simp only [plain] at q ⊢
        exact plains_up ds n m (by omega) q
theorem plains_up : ∀ (ds : List D) (n m : Nat), n ≤ m → plains ds n = true → plains ds m = true
  | [], _, _, _, _ => by simp [plains]
  | d :: ds, n, m, h, q => by
    simp only [plains, Bool.and_eq_true] at q ⊢
    exact ⟨plain_up d n m h q.1, plains_up ds n m h q.2⟩
end
theorem eqSelf {d : D} (neg : Bool) (h : plain d 60 = true) (q : deq d d = true) : opEq neg d d = some (.bl (!neg)) := by
  unfold opEq
  rw [if_pos ⟨h, h⟩, q]
  cases neg <;> rfl
theorem eqIs {d e : D} (neg : Bool) (h : plain d 60 = true) (h' : plain e 60 = true) : opEq neg d e = some (.bl (if neg then !deq d e else deq d e)) := by
  unfold opEq
  rw [if_pos ⟨h, h'⟩]
theorem deqs_inj {α : Type} [DecidableEq α] {f : α → D} (h : ∀ x y, deq (f x) (f y) = decide (x = y)) : ∀ l l' : List α, deqs (l.map f) (l'.map f) = decide (l = l')
  | [], [] => by simp [deqs]
  | [], _ :: _ => by simp [deqs]
  | _ :: _, [] => by simp [deqs]
  | x :: l, y :: l' => by
    simp only [List.map_cons, deqs, h, deqs_inj h l l']
    by_cases h1 : x = y <;> by_cases h2 : l = l' <;> simp [h1, h2]
/-! lists of boxes -/
theorem plain_bx (o : Bool) (l : List Bx) : plain (.lst o (l.map boxD)) 60 = true := plain_lst (n := 59) (fun x => plain_boxD x 59 (by omega)) o l
theorem deq_bx (o o' : Bool) (l l' : List Bx) : deq (.lst o (l.map boxD)) (.lst o' (l'.map boxD)) = decide (l = l') := by
  simp only [deq]
  exact deqs_inj deq_boxD l l'
theorem ne_bx (o o' : Bool) (l : List Bx) : opEq true (.lst o (l.map boxD)) (.lst o' (l.map boxD)) = some (.bl false) := by rw [eqIs true (plain_bx o l) (plain_bx o' l), deq_bx]; simp
theorem isiL (o : Bool) (l : List D) : opIsi (.lst o l) (.ty "list") = some (.bl true) := by
  unfold opIsi tyOf
  have : kitB "list" "list" = some true := by decide +kernel
  simp [this]
/-! a script's cells -/
theorem script_take (ns : List Int) (k : Int) : ∃ ms : List Int, opSlB false true [.lst false (ns.map .int), .int k] = some (.lst true (ms.map .int)) ∧ ms.length ≤ ns.length := by
  refine ⟨(ns.drop (HT.sIx (ns.map D.int).length 0 none)).take (HT.sIx (ns.map D.int).length (ns.map D.int).length (some k) - HT.sIx (ns.map D.int).length 0 none), ?_, by rw [List.length_take, List.length_drop]; omega⟩
  unfold opSlB opSl
  simp only [noOwns_ints, if_true]
  rw [List.map_take, List.map_drop]
theorem addI {a b : List Int} (h : a.length + b.length ≤ 1000000) (o o' : Bool) : opAdd (.lst o (a.map .int)) (.lst o' (b.map .int)) = some (.lst true ((a ++ b).map .int)) := by
  unfold opAdd
  simp only
  rw [if_pos ⟨noOwns_ints a, noOwns_ints b, by rw [List.length_map, List.length_map, line_eq]; omega⟩, List.map_append]
/-- a loop that leaves all as it was -/
theorem forD_same {t : TG1} {clr : List Nat} {body : Gm → R (Fl × Gm)} (g0 : Gm) : ∀ ds : List D, (∀ d ∈ ds, ∃ g1 g2, setT t d g0 = some g1 ∧ body g1 = .ok (.nx, g2) ∧ clrs clr g2 = g0) → forD t clr body ds g0 = .ok (.nx, g0)
  | [], _ => rfl
  | d :: ds, h => by
    obtain ⟨g1, g2, e1, e2, e3⟩ := h d (by simp)
    simp only [forD, e1, opt_some, bind_ok, e2, aft_nx, e3]
    exact forD_same g0 ds fun x hx => h x (by simp [hx])
end VS
end

section
set_option maxHeartbeats 1000000
/-! VS26: cells, what ends a box at a side, full-grown boxes. No program in sight. -/
namespace VS
open PySem L2 VS
abbrev Ce := Nat × Nat
def cellD (x : Ce) : D := .tup [.int x.1, .int x.2]
def skC (x : Ce) : SK := .r x.1 [(x.2 : Int)]
def ltC (x y : Ce) : Prop := x.1 < y.1 ∨ (x.1 = y.1 ∧ x.2 < y.2)
theorem skC_d (x : Ce) : skD (cellD x) = some (skC x) := by simp [skD, cellD, skC, intsD]
theorem dskC (x : Ce) : dSK (skC x) = cellD x := by simp [dSK, skC, cellD]
theorem ltC_le {x y : Ce} (h : ltC x y) : (skC x).le (skC y) = true := by
  unfold ltC at h
  unfold skC SK.le
  rw [decide_eq_true_eq]
  refine cons_le_of ?_
  rcases h with h | ⟨h, h'⟩
  · left; omega
  right
  refine ⟨by omega, cons_le_of ?_⟩
  left; omega
theorem ltC_ne {x y : Ce} (h : ltC x y) : x ≠ y := by
  rintro rfl
  unfold ltC at h
  omega
theorem noOwn_cellD (x : Ce) : noOwn (cellD x) = true := rfl
theorem noOwns_ce (l : List Ce) : noOwns (l.map cellD) = true := noOwns_map noOwn_cellD l
theorem plain_cellD (x : Ce) (n : Nat) (h : 0 < n) : plain (cellD x) n = true := by
  obtain ⟨m, rfl⟩ : ∃ m, n = m + 1 := ⟨n - 1, by omega⟩
  simp [cellD, plain, plains]
theorem deq_cellD (x y : Ce) : deq (cellD x) (cellD y) = decide (x = y) := by
  obtain ⟨a, l⟩ := x
  obtain ⟨a', l'⟩ := y
  rw [Bool.eq_iff_iff]
  simp only [cellD, deq, deqs, Bool.and_eq_true, beq_iff_eq, and_true, decide_eq_true_eq, Prod.mk.injEq]
  omega
/-- the cells of a box, rising -/
def cellsL (x : Bx) : List Ce := (List.range' x.1 (x.2.2.1 - x.1)).flatMap fun i => (List.range' x.2.1 (x.2.2.2 - x.2.1)).map fun j => (i, j)
theorem mem_cellsL {x : Bx} {c : Ce} : c ∈ cellsL x ↔ (x.1 ≤ c.1 ∧ c.1 < x.2.2.1) ∧ x.2.1 ≤ c.2 ∧ c.2 < x.2.2.2 := by
  obtain ⟨i, j⟩ := c
  simp only [cellsL, List.mem_flatMap, List.mem_map, List.mem_range'_1, Prod.mk.injEq]
  constructor
  · rintro ⟨i', h1, j', h2, rfl, rfl⟩
    omega
  · rintro ⟨h1, h2⟩
    exact ⟨i, by omega, j, by omega, rfl, rfl⟩
theorem cellsL_lt (x : Bx) : (cellsL x).Pairwise ltC := by
  unfold cellsL
  rw [List.pairwise_flatMap]
  refine ⟨fun i _ => ?_, (range'_lt _ _).imp fun {i i'} h x hx y hy => ?_⟩
  · rw [List.pairwise_map]
    exact (range'_lt _ _).imp fun h => .inr ⟨rfl, h⟩
  · obtain ⟨_, _, rfl⟩ := List.mem_map.mp hx
    obtain ⟨_, _, rfl⟩ := List.mem_map.mp hy
    exact .inl h
theorem cellsL_len {x : Bx} {R C : Nat} (h1 : x.2.2.1 ≤ R) (h2 : x.2.2.2 ≤ C) (hR : R ≤ 100) (hC : C ≤ 100) : (cellsL x).length ≤ 10000 := by
  unfold cellsL
  refine flatMap_lt (m := 100) (n := 100) (fun i _ => ?_) (by rw [List.length_range']; omega) (by omega)
  rw [List.length_map, List.length_range']
  omega
theorem minK_head : ∀ (ks : List SK) (k : SK), (∀ y ∈ ks, k.le y = true) → minK k ks = k
  | [], _, _ => rfl
  | y :: r, k, h => by
    have e : minK k (y :: r) = minK (if k.le y then k else y) r := rfl
    rw [e, if_pos (h y (by simp))]
    exact minK_head r k fun z hz => h z (by simp [hz])
def headC (l : List Ce) : D := match l with
  | c :: _ => cellD c
  | [] => .non
/-- min(rising cells, default=None) -/
theorem min_cells {o : Bool} {l : List Ce} (h : l.Pairwise ltC) : opBestD minK (.lst o (l.map cellD)) .non = some (headC l) := by
  unfold opBestD
  simp only [sksD_map skC_d, Option.bind_some]
  cases l with
  | nil => rfl
  | cons c r =>
    have hk : kinB ((c :: r).map skC) = true := kinB_map (fun _ _ => rfl) _
    have e : minK (skC c) (r.map skC) = skC c := minK_head _ _ fun y hy => by
      obtain ⟨z, hz, rfl⟩ := List.mem_map.mp hy
      exact ltC_le (List.rel_of_pairwise_cons h hz)
    rw [List.map_cons] at hk ⊢
    simp only [hk, e, dskC, if_true, headC, noOwn]
/-! sides -/
def rim (R C : Nat) (x : Bx) : Nat → Bool
  | 0 => x.1 == 0
  | 1 => x.2.1 == 0
  | 2 => x.2.2.1 == R
  | _ => x.2.2.2 == C
/-- the cells right beside a side, as a box -/
def besB (x : Bx) : Nat → Bx
  | 0 => (x.1 - 1, x.2.1, x.1, x.2.2.2)
  | 1 => (x.1, x.2.1 - 1, x.2.2.1, x.2.1)
  | 2 => (x.2.2.1, x.2.1, x.2.2.1 + 1, x.2.2.2)
  | _ => (x.1, x.2.2.2, x.2.2.1, x.2.2.2 + 1)
def noesL (t : List (List Int)) (x : Bx) : List Ce := (cellsL x).filter fun c => cell t c.1 c.2 == 0
theorem noesL_lt (t : List (List Int)) (x : Bx) : (noesL t x).Pairwise ltC := (cellsL_lt x).filter _
/-- what ends a box at a side -/
def sideD (t : List (List Int)) (R C : Nat) (x : Bx) (s : Nat) : D := if rim R C x s = true then .tup [] else headC (noesL t (besB x s))
/-- nothing ends it -/
def opn (t : List (List Int)) (R C : Nat) (x : Bx) (s : Nat) : Bool := !rim R C x s && (noesL t (besB x s)).isEmpty
theorem side_non (t : List (List Int)) (R C : Nat) (x : Bx) (s : Nat) : deq (sideD t R C x s) .non = opn t R C x s := by
  unfold sideD opn
  cases rim R C x s with
  | true => simp [deq]
  | false =>
    cases noesL t (besB x s) with
    | nil => rfl
    | cons c r => rfl
theorem noOwn_side (t : List (List Int)) (R C : Nat) (x : Bx) (s : Nat) : noOwn (sideD t R C x s) = true := by
  unfold sideD
  split
  · rfl
  · unfold headC
    split <;> rfl
theorem plain_side (t : List (List Int)) (R C : Nat) (x : Bx) (s n : Nat) (h : 0 < n) : plain (sideD t R C x s) n = true := by
  unfold sideD
  split
  · obtain ⟨m, rfl⟩ : ∃ m, n = m + 1 := ⟨n - 1, by omega⟩
    simp [plain, plains]
  · unfold headC
    split
    · exact plain_cellD _ _ h
    · simp [plain]
theorem deq_side (t : List (List Int)) (R C : Nat) (x : Bx) (s : Nat) : deq (sideD t R C x s) (sideD t R C x s) = true := by
  unfold sideD
  split
  · simp [deq, deqs]
  · unfold headC
    split
    · simp [deq_cellD]
    · rfl
def isGrown (t : List (List Int)) (R C : Nat) (x : Bx) : Bool := !(List.range 4).any fun s => opn t R C x s
def sidesD (t : List (List Int)) (R C : Nat) (x : Bx) : D := .tup ((List.range 4).map fun s => sideD t R C x s)
theorem nin_sides (neg : Bool) (t : List (List Int)) (R C : Nat) (x : Bx) : opIn neg .non (sidesD t R C x) = some (.bl (if neg then isGrown t R C x else !isGrown t R C x)) := by
  unfold opIn sidesD
  simp only
  rw [if_pos ⟨by simp [plain], plains_map (fun s => plain_side t R C x s 59 (by omega)) _⟩]
  have e : (((List.range 4).map fun s => sideD t R C x s).any fun z => deq z .non) = (List.range 4).any fun s => opn t R C x s := by
    rw [List.any_map]
    congr 1
    funext s
    exact side_non t R C x s
  rw [e]
  unfold isGrown
  cases neg <;> simp
theorem sides_eq (t : List (List Int)) (R C : Nat) (x : Bx) : opEq true (sidesD t R C x) (sidesD t R C x) = some (.bl false) := by
  unfold sidesD
  rw [eqSelf true (by simp only [plain]; exact plains_map (fun s => plain_side t R C x s 59 (by omega)) _) (by simp only [deq]; exact deqs_map (fun s => deq_side t R C x s) _)]
  rfl
def grownBx (t : List (List Int)) (R C : Nat) : List Bx := (fullBx t R C).filter (isGrown t R C)
theorem grownBx_lt (t : List (List Int)) (R C : Nat) : (grownBx t R C).Pairwise ltB := (fullBx_lt t R C).filter _
/-- a side that nothing ends -/
theorem opn_iff {R C : Nat} {t : List (List Int)} (T : Tab R C t) {x : Bx} {s : Nat} : opn t R C x s = true ↔ rim R C x s = false ∧ ∀ c ∈ cellsL (besB x s), cell t c.1 c.2 = 1 := by
  unfold opn noesL
  rw [Bool.and_eq_true, Bool.not_eq_true', List.isEmpty_iff, List.filter_eq_nil_iff]
  refine and_congr_right fun _ => ⟨fun h c hc => ?_, fun h c hc => ?_⟩
  · have := h c hc
    simp only [beq_iff_eq] at this
    rcases cell_bit T c.1 c.2 with q | q
    · exact absurd q this
    · exact q
  · have := h c hc
    simp only [beq_iff_eq, this]
    decide
/-- a full-grown box stands as high as can be -/
theorem grown_tall {R C : Nat} {t : List (List Int)} (T : Tab R C t) {a l b i : Nat} (ha : a < b) (hf : ∀ r, a ≤ r → r < b → ∀ j, l ≤ j → j < l + i + 1 → cell t r j = 1) (hg : opn t R C (a, l, b, l + i + 1) 0 = false) : a = b - lea t b l (i + 1) := by
  have h1 := (full_lea (t := t) (by omega)).mp hf
  rcases Nat.lt_or_ge (b - lea t b l (i + 1)) a with h2 | h2
  · exfalso
    have h3 := (full_lea (t := t) (a := a - 1) (b := b) (l := l) (i := i) (by omega)).mpr (by omega)
    have : opn t R C (a, l, b, l + i + 1) 0 = true := by
      rw [opn_iff T]
      refine ⟨by simp [rim]; omega, fun c hc => ?_⟩
      have e : besB (a, l, b, l + i + 1) 0 = (a - 1, l, a, l + i + 1) := rfl
      rw [e] at hc
      obtain ⟨q1, q2⟩ := mem_cellsL.mp hc
      dsimp only at q1 q2
      exact h3 c.1 (by omega) (by omega) c.2 (by omega) (by omega)
    rw [hg] at this
    cases this
  · omega
def gfoundL (t : List (List Int)) (R C : Nat) : List Bx := (List.range R).flatMap fun row => (tallL t (row + 1) C).filter (isGrown t R C)
theorem mem_gfoundL {R C : Nat} {t : List (List Int)} (T : Tab R C t) {x : Bx} : x ∈ gfoundL t R C ↔ x ∈ grownBx t R C := by
  obtain ⟨a, l, b, r⟩ := x
  unfold grownBx gfoundL
  rw [List.mem_filter, mem_fullBx]
  simp only [List.mem_flatMap, List.mem_range, List.mem_filter, mem_tallL]
  constructor
  · rintro ⟨row, hrow, ⟨l', j, h1, h2, h3, he⟩, hg⟩
    simp only [Prod.mk.injEq] at he
    obtain ⟨rfl, rfl, rfl, rfl⟩ := he
    have hle := lea_le t (row + 1) l (j + 1)
    exact ⟨⟨by omega, (full_lea (by omega)).mpr (Nat.le_refl _)⟩, hg⟩
  · rintro ⟨⟨⟨h1, h2, h3, h4⟩, hf⟩, hg⟩
    obtain ⟨j, rfl⟩ : ∃ j, r = l + j + 1 := ⟨r - l - 1, by omega⟩
    obtain ⟨row, rfl⟩ : ∃ row, b = row + 1 := ⟨b - 1, by omega⟩
    have h0 : opn t R C (a, l, row + 1, l + j + 1) 0 = false := by
      unfold isGrown at hg
      rw [Bool.not_eq_true', List.any_eq_false] at hg
      simpa using hg 0 (by simp)
    have := grown_tall T h1 hf h0
    have hle := lea_le t (row + 1) l (j + 1)
    exact ⟨row, by omega, ⟨l, j, by omega, by omega, by omega, by rw [← this]⟩, hg⟩
theorem gfoundL_nodup (t : List (List Int)) (R C : Nat) : (gfoundL t R C).Nodup := by
  unfold gfoundL List.Nodup
  rw [List.pairwise_flatMap]
  refine ⟨fun row _ => List.Pairwise.filter _ ?_, (range_lt R).imp fun {a a'} h x hx y hy => ?_⟩
  · unfold tallL
    rw [List.pairwise_flatMap]
    have out : ∀ {l j : Nat} {x : Bx}, x ∈ tallR t (row + 1) l j → x.2.1 = l ∧ x.2.2.2 = l + j + 1 := fun {l j x} hx => by
      unfold tallR at hx
      split at hx
      · rw [List.mem_singleton] at hx
        subst hx; exact ⟨rfl, rfl⟩
      · cases hx
    refine ⟨fun l _ => ?_, (range_lt C).imp fun {l l'} h x hx y hy e => ?_⟩
    · rw [List.pairwise_flatMap]
      refine ⟨fun j _ => ?_, (range_lt _).imp fun {j j'} h x hx y hy e => ?_⟩
      · unfold tallR
        split
        · exact List.pairwise_singleton _ _
        · exact List.Pairwise.nil
      · obtain ⟨_, h1⟩ := out hx
        obtain ⟨_, h2⟩ := out hy
        subst e; omega
    · obtain ⟨j, _, hx⟩ := List.mem_flatMap.mp hx
      obtain ⟨j', _, hy⟩ := List.mem_flatMap.mp hy
      obtain ⟨h1, _⟩ := out hx
      obtain ⟨h2, _⟩ := out hy
      subst e; omega
  · have bot : ∀ {n : Nat} {x : Bx}, x ∈ (tallL t n C).filter (isGrown t R C) → x.2.2.1 = n := fun {n x} hx => by
      obtain ⟨l, j, _, _, _, rfl⟩ := mem_tallL.mp (List.mem_filter.mp hx).1
      rfl
    rintro rfl
    have h1 := bot hx
    have h2 := bot hy
    omega
theorem sorted_grown {o : Bool} {R C : Nat} {t : List (List Int)} (T : Tab R C t) : opSorted (.lst o ((gfoundL t R C).map boxD)) = some (.lst true ((grownBx t R C).map boxD)) :=
  sorted_bx (gfoundL_nodup t R C) (grownBx_lt t R C) fun _ => mem_gfoundL T
theorem gfoundL_len (t : List (List Int)) {R C : Nat} (hR : R ≤ 10) (hC : C ≤ 10) : (gfoundL t R C).length ≤ 1000 := by
  unfold gfoundL
  exact flatMap_lt (m := 100) (n := 10) (fun r hr => Nat.le_trans (List.length_filter_le _ _) (tallL_len t _ hC)) (by rw [List.length_range]; exact hR) (by omega)
/-! more of lists -/
theorem in_bx (neg : Bool) (x : Bx) (o : Bool) (l : List Bx) : opIn neg (boxD x) (.lst o (l.map boxD)) = some (.bl (if neg then !decide (x ∈ l) else decide (x ∈ l))) := by
  unfold opIn
  simp only
  rw [if_pos ⟨plain_boxD x 60 (by omega), plains_map (fun y => plain_boxD y 59 (by omega)) l⟩]
  have e : (l.map boxD).any (fun z => deq z (boxD x)) = decide (x ∈ l) := by
    rw [List.any_map, Bool.eq_iff_iff, List.any_eq_true, decide_eq_true_eq]
    constructor
    · rintro ⟨y, hy, h⟩
      simp only [Function.comp, deq_boxD, decide_eq_true_eq] at h
      rw [← h]; exact hy
    · intro h
      exact ⟨x, h, by simp [Function.comp, deq_boxD]⟩
  rw [e]
theorem frzs_map {α : Type} {f : α → D} (h : ∀ x, frz (f x) = f x) : ∀ l : List α, frzs (l.map f) = l.map f
  | [] => rfl
  | x :: l => by rw [List.map_cons, frzs, h, frzs_map h l]
theorem frz_bx (o : Bool) (l : List Bx) : frz (.lst o (l.map boxD)) = .lst false (l.map boxD) := by rw [frz, frzs_map fun x => by simp [boxD, frz, frzs]]
theorem frz_ce (o : Bool) (l : List Ce) : frz (.lst o (l.map cellD)) = .lst false (l.map cellD) := by rw [frz, frzs_map fun x => by simp [cellD, frz, frzs]]
theorem take_map {α : Type} {f : α → D} (hn : ∀ x, noOwn (f x) = true) (o : Bool) (l : List α) (k : Int) : ∃ ms : List α, opSlB false true [.lst o (l.map f), .int k] = some (.lst true (ms.map f)) ∧ (∀ x ∈ ms, x ∈ l) ∧ ms.length ≤ l.length := by
  refine ⟨(l.drop (HT.sIx (l.map f).length 0 none)).take (HT.sIx (l.map f).length (l.map f).length (some k) - HT.sIx (l.map f).length 0 none), ?_, fun x hx => List.mem_of_mem_drop (List.mem_of_mem_take hx), by rw [List.length_take, List.length_drop]; omega⟩
  unfold opSlB opSl
  simp only [noOwns_map hn, if_true]
  rw [List.map_take, List.map_drop]
theorem cellsL_row (i l r : Nat) : cellsL (i, l, i + 1, r) = (List.range' l (r - l)).map fun j => (i, j) := by
  unfold cellsL
  simp [show i + 1 - i = 1 by omega]
theorem cellsL_col (a b j : Nat) : cellsL (a, j, b, j + 1) = (List.range' a (b - a)).map fun i => (i, j) := by
  unfold cellsL
  simp only [show j + 1 - j = 1 by omega, List.range'_one, List.map_cons, List.map_nil]
  exact flatMap_one _ _
theorem find_noes (t : List (List Int)) (l : List Ce) : (l.findSome? fun c => if cell t c.1 c.2 == 0 then some (cellD c) else none) = match l.filter (fun c => cell t c.1 c.2 == 0) with | c :: _ => some (cellD c) | [] => none := by
  induction l with
  | nil => rfl
  | cons c l ih =>
    rw [List.findSome?_cons]
    cases h : (cell t c.1 c.2 == 0) with
    | true => rw [List.filter_cons_of_pos (by simpa using h)]; simp
    | false => rw [List.filter_cons_of_neg (by simpa using h)]; simpa using ih
end VS
end

section
set_option maxHeartbeats 1000000
/-! VS27: full-grown boxes: no one in another, each full one in one; tables held by boxes. No program in sight. -/
namespace VS
open PySem L2 VS
def InT (R C : Nat) (x : Bx) : Prop := x.1 < x.2.2.1 ∧ x.2.2.1 ≤ R ∧ x.2.1 < x.2.2.2 ∧ x.2.2.2 ≤ C
theorem grown_sub {t : List (List Int)} {R C : Nat} {x : Bx} (h : x ∈ grownBx t R C) : x ∈ fullBx t R C := (List.mem_filter.mp h).1
theorem full_in {t : List (List Int)} {R C : Nat} {x : Bx} (h : x ∈ fullBx t R C) : InT R C x := (mem_fullBx.mp h).1
theorem side4 {s : Nat} (h : s < 4) : s = 0 ∨ s = 1 ∨ s = 2 ∨ s = 3 := by omega
theorem grown_iff {t : List (List Int)} {R C : Nat} {x : Bx} : isGrown t R C x = true ↔ ∀ s, s < 4 → opn t R C x s = false := by
  unfold isGrown
  rw [Bool.not_eq_true', List.any_eq_false]
  simp only [List.mem_range, Bool.not_eq_true]
/-- x lies in y -/
def lies (x y : Bx) : Bool := decide (y.1 ≤ x.1) && (decide (y.2.1 ≤ x.2.1) && (decide (x.2.2.1 ≤ y.2.2.1) && decide (x.2.2.2 ≤ y.2.2.2)))
theorem lies_iff {x y : Bx} : lies x y = true ↔ y.1 ≤ x.1 ∧ y.2.1 ≤ x.2.1 ∧ x.2.2.1 ≤ y.2.2.1 ∧ x.2.2.2 ≤ y.2.2.2 := by simp [lies]
theorem lies_self (x : Bx) : lies x x = true := by simp [lies]
theorem lies_trans {x y z : Bx} (h1 : lies x y = true) (h2 : lies y z = true) : lies x z = true := by
  rw [lies_iff] at *
  omega
def mvB (x : Bx) : Nat → Bx
  | 0 => (x.1 - 1, x.2.1, x.2.2.1, x.2.2.2)
  | 1 => (x.1, x.2.1 - 1, x.2.2.1, x.2.2.2)
  | 2 => (x.1, x.2.1, x.2.2.1 + 1, x.2.2.2)
  | _ => (x.1, x.2.1, x.2.2.1, x.2.2.2 + 1)
section
variable {R C : Nat} {t : List (List Int)}
/-- y goes beyond x at a side -/
def wider (x y : Bx) : Nat → Prop
  | 0 => y.1 < x.1
  | 1 => y.2.1 < x.2.1
  | 2 => x.2.2.1 < y.2.2.1
  | _ => x.2.2.2 < y.2.2.2
/-- what a full box and a wider full one have -/
theorem opn_of (T : Tab R C t) {x y : Bx} (hx : InT R C x) (hy : y ∈ fullBx t R C) (h : lies x y = true) {s : Nat} (hs : s < 4) (hb : wider x y s) : opn t R C x s = true := by
  obtain ⟨a, l, b, r⟩ := x
  obtain ⟨a', l', b', r'⟩ := y
  obtain ⟨⟨q1, q2, q3, q4⟩, hf⟩ := mem_fullBx.mp hy
  rw [lies_iff] at h
  unfold InT at hx
  dsimp only at h hx
  rw [opn_iff T]
  rcases side4 hs with rfl | rfl | rfl | rfl
  · have hb : a' < a := hb
    refine ⟨by simp [rim]; omega, fun c hc => ?_⟩
    have e : besB (a, l, b, r) 0 = (a - 1, l, a, r) := rfl
    rw [e, mem_cellsL] at hc
    dsimp only at hc
    exact hf c.1 (by omega) (by omega) c.2 (by omega) (by omega)
  · have hb : l' < l := hb
    refine ⟨by simp [rim]; omega, fun c hc => ?_⟩
    have e : besB (a, l, b, r) 1 = (a, l - 1, b, l) := rfl
    rw [e, mem_cellsL] at hc
    dsimp only at hc
    exact hf c.1 (by omega) (by omega) c.2 (by omega) (by omega)
  · have hb : b < b' := hb
    refine ⟨by simp [rim]; omega, fun c hc => ?_⟩
    have e : besB (a, l, b, r) 2 = (b, l, b + 1, r) := rfl
    rw [e, mem_cellsL] at hc
    dsimp only at hc
    exact hf c.1 (by omega) (by omega) c.2 (by omega) (by omega)
  · have hb : r < r' := hb
    refine ⟨by simp [rim]; omega, fun c hc => ?_⟩
    have e : besB (a, l, b, r) 3 = (a, r, b, r + 1) := rfl
    rw [e, mem_cellsL] at hc
    dsimp only at hc
    exact hf c.1 (by omega) (by omega) c.2 (by omega) (by omega)
theorem grown_max (T : Tab R C t) {x y : Bx} (hx : x ∈ grownBx t R C) (hy : y ∈ fullBx t R C) (h : lies x y = true) : y = x := by
  have hg := grown_iff.mp (List.mem_filter.mp hx).2
  have hin := full_in (grown_sub hx)
  have k : ∀ s, s < 4 → ¬ wider x y s := fun s hs q => by
    have := opn_of T hin hy h hs q
    rw [hg s hs] at this
    cases this
  have k0 : ¬ y.1 < x.1 := k 0 (by omega)
  have k1 : ¬ y.2.1 < x.2.1 := k 1 (by omega)
  have k2 : ¬ x.2.2.1 < y.2.2.1 := k 2 (by omega)
  have k3 : ¬ x.2.2.2 < y.2.2.2 := k 3 (by omega)
  rw [lies_iff] at h
  obtain ⟨a, l, b, r⟩ := x
  obtain ⟨a', l', b', r'⟩ := y
  simp only [Prod.mk.injEq]
  dsimp only at h k0 k1 k2 k3
  omega
theorem mv_full (T : Tab R C t) {x : Bx} (hx : x ∈ fullBx t R C) {s : Nat} (hs : s < 4) (ho : opn t R C x s = true) : mvB x s ∈ fullBx t R C := by
  obtain ⟨a, l, b, r⟩ := x
  obtain ⟨⟨q1, q2, q3, q4⟩, hf⟩ := mem_fullBx.mp hx
  obtain ⟨hr, hc⟩ := (opn_iff T).mp ho
  rcases side4 hs with rfl | rfl | rfl | rfl
  · simp [rim] at hr
    have e : besB (a, l, b, r) 0 = (a - 1, l, a, r) := rfl
    rw [e] at hc
    show (a - 1, l, b, r) ∈ fullBx t R C
    refine mem_fullBx.mpr ⟨by omega, fun i h1 h2 j h3 h4 => ?_⟩
    rcases Nat.lt_or_ge i a with h5 | h5
    · exact hc (i, j) (by rw [mem_cellsL]; dsimp only; omega)
    · exact hf i h5 h2 j h3 h4
  · simp [rim] at hr
    have e : besB (a, l, b, r) 1 = (a, l - 1, b, l) := rfl
    rw [e] at hc
    show (a, l - 1, b, r) ∈ fullBx t R C
    refine mem_fullBx.mpr ⟨by omega, fun i h1 h2 j h3 h4 => ?_⟩
    rcases Nat.lt_or_ge j l with h5 | h5
    · exact hc (i, j) (by rw [mem_cellsL]; dsimp only; omega)
    · exact hf i h1 h2 j h5 h4
  · simp [rim] at hr
    have e : besB (a, l, b, r) 2 = (b, l, b + 1, r) := rfl
    rw [e] at hc
    show (a, l, b + 1, r) ∈ fullBx t R C
    refine mem_fullBx.mpr ⟨by omega, fun i h1 h2 j h3 h4 => ?_⟩
    rcases Nat.lt_or_ge i b with h5 | h5
    · exact hf i h1 h5 j h3 h4
    · exact hc (i, j) (by rw [mem_cellsL]; dsimp only; omega)
  · simp [rim] at hr
    have e : besB (a, l, b, r) 3 = (a, r, b, r + 1) := rfl
    rw [e] at hc
    show (a, l, b, r + 1) ∈ fullBx t R C
    refine mem_fullBx.mpr ⟨by omega, fun i h1 h2 j h3 h4 => ?_⟩
    rcases Nat.lt_or_ge j r with h5 | h5
    · exact hf i h1 h2 j h3 h5
    · exact hc (i, j) (by rw [mem_cellsL]; dsimp only; omega)
theorem mv_lies {x : Bx} {s : Nat} (hs : s < 4) : lies x (mvB x s) = true := by
  rw [lies_iff]
  rcases side4 hs with rfl | rfl | rfl | rfl <;> (simp only [mvB]; omega)
/-- how much more a box can grow at most -/
def roomB (R C : Nat) (x : Bx) : Nat := x.1 + x.2.1 + (R - x.2.2.1) + (C - x.2.2.2)
theorem grown_in (T : Tab R C t) : ∀ (n : Nat) {x : Bx}, roomB R C x ≤ n → x ∈ fullBx t R C → ∃ y, y ∈ grownBx t R C ∧ lies x y = true
  | n, x, hn, hx => by
    by_cases hg : isGrown t R C x = true
    · exact ⟨x, List.mem_filter.mpr ⟨hx, hg⟩, lies_self x⟩
    · obtain ⟨s, hs, ho⟩ : ∃ s, s < 4 ∧ opn t R C x s = true := by
        apply Classical.byContradiction
        intro q
        exact hg (grown_iff.mpr fun s hs => by
          cases e : opn t R C x s with
          | false => rfl
          | true => exact absurd ⟨s, hs, e⟩ q)
      have hm := mv_full T hx hs ho
      have hin := full_in hm
      have hlt : roomB R C (mvB x s) < roomB R C x := by
        have hr := ((opn_iff T).mp ho).1
        unfold InT at hin
        unfold roomB
        rcases side4 hs with rfl | rfl | rfl | rfl <;> (simp [rim] at hr; simp only [mvB] at *; omega)
      cases n with
      | zero => omega
      | succ n =>
        obtain ⟨y, hy, hl⟩ := grown_in T n (by omega) hm
        exact ⟨y, hy, lies_trans (mv_lies hs) hl⟩
/-- of the told ones just the box itself holds it -/
theorem grown_one (T : Tab R C t) {x : Bx} (hx : x ∈ grownBx t R C) : ((grownBx t R C).filter fun y => lies x y).length = 1 := by
  have nd : (grownBx t R C).Nodup := (grownBx_lt t R C).imp fun h => ltB_ne h
  have e : (grownBx t R C).filter (fun y => lies x y) = [x] := by
    have p : ((grownBx t R C).filter fun y => lies x y).Perm [x] := by
      rw [List.perm_ext_iff_of_nodup (nd.filter _) (by simp)]
      intro y
      rw [List.mem_filter, List.mem_singleton]
      constructor
      · rintro ⟨h1, h2⟩
        exact grown_max T hx (grown_sub h1) h2
      · rintro rfl
        exact ⟨hx, lies_self _⟩
    exact List.perm_singleton.mp p
  rw [e]; rfl
end
/-! ### tables by a condition -/
def heldT (R C : Nat) (p : Nat → Nat → Bool) : List (List Int) := (List.range R).map fun r => (List.range C).map fun c => if p r c then 1 else 0
theorem held_congr {R C : Nat} {p q : Nat → Nat → Bool} (h : ∀ i j, i < R → j < C → p i j = q i j) : heldT R C p = heldT R C q := by
  unfold heldT
  refine List.map_congr_left fun i hi => List.map_congr_left fun j hj => ?_
  rw [h i j (List.mem_range.mp hi) (List.mem_range.mp hj)]
theorem held_row {R C : Nat} {p : Nat → Nat → Bool} {r : Nat} (h : r < R) : (heldT R C p)[r]? = some ((List.range C).map fun c => if p r c then 1 else 0) := by
  unfold heldT
  rw [List.getElem?_map, List.getElem?_range h]; rfl
theorem held_set {R C : Nat} {p : Nat → Nat → Bool} {r c : Nat} (hr : r < R) (hc : c < C) : (heldT R C p).set r ((((List.range C).map fun c => if p r c then (1 : Int) else 0)).set c 1) = heldT R C (fun i j => p i j || (i == r && j == c)) := by
  apply List.ext_getElem?
  intro i
  rw [List.getElem?_set]
  by_cases h1 : r = i
  · subst h1
    have hl : r < (heldT R C p).length := by simp [heldT, hr]
    rw [if_pos rfl, if_pos hl, held_row hr]
    congr 1
    apply List.ext_getElem?
    intro j
    rw [List.getElem?_set]
    by_cases h2 : c = j
    · subst h2
      rw [if_pos rfl, if_pos (by simp [hc]), List.getElem?_map, List.getElem?_range hc]
      simp
    · rw [if_neg h2, List.getElem?_map, List.getElem?_map]
      by_cases h3 : j < C
      · rw [List.getElem?_range h3]
        have : (j == c) = false := by simp; omega
        simp only [Option.map_some, this, Bool.and_false, Bool.or_false]
      · rw [List.getElem?_eq_none (by simp; omega)]; rfl
  · rw [if_neg h1]
    by_cases h2 : i < R
    · rw [held_row h2, held_row h2]
      have : (i == r) = false := by simp; omega
      simp [this]
    · rw [List.getElem?_eq_none (by simp [heldT]; omega), List.getElem?_eq_none (by simp [heldT]; omega)]
theorem held_tab {R C : Nat} {p : Nat → Nat → Bool} : Tab R C (heldT R C p) := by
  refine ⟨by simp [heldT], fun x hx => ?_, fun x hx y hy => ?_⟩
  · obtain ⟨r, _, rfl⟩ := List.mem_map.mp hx
    simp
  · obtain ⟨r, _, rfl⟩ := List.mem_map.mp hx
    obtain ⟨c, _, rfl⟩ := List.mem_map.mp hy
    split
    · exact .inr rfl
    · exact .inl rfl
theorem held_cell {R C : Nat} {p : Nat → Nat → Bool} {r c : Nat} (hr : r < R) (hc : c < C) : cell (heldT R C p) r c = if p r c then 1 else 0 := by
  unfold cell
  rw [held_row hr, Option.bind_some, List.getElem?_map, List.getElem?_range hc]; rfl
theorem tab_ext {R C : Nat} {t u : List (List Int)} (T : Tab R C t) (U : Tab R C u) (h : ∀ r c, r < R → c < C → cell t r c = cell u r c) : t = u := by
  apply List.ext_getElem?
  intro r
  by_cases hr : r < R
  · obtain ⟨row, h1, h2, _⟩ := T.get hr
    obtain ⟨row', h1', h2', _⟩ := U.get hr
    rw [h1, h1']
    congr 1
    apply List.ext_getElem?
    intro c
    by_cases hc : c < C
    · have q := h r c hr hc
      have e1 : row[c]? = some row[c] := List.getElem?_eq_getElem (by omega)
      have e2 : row'[c]? = some row'[c] := List.getElem?_eq_getElem (by omega)
      unfold cell at q
      rw [h1, h1', Option.bind_some, Option.bind_some, e1, e2] at q
      rw [e1, e2]
      congr 1
    · rw [List.getElem?_eq_none (by omega), List.getElem?_eq_none (by omega)]
  · rw [List.getElem?_eq_none (by rw [T.len]; omega), List.getElem?_eq_none (by rw [U.len]; omega)]
def inBx (x : Bx) (i j : Nat) : Bool := decide (x.1 ≤ i ∧ i < x.2.2.1) && decide (x.2.1 ≤ j ∧ j < x.2.2.2)
/-- a table is the cells of its full-grown boxes -/
theorem held_grown {R C : Nat} {t : List (List Int)} (T : Tab R C t) : heldT R C (fun i j => (grownBx t R C).any fun x => inBx x i j) = t := by
  refine tab_ext held_tab T fun r c hr hc => ?_
  rw [held_cell hr hc]
  cases h : (grownBx t R C).any fun x => inBx x r c with
  | true =>
    obtain ⟨⟨a, l, b, r'⟩, hx, hi⟩ := List.any_eq_true.mp h
    have hf := (mem_fullBx.mp (grown_sub hx)).2
    simp only [inBx, Bool.and_eq_true, decide_eq_true_eq] at hi
    exact (hf r hi.1.1 hi.1.2 c hi.2.1 hi.2.2).symm
  | false =>
    rcases cell_bit T r c with q | q
    · rw [q]; rfl
    · exfalso
      have hx : (r, c, r + 1, c + 1) ∈ fullBx t R C := mem_fullBx.mpr ⟨by omega, fun i h1 h2 j h3 h4 => by rw [show i = r by omega, show j = c by omega]; exact q⟩
      obtain ⟨y, hy, hl⟩ := grown_in T _ (Nat.le_refl _) hx
      rw [lies_iff] at hl
      dsimp only at hl
      have := List.any_eq_false.mp h y hy
      apply this
      simp only [inBx, Bool.and_eq_true, decide_eq_true_eq]
      omega
/-! ### all yes, all no -/
def sameT (R C : Nat) (w : Int) : List (List Int) := List.replicate R (List.replicate C w)
theorem same_tab {R C : Nat} {w : Int} (hw : w = 0 ∨ w = 1) : Tab R C (sameT R C w) := tab_rep hw
theorem same_cell {R C : Nat} {w : Int} {r c : Nat} (hr : r < R) (hc : c < C) : cell (sameT R C w) r c = w := by
  unfold cell sameT
  simp [List.getElem?_replicate, hr, hc]
theorem full_same1 {R C : Nat} : fullBx (sameT R C 1) R C = allBx R C := by
  unfold fullBx
  rw [List.filter_eq_self]
  intro x hx
  obtain ⟨a, l, b, r⟩ := x
  obtain ⟨h1, h2, h3, h4⟩ := mem_allBx.mp hx
  dsimp only at *
  exact isFull_iff.mpr fun i h5 h6 j h7 h8 => same_cell (by omega) (by omega)
theorem full_same0 {R C : Nat} : fullBx (sameT R C 0) R C = [] := by
  unfold fullBx
  rw [List.filter_eq_nil_iff]
  intro x hx
  obtain ⟨a, l, b, r⟩ := x
  obtain ⟨h1, h2, h3, h4⟩ := mem_allBx.mp hx
  dsimp only at *
  intro q
  have := isFull_iff.mp q a (by omega) (by omega) l (by omega) (by omega)
  rw [same_cell (by omega) (by omega)] at this
  cases this
theorem grown_same0 {R C : Nat} : grownBx (sameT R C 0) R C = [] := by unfold grownBx; rw [full_same0]; rfl
theorem grown_same1 {R C : Nat} (hR : 0 < R) (hC : 0 < C) : grownBx (sameT R C 1) R C = [(0, 0, R, C)] := by
  have T := same_tab (R := R) (C := C) (w := 1) (.inr rfl)
  have hw : (0, 0, R, C) ∈ fullBx (sameT R C 1) R C := by rw [full_same1, mem_allBx]; dsimp only; omega
  have nd : (grownBx (sameT R C 1) R C).Nodup := (grownBx_lt _ R C).imp fun h => ltB_ne h
  have hin : ∀ {y : Bx}, y ∈ grownBx (sameT R C 1) R C → y = (0, 0, R, C) := fun {y} hy => by
    have h1 := full_in (grown_sub hy)
    unfold InT at h1
    exact (grown_max T hy hw (by rw [lies_iff]; dsimp only; omega)).symm
  have p : (grownBx (sameT R C 1) R C).Perm [(0, 0, R, C)] := by
    rw [List.perm_ext_iff_of_nodup nd (by simp)]
    intro y
    rw [List.mem_singleton]
    constructor
    · exact hin
    · rintro rfl
      obtain ⟨z, hz, _⟩ := grown_in T _ (Nat.le_refl _) hw
      have := hin hz
      subst this
      exact hz
  exact List.perm_singleton.mp p
end VS
end

section
set_option maxHeartbeats 1000000
/-! VS28: one cell put; boxes counted; boxes with one side moved in. No program in sight. -/
namespace VS
open PySem L2 VS
def putT (t : List (List Int)) (r c : Nat) (w : Int) : List (List Int) := t.set r (((t[r]?).getD []).set c w)
section
variable {R C : Nat} {t : List (List Int)}
theorem put_tab (T : Tab R C t) {r c : Nat} {w : Int} (hr : r < R) (hw : w = 0 ∨ w = 1) : Tab R C (putT t r c w) := by
  obtain ⟨row, h1, h2, h3⟩ := T.get hr
  unfold putT
  rw [h1]
  exact T.set (by simpa using h2) (set_bit h3 hw)
theorem put_cell (T : Tab R C t) {r c : Nat} {w : Int} (hr : r < R) (hc : c < C) (i j : Nat) : cell (putT t r c w) i j = if i = r ∧ j = c then w else cell t i j := by
  obtain ⟨row, h1, h2, h3⟩ := T.get hr
  unfold putT cell
  rw [h1, List.getElem?_set]
  by_cases hi : r = i
  · subst hi
    rw [if_pos rfl, if_pos (lt_of_get h1), Option.bind_some, h1, Option.bind_some, Option.getD_some, List.getElem?_set]
    by_cases hj : c = j
    · subst hj
      rw [if_pos rfl, if_pos (by omega), if_pos ⟨rfl, rfl⟩]; rfl
    · rw [if_neg hj, if_neg fun q => hj q.2.symm]
  · rw [if_neg hi, if_neg fun q => hi q.1.symm]
theorem put_self (T : Tab R C t) {r c : Nat} (hr : r < R) (hc : c < C) {w : Int} (h : cell t r c = w) : putT t r c w = t := by
  have hw : w = 0 ∨ w = 1 := by rw [← h]; exact cell_bit T r c
  refine tab_ext (put_tab T hr hw) T fun i j _ _ => ?_
  rw [put_cell T hr hc]
  by_cases q : i = r ∧ j = c
  · rw [if_pos q, q.1, q.2, h]
  · rw [if_neg q]
def holdsB (x : Bx) (r c : Nat) : Bool := inBx x r c
theorem put_fewer (T : Tab R C t) {r c : Nat} (hr : r < R) (hc : c < C) : fullBx (putT t r c 0) R C = (fullBx (putT t r c 1) R C).filter fun x => !inBx x r c := by
  unfold fullBx
  rw [List.filter_filter]
  refine List.filter_congr fun x hx => ?_
  obtain ⟨a, l, b, r'⟩ := x
  rw [Bool.eq_iff_iff, Bool.and_eq_true, isFull_iff, isFull_iff, Bool.not_eq_true', inBx, Bool.and_eq_false_iff]
  simp only [decide_eq_false_iff_not, put_cell T hr hc]
  constructor
  · intro h
    refine ⟨?_, fun i h1 h2 j h3 h4 => ?_⟩
    · apply Classical.byContradiction
      intro q
      have q' : (a ≤ r ∧ r < b) ∧ l ≤ c ∧ c < r' := by
        constructor
        · apply Classical.byContradiction; intro z; exact q (.inl z)
        · apply Classical.byContradiction; intro z; exact q (.inr z)
      have := h r q'.1.1 q'.1.2 c q'.2.1 q'.2.2
      rw [if_pos ⟨rfl, rfl⟩] at this
      cases this
    · have := h i h1 h2 j h3 h4
      by_cases q : i = r ∧ j = c
      · rw [if_pos q]
      · rw [if_neg q] at this ⊢; exact this
  · rintro ⟨h0, h⟩ i h1 h2 j h3 h4
    have := h i h1 h2 j h3 h4
    by_cases q : i = r ∧ j = c
    · exfalso
      obtain ⟨rfl, rfl⟩ := q
      rcases h0 with z | z
      · exact z ⟨h1, h2⟩
      · exact z ⟨h3, h4⟩
    · rw [if_neg q] at this ⊢; exact this
theorem one_full {r c : Nat} (hr : r < R) (hc : c < C) : (r, c, r + 1, c + 1) ∈ fullBx t R C ↔ cell t r c = 1 := by
  rw [mem_fullBx]
  constructor
  · intro h
    exact h.2 r (by omega) (by omega) c (by omega) (by omega)
  · intro h
    exact ⟨by omega, fun i h1 h2 j h3 h4 => by rw [show i = r by omega, show j = c by omega]; exact h⟩
theorem put_more (T : Tab R C t) {r c : Nat} (hr : r < R) (hc : c < C) : (r, c, r + 1, c + 1) ∈ fullBx (putT t r c 1) R C := by
  rw [one_full hr hc, put_cell T hr hc, if_pos ⟨rfl, rfl⟩]
/-- all are as many as before just where the cell is a yes -/
theorem put_eq (T : Tab R C t) {r c : Nat} (hr : r < R) (hc : c < C) : decide (fullBx t R C = fullBx (putT t r c 1) R C) = (cell t r c == 1) := by
  rw [Bool.eq_iff_iff, decide_eq_true_eq, beq_iff_eq]
  constructor
  · intro h
    have := put_more T hr hc
    rw [← h, one_full hr hc] at this
    exact this
  · intro h
    rw [put_self T hr hc h]
theorem put_in (T : Tab R C t) {r c : Nat} (hr : r < R) (hc : c < C) : fullBx t R C = fullBx (putT t r c 1) R C ∨ fullBx t R C = fullBx (putT t r c 0) R C := by
  rcases cell_bit T r c with h | h
  · exact .inr (by rw [put_self T hr hc h])
  · exact .inl (by rw [put_self T hr hc h])
end
theorem allBx_count : ∀ R, R < 11 → ∀ C, C < 11 → (allBx R C).length = R * (R + 1) / 2 * (C * (C + 1) / 2) := by decide +kernel
/-- the boxes with one side moved in by one -/
def inL (x : Bx) : List Bx := [(x.1 + 1, x.2.1, x.2.2.1, x.2.2.2), (x.1, x.2.1 + 1, x.2.2.1, x.2.2.2), (x.1, x.2.1, x.2.2.1 - 1, x.2.2.2), (x.1, x.2.1, x.2.2.1, x.2.2.2 - 1)]
def lessL (x : Bx) : List Bx := (inL x).filter fun y => decide (y.1 < y.2.2.1) && decide (y.2.1 < y.2.2.2)
theorem less_full {R C : Nat} {t : List (List Int)} {x y : Bx} (hx : x ∈ fullBx t R C) (hy : y ∈ lessL x) : y ∈ fullBx t R C := by
  obtain ⟨a, l, b, r⟩ := x
  obtain ⟨⟨h1, h2, h3, h4⟩, hf⟩ := mem_fullBx.mp hx
  unfold lessL inL at hy
  rw [List.mem_filter] at hy
  obtain ⟨hm, hc⟩ := hy
  simp only [Bool.and_eq_true, decide_eq_true_eq] at hc
  simp only [List.mem_cons, List.not_mem_nil, or_false] at hm
  rcases hm with rfl | rfl | rfl | rfl
  · dsimp only at hc
    exact mem_fullBx.mpr ⟨by omega, fun i q1 q2 j q3 q4 => hf i (by omega) (by omega) j (by omega) (by omega)⟩
  · dsimp only at hc
    exact mem_fullBx.mpr ⟨by omega, fun i q1 q2 j q3 q4 => hf i (by omega) (by omega) j (by omega) (by omega)⟩
  · dsimp only at hc
    exact mem_fullBx.mpr ⟨by omega, fun i q1 q2 j q3 q4 => hf i (by omega) (by omega) j (by omega) (by omega)⟩
  · dsimp only at hc
    exact mem_fullBx.mpr ⟨by omega, fun i q1 q2 j q3 q4 => hf i (by omega) (by omega) j (by omega) (by omega)⟩
theorem full_is {t : List (List Int)} {R C : Nat} {x : Bx} (h : x ∈ fullBx t R C) : isFull t x = true := (List.mem_filter.mp h).2
theorem mulT {d : D} (hd : noOwn d = true) {n : Nat} (h1 : 0 < n) (h2 : n ≤ 1000) : opMulD (.tup [d]) (.int n) = some (.tup (List.replicate n d)) := by
  unfold opMulD
  simp only
  rw [if_pos ⟨by simp [noOwns, hd], by simp, by omega, by omega, by simp⟩, Int.toNat_natCast, flat1]
theorem noOwns_rep {d : D} (n : Nat) (h : noOwn d = true) : noOwns (List.replicate n d) = true := by
  induction n with
  | zero => rfl
  | succ n ih => rw [List.replicate_succ, noOwns, h, ih]; rfl
section
variable {R C : Nat}
theorem sameD {w : Int} : D.tup (List.replicate R (.tup (List.replicate C (.int w)))) = tupT (sameT R C w) := by
  unfold tupT sameT tupR
  rw [List.map_replicate, List.map_replicate]
end
theorem runD_nx {gl : Nat → Option D} {call : Call} {d : Def} {ds : List D} {g0 g : Gm} (hl : ds.length = d.np) (h0 : ds.map some ++ List.replicate (d.ns - d.np) none = g0) (h : denSs gl call d.body g0 = .ok (.nx, g)) : runD gl call d ds = .ok (.non, outs d g) := by
  unfold runD
  rw [if_pos hl, h0, h]
end VS
end

section
set_option maxHeartbeats 1000000
/-! VS29: tables turned about, mirrored, opposite; boxes with them. No program in sight. -/
namespace VS
open PySem L2 VS
def genT (A B : Nat) (f : Nat → Nat → Int) : List (List Int) := (List.range A).map fun i => (List.range B).map fun j => f i j
theorem gen_row {A B : Nat} {f : Nat → Nat → Int} {i : Nat} (h : i < A) : (genT A B f)[i]? = some ((List.range B).map fun j => f i j) := by
  unfold genT
  rw [List.getElem?_map, List.getElem?_range h]; rfl
theorem gen_cell {A B : Nat} {f : Nat → Nat → Int} {i j : Nat} (hi : i < A) (hj : j < B) : cell (genT A B f) i j = f i j := by
  unfold cell
  rw [gen_row hi, Option.bind_some, List.getElem?_map, List.getElem?_range hj]; rfl
theorem gen_tab {A B : Nat} {f : Nat → Nat → Int} (h : ∀ i j, i < A → j < B → f i j = 0 ∨ f i j = 1) : Tab A B (genT A B f) := by
  refine ⟨by simp [genT], fun x hx => ?_, fun x hx y hy => ?_⟩
  · obtain ⟨r, _, rfl⟩ := List.mem_map.mp hx
    simp
  · obtain ⟨r, hr, rfl⟩ := List.mem_map.mp hx
    obtain ⟨c, hc, rfl⟩ := List.mem_map.mp hy
    exact h r c (List.mem_range.mp hr) (List.mem_range.mp hc)
section
variable {R C : Nat} {t : List (List Int)}
theorem row_is (T : Tab R C t) {r : Nat} {row : List Int} (h : t[r]? = some row) : row = (List.range C).map fun c => cell t r c := by
  have hl : row.length = C := T.row row (List.mem_of_getElem? h)
  apply List.ext_getElem?
  intro c
  rw [List.getElem?_map]
  by_cases hc : c < C
  · rw [List.getElem?_range hc, Option.map_some]
    unfold cell
    rw [h, Option.bind_some, List.getElem?_eq_getElem (by omega)]; rfl
  · rw [List.getElem?_eq_none (by omega), List.getElem?_eq_none (by simp; omega)]; rfl
theorem tab_gen (T : Tab R C t) : t = genT R C (cell t) := tab_ext T (gen_tab fun i j _ _ => cell_bit T i j) fun r c hr hc => (gen_cell hr hc).symm
def turnT (t : List (List Int)) (R C : Nat) : List (List Int) := genT C R fun c r => cell t r c
def mirT (t : List (List Int)) (R C : Nat) : List (List Int) := genT R C fun r c => cell t r (C - 1 - c)
def oppT (t : List (List Int)) (R C : Nat) : List (List Int) := genT R C fun r c => 1 - cell t r c
theorem turn_tab (T : Tab R C t) : Tab C R (turnT t R C) := gen_tab fun i j _ _ => cell_bit T j i
theorem mir_tab (T : Tab R C t) : Tab R C (mirT t R C) := gen_tab fun i j _ _ => cell_bit T i _
theorem opp_tab (T : Tab R C t) : Tab R C (oppT t R C) := gen_tab fun i j _ _ => by rcases cell_bit T i j with h | h <;> omega
theorem turn_turn (T : Tab R C t) : turnT (turnT t R C) C R = t := tab_ext (turn_tab (turn_tab T)) T fun r c hr hc => by
  unfold turnT
  rw [gen_cell hr hc, gen_cell hc hr]
theorem mir_mir (T : Tab R C t) : mirT (mirT t R C) R C = t := tab_ext (mir_tab (mir_tab T)) T fun r c hr hc => by
  unfold mirT
  rw [gen_cell hr hc, gen_cell hr (by omega), show C - 1 - (C - 1 - c) = c by omega]
theorem opp_opp (T : Tab R C t) : oppT (oppT t R C) R C = t := tab_ext (opp_tab (opp_tab T)) T fun r c hr hc => by
  unfold oppT
  rw [gen_cell hr hc, gen_cell hr hc]
  omega
/-- the tables as the program makes them -/
theorem mir_rows (T : Tab R C t) : t.map List.reverse = mirT t R C := by
  apply List.ext_getElem?
  intro r
  rw [List.getElem?_map]
  by_cases hr : r < R
  · obtain ⟨row, h1, h2, _⟩ := T.get hr
    unfold mirT
    rw [h1, gen_row hr, Option.map_some, row_is T h1]
    congr 1
    apply List.ext_getElem?
    intro c
    by_cases hc : c < C
    · rw [List.getElem?_reverse (by simpa using hc), List.getElem?_map, List.getElem?_map, List.length_map, List.length_range, List.getElem?_range (by omega), List.getElem?_range hc]
      rfl
    · rw [List.getElem?_eq_none (by simp; omega), List.getElem?_eq_none (by simp; omega)]
  · rw [List.getElem?_eq_none (by rw [T.len]; omega), List.getElem?_eq_none (by simp [mirT, genT]; omega)]; rfl
theorem opp_rows (T : Tab R C t) : (t.map fun row => row.map fun y => 1 - y) = oppT t R C := by
  apply List.ext_getElem?
  intro r
  rw [List.getElem?_map]
  by_cases hr : r < R
  · obtain ⟨row, h1, h2, _⟩ := T.get hr
    unfold oppT
    rw [h1, gen_row hr, Option.map_some, row_is T h1, List.map_map]
    rfl
  · rw [List.getElem?_eq_none (by rw [T.len]; omega), List.getElem?_eq_none (by simp [oppT, genT]; omega)]; rfl
theorem col_is (T : Tab R C t) (c : Nat) : (t.map fun row => row.getD c 0) = (List.range R).map fun r => cell t r c := by
  apply List.ext_getElem?
  intro r
  rw [List.getElem?_map, List.getElem?_map]
  by_cases hr : r < R
  · obtain ⟨row, h1, h2, _⟩ := T.get hr
    rw [h1, List.getElem?_range hr]
    simp only [Option.map_some]
    congr 1
    unfold cell
    rw [h1, Option.bind_some, List.getD_eq_getElem?_getD]
  · rw [List.getElem?_eq_none (by rw [T.len]; omega), List.getElem?_eq_none (by simp; omega)]; rfl
/-! boxes -/
def tB (x : Bx) : Bx := (x.2.1, x.1, x.2.2.2, x.2.2.1)
def mB (C : Nat) (x : Bx) : Bx := (x.1, C - x.2.2.2, x.2.2.1, C - x.2.1)
theorem tB_tB (x : Bx) : tB (tB x) = x := rfl
theorem mB_mB {x : Bx} (h : x.2.1 ≤ C) (h' : x.2.2.2 ≤ C) : mB C (mB C x) = x := by
  obtain ⟨a, l, b, r⟩ := x
  simp only [mB, Prod.mk.injEq, true_and]
  dsimp only at h h'
  omega
theorem full_turn {x : Bx} (hx : InT R C x) : isFull (turnT t R C) (tB x) = isFull t x := by
  obtain ⟨a, l, b, r⟩ := x
  unfold InT at hx
  dsimp only at hx
  rw [Bool.eq_iff_iff]
  show isFull (turnT t R C) (l, a, r, b) = true ↔ _
  rw [isFull_iff, isFull_iff]
  constructor
  · intro h i h1 h2 j h3 h4
    have := h j h3 h4 i h1 h2
    unfold turnT at this
    rw [gen_cell (by omega) (by omega)] at this
    exact this
  · intro h i h1 h2 j h3 h4
    unfold turnT
    rw [gen_cell (by omega) (by omega)]
    exact h j h3 h4 i h1 h2
theorem full_mir {x : Bx} (hx : InT R C x) : isFull (mirT t R C) (mB C x) = isFull t x := by
  obtain ⟨a, l, b, r⟩ := x
  unfold InT at hx
  dsimp only at hx
  rw [Bool.eq_iff_iff]
  show isFull (mirT t R C) (a, C - r, b, C - l) = true ↔ _
  rw [isFull_iff, isFull_iff]
  constructor
  · intro h i h1 h2 j h3 h4
    have := h i h1 h2 (C - 1 - j) (by omega) (by omega)
    unfold mirT at this
    rw [gen_cell (by omega) (by omega), show C - 1 - (C - 1 - j) = j by omega] at this
    exact this
  · intro h i h1 h2 j h3 h4
    unfold mirT
    rw [gen_cell (by omega) (by omega)]
    exact h i h1 h2 (C - 1 - j) (by omega) (by omega)
theorem inT_turn {x : Bx} (h : InT R C x) : InT C R (tB x) := by unfold InT tB at *; dsimp only; omega
theorem inT_mir {x : Bx} (h : InT R C x) : InT R C (mB C x) := by unfold InT mB at *; dsimp only; omega
theorem mem_full {x : Bx} : x ∈ fullBx t R C ↔ InT R C x ∧ isFull t x = true := by
  obtain ⟨a, l, b, r⟩ := x
  rw [mem_fullBx, isFull_iff]
  rfl
theorem turn_nodup (t : List (List Int)) (R C : Nat) : ((fullBx t R C).map tB).Nodup := by
  have nd : (fullBx t R C).Nodup := (fullBx_lt t R C).imp fun h => ltB_ne h
  unfold List.Nodup at *
  rw [List.pairwise_map]
  exact nd.imp fun {x y} h e => h (by rw [← tB_tB x, e, tB_tB])
theorem mir_nodup (t : List (List Int)) (R C : Nat) : ((fullBx t R C).map (mB C)).Nodup := by
  have nd : (fullBx t R C).Nodup := (fullBx_lt t R C).imp fun h => ltB_ne h
  unfold List.Nodup at *
  rw [List.pairwise_map]
  refine List.Pairwise.imp_of_mem (fun {x y} hx hy h e => h ?_) nd
  have h1 := full_in hx
  have h2 := full_in hy
  unfold InT at h1 h2
  rw [← mB_mB (C := C) (x := x) (by omega) (by omega), e, mB_mB (by omega) (by omega)]
theorem sorted_turn {o : Bool} : opSorted (.lst o (((fullBx t R C).map tB).map boxD)) = some (.lst true ((fullBx (turnT t R C) C R).map boxD)) :=
  sorted_bx (turn_nodup t R C) (fullBx_lt _ _ _) fun x => by
    rw [List.mem_map, mem_full]
    constructor
    · rintro ⟨y, hy, rfl⟩
      obtain ⟨h1, h2⟩ := mem_full.mp hy
      exact ⟨inT_turn h1, by rw [full_turn h1]; exact h2⟩
    · rintro ⟨h1, h2⟩
      have h3 : InT R C (tB x) := inT_turn h1
      refine ⟨tB x, mem_full.mpr ⟨h3, ?_⟩, tB_tB x⟩
      rw [← full_turn (t := t) h3, tB_tB]
      exact h2
theorem sorted_mir {o : Bool} : opSorted (.lst o (((fullBx t R C).map (mB C)).map boxD)) = some (.lst true ((fullBx (mirT t R C) R C).map boxD)) :=
  sorted_bx (mir_nodup t R C) (fullBx_lt _ _ _) fun x => by
    rw [List.mem_map, mem_full]
    constructor
    · rintro ⟨y, hy, rfl⟩
      obtain ⟨h1, h2⟩ := mem_full.mp hy
      exact ⟨inT_mir h1, by rw [full_mir h1]; exact h2⟩
    · rintro ⟨h1, h2⟩
      have h3 : InT R C (mB C x) := inT_mir h1
      have h4 := h1
      unfold InT at h4
      have e : mB C (mB C x) = x := mB_mB (by omega) (by omega)
      refine ⟨mB C x, mem_full.mpr ⟨h3, ?_⟩, e⟩
      rw [← full_mir (t := t) h3, e]
      exact h2
/-- one cell: full of just one of a table and its opposite -/
theorem opp_one {r c : Nat} (T : Tab R C t) (hr : r < R) (hc : c < C) : isFull (oppT t R C) (r, c, r + 1, c + 1) = !isFull t (r, c, r + 1, c + 1) := by
  have e : ∀ u : List (List Int), isFull u (r, c, r + 1, c + 1) = (cell u r c == 1) := fun u => by
    rw [Bool.eq_iff_iff, isFull_iff, beq_iff_eq]
    constructor
    · intro h; exact h r (by omega) (by omega) c (by omega) (by omega)
    · intro h i h1 h2 j h3 h4
      rw [show i = r by omega, show j = c by omega]; exact h
  rw [e, e]
  unfold oppT
  rw [gen_cell hr hc]
  rcases cell_bit T r c with h | h <;> rw [h] <;> rfl
end
end VS
end

section
set_option maxHeartbeats 4000000
namespace VS.Law
open PySem PySem.Spec PyProof.Rows L2 VS
abbrev i_size_of : Nat := 0
abbrev i_yes_at : Nat := 1
abbrev i_around : Nat := 2
abbrev i_corners_of : Nat := 3
abbrev i_flat_end : Nat := 4
abbrev i_upright_end : Nat := 5
abbrev i_chords_of : Nat := 6
abbrev i_is_flat : Nat := 7
abbrev i_chords_meet : Nat := 8
abbrev i_law_pool : Nat := 9
abbrev i_law_next : Nat := 10
abbrev i_law_laid : Nat := 11
abbrev i_law_table : Nat := 12
abbrev i_law_at : Nat := 13
abbrev i_law_corners : Nat := 14
abbrev i_law_chords : Nat := 15
abbrev i_law_on : Nat := 16
abbrev i_law_meet : Nat := 17
abbrev i_law : Nat := 18
/-- size_of(table): 0=table -/
def b_size_of : ISs := (.cons (.ret (.tup (.val (.op .len (.slt 0 .nil)) (.val (.op .len (.pla (.ix (.slot 0) (.num 0)))) .nil)))) .nil)
def d_size_of : Def := { name := "size_of", np := 1, ns := 1, asg := [], body := b_size_of }
/-- yes_at(table, r, c): 0=table, 1=r, 2=c, 3=rows, 4=columns -/
def b_yes_at : ISs := (.cons (.asg (.tup [3, 4]) (.call i_size_of (.slt 0 .nil))) (.cons (.iff (.band (.cons (.chn .le .lt (.con (.int 0)) (.rd (.slot 1)) (.rd (.slot 3))) (.cons (.chn .le .lt (.con (.int 0)) (.rd (.slot 2)) (.rd (.slot 4))) .nil))) (.cons (.ret (.rd (.ix (.ix (.slot 0) (.var 1)) (.var 2)))) .nil) .nil) (.cons (.ret (.con (.int 0))) .nil)))
def d_yes_at : Def := { name := "yes_at", np := 3, ns := 5, asg := [3, 4], body := b_yes_at }
/-- around(table, r, c): 0=table, 1=r, 2=c -/
def b_around : ISs := (.cons (.ret (.lst (.val (.call i_yes_at (.slt 0 (.val (.op .sub (.slt 1 (.val (.con (.int 1)) .nil))) (.val (.op .sub (.slt 2 (.val (.con (.int 1)) .nil))) .nil)))) (.val (.call i_yes_at (.slt 0 (.val (.op .sub (.slt 1 (.val (.con (.int 1)) .nil))) (.slt 2 .nil)))) (.val (.call i_yes_at (.slt 0 (.slt 1 (.val (.op .sub (.slt 2 (.val (.con (.int 1)) .nil))) .nil)))) (.val (.call i_yes_at (.slt 0 (.slt 1 (.slt 2 .nil)))) .nil)))))) .nil)
def d_around : Def := { name := "around", np := 3, ns := 3, asg := [], body := b_around }
/-- corners_of(table): 0=table, 1=rows, 2=columns, 3=outs, 4=crossed, 5=ins, 6=r, 7=c, 8=worths -/
def b_corners_of_0 : ISs := (.cons (.iff (.band (.cons (.op .eq (.val (.op .suml (.slt 8 .nil)) (.val (.con (.int 2)) .nil))) (.cons (.op .eq (.val (.rd (.ix (.slot 8) (.num 0))) (.pla (.ix (.slot 8) (.num 3))))) .nil))) (.cons (.ex (.mth .append (.slot 4) (.val (.tup (.val (.rd (.slot 6)) (.val (.rd (.slot 7)) .nil))) .nil))) .nil) .nil) .nil)
def b_corners_of_1 : ISs := (.cons (.iff (.op .eq (.val (.op .suml (.slt 8 .nil)) (.val (.con (.int 3)) .nil))) (.cons (.ex (.mth .append (.slot 5) (.val (.tup (.val (.rd (.slot 6)) (.val (.rd (.slot 7)) .nil))) .nil))) .nil) b_corners_of_0) .nil)
def b_corners_of_2 : ISs := (.cons (.asg (.nm 8) (.call i_around (.slt 0 (.slt 6 (.slt 7 .nil))))) (.cons (.iff (.op .eq (.val (.op .suml (.slt 8 .nil)) (.val (.con (.int 1)) .nil))) (.cons (.ex (.mth .append (.slot 3) (.val (.tup (.val (.rd (.slot 6)) (.val (.rd (.slot 7)) .nil))) .nil))) .nil) b_corners_of_1) .nil))
def b_corners_of_3 : ISs := (.cons (.frr (.rng1 (.val (.op .add (.slt 2 (.val (.con (.int 1)) .nil))) .nil)) (.nm 7) b_corners_of_2 [7, 8]) .nil)
def b_corners_of : ISs := (.cons (.asg (.tup [1, 2]) (.call i_size_of (.slt 0 .nil))) (.cons (.par [3, 4, 5] (.val (.lst .nil) (.val (.lst .nil) (.val (.lst .nil) .nil)))) (.cons (.frr (.rng1 (.val (.op .add (.slt 1 (.val (.con (.int 1)) .nil))) .nil)) (.nm 6) b_corners_of_3 [6, 7, 8]) (.cons (.ret (.tup (.val (.mv 3) (.val (.mv 4) (.val (.mv 5) .nil))))) .nil))))
def d_corners_of : Def := { name := "corners_of", np := 1, ns := 9, asg := [1, 2, 3, 4, 5, 6, 7, 8], body := b_corners_of }
/-- flat_end(table, r, c): 0=table, 1=r, 2=c -/
def e_flat_end_0 : IE := (.band (.cons (.op .eq (.val (.call i_yes_at (.slt 0 (.val (.op .sub (.slt 1 (.val (.con (.int 1)) .nil))) (.slt 2 .nil)))) (.val (.con (.int 1)) .nil))) (.cons (.op .eq (.val (.call i_yes_at (.slt 0 (.slt 1 (.slt 2 .nil)))) (.val (.con (.int 1)) .nil))) .nil)))
def b_flat_end_1 : ISs := (.cons (.asg (.nm 2) (.op .add (.slt 2 (.val (.con (.int 1)) .nil)))) .nil)
def b_flat_end : ISs := (.cons (.whl 1000000 e_flat_end_0 b_flat_end_1 []) (.cons (.ret (.rd (.slot 2))) .nil))
def d_flat_end : Def := { name := "flat_end", np := 3, ns := 3, asg := [2], body := b_flat_end }
/-- upright_end(table, r, c): 0=table, 1=r, 2=c -/
def e_upright_end_0 : IE := (.band (.cons (.op .eq (.val (.call i_yes_at (.slt 0 (.slt 1 (.val (.op .sub (.slt 2 (.val (.con (.int 1)) .nil))) .nil)))) (.val (.con (.int 1)) .nil))) (.cons (.op .eq (.val (.call i_yes_at (.slt 0 (.slt 1 (.slt 2 .nil)))) (.val (.con (.int 1)) .nil))) .nil)))
def b_upright_end_1 : ISs := (.cons (.asg (.nm 1) (.op .add (.slt 1 (.val (.con (.int 1)) .nil)))) .nil)
def b_upright_end : ISs := (.cons (.whl 1000000 e_upright_end_0 b_upright_end_1 []) (.cons (.ret (.rd (.slot 1))) .nil))
def d_upright_end : Def := { name := "upright_end", np := 3, ns := 3, asg := [1], body := b_upright_end }
/-- chords_of(table): 0=table, 1=ins, 2=found, 3=r, 4=c, 5=right, 6=bottom -/
def b_chords_of_0 : ISs := (.cons (.asg (.nm 5) (.call i_flat_end (.slt 0 (.slt 3 (.val (.rd (.slot 4)) .nil))))) (.cons (.iff (.band (.cons (.op .gt (.slt 5 (.slt 4 .nil))) (.cons (.op .inn (.val (.tup (.val (.rd (.slot 3)) (.val (.rd (.slot 5)) .nil))) (.slt 1 .nil))) .nil))) (.cons (.ex (.mth .append (.slot 2) (.val (.tup (.val (.rd (.slot 3)) (.val (.rd (.slot 4)) (.val (.rd (.slot 3)) (.val (.rd (.slot 5)) .nil))))) .nil))) .nil) .nil) (.cons (.asg (.nm 6) (.call i_upright_end (.slt 0 (.val (.rd (.slot 3)) (.slt 4 .nil))))) (.cons (.iff (.band (.cons (.op .gt (.slt 6 (.slt 3 .nil))) (.cons (.op .inn (.val (.tup (.val (.rd (.slot 6)) (.val (.rd (.slot 4)) .nil))) (.slt 1 .nil))) .nil))) (.cons (.ex (.mth .append (.slot 2) (.val (.tup (.val (.rd (.slot 3)) (.val (.rd (.slot 4)) (.val (.rd (.slot 6)) (.val (.rd (.slot 4)) .nil))))) .nil))) .nil) .nil) .nil))))
def b_chords_of : ISs := (.cons (.asg (.nm 1) (.op .ix (.val (.fx (.call i_corners_of (.slt 0 .nil))) (.val (.con (.int 2)) .nil)))) (.cons (.asg (.nm 2) (.lst .nil)) (.cons (.frr (.seq (.rd (.slot 1))) (.tup [3, 4]) b_chords_of_0 [3, 4, 5, 6]) (.cons (.ret (.op .sorted (.slt 2 .nil))) .nil))))
def d_chords_of : Def := { name := "chords_of", np := 1, ns := 7, asg := [1, 2, 3, 4, 5, 6], body := b_chords_of }
/-- is_flat(chord): 0=chord -/
def b_is_flat : ISs := (.cons (.ret (.op .eq (.val (.rd (.ix (.slot 0) (.num 0))) (.pla (.ix (.slot 0) (.num 2)))))) .nil)
def d_is_flat : Def := { name := "is_flat", np := 1, ns := 1, asg := [], body := b_is_flat }
/-- chords_meet(one, other): 0=one, 1=other, 2=flat, 3=upright -/
def b_chords_meet : ISs := (.cons (.iff (.op .eq (.val (.call i_is_flat (.slt 0 .nil)) (.val (.call i_is_flat (.slt 1 .nil)) .nil))) (.cons (.ret (.con (.bl false))) .nil) .nil) (.cons (.par [2, 3] (.val (.rd (.slot 0)) (.val (.rd (.slot 1)) .nil))) (.cons (.iff (.call i_is_flat (.slt 1 .nil)) (.cons (.par [2, 3] (.val (.rd (.slot 1)) (.val (.rd (.slot 0)) .nil))) .nil) .nil) (.cons (.ret (.band (.cons (.chn .le .le (.rd (.ix (.slot 2) (.num 1))) (.rd (.ix (.slot 3) (.num 1))) (.rd (.ix (.slot 2) (.num 3)))) (.cons (.chn .le .le (.rd (.ix (.slot 3) (.num 0))) (.rd (.ix (.slot 2) (.num 0))) (.rd (.ix (.slot 3) (.num 2)))) .nil)))) .nil))))
def d_chords_meet : Def := { name := "chords_meet", np := 2, ns := 4, asg := [2, 3], body := b_chords_meet }
/-- _law_pool(cell): 0=cell -/
def b_law_pool : ISs := (.cons (.ret (.lst (.val (.op .max2 (.val (.con (.int 0)) (.val (.op .sub (.slt 0 (.val (.op .pow (.val (.con (.int 10)) (.val (.con (.int 18)) .nil))) .nil))) .nil))) (.val (.op .mod (.slt 0 (.val (.op .pow (.val (.con (.int 10)) (.val (.con (.int 18)) .nil))) .nil))) (.val (.con (.int 0)) .nil))))) .nil)
def d_law_pool : Def := { name := "_law_pool", np := 1, ns := 1, asg := [], body := b_law_pool }
/-- _law_next(pool, base): 0=pool, 1=base, 2=digit, 3=near, 4=stir -/
def b_law_next_0 : ISs := (.cons (.asg (.nm 2) (.op .mod (.val (.rd (.ix (.slot 0) (.num 0))) (.slt 1 .nil)))) (.cons (.put (.slot 0) (.con (.int 0)) (.op .fdiv (.val (.rd (.ix (.slot 0) (.num 0))) (.slt 1 .nil)))) (.cons (.ret (.rd (.slot 2))) .nil)))
def b_law_next : ISs := (.cons (.iff (.op .gt (.val (.rd (.ix (.slot 0) (.num 0))) (.val (.con (.int 0)) .nil))) b_law_next_0 .nil) (.cons (.put (.slot 0) (.con (.int 2)) (.op .add (.val (.rd (.ix (.slot 0) (.num 2))) (.val (.con (.int 1)) .nil)))) (.cons (.asg (.nm 3) (.op .mod (.val (.op .add (.val (.rd (.ix (.slot 0) (.num 1))) (.val (.op .mul (.val (.con (.int 7919)) (.pla (.ix (.slot 0) (.num 2))))) .nil))) (.val (.con (.int 1000000007)) .nil)))) (.cons (.asg (.nm 4) (.op .mod (.val (.op .mul (.val (.op .add (.slt 3 (.val (.con (.int 11)) .nil))) (.val (.op .add (.slt 3 (.val (.con (.int 48271)) .nil))) .nil))) (.val (.con (.int 998244353)) .nil)))) (.cons (.ret (.op .mod (.val (.op .fdiv (.val (.op .mod (.val (.op .mul (.slt 4 (.slt 4 .nil))) (.val (.con (.int 2147483647)) .nil))) (.val (.con (.int 8)) .nil))) (.slt 1 .nil)))) .nil)))))
def d_law_next : Def := { name := "_law_next", np := 2, ns := 5, asg := [2, 3, 4], body := b_law_next }
/-- _law_laid(pool, rows, columns, worth): 0=pool, 1=rows, 2=columns, 3=worth, 4=cells, 5=k, 6=top, 7=left, 8=bottom, 9=right, 10=r, 11=c -/
def e_law_laid_0 : IE := (.op .mul (.val (.lst (.val (.op .sub (.val (.con (.int 1)) (.slt 3 .nil))) .nil)) (.slt 2 .nil)))
def e_law_laid_1 : IE := (.lc (.rng1 (.slt 1 .nil)) (.nm 10) [10] .nil e_law_laid_0)
def b_law_laid_2 : ISs := (.cons (.put (.ix (.slot 4) (.var 10)) (.rd (.slot 11)) (.rd (.slot 3))) .nil)
def b_law_laid_3 : ISs := (.cons (.frr (.rng2 (.slt 7 (.slt 9 .nil))) (.nm 11) b_law_laid_2 [11]) .nil)
def b_law_laid_4 : ISs := (.cons (.asg (.nm 6) (.call i_law_next (.slt 0 (.slt 1 .nil)))) (.cons (.asg (.nm 7) (.call i_law_next (.slt 0 (.slt 2 .nil)))) (.cons (.asg (.nm 8) (.op .add (.val (.op .add (.slt 6 (.val (.con (.int 1)) .nil))) (.val (.call i_law_next (.slt 0 (.val (.op .sub (.slt 1 (.slt 6 .nil))) .nil))) .nil)))) (.cons (.asg (.nm 9) (.op .add (.val (.op .add (.slt 7 (.val (.con (.int 1)) .nil))) (.val (.call i_law_next (.slt 0 (.val (.op .sub (.slt 2 (.slt 7 .nil))) .nil))) .nil)))) (.cons (.frr (.rng2 (.slt 6 (.slt 8 .nil))) (.nm 10) b_law_laid_3 [10, 11]) .nil)))))
def b_law_laid : ISs := (.clr 10 (.cons (.asg (.nm 4) e_law_laid_1) (.cons (.frr (.rng1 (.val (.call i_law_next (.slt 0 (.val (.con (.int 7)) .nil))) .nil)) (.nm 5) b_law_laid_4 [5, 6, 7, 8, 9, 10, 11]) (.cons (.ret (.mv 4)) .nil))))
def d_law_laid : Def := { name := "_law_laid", np := 4, ns := 12, asg := [4, 5, 6, 7, 8, 9, 10, 11], body := b_law_laid }
/-- _law_table(pool): 0=pool, 1=rows, 2=columns, 3=way_drawn, 4=odds, 5=cells, 6=turns, 7=shift, 8=r, 9=line, 10=c -/
def e_law_table_0 : IE := (.op .int (.val (.op .gt (.val (.call i_law_next (.slt 0 (.slt 4 .nil))) (.val (.con (.int 0)) .nil))) .nil))
def e_law_table_1 : IE := (.lc (.rng1 (.slt 2 .nil)) (.nm 10) [10] .nil e_law_table_0)
def e_law_table_2 : IE := (.lc (.rng1 (.slt 1 .nil)) (.nm 8) [8] .nil e_law_table_1)
def e_law_table_3 : IE := (.op .int (.val (.op .gt (.val (.op .mod (.val (.op .add (.val (.op .add (.slt 8 (.slt 10 .nil))) (.slt 7 .nil))) (.slt 6 .nil))) (.val (.con (.int 0)) .nil))) .nil))
def e_law_table_4 : IE := (.lc (.rng1 (.slt 2 .nil)) (.nm 10) [10] .nil e_law_table_3)
def e_law_table_5 : IE := (.lc (.rng1 (.slt 1 .nil)) (.nm 8) [8] .nil e_law_table_4)
def e_law_table_6 : IE := (.op .mod (.val (.op .add (.val (.op .min4 (.slt 8 (.slt 10 (.val (.op .sub (.val (.op .sub (.slt 1 (.val (.con (.int 1)) .nil))) (.slt 8 .nil))) (.val (.op .sub (.val (.op .sub (.slt 2 (.val (.con (.int 1)) .nil))) (.slt 10 .nil))) .nil))))) (.slt 7 .nil))) (.val (.con (.int 2)) .nil)))
def e_law_table_7 : IE := (.lc (.rng1 (.slt 2 .nil)) (.nm 10) [10] .nil e_law_table_6)
def b_law_table_8 : ISs := (.cons (.ex (.mth .append (.slot 5) (.val e_law_table_7 .nil))) .nil)
def b_law_table_9 : ISs := (.cons (.asg (.nm 6) (.op .add (.val (.con (.int 2)) (.val (.call i_law_next (.slt 0 (.val (.con (.int 2)) .nil))) .nil)))) (.cons (.asg (.nm 7) (.call i_law_next (.slt 0 (.slt 6 .nil)))) (.clr 8 (.cons (.asg (.nm 5) e_law_table_5) .nil))))
def b_law_table_10 : ISs := (.cons (.asg (.nm 7) (.call i_law_next (.slt 0 (.val (.con (.int 2)) .nil)))) (.cons (.asg (.nm 5) (.lst .nil)) (.cons (.frr (.rng1 (.slt 1 .nil)) (.nm 8) b_law_table_8 [8]) .nil)))
def b_law_table_11 : ISs := (.cons (.iff (.op .eq (.slt 3 (.val (.con (.int 6)) .nil))) b_law_table_9 b_law_table_10) .nil)
def b_law_table_12 : ISs := (.cons (.iff (.op .lt (.slt 3 (.val (.con (.int 6)) .nil))) (.cons (.asg (.nm 5) (.call i_law_laid (.slt 0 (.slt 1 (.slt 2 (.val (.op .int (.val (.op .lt (.slt 3 (.val (.con (.int 5)) .nil))) .nil)) .nil)))))) .nil) b_law_table_11) .nil)
def e_law_table_13 : IE := (.op .tuple (.slt 9 .nil))
def e_law_table_14 : IE := (.lc (.seq (.fz 5)) (.nm 9) [9] .nil e_law_table_13)
def b_law_table_15 : ISs := (.cons (.ret (.op .tuple (.val e_law_table_14 .nil))) .nil)
def b_law_table_16 : ISs := (.cons (.iff (.op .lt (.slt 3 (.val (.con (.int 3)) .nil))) (.cons (.asg (.nm 4) (.op .ix (.val (.lst (.val (.con (.int 2)) (.val (.con (.int 3)) (.val (.con (.int 6)) .nil)))) (.slt 3 .nil)))) (.clr 8 (.cons (.asg (.nm 5) e_law_table_2) .nil))) b_law_table_12) b_law_table_15)
def b_law_table_17 : ISs := (.cons (.asg (.nm 3) (.call i_law_next (.slt 0 (.val (.con (.int 8)) .nil)))) b_law_table_16)
def b_law_table_18 : ISs := (.cons (.iff (.op .eq (.slt 2 (.val (.con (.int 0)) .nil))) (.cons (.asg (.nm 2) (.op .add (.val (.con (.int 6)) (.val (.call i_law_next (.slt 0 (.val (.con (.int 5)) .nil))) .nil)))) .nil) .nil) b_law_table_17)
def b_law_table_19 : ISs := (.cons (.asg (.nm 2) (.op .ix (.val (.lst (.val (.con (.int 1)) (.val (.con (.int 2)) (.val (.con (.int 3)) (.val (.con (.int 4)) (.val (.con (.int 4)) (.val (.con (.int 5)) (.val (.con (.int 7)) (.val (.con (.int 0)) .nil))))))))) (.val (.call i_law_next (.slt 0 (.val (.con (.int 8)) .nil))) .nil)))) b_law_table_18)
def b_law_table_20 : ISs := (.cons (.iff (.op .eq (.slt 1 (.val (.con (.int 0)) .nil))) (.cons (.asg (.nm 1) (.op .add (.val (.con (.int 7)) (.val (.call i_law_next (.slt 0 (.val (.con (.int 4)) .nil))) .nil)))) .nil) .nil) b_law_table_19)
def b_law_table : ISs := (.cons (.asg (.nm 1) (.op .ix (.val (.lst (.val (.con (.int 1)) (.val (.con (.int 2)) (.val (.con (.int 3)) (.val (.con (.int 3)) (.val (.con (.int 4)) (.val (.con (.int 5)) (.val (.con (.int 6)) (.val (.con (.int 0)) .nil))))))))) (.val (.call i_law_next (.slt 0 (.val (.con (.int 8)) .nil))) .nil)))) b_law_table_20)
def d_law_table : Def := { name := "_law_table", np := 1, ns := 11, asg := [1, 2, 3, 4, 5, 6, 7, 8], body := b_law_table }
/-- _law_at(table, r, c): 0=table, 1=r, 2=c -/
def b_law_at : ISs := (.cons (.iff (.band (.cons (.chn .le .lt (.con (.int 0)) (.rd (.slot 1)) (.op .len (.slt 0 .nil))) (.cons (.chn .le .lt (.con (.int 0)) (.rd (.slot 2)) (.op .len (.pla (.ix (.slot 0) (.num 0))))) .nil))) (.cons (.ret (.rd (.ix (.ix (.slot 0) (.var 1)) (.var 2)))) .nil) .nil) (.cons (.ret (.con (.int 0))) .nil))
def d_law_at : Def := { name := "_law_at", np := 3, ns := 3, asg := [], body := b_law_at }
/-- _law_corners(table): 0=table, 1=found, 2=r, 3=c, 4=first, 5=second, 6=third, 7=last, 8=count -/
def b_law_corners_0 : ISs := (.cons (.par [4, 5] (.val (.call i_law_at (.slt 0 (.val (.op .sub (.slt 2 (.val (.con (.int 1)) .nil))) (.val (.op .sub (.slt 3 (.val (.con (.int 1)) .nil))) .nil)))) (.val (.call i_law_at (.slt 0 (.val (.op .sub (.slt 2 (.val (.con (.int 1)) .nil))) (.slt 3 .nil)))) .nil))) (.cons (.par [6, 7] (.val (.call i_law_at (.slt 0 (.slt 2 (.val (.op .sub (.slt 3 (.val (.con (.int 1)) .nil))) .nil)))) (.val (.call i_law_at (.slt 0 (.slt 2 (.slt 3 .nil)))) .nil))) (.cons (.asg (.nm 8) (.op .add (.val (.op .add (.val (.op .add (.slt 4 (.slt 5 .nil))) (.slt 6 .nil))) (.slt 7 .nil)))) (.cons (.iff (.bor (.cons (.op .eq (.slt 8 (.val (.con (.int 1)) .nil))) (.cons (.op .eq (.slt 8 (.val (.con (.int 3)) .nil))) .nil))) (.cons (.ex (.mth .append (.ix (.slot 1) (.sub (.var 8) (.num 1))) (.val (.tup (.val (.rd (.slot 2)) (.val (.rd (.slot 3)) .nil))) .nil))) .nil) .nil) (.cons (.iff (.band (.cons (.op .eq (.slt 8 (.val (.con (.int 2)) .nil))) (.cons (.op .eq (.slt 4 (.slt 7 .nil))) .nil))) (.cons (.ex (.mth .append (.ix (.slot 1) (.num 1)) (.val (.tup (.val (.rd (.slot 2)) (.val (.rd (.slot 3)) .nil))) .nil))) .nil) .nil) .nil)))))
def b_law_corners_1 : ISs := (.cons (.frr (.rng1 (.val (.op .add (.val (.op .len (.pla (.ix (.slot 0) (.num 0)))) (.val (.con (.int 1)) .nil))) .nil)) (.nm 3) b_law_corners_0 [3, 4, 5, 6, 7, 8]) .nil)
def b_law_corners : ISs := (.cons (.asg (.nm 1) (.tup (.val (.lst .nil) (.val (.lst .nil) (.val (.lst .nil) .nil))))) (.cons (.frr (.rng1 (.val (.op .add (.val (.op .len (.slt 0 .nil)) (.val (.con (.int 1)) .nil))) .nil)) (.nm 2) b_law_corners_1 [2, 3, 4, 5, 6, 7, 8]) (.cons (.ret (.mv 1)) .nil)))
def d_law_corners : Def := { name := "_law_corners", np := 1, ns := 9, asg := [1, 2, 3, 4, 5, 6, 7, 8], body := b_law_corners }
/-- _law_chords(table): 0=table, 1=ins, 2=found, 3=top, 4=left, 5=bottom, 6=right, 7=between, 8=c, 9=r -/
def e_law_chords_0 : IE := (.op .mul (.val (.rd (.ix (.ix (.slot 0) (.sub (.var 3) (.num 1))) (.var 8))) (.pla (.ix (.ix (.slot 0) (.var 3)) (.var 8)))))
def e_law_chords_1 : IE := (.lc (.rng2 (.slt 4 (.slt 6 .nil))) (.nm 8) [8] .nil e_law_chords_0)
def e_law_chords_2 : IE := (.op .mul (.val (.rd (.ix (.ix (.slot 0) (.var 9)) (.sub (.var 4) (.num 1)))) (.pla (.ix (.ix (.slot 0) (.var 9)) (.var 4)))))
def e_law_chords_3 : IE := (.lc (.rng2 (.slt 3 (.slt 5 .nil))) (.nm 9) [9] .nil e_law_chords_2)
def b_law_chords_4 : ISs := (.cons (.iff (.band (.cons (.op .eq (.slt 3 (.slt 5 .nil))) (.cons (.op .lt (.slt 4 (.slt 6 .nil))) .nil))) (.cons (.asg (.nm 7) e_law_chords_1) (.cons (.iff (.op .nin (.val (.con (.int 0)) (.slt 7 .nil))) (.cons (.ex (.mth .append (.slot 2) (.val (.tup (.val (.rd (.slot 3)) (.val (.rd (.slot 4)) (.val (.rd (.slot 5)) (.val (.rd (.slot 6)) .nil))))) .nil))) .nil) .nil) .nil)) .nil) (.cons (.iff (.band (.cons (.op .eq (.slt 4 (.slt 6 .nil))) (.cons (.op .lt (.slt 3 (.slt 5 .nil))) .nil))) (.cons (.asg (.nm 7) e_law_chords_3) (.cons (.iff (.op .nin (.val (.con (.int 0)) (.slt 7 .nil))) (.cons (.ex (.mth .append (.slot 2) (.val (.tup (.val (.rd (.slot 3)) (.val (.rd (.slot 4)) (.val (.rd (.slot 5)) (.val (.rd (.slot 6)) .nil))))) .nil))) .nil) .nil) .nil)) .nil) .nil))
def b_law_chords_5 : ISs := (.cons (.frr (.seq (.rd (.slot 1))) (.tup [5, 6]) b_law_chords_4 [5, 6, 7]) .nil)
def b_law_chords : ISs := (.cons (.asg (.nm 1) (.op .ix (.val (.fx (.call i_law_corners (.slt 0 .nil))) (.val (.con (.int 2)) .nil)))) (.cons (.asg (.nm 2) (.lst .nil)) (.cons (.frr (.seq (.rd (.slot 1))) (.tup [3, 4]) b_law_chords_5 [3, 4, 5, 6, 7]) (.cons (.ret (.op .sorted (.slt 2 .nil))) .nil))))
def d_law_chords : Def := { name := "_law_chords", np := 1, ns := 10, asg := [1, 2, 3, 4, 5, 6, 7], body := b_law_chords }
/-- _law_on(chord): 0=chord, 1=found, 2=r, 3=c -/
def e_law_on_0 : IE := (.tup (.val (.rd (.slot 2)) (.val (.rd (.slot 3)) .nil)))
def e_law_on_1 : IE := (.lc (.rng2 (.val (.rd (.ix (.slot 0) (.num 1))) (.val (.op .add (.val (.rd (.ix (.slot 0) (.num 3))) (.val (.con (.int 1)) .nil))) .nil))) (.nm 3) [3] .nil e_law_on_0)
def b_law_on_2 : ISs := (.cons (.ex (.mth .extend (.slot 1) (.val e_law_on_1 .nil))) .nil)
def b_law_on : ISs := (.cons (.asg (.nm 1) (.lst .nil)) (.cons (.frr (.rng2 (.val (.rd (.ix (.slot 0) (.num 0))) (.val (.op .add (.val (.rd (.ix (.slot 0) (.num 2))) (.val (.con (.int 1)) .nil))) .nil))) (.nm 2) b_law_on_2 [2]) (.cons (.ret (.mv 1)) .nil)))
def d_law_on : Def := { name := "_law_on", np := 1, ns := 4, asg := [1, 2], body := b_law_on }
/-- _law_meet(one, other): 0=one, 1=other, 2=points, 3=point -/
def e_law_meet_0 : IE := (.op .inn (.slt 3 (.slt 2 .nil)))
def e_law_meet_1 : IE := (.lc (.seq (.call i_law_on (.slt 0 .nil))) (.nm 3) [3] .nil e_law_meet_0)
def b_law_meet : ISs := (.cons (.iff (.op .eq (.val (.op .eq (.val (.rd (.ix (.slot 0) (.num 0))) (.pla (.ix (.slot 0) (.num 2))))) (.val (.op .eq (.val (.rd (.ix (.slot 1) (.num 0))) (.pla (.ix (.slot 1) (.num 2))))) .nil))) (.cons (.ret (.con (.bl false))) .nil) .nil) (.cons (.asg (.nm 2) (.call i_law_on (.slt 1 .nil))) (.cons (.ret (.op .anyl (.val e_law_meet_1 .nil))) .nil)))
def d_law_meet : Def := { name := "_law_meet", np := 2, ns := 4, asg := [2], body := b_law_meet }
/-- law(script): 0=script, 1=cell, 2=table, 3=due, 4=found, 5=one, 6=other -/
def b_law_0 : ISs := (.cons (.asg (.nm 4) (.call i_chords_meet (.slt 5 (.slt 6 .nil)))) (.cons (.iff (.bor (.cons (.nt (.op .isi (.slt 4 (.val (.con (.ty "bool")) .nil)))) (.cons (.op .ne (.slt 4 (.val (.call i_law_meet (.slt 5 (.slt 6 .nil))) .nil))) .nil))) (.cons (.ret (.con (.bl false))) .nil) .nil) .nil))
def b_law_1 : ISs := (.cons (.frr (.seq (.sl false true (.slt 3 (.val (.con (.int 30)) .nil)))) (.nm 6) b_law_0 [4, 6]) .nil)
def b_law_2 : ISs := (.cons (.frr (.seq (.sl false true (.slt 3 (.val (.con (.int 30)) .nil)))) (.nm 5) b_law_1 [4, 5, 6]) .nil)
def b_law_3 : ISs := (.cons (.iff (.op .ne (.val (.call i_chords_of (.slt 2 .nil)) (.slt 3 .nil))) (.cons (.ret (.con (.bl false))) .nil) .nil) b_law_2)
def b_law_4 : ISs := (.cons (.ex (.mth .append (.slot 4) (.val (.tup (.val (.con (.int 0)) (.val (.con (.int 0)) (.val (.con (.int 0)) (.val (.con (.int 1)) .nil))))) .nil))) b_law_3)
def b_law_5 : ISs := (.cons (.iff (.bor (.cons (.nt (.op .isi (.slt 4 (.val (.con (.ty "list")) .nil)))) (.cons (.op .ne (.slt 4 (.slt 3 .nil))) .nil))) (.cons (.ret (.con (.bl false))) .nil) .nil) b_law_4)
def b_law_6 : ISs := (.cons (.asg (.nm 4) (.call i_chords_of (.slt 2 .nil))) b_law_5)
def b_law_7 : ISs := (.cons (.asg (.nm 3) (.call i_law_chords (.slt 2 .nil))) b_law_6)
def b_law_8 : ISs := (.cons (.asg (.nm 2) (.call i_law_table (.val (.call i_law_pool (.slt 1 .nil)) .nil))) b_law_7)
def b_law : ISs := (.cons (.frr (.seq (.op .add (.val (.lst (.val (.con (.int 0)) .nil)) (.val (.sl false true (.slt 0 (.val (.con (.int 8)) .nil))) .nil)))) (.nm 1) b_law_8 [1, 2, 3, 4, 5, 6]) (.cons (.ret (.con (.bl true))) .nil))
def d_law : Def := { name := "law", np := 1, ns := 7, asg := [1, 2, 3, 4, 5, 6], body := b_law }
def glv : Nat → Option (Str × D)
  | _ => none
def fns : Nat → Option Def
  | 0 => some d_size_of
  | 1 => some d_yes_at
  | 2 => some d_around
  | 3 => some d_corners_of
  | 4 => some d_flat_end
  | 5 => some d_upright_end
  | 6 => some d_chords_of
  | 7 => some d_is_flat
  | 8 => some d_chords_meet
  | 9 => some d_law_pool
  | 10 => some d_law_next
  | 11 => some d_law_laid
  | 12 => some d_law_table
  | 13 => some d_law_at
  | 14 => some d_law_corners
  | 15 => some d_law_chords
  | 16 => some d_law_on
  | 17 => some d_law_meet
  | 18 => some d_law
  | _ => none
def prg : Prog := { gl := glv, fn := fns }
theorem call_size_of (lv : Nat) (ds : List D) : callD prg (lv + 1) i_size_of ds = runD prg.val (callD prg lv) d_size_of ds := rfl
theorem call_yes_at (lv : Nat) (ds : List D) : callD prg (lv + 1) i_yes_at ds = runD prg.val (callD prg lv) d_yes_at ds := rfl
theorem call_around (lv : Nat) (ds : List D) : callD prg (lv + 1) i_around ds = runD prg.val (callD prg lv) d_around ds := rfl
theorem call_corners_of (lv : Nat) (ds : List D) : callD prg (lv + 1) i_corners_of ds = runD prg.val (callD prg lv) d_corners_of ds := rfl
theorem call_flat_end (lv : Nat) (ds : List D) : callD prg (lv + 1) i_flat_end ds = runD prg.val (callD prg lv) d_flat_end ds := rfl
theorem call_upright_end (lv : Nat) (ds : List D) : callD prg (lv + 1) i_upright_end ds = runD prg.val (callD prg lv) d_upright_end ds := rfl
theorem call_chords_of (lv : Nat) (ds : List D) : callD prg (lv + 1) i_chords_of ds = runD prg.val (callD prg lv) d_chords_of ds := rfl
theorem call_is_flat (lv : Nat) (ds : List D) : callD prg (lv + 1) i_is_flat ds = runD prg.val (callD prg lv) d_is_flat ds := rfl
theorem call_chords_meet (lv : Nat) (ds : List D) : callD prg (lv + 1) i_chords_meet ds = runD prg.val (callD prg lv) d_chords_meet ds := rfl
theorem call_law_pool (lv : Nat) (ds : List D) : callD prg (lv + 1) i_law_pool ds = runD prg.val (callD prg lv) d_law_pool ds := rfl
theorem call_law_next (lv : Nat) (ds : List D) : callD prg (lv + 1) i_law_next ds = runD prg.val (callD prg lv) d_law_next ds := rfl
theorem call_law_laid (lv : Nat) (ds : List D) : callD prg (lv + 1) i_law_laid ds = runD prg.val (callD prg lv) d_law_laid ds := rfl
theorem call_law_table (lv : Nat) (ds : List D) : callD prg (lv + 1) i_law_table ds = runD prg.val (callD prg lv) d_law_table ds := rfl
theorem call_law_at (lv : Nat) (ds : List D) : callD prg (lv + 1) i_law_at ds = runD prg.val (callD prg lv) d_law_at ds := rfl
theorem call_law_corners (lv : Nat) (ds : List D) : callD prg (lv + 1) i_law_corners ds = runD prg.val (callD prg lv) d_law_corners ds := rfl
theorem call_law_chords (lv : Nat) (ds : List D) : callD prg (lv + 1) i_law_chords ds = runD prg.val (callD prg lv) d_law_chords ds := rfl
theorem call_law_on (lv : Nat) (ds : List D) : callD prg (lv + 1) i_law_on ds = runD prg.val (callD prg lv) d_law_on ds := rfl
theorem call_law_meet (lv : Nat) (ds : List D) : callD prg (lv + 1) i_law_meet ds = runD prg.val (callD prg lv) d_law_meet ds := rfl
theorem call_law (lv : Nat) (ds : List D) : callD prg (lv + 1) i_law ds = runD prg.val (callD prg lv) d_law ds := rfl
end VS.Law
end

section
-- b7bb62bb8e9bd473416961a074a64ff4
set_option maxHeartbeats 1000000
namespace VS.Law
open PySem L2 VS
theorem pool_ok (lv : Nat) (i : Int) : callD prg (lv + 1) i_law_pool [.int i] = .ok (pool (if 0 < i - 10^18 then i - 10^18 else 0) (i % 10^18) 0, [some (.int i)]) := by
  simp [call_law_pool, runD, d_law_pool, b_law_pool, denSs, denS, denE, denO, finO, valsO, getPl, getS, opD, opI2, outs, clrs, pool]
theorem next_ok (lv : Nat) (a b c base : Int) (hb : 0 < base) (hb2 : base < 1073741824) : ∃ i a' c', callD prg (lv + 1) i_law_next [pool a b c, .int base] = .ok (.int i, [some (pool a' b c'), some (.int base)]) ∧ 0 ≤ i ∧ i < base := by
  by_cases ha : 0 < a
  · refine ⟨a % base, a / base, c, ?_, Int.emod_nonneg _ (by omega), Int.emod_lt_of_pos _ hb⟩
    simp [call_law_next, runD, d_law_next, b_law_next, b_law_next_0, denSs, denS, denE, denO, finO, valsO, getPl, setPl, evS, getS, opD, opI2, outs, clrs, pool, ixN, noOwn, opPut, isOwnL, setT, ha, hb, hb2]
  · have n1 := Int.emod_nonneg (b + 7919 * (c + 1)) (show (1000000007 : Int) ≠ 0 by decide)
    have n2 := Int.emod_lt_of_pos (b + 7919 * (c + 1)) (show (0 : Int) < 1000000007 by decide)
    have m0 : opMul 7919 (c + 1) = some (.int (7919 * (c + 1))) := opMul_l (by decide) (by decide)
    have m1 : opMul ((b + 7919 * (c + 1)) % 1000000007 + 11) ((b + 7919 * (c + 1)) % 1000000007 + 48271) = some (.int (((b + 7919 * (c + 1)) % 1000000007 + 11) * ((b + 7919 * (c + 1)) % 1000000007 + 48271))) := opMul_l (by omega) (by omega)
    have m2 : ∀ x : Int, opMul (x % 998244353) (x % 998244353) = some (.int (x % 998244353 * (x % 998244353))) := fun x => opMul_l (by omega) (by omega)
    refine ⟨(fun x : Int => x % 998244353 * (x % 998244353) % 2147483647 / 8 % base) (((b + 7919 * (c + 1)) % 1000000007 + 11) * ((b + 7919 * (c + 1)) % 1000000007 + 48271)), a, c + 1, ?_, Int.emod_nonneg _ (by omega), Int.emod_lt_of_pos _ hb⟩
    simp [call_law_next, runD, d_law_next, b_law_next, b_law_next_0, denSs, denS, denE, denO, finO, valsO, getPl, setPl, evS, getS, opD, opI2, opMulD, outs, clrs, pool, ixN, noOwn, opPut, opAdd, isOwnL, setT, ha, hb, hb2, m0, m1, m2]

end VS.Law
end

section
-- 0bbfdac7f42a74670ca30fdbd4ccd1b7
set_option maxHeartbeats 1000000
namespace VS.Law
open PySem L2 VS
/-! _law_laid -/
theorem laid1 (lv : Nat) {R C : Nat} {t : List (List Int)} {w : Int} (T : Tab R C t) (hw : w = 0 ∨ w = 1) {r c : Nat} (hr : r < R) (hc : c < C) {x0 x1 x2 x5 x6 x7 x8 x9 : Option D} :
    ∃ t', Tab R C t' ∧ denSs prg.val (callD prg lv) b_law_laid_2 [x0, x1, x2, some (.int w), some (ownT t), x5, x6, x7, x8, x9, some (.int r), some (.int c)] = .ok (.nx, [x0, x1, x2, some (.int w), some (ownT t'), x5, x6, x7, x8, x9, some (.int r), some (.int c)]) := by
  obtain ⟨row, h1, h2, h3⟩ := T.get hr
  refine ⟨t.set r (row.set c w), T.set (by rw [List.length_set]; exact h2) (set_bit h3 hw), ?_⟩
  have i1 : ixN t.length (r : Int) = some r := ixN_nat (lt_of_get h1)
  have i2 : ixN row.length (c : Int) = some c := ixN_nat (by rw [h2]; exact hc)
  simp -implicitDefEqProofs [runD, denSs, denS, denE, denO, denA, denC, denI, finO, valsO, takeO, backO, getPl, setPl, evS, getS, opD, opI2, opI1, outs, clrs, noOwn, isOwnL, setT, setNs, noneAt, pool, onBl, opInt, b_law_laid_2, ownT, rowD, opPut, i1, i2, h1, List.map_set]
theorem laid2 (lv : Nat) {R C : Nat} {t : List (List Int)} {w : Int} (T : Tab R C t) (hw : w = 0 ∨ w = 1) (hC : C ≤ 100) {r a n : Nat} {e9 : Int} (he9 : e9 = (a : Int) + n) (hr : r < R) (hn : a + n ≤ C) {x0 x1 x2 x5 x6 x8 : Option D} :
    ∃ t', Tab R C t' ∧ denSs prg.val (callD prg lv) b_law_laid_3 [x0, x1, x2, some (.int w), some (ownT t), x5, x6, some (.int a), x8, some (.int e9), some (.int r), none] = .ok (.nx, [x0, x1, x2, some (.int w), some (ownT t'), x5, x6, some (.int a), x8, some (.int e9), some (.int r), none]) := by
  obtain ⟨g', e, hI⟩ := forD_inv (t := .nm 11) (clr := [11]) (body := denSs prg.val (callD prg lv) b_law_laid_2) (fun _ g => ∃ t', Tab R C t' ∧ g = [x0, x1, x2, some (.int w), some (ownT t'), x5, x6, some (.int a), x8, some (.int e9), some (.int r), none]) (rngs a n) 0 _ ⟨t, T, rfl⟩ (by
    rintro i d g hi ⟨t', T', rfl⟩
    have hin : i < n := by have := lt_of_get hi; rwa [rngs_len] at this
    rw [rngs_get n _ i hin] at hi
    cases hi
    obtain ⟨t2, T2, e2⟩ := laid1 lv T' hw hr (c := a + i) (by omega) (x0 := x0) (x1 := x1) (x2 := x2) (x5 := x5) (x6 := x6) (x7 := some (.int a)) (x8 := x8) (x9 := some (.int e9))
    refine ⟨_, _, rfl, by simpa using e2, t2, T2, by simp [clrs]⟩)
  obtain ⟨t', T', rfl⟩ := hI
  refine ⟨t', T', ?_⟩
  have rg := rng2_of (i := a) rfl he9 (by omega)
  simp -implicitDefEqProofs [runD, denSs, denS, denE, denO, denA, denC, denI, finO, valsO, takeO, backO, getPl, setPl, evS, getS, opD, opI2, opI1, outs, clrs, noOwn, isOwnL, setT, setNs, noneAt, pool, onBl, opInt, b_law_laid_3, rg, e]
theorem laid3 (lv : Nat) {R C : Nat} {t : List (List Int)} {w : Int} (T : Tab R C t) (hw : w = 0 ∨ w = 1) (hR0 : 0 < R) (hC0 : 0 < C) (hR : R ≤ 100) (hC : C ≤ 100) (a b c : Int) {x5 : Option D} :
    ∃ t' a' c' y6 y7 y8 y9, Tab R C t' ∧ denSs prg.val (callD prg (lv + 1)) b_law_laid_4 [some (pool a b c), some (.int R), some (.int C), some (.int w), some (ownT t), x5, none, none, none, none, none, none] =
      .ok (.nx, [some (pool a' b c'), some (.int R), some (.int C), some (.int w), some (ownT t'), x5, y6, y7, y8, y9, none, none]) := by
  obtain ⟨i1, a1, c1, e1, p1, q1⟩ := next_ok lv a b c R (by omega) (by omega)
  obtain ⟨n1, rfl⟩ := nat_of p1
  obtain ⟨i2, a2, c2, e2, p2, q2⟩ := next_ok lv a1 b c1 C (by omega) (by omega)
  obtain ⟨n2, rfl⟩ := nat_of p2
  obtain ⟨i3, a3, c3, e3, p3, q3⟩ := next_ok lv a2 b c2 ((R : Int) - n1) (by omega) (by omega)
  obtain ⟨n3, rfl⟩ := nat_of p3
  obtain ⟨i4, a4, c4, e4, p4, q4⟩ := next_ok lv a3 b c3 ((C : Int) - n2) (by omega) (by omega)
  obtain ⟨n4, rfl⟩ := nat_of p4
  have he9 : (n2 : Int) + 1 + n4 = (n2 : Int) + ((n4 + 1 : Nat) : Int) := by omega
  obtain ⟨g', e, hI⟩ := forD_inv (t := .nm 10) (clr := [10, 11]) (body := denSs prg.val (callD prg (lv + 1)) b_law_laid_3) (fun _ g => ∃ t', Tab R C t' ∧ g = [some (pool a4 b c4), some (.int R), some (.int C), some (.int w), some (ownT t'), x5, some (.int n1), some (.int n2), some (.int ((n1 : Int) + 1 + n3)), some (.int ((n2 : Int) + 1 + n4)), none, none]) (rngs n1 (n3 + 1)) 0 _ ⟨t, T, rfl⟩ (by
    rintro i d g hi ⟨t', T', rfl⟩
    have hin : i < n3 + 1 := by have := lt_of_get hi; rwa [rngs_len] at this
    rw [rngs_get _ _ i hin] at hi
    cases hi
    obtain ⟨t2, T2, e5⟩ := laid2 (lv + 1) T' hw hC (a := n2) (n := n4 + 1) he9 (r := n1 + i) (by omega) (by omega) (x0 := some (pool a4 b c4)) (x1 := some (.int R)) (x2 := some (.int C)) (x5 := x5) (x6 := some (.int n1)) (x8 := some (.int ((n1 : Int) + 1 + n3)))
    refine ⟨_, _, rfl, by simpa using e5, t2, T2, by simp [clrs]⟩)
  obtain ⟨t', T', rfl⟩ := hI
  refine ⟨t', a4, c4, some (.int n1), some (.int n2), some (.int ((n1 : Int) + 1 + n3)), some (.int ((n2 : Int) + 1 + n4)), T', ?_⟩
  have rg := rng2_of (i := n1) (j := (n1 : Int) + 1 + n3) (a := n1) (n := n3 + 1) rfl (by omega) (by omega)
  simp -implicitDefEqProofs [runD, denSs, denS, denE, denO, denA, denC, denI, finO, valsO, takeO, backO, getPl, setPl, evS, getS, opD, opI2, opI1, outs, clrs, noOwn, isOwnL, setT, setNs, noneAt, pool, onBl, opInt, b_law_laid_4, e1, e2, e3, e4, opAdd, rg, backO, e]
theorem laid_ok (lv : Nat) {R C : Nat} {w : Int} (hw : w = 0 ∨ w = 1) (hR0 : 0 < R) (hC0 : 0 < C) (hR : R ≤ 100) (hC : C ≤ 100) (a b c : Int) :
    ∃ t a' c' , Tab R C t ∧ callD prg (lv + 1 + 1) i_law_laid [pool a b c, .int R, .int C, .int w] = .ok (ownT t, [some (pool a' b c'), some (.int R), some (.int C), some (.int w)]) := by
  have hw' : (1 - w) = 0 ∨ (1 - w) = 1 := by omega
  have mul := rep_mul (w := 1 - w) hC
  obtain ⟨acc, g', e, hI⟩ := lcD_inv (t := .nm 10) (own := [10]) (cond := fun g => .ok (true, g)) (elt := denE prg.val (callD prg (lv + 1)) e_law_laid_0)
    (fun j acc g => acc = List.replicate j (rowD (List.replicate C (1 - w))) ∧ g = [some (pool a b c), some (.int R), some (.int C), some (.int w), none, none, none, none, none, none, none, none]) (rngs 0 R) 0 [] _ ⟨rfl, rfl⟩
    (by rw [rngs_len, line_eq]; simp; omega) (fun j acc g ⟨h, _⟩ => by rw [h]; simp) (by rw [rngs_len, line_eq]; omega) (by
      rintro i d acc g hi ⟨rfl, rfl⟩
      refine ⟨[some (pool a b c), some (.int R), some (.int C), some (.int w), none, none, none, none, none, none, some d, none], [some (pool a b c), some (.int R), some (.int C), some (.int w), none, none, none, none, none, none, some d, none], true, rfl, rfl, fun z => (by cases z), fun _ => ⟨rowD (List.replicate C (1 - w)), [some (pool a b c), some (.int R), some (.int C), some (.int w), none, none, none, none, none, none, some d, none], ?_, by rw [List.replicate_succ'], by simp [clrs]⟩⟩
      simp -implicitDefEqProofs [runD, denSs, denS, denE, denO, denA, denC, denI, finO, valsO, takeO, backO, getPl, setPl, evS, getS, opD, opI2, opI1, outs, clrs, noOwn, isOwnL, setT, setNs, noneAt, pool, onBl, opInt, e_law_laid_0, mul])
  obtain ⟨rfl, rfl⟩ := hI
  rw [rngs_len, Nat.zero_add] at e
  have er : D.lst true (List.replicate R (rowD (List.replicate C (1 - w)))) = ownT (List.replicate R (List.replicate C (1 - w))) := by unfold ownT; rw [List.map_replicate]
  obtain ⟨i1, a1, c1, e1, p1, q1⟩ := next_ok lv a b c 7 (by omega) (by omega)
  obtain ⟨n1, rfl⟩ := nat_of p1
  obtain ⟨g2, e2, hI2⟩ := forD_inv (t := .nm 5) (clr := [5, 6, 7, 8, 9, 10, 11]) (body := denSs prg.val (callD prg (lv + 1)) b_law_laid_4)
    (fun _ g => ∃ t a c, Tab R C t ∧ g = [some (pool a b c), some (.int R), some (.int C), some (.int w), some (ownT t), none, none, none, none, none, none, none]) (rngs 0 n1) 0 _ ⟨_, a1, c1, tab_rep hw', rfl⟩ (by
    rintro i d g hi ⟨t', a', c', T', rfl⟩
    obtain ⟨t2, a2, c2, y6, y7, y8, y9, T2, e5⟩ := laid3 lv T' hw hR0 hC0 hR hC a' b c' (x5 := some d)
    refine ⟨_, _, rfl, by simpa using e5, t2, a2, c2, T2, by simp [clrs]⟩)
  obtain ⟨t, a2, c2, T2, rfl⟩ := hI2
  refine ⟨t, a2, c2, T2, ?_⟩
  have rg := rng1_ok (n := R) (by omega)
  have rg2 := rng1_ok (n := n1) (by omega)
  have hb : denSs prg.val (callD prg (lv + 1)) b_law_laid [some (pool a b c), some (.int R), some (.int C), some (.int w), none, none, none, none, none, none, none, none] =
      .ok (.rt (ownT t), [some (pool a2 b c2), some (.int R), some (.int C), some (.int w), none, none, none, none, none, none, none, none]) := by
    simp -implicitDefEqProofs [runD, denSs, denS, denE, denO, denA, denC, denI, finO, valsO, takeO, backO, getPl, setPl, evS, getS, opD, opI2, opI1, outs, clrs, noOwn, isOwnL, setT, setNs, noneAt, pool, onBl, opInt, b_law_laid, e_law_laid_1, rg, e, er, e1, rg2, e2]
  have q0 : ([pool a b c, .int R, .int C, .int w] : List D).length = d_law_laid.np := rfl
  have q1 : ([pool a b c, .int R, .int C, .int w] : List D).map some ++ List.replicate (d_law_laid.ns - d_law_laid.np) none = [some (pool a b c), some (.int R), some (.int C), some (.int w), none, none, none, none, none, none, none, none] := rfl
  have q2 : outs d_law_laid [some (pool a2 b c2), some (.int R), some (.int C), some (.int w), none, none, none, none, none, none, none, none] = [some (pool a2 b c2), some (.int R), some (.int C), some (.int w)] := rfl
  have q3 := runD_rt (d := d_law_laid) q0 q1 hb
  rw [q2] at q3
  rw [call_law_laid]
  exact q3
abbrev S (b : Int) (R C : Nat) (x3 x4 x5 x6 x7 : Option D) (a c : Int) (x8 x10 : Option D) : Gm := [some (pool a b c), some (.int R), some (.int C), x3, x4, x5, x6, x7, x8, none, x10]
section
variable {lv : Nat} {b : Int} {R C : Nat} {x3 x4 x5 x6 x7 : Option D}
theorem row_lc {elt er : IE} (her : er = .lc (.rng1 (.slt 2 .nil)) (.nm 10) [10] .nil elt) (hC : C ≤ 100)
    (h : ∀ a c (r cc : Int), 0 ≤ r → r < R → ∃ a' c' y, (y = 0 ∨ y = 1) ∧ denE prg.val (callD prg lv) elt (S b R C x3 x4 x5 x6 x7 a c (some (.int r)) (some (.int cc))) = .ok (.int y, S b R C x3 x4 x5 x6 x7 a' c' (some (.int r)) (some (.int cc)))) (a c r : Int) (hr0 : 0 ≤ r) (hr : r < R) :
    ∃ a' c' row, row.length = C ∧ (∀ y ∈ row, y = 0 ∨ y = 1) ∧ denE prg.val (callD prg lv) er (S b R C x3 x4 x5 x6 x7 a c (some (.int r)) none) = .ok (rowD row, S b R C x3 x4 x5 x6 x7 a' c' (some (.int r)) none) := by
  obtain ⟨acc, g', e, hI⟩ := lcD_inv (t := .nm 10) (own := [10]) (cond := fun g => .ok (true, g)) (elt := denE prg.val (callD prg lv) elt)
    (fun j acc g => ∃ a' c' row, acc = row.map .int ∧ row.length = j ∧ (∀ y ∈ row, y = 0 ∨ y = 1) ∧ g = S b R C x3 x4 x5 x6 x7 a' c' (some (.int r)) none) (rngs 0 C) 0 [] _ ⟨a, c, [], rfl, rfl, by simp, rfl⟩
    (by rw [rngs_len, line_eq, List.length_nil]; omega) (by rintro j acc g ⟨_, _, row, rfl, h, _⟩; rw [List.length_map, h]; exact Nat.le_refl _) (by rw [rngs_len, line_eq]; omega) (by
      rintro i d acc g hi ⟨a', c', row, rfl, hl, hb, rfl⟩
      have hin : i < C := by have := lt_of_get hi; rwa [rngs_len] at this
      rw [rngs_get _ _ i hin] at hi
      cases hi
      obtain ⟨a2, c2, y, hy, e⟩ := h a' c' r (0 + i) hr0 hr
      refine ⟨S b R C x3 x4 x5 x6 x7 a' c' (some (.int r)) (some (.int (0 + i))), S b R C x3 x4 x5 x6 x7 a' c' (some (.int r)) (some (.int (0 + i))), true, rfl, rfl, fun z => (by cases z), fun _ => ⟨_, _, e, a2, c2, row ++ [y], by simp, by simp; omega, fun z hz => ?_, rfl⟩⟩
      rcases List.mem_append.mp hz with q | q
      · exact hb z q
      · simp only [List.mem_singleton] at q
        rw [q]; exact hy)
  obtain ⟨a', c', row, rfl, hl, hb, rfl⟩ := hI
  refine ⟨a', c', row, by rw [hl, rngs_len]; omega, hb, ?_⟩
  have rg := rng1_ok (n := C) (by omega)
  subst her
  simp -implicitDefEqProofs [runD, denSs, denS, denE, denO, denA, denC, denI, finO, valsO, takeO, backO, getPl, setPl, evS, getS, opD, opI2, opI1, outs, clrs, noOwn, isOwnL, setT, setNs, noneAt, pool, onBl, opInt, rg, e, rowD]
theorem rows_lc {elt er el : IE} (hel : el = .lc (.rng1 (.slt 1 .nil)) (.nm 8) [8] .nil er) (her : er = .lc (.rng1 (.slt 2 .nil)) (.nm 10) [10] .nil elt) (hR : R ≤ 100) (hC : C ≤ 100)
    (h : ∀ a c (r cc : Int), 0 ≤ r → r < R → ∃ a' c' y, (y = 0 ∨ y = 1) ∧ denE prg.val (callD prg lv) elt (S b R C x3 x4 x5 x6 x7 a c (some (.int r)) (some (.int cc))) = .ok (.int y, S b R C x3 x4 x5 x6 x7 a' c' (some (.int r)) (some (.int cc)))) (a c : Int) :
    ∃ a' c' t, Tab R C t ∧ denE prg.val (callD prg lv) el (S b R C x3 x4 x5 x6 x7 a c none none) = .ok (ownT t, S b R C x3 x4 x5 x6 x7 a' c' none none) := by
  obtain ⟨acc, g', e, hI⟩ := lcD_inv (t := .nm 8) (own := [8]) (cond := fun g => .ok (true, g)) (elt := denE prg.val (callD prg lv) er)
    (fun j acc g => ∃ a' c' t, acc = t.map rowD ∧ Tab j C t ∧ g = S b R C x3 x4 x5 x6 x7 a' c' none none) (rngs 0 R) 0 [] _ ⟨a, c, [], rfl, ⟨rfl, by simp, by simp⟩, rfl⟩
    (by rw [rngs_len, line_eq, List.length_nil]; omega) (by rintro j acc g ⟨_, _, t, rfl, T, _⟩; rw [List.length_map, T.len]; exact Nat.le_refl _) (by rw [rngs_len, line_eq]; omega) (by
      rintro i d acc g hi ⟨a', c', t, rfl, T, rfl⟩
      have hin : i < R := by have := lt_of_get hi; rwa [rngs_len] at this
      rw [rngs_get _ _ i hin] at hi
      cases hi
      obtain ⟨a2, c2, row, hl, hb, e⟩ := row_lc her hC h a' c' (0 + i) (by omega) (by omega)
      refine ⟨S b R C x3 x4 x5 x6 x7 a' c' (some (.int (0 + i))) none, S b R C x3 x4 x5 x6 x7 a' c' (some (.int (0 + i))) none, true, rfl, rfl, fun z => (by cases z), fun _ => ⟨_, _, e, a2, c2, t ++ [row], by simp, ⟨by simp [T.len], fun z hz => ?_, fun z hz => ?_⟩, rfl⟩⟩
      · rcases List.mem_append.mp hz with q | q
        · exact T.row z q
        · simp only [List.mem_singleton] at q
          rw [q]; exact hl
      · rcases List.mem_append.mp hz with q | q
        · exact T.bit z q
        · simp only [List.mem_singleton] at q
          rw [q]; exact hb)
  obtain ⟨a', c', t, rfl, T, rfl⟩ := hI
  rw [rngs_len, Nat.zero_add] at T
  refine ⟨a', c', t, T, ?_⟩
  have rg := rng1_ok (n := R) (by omega)
  subst hel
  simp -implicitDefEqProofs [runD, denSs, denS, denE, denO, denA, denC, denI, finO, valsO, takeO, backO, getPl, setPl, evS, getS, opD, opI2, opI1, outs, clrs, noOwn, isOwnL, setT, setNs, noneAt, pool, onBl, opInt, rg, e, ownT]
end
/-! the sizes -/
theorem rowsA (lv : Nat) (a b c : Int) : ∃ R a' c', 0 < R ∧ R ≤ 10 ∧ denSs prg.val (callD prg (lv + 1 + 1)) b_law_table [some (pool a b c), none, none, none, none, none, none, none, none, none, none] = denSs prg.val (callD prg (lv + 1 + 1)) b_law_table_19 [some (pool a' b c'), some (.int (R : Nat)), none, none, none, none, none, none, none, none, none] := by
  obtain ⟨i1, a1, c1, e1, p1, q1⟩ := next_ok (lv + 1) a b c 8 (by omega) (by omega)
  obtain ⟨n1, rfl⟩ := nat_of p1
  have pk : ∃ x : Nat, ([.int 1, .int 2, .int 3, .int 3, .int 4, .int 5, .int 6, .int 0] : List D)[n1]? = some (.int x) ∧ x ≤ 6 := by
    have : n1 = 0 ∨ n1 = 1 ∨ n1 = 2 ∨ n1 = 3 ∨ n1 = 4 ∨ n1 = 5 ∨ n1 = 6 ∨ n1 = 7 := by omega
    rcases this with rfl | rfl | rfl | rfl | rfl | rfl | rfl | rfl
    · exact ⟨1, rfl, by omega⟩
    · exact ⟨2, rfl, by omega⟩
    · exact ⟨3, rfl, by omega⟩
    · exact ⟨3, rfl, by omega⟩
    · exact ⟨4, rfl, by omega⟩
    · exact ⟨5, rfl, by omega⟩
    · exact ⟨6, rfl, by omega⟩
    · exact ⟨0, rfl, by omega⟩
  obtain ⟨x, hx, hx6⟩ := pk
  have px := pickL hx rfl
  have s1 : denSs prg.val (callD prg (lv + 1 + 1)) b_law_table [some (pool a b c), none, none, none, none, none, none, none, none, none, none] = denSs prg.val (callD prg (lv + 1 + 1)) b_law_table_20 [some (pool a1 b c1), some (.int x), none, none, none, none, none, none, none, none, none] := by
    simp -implicitDefEqProofs [runD, denSs, denS, denE, denO, denA, denC, denI, finO, valsO, takeO, backO, getPl, setPl, evS, getS, opD, opI2, opI1, outs, clrs, noOwn, isOwnL, setT, setNs, noneAt, pool, onBl, opInt, b_law_table, e1, px, backO]
  by_cases h0 : x = 0
  · subst h0
    obtain ⟨i2, a2, c2, e2, p2, q2⟩ := next_ok (lv + 1) a1 b c1 4 (by omega) (by omega)
    obtain ⟨n2, rfl⟩ := nat_of p2
    refine ⟨7 + n2, a2, c2, by omega, by omega, s1.trans ?_⟩
    simp -implicitDefEqProofs [runD, denSs, denS, denE, denO, denA, denC, denI, finO, valsO, takeO, backO, getPl, setPl, evS, getS, opD, opI2, opI1, outs, clrs, noOwn, isOwnL, setT, setNs, noneAt, pool, onBl, opInt, b_law_table_20, eqI, e2, opAdd, backO]
  · refine ⟨x, a1, c1, by omega, by omega, s1.trans ?_⟩
    have hb : ((x : Int) == 0) = false := by simp; exact h0
    simp -implicitDefEqProofs [runD, denSs, denS, denE, denO, denA, denC, denI, finO, valsO, takeO, backO, getPl, setPl, evS, getS, opD, opI2, opI1, outs, clrs, noOwn, isOwnL, setT, setNs, noneAt, pool, onBl, opInt, b_law_table_20, eqI, hb]
theorem colsA (lv : Nat) (R : Nat) (a b c : Int) : ∃ C a' c', 0 < C ∧ C ≤ 10 ∧ denSs prg.val (callD prg (lv + 1 + 1)) b_law_table_19 [some (pool a b c), some (.int R), none, none, none, none, none, none, none, none, none] = denSs prg.val (callD prg (lv + 1 + 1)) b_law_table_17 [some (pool a' b c'), some (.int R), some (.int (C : Nat)), none, none, none, none, none, none, none, none] := by
  obtain ⟨i1, a1, c1, e1, p1, q1⟩ := next_ok (lv + 1) a b c 8 (by omega) (by omega)
  obtain ⟨n1, rfl⟩ := nat_of p1
  have pk : ∃ x : Nat, ([.int 1, .int 2, .int 3, .int 4, .int 4, .int 5, .int 7, .int 0] : List D)[n1]? = some (.int x) ∧ x ≤ 7 := by
    have : n1 = 0 ∨ n1 = 1 ∨ n1 = 2 ∨ n1 = 3 ∨ n1 = 4 ∨ n1 = 5 ∨ n1 = 6 ∨ n1 = 7 := by omega
    rcases this with rfl | rfl | rfl | rfl | rfl | rfl | rfl | rfl
    · exact ⟨1, rfl, by omega⟩
    · exact ⟨2, rfl, by omega⟩
    · exact ⟨3, rfl, by omega⟩
    · exact ⟨4, rfl, by omega⟩
    · exact ⟨4, rfl, by omega⟩
    · exact ⟨5, rfl, by omega⟩
    · exact ⟨7, rfl, by omega⟩
    · exact ⟨0, rfl, by omega⟩
  obtain ⟨x, hx, hx6⟩ := pk
  have px := pickL hx rfl
  have s1 : denSs prg.val (callD prg (lv + 1 + 1)) b_law_table_19 [some (pool a b c), some (.int R), none, none, none, none, none, none, none, none, none] = denSs prg.val (callD prg (lv + 1 + 1)) b_law_table_18 [some (pool a1 b c1), some (.int R), some (.int x), none, none, none, none, none, none, none, none] := by
    simp -implicitDefEqProofs [runD, denSs, denS, denE, denO, denA, denC, denI, finO, valsO, takeO, backO, getPl, setPl, evS, getS, opD, opI2, opI1, outs, clrs, noOwn, isOwnL, setT, setNs, noneAt, pool, onBl, opInt, b_law_table_19, e1, px, backO]
  by_cases h0 : x = 0
  · subst h0
    obtain ⟨i2, a2, c2, e2, p2, q2⟩ := next_ok (lv + 1) a1 b c1 5 (by omega) (by omega)
    obtain ⟨n2, rfl⟩ := nat_of p2
    refine ⟨6 + n2, a2, c2, by omega, by omega, s1.trans ?_⟩
    simp -implicitDefEqProofs [runD, denSs, denS, denE, denO, denA, denC, denI, finO, valsO, takeO, backO, getPl, setPl, evS, getS, opD, opI2, opI1, outs, clrs, noOwn, isOwnL, setT, setNs, noneAt, pool, onBl, opInt, b_law_table_18, eqI, e2, opAdd, backO]
  · refine ⟨x, a1, c1, by omega, by omega, s1.trans ?_⟩
    have hb : ((x : Int) == 0) = false := by simp; exact h0
    simp -implicitDefEqProofs [runD, denSs, denS, denE, denO, denA, denC, denI, finO, valsO, takeO, backO, getPl, setPl, evS, getS, opD, opI2, opI1, outs, clrs, noOwn, isOwnL, setT, setNs, noneAt, pool, onBl, opInt, b_law_table_18, eqI, hb]
theorem tabEnd (lv : Nat) {R C : Nat} (hR : R ≤ 100) {t : List (List Int)} (T : Tab R C t) {x1 x2 x3 x4 x6 x7 : Option D} {p : D} : ∃ g, denSs prg.val (callD prg lv) b_law_table_15 [some p, x1, x2, x3, x4, some (ownT t), x6, x7, none, none, none] = .ok (.rt (tupT t), some p :: g) := by
  obtain ⟨acc, g', e, hI⟩ := lcD_inv (t := .nm 9) (own := [9]) (cond := fun g => .ok (true, g)) (elt := denE prg.val (callD prg lv) e_law_table_13)
    (fun j acc g => acc = (t.take j).map tupR ∧ g = [some p, x1, x2, x3, x4, some (.lst false (t.map frR)), x6, x7, none, none, none]) (t.map frR) 0 [] _ ⟨by simp, rfl⟩
    (by rw [List.length_map, T.len, line_eq, List.length_nil]; omega) (by rintro j acc g ⟨rfl, _⟩; rw [List.length_map, List.length_take]; omega) (by rw [List.length_map, T.len, line_eq]; omega) (by
      rintro i d acc g hi ⟨rfl, rfl⟩
      have hin : i < t.length := by have := lt_of_get hi; rwa [List.length_map] at this
      rw [List.getElem?_map, List.getElem?_eq_getElem hin] at hi
      cases hi
      refine ⟨[some p, x1, x2, x3, x4, some (.lst false (t.map frR)), x6, x7, none, some (frR t[i]), none], [some p, x1, x2, x3, x4, some (.lst false (t.map frR)), x6, x7, none, some (frR t[i]), none], true, rfl, rfl, fun z => (by cases z), fun _ => ⟨tupR t[i], [some p, x1, x2, x3, x4, some (.lst false (t.map frR)), x6, x7, none, some (frR t[i]), none], ?_, ?_, rfl⟩⟩
      · simp -implicitDefEqProofs [runD, denSs, denS, denE, denO, denA, denC, denI, finO, valsO, takeO, backO, getPl, setPl, evS, getS, opD, opI2, opI1, outs, clrs, noOwn, isOwnL, setT, setNs, noneAt, pool, onBl, opInt, e_law_table_13, tup_frR]
      · rw [Nat.zero_add, List.take_succ_eq_append_getElem hin, List.map_append]; rfl)
  obtain ⟨rfl, rfl⟩ := hI
  rw [Nat.zero_add, List.length_map, List.take_length] at e
  refine ⟨[x1, x2, x3, x4, some (.lst false (t.map frR)), x6, x7, none, none, none], ?_⟩
  have n1 : noOwns (t.map frR) = true := noOwns_map noOwn_frR t
  simp -implicitDefEqProofs [runD, denSs, denS, denE, denO, denA, denC, denI, finO, valsO, takeO, backO, getPl, setPl, evS, getS, opD, opI2, opI1, outs, clrs, noOwn, isOwnL, setT, setNs, noneAt, pool, onBl, opInt, b_law_table_15, e_law_table_14, frz_ownT, n1, e, tup_rows]
theorem br1 (lv : Nat) {R C : Nat} (hR : R ≤ 100) (hC : C ≤ 100) (a b c : Int) {n3 : Nat} (h3 : n3 < 3) : ∃ t a' c' x3 x4 x6 x7, Tab R C t ∧ denSs prg.val (callD prg (lv + 1 + 1)) b_law_table_16 [some (pool a b c), some (.int R), some (.int C), some (.int n3), none, none, none, none, none, none, none] =
    denSs prg.val (callD prg (lv + 1 + 1)) b_law_table_15 [some (pool a' b c'), some (.int R), some (.int C), x3, x4, some (ownT t), x6, x7, none, none, none] := by
  have pk : ∃ x : Nat, ([.int 2, .int 3, .int 6] : List D)[n3]? = some (.int x) ∧ 0 < x ∧ x ≤ 6 := by
    have : n3 = 0 ∨ n3 = 1 ∨ n3 = 2 := by omega
    rcases this with rfl | rfl | rfl
    · exact ⟨2, rfl, by omega, by omega⟩
    · exact ⟨3, rfl, by omega, by omega⟩
    · exact ⟨6, rfl, by omega, by omega⟩
  obtain ⟨x, hx, x0, hx6⟩ := pk
  have px := pickL hx rfl
  obtain ⟨a', c', t, T, e⟩ := rows_lc (lv := lv + 1 + 1) (b := b) (R := R) (C := C) (x3 := some (.int n3)) (x4 := some (.int x)) (x5 := none) (x6 := none) (x7 := none) (elt := e_law_table_0) (er := e_law_table_1) (el := e_law_table_2) rfl rfl hR hC (fun a c r cc _ _ => by
    obtain ⟨i1, a1, c1, e1, p1, q1⟩ := next_ok (lv + 1) a b c x (by omega) (by omega)
    refine ⟨a1, c1, if 0 < i1 then 1 else 0, by split <;> omega, ?_⟩
    simp -implicitDefEqProofs [runD, denSs, denS, denE, denO, denA, denC, denI, finO, valsO, takeO, backO, getPl, setPl, evS, getS, opD, opI2, opI1, outs, clrs, noOwn, isOwnL, setT, setNs, noneAt, pool, onBl, opInt, e_law_table_0, e1, backO]) a c
  refine ⟨t, a', c', some (.int n3), some (.int x), none, none, T, ?_⟩
  have h3' : (n3 : Int) < 3 := by omega
  simp -implicitDefEqProofs [runD, denSs, denS, denE, denO, denA, denC, denI, finO, valsO, takeO, backO, getPl, setPl, evS, getS, opD, opI2, opI1, outs, clrs, noOwn, isOwnL, setT, setNs, noneAt, pool, onBl, opInt, b_law_table_16, h3', px, e]
theorem br2 (cl : Call) {R C : Nat} (a b c : Int) (hl : ∀ w : Int, w = 0 ∨ w = 1 → ∃ t a' c' , Tab R C t ∧ cl i_law_laid [pool a b c, .int R, .int C, .int w] = .ok (ownT t, [some (pool a' b c'), some (.int R), some (.int C), some (.int w)])) {n3 : Nat} (h3 : ¬ n3 < 3) (h6 : n3 < 6) :
    ∃ t a' c' x3 x4 x6 x7, Tab R C t ∧ denSs prg.val cl b_law_table_16 [some (pool a b c), some (.int R), some (.int C), some (.int n3), none, none, none, none, none, none, none] =
    denSs prg.val cl b_law_table_15 [some (pool a' b c'), some (.int R), some (.int C), x3, x4, some (ownT t), x6, x7, none, none, none] := by
  have h3' : ¬ (n3 : Int) < 3 := by omega
  have h6' : (n3 : Int) < 6 := by omega
  by_cases h5 : (n3 : Int) < 5
  · obtain ⟨t, a', c', T, e⟩ := hl 1 (.inr rfl)
    refine ⟨t, a', c', some (.int n3), none, none, none, T, ?_⟩
    simp -implicitDefEqProofs [runD, denSs, denS, denE, denO, denA, denC, denI, finO, valsO, takeO, backO, getPl, setPl, evS, getS, opD, opI2, opI1, outs, clrs, noOwn, isOwnL, setT, setNs, noneAt, pool, onBl, opInt, b_law_table_16, b_law_table_12, h3', h6', h5, e, backO]
  · obtain ⟨t, a', c', T, e⟩ := hl 0 (.inl rfl)
    refine ⟨t, a', c', some (.int n3), none, none, none, T, ?_⟩
    simp -implicitDefEqProofs [runD, denSs, denS, denE, denO, denA, denC, denI, finO, valsO, takeO, backO, getPl, setPl, evS, getS, opD, opI2, opI1, outs, clrs, noOwn, isOwnL, setT, setNs, noneAt, pool, onBl, opInt, b_law_table_16, b_law_table_12, h3', h6', h5, e, backO]
theorem br3 (lv : Nat) {R C : Nat} (hR : R ≤ 100) (hC : C ≤ 100) (a b c : Int) : ∃ t a' c' x3 x4 x6 x7, Tab R C t ∧ denSs prg.val (callD prg (lv + 1 + 1)) b_law_table_16 [some (pool a b c), some (.int R), some (.int C), some (.int 6), none, none, none, none, none, none, none] =
    denSs prg.val (callD prg (lv + 1 + 1)) b_law_table_15 [some (pool a' b c'), some (.int R), some (.int C), x3, x4, some (ownT t), x6, x7, none, none, none] := by
  obtain ⟨i1, a1, c1, e1, p1, q1⟩ := next_ok (lv + 1) a b c 2 (by omega) (by omega)
  obtain ⟨i2, a2, c2, e2, p2, q2⟩ := next_ok (lv + 1) a1 b c1 (2 + i1) (by omega) (by omega)
  have hm : 0 < 2 + i1 := by omega
  obtain ⟨a', c', t, T, e⟩ := rows_lc (lv := lv + 1 + 1) (b := b) (R := R) (C := C) (x3 := some (.int 6)) (x4 := none) (x5 := none) (x6 := some (.int (2 + i1))) (x7 := some (.int i2)) (elt := e_law_table_3) (er := e_law_table_4) (el := e_law_table_5) rfl rfl hR hC (fun a c r cc _ _ => by
    refine ⟨a, c, if 0 < (r + cc + i2) % (2 + i1) then 1 else 0, by split <;> omega, ?_⟩
    simp -implicitDefEqProofs [runD, denSs, denS, denE, denO, denA, denC, denI, finO, valsO, takeO, backO, getPl, setPl, evS, getS, opD, opI2, opI1, outs, clrs, noOwn, isOwnL, setT, setNs, noneAt, pool, onBl, opInt, e_law_table_3, opAdd, hm]) a2 c2
  refine ⟨t, a', c', some (.int 6), none, some (.int (2 + i1)), some (.int i2), T, ?_⟩
  simp -implicitDefEqProofs [runD, denSs, denS, denE, denO, denA, denC, denI, finO, valsO, takeO, backO, getPl, setPl, evS, getS, opD, opI2, opI1, outs, clrs, noOwn, isOwnL, setT, setNs, noneAt, pool, onBl, opInt, b_law_table_16, b_law_table_12, b_law_table_11, b_law_table_9, eqI, e1, e2, opAdd, backO, e]
theorem br4 (lv : Nat) {R C : Nat} (hR : R ≤ 100) (hC : C ≤ 100) (a b c : Int) {n3 : Nat} (h6 : 6 < n3) : ∃ t a' c' x3 x4 x6 x7, Tab R C t ∧ denSs prg.val (callD prg (lv + 1 + 1)) b_law_table_16 [some (pool a b c), some (.int R), some (.int C), some (.int n3), none, none, none, none, none, none, none] =
    denSs prg.val (callD prg (lv + 1 + 1)) b_law_table_15 [some (pool a' b c'), some (.int R), some (.int C), x3, x4, some (ownT t), x6, x7, none, none, none] := by
  obtain ⟨i1, a1, c1, e1, p1, q1⟩ := next_ok (lv + 1) a b c 2 (by omega) (by omega)
  obtain ⟨g', e, hI⟩ := forD_inv (t := .nm 8) (clr := [8]) (body := denSs prg.val (callD prg (lv + 1 + 1)) b_law_table_8)
    (fun j g => ∃ t a c, Tab j C t ∧ g = S b R C (some (.int n3)) none (some (ownT t)) none (some (.int i1)) a c none none) (rngs 0 R) 0 _ ⟨[], a1, c1, ⟨rfl, by simp, by simp⟩, rfl⟩ (by
    rintro i d g hi ⟨t', a', c', T', rfl⟩
    have hin : i < R := by have := lt_of_get hi; rwa [rngs_len] at this
    rw [rngs_get _ _ i hin] at hi
    cases hi
    obtain ⟨a2, c2, row, hl, hb, e⟩ := row_lc (lv := lv + 1 + 1) (b := b) (R := R) (C := C) (x3 := some (.int n3)) (x4 := none) (x5 := some (ownT t')) (x6 := none) (x7 := some (.int i1)) (elt := e_law_table_6) (er := e_law_table_7) rfl hC (fun a c r cc _ _ => by
      refine ⟨a, c, (mn4 r cc (R - 1 - r) (C - 1 - cc) + i1) % 2, by omega, ?_⟩
      simp -implicitDefEqProofs [runD, denSs, denS, denE, denO, denA, denC, denI, finO, valsO, takeO, backO, getPl, setPl, evS, getS, opD, opI2, opI1, outs, clrs, noOwn, isOwnL, setT, setNs, noneAt, pool, onBl, opInt, e_law_table_6, opAdd, opMin4]) a' c' (0 + i) (by omega) (by omega)
    refine ⟨S b R C (some (.int n3)) none (some (ownT t')) none (some (.int i1)) a' c' (some (.int (0 + i))) none, S b R C (some (.int n3)) none (some (ownT (t' ++ [row]))) none (some (.int i1)) a2 c2 (some (.int (0 + i))) none, rfl, ?_, t' ++ [row], a2, c2, ⟨by simp [T'.len], fun z hz => ?_, fun z hz => ?_⟩, rfl⟩
    · have hz : t'.length < sizeLine := by rw [T'.len, line_eq]; omega
      have hm : opM .append (ownT t') [rowD row] = some (.non, ownT (t' ++ [row])) := by
        unfold opM ownT
        simp only [List.length_map, hz, if_true, List.map_append, List.map_cons, List.map_nil]
      have ho : isOwnL (ownT t') = true := rfl
      rw [Int.zero_add] at e ⊢
      simp -implicitDefEqProofs [denSs, denS, denE, denO, getPl, setPl, getS, valsO, b_law_table_8, e, hm, ho]
    · rcases List.mem_append.mp hz with q | q
      · exact T'.row z q
      · simp only [List.mem_singleton] at q
        rw [q]; exact hl
    · rcases List.mem_append.mp hz with q | q
      · exact T'.bit z q
      · simp only [List.mem_singleton] at q
        rw [q]; exact hb)
  obtain ⟨t, a', c', T, rfl⟩ := hI
  rw [rngs_len, Nat.zero_add] at T
  refine ⟨t, a', c', some (.int n3), none, none, some (.int i1), T, ?_⟩
  have h3' : ¬ (n3 : Int) < 3 := by omega
  have h6' : ¬ (n3 : Int) < 6 := by omega
  have h66 : ((n3 : Int) == 6) = false := by simp; omega
  have rg := rng1_ok (n := R) (by omega)
  have e0 : ownT [] = .lst true [] := rfl
  rw [e0] at e
  simp -implicitDefEqProofs [runD, denSs, denS, denE, denO, denA, denC, denI, finO, valsO, takeO, backO, getPl, setPl, evS, getS, opD, opI2, opI1, outs, clrs, noOwn, isOwnL, setT, setNs, noneAt, pool, onBl, opInt, b_law_table_16, b_law_table_12, b_law_table_11, b_law_table_10, eqI, h3', h6', h66, e1, backO, rg, e]
theorem table_ok (lv : Nat) (a b c : Int) : ∃ t R C a' b' c', 0 < R ∧ R ≤ 10 ∧ 0 < C ∧ C ≤ 10 ∧ Tab R C t ∧ callD prg (lv + 1 + 1 + 1) i_law_table [pool a b c] = .ok (tupT t, [some (pool a' b' c')]) := by
  obtain ⟨R, a1, c1, hR0, hR, s1⟩ := rowsA lv a b c
  obtain ⟨C, a2, c2, hC0, hC, s2⟩ := colsA lv R a1 b c1
  obtain ⟨i3, a3, c3, e3, p3, q3⟩ := next_ok (lv + 1) a2 b c2 8 (by omega) (by omega)
  obtain ⟨n3, rfl⟩ := nat_of p3
  have s3 : denSs prg.val (callD prg (lv + 1 + 1)) b_law_table_17 [some (pool a2 b c2), some (.int R), some (.int C), none, none, none, none, none, none, none, none] = denSs prg.val (callD prg (lv + 1 + 1)) b_law_table_16 [some (pool a3 b c3), some (.int R), some (.int C), some (.int n3), none, none, none, none, none, none, none] := by
    simp -implicitDefEqProofs [runD, denSs, denS, denE, denO, denA, denC, denI, finO, valsO, takeO, backO, getPl, setPl, evS, getS, opD, opI2, opI1, outs, clrs, noOwn, isOwnL, setT, setNs, noneAt, pool, onBl, opInt, b_law_table_17, e3, backO]
  have s4 : ∃ t a' c' x3 x4 x6 x7, Tab R C t ∧ denSs prg.val (callD prg (lv + 1 + 1)) b_law_table_16 [some (pool a3 b c3), some (.int R), some (.int C), some (.int n3), none, none, none, none, none, none, none] =
      denSs prg.val (callD prg (lv + 1 + 1)) b_law_table_15 [some (pool a' b c'), some (.int R), some (.int C), x3, x4, some (ownT t), x6, x7, none, none, none] := by
    by_cases h3 : n3 < 3
    · exact br1 lv (by omega) (by omega) a3 b c3 h3
    · by_cases h6 : n3 < 6
      · exact br2 _ a3 b c3 (fun w hw => laid_ok lv hw hR0 hC0 (by omega) (by omega) a3 b c3) h3 h6
      · by_cases h66 : n3 = 6
        · subst h66
          exact br3 lv (by omega) (by omega) a3 b c3
        · exact br4 lv (by omega) (by omega) a3 b c3 (by omega)
  obtain ⟨t, a', c', x3, x4, x6, x7, T, s4⟩ := s4
  obtain ⟨g, s5⟩ := tabEnd (lv + 1 + 1) (R := R) (C := C) (by omega) T (p := pool a' b c') (x1 := some (.int R)) (x2 := some (.int C)) (x3 := x3) (x4 := x4) (x6 := x6) (x7 := x7)
  refine ⟨t, R, C, a', b, c', hR0, hR, hC0, hC, T, ?_⟩
  have hb := s1.trans (s2.trans (s3.trans (s4.trans s5)))
  have q0 : ([pool a b c] : List D).length = d_law_table.np := rfl
  have q1 : ([pool a b c] : List D).map some ++ List.replicate (d_law_table.ns - d_law_table.np) none = [some (pool a b c), none, none, none, none, none, none, none, none, none, none] := rfl
  have q2 : outs d_law_table (some (pool a' b c') :: g) = [some (pool a' b c')] := rfl
  have q3 := runD_rt (d := d_law_table) q0 q1 hb
  rw [q2] at q3
  rw [call_law_table]
  exact q3

end VS.Law
end

section
-- a050b086b2a77351eb9c16083a241bdd
set_option maxHeartbeats 1000000
namespace VS.Law
open PySem L2 VS
/-! size_of -/
section
variable {R C : Nat} {t : List (List Int)}
theorem size_ok (lv : Nat) (T : Tab R C t) (hR : 0 < R) : callD prg (lv + 1) i_size_of [tupT t] = .ok (.tup [.int R, .int C], [some (tupT t)]) := by
  have key : ∀ cl : Call, denSs prg.val cl b_size_of [some (tupT t)] = .ok (.rt (.tup [.int R, .int C]), [some (tupT t)]) := fun cl => by
    obtain ⟨row, hl, p0⟩ := pl0 T hR []
    simp -implicitDefEqProofs only [denSs, denS, denI, denE, denO, denA, denC, valsO, finO, takeO, backO, getPl_slot, setPl, getS, setT, setNs, opD, opI1, opI2, addN, opt_some, bind_ok, thn1_nx, thn1_rt, aft_nx, onBl_bl, List.set_cons_succ, List.set_cons_zero, List.getElem?_cons_succ, List.getElem?_cons_zero, Option.bind_some, id, Option.map_some, List.length_cons, List.length_nil, Nat.reduceAdd, Nat.reduceLT, if_true, if_false, Bool.false_eq_true, isOwnL, noOwn, clrs, List.foldl_cons, List.foldl_nil, decide_true, decide_false, Bool.not_true, Bool.not_false, okOnly_ok, b_size_of, lenT T, p0, lenR hl]
  have hb := key (callD prg lv)
  have q0 : ([tupT t] : List D).length = d_size_of.np := rfl
  have q1 : ([tupT t] : List D).map some ++ List.replicate (d_size_of.ns - d_size_of.np) none = [some (tupT t)] := rfl
  have q2 : outs d_size_of [some (tupT t)] = [some (tupT t)] := rfl
  have q3 := runD_rt (d := d_size_of) q0 q1 hb
  rw [q2] at q3
  rw [call_size_of]
  exact q3
end

end VS.Law
end

section
-- ad5d8b1e5c4aaedb7acb444966b133a0
set_option maxHeartbeats 1000000
namespace VS.Law
open PySem L2 VS
section
variable {R C : Nat} {t : List (List Int)}
theorem at_ok (lv : Nat) (T : Tab R C t) (hR : 0 < R) (r c : Int) : callD prg (lv + 1) i_law_at [tupT t, .int r, .int c] = .ok (.int (atT t r c), [some (tupT t), some (.int r), some (.int c)]) := by
  have key : ∀ cl : Call, ∃ x, denSs prg.val cl b_law_at [some (tupT t), some (.int r), some (.int c)] = .ok (.rt (.int (atT t r c)), [some (tupT t), some (.int r), some (.int c)]) := fun cl => by
    obtain ⟨row, hl, p0⟩ := pl0 T hR [some (.int r), some (.int c)]
    refine ⟨0, ?_⟩
    by_cases h1 : 0 ≤ r
    · obtain ⟨r, rfl⟩ := nat_of h1
      by_cases h3 : 0 ≤ c
      · obtain ⟨c, rfl⟩ := nat_of h3
        have ea : atT t r c = cell t r c := by unfold atT; rw [if_pos ⟨h1, h3⟩]; simp
        rw [ea]
        by_cases h2 : r < R
        · have h2' : (r : Int) < R := by omega
          by_cases h4 : c < C
          · have h4' : (c : Int) < C := by omega
            have pr := plrc T h2 h4 (i := 1) (j := 2) [some (tupT t), some (.int r), some (.int c)] rfl rfl rfl
            simp -implicitDefEqProofs [denSs, denS, denE, denO, denA, finO, getPl_slot, getS, opD, opI2, opI1, noOwn, onBl, b_law_at, lenT T, p0, lenR hl, pr, h2', h4', h2, h4]
          · have h4' : ¬ (c : Int) < C := by omega
            rw [cell_out T (.inr (by omega))]
            simp -implicitDefEqProofs [denSs, denS, denE, denO, denA, finO, getPl_slot, getS, opD, opI2, opI1, noOwn, onBl, b_law_at, lenT T, p0, lenR hl, h2', h4', h2, h4]
        · have h2' : ¬ (r : Int) < R := by omega
          rw [cell_out T (.inl (by omega))]
          simp -implicitDefEqProofs [denSs, denS, denE, denO, denA, finO, getPl_slot, getS, opD, opI2, opI1, noOwn, onBl, b_law_at, lenT T, p0, lenR hl, h2', h2]
      · have ea : atT t r c = 0 := by unfold atT; rw [if_neg fun z => h3 z.2]
        rw [ea]
        by_cases h2 : r < R
        · have h2' : (r : Int) < R := by omega
          simp -implicitDefEqProofs [denSs, denS, denE, denO, denA, finO, getPl_slot, getS, opD, opI2, opI1, noOwn, onBl, b_law_at, lenT T, p0, lenR hl, h2', h2, h3]
        · have h2' : ¬ (r : Int) < R := by omega
          simp -implicitDefEqProofs [denSs, denS, denE, denO, denA, finO, getPl_slot, getS, opD, opI2, opI1, noOwn, onBl, b_law_at, lenT T, p0, lenR hl, h2', h2]
    · have ea : atT t r c = 0 := by unfold atT; rw [if_neg fun z => h1 z.1]
      rw [ea]
      simp -implicitDefEqProofs [denSs, denS, denE, denO, denA, finO, getPl_slot, getS, opD, opI2, opI1, noOwn, onBl, b_law_at, lenT T, p0, lenR hl, h1]
  obtain ⟨_, hb⟩ := key (callD prg lv)
  have q0 : ([tupT t, .int r, .int c] : List D).length = d_law_at.np := rfl
  have q1 : ([tupT t, .int r, .int c] : List D).map some ++ List.replicate (d_law_at.ns - d_law_at.np) none = [some (tupT t), some (.int r), some (.int c)] := rfl
  have q2 : outs d_law_at [some (tupT t), some (.int r), some (.int c)] = [some (tupT t), some (.int r), some (.int c)] := rfl
  have q3 := runD_rt (d := d_law_at) q0 q1 hb
  rw [q2] at q3
  rw [call_law_at]
  exact q3
end
section
variable {R C : Nat} {t : List (List Int)}
theorem yes_key (cl : Call) (T : Tab R C t) (hR : 0 < R) (hs : cl i_size_of [tupT t] = .ok (.tup [.int R, .int C], [some (tupT t)])) (r c : Int) :
    ∃ x3 x4, denSs prg.val cl b_yes_at [some (tupT t), some (.int r), some (.int c), none, none] = .ok (.rt (.int (atT t r c)), [some (tupT t), some (.int r), some (.int c), x3, x4]) := by
  refine ⟨some (.int R), some (.int C), ?_⟩
  by_cases h1 : 0 ≤ r
  · obtain ⟨r, rfl⟩ := nat_of h1
    by_cases h3 : 0 ≤ c
    · obtain ⟨c, rfl⟩ := nat_of h3
      have ea : atT t r c = cell t r c := by unfold atT; rw [if_pos ⟨h1, h3⟩]; simp
      rw [ea]
      by_cases h2 : r < R
      · have h2' : (r : Int) < R := by omega
        by_cases h4 : c < C
        · have h4' : (c : Int) < C := by omega
          have pr := plrc T h2 h4 (i := 1) (j := 2) [some (tupT t), some (.int r), some (.int c), some (.int R), some (.int C)] rfl rfl rfl
          simp -implicitDefEqProofs [denSs, denS, denE, denO, denA, finO, takeO, backO, setT, setNs, getPl_slot, getS, opD, opI2, opI1, noOwn, onBl, b_yes_at, hs, pr, h2', h4', h2, h4]
        · have h4' : ¬ (c : Int) < C := by omega
          rw [cell_out T (.inr (by omega))]
          simp -implicitDefEqProofs [denSs, denS, denE, denO, denA, finO, takeO, backO, setT, setNs, getPl_slot, getS, opD, opI2, opI1, noOwn, onBl, b_yes_at, hs, h2', h4', h2, h4]
      · have h2' : ¬ (r : Int) < R := by omega
        rw [cell_out T (.inl (by omega))]
        simp -implicitDefEqProofs [denSs, denS, denE, denO, denA, finO, takeO, backO, setT, setNs, getPl_slot, getS, opD, opI2, opI1, noOwn, onBl, b_yes_at, hs, h2', h2]
    · have ea : atT t r c = 0 := by unfold atT; rw [if_neg fun z => h3 z.2]
      rw [ea]
      by_cases h2 : r < R
      · have h2' : (r : Int) < R := by omega
        simp -implicitDefEqProofs [denSs, denS, denE, denO, denA, finO, takeO, backO, setT, setNs, getPl_slot, getS, opD, opI2, opI1, noOwn, onBl, b_yes_at, hs, h2', h2, h3]
      · have h2' : ¬ (r : Int) < R := by omega
        simp -implicitDefEqProofs [denSs, denS, denE, denO, denA, finO, takeO, backO, setT, setNs, getPl_slot, getS, opD, opI2, opI1, noOwn, onBl, b_yes_at, hs, h2', h2]
  · have ea : atT t r c = 0 := by unfold atT; rw [if_neg fun z => h1 z.1]
    rw [ea]
    simp -implicitDefEqProofs [denSs, denS, denE, denO, denA, finO, takeO, backO, setT, setNs, getPl_slot, getS, opD, opI2, opI1, noOwn, onBl, b_yes_at, hs, h1]
theorem yes_ok (lv : Nat) (T : Tab R C t) (hR : 0 < R) (r c : Int) : callD prg (lv + 1 + 1) i_yes_at [tupT t, .int r, .int c] = .ok (.int (atT t r c), [some (tupT t), some (.int r), some (.int c)]) := by
  obtain ⟨x3, x4, hb⟩ := yes_key (callD prg (lv + 1)) T hR (size_ok lv T hR) r c
  have q0 : ([tupT t, .int r, .int c] : List D).length = d_yes_at.np := rfl
  have q1 : ([tupT t, .int r, .int c] : List D).map some ++ List.replicate (d_yes_at.ns - d_yes_at.np) none = [some (tupT t), some (.int r), some (.int c), none, none] := rfl
  have q2 : outs d_yes_at [some (tupT t), some (.int r), some (.int c), x3, x4] = [some (tupT t), some (.int r), some (.int c)] := rfl
  have q3 := runD_rt (d := d_yes_at) q0 q1 hb
  rw [q2] at q3
  rw [call_yes_at]
  exact q3
theorem around_key (cl : Call) (hy : ∀ r c : Int, cl i_yes_at [tupT t, .int r, .int c] = .ok (.int (atT t r c), [some (tupT t), some (.int r), some (.int c)])) (r c : Int) :
    denSs prg.val cl b_around [some (tupT t), some (.int r), some (.int c)] = .ok (.rt (.lst true [.int (atT t (r - 1) (c - 1)), .int (atT t (r - 1) c), .int (atT t r (c - 1)), .int (atT t r c)]), [some (tupT t), some (.int r), some (.int c)]) := by
  simp -implicitDefEqProofs [denSs, denS, denE, denO, valsO, finO, takeO, backO, getPl_slot, getS, opD, opI2, b_around, hy]
theorem around_ok (lv : Nat) (T : Tab R C t) (hR : 0 < R) (r c : Int) : callD prg (lv + 1 + 1 + 1) i_around [tupT t, .int r, .int c] = .ok (.lst true [.int (atT t (r - 1) (c - 1)), .int (atT t (r - 1) c), .int (atT t r (c - 1)), .int (atT t r c)], [some (tupT t), some (.int r), some (.int c)]) := by
  have hb := around_key (callD prg (lv + 1 + 1)) (fun r c => yes_ok lv T hR r c) r c
  have q0 : ([tupT t, .int r, .int c] : List D).length = d_around.np := rfl
  have q1 : ([tupT t, .int r, .int c] : List D).map some ++ List.replicate (d_around.ns - d_around.np) none = [some (tupT t), some (.int r), some (.int c)] := rfl
  have q2 : outs d_around [some (tupT t), some (.int r), some (.int c)] = [some (tupT t), some (.int r), some (.int c)] := rfl
  have q3 := runD_rt (d := d_around) q0 q1 hb
  rw [q2] at q3
  rw [call_around]
  exact q3
end
def kind (a b c d : Int) : Nat := if a + b + c + d = 1 then 1 else if a + b + c + d = 3 then 3 else if a + b + c + d = 2 ∧ a = d then 2 else 0
def kd (t : List (List Int)) (r c : Nat) : Nat := kind (atT t ((r : Int) - 1) ((c : Int) - 1)) (atT t ((r : Int) - 1) c) (atT t r ((c : Int) - 1)) (atT t r c)
def posD (r c : Int) : D := .tup [.int r, .int c]
def rowL (t : List (List Int)) (k r j : Nat) : List D := ((List.range j).filter fun c => kd t r c == k).map fun c : Nat => posD r c
def allL (t : List (List Int)) (k m i : Nat) : List D := (List.range i).flatMap fun r => rowL t k r m
theorem rowL_succ (t : List (List Int)) (k r j : Nat) : rowL t k r (j + 1) = rowL t k r j ++ if kd t r j = k then [posD r j] else [] := by
  unfold rowL
  rw [List.range_succ, List.filter_append, List.map_append]
  by_cases h : kd t r j = k
  · simp [h]
  · have : (kd t r j == k) = false := by simp [h]
    simp [h]
theorem allL_succ (t : List (List Int)) (k m i : Nat) : allL t k m (i + 1) = allL t k m i ++ rowL t k i m := by
  unfold allL
  rw [List.range_succ, List.flatMap_append]
  simp
theorem rowL_len (t : List (List Int)) (k r : Nat) : ∀ j, (rowL t k r j).length ≤ j
  | 0 => by simp [rowL]
  | j + 1 => by
    rw [rowL_succ, List.length_append]
    have := rowL_len t k r j
    split <;> simp <;> omega
theorem allL_len (t : List (List Int)) (k m : Nat) : ∀ i, (allL t k m i).length ≤ i * m
  | 0 => by simp [allL]
  | i + 1 => by
    rw [allL_succ, List.length_append, Nat.add_mul]
    have := allL_len t k m i
    have := rowL_len t k i m
    omega
theorem sum4 (a b c d : Int) : opSum (.lst true [.int a, .int b, .int c, .int d]) = some (.int (a + b + c + d)) := by
  simp [opSum, intsD]; omega
theorem step3 (cl : Call) {tt : D} {r c : Int} {a b c' d : Int} (ha : cl i_around [tt, .int r, .int c] = .ok (.lst true [.int a, .int b, .int c', .int d], [some tt, some (.int r), some (.int c)])) {x1 x2 : Option D} {O X I : List D} (hO : O.length < sizeLine) (hX : X.length < sizeLine) (hI : I.length < sizeLine) :
    ∃ x8, denSs prg.val cl b_corners_of_2 [some tt, x1, x2, some (.lst true O), some (.lst true X), some (.lst true I), some (.int r), some (.int c), none] =
      .ok (.nx, [some tt, x1, x2, some (.lst true (O ++ if kind a b c' d = 1 then [posD r c] else [])), some (.lst true (X ++ if kind a b c' d = 2 then [posD r c] else [])), some (.lst true (I ++ if kind a b c' d = 3 then [posD r c] else [])), some (.int r), some (.int c), x8]) := by
  refine ⟨some (.lst true [.int a, .int b, .int c', .int d]), ?_⟩
  unfold kind
  by_cases h1 : a + b + c' + d = 1
  · have e1 : (a + b + c' + d == 1) = true := by simp [h1]
    simp -implicitDefEqProofs [denSs, denS, denE, denO, valsO, finO, takeO, backO, setT, getPl_slot, setPl, getS, opD, b_corners_of_2, ha, sum4, eqI, noOwn, isOwnL, opM, hO, h1, posD]
  · have e1 : (a + b + c' + d == 1) = false := by simp [h1]
    by_cases h3 : a + b + c' + d = 3
    · have e3 : (a + b + c' + d == 3) = true := by simp [h3]
      simp -implicitDefEqProofs [denSs, denS, denE, denO, valsO, finO, takeO, backO, setT, getPl_slot, setPl, getS, opD, b_corners_of_2, b_corners_of_1, ha, sum4, eqI, noOwn, isOwnL, opM, hI, h3, posD]
    · have e3 : (a + b + c' + d == 3) = false := by simp [h3]
      by_cases h2 : a + b + c' + d = 2
      · have e2 : (a + b + c' + d == 2) = true := by simp [h2]
        by_cases h4 : a = d
        · subst h4
          simp -implicitDefEqProofs [denSs, denS, denE, denO, denA, valsO, finO, takeO, backO, setT, getPl, setPl, getS, evS, ixN, opD, b_corners_of_2, b_corners_of_1, b_corners_of_0, ha, sum4, eqI, noOwn, isOwnL, opM, hX, h1, h2, h3, posD]
        · have e4 : (a == d) = false := by simp [h4]
          simp -implicitDefEqProofs [denSs, denS, denE, denO, denA, valsO, finO, takeO, backO, setT, getPl, setPl, getS, evS, ixN, opD, b_corners_of_2, b_corners_of_1, b_corners_of_0, ha, sum4, eqI, noOwn, isOwnL, opM, h2, h4, e4]
      · have e2 : (a + b + c' + d == 2) = false := by simp [h2]
        simp -implicitDefEqProofs [denSs, denS, denE, denO, denA, valsO, finO, takeO, backO, setT, getPl, setPl, getS, evS, ixN, opD, b_corners_of_2, b_corners_of_1, b_corners_of_0, ha, sum4, eqI, noOwn, isOwnL, opM, h1, h2, h3, e1, e2, e3]
section
variable {R C : Nat} {t : List (List Int)}
def cornD (t : List (List Int)) (R C : Nat) : D := .tup [.lst true (allL t 1 (C + 1) (R + 1)), .lst true (allL t 2 (C + 1) (R + 1)), .lst true (allL t 3 (C + 1) (R + 1))]
abbrev G3 (t : List (List Int)) (R C : Nat) (O X I : List D) (r : Option D) : Gm := [some (tupT t), some (.int R), some (.int C), some (.lst true O), some (.lst true X), some (.lst true I), r, none, none]
theorem big {R C i j : Nat} (hR : R ≤ 10) (hC : C ≤ 10) (hi : i ≤ R) (hj : j ≤ C + 1) {k : Nat} {t : List (List Int)} : (allL t k (C + 1) i ++ rowL t k i j).length < sizeLine := by
  have h1 := allL_len t k (C + 1) i
  have h2 := rowL_len t k i j
  have h3 : i * (C + 1) ≤ 10 * 11 := Nat.mul_le_mul (by omega) (by omega)
  rw [List.length_append, line_eq]
  omega
theorem row3 (cl : Call) (hR : R ≤ 10) (hC : C ≤ 10) (ha : ∀ r c : Int, cl i_around [tupT t, .int r, .int c] = .ok (.lst true [.int (atT t (r - 1) (c - 1)), .int (atT t (r - 1) c), .int (atT t r (c - 1)), .int (atT t r c)], [some (tupT t), some (.int r), some (.int c)])) {i : Nat} (hi : i ≤ R) :
    denSs prg.val cl b_corners_of_3 (G3 t R C (allL t 1 (C + 1) i) (allL t 2 (C + 1) i) (allL t 3 (C + 1) i) (some (.int i))) = .ok (.nx, G3 t R C (allL t 1 (C + 1) (i + 1)) (allL t 2 (C + 1) (i + 1)) (allL t 3 (C + 1) (i + 1)) (some (.int i))) := by
  obtain ⟨g', e, hI⟩ := forD_inv (t := .nm 7) (clr := [7, 8]) (body := denSs prg.val cl b_corners_of_2) (fun j g => j ≤ C + 1 ∧ g = G3 t R C (allL t 1 (C + 1) i ++ rowL t 1 i j) (allL t 2 (C + 1) i ++ rowL t 2 i j) (allL t 3 (C + 1) i ++ rowL t 3 i j) (some (.int i))) (rngs 0 (C + 1)) 0 _ ⟨by omega, rfl⟩ (by
    rintro j d g hj ⟨_, rfl⟩
    have hin : j < C + 1 := by have := lt_of_get hj; rwa [rngs_len] at this
    rw [rngs_get _ _ j hin] at hj
    cases hj
    rw [Int.zero_add, Nat.zero_add]
    obtain ⟨x8, e⟩ := step3 cl (ha i j) (x1 := some (.int R)) (x2 := some (.int C)) (O := allL t 1 (C + 1) i ++ rowL t 1 i j) (X := allL t 2 (C + 1) i ++ rowL t 2 i j) (I := allL t 3 (C + 1) i ++ rowL t 3 i j) (big hR hC hi (by omega)) (big hR hC hi (by omega)) (big hR hC hi (by omega))
    refine ⟨_, _, rfl, e, by omega, ?_⟩
    rw [rowL_succ, rowL_succ, rowL_succ, ← List.append_assoc, ← List.append_assoc, ← List.append_assoc]
    rfl)
  obtain ⟨_, rfl⟩ := hI
  rw [rngs_len, Nat.zero_add] at e
  have rg := rng1_ok (n := C + 1) (by omega)
  have e0 : ∀ k r, rowL t k r 0 = [] := fun k r => rfl
  rw [← allL_succ, ← allL_succ, ← allL_succ, e0, e0, e0, List.append_nil, List.append_nil, List.append_nil] at e
  have hc : (C : Int) + 1 = ((C + 1 : Nat) : Int) := by omega
  simp -implicitDefEqProofs only [denSs, denS, denI, denO, denE, b_corners_of_3, getPl_slot, getS, finO, opD, opAdd, opt_some, bind_ok, List.getElem?_cons_succ, List.getElem?_cons_zero, Option.bind_some, id, Option.map_some, hc, rg, clrs, List.foldl_cons, List.foldl_nil, List.set_cons_succ, List.set_cons_zero, e, thn1_nx]
theorem corners3_key (cl : Call) (hR : R ≤ 10) (hC : C ≤ 10) (hs : cl i_size_of [tupT t] = .ok (.tup [.int R, .int C], [some (tupT t)])) (ha : ∀ r c : Int, cl i_around [tupT t, .int r, .int c] = .ok (.lst true [.int (atT t (r - 1) (c - 1)), .int (atT t (r - 1) c), .int (atT t r (c - 1)), .int (atT t r c)], [some (tupT t), some (.int r), some (.int c)])) :
    ∃ g, denSs prg.val cl b_corners_of [some (tupT t), none, none, none, none, none, none, none, none] = .ok (.rt (cornD t R C), some (tupT t) :: g) := by
  obtain ⟨g', e, hI⟩ := forD_inv (t := .nm 6) (clr := [6, 7, 8]) (body := denSs prg.val cl b_corners_of_3) (fun i g => i ≤ R + 1 ∧ g = G3 t R C (allL t 1 (C + 1) i) (allL t 2 (C + 1) i) (allL t 3 (C + 1) i) none) (rngs 0 (R + 1)) 0 _ ⟨by omega, rfl⟩ (by
    rintro i d g hi ⟨_, rfl⟩
    have hin : i < R + 1 := by have := lt_of_get hi; rwa [rngs_len] at this
    rw [rngs_get _ _ i hin] at hi
    cases hi
    rw [Int.zero_add, Nat.zero_add]
    have e := row3 cl hR hC ha (i := i) (by omega)
    exact ⟨_, _, rfl, e, by omega, rfl⟩)
  obtain ⟨_, rfl⟩ := hI
  rw [rngs_len, Nat.zero_add] at e
  have rg := rng1_ok (n := R + 1) (by omega)
  have hr : (R : Int) + 1 = ((R + 1 : Nat) : Int) := by omega
  have e0 : ∀ k m, allL t k m 0 = [] := fun k m => rfl
  rw [e0, e0, e0] at e
  refine ⟨[some (.int R), some (.int C), none, none, none, none, none, none], ?_⟩
  simp -implicitDefEqProofs only [denSs, denS, denI, denO, denE, b_corners_of, getPl_slot, getS, finO, valsO, takeO, backO, setT, setNs, hs, opD, opAdd, opt_some, bind_ok, List.getElem?_cons_succ, List.getElem?_cons_zero, Option.bind_some, id, Option.map_some, hr, rg, clrs, List.foldl_cons, List.foldl_nil, List.set_cons_succ, List.set_cons_zero, e, thn1_nx, List.length_cons, List.length_nil, Nat.reduceAdd, Nat.reduceLT, if_true, thn1_rt, cornD]
end
theorem step9 (cl : Call) {t : List (List Int)} (ha : ∀ r c : Int, cl i_law_at [tupT t, .int r, .int c] = .ok (.int (atT t r c), [some (tupT t), some (.int r), some (.int c)])) (r c : Int) {O X I : List D} (hO : O.length < sizeLine) (hX : X.length < sizeLine) (hI : I.length < sizeLine) :
    ∃ x4 x5 x6 x7 x8, denSs prg.val cl b_law_corners_0 [some (tupT t), some (.tup [.lst true O, .lst true X, .lst true I]), some (.int r), some (.int c), none, none, none, none, none] =
      .ok (.nx, [some (tupT t), some (.tup [.lst true (O ++ if kind (atT t (r - 1) (c - 1)) (atT t (r - 1) c) (atT t r (c - 1)) (atT t r c) = 1 then [posD r c] else []), .lst true (X ++ if kind (atT t (r - 1) (c - 1)) (atT t (r - 1) c) (atT t r (c - 1)) (atT t r c) = 2 then [posD r c] else []), .lst true (I ++ if kind (atT t (r - 1) (c - 1)) (atT t (r - 1) c) (atT t r (c - 1)) (atT t r c) = 3 then [posD r c] else [])]), some (.int r), some (.int c), x4, x5, x6, x7, x8]) := by
  have a1 := ha (r - 1) (c - 1)
  have a2 := ha (r - 1) c
  have a3 := ha r (c - 1)
  have a4 := ha r c
  generalize atT t (r - 1) (c - 1) = a at a1 ⊢
  generalize atT t (r - 1) c = b at a2 ⊢
  generalize atT t r (c - 1) = c' at a3 ⊢
  generalize atT t r c = d at a4 ⊢
  refine ⟨some (.int a), some (.int b), some (.int c'), some (.int d), some (.int (a + b + c' + d)), ?_⟩
  unfold kind
  by_cases h1 : a + b + c' + d = 1
  · simp -implicitDefEqProofs [denSs, denS, denE, denO, denA, valsO, finO, takeO, backO, setT, setNs, getPl, setPl, evS, ixN, getS, opD, opI2, opAdd, b_law_corners_0, a1, a2, a3, a4, eqI, noOwn, isOwnL, opM, hO, h1, posD]
  · have e1 : (a + b + c' + d == 1) = false := by simp [h1]
    by_cases h3 : a + b + c' + d = 3
    · simp -implicitDefEqProofs [denSs, denS, denE, denO, denA, valsO, finO, takeO, backO, setT, setNs, getPl, setPl, evS, ixN, getS, opD, opI2, opAdd, b_law_corners_0, a1, a2, a3, a4, eqI, noOwn, isOwnL, opM, hI, h3, posD]
    · have e3 : (a + b + c' + d == 3) = false := by simp [h3]
      by_cases h2 : a + b + c' + d = 2
      · by_cases h4 : a = d
        · subst h4
          simp -implicitDefEqProofs [denSs, denS, denE, denO, denA, valsO, finO, takeO, backO, setT, setNs, getPl, setPl, evS, ixN, getS, opD, opI2, opAdd, b_law_corners_0, a1, a2, a3, a4, eqI, noOwn, isOwnL, opM, hX, h2, posD]
        · have e4 : (a == d) = false := by simp [h4]
          simp -implicitDefEqProofs [denSs, denS, denE, denO, denA, valsO, finO, takeO, backO, setT, setNs, getPl, setPl, evS, ixN, getS, opD, opI2, opAdd, b_law_corners_0, a1, a2, a3, a4, eqI, noOwn, isOwnL, opM, h2, h4, e4]
      · have e2 : (a + b + c' + d == 2) = false := by simp [h2]
        simp -implicitDefEqProofs [denSs, denS, denE, denO, denA, valsO, finO, takeO, backO, setT, setNs, getPl, setPl, evS, ixN, getS, opD, opI2, opAdd, b_law_corners_0, a1, a2, a3, a4, eqI, noOwn, isOwnL, opM, h1, h2, h3, e1, e2, e3]
section
variable {R C : Nat} {t : List (List Int)}
abbrev G9 (t : List (List Int)) (O X I : List D) (r : Option D) : Gm := [some (tupT t), some (.tup [.lst true O, .lst true X, .lst true I]), r, none, none, none, none, none, none]
theorem row9 (cl : Call) (T : Tab R C t) (hR0 : 0 < R) (hR : R ≤ 10) (hC : C ≤ 10) (ha : ∀ r c : Int, cl i_law_at [tupT t, .int r, .int c] = .ok (.int (atT t r c), [some (tupT t), some (.int r), some (.int c)])) {i : Nat} (hi : i ≤ R) :
    denSs prg.val cl b_law_corners_1 (G9 t (allL t 1 (C + 1) i) (allL t 2 (C + 1) i) (allL t 3 (C + 1) i) (some (.int i))) = .ok (.nx, G9 t (allL t 1 (C + 1) (i + 1)) (allL t 2 (C + 1) (i + 1)) (allL t 3 (C + 1) (i + 1)) (some (.int i))) := by
  obtain ⟨g', e, hI⟩ := forD_inv (t := .nm 3) (clr := [3, 4, 5, 6, 7, 8]) (body := denSs prg.val cl b_law_corners_0) (fun j g => j ≤ C + 1 ∧ g = G9 t (allL t 1 (C + 1) i ++ rowL t 1 i j) (allL t 2 (C + 1) i ++ rowL t 2 i j) (allL t 3 (C + 1) i ++ rowL t 3 i j) (some (.int i))) (rngs 0 (C + 1)) 0 _ ⟨by omega, rfl⟩ (by
    rintro j d g hj ⟨_, rfl⟩
    have hin : j < C + 1 := by have := lt_of_get hj; rwa [rngs_len] at this
    rw [rngs_get _ _ j hin] at hj
    cases hj
    rw [Int.zero_add, Nat.zero_add]
    obtain ⟨x4, x5, x6, x7, x8, e⟩ := step9 cl ha i j (O := allL t 1 (C + 1) i ++ rowL t 1 i j) (X := allL t 2 (C + 1) i ++ rowL t 2 i j) (I := allL t 3 (C + 1) i ++ rowL t 3 i j) (big hR hC hi (by omega)) (big hR hC hi (by omega)) (big hR hC hi (by omega))
    refine ⟨_, _, rfl, e, by omega, ?_⟩
    rw [rowL_succ, rowL_succ, rowL_succ, ← List.append_assoc, ← List.append_assoc, ← List.append_assoc]
    rfl)
  obtain ⟨_, rfl⟩ := hI
  rw [rngs_len, Nat.zero_add] at e
  have rg := rng1_ok (n := C + 1) (by omega)
  have e0 : ∀ k r, rowL t k r 0 = [] := fun k r => rfl
  rw [← allL_succ, ← allL_succ, ← allL_succ, e0, e0, e0, List.append_nil, List.append_nil, List.append_nil] at e
  have hc : (C : Int) + 1 = ((C + 1 : Nat) : Int) := by omega
  obtain ⟨row, hl, p0⟩ := pl0 T hR0 [some (.tup [.lst true (allL t 1 (C + 1) i), .lst true (allL t 2 (C + 1) i), .lst true (allL t 3 (C + 1) i)]), some (.int i), none, none, none, none, none, none]
  simp -implicitDefEqProofs only [denSs, denS, denI, denO, denE, b_law_corners_1, getPl_slot, getS, finO, opD, opAdd, opt_some, bind_ok, List.getElem?_cons_succ, List.getElem?_cons_zero, Option.bind_some, id, Option.map_some, p0, lenR hl, hc, rg, clrs, List.foldl_cons, List.foldl_nil, List.set_cons_succ, List.set_cons_zero, e, thn1_nx]
theorem corners9_key (cl : Call) (T : Tab R C t) (hR0 : 0 < R) (hR : R ≤ 10) (hC : C ≤ 10) (ha : ∀ r c : Int, cl i_law_at [tupT t, .int r, .int c] = .ok (.int (atT t r c), [some (tupT t), some (.int r), some (.int c)])) :
    ∃ g, denSs prg.val cl b_law_corners [some (tupT t), none, none, none, none, none, none, none, none] = .ok (.rt (cornD t R C), some (tupT t) :: g) := by
  obtain ⟨g', e, hI⟩ := forD_inv (t := .nm 2) (clr := [2, 3, 4, 5, 6, 7, 8]) (body := denSs prg.val cl b_law_corners_1) (fun i g => i ≤ R + 1 ∧ g = G9 t (allL t 1 (C + 1) i) (allL t 2 (C + 1) i) (allL t 3 (C + 1) i) none) (rngs 0 (R + 1)) 0 _ ⟨by omega, rfl⟩ (by
    rintro i d g hi ⟨_, rfl⟩
    have hin : i < R + 1 := by have := lt_of_get hi; rwa [rngs_len] at this
    rw [rngs_get _ _ i hin] at hi
    cases hi
    rw [Int.zero_add, Nat.zero_add]
    have e := row9 cl T hR0 hR hC ha (i := i) (by omega)
    exact ⟨_, _, rfl, e, by omega, rfl⟩)
  obtain ⟨_, rfl⟩ := hI
  rw [rngs_len, Nat.zero_add] at e
  have rg := rng1_ok (n := R + 1) (by omega)
  have hr : (R : Int) + 1 = ((R + 1 : Nat) : Int) := by omega
  have e0 : ∀ k m, allL t k m 0 = [] := fun k m => rfl
  rw [e0, e0, e0] at e
  refine ⟨[none, none, none, none, none, none, none, none], ?_⟩
  simp -implicitDefEqProofs only [denSs, denS, denI, denO, denE, b_law_corners, getPl_slot, getS, finO, valsO, setT, opD, opAdd, lenT T, opt_some, bind_ok, List.getElem?_cons_succ, List.getElem?_cons_zero, Option.bind_some, id, Option.map_some, hr, rg, clrs, List.foldl_cons, List.foldl_nil, List.set_cons_succ, List.set_cons_zero, e, thn1_nx, List.length_cons, List.length_nil, Nat.reduceAdd, Nat.reduceLT, if_true, thn1_rt, cornD]
theorem corners3 (lv : Nat) (T : Tab R C t) (hR0 : 0 < R) (hR : R ≤ 10) (hC : C ≤ 10) : callD prg (lv + 1 + 1 + 1 + 1) i_corners_of [tupT t] = .ok (cornD t R C, [some (tupT t)]) := by
  have hs := size_ok (lv + 1 + 1) T hR0
  have ha := around_ok lv T hR0
  obtain ⟨g, hb⟩ := corners3_key (callD prg (lv + 1 + 1 + 1)) hR hC hs ha
  have q0 : ([tupT t] : List D).length = d_corners_of.np := rfl
  have q1 : ([tupT t] : List D).map some ++ List.replicate (d_corners_of.ns - d_corners_of.np) none = [some (tupT t), none, none, none, none, none, none, none, none] := rfl
  have q2 : outs d_corners_of (some (tupT t) :: g) = [some (tupT t)] := rfl
  have q3 := runD_rt (d := d_corners_of) q0 q1 hb
  rw [q2] at q3
  rw [call_corners_of]
  exact q3
theorem corners9 (lv : Nat) (T : Tab R C t) (hR0 : 0 < R) (hR : R ≤ 10) (hC : C ≤ 10) : callD prg (lv + 1 + 1) i_law_corners [tupT t] = .ok (cornD t R C, [some (tupT t)]) := by
  obtain ⟨g, hb⟩ := corners9_key (callD prg (lv + 1)) T hR0 hR hC (at_ok lv T hR0)
  have q0 : ([tupT t] : List D).length = d_law_corners.np := rfl
  have q1 : ([tupT t] : List D).map some ++ List.replicate (d_law_corners.ns - d_law_corners.np) none = [some (tupT t), none, none, none, none, none, none, none, none] := rfl
  have q2 : outs d_law_corners (some (tupT t) :: g) = [some (tupT t)] := rfl
  have q3 := runD_rt (d := d_law_corners) q0 q1 hb
  rw [q2] at q3
  rw [call_law_corners]
  exact q3
end

end VS.Law
end

section
-- 0bedb8591871ea9cb099b7c1636eb6ff
set_option maxHeartbeats 1000000
namespace VS.Law
open PySem L2 VS
/-! chords: the plain facts -/
def insC (t : List (List Int)) (R C : Nat) : List Ce := (List.range (R + 1)).flatMap fun r => ((List.range (C + 1)).filter fun c => kd t r c == 3).map fun c => (r, c)
theorem insC_d (t : List (List Int)) (R C : Nat) : allL t 3 (C + 1) (R + 1) = (insC t R C).map cellD := by
  unfold allL insC
  rw [List.map_flatMap]
  congr 1
  funext r
  unfold rowL
  rw [List.map_map]
  rfl
theorem mem_insC {t : List (List Int)} {R C : Nat} {x : Ce} : x ∈ insC t R C ↔ x.1 ≤ R ∧ x.2 ≤ C ∧ kd t x.1 x.2 = 3 := by
  obtain ⟨r, c⟩ := x
  unfold insC
  simp only [List.mem_flatMap, List.mem_map, List.mem_filter, List.mem_range, beq_iff_eq, Prod.mk.injEq]
  constructor
  · rintro ⟨r', h1, c', ⟨h2, h3⟩, rfl, rfl⟩
    exact ⟨by omega, by omega, h3⟩
  · rintro ⟨h1, h2, h3⟩
    exact ⟨r, by omega, c, ⟨by omega, h3⟩, rfl, rfl⟩
theorem insC_nodup (t : List (List Int)) (R C : Nat) : (insC t R C).Nodup := by
  unfold insC List.Nodup
  rw [List.pairwise_flatMap]
  refine ⟨fun r _ => ?_, (range_lt (R + 1)).imp fun {r r'} h x hx y hy => ?_⟩
  · rw [List.pairwise_map]
    exact ((range_lt (C + 1)).filter _).imp fun {c c'} h e => by rw [Prod.mk.injEq] at e; omega
  · obtain ⟨c, _, rfl⟩ := List.mem_map.mp hx
    obtain ⟨c', _, rfl⟩ := List.mem_map.mp hy
    intro e
    rw [Prod.mk.injEq] at e
    omega
theorem at_nat (t : List (List Int)) (r c : Nat) : atT t r c = cell t r c := by
  unfold atT
  rw [if_pos (by omega)]
  simp
theorem at_neg (t : List (List Int)) {r c : Int} (h : r < 0 ∨ c < 0) : atT t r c = 0 := by
  unfold atT
  rw [if_neg (by omega)]
theorem kd3 {t : List (List Int)} {r c : Nat} (h : kd t r c = 3) : atT t ((r : Int) - 1) ((c : Int) - 1) + atT t ((r : Int) - 1) c + atT t r ((c : Int) - 1) + atT t r c = 3 := by
  unfold kd kind at h
  split at h
  · cases h
  · split at h
    · assumption
    · split at h <;> cases h
section
variable {R C : Nat} {t : List (List Int)}
theorem ins_in (T : Tab R C t) {r c : Nat} (h : kd t r c = 3) : 0 < r ∧ r < R ∧ 0 < c ∧ c < C := by
  have h3 := kd3 h
  have b : ∀ i j : Nat, cell t i j = 0 ∨ cell t i j = 1 := fun i j => cell_bit T i j
  have o : ∀ i j : Nat, R ≤ i ∨ C ≤ j → cell t i j = 0 := fun i j h => cell_out T h
  have e4 := at_nat t r c
  rcases Nat.eq_zero_or_pos r with hr | hr
  · have e1 := at_neg t (r := (r : Int) - 1) (c := (c : Int) - 1) (.inl (by omega))
    have e2 := at_neg t (r := (r : Int) - 1) (c := c) (.inl (by omega))
    rcases Nat.eq_zero_or_pos c with hc | hc
    · have e3 := at_neg t (r := r) (c := (c : Int) - 1) (.inr (by omega))
      have := b r c
      omega
    · have e3 := at_nat t r (c - 1)
      rw [show ((c - 1 : Nat) : Int) = (c : Int) - 1 by omega] at e3
      have := b r c
      have := b r (c - 1)
      omega
  · have e2 := at_nat t (r - 1) c
    rw [show ((r - 1 : Nat) : Int) = (r : Int) - 1 by omega] at e2
    have b1 := b r c
    have b2 := b (r - 1) c
    rcases Nat.eq_zero_or_pos c with hc | hc
    · have e1 := at_neg t (r := (r : Int) - 1) (c := (c : Int) - 1) (.inr (by omega))
      have e3 := at_neg t (r := r) (c := (c : Int) - 1) (.inr (by omega))
      omega
    · have e3 := at_nat t r (c - 1)
      rw [show ((c - 1 : Nat) : Int) = (c : Int) - 1 by omega] at e3
      have e1 := at_nat t (r - 1) (c - 1)
      rw [show ((c - 1 : Nat) : Int) = (c : Int) - 1 by omega, show ((r - 1 : Nat) : Int) = (r : Int) - 1 by omega] at e1
      have b3 := b r (c - 1)
      have b4 := b (r - 1) (c - 1)
      refine ⟨hr, ?_, hc, ?_⟩
      · rcases Nat.lt_or_ge r R with h | h
        · exact h
        · have := o r c (.inl h)
          have := o r (c - 1) (.inl h)
          omega
      · rcases Nat.lt_or_ge c C with h | h
        · exact h
        · have := o r c (.inr h)
          have := o (r - 1) c (.inr h)
          omega
/-- both cells by the line r, at column c -/
def flP (t : List (List Int)) (r c : Nat) : Bool := atT t ((r : Int) - 1) c == 1 && atT t r c == 1
def upP (t : List (List Int)) (c r : Nat) : Bool := atT t r ((c : Int) - 1) == 1 && atT t r c == 1
def run (p : Nat → Bool) : Nat → Nat → Nat
  | 0, _ => 0
  | f + 1, c => if p c then run p f (c + 1) + 1 else 0
theorem run_le (p : Nat → Bool) : ∀ f c, run p f c ≤ f
  | 0, _ => Nat.le_refl 0
  | f + 1, c => by
    unfold run
    have := run_le p f (c + 1)
    split <;> omega
theorem run_all (p : Nat → Bool) : ∀ f c i, i < run p f c → p (c + i) = true
  | 0, c, i, h => by unfold run at h; omega
  | f + 1, c, i, h => by
    unfold run at h
    split at h
    · rename_i hp
      cases i with
      | zero => exact hp
      | succ i => rw [show c + (i + 1) = c + 1 + i by omega]; exact run_all p f (c + 1) i (by omega)
    · omega
theorem run_end (p : Nat → Bool) : ∀ f c, p (c + f) = false → p (c + run p f c) = false
  | 0, c, h => by unfold run; exact h
  | f + 1, c, h => by
    unfold run
    split
    · rw [show c + (run p f (c + 1) + 1) = c + 1 + run p f (c + 1) by omega]
      exact run_end p f (c + 1) (by rw [show c + 1 + f = c + (f + 1) by omega]; exact h)
    · rename_i hp
      simpa using hp
theorem run_eq (p : Nat → Bool) : ∀ n f c, (∀ i, i < n → p (c + i) = true) → p (c + n) = false → n ≤ f → run p f c = n
  | 0, 0, c, _, _, _ => rfl
  | 0, f + 1, c, _, h, _ => by unfold run; rw [if_neg (by rw [show c = c + 0 from rfl, h]; simp)]
  | n + 1, f + 1, c, ha, h, hf => by
    unfold run
    rw [if_pos (show p c = true from ha 0 (by omega)), run_eq p n f (c + 1) (fun i hi => by rw [show c + 1 + i = c + (i + 1) by omega]; exact ha (i + 1) (by omega)) (by rw [show c + 1 + n = c + (n + 1) by omega]; exact h) (by omega)]
theorem flP_out (T : Tab R C t) (r : Nat) : flP t r C = false := by
  unfold flP
  rw [at_nat, cell_out T (.inr (Nat.le_refl C))]
  simp
theorem upP_out (T : Tab R C t) (c : Nat) : upP t c R = false := by
  unfold upP
  rw [at_nat, cell_out T (.inl (Nat.le_refl R))]
  simp
def fEnd (t : List (List Int)) (C r c : Nat) : Nat := c + run (flP t r) (C - c) c
def uEnd (t : List (List Int)) (R r c : Nat) : Nat := r + run (upP t c) (R - r) r
theorem fEnd_iff (T : Tab R C t) {r c d : Nat} (hc : kd t r c = 3) (hd : kd t r d = 3) : (d = fEnd t C r c ∧ c < d) ↔ (c < d ∧ ∀ j, c ≤ j → j < d → flP t r j = true) := by
  have h1 := ins_in T hc
  have h2 := ins_in T hd
  unfold fEnd
  constructor
  · rintro ⟨e, h⟩
    refine ⟨h, fun j hj hj' => ?_⟩
    have := run_all (flP t r) (C - c) c (j - c) (by omega)
    rwa [show c + (j - c) = j by omega] at this
  · rintro ⟨h, ha⟩
    refine ⟨?_, h⟩
    rw [run_eq (flP t r) (d - c) (C - c) c (fun i hi => ha (c + i) (by omega) (by omega)) ?_ (by omega)]
    · omega
    · rw [show c + (d - c) = d by omega]
      have h3 := kd3 hd
      have h4 := ha (d - 1) (by omega) (by omega)
      unfold flP at *
      rw [show ((d - 1 : Nat) : Int) = (d : Int) - 1 by omega] at h4
      simp only [Bool.and_eq_true, beq_iff_eq] at h4
      cases hz : (atT t ((r : Int) - 1) d == 1 && atT t r d == 1) with
      | false => rfl
      | true =>
        simp only [Bool.and_eq_true, beq_iff_eq] at hz
        omega
theorem uEnd_iff (T : Tab R C t) {r s c : Nat} (hc : kd t r c = 3) (hd : kd t s c = 3) : (s = uEnd t R r c ∧ r < s) ↔ (r < s ∧ ∀ j, r ≤ j → j < s → upP t c j = true) := by
  have h1 := ins_in T hc
  have h2 := ins_in T hd
  unfold uEnd
  constructor
  · rintro ⟨e, h⟩
    refine ⟨h, fun j hj hj' => ?_⟩
    have := run_all (upP t c) (R - r) r (j - r) (by omega)
    rwa [show r + (j - r) = j by omega] at this
  · rintro ⟨h, ha⟩
    refine ⟨?_, h⟩
    rw [run_eq (upP t c) (s - r) (R - r) r (fun i hi => ha (r + i) (by omega) (by omega)) ?_ (by omega)]
    · omega
    · rw [show r + (s - r) = s by omega]
      have h3 := kd3 hd
      have h4 := ha (s - 1) (by omega) (by omega)
      unfold upP at *
      rw [show ((s - 1 : Nat) : Int) = (s : Int) - 1 by omega] at h4
      simp only [Bool.and_eq_true, beq_iff_eq] at h4
      cases hz : (atT t s ((c : Int) - 1) == 1 && atT t s c == 1) with
      | false => rfl
      | true =>
        simp only [Bool.and_eq_true, beq_iff_eq] at hz
        omega
/-- as the program finds them -/
def progE (t : List (List Int)) (R C : Nat) (x : Ce) : List Bx :=
  (if x.2 < fEnd t C x.1 x.2 ∧ (x.1, fEnd t C x.1 x.2) ∈ insC t R C then [(x.1, x.2, x.1, fEnd t C x.1 x.2)] else []) ++
  (if x.1 < uEnd t R x.1 x.2 ∧ (uEnd t R x.1 x.2, x.2) ∈ insC t R C then [(x.1, x.2, uEnd t R x.1 x.2, x.2)] else [])
def progL (t : List (List Int)) (R C : Nat) : List Bx := (insC t R C).flatMap (progE t R C)
/-- as the law finds them -/
def lawE (t : List (List Int)) (x y : Ce) : List Bx :=
  (if (x.1 = y.1 ∧ x.2 < y.2) ∧ ∀ j ∈ List.range' x.2 (y.2 - x.2), flP t x.1 j = true then [(x.1, x.2, y.1, y.2)] else []) ++
  (if (x.2 = y.2 ∧ x.1 < y.1) ∧ ∀ j ∈ List.range' x.1 (y.1 - x.1), upP t x.2 j = true then [(x.1, x.2, y.1, y.2)] else [])
def lawL (t : List (List Int)) (R C : Nat) : List Bx := (insC t R C).flatMap fun x => (insC t R C).flatMap (lawE t x)
theorem mem_if {α : Type} {p : Prop} [Decidable p] {a b : α} : a ∈ (if p then [b] else []) ↔ p ∧ a = b := by
  split <;> simp_all
theorem prog_law (T : Tab R C t) (b : Bx) : b ∈ progL t R C ↔ b ∈ lawL t R C := by
  unfold progL lawL
  simp only [List.mem_flatMap]
  constructor
  · rintro ⟨x, hx, h⟩
    obtain ⟨q1, q2, q3⟩ := mem_insC.mp hx
    unfold progE at h
    rw [List.mem_append, mem_if, mem_if] at h
    rcases h with ⟨⟨h1, h2⟩, rfl⟩ | ⟨⟨h1, h2⟩, rfl⟩
    · refine ⟨x, hx, _, h2, ?_⟩
      obtain ⟨_, _, h3⟩ := mem_insC.mp h2
      have := (fEnd_iff T q3 h3).mp ⟨rfl, h1⟩
      unfold lawE
      rw [List.mem_append, mem_if]
      exact .inl ⟨⟨⟨rfl, h1⟩, fun j hj => by rw [List.mem_range'_1] at hj; exact this.2 j (by omega) (by dsimp only at hj; omega)⟩, rfl⟩
    · refine ⟨x, hx, _, h2, ?_⟩
      obtain ⟨_, _, h3⟩ := mem_insC.mp h2
      have := (uEnd_iff T q3 h3).mp ⟨rfl, h1⟩
      unfold lawE
      rw [List.mem_append, mem_if, mem_if]
      exact .inr ⟨⟨⟨rfl, h1⟩, fun j hj => by rw [List.mem_range'_1] at hj; exact this.2 j (by omega) (by dsimp only at hj; omega)⟩, rfl⟩
  · rintro ⟨x, hx, y, hy, h⟩
    obtain ⟨q1, q2, q3⟩ := mem_insC.mp hx
    obtain ⟨q4, q5, q6⟩ := mem_insC.mp hy
    obtain ⟨a, l⟩ := x
    obtain ⟨b', r⟩ := y
    dsimp only at *
    unfold lawE at h
    rw [List.mem_append, mem_if, mem_if] at h
    refine ⟨(a, l), hx, ?_⟩
    unfold progE
    rw [List.mem_append, mem_if, mem_if]
    rcases h with ⟨⟨⟨h1, h2⟩, h3⟩, rfl⟩ | ⟨⟨⟨h1, h2⟩, h3⟩, rfl⟩
    · dsimp only at *
      subst h1
      have := (fEnd_iff T q3 q6).mpr ⟨h2, fun j hj hj' => h3 j (by rw [List.mem_range'_1]; omega)⟩
      rw [← this.1]
      exact .inl ⟨⟨h2, hy⟩, rfl⟩
    · dsimp only at *
      subst h1
      have := (uEnd_iff T q3 q6).mpr ⟨h2, fun j hj hj' => h3 j (by rw [List.mem_range'_1]; omega)⟩
      rw [← this.1]
      exact .inr ⟨⟨h2, hy⟩, rfl⟩
theorem progE_at {x : Ce} {b : Bx} (h : b ∈ progE t R C x) : (b.1, b.2.1) = x ∧ ((b.1 = b.2.2.1 ∧ b.2.1 < b.2.2.2) ∨ (b.2.1 = b.2.2.2 ∧ b.1 < b.2.2.1)) := by
  unfold progE at h
  rw [List.mem_append, mem_if, mem_if] at h
  rcases h with ⟨⟨h1, h2⟩, rfl⟩ | ⟨⟨h1, h2⟩, rfl⟩
  · exact ⟨rfl, .inl ⟨rfl, h1⟩⟩
  · exact ⟨rfl, .inr ⟨rfl, h1⟩⟩
theorem lawE_at {x y : Ce} {b : Bx} (h : b ∈ lawE t x y) : b = (x.1, x.2, y.1, y.2) := by
  unfold lawE at h
  rw [List.mem_append, mem_if, mem_if] at h
  rcases h with ⟨_, rfl⟩ | ⟨_, rfl⟩ <;> rfl
theorem progL_nodup (t : List (List Int)) (R C : Nat) : (progL t R C).Nodup := by
  unfold progL List.Nodup
  rw [List.pairwise_flatMap]
  refine ⟨fun x _ => ?_, (insC_nodup t R C).imp fun {x y} h a ha b hb e => ?_⟩
  · unfold progE
    split <;> split <;> simp
    intro h
    omega
  · have h1 := (progE_at ha).1
    have h2 := (progE_at hb).1
    subst e
    exact h (h1.symm.trans h2)
theorem lawL_nodup (t : List (List Int)) (R C : Nat) : (lawL t R C).Nodup := by
  unfold lawL List.Nodup
  rw [List.pairwise_flatMap]
  refine ⟨fun x _ => ?_, (insC_nodup t R C).imp fun {x y} h a ha b hb e => ?_⟩
  · rw [List.pairwise_flatMap]
    refine ⟨fun y _ => ?_, (insC_nodup t R C).imp fun {y z} h a ha b hb e => ?_⟩
    · unfold lawE
      split <;> split <;> simp
      omega
    · have h1 := lawE_at ha
      have h2 := lawE_at hb
      subst e
      rw [h1, Prod.mk.injEq, Prod.mk.injEq, Prod.mk.injEq] at h2
      exact h (Prod.ext h2.2.2.1 h2.2.2.2)
  · obtain ⟨y1, _, h1⟩ := List.mem_flatMap.mp ha
    obtain ⟨y2, _, h2⟩ := List.mem_flatMap.mp hb
    have h1 := lawE_at h1
    have h2 := lawE_at h2
    subst e
    rw [h1, Prod.mk.injEq, Prod.mk.injEq] at h2
    exact h (Prod.ext h2.1 h2.2.1)
def chordL (t : List (List Int)) (R C : Nat) : List Bx := (lawL t R C).mergeSort fun x y => (skB x).le (skB y)
theorem sorted_chord {o : Bool} {xs : List Bx} (p : xs.Perm (lawL t R C)) : opSorted (.lst o (xs.map boxD)) = some (.lst true ((chordL t R C).map boxD)) :=
  sorted_perm skB_d dskB (fun _ _ => rfl) (p.trans (List.mergeSort_perm _ _).symm) (List.pairwise_mergeSort (le := fun x y : Bx => (skB x).le (skB y)) (fun a b c => sk_trans (skB a) (skB b) (skB c)) (fun a b => sk_total (skB a) (skB b)) (lawL t R C))
theorem perm_chord (T : Tab R C t) : (progL t R C).Perm (lawL t R C) := (List.perm_ext_iff_of_nodup (progL_nodup t R C) (lawL_nodup t R C)).mpr fun b => prog_law T b
theorem chord_is (T : Tab R C t) {b : Bx} (h : b ∈ chordL t R C) : (b.1 = b.2.2.1 ∧ b.2.1 < b.2.2.2) ∨ (b.2.1 = b.2.2.2 ∧ b.1 < b.2.2.1) := by
  unfold chordL at h
  rw [List.mem_mergeSort, ← prog_law T] at h
  obtain ⟨x, _, h⟩ := List.mem_flatMap.mp h
  exact (progE_at h).2
end

end VS.Law
end

section
-- 8a73665ca435c65404c73ef6a77ebf66
set_option maxHeartbeats 1000000
namespace VS.Law
open PySem L2 VS
/-! chords_of, as the program walks -/
theorem in_ce (neg : Bool) (x : Ce) (o : Bool) (l : List Ce) : opIn neg (cellD x) (.lst o (l.map cellD)) = some (.bl (if neg then !decide (x ∈ l) else decide (x ∈ l))) := by
  unfold opIn
  simp only
  rw [if_pos ⟨plain_cellD x 60 (by omega), plains_map (fun y => plain_cellD y 59 (by omega)) l⟩]
  have e : (l.map cellD).any (fun z => deq z (cellD x)) = decide (x ∈ l) := by
    rw [List.any_map, Bool.eq_iff_iff, List.any_eq_true, decide_eq_true_eq]
    constructor
    · rintro ⟨y, hy, h⟩
      simp only [Function.comp, deq_cellD, decide_eq_true_eq] at h
      rw [← h]; exact hy
    · intro h
      exact ⟨x, h, by simp [Function.comp, deq_cellD]⟩
  rw [e]
section
variable {R C : Nat} {t : List (List Int)}
theorem flc (cl : Call) (hy : ∀ r c : Int, cl i_yes_at [tupT t, .int r, .int c] = .ok (.int (atT t r c), [some (tupT t), some (.int r), some (.int c)])) (r c : Nat) :
    denE prg.val cl e_flat_end_0 [some (tupT t), some (.int r), some (.int c)] = .ok (.bl (flP t r c), [some (tupT t), some (.int r), some (.int c)]) := by
  have h1 := hy ((r : Int) - 1) c
  have h2 := hy r c
  unfold flP
  generalize atT t ((r : Int) - 1) c = a at *
  generalize atT t r c = b at *
  have e1 := eqI a 1
  have e2 := eqI b 1
  generalize (a == 1) = A at *
  generalize (b == 1) = B at *
  cases A <;> simp -implicitDefEqProofs only [denSs, denS, denI, denE, denO, denA, denC, valsO, finO, takeO, backO, getPl_slot, setPl, getS, setT, setNs, opD, opI1, opI2, addN, opt_some, bind_ok, thn1_nx, thn1_rt, aft_nx, onBl_bl, List.set_cons_succ, List.set_cons_zero, List.getElem?_cons_succ, List.getElem?_cons_zero, Option.bind_some, id, Option.map_some, List.length_cons, List.length_nil, Nat.reduceAdd, Nat.reduceLT, if_true, if_false, Bool.false_eq_true, isOwnL, noOwn, clrs, List.foldl_cons, List.foldl_nil, decide_true, decide_false, Bool.not_true, Bool.not_false, okOnly_ok, e_flat_end_0, h1, h2, e1, e2, Bool.false_and, Bool.true_and]
theorem upc (cl : Call) (hy : ∀ r c : Int, cl i_yes_at [tupT t, .int r, .int c] = .ok (.int (atT t r c), [some (tupT t), some (.int r), some (.int c)])) (r c : Nat) :
    denE prg.val cl e_upright_end_0 [some (tupT t), some (.int r), some (.int c)] = .ok (.bl (upP t c r), [some (tupT t), some (.int r), some (.int c)]) := by
  have h1 := hy r ((c : Int) - 1)
  have h2 := hy r c
  unfold upP
  generalize atT t r ((c : Int) - 1) = a at *
  generalize atT t r c = b at *
  have e1 := eqI a 1
  have e2 := eqI b 1
  generalize (a == 1) = A at *
  generalize (b == 1) = B at *
  cases A <;> simp -implicitDefEqProofs only [denSs, denS, denI, denE, denO, denA, denC, valsO, finO, takeO, backO, getPl_slot, setPl, getS, setT, setNs, opD, opI1, opI2, addN, opt_some, bind_ok, thn1_nx, thn1_rt, aft_nx, onBl_bl, List.set_cons_succ, List.set_cons_zero, List.getElem?_cons_succ, List.getElem?_cons_zero, Option.bind_some, id, Option.map_some, List.length_cons, List.length_nil, Nat.reduceAdd, Nat.reduceLT, if_true, if_false, Bool.false_eq_true, isOwnL, noOwn, clrs, List.foldl_cons, List.foldl_nil, decide_true, decide_false, Bool.not_true, Bool.not_false, okOnly_ok, e_upright_end_0, h1, h2, e1, e2, Bool.false_and, Bool.true_and]
theorem flat_ok (lv : Nat) (T : Tab R C t) (hR : 0 < R) (hC : C ≤ 10) {r c : Nat} (hc : c ≤ C) : callD prg (lv + 1 + 1 + 1) i_flat_end [tupT t, .int r, .int c] = .ok (.int (fEnd t C r c), [some (tupT t), some (.int r), none]) := by
  have hb : denSs prg.val (callD prg (lv + 1 + 1)) b_flat_end [some (tupT t), some (.int r), some (.int c)] = .ok (.rt (.int (fEnd t C r c)), [some (tupT t), some (.int r), some (.int (fEnd t C r c))]) := by
    have hy := fun r c => yes_ok lv T hR r c
    generalize callD prg (lv + 1 + 1) = cl at *
    have hle := run_le (flP t r) (C - c) c
    have w := whlD_seq (c := denE prg.val cl e_flat_end_0) (clr := []) (body := denSs prg.val cl b_flat_end_1) (run (flP t r) (C - c) c) 1000000 (fun i => [some (tupT t), some (.int r), some (.int ((c + i : Nat) : Int))]) (by omega) (fun i hi => ⟨by rw [flc cl hy, run_all (flP t r) (C - c) c i hi], [some (tupT t), some (.int r), some (.int ((c + (i + 1) : Nat) : Int))], by
      have n1 : ((c + i : Nat) : Int) + 1 = ((c + (i + 1) : Nat) : Int) := by omega
      simp -implicitDefEqProofs only [denSs, denS, denI, denE, denO, denA, denC, valsO, finO, takeO, backO, getPl_slot, setPl, getS, setT, setNs, opD, opI1, opI2, addN, opt_some, bind_ok, thn1_nx, thn1_rt, aft_nx, onBl_bl, List.set_cons_succ, List.set_cons_zero, List.getElem?_cons_succ, List.getElem?_cons_zero, Option.bind_some, id, Option.map_some, List.length_cons, List.length_nil, Nat.reduceAdd, Nat.reduceLT, if_true, if_false, Bool.false_eq_true, isOwnL, noOwn, clrs, List.foldl_cons, List.foldl_nil, decide_true, decide_false, Bool.not_true, Bool.not_false, okOnly_ok, b_flat_end_1, n1], rfl⟩) (by rw [flc cl hy, run_end (flP t r) (C - c) c (by rw [show c + (C - c) = C by omega]; exact flP_out T r)])
    have w' : whlD (denE prg.val cl e_flat_end_0) [] (denSs prg.val cl b_flat_end_1) 1000000 [some (tupT t), some (.int r), some (.int c)] = .ok (.nx, [some (tupT t), some (.int r), some (.int (fEnd t C r c))]) := w
    simp -implicitDefEqProofs only [denSs, denS, denI, denE, denO, denA, denC, valsO, finO, takeO, backO, getPl_slot, setPl, getS, setT, setNs, opD, opI1, opI2, addN, opt_some, bind_ok, thn1_nx, thn1_rt, aft_nx, onBl_bl, List.set_cons_succ, List.set_cons_zero, List.getElem?_cons_succ, List.getElem?_cons_zero, Option.bind_some, id, Option.map_some, List.length_cons, List.length_nil, Nat.reduceAdd, Nat.reduceLT, if_true, if_false, Bool.false_eq_true, isOwnL, noOwn, clrs, List.foldl_cons, List.foldl_nil, decide_true, decide_false, Bool.not_true, Bool.not_false, okOnly_ok, b_flat_end, w']
  have q3 := runD_rt (d := d_flat_end) (ds := [tupT t, .int r, .int c]) rfl rfl hb
  rw [call_flat_end]
  exact q3
theorem upright_ok (lv : Nat) (T : Tab R C t) (hR : 0 < R) (hRm : R ≤ 10) {r c : Nat} (hr : r ≤ R) : callD prg (lv + 1 + 1 + 1) i_upright_end [tupT t, .int r, .int c] = .ok (.int (uEnd t R r c), [some (tupT t), none, some (.int c)]) := by
  have hb : denSs prg.val (callD prg (lv + 1 + 1)) b_upright_end [some (tupT t), some (.int r), some (.int c)] = .ok (.rt (.int (uEnd t R r c)), [some (tupT t), some (.int (uEnd t R r c)), some (.int c)]) := by
    have hy := fun r c => yes_ok lv T hR r c
    generalize callD prg (lv + 1 + 1) = cl at *
    have hle := run_le (upP t c) (R - r) r
    have w := whlD_seq (c := denE prg.val cl e_upright_end_0) (clr := []) (body := denSs prg.val cl b_upright_end_1) (run (upP t c) (R - r) r) 1000000 (fun i => [some (tupT t), some (.int ((r + i : Nat) : Int)), some (.int c)]) (by omega) (fun i hi => ⟨by rw [upc cl hy, run_all (upP t c) (R - r) r i hi], [some (tupT t), some (.int ((r + (i + 1) : Nat) : Int)), some (.int c)], by
      have n1 : ((r + i : Nat) : Int) + 1 = ((r + (i + 1) : Nat) : Int) := by omega
      simp -implicitDefEqProofs only [denSs, denS, denI, denE, denO, denA, denC, valsO, finO, takeO, backO, getPl_slot, setPl, getS, setT, setNs, opD, opI1, opI2, addN, opt_some, bind_ok, thn1_nx, thn1_rt, aft_nx, onBl_bl, List.set_cons_succ, List.set_cons_zero, List.getElem?_cons_succ, List.getElem?_cons_zero, Option.bind_some, id, Option.map_some, List.length_cons, List.length_nil, Nat.reduceAdd, Nat.reduceLT, if_true, if_false, Bool.false_eq_true, isOwnL, noOwn, clrs, List.foldl_cons, List.foldl_nil, decide_true, decide_false, Bool.not_true, Bool.not_false, okOnly_ok, b_upright_end_1, n1], rfl⟩) (by rw [upc cl hy, run_end (upP t c) (R - r) r (by rw [show r + (R - r) = R by omega]; exact upP_out T c)])
    have w' : whlD (denE prg.val cl e_upright_end_0) [] (denSs prg.val cl b_upright_end_1) 1000000 [some (tupT t), some (.int r), some (.int c)] = .ok (.nx, [some (tupT t), some (.int (uEnd t R r c)), some (.int c)]) := w
    simp -implicitDefEqProofs only [denSs, denS, denI, denE, denO, denA, denC, valsO, finO, takeO, backO, getPl_slot, setPl, getS, setT, setNs, opD, opI1, opI2, addN, opt_some, bind_ok, thn1_nx, thn1_rt, aft_nx, onBl_bl, List.set_cons_succ, List.set_cons_zero, List.getElem?_cons_succ, List.getElem?_cons_zero, Option.bind_some, id, Option.map_some, List.length_cons, List.length_nil, Nat.reduceAdd, Nat.reduceLT, if_true, if_false, Bool.false_eq_true, isOwnL, noOwn, clrs, List.foldl_cons, List.foldl_nil, decide_true, decide_false, Bool.not_true, Bool.not_false, okOnly_ok, b_upright_end, w']
  have q3 := runD_rt (d := d_upright_end) (ds := [tupT t, .int r, .int c]) rfl rfl hb
  rw [call_upright_end]
  exact q3
theorem chstep (cl : Call) {r c f u : Nat} {I : D} {m1 m2 : Prop} [Decidable m1] [Decidable m2] (hf : cl i_flat_end [tupT t, .int r, .int c] = .ok (.int f, [some (tupT t), some (.int r), none])) (hu : cl i_upright_end [tupT t, .int r, .int c] = .ok (.int u, [some (tupT t), none, some (.int c)]))
    (i1 : opIn false (cellD (r, f)) I = some (.bl (decide m1))) (i2 : opIn false (cellD (u, c)) I = some (.bl (decide m2))) {acc : List D} (hl : acc.length + 2 ≤ 1000) :
    denSs prg.val cl b_chords_of_0 [some (tupT t), some I, some (.lst true acc), some (.int r), some (.int c), none, none] =
      .ok (.nx, [some (tupT t), some I, some (.lst true (acc ++ ((if c < f ∧ m1 then [((r, c, r, f) : Bx)] else []) ++ (if r < u ∧ m2 then [((r, c, u, c) : Bx)] else [])).map boxD)), some (.int r), some (.int c), some (.int f), some (.int u)]) := by
  have eb1 : D.tup [.int r, .int f] = cellD (r, f) := rfl
  have eb2 : D.tup [.int u, .int c] = cellD (u, c) := rfl
  have eb3 : D.tup [.int r, .int c, .int r, .int f] = boxD (r, c, r, f) := rfl
  have eb4 : D.tup [.int r, .int c, .int u, .int c] = boxD (r, c, u, c) := rfl
  have a1 := appD (ds := acc) (d := boxD (r, c, r, f)) (by omega)
  have a2 := appD (ds := acc) (d := boxD (r, c, u, c)) (by omega)
  have a3 := appD (ds := acc ++ [boxD (r, c, r, f)]) (d := boxD (r, c, u, c)) (by rw [List.length_append, List.length_singleton]; omega)
  generalize tupT t = X at *
  have c1 : (c < f ∧ m1) ∨ (¬ c < f ∧ True) ∨ (c < f ∧ ¬ m1) := by by_cases c < f <;> by_cases m1 <;> simp_all
  have c2 : (r < u ∧ m2) ∨ (¬ r < u ∧ True) ∨ (r < u ∧ ¬ m2) := by by_cases r < u <;> by_cases m2 <;> simp_all
  rcases c1 with ⟨h1, h2⟩ | ⟨h1, h2⟩ | ⟨h1, h2⟩ <;> rcases c2 with ⟨h3, h4⟩ | ⟨h3, h4⟩ | ⟨h3, h4⟩
  all_goals
    have k1 : ((c : Int) < (f : Int)) = (c < f) := by rw [Int.ofNat_lt]
    have k2 : ((r : Int) < (u : Int)) = (r < u) := by rw [Int.ofNat_lt]
    simp only [h1, h2, h3, h4, true_and, false_and, and_false, and_true, if_true, if_false, decide_true, decide_false] at i1 i2 k1 k2 ⊢
    simp -implicitDefEqProofs only [denSs, denS, denI, denE, denO, denA, denC, valsO, finO, takeO, backO, getPl_slot, setPl, getS, setT, setNs, opD, opI1, opI2, addN, opt_some, bind_ok, thn1_nx, thn1_rt, aft_nx, onBl_bl, List.set_cons_succ, List.set_cons_zero, List.getElem?_cons_succ, List.getElem?_cons_zero, Option.bind_some, id, Option.map_some, List.length_cons, List.length_nil, Nat.reduceAdd, Nat.reduceLT, if_true, if_false, Bool.false_eq_true, isOwnL, noOwn, clrs, List.foldl_cons, List.foldl_nil, decide_true, decide_false, Bool.not_true, Bool.not_false, okOnly_ok, b_chords_of_0, hf, hu, k1, k2, eb1, eb2, eb3, eb4, i1, i2, a1, a2, a3, List.map_append, List.map_cons, List.map_nil, List.append_nil, List.nil_append, List.append_assoc, List.singleton_append]
theorem insC_len (hR : R ≤ 10) (hC : C ≤ 10) : (insC t R C).length ≤ 121 := by
  unfold insC
  refine flatMap_lt (m := 11) (n := 11) (fun r _ => ?_) (by rw [List.length_range]; omega) (by omega)
  rw [List.length_map]
  refine Nat.le_trans (List.length_filter_le _ _) ?_
  rw [List.length_range]
  omega
end

end VS.Law
end

section
-- a4bab5497aa7b82d12268f1f3360208f
set_option maxHeartbeats 1000000
namespace VS.Law
open PySem L2 VS
/-! chords_of and the law's own -/
section
variable {R C : Nat} {t : List (List Int)}
theorem pick_ins : opIx (frz (cornD t R C)) (.int 2) = some (.lst false ((insC t R C).map cellD)) := by
  unfold cornD
  rw [insC_d]
  have h := frzs_map (f := cellD) (fun x => by simp [cellD, frz, frzs]) (insC t R C)
  have n : noOwn (.lst false ((insC t R C).map cellD)) = true := by rw [noOwn]; simp [noOwns_ce]
  simp only [frz, frzs, h, opIx, itemsOf, List.length_cons, List.length_nil]
  have i : ixN (0 + 1 + 1 + 1) 2 = some 2 := rfl
  rw [i]
  simp only [Option.bind_some, List.getElem?_cons_succ, List.getElem?_cons_zero]
  rw [if_pos n]
theorem progE_len (x : Ce) : (progE t R C x).length ≤ 2 := by
  unfold progE
  rw [List.length_append]
  split <;> split <;> simp
theorem lawE_len (x y : Ce) : (lawE t x y).length ≤ 2 := by
  unfold lawE
  rw [List.length_append]
  split <;> split <;> simp
theorem chords_key (cl : Call) (T : Tab R C t) (hR : R ≤ 10) (hC : C ≤ 10) (hco : cl i_corners_of [tupT t] = .ok (cornD t R C, [some (tupT t)]))
    (hf : ∀ x ∈ insC t R C, cl i_flat_end [tupT t, .int x.1, .int x.2] = .ok (.int (fEnd t C x.1 x.2), [some (tupT t), some (.int x.1), none])) (hu : ∀ x ∈ insC t R C, cl i_upright_end [tupT t, .int x.1, .int x.2] = .ok (.int (uEnd t R x.1 x.2), [some (tupT t), none, some (.int x.2)])) :
    ∃ g, denSs prg.val cl b_chords_of [some (tupT t), none, none, none, none, none, none] = .ok (.rt (.lst true ((chordL t R C).map boxD)), some (tupT t) :: g) := by
  have hl := insC_len (t := t) hR hC
  have hi : ∀ x : Ce, opIn false (cellD x) (.lst false ((insC t R C).map cellD)) = some (.bl (decide (x ∈ insC t R C))) := fun x => by
    have h := in_ce false x false (insC t R C)
    simp only [Bool.false_eq_true, if_false] at h
    exact h
  have hlen : ((insC t R C).flatMap fun x => (progE t R C x).map boxD).length ≤ 900 := flatMap_lt (m := 2) (n := 121) (fun x _ => by rw [List.length_map]; exact progE_len x) hl (by omega)
  have lp := forD_acc (t := .tup [3, 4]) (clr := [3, 4, 5, 6]) (body := denSs prg.val cl b_chords_of_0) cellD (fun acc => [some (tupT t), some (.lst false ((insC t R C).map cellD)), some (.lst true acc), none, none, none, none]) (fun x => (progE t R C x).map boxD) 900 (insC t R C) [] (by rw [List.length_nil]; omega)
    (fun x hx acc hb => ⟨[some (tupT t), some (.lst false ((insC t R C).map cellD)), some (.lst true acc), some (.int x.1), some (.int x.2), none, none], _, rfl, chstep cl (hf x hx) (hu x hx) (hi _) (hi _) (by omega), rfl⟩)
  have fm : ((insC t R C).flatMap fun x => (progE t R C x).map boxD) = (progL t R C).map boxD := by unfold progL; rw [List.map_flatMap]
  rw [List.nil_append, fm] at lp
  have so := sorted_chord (o := true) (perm_chord T)
  have pk := pick_ins (t := t) (R := R) (C := C)
  have no := noOwns_ce (insC t R C)
  refine ⟨[some (.lst false ((insC t R C).map cellD)), some (.lst true ((progL t R C).map boxD)), none, none, none, none], ?_⟩
  generalize cornD t R C = CO at *
  generalize (insC t R C).map cellD = I at *
  generalize (progL t R C).map boxD = L at *
  generalize (chordL t R C).map boxD = S at *
  generalize tupT t = X at *
  simp -implicitDefEqProofs only [denSs, denS, denI, denE, denO, denA, denC, valsO, finO, takeO, backO, getPl_slot, setPl, getS, setT, setNs, opD, opI1, opI2, addN, opt_some, bind_ok, thn1_nx, thn1_rt, aft_nx, onBl_bl, List.set_cons_succ, List.set_cons_zero, List.getElem?_cons_succ, List.getElem?_cons_zero, Option.bind_some, id, Option.map_some, List.length_cons, List.length_nil, Nat.reduceAdd, Nat.reduceLT, if_true, if_false, Bool.false_eq_true, isOwnL, noOwn, clrs, List.foldl_cons, List.foldl_nil, decide_true, decide_false, Bool.not_true, Bool.not_false, okOnly_ok, b_chords_of, hco, pk, no, lp, so, Bool.and_true]
theorem chords_ok (lv : Nat) (T : Tab R C t) (hR0 : 0 < R) (hR : R ≤ 10) (hC : C ≤ 10) : callD prg (lv + 1 + 1 + 1 + 1 + 1) i_chords_of [tupT t] = .ok (.lst true ((chordL t R C).map boxD), [some (tupT t)]) := by
  obtain ⟨g, hb⟩ := chords_key (callD prg (lv + 1 + 1 + 1 + 1)) T hR hC (corners3 lv T hR0 hR hC) (fun x hx => flat_ok (lv + 1) T hR0 hC (mem_insC.mp hx).2.1) (fun x hx => upright_ok (lv + 1) T hR0 hR (mem_insC.mp hx).1)
  have q3 := runD_rt (d := d_chords_of) (ds := [tupT t]) rfl rfl hb
  rw [call_chords_of]
  exact q3
theorem in0 (o : Bool) (l : List Int) : opIn true (.int 0) (.lst o (l.map .int)) = some (.bl (!decide (0 ∈ l))) := by
  unfold opIn
  simp only
  rw [if_pos ⟨by simp [plain], plains_map (fun y => by simp [plain]) l⟩]
  have e : (l.map D.int).any (fun z => deq z (.int 0)) = decide (0 ∈ l) := by
    rw [List.any_map, Bool.eq_iff_iff, List.any_eq_true, decide_eq_true_eq]
    constructor
    · rintro ⟨y, hy, h⟩
      simp only [Function.comp, deq, decide_eq_true_eq, beq_iff_eq] at h
      rw [← h]; exact hy
    · intro h
      exact ⟨0, h, by simp [Function.comp, deq]⟩
  rw [e]
  rfl
theorem bitmul {a b : Int} (ha : a = 0 ∨ a = 1) (hb : b = 0 ∨ b = 1) : opMulD (.int a) (.int b) = some (.int (a * b)) := by
  rcases ha with rfl | rfl <;> rcases hb with rfl | rfl <;> rfl
theorem nin_all {p : Nat → Bool} {f : Nat → Int} (h : ∀ j, (f j = 0 ↔ p j = false)) (l : List Nat) : (!decide ((0 : Int) ∈ l.map f)) = decide (∀ j ∈ l, p j = true) := by
  rw [Bool.eq_iff_iff, Bool.not_eq_true', decide_eq_false_iff_not, decide_eq_true_eq, List.mem_map]
  constructor
  · intro q j hj
    cases hp : p j with
    | true => rfl
    | false => exact absurd ⟨j, hj, (h j).mpr hp⟩ q
  · rintro q ⟨j, hj, e⟩
    have := q j hj
    rw [(h j).mp e] at this
    cases this
theorem fl0 (T : Tab R C t) {a : Nat} (ha : 0 < a) (j : Nat) : cell t (a - 1) j * cell t a j = 0 ↔ flP t a j = false := by
  have e1 := at_nat t (a - 1) j
  rw [show ((a - 1 : Nat) : Int) = (a : Int) - 1 by omega] at e1
  unfold flP
  rw [e1, at_nat]
  rcases cell_bit T (a - 1) j with h | h <;> rcases cell_bit T a j with h' | h' <;> rw [h, h'] <;> decide
theorem up0 (T : Tab R C t) {c : Nat} (hc : 0 < c) (j : Nat) : cell t j (c - 1) * cell t j c = 0 ↔ upP t c j = false := by
  have e1 := at_nat t j (c - 1)
  rw [show ((c - 1 : Nat) : Int) = (c : Int) - 1 by omega] at e1
  unfold upP
  rw [e1, at_nat]
  rcases cell_bit T j (c - 1) with h | h <;> rcases cell_bit T j c with h' | h' <;> rw [h, h'] <;> decide
end

end VS.Law
end

section
-- 98c3399198e9be9b331f922e6bd69882
set_option maxHeartbeats 1000000
namespace VS.Law
open PySem L2 VS
/-! the law's own chords -/
section
variable {R C : Nat} {t : List (List Int)}
theorem lc_flat (cl : Call) (T : Tab R C t) (hR : R ≤ 10) (hC : C ≤ 10) {a l r : Nat} (ha : 0 < a) (haR : a < R) (hr : r ≤ C) (F I b : D) :
    lcD (.nm 8) [8] (fun g => .ok (true, g)) (denE prg.val cl e_law_chords_0) [] ((List.range' l (r - l)).map fun i : Nat => D.int i) [some (tupT t), some I, some F, some (.int a), some (.int l), some b, some (.int r), none, none, none] =
      .ok (((List.range' l (r - l)).map fun j => cell t (a - 1) j * cell t a j).map .int, [some (tupT t), some I, some F, some (.int a), some (.int l), some b, some (.int r), none, none, none]) := by
  have lc := lcD_map (t := .nm 8) (own := [8]) (elt := denE prg.val cl e_law_chords_0) (fun i : Nat => .int i) (fun j => .int (cell t (a - 1) j * cell t a j)) [some (tupT t), some I, some F, some (.int a), some (.int l), some b, some (.int r), none, none, none] (List.range' l (r - l)) (by rw [List.length_range', line_eq]; omega) (fun j hj => by
    rw [List.mem_range'_1] at hj
    have p1 := plxy T (r := a - 1) (c := j) (p := .slot 0) (e1 := .sub (.var 3) (.num 1)) (e2 := .var 8) (g := [some (tupT t), some I, some F, some (.int a), some (.int l), some b, some (.int r), none, some (.int j), none]) (by omega) (by omega) rfl (by simp only [evS, getS, List.getElem?_cons_succ, List.getElem?_cons_zero, Option.bind_some, id]; congr 1; omega) rfl
    have p2 := plxy T (r := a) (c := j) (p := .slot 0) (e1 := .var 3) (e2 := .var 8) (g := [some (tupT t), some I, some F, some (.int a), some (.int l), some b, some (.int r), none, some (.int j), none]) haR (by omega) rfl rfl rfl
    have m := bitmul (cell_bit T (a - 1) j) (cell_bit T a j)
    refine ⟨[some (tupT t), some I, some F, some (.int a), some (.int l), some b, some (.int r), none, some (.int j), none], rfl, ?_, rfl⟩
    generalize tupT t = X at *
    simp -implicitDefEqProofs only [denSs, denS, denI, denE, denO, denA, denC, valsO, finO, takeO, backO, getPl_slot, setPl, getS, setT, setNs, opD, opI1, opI2, addN, opt_some, bind_ok, thn1_nx, thn1_rt, aft_nx, onBl_bl, List.set_cons_succ, List.set_cons_zero, List.getElem?_cons_succ, List.getElem?_cons_zero, Option.bind_some, id, Option.map_some, List.length_cons, List.length_nil, Nat.reduceAdd, Nat.reduceLT, if_true, if_false, Bool.false_eq_true, isOwnL, noOwn, clrs, List.foldl_cons, List.foldl_nil, decide_true, decide_false, Bool.not_true, Bool.not_false, okOnly_ok, e_law_chords_0, p1, p2, m])
  rw [List.map_map]
  exact lc
theorem lc_up (cl : Call) (T : Tab R C t) (hR : R ≤ 10) (hC : C ≤ 10) {a l b : Nat} (hl : 0 < l) (hlC : l < C) (hb : b ≤ R) (F I r z : D) :
    lcD (.nm 9) [9] (fun g => .ok (true, g)) (denE prg.val cl e_law_chords_2) [] ((List.range' a (b - a)).map fun i : Nat => D.int i) [some (tupT t), some I, some F, some (.int a), some (.int l), some (.int b), some r, none, none, none] =
      .ok (((List.range' a (b - a)).map fun j => cell t j (l - 1) * cell t j l).map .int, [some (tupT t), some I, some F, some (.int a), some (.int l), some (.int b), some r, none, none, none]) := by
  have lc := lcD_map (t := .nm 9) (own := [9]) (elt := denE prg.val cl e_law_chords_2) (fun i : Nat => .int i) (fun j => .int (cell t j (l - 1) * cell t j l)) [some (tupT t), some I, some F, some (.int a), some (.int l), some (.int b), some r, none, none, none] (List.range' a (b - a)) (by rw [List.length_range', line_eq]; omega) (fun j hj => by
    rw [List.mem_range'_1] at hj
    have p1 := plxy T (r := j) (c := l - 1) (p := .slot 0) (e1 := .var 9) (e2 := .sub (.var 4) (.num 1)) (g := [some (tupT t), some I, some F, some (.int a), some (.int l), some (.int b), some r, none, none, some (.int j)]) (by omega) (by omega) rfl rfl (by simp only [evS, getS, List.getElem?_cons_succ, List.getElem?_cons_zero, Option.bind_some, id]; congr 1; omega)
    have p2 := plxy T (r := j) (c := l) (p := .slot 0) (e1 := .var 9) (e2 := .var 4) (g := [some (tupT t), some I, some F, some (.int a), some (.int l), some (.int b), some r, none, none, some (.int j)]) (by omega) hlC rfl rfl rfl
    have m := bitmul (cell_bit T j (l - 1)) (cell_bit T j l)
    refine ⟨[some (tupT t), some I, some F, some (.int a), some (.int l), some (.int b), some r, none, none, some (.int j)], rfl, ?_, rfl⟩
    generalize tupT t = X at *
    simp -implicitDefEqProofs only [denSs, denS, denI, denE, denO, denA, denC, valsO, finO, takeO, backO, getPl_slot, setPl, getS, setT, setNs, opD, opI1, opI2, addN, opt_some, bind_ok, thn1_nx, thn1_rt, aft_nx, onBl_bl, List.set_cons_succ, List.set_cons_zero, List.getElem?_cons_succ, List.getElem?_cons_zero, Option.bind_some, id, Option.map_some, List.length_cons, List.length_nil, Nat.reduceAdd, Nat.reduceLT, if_true, if_false, Bool.false_eq_true, isOwnL, noOwn, clrs, List.foldl_cons, List.foldl_nil, decide_true, decide_false, Bool.not_true, Bool.not_false, okOnly_ok, e_law_chords_2, p1, p2, m])
  rw [List.map_map]
  exact lc
theorem eqN (a b : Nat) : opEq false (.int (a : Int)) (.int (b : Int)) = some (.bl (decide (a = b))) := by
  rw [eqI]
  congr 2
  rw [Bool.eq_iff_iff, beq_iff_eq, decide_eq_true_eq]
  omega
theorem lawE_flat {a l b r : Nat} (h1 : a = b) (h2 : l < r) : lawE t (a, l) (b, r) = if decide (∀ j ∈ List.range' l (r - l), flP t a j = true) = true then [(a, l, b, r)] else [] := by
  have h3 : ¬ l = r := by omega
  unfold lawE
  simp only [h1, h2, h3, true_and, false_and, if_false, List.append_nil, decide_eq_true_eq]
theorem lawE_up {a l b r : Nat} (h1 : l = r) (h2 : a < b) : lawE t (a, l) (b, r) = if decide (∀ j ∈ List.range' a (b - a), upP t l j = true) = true then [(a, l, b, r)] else [] := by
  have h3 : ¬ a = b := by omega
  unfold lawE
  simp only [h1, h2, h3, true_and, false_and, if_false, List.nil_append, decide_eq_true_eq]
theorem lawE_no {a l b r : Nat} (h1 : ¬ (a = b ∧ l < r)) (h2 : ¬ (l = r ∧ a < b)) : lawE t (a, l) (b, r) = [] := by
  unfold lawE
  simp only [h1, h2, false_and, if_false, List.append_nil]
theorem lcs (cl : Call) (T : Tab R C t) (hR : R ≤ 10) (hC : C ≤ 10) {a l b r : Nat} (hx : kd t a l = 3) (hy : kd t b r = 3) {acc : List D} (hz : acc.length ≤ 30000) (I : D) :
    ∃ z, denSs prg.val cl b_law_chords_4 [some (tupT t), some I, some (.lst true acc), some (.int a), some (.int l), some (.int b), some (.int r), none, none, none] =
      .ok (.nx, [some (tupT t), some I, some (.lst true (acc ++ (lawE t (a, l) (b, r)).map boxD)), some (.int a), some (.int l), some (.int b), some (.int r), z, none, none]) := by
  have x1 := ins_in T hx
  have y1 := ins_in T hy
  have l1 := lc_flat cl T hR hC (a := a) (l := l) (r := r) x1.1 x1.2.1 (by omega) (.lst true acc) I (.int b)
  have l2 := lc_up cl T hR hC (a := a) (l := l) (b := b) x1.2.2.1 x1.2.2.2 (by omega) (.lst true acc) I (.int r) (.int r)
  have n1 := in0 true ((List.range' l (r - l)).map fun j => cell t (a - 1) j * cell t a j)
  have n2 := in0 true ((List.range' a (b - a)).map fun j => cell t j (l - 1) * cell t j l)
  rw [nin_all (fl0 T x1.1)] at n1
  rw [nin_all (up0 T x1.2.2.1)] at n2
  have g1 := rng2_nat (i := (l : Int)) (j := (r : Int)) (a := l) (b := r) rfl rfl (by omega) (by omega)
  have g2 := rng2_nat (i := (a : Int)) (j := (b : Int)) (a := a) (b := b) rfl rfl (by omega) (by omega)
  have eb : D.tup [.int a, .int l, .int b, .int r] = boxD (a, l, b, r) := rfl
  have a1 := appD (ds := acc) (d := boxD (a, l, b, r)) (by omega)
  have q1 := eqN a b
  have q2 := eqN l r
  have k1 : ((l : Int) < (r : Int)) = (l < r) := by rw [Int.ofNat_lt]
  have k2 : ((a : Int) < (b : Int)) = (a < b) := by rw [Int.ofNat_lt]
  have nn1 : ∀ X F : D, noneAt [8] [some X, some I, some F, some (.int a), some (.int l), some (.int b), some (.int r), none, none, none] = true := fun _ _ => rfl
  have nn2 : ∀ X F : D, noneAt [9] [some X, some I, some F, some (.int a), some (.int l), some (.int b), some (.int r), none, none, none] = true := fun _ _ => rfl
  generalize ((List.range' l (r - l)).map fun j => cell t (a - 1) j * cell t a j).map D.int = L1 at *
  generalize ((List.range' a (b - a)).map fun j => cell t j (l - 1) * cell t j l).map D.int = L2 at *
  generalize (List.range' l (r - l)).map (fun i : Nat => D.int i) = r1 at *
  generalize (List.range' a (b - a)).map (fun i : Nat => D.int i) = r2 at *
  generalize tupT t = X at *
  by_cases A : a = b ∧ l < r
  · obtain ⟨A1, A2⟩ := A
    have A3 : ¬ l = r := by omega
    refine ⟨some (.lst true L1), ?_⟩
    rw [lawE_flat A1 A2]
    rw [decide_eq_true A1] at q1
    rw [decide_eq_false A3] at q2
    rw [eq_true A2] at k1
    generalize decide (∀ j ∈ List.range' l (r - l), flP t a j = true) = p at n1 ⊢
    cases p <;> simp -implicitDefEqProofs only [denSs, denS, denI, denE, denO, denA, denC, valsO, finO, takeO, backO, getPl_slot, setPl, getS, setT, setNs, opD, opI1, opI2, addN, opt_some, bind_ok, thn1_nx, thn1_rt, aft_nx, onBl_bl, List.set_cons_succ, List.set_cons_zero, List.getElem?_cons_succ, List.getElem?_cons_zero, Option.bind_some, id, Option.map_some, List.length_cons, List.length_nil, Nat.reduceAdd, Nat.reduceLT, if_true, if_false, Bool.false_eq_true, isOwnL, noOwn, clrs, List.foldl_cons, List.foldl_nil, decide_true, decide_false, Bool.not_true, Bool.not_false, okOnly_ok, b_law_chords_4, e_law_chords_1, q1, q2, k1, g1, nn1, l1, n1, eb, a1, List.map_append, List.map_cons, List.map_nil, List.append_nil, List.nil_append]
  · by_cases B : l = r ∧ a < b
    · obtain ⟨B1, B2⟩ := B
      have B3 : ¬ a = b := by omega
      refine ⟨some (.lst true L2), ?_⟩
      rw [lawE_up B1 B2]
      rw [decide_eq_false B3] at q1
      rw [decide_eq_true B1] at q2
      rw [eq_true B2] at k2
      generalize decide (∀ j ∈ List.range' a (b - a), upP t l j = true) = p at n2 ⊢
      cases p <;> simp -implicitDefEqProofs only [denSs, denS, denI, denE, denO, denA, denC, valsO, finO, takeO, backO, getPl_slot, setPl, getS, setT, setNs, opD, opI1, opI2, addN, opt_some, bind_ok, thn1_nx, thn1_rt, aft_nx, onBl_bl, List.set_cons_succ, List.set_cons_zero, List.getElem?_cons_succ, List.getElem?_cons_zero, Option.bind_some, id, Option.map_some, List.length_cons, List.length_nil, Nat.reduceAdd, Nat.reduceLT, if_true, if_false, Bool.false_eq_true, isOwnL, noOwn, clrs, List.foldl_cons, List.foldl_nil, decide_true, decide_false, Bool.not_true, Bool.not_false, okOnly_ok, b_law_chords_4, e_law_chords_3, q1, q2, k2, g2, nn2, l2, n2, eb, a1, List.map_append, List.map_cons, List.map_nil, List.append_nil, List.nil_append]
    · refine ⟨none, ?_⟩
      rw [lawE_no A B]
      by_cases A1 : a = b
      · have A2 : ¬ l < r := fun h => A ⟨A1, h⟩
        have B2 : ¬ a < b := by omega
        rw [decide_eq_true A1] at q1
        rw [eq_false A2] at k1
        rw [eq_false B2] at k2
        by_cases B1 : l = r
        · rw [decide_eq_true B1] at q2
          simp -implicitDefEqProofs only [denSs, denS, denI, denE, denO, denA, denC, valsO, finO, takeO, backO, getPl_slot, setPl, getS, setT, setNs, opD, opI1, opI2, addN, opt_some, bind_ok, thn1_nx, thn1_rt, aft_nx, onBl_bl, List.set_cons_succ, List.set_cons_zero, List.getElem?_cons_succ, List.getElem?_cons_zero, Option.bind_some, id, Option.map_some, List.length_cons, List.length_nil, Nat.reduceAdd, Nat.reduceLT, if_true, if_false, Bool.false_eq_true, isOwnL, noOwn, clrs, List.foldl_cons, List.foldl_nil, decide_true, decide_false, Bool.not_true, Bool.not_false, okOnly_ok, b_law_chords_4, q1, q2, k1, k2, List.map_append, List.map_nil, List.append_nil, List.nil_append]
        · rw [decide_eq_false B1] at q2
          simp -implicitDefEqProofs only [denSs, denS, denI, denE, denO, denA, denC, valsO, finO, takeO, backO, getPl_slot, setPl, getS, setT, setNs, opD, opI1, opI2, addN, opt_some, bind_ok, thn1_nx, thn1_rt, aft_nx, onBl_bl, List.set_cons_succ, List.set_cons_zero, List.getElem?_cons_succ, List.getElem?_cons_zero, Option.bind_some, id, Option.map_some, List.length_cons, List.length_nil, Nat.reduceAdd, Nat.reduceLT, if_true, if_false, Bool.false_eq_true, isOwnL, noOwn, clrs, List.foldl_cons, List.foldl_nil, decide_true, decide_false, Bool.not_true, Bool.not_false, okOnly_ok, b_law_chords_4, q1, q2, k1, k2, List.map_append, List.map_nil, List.append_nil, List.nil_append]
      · rw [decide_eq_false A1] at q1
        by_cases B1 : l = r
        · have B2 : ¬ a < b := fun h => B ⟨B1, h⟩
          rw [decide_eq_true B1] at q2
          rw [eq_false B2] at k2
          simp -implicitDefEqProofs only [denSs, denS, denI, denE, denO, denA, denC, valsO, finO, takeO, backO, getPl_slot, setPl, getS, setT, setNs, opD, opI1, opI2, addN, opt_some, bind_ok, thn1_nx, thn1_rt, aft_nx, onBl_bl, List.set_cons_succ, List.set_cons_zero, List.getElem?_cons_succ, List.getElem?_cons_zero, Option.bind_some, id, Option.map_some, List.length_cons, List.length_nil, Nat.reduceAdd, Nat.reduceLT, if_true, if_false, Bool.false_eq_true, isOwnL, noOwn, clrs, List.foldl_cons, List.foldl_nil, decide_true, decide_false, Bool.not_true, Bool.not_false, okOnly_ok, b_law_chords_4, q1, q2, k2, List.map_append, List.map_nil, List.append_nil, List.nil_append]
        · rw [decide_eq_false B1] at q2
          simp -implicitDefEqProofs only [denSs, denS, denI, denE, denO, denA, denC, valsO, finO, takeO, backO, getPl_slot, setPl, getS, setT, setNs, opD, opI1, opI2, addN, opt_some, bind_ok, thn1_nx, thn1_rt, aft_nx, onBl_bl, List.set_cons_succ, List.set_cons_zero, List.getElem?_cons_succ, List.getElem?_cons_zero, Option.bind_some, id, Option.map_some, List.length_cons, List.length_nil, Nat.reduceAdd, Nat.reduceLT, if_true, if_false, Bool.false_eq_true, isOwnL, noOwn, clrs, List.foldl_cons, List.foldl_nil, decide_true, decide_false, Bool.not_true, Bool.not_false, okOnly_ok, b_law_chords_4, q1, q2, List.map_append, List.map_nil, List.append_nil, List.nil_append]
theorem lchords_key (cl : Call) (T : Tab R C t) (hR : R ≤ 10) (hC : C ≤ 10) (hco : cl i_law_corners [tupT t] = .ok (cornD t R C, [some (tupT t)])) :
    ∃ g, denSs prg.val cl b_law_chords [some (tupT t), none, none, none, none, none, none, none, none, none] = .ok (.rt (.lst true ((chordL t R C).map boxD)), some (tupT t) :: g) := by
  have hl := insC_len (t := t) hR hC
  have hlen1 : ∀ x, ((insC t R C).flatMap fun y => (lawE t x y).map boxD).length ≤ 242 := fun x => flatMap_lt (m := 2) (n := 121) (fun y _ => by rw [List.length_map]; exact lawE_len x y) hl (by omega)
  have hlen : ((insC t R C).flatMap fun x => (insC t R C).flatMap fun y => (lawE t x y).map boxD).length ≤ 30000 := flatMap_lt (m := 242) (n := 121) (fun x _ => hlen1 x) hl (by omega)
  have no := noOwns_ce (insC t R C)
  have lp := forD_acc (t := .tup [3, 4]) (clr := [3, 4, 5, 6, 7]) (body := denSs prg.val cl b_law_chords_5) cellD (fun acc => [some (tupT t), some (.lst false ((insC t R C).map cellD)), some (.lst true acc), none, none, none, none, none, none, none]) (fun x => (insC t R C).flatMap fun y => (lawE t x y).map boxD) 30000 (insC t R C) [] (by rw [List.length_nil]; omega)
    (fun x hx acc hb => by
      have hx' := (mem_insC.mp hx).2.2
      have lp := forD_acc (t := .tup [5, 6]) (clr := [5, 6, 7]) (body := denSs prg.val cl b_law_chords_4) cellD (fun acc => [some (tupT t), some (.lst false ((insC t R C).map cellD)), some (.lst true acc), some (.int x.1), some (.int x.2), none, none, none, none, none]) (fun y => (lawE t x y).map boxD) 30000 (insC t R C) acc hb
        (fun y hy acc hb => by
          have hy' := (mem_insC.mp hy).2.2
          obtain ⟨z, e⟩ := lcs cl T hR hC hx' hy' (acc := acc) (by omega) (.lst false ((insC t R C).map cellD))
          exact ⟨_, _, rfl, e, rfl⟩)
      refine ⟨[some (tupT t), some (.lst false ((insC t R C).map cellD)), some (.lst true acc), some (.int x.1), some (.int x.2), none, none, none, none, none], [some (tupT t), some (.lst false ((insC t R C).map cellD)), some (.lst true (acc ++ (insC t R C).flatMap fun y => (lawE t x y).map boxD)), some (.int x.1), some (.int x.2), none, none, none, none, none], rfl, ?_, rfl⟩
      generalize (insC t R C).flatMap (fun y => (lawE t x y).map boxD) = L at *
      generalize (insC t R C).map cellD = I at *
      generalize tupT t = X at *
      simp -implicitDefEqProofs only [denSs, denS, denI, denE, denO, denA, denC, valsO, finO, takeO, backO, getPl_slot, setPl, getS, setT, setNs, opD, opI1, opI2, addN, opt_some, bind_ok, thn1_nx, thn1_rt, aft_nx, onBl_bl, List.set_cons_succ, List.set_cons_zero, List.getElem?_cons_succ, List.getElem?_cons_zero, Option.bind_some, id, Option.map_some, List.length_cons, List.length_nil, Nat.reduceAdd, Nat.reduceLT, if_true, if_false, Bool.false_eq_true, isOwnL, noOwn, clrs, List.foldl_cons, List.foldl_nil, decide_true, decide_false, Bool.not_true, Bool.not_false, okOnly_ok, b_law_chords_5, no, lp, Bool.and_true])
  have fm : ((insC t R C).flatMap fun x => (insC t R C).flatMap fun y => (lawE t x y).map boxD) = (lawL t R C).map boxD := by
    unfold lawL
    rw [List.map_flatMap]
    congr 1
    funext x
    rw [List.map_flatMap]
  rw [List.nil_append, fm] at lp
  have so := sorted_chord (o := true) (List.Perm.refl (lawL t R C))
  have pk := pick_ins (t := t) (R := R) (C := C)
  refine ⟨[some (.lst false ((insC t R C).map cellD)), some (.lst true ((lawL t R C).map boxD)), none, none, none, none, none, none, none], ?_⟩
  generalize cornD t R C = CO at *
  generalize (insC t R C).map cellD = I at *
  generalize (lawL t R C).map boxD = L at *
  generalize (chordL t R C).map boxD = S at *
  generalize tupT t = X at *
  simp -implicitDefEqProofs only [denSs, denS, denI, denE, denO, denA, denC, valsO, finO, takeO, backO, getPl_slot, setPl, getS, setT, setNs, opD, opI1, opI2, addN, opt_some, bind_ok, thn1_nx, thn1_rt, aft_nx, onBl_bl, List.set_cons_succ, List.set_cons_zero, List.getElem?_cons_succ, List.getElem?_cons_zero, Option.bind_some, id, Option.map_some, List.length_cons, List.length_nil, Nat.reduceAdd, Nat.reduceLT, if_true, if_false, Bool.false_eq_true, isOwnL, noOwn, clrs, List.foldl_cons, List.foldl_nil, decide_true, decide_false, Bool.not_true, Bool.not_false, okOnly_ok, b_law_chords, hco, pk, no, lp, so, Bool.and_true]
theorem lchords_ok (lv : Nat) (T : Tab R C t) (hR0 : 0 < R) (hR : R ≤ 10) (hC : C ≤ 10) : callD prg (lv + 1 + 1 + 1) i_law_chords [tupT t] = .ok (.lst true ((chordL t R C).map boxD), [some (tupT t)]) := by
  obtain ⟨g, hb⟩ := lchords_key (callD prg (lv + 1 + 1)) T hR hC (corners9 lv T hR0 hR hC)
  have q3 := runD_rt (d := d_law_chords) (ds := [tupT t]) rfl rfl hb
  rw [call_law_chords]
  exact q3
end

end VS.Law
end

section
-- 4ce868e5483ac43f6e56a1537217af37
set_option maxHeartbeats 1000000
namespace VS.Law
open PySem L2 VS
/-! chords that meet -/
def flatB (x : Bx) : Bool := decide (x.1 = x.2.2.1)
def meet2 (f u : Bx) : Bool := (decide (f.2.1 ≤ u.2.1) && decide (u.2.1 ≤ f.2.2.2)) && (decide (u.1 ≤ f.1) && decide (f.1 ≤ u.2.2.1))
def meetB (x y : Bx) : Bool := if flatB x = flatB y then false else if flatB y then meet2 y x else meet2 x y
theorem eqN2 (a b : Nat) : opEq false (.int (a : Int)) (.int (b : Int)) = some (.bl (decide (a = b))) := eqN a b
theorem eqBl (a b : Bool) : opEq false (.bl a) (.bl b) = some (.bl (decide (a = b))) := by cases a <;> cases b <;> simp [opEq, plain, deq]
theorem flatB_ok (lv : Nat) (x : Bx) : callD prg (lv + 1) i_is_flat [boxD x] = .ok (.bl (flatB x), [some (boxD x)]) := by
  have hb : denSs prg.val (callD prg lv) b_is_flat [some (boxD x)] = .ok (.rt (.bl (flatB x)), [some (boxD x)]) := by
    have p1 : getPl (.ix (.slot 0) (.num 0)) [some (boxD x)] = some (.int x.1) := rfl
    have p2 : getPl (.ix (.slot 0) (.num 2)) [some (boxD x)] = some (.int x.2.2.1) := rfl
    have q := eqN x.1 x.2.2.1
    unfold flatB
    generalize boxD x = X at *
    simp -implicitDefEqProofs only [denSs, denS, denI, denE, denO, denA, denC, valsO, finO, takeO, backO, getPl_slot, setPl, getS, setT, setNs, opD, opI1, opI2, addN, opt_some, bind_ok, thn1_nx, thn1_rt, aft_nx, onBl_bl, List.set_cons_succ, List.set_cons_zero, List.getElem?_cons_succ, List.getElem?_cons_zero, Option.bind_some, id, Option.map_some, List.length_cons, List.length_nil, Nat.reduceAdd, Nat.reduceLT, if_true, if_false, Bool.false_eq_true, isOwnL, noOwn, clrs, List.foldl_cons, List.foldl_nil, decide_true, decide_false, Bool.not_true, Bool.not_false, okOnly_ok, b_is_flat, p1, p2, q]
  have q3 := runD_rt (d := d_is_flat) (ds := [boxD x]) rfl rfl hb
  rw [call_is_flat]
  exact q3
theorem meet_key (cl : Call) (hf : ∀ x, cl i_is_flat [boxD x] = .ok (.bl (flatB x), [some (boxD x)])) (x y : Bx) :
    ∃ g, denSs prg.val cl b_chords_meet [some (boxD x), some (boxD y), none, none] = .ok (.rt (.bl (meetB x y)), some (boxD x) :: some (boxD y) :: g) := by
  have h1 := hf x
  have h2 := hf y
  have q := eqBl (flatB x) (flatB y)
  have nx := noOwn_boxD x
  have ny := noOwn_boxD y
  have pa : ∀ u v : Bx, getPl (.ix (.slot 2) (.num 1)) [some (boxD x), some (boxD y), some (boxD u), some (boxD v)] = some (.int u.2.1) := fun _ _ => rfl
  have pb : ∀ u v : Bx, getPl (.ix (.slot 3) (.num 1)) [some (boxD x), some (boxD y), some (boxD u), some (boxD v)] = some (.int v.2.1) := fun _ _ => rfl
  have pc : ∀ u v : Bx, getPl (.ix (.slot 2) (.num 3)) [some (boxD x), some (boxD y), some (boxD u), some (boxD v)] = some (.int u.2.2.2) := fun _ _ => rfl
  have pd : ∀ u v : Bx, getPl (.ix (.slot 3) (.num 0)) [some (boxD x), some (boxD y), some (boxD u), some (boxD v)] = some (.int v.1) := fun _ _ => rfl
  have pe : ∀ u v : Bx, getPl (.ix (.slot 2) (.num 0)) [some (boxD x), some (boxD y), some (boxD u), some (boxD v)] = some (.int u.1) := fun _ _ => rfl
  have pf : ∀ u v : Bx, getPl (.ix (.slot 3) (.num 2)) [some (boxD x), some (boxD y), some (boxD u), some (boxD v)] = some (.int v.2.2.1) := fun _ _ => rfl
  have kk : ∀ a b : Nat, decide ((a : Int) ≤ (b : Int)) = decide (a ≤ b) := fun a b => by
    rw [Bool.eq_iff_iff, decide_eq_true_eq, decide_eq_true_eq]; omega
  unfold meetB meet2
  cases hx : flatB x <;> cases hy : flatB y <;> rw [hx] at h1 q <;> rw [hy] at h2 q
  · refine ⟨[none, none], ?_⟩
    generalize boxD x = X at *
    generalize boxD y = Y at *
    simp -implicitDefEqProofs only [denSs, denS, denI, denE, denO, denA, denC, valsO, finO, takeO, backO, getPl_slot, setPl, getS, setT, setNs, opD, opI1, opI2, addN, opt_some, bind_ok, thn1_nx, thn1_rt, aft_nx, onBl_bl, List.set_cons_succ, List.set_cons_zero, List.getElem?_cons_succ, List.getElem?_cons_zero, Option.bind_some, id, Option.map_some, List.length_cons, List.length_nil, Nat.reduceAdd, Nat.reduceLT, if_true, if_false, Bool.false_eq_true, isOwnL, noOwn, clrs, List.foldl_cons, List.foldl_nil, decide_true, decide_false, Bool.not_true, Bool.not_false, okOnly_ok, b_chords_meet, h1, h2, q]
  · refine ⟨[some (boxD y), some (boxD x)], ?_⟩
    have p1 := pa y x
    have p2 := pb y x
    have p3 := pc y x
    have p4 := pd y x
    have p5 := pe y x
    have p6 := pf y x
    have e : decide ((false : Bool) = true) = false := rfl
    have i : ((false : Bool) = true) = False := by simp
    rw [e] at q
    generalize boxD x = X at *
    generalize boxD y = Y at *
    cases c1 : decide (y.2.1 ≤ x.2.1) <;> cases c2 : decide (x.2.1 ≤ y.2.2.2) <;> cases c3 : decide (x.1 ≤ y.1) <;> cases c4 : decide (y.1 ≤ x.2.2.1) <;>
      simp -implicitDefEqProofs only [denSs, denS, denI, denE, denO, denA, denC, valsO, finO, takeO, backO, getPl_slot, setPl, getS, setT, setNs, opD, opI1, opI2, addN, opt_some, bind_ok, thn1_nx, thn1_rt, aft_nx, onBl_bl, List.set_cons_succ, List.set_cons_zero, List.getElem?_cons_succ, List.getElem?_cons_zero, Option.bind_some, id, Option.map_some, List.length_cons, List.length_nil, Nat.reduceAdd, Nat.reduceLT, if_true, if_false, Bool.false_eq_true, isOwnL, noOwn, clrs, List.foldl_cons, List.foldl_nil, decide_true, decide_false, Bool.not_true, Bool.not_false, okOnly_ok, b_chords_meet, h1, h2, q, nx, ny, p1, p2, p3, p4, p5, p6, kk, c1, c2, c3, c4, Bool.and_true, Bool.true_and, Bool.false_and, Bool.and_false]
  · refine ⟨[some (boxD x), some (boxD y)], ?_⟩
    have p1 := pa x y
    have p2 := pb x y
    have p3 := pc x y
    have p4 := pd x y
    have p5 := pe x y
    have p6 := pf x y
    have e : decide ((true : Bool) = false) = false := rfl
    have i : ((true : Bool) = false) = False := by simp
    rw [e] at q
    generalize boxD x = X at *
    generalize boxD y = Y at *
    cases c1 : decide (x.2.1 ≤ y.2.1) <;> cases c2 : decide (y.2.1 ≤ x.2.2.2) <;> cases c3 : decide (y.1 ≤ x.1) <;> cases c4 : decide (x.1 ≤ y.2.2.1) <;>
      simp -implicitDefEqProofs only [denSs, denS, denI, denE, denO, denA, denC, valsO, finO, takeO, backO, getPl_slot, setPl, getS, setT, setNs, opD, opI1, opI2, addN, opt_some, bind_ok, thn1_nx, thn1_rt, aft_nx, onBl_bl, List.set_cons_succ, List.set_cons_zero, List.getElem?_cons_succ, List.getElem?_cons_zero, Option.bind_some, id, Option.map_some, List.length_cons, List.length_nil, Nat.reduceAdd, Nat.reduceLT, if_true, if_false, Bool.false_eq_true, isOwnL, noOwn, clrs, List.foldl_cons, List.foldl_nil, decide_true, decide_false, Bool.not_true, Bool.not_false, okOnly_ok, b_chords_meet, h1, h2, q, i, nx, ny, p1, p2, p3, p4, p5, p6, kk, c1, c2, c3, c4, Bool.and_true, Bool.true_and, Bool.false_and, Bool.and_false]
  · refine ⟨[none, none], ?_⟩
    generalize boxD x = X at *
    generalize boxD y = Y at *
    simp -implicitDefEqProofs only [denSs, denS, denI, denE, denO, denA, denC, valsO, finO, takeO, backO, getPl_slot, setPl, getS, setT, setNs, opD, opI1, opI2, addN, opt_some, bind_ok, thn1_nx, thn1_rt, aft_nx, onBl_bl, List.set_cons_succ, List.set_cons_zero, List.getElem?_cons_succ, List.getElem?_cons_zero, Option.bind_some, id, Option.map_some, List.length_cons, List.length_nil, Nat.reduceAdd, Nat.reduceLT, if_true, if_false, Bool.false_eq_true, isOwnL, noOwn, clrs, List.foldl_cons, List.foldl_nil, decide_true, decide_false, Bool.not_true, Bool.not_false, okOnly_ok, b_chords_meet, h1, h2, q]
theorem meet_ok (lv : Nat) (x y : Bx) : callD prg (lv + 1 + 1) i_chords_meet [boxD x, boxD y] = .ok (.bl (meetB x y), [some (boxD x), some (boxD y)]) := by
  obtain ⟨g, hb⟩ := meet_key (callD prg (lv + 1)) (flatB_ok lv) x y
  have q3 := runD_rt (d := d_chords_meet) (ds := [boxD x, boxD y]) rfl rfl hb
  rw [call_chords_meet]
  exact q3

end VS.Law
end

section
-- ebef64d5c73a3d3702e0c67fdda2856b
set_option maxHeartbeats 1000000
namespace VS.Law
open PySem L2 VS
/-! the points of a chord, and the law -/
def onL (x : Bx) : List Ce := (List.range' x.1 (x.2.2.1 + 1 - x.1)).flatMap fun i => (List.range' x.2.1 (x.2.2.2 + 1 - x.2.1)).map fun j => ((i, j) : Ce)
theorem mem_onL {x : Bx} {p : Ce} : p ∈ onL x ↔ (x.1 ≤ p.1 ∧ p.1 ≤ x.2.2.1) ∧ x.2.1 ≤ p.2 ∧ p.2 ≤ x.2.2.2 := by
  obtain ⟨i, j⟩ := p
  unfold onL
  simp only [List.mem_flatMap, List.mem_map, List.mem_range'_1, Prod.mk.injEq]
  constructor
  · rintro ⟨i', h1, j', h2, rfl, rfl⟩
    omega
  · rintro ⟨h1, h2⟩
    exact ⟨i, by omega, j, by omega, rfl, rfl⟩
def small (x : Bx) : Prop := x.1 ≤ 10 ∧ x.2.1 ≤ 10 ∧ x.2.2.1 ≤ 10 ∧ x.2.2.2 ≤ 10
theorem onL_len {x : Bx} (h : small x) : (onL x).length ≤ 200 := by
  unfold small at h
  unfold onL
  refine flatMap_lt (m := 11) (n := 11) (fun r _ => ?_) (by rw [List.length_range']; omega) (by omega)
  rw [List.length_map, List.length_range']
  omega
theorem on_ok (lv : Nat) {x : Bx} (h : small x) : callD prg (lv + 1) i_law_on [boxD x] = .ok (.lst true ((onL x).map cellD), [some (boxD x)]) := by
  have hz := onL_len h
  unfold small at h
  have hb : denSs prg.val (callD prg lv) b_law_on [some (boxD x), none, none, none] = .ok (.rt (.lst true ((onL x).map cellD)), [some (boxD x), none, none, none]) := by
    generalize callD prg lv = cl
    have p1 : ∀ a b c, getPl (.ix (.slot 0) (.num 0)) [some (boxD x), a, b, c] = some (.int x.1) := fun _ _ _ => rfl
    have p2 : ∀ a b c, getPl (.ix (.slot 0) (.num 1)) [some (boxD x), a, b, c] = some (.int x.2.1) := fun _ _ _ => rfl
    have p3 : ∀ a b c, getPl (.ix (.slot 0) (.num 2)) [some (boxD x), a, b, c] = some (.int x.2.2.1) := fun _ _ _ => rfl
    have p4 : ∀ a b c, getPl (.ix (.slot 0) (.num 3)) [some (boxD x), a, b, c] = some (.int x.2.2.2) := fun _ _ _ => rfl
    generalize boxD x = X at *
    have hl : ((List.range' x.1 (x.2.2.1 + 1 - x.1)).flatMap fun i => ((List.range' x.2.1 (x.2.2.2 + 1 - x.2.1)).map fun j => ((i, j) : Ce)).map cellD).length ≤ 200 := by
      rw [← List.map_flatMap, List.length_map]; exact hz
    have lp := forD_acc (t := .nm 2) (clr := [2]) (body := denSs prg.val cl b_law_on_2) (fun i : Nat => .int i) (fun acc => [some X, some (.lst true acc), none, none]) (fun i => ((List.range' x.2.1 (x.2.2.2 + 1 - x.2.1)).map fun j => ((i, j) : Ce)).map cellD) 200 (List.range' x.1 (x.2.2.1 + 1 - x.1)) [] (by rw [List.length_nil]; omega) (by
      intro i hi acc hacc
      have lc := lcD_map (t := .nm 3) (own := [3]) (elt := denE prg.val cl e_law_on_0) (fun i : Nat => .int i) (fun j => cellD (i, j)) [some X, some (.lst true acc), some (.int i), none] (List.range' x.2.1 (x.2.2.2 + 1 - x.2.1)) (by rw [List.length_range', line_eq]; omega) (fun j _ =>
        ⟨[some X, some (.lst true acc), some (.int i), some (.int j)], rfl, by simp -implicitDefEqProofs only [denSs, denS, denI, denE, denO, denA, denC, valsO, finO, takeO, backO, getPl_slot, setPl, getS, setT, setNs, opD, opI1, opI2, addN, opt_some, bind_ok, thn1_nx, thn1_rt, aft_nx, onBl_bl, List.set_cons_succ, List.set_cons_zero, List.getElem?_cons_succ, List.getElem?_cons_zero, Option.bind_some, id, Option.map_some, List.length_cons, List.length_nil, Nat.reduceAdd, Nat.reduceLT, if_true, if_false, Bool.false_eq_true, isOwnL, noOwn, clrs, List.foldl_cons, List.foldl_nil, decide_true, decide_false, Bool.not_true, Bool.not_false, okOnly_ok, e_law_on_0, cellD], rfl⟩)
      refine ⟨[some X, some (.lst true acc), some (.int i), none], [some X, some (.lst true (acc ++ ((List.range' x.2.1 (x.2.2.2 + 1 - x.2.1)).map fun j => ((i, j) : Ce)).map cellD)), some (.int i), none], rfl, ?_, rfl⟩
      have rg := rng2_nat (i := (x.2.1 : Int)) (j := (x.2.2.2 : Int) + 1) (a := x.2.1) (b := x.2.2.2 + 1) rfl rfl (by omega) (by omega)
      have em : ((List.range' x.2.1 (x.2.2.2 + 1 - x.2.1)).map fun j => ((i, j) : Ce)).map cellD = (List.range' x.2.1 (x.2.2.2 + 1 - x.2.1)).map fun j => cellD (i, j) := by rw [List.map_map]; rfl
      rw [em] at hacc ⊢
      have no : noOwns ((List.range' x.2.1 (x.2.2.2 + 1 - x.2.1)).map fun j => cellD (i, j)) = true := noOwns_map (fun _ => rfl) _
      have hm := extD (ds := acc) no (by omega)
      have nn : noneAt [3] [some X, some (.lst true acc), some (.int i), none] = true := rfl
      simp -implicitDefEqProofs only [denSs, denS, denI, denE, denO, denA, denC, valsO, finO, takeO, backO, getPl_slot, setPl, getS, setT, setNs, opD, opI1, opI2, addN, opt_some, bind_ok, thn1_nx, thn1_rt, aft_nx, onBl_bl, List.set_cons_succ, List.set_cons_zero, List.getElem?_cons_succ, List.getElem?_cons_zero, Option.bind_some, id, Option.map_some, List.length_cons, List.length_nil, Nat.reduceAdd, Nat.reduceLT, if_true, if_false, Bool.false_eq_true, isOwnL, noOwn, clrs, List.foldl_cons, List.foldl_nil, decide_true, decide_false, Bool.not_true, Bool.not_false, okOnly_ok, b_law_on_2, e_law_on_1, p2, p4, rg, nn, lc, hm])
    have rg := rng2_nat (i := (x.1 : Int)) (j := (x.2.2.1 : Int) + 1) (a := x.1) (b := x.2.2.1 + 1) rfl rfl (by omega) (by omega)
    rw [← List.map_flatMap, List.nil_append] at lp
    unfold onL
    simp -implicitDefEqProofs only [denSs, denS, denI, denE, denO, denA, denC, valsO, finO, takeO, backO, getPl_slot, setPl, getS, setT, setNs, opD, opI1, opI2, addN, opt_some, bind_ok, thn1_nx, thn1_rt, aft_nx, onBl_bl, List.set_cons_succ, List.set_cons_zero, List.getElem?_cons_succ, List.getElem?_cons_zero, Option.bind_some, id, Option.map_some, List.length_cons, List.length_nil, Nat.reduceAdd, Nat.reduceLT, if_true, if_false, Bool.false_eq_true, isOwnL, noOwn, clrs, List.foldl_cons, List.foldl_nil, decide_true, decide_false, Bool.not_true, Bool.not_false, okOnly_ok, b_law_on, p1, p3, rg, lp]
  have q3 := runD_rt (d := d_law_on) (ds := [boxD x]) rfl rfl hb
  rw [call_law_on]
  exact q3
def isCh (b : Bx) : Prop := (b.1 = b.2.2.1 ∧ b.2.1 < b.2.2.2) ∨ (b.2.1 = b.2.2.2 ∧ b.1 < b.2.2.1)
theorem any_bl {α : Type} (f : α → Bool) (l : List α) : opAny (.lst true (l.map fun p => D.bl (f p))) = some (.bl (l.any f)) := by
  have e : ∀ l : List α, boolsD (l.map fun p => D.bl (f p)) = some (l.map f) := fun l => by
    induction l with
    | nil => rfl
    | cons z l ih => simp only [List.map_cons, boolsD, ih, Option.map_some]
  unfold opAny
  simp only [e, Option.map_some, List.any_map]
  rfl
theorem meet_on {x y : Bx} (hx : isCh x) (hy : isCh y) (h : ¬ flatB x = flatB y) : (onL x).any (fun p => decide (p ∈ onL y)) = meetB x y := by
  unfold meetB
  rw [if_neg h]
  have key : (onL x).any (fun p => decide (p ∈ onL y)) = decide ((x.1 ≤ y.2.2.1 ∧ y.1 ≤ x.2.2.1) ∧ x.2.1 ≤ y.2.2.2 ∧ y.2.1 ≤ x.2.2.2) := by
    rw [Bool.eq_iff_iff, List.any_eq_true, decide_eq_true_eq]
    unfold isCh at hx hy
    constructor
    · rintro ⟨p, h1, h2⟩
      rw [decide_eq_true_eq, mem_onL] at h2
      rw [mem_onL] at h1
      omega
    · intro q
      refine ⟨(max x.1 y.1, max x.2.1 y.2.1), ?_, ?_⟩
      · rw [mem_onL]; dsimp only; omega
      · rw [decide_eq_true_eq, mem_onL]; dsimp only; omega
  rw [key]
  unfold flatB isCh meet2 at *
  by_cases a : x.1 = x.2.2.1 <;> by_cases b : y.1 = y.2.2.1
  · simp [a, b] at h
  · rw [decide_eq_false b]
    simp only [Bool.false_eq_true, if_false]
    rw [Bool.eq_iff_iff]
    simp only [Bool.and_eq_true, decide_eq_true_eq]
    omega
  · rw [decide_eq_true b]
    simp only [if_true]
    rw [Bool.eq_iff_iff]
    simp only [Bool.and_eq_true, decide_eq_true_eq]
    omega
  · simp [a, b] at h
theorem lmeet_key (cl : Call) {x y : Bx} (hx : isCh x) (hy : isCh y) (sx : small x) (hon : ∀ x, small x → cl i_law_on [boxD x] = .ok (.lst true ((onL x).map cellD), [some (boxD x)])) (sy : small y) :
    ∃ g, denSs prg.val cl b_law_meet [some (boxD x), some (boxD y), none, none] = .ok (.rt (.bl (meetB x y)), some (boxD x) :: some (boxD y) :: g) := by
  have p1 : getPl (.ix (.slot 0) (.num 0)) [some (boxD x), some (boxD y), none, none] = some (.int x.1) := rfl
  have p2 : getPl (.ix (.slot 0) (.num 2)) [some (boxD x), some (boxD y), none, none] = some (.int x.2.2.1) := rfl
  have p3 : getPl (.ix (.slot 1) (.num 0)) [some (boxD x), some (boxD y), none, none] = some (.int y.1) := rfl
  have p4 : getPl (.ix (.slot 1) (.num 2)) [some (boxD x), some (boxD y), none, none] = some (.int y.2.2.1) := rfl
  have q1 : opEq false (.int x.1) (.int x.2.2.1) = some (.bl (flatB x)) := eqN x.1 x.2.2.1
  have q2 : opEq false (.int y.1) (.int y.2.2.1) = some (.bl (flatB y)) := eqN y.1 y.2.2.1
  have q := eqBl (flatB x) (flatB y)
  have h1 := hon x sx
  have h2 := hon y sy
  have hz := onL_len sx
  by_cases h : flatB x = flatB y
  · rw [decide_eq_true h] at q
    have em : meetB x y = false := by unfold meetB; rw [if_pos h]
    rw [em]
    refine ⟨[none, none], ?_⟩
    generalize boxD x = X at *
    generalize boxD y = Y at *
    simp -implicitDefEqProofs only [denSs, denS, denI, denE, denO, denA, denC, valsO, finO, takeO, backO, getPl_slot, setPl, getS, setT, setNs, opD, opI1, opI2, addN, opt_some, bind_ok, thn1_nx, thn1_rt, aft_nx, onBl_bl, List.set_cons_succ, List.set_cons_zero, List.getElem?_cons_succ, List.getElem?_cons_zero, Option.bind_some, id, Option.map_some, List.length_cons, List.length_nil, Nat.reduceAdd, Nat.reduceLT, if_true, if_false, Bool.false_eq_true, isOwnL, noOwn, clrs, List.foldl_cons, List.foldl_nil, decide_true, decide_false, Bool.not_true, Bool.not_false, okOnly_ok, b_law_meet, p1, p2, p3, p4, q1, q2, q]
  · rw [decide_eq_false h] at q
    rw [← meet_on hx hy h]
    refine ⟨[some (.lst true ((onL y).map cellD)), none], ?_⟩
    have lc := lcD_map (t := .nm 3) (own := [3]) (elt := denE prg.val cl e_law_meet_0) cellD (fun p => .bl (decide (p ∈ onL y))) [some (boxD x), some (boxD y), some (.lst true ((onL y).map cellD)), none] (onL x) (by rw [line_eq]; omega) (fun p _ => by
      have i := in_ce false p true (onL y)
      simp only [Bool.false_eq_true, if_false] at i
      refine ⟨[some (boxD x), some (boxD y), some (.lst true ((onL y).map cellD)), some (cellD p)], rfl, ?_, rfl⟩
      generalize (onL y).map cellD = L at *
      generalize boxD x = X at *
      generalize boxD y = Y at *
      simp -implicitDefEqProofs only [denSs, denS, denI, denE, denO, denA, denC, valsO, finO, takeO, backO, getPl_slot, setPl, getS, setT, setNs, opD, opI1, opI2, addN, opt_some, bind_ok, thn1_nx, thn1_rt, aft_nx, onBl_bl, List.set_cons_succ, List.set_cons_zero, List.getElem?_cons_succ, List.getElem?_cons_zero, Option.bind_some, id, Option.map_some, List.length_cons, List.length_nil, Nat.reduceAdd, Nat.reduceLT, if_true, if_false, Bool.false_eq_true, isOwnL, noOwn, clrs, List.foldl_cons, List.foldl_nil, decide_true, decide_false, Bool.not_true, Bool.not_false, okOnly_ok, e_law_meet_0, i])
    have an := any_bl (fun p => decide (p ∈ onL y)) (onL x)
    have no := noOwns_ce (onL x)
    have nn : ∀ X Y L : D, noneAt [3] [some X, some Y, some L, none] = true := fun _ _ _ => rfl
    generalize (onL x).map (fun p => D.bl (decide (p ∈ onL y))) = BL at *
    generalize (onL x).any (fun p => decide (p ∈ onL y)) = ans at *
    generalize (onL y).map cellD = L at *
    generalize (onL x).map cellD = L1 at *
    generalize boxD x = X at *
    generalize boxD y = Y at *
    simp -implicitDefEqProofs only [denSs, denS, denI, denE, denO, denA, denC, valsO, finO, takeO, backO, getPl_slot, setPl, getS, setT, setNs, opD, opI1, opI2, addN, opt_some, bind_ok, thn1_nx, thn1_rt, aft_nx, onBl_bl, List.set_cons_succ, List.set_cons_zero, List.getElem?_cons_succ, List.getElem?_cons_zero, Option.bind_some, id, Option.map_some, List.length_cons, List.length_nil, Nat.reduceAdd, Nat.reduceLT, if_true, if_false, Bool.false_eq_true, isOwnL, noOwn, clrs, List.foldl_cons, List.foldl_nil, decide_true, decide_false, Bool.not_true, Bool.not_false, okOnly_ok, b_law_meet, e_law_meet_1, p1, p2, p3, p4, q1, q2, q, h1, h2, no, nn, lc, an]
theorem lmeet_ok (lv : Nat) {x y : Bx} (hx : isCh x) (hy : isCh y) (sx : small x) (sy : small y) : callD prg (lv + 1 + 1) i_law_meet [boxD x, boxD y] = .ok (.bl (meetB x y), [some (boxD x), some (boxD y)]) := by
  obtain ⟨g, hb⟩ := lmeet_key (callD prg (lv + 1)) hx hy sx (fun x h => on_ok lv h) sy
  have q3 := runD_rt (d := d_law_meet) (ds := [boxD x, boxD y]) rfl rfl hb
  rw [call_law_meet]
  exact q3
section
variable {R C : Nat} {t : List (List Int)}
theorem chord_small (T : Tab R C t) (hR : R ≤ 10) (hC : C ≤ 10) {b : Bx} (h : b ∈ chordL t R C) : small b := by
  unfold chordL at h
  rw [List.mem_mergeSort, ← prog_law T] at h
  obtain ⟨x, hx, h⟩ := List.mem_flatMap.mp h
  obtain ⟨q1, q2, _⟩ := mem_insC.mp hx
  unfold progE at h
  rw [List.mem_append, mem_if, mem_if] at h
  unfold small
  rcases h with ⟨⟨_, h2⟩, rfl⟩ | ⟨⟨_, h2⟩, rfl⟩
  · obtain ⟨q3, q4, _⟩ := mem_insC.mp h2
    dsimp only at *
    omega
  · obtain ⟨q3, q4, _⟩ := mem_insC.mp h2
    dsimp only at *
    omega
theorem blNe (b : Bool) : opEq true (.bl b) (.bl b) = some (.bl false) := by cases b <;> simp [opEq, plain, deq]
theorem isiBl (b : Bool) : opIsi (.bl b) (.ty "bool") = some (.bl true) := by
  unfold opIsi tyOf
  have : kitB "bool" "bool" = some true := by decide +kernel
  simp [this]
theorem law_step (cl : Call) (T : Tab R C t) (hR : R ≤ 10) (hC : C ≤ 10) {x a b c a2 b2 c2 : Int} (hp : cl i_law_pool [.int x] = .ok (pool a b c, [some (.int x)])) (ht : cl i_law_table [pool a b c] = .ok (tupT t, [some (pool a2 b2 c2)]))
    (h1 : cl i_chords_of [tupT t] = .ok (.lst true ((chordL t R C).map boxD), [some (tupT t)])) (h2 : cl i_law_chords [tupT t] = .ok (.lst true ((chordL t R C).map boxD), [some (tupT t)]))
    (h3 : ∀ x y, cl i_chords_meet [boxD x, boxD y] = .ok (.bl (meetB x y), [some (boxD x), some (boxD y)])) (h4 : ∀ x y, isCh x → isCh y → small x → small y → cl i_law_meet [boxD x, boxD y] = .ok (.bl (meetB x y), [some (boxD x), some (boxD y)]))
    (hlen : (chordL t R C).length ≤ 1000) (s : Option D) :
    ∃ g, denSs prg.val cl b_law_8 [s, some (.int x), none, none, none, none, none] = .ok (.nx, s :: g) ∧ clrs [1, 2, 3, 4, 5, 6] (s :: g) = [s, none, none, none, none, none, none] := by
  have ne := ne_bx true true (chordL t R C)
  have il := isiL true ((chordL t R C).map boxD)
  have hl0 : ((chordL t R C).map boxD).length = (chordL t R C).length := List.length_map _
  have ap := appD (ds := (chordL t R C).map boxD) (d := boxD (0, 0, 0, 1)) (by omega)
  have eb : D.tup [.int 0, .int 0, .int 0, .int 1] = boxD (0, 0, 0, 1) := rfl
  obtain ⟨ms, e30, hms, _⟩ := take_map noOwn_boxD true (chordL t R C) 30
  have A : denSs prg.val cl b_law_8 [s, some (.int x), none, none, none, none, none] = denSs prg.val cl b_law_2 [s, some (.int x), some (tupT t), some (.lst true ((chordL t R C).map boxD)), some (.lst true ((chordL t R C).map boxD ++ [boxD (0, 0, 0, 1)])), none, none] := by
    generalize (chordL t R C).map boxD = L at *
    generalize boxD (0, 0, 0, 1) = O at *
    generalize tupT t = X at *
    simp -implicitDefEqProofs only [denSs, denS, denI, denE, denO, denA, denC, valsO, finO, takeO, backO, getPl_slot, setPl, getS, setT, setNs, opD, opI1, opI2, addN, opt_some, bind_ok, thn1_nx, thn1_rt, aft_nx, onBl_bl, List.set_cons_succ, List.set_cons_zero, List.getElem?_cons_succ, List.getElem?_cons_zero, Option.bind_some, id, Option.map_some, List.length_cons, List.length_nil, Nat.reduceAdd, Nat.reduceLT, if_true, if_false, Bool.false_eq_true, isOwnL, noOwn, clrs, List.foldl_cons, List.foldl_nil, decide_true, decide_false, Bool.not_true, Bool.not_false, okOnly_ok, b_law_8, b_law_7, b_law_6, b_law_5, b_law_4, b_law_3, hp, ht, h1, h2, ne, il, eb, ap]
  have no := noOwns_bx ms
  have lp := forD_same (t := .nm 5) (clr := [4, 5, 6]) (body := denSs prg.val cl b_law_1) [s, some (.int x), some (tupT t), some (.lst true ((chordL t R C).map boxD)), none, none, none] (ms.map boxD) (by
    intro d hd
    obtain ⟨u, hu, rfl⟩ := List.mem_map.mp hd
    have lp := forD_same (t := .nm 6) (clr := [4, 6]) (body := denSs prg.val cl b_law_0) [s, some (.int x), some (tupT t), some (.lst true ((chordL t R C).map boxD)), none, some (boxD u), none] (ms.map boxD) (by
      intro d hd
      obtain ⟨v, hv, rfl⟩ := List.mem_map.mp hd
      have m1 := h3 u v
      have m2 := h4 u v (chord_is T (hms u hu)) (chord_is T (hms v hv)) (chord_small T hR hC (hms u hu)) (chord_small T hR hC (hms v hv))
      have b1 := isiBl (meetB u v)
      have b2 := blNe (meetB u v)
      refine ⟨_, [s, some (.int x), some (tupT t), some (.lst true ((chordL t R C).map boxD)), some (.bl (meetB u v)), some (boxD u), some (boxD v)], rfl, ?_, rfl⟩
      generalize (chordL t R C).map boxD = L at *
      generalize tupT t = X at *
      generalize meetB u v = M at *
      generalize boxD u = U at *
      generalize boxD v = V at *
      simp -implicitDefEqProofs only [denSs, denS, denI, denE, denO, denA, denC, valsO, finO, takeO, backO, getPl_slot, setPl, getS, setT, setNs, opD, opI1, opI2, addN, opt_some, bind_ok, thn1_nx, thn1_rt, aft_nx, onBl_bl, List.set_cons_succ, List.set_cons_zero, List.getElem?_cons_succ, List.getElem?_cons_zero, Option.bind_some, id, Option.map_some, List.length_cons, List.length_nil, Nat.reduceAdd, Nat.reduceLT, if_true, if_false, Bool.false_eq_true, isOwnL, noOwn, clrs, List.foldl_cons, List.foldl_nil, decide_true, decide_false, Bool.not_true, Bool.not_false, okOnly_ok, b_law_0, m1, m2, b1, b2])
    refine ⟨_, [s, some (.int x), some (tupT t), some (.lst true ((chordL t R C).map boxD)), none, some (boxD u), none], rfl, ?_, rfl⟩
    generalize (chordL t R C).map boxD = L at *
    generalize ms.map boxD = M at *
    generalize tupT t = X at *
    generalize boxD u = U at *
    simp -implicitDefEqProofs only [denSs, denS, denI, denE, denO, denA, denC, valsO, finO, takeO, backO, getPl_slot, setPl, getS, setT, setNs, opD, opI1, opI2, addN, opt_some, bind_ok, thn1_nx, thn1_rt, aft_nx, onBl_bl, List.set_cons_succ, List.set_cons_zero, List.getElem?_cons_succ, List.getElem?_cons_zero, Option.bind_some, id, Option.map_some, List.length_cons, List.length_nil, Nat.reduceAdd, Nat.reduceLT, if_true, if_false, Bool.false_eq_true, isOwnL, noOwn, clrs, List.foldl_cons, List.foldl_nil, decide_true, decide_false, Bool.not_true, Bool.not_false, okOnly_ok, b_law_1, e30, no, lp])
  refine ⟨[some (.int x), some (tupT t), some (.lst true ((chordL t R C).map boxD)), none, none, none], ?_, rfl⟩
  rw [A]
  generalize (chordL t R C).map boxD = L at *
  generalize ms.map boxD = M at *
  generalize tupT t = X at *
  simp -implicitDefEqProofs only [denSs, denS, denI, denE, denO, denA, denC, valsO, finO, takeO, backO, getPl_slot, setPl, getS, setT, setNs, opD, opI1, opI2, addN, opt_some, bind_ok, thn1_nx, thn1_rt, aft_nx, onBl_bl, List.set_cons_succ, List.set_cons_zero, List.getElem?_cons_succ, List.getElem?_cons_zero, Option.bind_some, id, Option.map_some, List.length_cons, List.length_nil, Nat.reduceAdd, Nat.reduceLT, if_true, if_false, Bool.false_eq_true, isOwnL, noOwn, clrs, List.foldl_cons, List.foldl_nil, decide_true, decide_false, Bool.not_true, Bool.not_false, okOnly_ok, b_law_2, e30, no, lp]
theorem chord_len (T : Tab R C t) (hR : R ≤ 10) (hC : C ≤ 10) : (chordL t R C).length ≤ 1000 := by
  have p := (List.mergeSort_perm (lawL t R C) fun x y => (skB x).le (skB y)).trans (perm_chord T).symm
  have e : (chordL t R C).length = (progL t R C).length := p.length_eq
  rw [e]
  unfold progL
  exact flatMap_lt (m := 2) (n := 121) (fun x _ => progE_len x) (insC_len hR hC) (by omega)
end
theorem law_key (cl : Call) (ns : List Int) (hn : ns.length ≤ 63) (hcl : ∀ (x : Int) (s : Option D), ∃ g, denSs prg.val cl b_law_8 [s, some (.int x), none, none, none, none, none] = .ok (.nx, s :: g) ∧ clrs [1, 2, 3, 4, 5, 6] (s :: g) = [s, none, none, none, none, none, none]) :
    denSs prg.val cl b_law [some (.lst false (ns.map .int)), none, none, none, none, none, none] = .ok (.rt (.bl true), [some (.lst false (ns.map .int)), none, none, none, none, none, none]) := by
  obtain ⟨ms, hms, hml⟩ := script_take ns 8
  have ha := addI (a := [0]) (b := ms) (by rw [List.length_singleton]; omega) true true
  have lp := forD_same (t := .nm 1) (clr := [1, 2, 3, 4, 5, 6]) (body := denSs prg.val cl b_law_8) [some (.lst false (ns.map .int)), none, none, none, none, none, none] (([0] ++ ms).map .int) (by
    intro d hd
    obtain ⟨x, _, rfl⟩ := List.mem_map.mp hd
    obtain ⟨g, e1, e2⟩ := hcl x (some (.lst false (ns.map .int)))
    exact ⟨_, _, rfl, e1, e2⟩)
  have no := noOwns_ints ([0] ++ ms)
  have e0 : ([0] : List Int).map D.int = [.int 0] := rfl
  rw [e0] at ha
  generalize ([0] ++ ms).map D.int = its at *
  generalize ns.map D.int = nsD at *
  simp -implicitDefEqProofs only [denSs, denS, denI, denE, denO, denA, denC, valsO, finO, takeO, backO, getPl_slot, setPl, getS, setT, setNs, opD, opI1, opI2, addN, opt_some, bind_ok, thn1_nx, thn1_rt, aft_nx, onBl_bl, List.set_cons_succ, List.set_cons_zero, List.getElem?_cons_succ, List.getElem?_cons_zero, Option.bind_some, id, Option.map_some, List.length_cons, List.length_nil, Nat.reduceAdd, Nat.reduceLT, if_true, if_false, Bool.false_eq_true, isOwnL, noOwn, clrs, List.foldl_cons, List.foldl_nil, decide_true, decide_false, Bool.not_true, Bool.not_false, okOnly_ok, b_law, hms, ha, no, lp]
theorem law_true : ∀ ns : List Int, ns.length ≤ 63 → ∃ os, callD prg 12 i_law [.lst false (ns.map .int)] = .ok (.bl true, os) := fun ns hn => by
  have hb := law_key (callD prg (6 + 1 + 1 + 1 + 1 + 1)) ns hn (fun x s => by
    have hp := pool_ok (6 + 1 + 1 + 1 + 1) x
    obtain ⟨t, R, C, a', b', c', hR0, hR, hC0, hC, T, ht⟩ := table_ok (6 + 1 + 1) (if 0 < x - 10^18 then x - 10^18 else 0) (x % 10^18) 0
    exact law_step _ T hR hC hp ht (chords_ok 6 T hR0 hR hC) (lchords_ok (6 + 1 + 1) T hR0 hR hC) (fun x y => meet_ok (6 + 1 + 1 + 1) x y) (fun x y h1 h2 h3 h4 => lmeet_ok (6 + 1 + 1 + 1) h1 h2 h3 h4) (chord_len T hR hC) s)
  have q0 : ([.lst false (ns.map .int)] : List D).length = d_law.np := rfl
  have q1 : ([.lst false (ns.map .int)] : List D).map some ++ List.replicate (d_law.ns - d_law.np) none = [some (.lst false (ns.map .int)), none, none, none, none, none, none] := rfl
  have q3 := runD_rt (d := d_law) q0 q1 hb
  have e12 : (12 : Nat) = 6 + 1 + 1 + 1 + 1 + 1 + 1 := rfl
  refine ⟨outs d_law [some (.lst false (ns.map .int)), none, none, none, none, none, none], ?_⟩
  rw [e12, call_law]
  exact q3

end VS.Law
end

section
set_option maxHeartbeats 4000000
namespace VS.Law
open PySem PySem.Spec PyProof.Rows L2 VS
def top (i : Nat) : Stmt := PySem.Challenge.pw_fullpanes_k35_chords_told.main.body.getD i (.Pass ⟨0, 0, 0, 0⟩)
def src : Nat → Src
  | 0 => ⟨top 1, ["table"], ["table"]⟩
  | 1 => ⟨top 3, ["table", "r", "c"], ["table", "r", "c", "rows", "columns"]⟩
  | 2 => ⟨top 4, ["table", "r", "c"], ["table", "r", "c"]⟩
  | 3 => ⟨top 5, ["table"], ["table", "rows", "columns", "outs", "crossed", "ins", "r", "c", "worths"]⟩
  | 4 => ⟨top 6, ["table", "r", "c"], ["table", "r", "c"]⟩
  | 5 => ⟨top 7, ["table", "r", "c"], ["table", "r", "c"]⟩
  | 6 => ⟨top 8, ["table"], ["table", "ins", "found", "r", "c", "right", "bottom"]⟩
  | 7 => ⟨top 9, ["chord"], ["chord"]⟩
  | 8 => ⟨top 10, ["one", "other"], ["one", "other", "flat", "upright"]⟩
  | 9 => ⟨top 12, ["cell"], ["cell"]⟩
  | 10 => ⟨top 13, ["pool", "base"], ["pool", "base", "digit", "near", "stir"]⟩
  | 11 => ⟨top 14, ["pool", "rows", "columns", "worth"], ["pool", "rows", "columns", "worth", "cells", "k", "top", "left", "bottom", "right", "r", "c"]⟩
  | 12 => ⟨top 15, ["pool"], ["pool", "rows", "columns", "way_drawn", "odds", "cells", "turns", "shift", "r", "line", "c"]⟩
  | 13 => ⟨top 16, ["table", "r", "c"], ["table", "r", "c"]⟩
  | 14 => ⟨top 17, ["table"], ["table", "found", "r", "c", "first", "second", "third", "last", "count"]⟩
  | 15 => ⟨top 18, ["table"], ["table", "ins", "found", "top", "left", "bottom", "right", "between", "c", "r"]⟩
  | 16 => ⟨top 19, ["chord"], ["chord", "found", "r", "c"]⟩
  | 17 => ⟨top 20, ["one", "other"], ["one", "other", "points", "point"]⟩
  | 18 => ⟨top 21, ["script"], ["script", "cell", "table", "due", "found", "one", "other"]⟩
  | _ => ⟨top 0, [], []⟩
def blt : List Str := ["any", "bool", "int", "isinstance", "len", "list", "max", "min", "range", "sorted", "sum", "tuple"]
def fl : Nat → List Str := fun _ => []
theorem chk_size_of : chkDef prg blt fl (src 0) d_size_of = true := by decide +kernel
theorem chk_yes_at : chkDef prg blt fl (src 1) d_yes_at = true := by decide +kernel
theorem chk_around : chkDef prg blt fl (src 2) d_around = true := by decide +kernel
theorem chk_corners_of : chkDef prg blt fl (src 3) d_corners_of = true := by decide +kernel
theorem chk_flat_end : chkDef prg blt fl (src 4) d_flat_end = true := by decide +kernel
theorem chk_upright_end : chkDef prg blt fl (src 5) d_upright_end = true := by decide +kernel
theorem chk_chords_of : chkDef prg blt fl (src 6) d_chords_of = true := by decide +kernel
theorem chk_is_flat : chkDef prg blt fl (src 7) d_is_flat = true := by decide +kernel
theorem chk_chords_meet : chkDef prg blt fl (src 8) d_chords_meet = true := by decide +kernel
theorem chk_law_pool : chkDef prg blt fl (src 9) d_law_pool = true := by decide +kernel
theorem chk_law_next : chkDef prg blt fl (src 10) d_law_next = true := by decide +kernel
theorem chk_law_laid : chkDef prg blt fl (src 11) d_law_laid = true := by decide +kernel
theorem chk_law_table : chkDef prg blt fl (src 12) d_law_table = true := by decide +kernel
theorem chk_law_at : chkDef prg blt fl (src 13) d_law_at = true := by decide +kernel
theorem chk_law_corners : chkDef prg blt fl (src 14) d_law_corners = true := by decide +kernel
theorem chk_law_chords : chkDef prg blt fl (src 15) d_law_chords = true := by decide +kernel
theorem chk_law_on : chkDef prg blt fl (src 16) d_law_on = true := by decide +kernel
theorem chk_law_meet : chkDef prg blt fl (src 17) d_law_meet = true := by decide +kernel
theorem chk_law : chkDef prg blt fl (src 18) d_law = true := by decide +kernel
end VS.Law
end

section
set_option maxHeartbeats 4000000
namespace VS.Law
open PySem PySem.Spec PyProof.Rows L2 VS
section
variable {w : World} {K : PySem.W.Frag} {h : Heap} {mg : Str → Option Value} {fa : Addr}
theorem all_mk (X : K.In h) (G : h.Ns mainGlobals mg) (hfa : mg "law" = some (.ref fa)) {f0 f1 f2 f3 f4 f5 f6 f7 f8 f9 f10 f11 f12 f13 f14 f15 f16 f17 f18 : Addr}
    {od0 an0 : Option Addr} {sl0 : Array (Option Value)} {oc0 kV0 dc0 pm0 cd0 ct0 : Value} (a0 : PySem.W.nsIn K mainGlobals "size_of" = some (some (.ref f0))) (l0 : K.lookup f0 = some ⟨oc0, od0, .func (PySem.W.fnOf "size_of" "size_of" (defArgs (top 1)) (defBody (top 1)) (defScope (top 1)) .none kV0 dc0 pm0 an0 cd0 ct0), sl0⟩) (c0 : PySem.W.codeIn K cd0 "size_of" = true) (k0 : PySem.W.keepIn K (.ref f0) = true)
    {od1 an1 : Option Addr} {sl1 : Array (Option Value)} {oc1 kV1 dc1 pm1 cd1 ct1 : Value} (a1 : PySem.W.nsIn K mainGlobals "yes_at" = some (some (.ref f1))) (l1 : K.lookup f1 = some ⟨oc1, od1, .func (PySem.W.fnOf "yes_at" "yes_at" (defArgs (top 3)) (defBody (top 3)) (defScope (top 3)) .none kV1 dc1 pm1 an1 cd1 ct1), sl1⟩) (c1 : PySem.W.codeIn K cd1 "yes_at" = true) (k1 : PySem.W.keepIn K (.ref f1) = true)
    {od2 an2 : Option Addr} {sl2 : Array (Option Value)} {oc2 kV2 dc2 pm2 cd2 ct2 : Value} (a2 : PySem.W.nsIn K mainGlobals "around" = some (some (.ref f2))) (l2 : K.lookup f2 = some ⟨oc2, od2, .func (PySem.W.fnOf "around" "around" (defArgs (top 4)) (defBody (top 4)) (defScope (top 4)) .none kV2 dc2 pm2 an2 cd2 ct2), sl2⟩) (c2 : PySem.W.codeIn K cd2 "around" = true) (k2 : PySem.W.keepIn K (.ref f2) = true)
    {od3 an3 : Option Addr} {sl3 : Array (Option Value)} {oc3 kV3 dc3 pm3 cd3 ct3 : Value} (a3 : PySem.W.nsIn K mainGlobals "corners_of" = some (some (.ref f3))) (l3 : K.lookup f3 = some ⟨oc3, od3, .func (PySem.W.fnOf "corners_of" "corners_of" (defArgs (top 5)) (defBody (top 5)) (defScope (top 5)) .none kV3 dc3 pm3 an3 cd3 ct3), sl3⟩) (c3 : PySem.W.codeIn K cd3 "corners_of" = true) (k3 : PySem.W.keepIn K (.ref f3) = true)
    {od4 an4 : Option Addr} {sl4 : Array (Option Value)} {oc4 kV4 dc4 pm4 cd4 ct4 : Value} (a4 : PySem.W.nsIn K mainGlobals "flat_end" = some (some (.ref f4))) (l4 : K.lookup f4 = some ⟨oc4, od4, .func (PySem.W.fnOf "flat_end" "flat_end" (defArgs (top 6)) (defBody (top 6)) (defScope (top 6)) .none kV4 dc4 pm4 an4 cd4 ct4), sl4⟩) (c4 : PySem.W.codeIn K cd4 "flat_end" = true) (k4 : PySem.W.keepIn K (.ref f4) = true)
    {od5 an5 : Option Addr} {sl5 : Array (Option Value)} {oc5 kV5 dc5 pm5 cd5 ct5 : Value} (a5 : PySem.W.nsIn K mainGlobals "upright_end" = some (some (.ref f5))) (l5 : K.lookup f5 = some ⟨oc5, od5, .func (PySem.W.fnOf "upright_end" "upright_end" (defArgs (top 7)) (defBody (top 7)) (defScope (top 7)) .none kV5 dc5 pm5 an5 cd5 ct5), sl5⟩) (c5 : PySem.W.codeIn K cd5 "upright_end" = true) (k5 : PySem.W.keepIn K (.ref f5) = true)
    {od6 an6 : Option Addr} {sl6 : Array (Option Value)} {oc6 kV6 dc6 pm6 cd6 ct6 : Value} (a6 : PySem.W.nsIn K mainGlobals "chords_of" = some (some (.ref f6))) (l6 : K.lookup f6 = some ⟨oc6, od6, .func (PySem.W.fnOf "chords_of" "chords_of" (defArgs (top 8)) (defBody (top 8)) (defScope (top 8)) .none kV6 dc6 pm6 an6 cd6 ct6), sl6⟩) (c6 : PySem.W.codeIn K cd6 "chords_of" = true) (k6 : PySem.W.keepIn K (.ref f6) = true)
    {od7 an7 : Option Addr} {sl7 : Array (Option Value)} {oc7 kV7 dc7 pm7 cd7 ct7 : Value} (a7 : PySem.W.nsIn K mainGlobals "is_flat" = some (some (.ref f7))) (l7 : K.lookup f7 = some ⟨oc7, od7, .func (PySem.W.fnOf "is_flat" "is_flat" (defArgs (top 9)) (defBody (top 9)) (defScope (top 9)) .none kV7 dc7 pm7 an7 cd7 ct7), sl7⟩) (c7 : PySem.W.codeIn K cd7 "is_flat" = true) (k7 : PySem.W.keepIn K (.ref f7) = true)
    {od8 an8 : Option Addr} {sl8 : Array (Option Value)} {oc8 kV8 dc8 pm8 cd8 ct8 : Value} (a8 : PySem.W.nsIn K mainGlobals "chords_meet" = some (some (.ref f8))) (l8 : K.lookup f8 = some ⟨oc8, od8, .func (PySem.W.fnOf "chords_meet" "chords_meet" (defArgs (top 10)) (defBody (top 10)) (defScope (top 10)) .none kV8 dc8 pm8 an8 cd8 ct8), sl8⟩) (c8 : PySem.W.codeIn K cd8 "chords_meet" = true) (k8 : PySem.W.keepIn K (.ref f8) = true)
    {od9 an9 : Option Addr} {sl9 : Array (Option Value)} {oc9 kV9 dc9 pm9 cd9 ct9 : Value} (a9 : PySem.W.nsIn K mainGlobals "_law_pool" = some (some (.ref f9))) (l9 : K.lookup f9 = some ⟨oc9, od9, .func (PySem.W.fnOf "_law_pool" "_law_pool" (defArgs (top 12)) (defBody (top 12)) (defScope (top 12)) .none kV9 dc9 pm9 an9 cd9 ct9), sl9⟩) (c9 : PySem.W.codeIn K cd9 "_law_pool" = true) (k9 : PySem.W.keepIn K (.ref f9) = true)
    {od10 an10 : Option Addr} {sl10 : Array (Option Value)} {oc10 kV10 dc10 pm10 cd10 ct10 : Value} (a10 : PySem.W.nsIn K mainGlobals "_law_next" = some (some (.ref f10))) (l10 : K.lookup f10 = some ⟨oc10, od10, .func (PySem.W.fnOf "_law_next" "_law_next" (defArgs (top 13)) (defBody (top 13)) (defScope (top 13)) .none kV10 dc10 pm10 an10 cd10 ct10), sl10⟩) (c10 : PySem.W.codeIn K cd10 "_law_next" = true) (k10 : PySem.W.keepIn K (.ref f10) = true)
    {od11 an11 : Option Addr} {sl11 : Array (Option Value)} {oc11 kV11 dc11 pm11 cd11 ct11 : Value} (a11 : PySem.W.nsIn K mainGlobals "_law_laid" = some (some (.ref f11))) (l11 : K.lookup f11 = some ⟨oc11, od11, .func (PySem.W.fnOf "_law_laid" "_law_laid" (defArgs (top 14)) (defBody (top 14)) (defScope (top 14)) .none kV11 dc11 pm11 an11 cd11 ct11), sl11⟩) (c11 : PySem.W.codeIn K cd11 "_law_laid" = true) (k11 : PySem.W.keepIn K (.ref f11) = true)
    {od12 an12 : Option Addr} {sl12 : Array (Option Value)} {oc12 kV12 dc12 pm12 cd12 ct12 : Value} (a12 : PySem.W.nsIn K mainGlobals "_law_table" = some (some (.ref f12))) (l12 : K.lookup f12 = some ⟨oc12, od12, .func (PySem.W.fnOf "_law_table" "_law_table" (defArgs (top 15)) (defBody (top 15)) (defScope (top 15)) .none kV12 dc12 pm12 an12 cd12 ct12), sl12⟩) (c12 : PySem.W.codeIn K cd12 "_law_table" = true) (k12 : PySem.W.keepIn K (.ref f12) = true)
    {od13 an13 : Option Addr} {sl13 : Array (Option Value)} {oc13 kV13 dc13 pm13 cd13 ct13 : Value} (a13 : PySem.W.nsIn K mainGlobals "_law_at" = some (some (.ref f13))) (l13 : K.lookup f13 = some ⟨oc13, od13, .func (PySem.W.fnOf "_law_at" "_law_at" (defArgs (top 16)) (defBody (top 16)) (defScope (top 16)) .none kV13 dc13 pm13 an13 cd13 ct13), sl13⟩) (c13 : PySem.W.codeIn K cd13 "_law_at" = true) (k13 : PySem.W.keepIn K (.ref f13) = true)
    {od14 an14 : Option Addr} {sl14 : Array (Option Value)} {oc14 kV14 dc14 pm14 cd14 ct14 : Value} (a14 : PySem.W.nsIn K mainGlobals "_law_corners" = some (some (.ref f14))) (l14 : K.lookup f14 = some ⟨oc14, od14, .func (PySem.W.fnOf "_law_corners" "_law_corners" (defArgs (top 17)) (defBody (top 17)) (defScope (top 17)) .none kV14 dc14 pm14 an14 cd14 ct14), sl14⟩) (c14 : PySem.W.codeIn K cd14 "_law_corners" = true) (k14 : PySem.W.keepIn K (.ref f14) = true)
    {od15 an15 : Option Addr} {sl15 : Array (Option Value)} {oc15 kV15 dc15 pm15 cd15 ct15 : Value} (a15 : PySem.W.nsIn K mainGlobals "_law_chords" = some (some (.ref f15))) (l15 : K.lookup f15 = some ⟨oc15, od15, .func (PySem.W.fnOf "_law_chords" "_law_chords" (defArgs (top 18)) (defBody (top 18)) (defScope (top 18)) .none kV15 dc15 pm15 an15 cd15 ct15), sl15⟩) (c15 : PySem.W.codeIn K cd15 "_law_chords" = true) (k15 : PySem.W.keepIn K (.ref f15) = true)
    {od16 an16 : Option Addr} {sl16 : Array (Option Value)} {oc16 kV16 dc16 pm16 cd16 ct16 : Value} (a16 : PySem.W.nsIn K mainGlobals "_law_on" = some (some (.ref f16))) (l16 : K.lookup f16 = some ⟨oc16, od16, .func (PySem.W.fnOf "_law_on" "_law_on" (defArgs (top 19)) (defBody (top 19)) (defScope (top 19)) .none kV16 dc16 pm16 an16 cd16 ct16), sl16⟩) (c16 : PySem.W.codeIn K cd16 "_law_on" = true) (k16 : PySem.W.keepIn K (.ref f16) = true)
    {od17 an17 : Option Addr} {sl17 : Array (Option Value)} {oc17 kV17 dc17 pm17 cd17 ct17 : Value} (a17 : PySem.W.nsIn K mainGlobals "_law_meet" = some (some (.ref f17))) (l17 : K.lookup f17 = some ⟨oc17, od17, .func (PySem.W.fnOf "_law_meet" "_law_meet" (defArgs (top 20)) (defBody (top 20)) (defScope (top 20)) .none kV17 dc17 pm17 an17 cd17 ct17), sl17⟩) (c17 : PySem.W.codeIn K cd17 "_law_meet" = true) (k17 : PySem.W.keepIn K (.ref f17) = true)
    {od18 an18 : Option Addr} {sl18 : Array (Option Value)} {oc18 kV18 dc18 pm18 cd18 ct18 : Value} (a18 : PySem.W.nsIn K mainGlobals "law" = some (some (.ref f18))) (l18 : K.lookup f18 = some ⟨oc18, od18, .func (PySem.W.fnOf "law" "law" (defArgs (top 21)) (defBody (top 21)) (defScope (top 21)) .none kV18 dc18 pm18 an18 cd18 ct18), sl18⟩) (c18 : PySem.W.codeIn K cd18 "law" = true) (k18 : PySem.W.keepIn K (.ref f18) = true)
    (z0 : PySem.W.nsIn K mainGlobals "any" = some none) (z1 : PySem.W.nsIn K mainGlobals "bool" = some none) (z2 : PySem.W.nsIn K mainGlobals "int" = some none) (z3 : PySem.W.nsIn K mainGlobals "isinstance" = some none) (z4 : PySem.W.nsIn K mainGlobals "len" = some none) (z5 : PySem.W.nsIn K mainGlobals "list" = some none) (z6 : PySem.W.nsIn K mainGlobals "max" = some none) (z7 : PySem.W.nsIn K mainGlobals "min" = some none) (z8 : PySem.W.nsIn K mainGlobals "range" = some none) (z9 : PySem.W.nsIn K mainGlobals "sorted" = some none) (z10 : PySem.W.nsIn K mainGlobals "sum" = some none) (z11 : PySem.W.nsIn K mainGlobals "tuple" = some none)  :
    ∃ fd : FuncData, (∀ (s : Shared) (v : Value), BindsTo s fd ⟨[v], []⟩ [("script", v)]) ∧ ∀ base : Heap, K.In base → base.Ns mainGlobals mg → FnOk PySem.Challenge.rw_fullpanes_k35_chords_told.prog w K mg base (L2.CX PySem.Challenge.rw_fullpanes_k35_chords_told.prog w) 12 fa fd ["script"] (spLaw K) := by
  have e := hfa.symm.trans (PySem.W.mg_of X G a18)
  cases e
  have F0 := fun_mk (st := top 1) l0 c0 k0
  have B0 := F0.binds (ps := ["table"]) fun _ _ _ _ _ _ us hl => match us, hl with | [_], _ => rfl
  have F1 := fun_mk (st := top 3) l1 c1 k1
  have B1 := F1.binds (ps := ["table", "r", "c"]) fun _ _ _ _ _ _ us hl => match us, hl with | [_, _, _], _ => rfl
  have F2 := fun_mk (st := top 4) l2 c2 k2
  have B2 := F2.binds (ps := ["table", "r", "c"]) fun _ _ _ _ _ _ us hl => match us, hl with | [_, _, _], _ => rfl
  have F3 := fun_mk (st := top 5) l3 c3 k3
  have B3 := F3.binds (ps := ["table"]) fun _ _ _ _ _ _ us hl => match us, hl with | [_], _ => rfl
  have F4 := fun_mk (st := top 6) l4 c4 k4
  have B4 := F4.binds (ps := ["table", "r", "c"]) fun _ _ _ _ _ _ us hl => match us, hl with | [_, _, _], _ => rfl
  have F5 := fun_mk (st := top 7) l5 c5 k5
  have B5 := F5.binds (ps := ["table", "r", "c"]) fun _ _ _ _ _ _ us hl => match us, hl with | [_, _, _], _ => rfl
  have F6 := fun_mk (st := top 8) l6 c6 k6
  have B6 := F6.binds (ps := ["table"]) fun _ _ _ _ _ _ us hl => match us, hl with | [_], _ => rfl
  have F7 := fun_mk (st := top 9) l7 c7 k7
  have B7 := F7.binds (ps := ["chord"]) fun _ _ _ _ _ _ us hl => match us, hl with | [_], _ => rfl
  have F8 := fun_mk (st := top 10) l8 c8 k8
  have B8 := F8.binds (ps := ["one", "other"]) fun _ _ _ _ _ _ us hl => match us, hl with | [_, _], _ => rfl
  have F9 := fun_mk (st := top 12) l9 c9 k9
  have B9 := F9.binds (ps := ["cell"]) fun _ _ _ _ _ _ us hl => match us, hl with | [_], _ => rfl
  have F10 := fun_mk (st := top 13) l10 c10 k10
  have B10 := F10.binds (ps := ["pool", "base"]) fun _ _ _ _ _ _ us hl => match us, hl with | [_, _], _ => rfl
  have F11 := fun_mk (st := top 14) l11 c11 k11
  have B11 := F11.binds (ps := ["pool", "rows", "columns", "worth"]) fun _ _ _ _ _ _ us hl => match us, hl with | [_, _, _, _], _ => rfl
  have F12 := fun_mk (st := top 15) l12 c12 k12
  have B12 := F12.binds (ps := ["pool"]) fun _ _ _ _ _ _ us hl => match us, hl with | [_], _ => rfl
  have F13 := fun_mk (st := top 16) l13 c13 k13
  have B13 := F13.binds (ps := ["table", "r", "c"]) fun _ _ _ _ _ _ us hl => match us, hl with | [_, _, _], _ => rfl
  have F14 := fun_mk (st := top 17) l14 c14 k14
  have B14 := F14.binds (ps := ["table"]) fun _ _ _ _ _ _ us hl => match us, hl with | [_], _ => rfl
  have F15 := fun_mk (st := top 18) l15 c15 k15
  have B15 := F15.binds (ps := ["table"]) fun _ _ _ _ _ _ us hl => match us, hl with | [_], _ => rfl
  have F16 := fun_mk (st := top 19) l16 c16 k16
  have B16 := F16.binds (ps := ["chord"]) fun _ _ _ _ _ _ us hl => match us, hl with | [_], _ => rfl
  have F17 := fun_mk (st := top 20) l17 c17 k17
  have B17 := F17.binds (ps := ["one", "other"]) fun _ _ _ _ _ _ us hl => match us, hl with | [_, _], _ => rfl
  have F18 := fun_mk (st := top 21) l18 c18 k18
  have B18 := F18.binds (ps := ["script"]) fun _ _ _ _ _ _ us hl => match us, hl with | [_], _ => rfl
  let ad : Nat → Addr := fun n => match n with | 0 => f0 | 1 => f1 | 2 => f2 | 3 => f3 | 4 => f4 | 5 => f5 | 6 => f6 | 7 => f7 | 8 => f8 | 9 => f9 | 10 => f10 | 11 => f11 | 12 => f12 | 13 => f13 | 14 => f14 | 15 => f15 | 16 => f16 | 17 => f17 | 18 => fa | _ => 0
  let fdOf : Nat → FuncData := fun n => match n with | 0 => PySem.W.fnOf "size_of" "size_of" (defArgs (top 1)) (defBody (top 1)) (defScope (top 1)) .none kV0 dc0 pm0 an0 cd0 ct0 | 1 => PySem.W.fnOf "yes_at" "yes_at" (defArgs (top 3)) (defBody (top 3)) (defScope (top 3)) .none kV1 dc1 pm1 an1 cd1 ct1 | 2 => PySem.W.fnOf "around" "around" (defArgs (top 4)) (defBody (top 4)) (defScope (top 4)) .none kV2 dc2 pm2 an2 cd2 ct2 | 3 => PySem.W.fnOf "corners_of" "corners_of" (defArgs (top 5)) (defBody (top 5)) (defScope (top 5)) .none kV3 dc3 pm3 an3 cd3 ct3 | 4 => PySem.W.fnOf "flat_end" "flat_end" (defArgs (top 6)) (defBody (top 6)) (defScope (top 6)) .none kV4 dc4 pm4 an4 cd4 ct4 | 5 => PySem.W.fnOf "upright_end" "upright_end" (defArgs (top 7)) (defBody (top 7)) (defScope (top 7)) .none kV5 dc5 pm5 an5 cd5 ct5 | 6 => PySem.W.fnOf "chords_of" "chords_of" (defArgs (top 8)) (defBody (top 8)) (defScope (top 8)) .none kV6 dc6 pm6 an6 cd6 ct6 | 7 => PySem.W.fnOf "is_flat" "is_flat" (defArgs (top 9)) (defBody (top 9)) (defScope (top 9)) .none kV7 dc7 pm7 an7 cd7 ct7 | 8 => PySem.W.fnOf "chords_meet" "chords_meet" (defArgs (top 10)) (defBody (top 10)) (defScope (top 10)) .none kV8 dc8 pm8 an8 cd8 ct8 | 9 => PySem.W.fnOf "_law_pool" "_law_pool" (defArgs (top 12)) (defBody (top 12)) (defScope (top 12)) .none kV9 dc9 pm9 an9 cd9 ct9 | 10 => PySem.W.fnOf "_law_next" "_law_next" (defArgs (top 13)) (defBody (top 13)) (defScope (top 13)) .none kV10 dc10 pm10 an10 cd10 ct10 | 11 => PySem.W.fnOf "_law_laid" "_law_laid" (defArgs (top 14)) (defBody (top 14)) (defScope (top 14)) .none kV11 dc11 pm11 an11 cd11 ct11 | 12 => PySem.W.fnOf "_law_table" "_law_table" (defArgs (top 15)) (defBody (top 15)) (defScope (top 15)) .none kV12 dc12 pm12 an12 cd12 ct12 | 13 => PySem.W.fnOf "_law_at" "_law_at" (defArgs (top 16)) (defBody (top 16)) (defScope (top 16)) .none kV13 dc13 pm13 an13 cd13 ct13 | 14 => PySem.W.fnOf "_law_corners" "_law_corners" (defArgs (top 17)) (defBody (top 17)) (defScope (top 17)) .none kV14 dc14 pm14 an14 cd14 ct14 | 15 => PySem.W.fnOf "_law_chords" "_law_chords" (defArgs (top 18)) (defBody (top 18)) (defScope (top 18)) .none kV15 dc15 pm15 an15 cd15 ct15 | 16 => PySem.W.fnOf "_law_on" "_law_on" (defArgs (top 19)) (defBody (top 19)) (defScope (top 19)) .none kV16 dc16 pm16 an16 cd16 ct16 | 17 => PySem.W.fnOf "_law_meet" "_law_meet" (defArgs (top 20)) (defBody (top 20)) (defScope (top 20)) .none kV17 dc17 pm17 an17 cd17 ct17 | 18 => PySem.W.fnOf "law" "law" (defArgs (top 21)) (defBody (top 21)) (defScope (top 21)) .none kV18 dc18 pm18 an18 cd18 ct18 | _ => PySem.W.fnOf "size_of" "size_of" (defArgs (top 1)) (defBody (top 1)) (defScope (top 1)) .none kV0 dc0 pm0 an0 cd0 ct0
  have T : PrgOk prg ⟨K, ad, fl⟩ mg blt src fdOf := by
    refine ⟨fun f d hf => ?_, fun f d hf => ?_, fun n x d hn => ?_, fun x hx => ?_⟩
    · match f, hf with
      | 0, hf => cases hf; exact chk_size_of
      | 1, hf => cases hf; exact chk_yes_at
      | 2, hf => cases hf; exact chk_around
      | 3, hf => cases hf; exact chk_corners_of
      | 4, hf => cases hf; exact chk_flat_end
      | 5, hf => cases hf; exact chk_upright_end
      | 6, hf => cases hf; exact chk_chords_of
      | 7, hf => cases hf; exact chk_is_flat
      | 8, hf => cases hf; exact chk_chords_meet
      | 9, hf => cases hf; exact chk_law_pool
      | 10, hf => cases hf; exact chk_law_next
      | 11, hf => cases hf; exact chk_law_laid
      | 12, hf => cases hf; exact chk_law_table
      | 13, hf => cases hf; exact chk_law_at
      | 14, hf => cases hf; exact chk_law_corners
      | 15, hf => cases hf; exact chk_law_chords
      | 16, hf => cases hf; exact chk_law_on
      | 17, hf => cases hf; exact chk_law_meet
      | 18, hf => cases hf; exact chk_law
    · match f, hf with
      | 0, hf => cases hf; exact ⟨F0, PySem.W.mg_of X G a0, B0⟩
      | 1, hf => cases hf; exact ⟨F1, PySem.W.mg_of X G a1, B1⟩
      | 2, hf => cases hf; exact ⟨F2, PySem.W.mg_of X G a2, B2⟩
      | 3, hf => cases hf; exact ⟨F3, PySem.W.mg_of X G a3, B3⟩
      | 4, hf => cases hf; exact ⟨F4, PySem.W.mg_of X G a4, B4⟩
      | 5, hf => cases hf; exact ⟨F5, PySem.W.mg_of X G a5, B5⟩
      | 6, hf => cases hf; exact ⟨F6, PySem.W.mg_of X G a6, B6⟩
      | 7, hf => cases hf; exact ⟨F7, PySem.W.mg_of X G a7, B7⟩
      | 8, hf => cases hf; exact ⟨F8, PySem.W.mg_of X G a8, B8⟩
      | 9, hf => cases hf; exact ⟨F9, PySem.W.mg_of X G a9, B9⟩
      | 10, hf => cases hf; exact ⟨F10, PySem.W.mg_of X G a10, B10⟩
      | 11, hf => cases hf; exact ⟨F11, PySem.W.mg_of X G a11, B11⟩
      | 12, hf => cases hf; exact ⟨F12, PySem.W.mg_of X G a12, B12⟩
      | 13, hf => cases hf; exact ⟨F13, PySem.W.mg_of X G a13, B13⟩
      | 14, hf => cases hf; exact ⟨F14, PySem.W.mg_of X G a14, B14⟩
      | 15, hf => cases hf; exact ⟨F15, PySem.W.mg_of X G a15, B15⟩
      | 16, hf => cases hf; exact ⟨F16, PySem.W.mg_of X G a16, B16⟩
      | 17, hf => cases hf; exact ⟨F17, PySem.W.mg_of X G a17, B17⟩
      | 18, hf => cases hf; exact ⟨F18, PySem.W.mg_of X G a18, B18⟩
    · cases hn
    · simp only [blt, List.mem_cons, List.not_mem_nil, or_false] at hx
      rcases hx with rfl | rfl | rfl | rfl | rfl | rfl | rfl | rfl | rfl | rfl | rfl | rfl
      · exact PySem.W.mg_none_of X G z0
      · exact PySem.W.mg_none_of X G z1
      · exact PySem.W.mg_none_of X G z2
      · exact PySem.W.mg_none_of X G z3
      · exact PySem.W.mg_none_of X G z4
      · exact PySem.W.mg_none_of X G z5
      · exact PySem.W.mg_none_of X G z6
      · exact PySem.W.mg_none_of X G z7
      · exact PySem.W.mg_none_of X G z8
      · exact PySem.W.mg_none_of X G z9
      · exact PySem.W.mg_none_of X G z10
      · exact PySem.W.mg_none_of X G z11
  refine ⟨PySem.W.fnOf "law" "law" (defArgs (top 21)) (defBody (top 21)) (defScope (top 21)) .none kV18 dc18 pm18 an18 cd18 ct18, fun s v => .of_eq rfl, fun base _ _ => ?_⟩
  exact (defs_ok (k := ⟨K, ad, fl⟩) (P := prg) T 12 18 d_law rfl).imp fun vs H Q E q => law_sp (k := ⟨K, ad, fl⟩) law_true vs H Q E q
end
end VS.Law
open PySem PySem.W PyProof.Rows
set_option maxRecDepth 100000 in
set_option maxHeartbeats 0 in
theorem PySem.Challenge.cw_fullpanes_k35_chords_told_holds : PySem.Challenge.rw_fullpanes_k35_chords_told.Holds := by
  w_on; o_law; k_head; (case hw => w_witness2)
  k_fill
  refine VS.law_walk (LV := 12) (x := "script") (l := PySem.Challenge.rw_fullpanes_k35_chords_told) ⟨rfl, by decide, by decide⟩ rfl rfl (fun w h Y => PySem.W.kIn_of Y) ?F
  case F =>
    intro w mg fa h KX G hmg
    refine' VS.Law.all_mk KX G hmg ?a0 ?l0 ?c0 ?k0 ?a1 ?l1 ?c1 ?k1 ?a2 ?l2 ?c2 ?k2 ?a3 ?l3 ?c3 ?k3 ?a4 ?l4 ?c4 ?k4 ?a5 ?l5 ?c5 ?k5 ?a6 ?l6 ?c6 ?k6 ?a7 ?l7 ?c7 ?k7 ?a8 ?l8 ?c8 ?k8 ?a9 ?l9 ?c9 ?k9 ?a10 ?l10 ?c10 ?k10 ?a11 ?l11 ?c11 ?k11 ?a12 ?l12 ?c12 ?k12 ?a13 ?l13 ?c13 ?k13 ?a14 ?l14 ?c14 ?k14 ?a15 ?l15 ?c15 ?k15 ?a16 ?l16 ?c16 ?k16 ?a17 ?l17 ?c17 ?k17 ?a18 ?l18 ?c18 ?k18 ?z0 ?z1 ?z2 ?z3 ?z4 ?z5 ?z6 ?z7 ?z8 ?z9 ?z10 ?z11
    (case a0 => k_is)
    (case l0 => k_is)
    (case c0 => k_is)
    (case k0 => k_is)
    (case a1 => k_is)
    (case l1 => k_is)
    (case c1 => k_is)
    (case k1 => k_is)
    (case a2 => k_is)
    (case l2 => k_is)
    (case c2 => k_is)
    (case k2 => k_is)
    (case a3 => k_is)
    (case l3 => k_is)
    (case c3 => k_is)
    (case k3 => k_is)
    (case a4 => k_is)
    (case l4 => k_is)
    (case c4 => k_is)
    (case k4 => k_is)
    (case a5 => k_is)
    (case l5 => k_is)
    (case c5 => k_is)
    (case k5 => k_is)
    (case a6 => k_is)
    (case l6 => k_is)
    (case c6 => k_is)
    (case k6 => k_is)
    (case a7 => k_is)
    (case l7 => k_is)
    (case c7 => k_is)
    (case k7 => k_is)
    (case a8 => k_is)
    (case l8 => k_is)
    (case c8 => k_is)
    (case k8 => k_is)
    (case a9 => k_is)
    (case l9 => k_is)
    (case c9 => k_is)
    (case k9 => k_is)
    (case a10 => k_is)
    (case l10 => k_is)
    (case c10 => k_is)
    (case k10 => k_is)
    (case a11 => k_is)
    (case l11 => k_is)
    (case c11 => k_is)
    (case k11 => k_is)
    (case a12 => k_is)
    (case l12 => k_is)
    (case c12 => k_is)
    (case k12 => k_is)
    (case a13 => k_is)
    (case l13 => k_is)
    (case c13 => k_is)
    (case k13 => k_is)
    (case a14 => k_is)
    (case l14 => k_is)
    (case c14 => k_is)
    (case k14 => k_is)
    (case a15 => k_is)
    (case l15 => k_is)
    (case c15 => k_is)
    (case k15 => k_is)
    (case a16 => k_is)
    (case l16 => k_is)
    (case c16 => k_is)
    (case k16 => k_is)
    (case a17 => k_is)
    (case l17 => k_is)
    (case c17 => k_is)
    (case k17 => k_is)
    (case a18 => k_is)
    (case l18 => k_is)
    (case c18 => k_is)
    (case k18 => k_is)
    (case z0 => k_is)
    (case z1 => k_is)
    (case z2 => k_is)
    (case z3 => k_is)
    (case z4 => k_is)
    (case z5 => k_is)
    (case z6 => k_is)
    (case z7 => k_is)
    (case z8 => k_is)
    (case z9 => k_is)
    (case z10 => k_is)
    (case z11 => k_is)
end
