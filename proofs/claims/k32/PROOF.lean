import PyProof.Rows.All
import Wide.All
import OpenK.AllK
import Wide.FinOn
import HandS.ForMost
import HandS.IsInst
import HandS.Wide
import HandS.Defaults
import HandS.TupAny
import HandS.Zip
import HandS.Walk
import HandS.ForExc
import HandS.Evl
import KE.GoesMore
import KE.GoesEnum
import HandS.TupSets
import HandS.Style
import HandS.MakeKwOnly
import HandS.Head0
import HandS.Head1
import HandS.Head2
import HandS.HeadEnd
import HandS.HeadHook1
import HandS.HeadHook2
import PySem.Challenge.RW_lostplaces_k32_whole_data_in_every_rest
set_option Elab.async false
set_option linter.all false
set_option maxRecDepth 100000
set_option maxHeartbeats 0
/-! ## T9: typed readings. W: what a piece of the program is worth, without the heap. -/
namespace T9
open L2 PyProof.Rows PySem.Spec PySem

/-! ### errors, Wt -/
structure Er where
  cls : Str
  fields : List (Str × V)

structure Wt (α : Type) where
  run : (Er → Prop) → (α → Prop) → Prop
  mono : ∀ {E E' : Er → Prop} {Q Q' : α → Prop}, (∀ e, E e → E' e) → (∀ a, Q a → Q' a) → run E Q → run E' Q'

namespace Wt
variable {α β γ : Type}
def pure (a : α) : Wt α := ⟨fun _ Q => Q a, fun _ h q => h a q⟩
def bind (m : Wt α) (k : α → Wt β) : Wt β := ⟨fun E Q => m.run E fun a => (k a).run E Q, fun he h q => m.mono he (fun a => (k a).mono he h) q⟩
/-- what must hold -/
def req (p : Prop) (m : Wt α) : Wt α := ⟨fun E Q => p ∧ m.run E Q, fun he h q => ⟨q.1, m.mono he h q.2⟩⟩
def opt (o : Option α) : Wt α := ⟨fun _ Q => ∃ a, o = some a ∧ Q a, fun _ h ⟨a, e, q⟩ => ⟨a, e, h a q⟩⟩
def raise (e : Er) : Wt α := ⟨fun E _ => E e, fun he _ q => he e q⟩
/-- any value with the property -/
def any (p : α → Prop) : Wt α := ⟨fun _ Q => ∀ a, p a → Q a, fun _ h q a ha => h a (q a ha)⟩
def ite (b : Bool) (m n : Wt α) : Wt α := ⟨fun E Q => if b = true then m.run E Q else n.run E Q, fun he h q => by
  cases b
  · exact n.mono he h q
  · exact m.mono he h q⟩
def never : Wt α := ⟨fun _ _ => False, fun _ _ q => q.elim⟩
theorem run_pure {a : α} {E : Er → Prop} {Q : α → Prop} : (pure a).run E Q = Q a := rfl
theorem run_bind {m : Wt α} {k : α → Wt β} {E : Er → Prop} {Q : β → Prop} : (bind m k).run E Q = m.run E fun a => (k a).run E Q := rfl
theorem run_req {p : Prop} {m : Wt α} {E : Er → Prop} {Q : α → Prop} : (req p m).run E Q = (p ∧ m.run E Q) := rfl
theorem run_opt {o : Option α} {E : Er → Prop} {Q : α → Prop} : (opt o).run E Q = ∃ a, o = some a ∧ Q a := rfl
theorem run_ite {b : Bool} {m n : Wt α} {E : Er → Prop} {Q : α → Prop} : (ite b m n).run E Q = if b = true then m.run E Q else n.run E Q := rfl
theorem run_raise {e : Er} {E : Er → Prop} {Q : α → Prop} : (raise e : Wt α).run E Q = E e := rfl
theorem run_any {p : α → Prop} {E : Er → Prop} {Q : α → Prop} : (any p).run E Q = ∀ a, p a → Q a := rfl
end Wt

/-- how a block ends -/
inductive Oc (ρ β γ : Type) where
  | ret (r : ρ) | nxt (s : β) | brk (s : γ) | cnt (s : γ)

/-! ### types -/
abbrev Ex := Evl.Ex

structure Ty (K : PySem.W.Frag) (α : Type) where
  rel : α → V → Hp → Prop
  mono : ∀ {x : α} {v : V} {H H' : Hp}, Ex H H' → rel x v H → rel x v H'
structure Mty (K : PySem.W.Frag) (α : Type) where
  rel : α → HO → Hp → Prop
  mono : ∀ {x : α} {o : HO} {H H' : Hp}, Ex H H' → rel x o H → rel x o H'

section
variable {K : PySem.W.Frag} {α β γ : Type}
/-- item by item -/
def All2 (R : α → V → Hp → Prop) : List α → List V → Hp → Prop
  | [], [], _ => True
  | x :: xs, v :: vs, H => R x v H ∧ All2 R xs vs H
  | _, _, _ => False
theorem All2.mono {R : α → V → Hp → Prop} {H H' : Hp} (h : ∀ x v, R x v H → R x v H') : ∀ {xs : List α} {vs : List V}, All2 R xs vs H → All2 R xs vs H'
  | [], [], _ => True.intro
  | x :: xs, v :: vs, q => ⟨h x v q.1, All2.mono h q.2⟩
  | [], _ :: _, q => q.elim
  | _ :: _, [], q => q.elim
theorem All2.length {R : α → V → Hp → Prop} {H : Hp} : ∀ {xs : List α} {vs : List V}, All2 R xs vs H → vs.length = xs.length
  | [], [], _ => rfl
  | x :: xs, v :: vs, q => by rw [List.length_cons, List.length_cons, All2.length q.2]
  | [], _ :: _, q => q.elim
  | _ :: _, [], q => q.elim
theorem All2.get {R : α → V → Hp → Prop} {H : Hp} : ∀ {xs : List α} {vs : List V} {i : Nat} {x : α}, All2 R xs vs H → xs[i]? = some x → ∃ v, vs[i]? = some v ∧ R x v H
  | x :: xs, v :: vs, 0, y, q, e => by
    have e' : x = y := Option.some.inj e
    subst e'
    exact ⟨v, rfl, q.1⟩
  | x :: xs, v :: vs, i + 1, y, q, e => All2.get (i := i) q.2 e
  | [], [], _, _, _, e => by cases e
  | [], _ :: _, _, _, q, _ => q.elim
  | _ :: _, [], _, _, q, _ => q.elim
theorem All2.getV {R : α → V → Hp → Prop} {H : Hp} : ∀ {xs : List α} {vs : List V} {i : Nat} {v : V}, All2 R xs vs H → vs[i]? = some v → ∃ x, xs[i]? = some x ∧ R x v H
  | x :: xs, v :: vs, 0, y, q, e => by
    have e' : v = y := Option.some.inj e
    subst e'
    exact ⟨x, rfl, q.1⟩
  | x :: xs, v :: vs, i + 1, y, q, e => All2.getV (i := i) q.2 e
  | [], [], _, _, _, e => by cases e
  | [], _ :: _, _, _, q, _ => q.elim
  | _ :: _, [], _, _, q, _ => q.elim
theorem All2.append {R : α → V → Hp → Prop} {H : Hp} : ∀ {xs ys : List α} {vs ws : List V}, All2 R xs vs H → All2 R ys ws H → All2 R (xs ++ ys) (vs ++ ws) H
  | [], _, [], _, _, r => r
  | x :: xs, _, v :: vs, _, q, r => ⟨q.1, All2.append q.2 r⟩
  | [], _, _ :: _, _, q, _ => q.elim
  | _ :: _, _, [], _, q, _ => q.elim
theorem All2.take {R : α → V → Hp → Prop} {H : Hp} : ∀ (n : Nat) {xs : List α} {vs : List V}, All2 R xs vs H → All2 R (xs.take n) (vs.take n) H
  | 0, _, _, _ => True.intro
  | n + 1, [], [], _ => True.intro
  | n + 1, x :: xs, v :: vs, q => ⟨q.1, All2.take n q.2⟩
  | _ + 1, [], _ :: _, q => q.elim
  | _ + 1, _ :: _, [], q => q.elim
theorem All2.drop {R : α → V → Hp → Prop} {H : Hp} : ∀ (n : Nat) {xs : List α} {vs : List V}, All2 R xs vs H → All2 R (xs.drop n) (vs.drop n) H
  | 0, _, _, q => q
  | n + 1, [], [], _ => True.intro
  | n + 1, x :: xs, v :: vs, q => All2.drop n q.2
  | _ + 1, [], _ :: _, q => q.elim
  | _ + 1, _ :: _, [], q => q.elim
theorem All2.set {R : α → V → Hp → Prop} {H : Hp} {y : α} {w : V} (r : R y w H) : ∀ (n : Nat) {xs : List α} {vs : List V}, All2 R xs vs H → All2 R (xs.set n y) (vs.set n w) H
  | _, [], [], _ => True.intro
  | 0, x :: xs, v :: vs, q => ⟨r, q.2⟩
  | n + 1, x :: xs, v :: vs, q => ⟨q.1, All2.set r n q.2⟩
  | _, [], _ :: _, q => q.elim
  | _, _ :: _, [], q => q.elim
theorem All2.reverse {R : α → V → Hp → Prop} {H : Hp} : ∀ {xs : List α} {vs : List V}, All2 R xs vs H → All2 R xs.reverse vs.reverse H
  | [], [], _ => True.intro
  | x :: xs, v :: vs, q => by
    rw [List.reverse_cons, List.reverse_cons]
    exact All2.append (All2.reverse q.2) ⟨q.1, True.intro⟩
  | [], _ :: _, q => q.elim
  | _ :: _, [], q => q.elim
theorem All2.of_map {R : α → V → Hp → Prop} {H : Hp} {f : β → α} {g : β → V} (h : ∀ b, R (f b) (g b) H) : ∀ l : List β, All2 R (l.map f) (l.map g) H
  | [] => True.intro
  | b :: l => ⟨h b, All2.of_map h l⟩

/-- Ty's -/
def yI : Ty K Int := ⟨fun n v _ => v = .int n, fun _ h => h⟩
def yB : Ty K Bool := ⟨fun b v _ => v = .bl b, fun _ h => h⟩
def yN : Ty K Unit := ⟨fun _ v _ => v = .non, fun _ h => h⟩
def yS : Ty K Str := ⟨fun s v _ => v = .str s, fun _ h => h⟩
/-- any value -/
def yAny : Ty K Unit := ⟨fun _ _ _ => True, fun _ h => h⟩
def yT (t : Ty K α) : Ty K (List α) := ⟨fun xs v H => ∃ a vs, v = .ref a ∧ H a = some (.tup vs) ∧ All2 t.rel xs vs H,
  fun e ⟨a, vs, h1, h2, h3⟩ => ⟨a, vs, h1, e a _ h2, h3.mono fun _ _ => t.mono e⟩⟩
def yL (t : Ty K α) : Ty K (List α) := ⟨fun xs v H => ∃ a vs, v = .ref a ∧ H a = some (.lst vs) ∧ All2 t.rel xs vs H,
  fun e ⟨a, vs, h1, h2, h3⟩ => ⟨a, vs, h1, e a _ h2, h3.mono fun _ _ => t.mono e⟩⟩
/-- a list or a tuple; true: a list -/
def yQ (t : Ty K α) : Ty K (Bool × List α) := ⟨fun x v H => if x.1 = true then (yL t).rel x.2 v H else (yT t).rel x.2 v H,
  fun {x _ _ _} e h => by
    obtain ⟨b, x⟩ := x
    cases b
    · exact (yT t).mono e h
    · exact (yL t).mono e h⟩
def yP (t : Ty K α) (u : Ty K β) : Ty K (α × β) := ⟨fun x v H => ∃ a v1 v2, v = .ref a ∧ H a = some (.tup [v1, v2]) ∧ t.rel x.1 v1 H ∧ u.rel x.2 v2 H,
  fun e ⟨a, v1, v2, h1, h2, h3, h4⟩ => ⟨a, v1, v2, h1, e a _ h2, t.mono e h3, u.mono e h4⟩⟩
def yP3 (t : Ty K α) (u : Ty K β) (w : Ty K γ) : Ty K (α × β × γ) := ⟨fun x v H => ∃ a v1 v2 v3, v = .ref a ∧ H a = some (.tup [v1, v2, v3]) ∧ t.rel x.1 v1 H ∧ u.rel x.2.1 v2 H ∧ w.rel x.2.2 v3 H,
  fun e ⟨a, v1, v2, v3, h1, h2, h3, h4, h5⟩ => ⟨a, v1, v2, v3, h1, e a _ h2, t.mono e h3, u.mono e h4, w.mono e h5⟩⟩
def yO (t : Ty K α) : Ty K (Option α) := ⟨fun x v H => match x with | none => v = .non | some y => t.rel y v H,
  fun {x _ _ _} e h => by
    cases x with
    | none => exact h
    | some y => exact t.mono e h⟩
/-- the script -/
def yScript : Ty K (List Int) := ⟨fun xs v H => ∃ a, v = .ref a ∧ SqL K H a (xs.map V.int), fun e ⟨a, h1, h2⟩ => ⟨a, h1, Evl.ex_l e h2⟩⟩
def mL (t : Ty K α) : Mty K (List α) := ⟨fun xs o H => ∃ vs, o = .lst vs ∧ All2 t.rel xs vs H, fun e ⟨vs, h1, h2⟩ => ⟨vs, h1, h2.mono fun _ _ => t.mono e⟩⟩
theorem all2_int {H : Hp} : ∀ {xs : List Int} {vs : List V}, All2 (yI (K := K)).rel xs vs H → vs = xs.map V.int
  | [], [], _ => rfl
  | x :: xs, v :: vs, q => by rw [show v = V.int x from q.1, all2_int q.2]; rfl
  | [], _ :: _, q => q.elim
  | _ :: _, [], q => q.elim
theorem all2_ints {H : Hp} (xs : List Int) : All2 (yI (K := K)).rel xs (xs.map V.int) H := by
  have h := All2.of_map (R := (yI (K := K)).rel) (H := H) (f := id) (g := V.int) (fun _ => rfl) xs
  rwa [List.map_id] at h
theorem all2_bl {H : Hp} : ∀ {xs : List Bool} {vs : List V}, All2 (yB (K := K)).rel xs vs H → vs = xs.map V.bl
  | [], [], _ => rfl
  | x :: xs, v :: vs, q => by rw [show v = V.bl x from q.1, all2_bl q.2]; rfl
  | [], _ :: _, q => q.elim
  | _ :: _, [], q => q.elim
end

/-! ### slots, states -/
inductive Sl (K : PySem.W.Frag) : Type 1 where
  | un
  | sh {α : Type} (t : Ty K α) (x : α)
  | mu {α : Type} (m : Mty K α) (x : α)
  | hd (m : Mty K Unit)
abbrev Ct (K : PySem.W.Frag) := List (Sl K)

structure Fx where
  H0 : Hp
  sp : Option Addr
  hp : Option (Addr × (HO → Hp → Prop))
  E : Er → Prop
  XE : XK
  mg : Str → Option Value

section
variable {K : PySem.W.Frag}
def Sl.isM : Sl K → Prop
  | .mu _ _ => True
  | .hd _ => True
  | _ => False
def Sl.isH : Sl K → Prop
  | .hd _ => True
  | _ => False
def SlOk : Sl K → Option V → Hp → Hp → Prop
  | .un, _, _, _ => True
  | .sh t x, o, S, _ => ∃ v, o = some v ∧ t.rel x v S
  | .mu m x, o, S, H => ∃ a ob, o = some (.ref a) ∧ S a = none ∧ H a = some ob ∧ m.rel x ob S
  | .hd m, o, S, H => ∃ a ob, o = some (.ref a) ∧ S a = none ∧ H a = some ob ∧ m.rel () ob S
/-- slot i holds the mutable object at a -/
def MuS (C : Ct K) (σ : L2.St) (i : Nat) (a : Addr) : Prop := ∃ c : Sl K, C[i]? = some c ∧ c.isM ∧ σ[i]? = some (some (V.ref a))
def HdS (C : Ct K) (σ : L2.St) (a : Addr) : Prop := ∃ (i : Nat) (c : Sl K), C[i]? = some c ∧ c.isH ∧ σ[i]? = some (some (V.ref a))
def errRel (mg : Str → Option Value) (e : Er) (c : Value) (d : Option Addr) (H : Hp) : Prop :=
  ∃ C, mg e.cls = some (.ref C) ∧ c = .ref C ∧ match d with
    | none => e.fields = []
    | some a => H a = some (.xd e.fields)

/-- where one may end -/
structure Land (fr : Fx) (S0 S H : Hp) : Prop where
  sub : Ex S H
  base : Ex S0 S
  keep : ∀ b o, (∀ a φ, fr.hp = some (a, φ) → b ≠ a) → fr.H0 b = some o → H b = some o
  out : ∀ b, S0 b = none → fr.H0 b ≠ none → S b = none
  hand : ∀ a φ, fr.hp = some (a, φ) → ∃ o, H a = some o ∧ φ o S

structure Sta (fr : Fx) (S0 : Hp) (C : Ct K) (σ : L2.St) (S H : Hp) : Prop where
  land : Land fr S0 S H
  len : σ.length = C.length
  sl : ∀ (i : Nat) (c : Sl K), C[i]? = some c → SlOk c (σ[i]?.join) S H
  dist : ∀ (i j : Nat) (a : Addr), MuS C σ i a → MuS C σ j a → i = j
  fresh : ∀ (i : Nat) (a : Addr), MuS C σ i a → fr.H0 a = none ∨ ∃ φ, fr.hp = some (a, φ)
  hslot : ∀ a φ, fr.hp = some (a, φ) → σ[0]? = some (some (.ref a)) ∧ ∃ m : Mty K Unit, C[0]? = some (.hd m) ∧ φ = m.rel ()
  pslot : ∀ a, fr.sp = some a → σ[0]? = some (some (.ref a))
  err : ∀ e c d S' H', fr.E e → Land fr S0 S' H' → errRel fr.mg e c d H' → fr.XE c d H'

abbrev Fx.free (fr : Fx) : Prop := fr.hp = none ∧ fr.sp = none
theorem pslot_set {fr : Fx} {σ : L2.St} {i : Nat} {o : Option V} (p : ∀ a, fr.sp = some a → σ[0]? = some (some (.ref a))) (h0 : fr.free ∨ i ≠ 0) : ∀ a, fr.sp = some a → (σ.set i o)[0]? = some (some (.ref a)) := fun a e => by
  rcases h0 with z | z
  · rw [z.2] at e; cases e
  · rw [List.getElem?_set_ne z]; exact p a e
structure Stp (C : Ct K) (σ : L2.St) (S H S' H' : Hp) : Prop where
  ex : Ex S S'
  keep : ∀ b o, ¬ HdS C σ b → H b = some o → H' b = some o
  there : ∀ b, H b ≠ none → H' b ≠ none
  out : ∀ b, S b = none → H b ≠ none → S' b = none
theorem Stp.refl {C : Ct K} {σ : L2.St} {S H : Hp} : Stp C σ S H S H := ⟨Evl.Ex.refl S, fun _ _ _ h => h, fun _ h => h, fun _ h _ => h⟩
theorem Stp.trans {C : Ct K} {σ : L2.St} {S H S1 H1 S2 H2 : Hp} (a : Stp C σ S H S1 H1) (b : Stp C σ S1 H1 S2 H2) : Stp C σ S H S2 H2 :=
  ⟨a.ex.trans b.ex, fun c o n h => b.keep c o n (a.keep c o n h), fun c h => b.there c (a.there c h), fun c h n => b.out c (a.out c h n) (a.there c n)⟩

section
variable {fr : Fx} {S0 : Hp} {C : Ct K} {σ : L2.St} {S H S' H' : Hp} {α : Type}
theorem getJ {σ : L2.St} {i : Nat} {v : V} (h : σ[i]?.join = some v) : σ[i]? = some (some v) := by
  cases e : σ[i]? with
  | none => rw [e] at h; cases h
  | some o =>
    rw [e] at h
    cases o with
    | none => cases h
    | some u =>
      have : u = v := Option.some.inj h
      rw [this]
theorem joinJ {σ : L2.St} {i : Nat} {v : V} (h : σ[i]? = some (some v)) : σ[i]?.join = some v := by rw [h]; rfl
theorem Sta.sh (I : Sta fr S0 C σ S H) {i : Nat} {t : Ty K α} {x : α} (h : C[i]? = some (.sh t x)) : ∃ v, σ[i]? = some (some v) ∧ t.rel x v S := by
  obtain ⟨v, e, r⟩ := I.sl i _ h
  exact ⟨v, getJ e, r⟩
theorem Sta.mu (I : Sta fr S0 C σ S H) {i : Nat} {m : Mty K α} {x : α} (h : C[i]? = some (.mu m x)) : ∃ a ob, σ[i]? = some (some (.ref a)) ∧ S a = none ∧ H a = some ob ∧ m.rel x ob S := by
  obtain ⟨a, ob, e, r⟩ := I.sl i _ h
  exact ⟨a, ob, getJ e, r⟩
theorem Sta.hd (I : Sta fr S0 C σ S H) {i : Nat} {m : Mty K Unit} (h : C[i]? = some (.hd m)) : ∃ a ob, σ[i]? = some (some (.ref a)) ∧ S a = none ∧ H a = some ob ∧ m.rel () ob S := by
  obtain ⟨a, ob, e, r⟩ := I.sl i _ h
  exact ⟨a, ob, getJ e, r⟩
theorem Sta.muObj (I : Sta fr S0 C σ S H) {i : Nat} {a : Addr} (h : MuS C σ i a) : S a = none ∧ ∃ ob, H a = some ob := by
  obtain ⟨c, hc, hm, e⟩ := h
  have q := I.sl i c hc
  cases c with
  | un => exact hm.elim
  | sh => exact hm.elim
  | mu m x =>
    obtain ⟨a', ob, e', h1, h2, _⟩ := q
    rw [e] at e'
    have : a = a' := by cases e'; rfl
    subst this
    exact ⟨h1, ob, h2⟩
  | hd m =>
    obtain ⟨a', ob, e', h1, h2, _⟩ := q
    rw [e] at e'
    have : a = a' := by cases e'; rfl
    subst this
    exact ⟨h1, ob, h2⟩
theorem HdS.mu {a : Addr} (h : HdS C σ a) : ∃ i, MuS C σ i a := by
  obtain ⟨i, c, hc, hh, e⟩ := h
  refine ⟨i, c, hc, ?_, e⟩
  cases c with
  | hd m => exact True.intro
  | un => exact hh.elim
  | sh => exact hh.elim
  | mu => exact hh.elim
/-- the state grows: nothing of the heap is lost -/
theorem Sta.grow (I : Sta fr S0 C σ S H) (hs : Ex S S') (hh : Ex H H') (hsub : Ex S' H') (out : ∀ b, S b = none → H b ≠ none → S' b = none) : Sta fr S0 C σ S' H' := by
  have slk : ∀ (c : Sl K) (o : Option V), SlOk c o S H → SlOk c o S' H' := fun c o q => by
    cases c with
    | un => exact True.intro
    | sh t x => obtain ⟨v, e, r⟩ := q; exact ⟨v, e, t.mono hs r⟩
    | mu m x =>
      obtain ⟨a, ob, e, h1, h2, r⟩ := q
      exact ⟨a, ob, e, out a h1 (by rw [h2]; exact fun z => nomatch z), hh a ob h2, m.mono hs r⟩
    | hd m =>
      obtain ⟨a, ob, e, h1, h2, r⟩ := q
      exact ⟨a, ob, e, out a h1 (by rw [h2]; exact fun z => nomatch z), hh a ob h2, m.mono hs r⟩
  refine ⟨⟨hsub, I.land.base.trans hs, fun b o n h => hh b o (I.land.keep b o n h), fun b h n => ?_, fun a φ e => ?_⟩, I.len, fun i c hc => slk c _ (I.sl i c hc), I.dist, I.fresh, I.hslot, I.pslot, I.err⟩
  · by_cases hb : ∃ a φ, fr.hp = some (a, φ) ∧ b = a
    · obtain ⟨a, φ, e, rfl⟩ := hb
      obtain ⟨o, ho, _⟩ := I.land.hand b φ e
      exact out b (I.land.out b h n) (by rw [ho]; exact fun z => nomatch z)
    · have n2 : ∃ o, fr.H0 b = some o := by
        cases q : fr.H0 b with
        | none => exact (n q).elim
        | some o => exact ⟨o, rfl⟩
      obtain ⟨o, ho⟩ := n2
      refine out b (I.land.out b h n) ?_
      rw [I.land.keep b o (fun a φ e z => hb ⟨a, φ, e, z⟩) ho]
      exact fun z => nomatch z
  · obtain ⟨o, ho, q⟩ := I.land.hand a φ e
    obtain ⟨_, m, _, em⟩ := I.hslot a φ e
    subst em
    exact ⟨o, hh a o ho, m.mono hs q⟩
theorem Stp.of_grow (hs : Ex S S') (hh : Ex H H') (out : ∀ b, S b = none → H b ≠ none → S' b = none) : Stp C σ S H S' H' :=
  ⟨hs, fun b o _ h => hh b o h, (fun b h => by
    cases q : H b with
    | none => exact (h q).elim
    | some o => rw [hh b o q]; exact (fun z => nomatch z)), out⟩
/-- a new stable object -/
theorem Sta.new (I : Sta fr S0 C σ S H) {p : Addr} {o : HO} (hp : H p = none) : Sta fr S0 C σ (upd S p o) (upd H p o) ∧ Stp C σ S H (upd S p o) (upd H p o) := by
  have sp : S p = none := Evl.fresh_back I.land.sub hp
  have hsub : Ex (upd S p o) (upd H p o) := fun b u e => by
    by_cases hb : b = p
    · subst hb; rw [upd_same] at e ⊢; exact e
    · rw [upd_ne hb] at e ⊢; exact I.land.sub b u e
  have out : ∀ b, S b = none → H b ≠ none → (upd S p o) b = none := fun b h n => by
    rw [upd_ne (fun z => n (by rw [z]; exact hp))]
    exact h
  exact ⟨I.grow (Evl.Ex.new sp) (Evl.Ex.new hp) hsub out, Stp.of_grow (Evl.Ex.new sp) (Evl.Ex.new hp) out⟩
/-- a new object that is not stable -/
theorem Sta.newM (I : Sta fr S0 C σ S H) {p : Addr} {o : HO} (hp : H p = none) : Sta fr S0 C σ S (upd H p o) ∧ Stp C σ S H S (upd H p o) := by
  have sp : S p = none := Evl.fresh_back I.land.sub hp
  have hsub : Ex S (upd H p o) := fun b u e => by
    rw [upd_ne (fun z => by rw [z, sp] at e; cases e)]
    exact I.land.sub b u e
  exact ⟨I.grow (Evl.Ex.refl S) (Evl.Ex.new hp) hsub (fun b h _ => h), Stp.of_grow (Evl.Ex.refl S) (Evl.Ex.new hp) (fun b h _ => h)⟩
/-- an object of the heap that is no slot's becomes stable -/
theorem Sta.settle (I : Sta fr S0 C σ S H) {p : Addr} {o : HO} (hp : H p = some o) (h0 : fr.H0 p = none) (hs : ∀ i, ¬ MuS C σ i p) (sp : S p = none) : Sta fr S0 C σ (upd S p o) H := by
  have ex : Ex S (upd S p o) := Evl.Ex.new sp
  have slk : ∀ (i : Nat) (c : Sl K), C[i]? = some c → SlOk c (σ[i]?.join) S H → SlOk c (σ[i]?.join) (upd S p o) H := fun i c hc q => by
    cases c with
    | un => exact True.intro
    | sh t x => obtain ⟨v, e, r⟩ := q; exact ⟨v, e, t.mono ex r⟩
    | mu m x =>
      obtain ⟨a, ob, e, h1, h2, r⟩ := q
      have ne : a ≠ p := fun z => hs i ⟨_, hc, True.intro, by rw [getJ e, z]⟩
      exact ⟨a, ob, e, by rw [upd_ne ne]; exact h1, h2, m.mono ex r⟩
    | hd m =>
      obtain ⟨a, ob, e, h1, h2, r⟩ := q
      have ne : a ≠ p := fun z => hs i ⟨_, hc, True.intro, by rw [getJ e, z]⟩
      exact ⟨a, ob, e, by rw [upd_ne ne]; exact h1, h2, m.mono ex r⟩
  refine ⟨⟨fun b u e => ?_, I.land.base.trans ex, I.land.keep, fun b h n => ?_, fun a φ e => ?_⟩, I.len, fun i c hc => slk i c hc (I.sl i c hc), I.dist, I.fresh, I.hslot, I.pslot, I.err⟩
  · by_cases hb : b = p
    · subst hb; rw [upd_same] at e; cases e; exact hp
    · rw [upd_ne hb] at e; exact I.land.sub b u e
  · rw [upd_ne (fun z => n (by rw [z]; exact h0))]
    exact I.land.out b h n
  · obtain ⟨ob, ho, q⟩ := I.land.hand a φ e
    obtain ⟨_, m, _, em⟩ := I.hslot a φ e
    subst em
    exact ⟨ob, ho, m.mono ex q⟩
end
end
section
variable {K : PySem.W.Frag} {fr : Fx} {C : Ct K}
theorem hdS_not {S0 : Hp} {σ : L2.St} {S H : Hp} {a : Addr} {o : HO} (I : Sta fr S0 C σ S H) (h : S a = some o) : ¬ HdS C σ a := fun z => by
  obtain ⟨i, z⟩ := z.mu
  have := (I.muObj z).1
  rw [h] at this; cases this
theorem hdS_new {S0 : Hp} {σ : L2.St} {S H : Hp} {a : Addr} (I : Sta fr S0 C σ S H) (h : H a = none) : ¬ HdS C σ a := fun z => by
  obtain ⟨i, z⟩ := z.mu
  obtain ⟨ob, e⟩ := (I.muObj z).2
  rw [h] at e; cases e
theorem muS_new {S0 : Hp} {σ : L2.St} {S H : Hp} {a : Addr} (I : Sta fr S0 C σ S H) (h : H a = none) (i : Nat) : ¬ MuS C σ i a := fun z => by
  obtain ⟨ob, e⟩ := (I.muObj z).2
  rw [h] at e; cases e
theorem Sta.H0_none {S0 : Hp} {σ : L2.St} {S H : Hp} {a : Addr} (I : Sta fr S0 C σ S H) (h : H a = none) : fr.H0 a = none := by
  cases q : fr.H0 a with
  | none => rfl
  | some o =>
    by_cases hb : ∃ a' φ, fr.hp = some (a', φ) ∧ a = a'
    · obtain ⟨a', φ, e, rfl⟩ := hb
      obtain ⟨o', ho, _⟩ := I.land.hand a φ e
      rw [h] at ho; cases ho
    · rw [I.land.keep a o (fun a' φ e z => hb ⟨a', φ, e, z⟩) q] at h
      cases h
theorem hnew {σ : L2.St} {S H S1 H1 : Hp} (st : Stp C σ S H S1 H1) {ad : Addr} (z : H1 ad = none) : H ad = none := by
  cases e : H ad with
  | none => rfl
  | some o => exact (st.there ad (by rw [e]; exact fun z => nomatch z) z).elim
/-- slots forgotten -/
theorem Sta.weak {S0 : Hp} {C' : Ct K} {σ : L2.St} {S H : Hp} (I : Sta fr S0 C' σ S H) (hl : C.length = C'.length) (h : ∀ i : Nat, C[i]? = C'[i]? ∨ C[i]? = some .un) (h0 : C[0]? = C'[0]? ∨ fr.hp = none) : Sta fr S0 C σ S H := by
  have mu : ∀ i a, MuS C σ i a → MuS C' σ i a := fun i a ⟨c, h1, h2, h3⟩ => by
    rcases h i with z | z
    · exact ⟨c, by rw [← z]; exact h1, h2, h3⟩
    · rw [z] at h1; cases h1; exact h2.elim
  refine ⟨I.land, by rw [hl]; exact I.len, fun i c hc => ?_, fun i j a h1 h2 => I.dist i j a (mu i a h1) (mu j a h2), fun i a h => I.fresh i a (mu i a h), fun a φ e => ?_, I.pslot, I.err⟩
  · rcases h i with z | z
    · rw [z] at hc; exact I.sl i c hc
    · rw [z] at hc; cases hc; exact True.intro
  · obtain ⟨h1, m, h2, h3⟩ := I.hslot a φ e
    rcases h0 with h0 | h0
    · exact ⟨h1, m, by rw [h0]; exact h2, h3⟩
    · rw [h0] at e; cases e
end
end T9
namespace T9
open L2 PyProof.Rows PySem.Spec PySem
section
variable {K : PySem.W.Frag} {α β γ ρ δ : Type}
/-! ### the judgements -/
def EvW (fr : Fx) (C : Ct K) (te : TE) (t : Ty K α) (m : Wt α) : Prop := ∀ (S0 : Hp) (σ : L2.St) (S H : Hp) (Q : VK), Sta fr S0 C σ S H →
  m.run fr.E (fun x => ∀ v S' H', Sta fr S0 C σ S' H' → Stp C σ S H S' H' → t.rel x v S' → Q v H') → te σ H Q
def EvM (fr : Fx) (C : Ct K) (te : TE) (t : Mty K α) (m : Wt α) : Prop := ∀ (S0 : Hp) (σ : L2.St) (S H : Hp) (Q : VK), Sta fr S0 C σ S H →
  m.run fr.E (fun x => ∀ a o S' H', Sta fr S0 C σ S' H' → Stp C σ S H S' H' → H a = none → S' a = none → H' a = some o → t.rel x o S' → Q (.ref a) H') → te σ H Q
/-- a list that is read -/
def RB (t : Ty K α) (x : List α) (v : V) (C : Ct K) (σ : L2.St) (S H : Hp) : Prop := ∃ a vs, v = .ref a ∧ H a = some (.lst vs) ∧ All2 t.rel x vs S ∧ ¬ HdS C σ a
def EvB (fr : Fx) (C : Ct K) (te : TE) (t : Ty K α) (m : Wt (List α)) : Prop := ∀ (S0 : Hp) (σ : L2.St) (S H : Hp) (Q : VK), Sta fr S0 C σ S H →
  m.run fr.E (fun x => ∀ v S' H', Sta fr S0 C σ S' H' → Stp C σ S H S' H' → RB t x v C σ S' H' → Q v H') → te σ H Q
def EvT (fr : Fx) (C : Ct K) (tt : TT) (m : Wt Bool) : Prop := ∀ (S0 : Hp) (σ : L2.St) (S H : Hp) (Q : Bool → Hp → Prop), Sta fr S0 C σ S H →
  m.run fr.E (fun b => ∀ S' H', Sta fr S0 C σ S' H' → Stp C σ S H S' H' → Q b H') → tt σ H Q
structure Aty (K : PySem.W.Frag) (α : Type) where
  rel : α → List V → Hp → Prop
  mono : ∀ {x : α} {v : List V} {H H' : Hp}, Ex H H' → rel x v H → rel x v H'
  slots : α → Ct K
  n : Nat
  len : ∀ {x v H}, rel x v H → v.length = n
  slen : ∀ x, (slots x).length = n
  ok : ∀ {x v H H2}, rel x v H → ∀ (i : Nat) (c : Sl K), (slots x)[i]? = some c → ∃ v', v[i]? = some v' ∧ SlOk c (some v') H H2 ∧ ¬ c.isM
def aN : Aty K Unit := ⟨fun _ v _ => v = [], fun _ h => h, fun _ => [], 0, fun h => by subst h; rfl, fun _ => rfl, fun _ i c h => by simp at h⟩
def aC (t : Ty K α) (A : Aty K β) : Aty K (α × β) := ⟨fun x v H => ∃ v0 vs, v = v0 :: vs ∧ t.rel x.1 v0 H ∧ A.rel x.2 vs H, fun e ⟨v0, vs, h1, h2, h3⟩ => ⟨v0, vs, h1, t.mono e h2, A.mono e h3⟩,
  fun x => .sh t x.1 :: A.slots x.2, A.n + 1, fun ⟨v0, vs, h1, _, h3⟩ => by subst h1; rw [List.length_cons, A.len h3], fun x => by rw [List.length_cons, A.slen],
  fun {x v H H2} ⟨v0, vs, h1, h2, h3⟩ i c h => by
    subst h1
    cases i with
    | zero =>
      have : Sl.sh t x.1 = c := Option.some.inj h
      subst this
      exact ⟨v0, rfl, ⟨v0, rfl, h2⟩, fun z => z⟩
    | succ i => exact A.ok h3 i c h⟩
def EvA (fr : Fx) (C : Ct K) (ta : TA) (A : Aty K α) (m : Wt α) : Prop := ∀ (S0 : Hp) (σ : L2.St) (S H : Hp) (Q : List V → Hp → Prop), Sta fr S0 C σ S H →
  m.run fr.E (fun x => ∀ v S' H', Sta fr S0 C σ S' H' → Stp C σ S H S' H' → A.rel x v S' → Q v H') → ta σ H Q
variable {X : Cx} {fr : Fx} {C : Ct X.K} {e a b : Expr} {es : List Expr} {te ta tb : TE} {tt tu : TT} {tl : TA} {pos : Pos} {m : Wt α} {n : Wt β} {t : Ty X.K α} {u : Ty X.K β}
abbrev EX (X : Cx) (fr : Fx) (C : Ct X.K) (e : Expr) (te : TE) (t : Ty X.K α) (m : Wt α) : Prop := PE X e te ∧ EvW fr C te t m
abbrev MX (X : Cx) (fr : Fx) (C : Ct X.K) (e : Expr) (te : TE) (t : Mty X.K α) (m : Wt α) : Prop := PE X e te ∧ EvM fr C te t m
abbrev BX (X : Cx) (fr : Fx) (C : Ct X.K) (e : Expr) (te : TE) (t : Ty X.K α) (m : Wt (List α)) : Prop := PE X e te ∧ EvB fr C te t m
abbrev TX (X : Cx) (fr : Fx) (C : Ct X.K) (e : Expr) (tt : TT) (m : Wt Bool) : Prop := PT X e tt ∧ EvT fr C tt m
abbrev AX (X : Cx) (fr : Fx) (C : Ct X.K) (es : List Expr) (tl : TA) (A : Aty X.K α) (m : Wt α) : Prop := PA X es tl ∧ EvA fr C tl A m

/-! ### weakening to a value at once -/
theorem EvW.pure' {x : α} (h : ∀ S0 σ S H, Sta fr S0 C σ S H → ∃ v, t.rel x v S ∧ ∀ Q : VK, Q v H → te σ H Q) : EvW fr C te t (Wt.pure x) := fun S0 σ S H Q I k => by
  obtain ⟨v, r, f⟩ := h S0 σ S H I
  exact f Q (k v S H I Stp.refl r)
/-! ### names, constants -/
theorem x_var {i : Nat} {nm : Str} {x : α} (hC : C[i]? = some (.sh t x)) (hN : X.N[i]? = some nm := by rfl) (hv : Vis X.env.scope nm := by first | exact Or.inl rfl | exact Or.inr (Or.inl rfl) | exact Or.inr (Or.inr rfl))
    (hd : (nm == ("__debug__" : Str)) = false := by decide) (hcd : (nm == ("__classdict__" : Str)) = false := by decide) : EX X fr C (.Name nm pos) (tVar i) t (Wt.pure x) :=
  ⟨pe_var hN hv hd hcd, EvW.pure' fun S0 σ S H I => by
    obtain ⟨v, e, r⟩ := I.sh hC
    exact ⟨v, r, fun Q q => ⟨v, e, q⟩⟩⟩
/-- a mutable list, read -/
theorem x_bor {i : Nat} {nm : Str} {xs : List α} (hC : C[i]? = some (.mu (mL t) xs)) (hN : X.N[i]? = some nm := by rfl) (hv : Vis X.env.scope nm := by first | exact Or.inl rfl | exact Or.inr (Or.inl rfl) | exact Or.inr (Or.inr rfl))
    (hd : (nm == ("__debug__" : Str)) = false := by decide) (hcd : (nm == ("__classdict__" : Str)) = false := by decide) : BX X fr C (.Name nm pos) (tVar i) t (Wt.pure xs) :=
  ⟨pe_var hN hv hd hcd, fun S0 σ S H Q I k => by
    obtain ⟨a, ob, e, h1, h2, vs, h3, h4⟩ := I.mu hC
    subst h3
    refine ⟨_, e, k _ S H I Stp.refl ⟨a, vs, rfl, h2, h4, fun z => ?_⟩⟩
    obtain ⟨j, c, hc, hh, ej⟩ := z
    have hm : c.isM := by
      cases c with
      | hd m => exact True.intro
      | un => exact hh.elim
      | sh => exact hh.elim
      | mu => exact hh.elim
    have eij := I.dist i j a ⟨_, hC, True.intro, e⟩ ⟨c, hc, hm, ej⟩
    subst eij
    rw [hC] at hc
    cases hc
    exact hh⟩
/-- a stable list, read -/
theorem x_bW {m : Wt (List α)} (h : EX X fr C e te (yL t) m) : BX X fr C e te t m := ⟨h.1, fun S0 σ S H Q I k => h.2 S0 σ S H Q I (m.mono (fun _ z => z) (fun xs q v S' H' I' st r => by
  obtain ⟨a, vs, h1, h2, h3⟩ := r
  exact q v S' H' I' st ⟨a, vs, h1, I'.land.sub a _ h2, h3, hdS_not I' h2⟩) k)⟩
/-- a new list, read -/
theorem x_bM {m : Wt (List α)} (h : MX X fr C e te (mL t) m) : BX X fr C e te t m := ⟨h.1, fun S0 σ S H Q I k => h.2 S0 σ S H Q I (m.mono (fun _ z => z) (fun xs q a o S' H' I' st n1 n2 ho r => by
  obtain ⟨vs, h1, h2⟩ := r
  subst h1
  exact q _ S' H' I' st ⟨a, vs, rfl, ho, h2, hdS_new I n1⟩) k)⟩
/-- a new list becomes stable -/
theorem x_fix {m : Wt (List α)} (h : MX X fr C e te (mL t) m) : EX X fr C e te (yL t) m := ⟨h.1, fun S0 σ S H Q I k => h.2 S0 σ S H Q I (m.mono (fun _ z => z) (fun xs q a o S' H' I' st n1 n2 ho r => by
  obtain ⟨vs, h1, h2⟩ := r
  subst h1
  have nm : ∀ i, ¬ MuS C σ i a := muS_new I n1
  have I2 := I'.settle ho (I.H0_none n1) nm n2
  refine q (.ref a) _ _ I2 ⟨st.ex.trans (Evl.Ex.new n2), st.keep, st.there, fun b hb hn => ?_⟩ ⟨a, vs, rfl, upd_same, h2.mono fun _ _ => t.mono (Evl.Ex.new n2)⟩
  rw [upd_ne (fun z => hn (by rw [z]; exact n1))]
  exact st.out b hb hn) k)⟩
theorem x_int {i j} : EX X fr C (.Constant (.int i) j pos) (tC (.int i)) yI (Wt.pure i) := ⟨pe_int, EvW.pure' fun S0 σ S H I => ⟨_, rfl, fun _ q => q⟩⟩
theorem x_bl {i j} : EX X fr C (.Constant (.bool i) j pos) (tC (.bl i)) yB (Wt.pure i) := ⟨pe_bl, EvW.pure' fun S0 σ S H I => ⟨_, rfl, fun _ q => q⟩⟩
theorem x_non {j} : EX X fr C (.Constant .none j pos) (tC .non) yN (Wt.pure ()) := ⟨pe_non, EvW.pure' fun S0 σ S H I => ⟨_, rfl, fun _ q => q⟩⟩
theorem x_str {i j} : EX X fr C (.Constant (.str i) j pos) (tC (.str i)) yS (Wt.pure i) := ⟨pe_str, EvW.pure' fun S0 σ S H I => ⟨_, rfl, fun _ q => q⟩⟩
theorem x_glob {nm : Str} {i : Int} {tok : Tok} (hm : X.mg nm = some (.int i tok)) (hg : Gl X nm := by rfl) (hd : (nm == ("__debug__" : Str)) = false := by decide) : EX X fr C (.Name nm pos) (tC (.int i)) yI (Wt.pure i) :=
  ⟨pe_glob hg hm ⟨_, rfl⟩ hd, EvW.pure' fun S0 σ S H I => ⟨_, rfl, fun _ q => q⟩⟩
/-! ### operators over ints -/
/-- two operands, then a rule by values -/
theorem ev_op2 {r : R2} {w : Ty X.K γ} {f : α → β → Wt γ} (h1 : EvW fr C ta t m) (h2 : EvW fr C tb u n)
    (hr : ∀ S0 σ S H x y v1 v2 (Q : VK), Sta fr S0 C σ S H → t.rel x v1 S → u.rel y v2 S → (f x y).run fr.E (fun z => ∀ v S' H', Sta fr S0 C σ S' H' → Stp C σ S H S' H' → w.rel z v S' → Q v H') → r v1 v2 H Q) :
    EvW fr C (tOp r ta tb) w (Wt.bind m fun x => Wt.bind n fun y => f x y) := fun S0 σ S H Q I k => by
  refine h1 S0 σ S H _ I (m.mono (fun _ z => z) (fun x q v1 S1 H1 I1 st1 r1 => ?_) k)
  refine h2 S0 σ S1 H1 _ I1 (n.mono (fun _ z => z) (fun y q2 v2 S2 H2 I2 st2 r2 => ?_) q)
  refine hr S0 σ S2 H2 x y v1 v2 Q I2 (t.mono st2.ex r1) r2 ((f x y).mono (fun _ z => z) (fun z q3 v S3 H3 I3 st3 r3 => ?_) q2)
  exact q3 v S3 H3 I3 ((st1.trans st2).trans st3) r3
theorem x_opII {op : Operator} {f : Int → Int → Int} (ho : OpR X (binaryOp op) (rI0 fun i j => .int (f i j))) {m n : Wt Int} (h1 : EX X fr C a ta yI m) (h2 : EX X fr C b tb yI n) :
    EX X fr C (.BinOp a op b pos) (tOp (rI0 fun i j => .int (f i j)) ta tb) yI (Wt.bind m fun x => Wt.bind n fun y => Wt.pure (f x y)) :=
  ⟨pe_op ho h1.1 h2.1, ev_op2 h1.2 h2.2 fun S0 σ S H x y v1 v2 Q I r1 r2 k => ⟨x, y, r1, r2, k _ S H I Stp.refl rfl⟩⟩
theorem x_opIC {op : Operator} {c : Int → Int → Prop} {f : Int → Int → Int} (ho : OpR X (binaryOp op) (rI c fun i j => .int (f i j))) {m n : Wt Int} (h1 : EX X fr C a ta yI m) (h2 : EX X fr C b tb yI n) :
    EX X fr C (.BinOp a op b pos) (tOp (rI c fun i j => .int (f i j)) ta tb) yI (Wt.bind m fun x => Wt.bind n fun y => Wt.req (c x y) (Wt.pure (f x y))) :=
  ⟨pe_op ho h1.1 h2.1, ev_op2 h1.2 h2.2 fun S0 σ S H x y v1 v2 Q I r1 r2 k => ⟨x, y, r1, r2, k.1, k.2 _ S H I Stp.refl rfl⟩⟩
theorem x_neg {m : Wt Int} (h1 : EX X fr C a ta yI m) : EX X fr C (.UnaryOp .USub a pos) (tUn (rU fun i => .int (-i)) ta) yI (Wt.bind m fun x => Wt.pure (-x)) :=
  ⟨pe_un un_neg h1.1, fun S0 σ S H Q I k => h1.2 S0 σ S H _ I (m.mono (fun _ z => z) (fun x q v1 S1 H1 I1 st1 r1 => ⟨x, r1, q _ S1 H1 I1 st1 rfl⟩) k)⟩
end
end T9
namespace T9
open L2 PyProof.Rows PySem.Spec PySem
section
variable {α β γ ρ δ : Type} {X : Cx} {fr : Fx} {C : Ct X.K} {e a b c : Expr} {es rest : List Expr} {te ta tb tc : TE} {tt tu : TT} {tl : TA} {pos p p2 p3 : Pos} {m : Wt α} {n : Wt β} {t : Ty X.K α} {u : Ty X.K β} {op op' : CmpOp}
/-! ### comparisons -/
abbrev CmX (X : Cx) (fr : Fx) (C : Ct X.K) (op : CmpOp) (a b : Expr) (te : TE) (m : Wt Bool) : Prop := (∀ pos, PE X (.Compare a [op] [b] pos) te) ∧ (∀ pos, PT X (.Compare a [op] [b] pos) (tTest te)) ∧ EvW fr C te yB m
theorem x_cmp {m : Wt Bool} (h : CmX X fr C op a b te m) : EX X fr C (.Compare a [op] [b] pos) te yB m := ⟨h.1 pos, h.2.2⟩
theorem ev_test {m : Wt Bool} (h : EvW fr C te yB m) : EvT fr C (tTest te) m := fun S0 σ S H Q I k => h S0 σ S H _ I (m.mono (fun _ z => z) (fun x q v1 S1 H1 I1 st1 r1 => ⟨x, r1, q S1 H1 I1 st1⟩) k)
theorem t_cmp {m : Wt Bool} (h : CmX X fr C op a b te m) : TX X fr C (.Compare a [op] [b] pos) (tTest te) m := ⟨h.2.1 pos, ev_test h.2.2⟩
theorem t_val {m : Wt Bool} (h : EX X fr C e te yB m) (he : ∀ whole, isTrue e X.env whole = (do let v ← whole; standAt e.pos; holding [v] (truthy v)) := by intro _; rfl) : TX X fr C e (L2.tB te) m := ⟨pt_val h.1 he, ev_test h.2⟩
theorem c_op {r : R2} (ho : OpR X (compareOp op) r) (h1 : PE X a ta) (h2 : PE X b tb) (hm : behindInMarks op b = false) {m : Wt Bool} (hv : EvW fr C (tOp r ta tb) yB m) : CmX X fr C op a b (tOp r ta tb) m :=
  ⟨fun _ => pe_cmpR ho h1 h2 hm, fun _ => pt_cmpR ho h1 h2 hm, hv⟩
theorem c_I {f : Int → Int → Bool} (ho : OpR X (compareOp op) (rI0 fun i j => .bl (f i j))) {m n : Wt Int} (h1 : EX X fr C a ta yI m) (h2 : EX X fr C b tb yI n) (hm : behindInMarks op b = false := by exact nomark _) :
    CmX X fr C op a b (tOp (rI0 fun i j => .bl (f i j)) ta tb) (Wt.bind m fun x => Wt.bind n fun y => Wt.pure (f x y)) :=
  c_op ho h1.1 h2.1 hm (ev_op2 h1.2 h2.2 fun S0 σ S H x y v1 v2 Q I r1 r2 k => ⟨x, y, r1, r2, k _ S H I Stp.refl rfl⟩)
theorem c_eqI {m n : Wt Int} (h1 : EX X fr C a ta yI m) (h2 : EX X fr C b tb yI n) : CmX X fr C .Eq a b (tOp rEq ta tb) (Wt.bind m fun x => Wt.bind n fun y => Wt.pure (decide (x = y))) :=
  c_op op_eq h1.1 h2.1 (nomark _) (ev_op2 h1.2 h2.2 fun S0 σ S H x y v1 v2 Q I r1 r2 k => by
    rw [show v1 = .int x from r1, show v2 = .int y from r2]
    refine ⟨rfl, ?_⟩
    have e : decide (V.int x = V.int y) = decide (x = y) := by rw [dec_int, Bool.beq_eq_decide_eq]
    rw [e]
    exact k _ S H I Stp.refl rfl)
theorem c_neI {m n : Wt Int} (h1 : EX X fr C a ta yI m) (h2 : EX X fr C b tb yI n) : CmX X fr C .NotEq a b (tOp rNe ta tb) (Wt.bind m fun x => Wt.bind n fun y => Wt.pure (!decide (x = y))) :=
  c_op op_ne h1.1 h2.1 (nomark _) (ev_op2 h1.2 h2.2 fun S0 σ S H x y v1 v2 Q I r1 r2 k => by
    rw [show v1 = .int x from r1, show v2 = .int y from r2]
    refine ⟨rfl, ?_⟩
    have e : decide (V.int x = V.int y) = decide (x = y) := by rw [dec_int, Bool.beq_eq_decide_eq]
    rw [e]
    exact k _ S H I Stp.refl rfl)
theorem c_eqB {m n : Wt Bool} (h1 : EX X fr C a ta yB m) (h2 : EX X fr C b tb yB n) : CmX X fr C .Eq a b (tOp rEq ta tb) (Wt.bind m fun x => Wt.bind n fun y => Wt.pure (x == y)) :=
  c_op op_eq h1.1 h2.1 (nomark _) (ev_op2 h1.2 h2.2 fun S0 σ S H x y v1 v2 Q I r1 r2 k => by
    rw [show v1 = .bl x from r1, show v2 = .bl y from r2]
    refine ⟨rfl, ?_⟩
    rw [dec_bl]
    exact k _ S H I Stp.refl rfl)
theorem c_neB {m n : Wt Bool} (h1 : EX X fr C a ta yB m) (h2 : EX X fr C b tb yB n) : CmX X fr C .NotEq a b (tOp rNe ta tb) (Wt.bind m fun x => Wt.bind n fun y => Wt.pure (!(x == y))) :=
  c_op op_ne h1.1 h2.1 (nomark _) (ev_op2 h1.2 h2.2 fun S0 σ S H x y v1 v2 Q I r1 r2 k => by
    rw [show v1 = .bl x from r1, show v2 = .bl y from r2]
    refine ⟨rfl, ?_⟩
    rw [dec_bl]
    exact k _ S H I Stp.refl rfl)
theorem c_eqS {m n : Wt Str} (h1 : EX X fr C a ta yS m) (h2 : EX X fr C b tb yS n) : CmX X fr C .Eq a b (tOp rEq ta tb) (Wt.bind m fun x => Wt.bind n fun y => Wt.pure (x == y)) :=
  c_op op_eq h1.1 h2.1 (nomark _) (ev_op2 h1.2 h2.2 fun S0 σ S H x y v1 v2 Q I r1 r2 k => by
    rw [show v1 = .str x from r1, show v2 = .str y from r2]
    refine ⟨rfl, ?_⟩
    rw [dec_str]
    exact k _ S H I Stp.refl rfl)
/-- data: what is compared at any depth -/
structure Dat {K : PySem.W.Frag} (t : Ty K α) (f : α → PyData) : Prop where
  to : ∀ {x v H}, t.rel x v H → Dp K H v (f x)
  shaped : ∀ x, SeqAt.shaped (f x) = true
mutual
theorem dp_ex {K : PySem.W.Frag} {H H' : Hp} (e : Ex H H') : ∀ {v : V} {d : PyData}, Dp K H v d → Dp K H' v d
  | _, _, .non => .non
  | _, _, .bl b => .bl b
  | _, _, .int i => .int i
  | _, _, .str x => .str x
  | _, _, .lst h r => .lst (Evl.ex_l e h) (dpA_ex e r)
  | _, _, .tup h r => .tup (Evl.ex_t e h) (dpA_ex e r)
theorem dpA_ex {K : PySem.W.Frag} {H H' : Hp} (e : Ex H H') : ∀ {v : List V} {d : List PyData}, DpAll K H v d → DpAll K H' v d
  | _, _, .nil => .nil
  | _, _, .cons h r => .cons (dp_ex e h) (dpA_ex e r)
end
theorem dpA_of {K : PySem.W.Frag} {R : α → V → Hp → Prop} {f : α → PyData} {H : Hp} (h : ∀ x v, R x v H → Dp K H v (f x)) : ∀ {xs : List α} {vs : List V}, All2 R xs vs H → DpAll K H vs (xs.map f)
  | [], [], _ => .nil
  | x :: xs, v :: vs, q => .cons (h x v q.1) (dpA_of h q.2)
  | [], _ :: _, q => q.elim
  | _ :: _, [], q => q.elim
theorem c_eqD {f : α → PyData} {g : β → PyData} (hf : Dat t f) (hg : Dat u g) (hu : X.A.units + 64 < cLine) (h1 : EX X fr C a ta t m) (h2 : EX X fr C b tb u n) : CmX X fr C .Eq a b (tOp (rEqD X.K) ta tb) (Wt.bind m fun x => Wt.bind n fun y => Wt.pure (PyData.eqv (f x) (g y))) :=
  c_op (op_eqD hu) h1.1 h2.1 (nomark _) (ev_op2 h1.2 h2.2 fun S0 σ S H x y v1 v2 Q I r1 r2 k =>
    ⟨f x, g y, dp_ex I.land.sub (hf.to r1), dp_ex I.land.sub (hg.to r2), hf.shaped x, hg.shaped y, k _ S H I Stp.refl rfl⟩)
theorem c_neD {f : α → PyData} {g : β → PyData} (hf : Dat t f) (hg : Dat u g) (hu : X.A.units + 64 < cLine) (h1 : EX X fr C a ta t m) (h2 : EX X fr C b tb u n) : CmX X fr C .NotEq a b (tOp (rNeD X.K) ta tb) (Wt.bind m fun x => Wt.bind n fun y => Wt.pure (!PyData.eqv (f x) (g y))) :=
  c_op (op_neD hu) h1.1 h2.1 (nomark _) (ev_op2 h1.2 h2.2 fun S0 σ S H x y v1 v2 Q I r1 r2 k =>
    ⟨f x, g y, dp_ex I.land.sub (hf.to r1), dp_ex I.land.sub (hg.to r2), hf.shaped x, hg.shaped y, k _ S H I Stp.refl rfl⟩)
/-- .. is None of what may be None -/
structure NoN {K : PySem.W.Frag} (t : Ty K α) : Prop where
  no : ∀ {x v H}, t.rel x v H → v ≠ .non
theorem noN_I {K : PySem.W.Frag} : NoN (yI (K := K)) := ⟨fun {x v H} h z => by rw [show v = .int x from h] at z; cases z⟩
theorem noN_B {K : PySem.W.Frag} : NoN (yB (K := K)) := ⟨fun {x v H} h z => by rw [show v = .bl x from h] at z; cases z⟩
theorem noN_T {K : PySem.W.Frag} {t : Ty K α} : NoN (yT t) := ⟨fun {x v H} ⟨a, vs, h, _⟩ z => by rw [h] at z; cases z⟩
theorem noN_L {K : PySem.W.Frag} {t : Ty K α} : NoN (yL t) := ⟨fun {x v H} ⟨a, vs, h, _⟩ z => by rw [h] at z; cases z⟩
theorem noN_P {K : PySem.W.Frag} {t : Ty K α} {u : Ty K β} : NoN (yP t u) := ⟨fun {x v H} ⟨a, v1, v2, h, _⟩ z => by rw [h] at z; cases z⟩
theorem c_isN {t : Ty X.K α} (hn : NoN t) {m : Wt (Option α)} {jj} (h1 : EX X fr C a ta (yO t) m) : CmX X fr C .Is a (.Constant .none jj p2) (tIsN ta) (Wt.bind m fun x => Wt.pure x.isNone) :=
  ⟨fun _ => pe_cmp (pc_isN h1.1) (nobehind _ (by decide) (by decide)), fun _ => pt_cmp (pc_isN h1.1) (nobehind _ (by decide) (by decide)), fun S0 σ S H Q I k => h1.2 S0 σ S H _ I (m.mono (fun _ z => z) (fun x q v1 S1 H1 I1 st1 r1 => by
    cases x with
    | none =>
      rw [show v1 = .non from r1]
      exact q _ S1 H1 I1 st1 rfl
    | some y =>
      have := hn.no (show t.rel y v1 S1 from r1)
      rw [decide_eq_false this]
      exact q _ S1 H1 I1 st1 rfl) k)⟩
theorem c_notN {t : Ty X.K α} (hn : NoN t) {m : Wt (Option α)} {jj} (h1 : EX X fr C a ta (yO t) m) : CmX X fr C .IsNot a (.Constant .none jj p2) (tNotN ta) (Wt.bind m fun x => Wt.pure x.isSome) :=
  ⟨fun _ => pe_cmp (pc_notN h1.1) (nobehind _ (by decide) (by decide)), fun _ => pt_cmp (pc_notN h1.1) (nobehind _ (by decide) (by decide)), fun S0 σ S H Q I k => h1.2 S0 σ S H _ I (m.mono (fun _ z => z) (fun x q v1 S1 H1 I1 st1 r1 => by
    cases x with
    | none =>
      rw [show v1 = .non from r1]
      exact q _ S1 H1 I1 st1 rfl
    | some y =>
      have := hn.no (show t.rel y v1 S1 from r1)
      rw [decide_eq_false this]
      exact q _ S1 H1 I1 st1 rfl) k)⟩
/-- a <= b <= c, ints -/
theorem ev_chainI {f g : Int → Int → Bool} {m n o : Wt Int} (h1 : EvW fr C ta yI m) (h2 : EvW fr C tb yI n) (h3 : EvW fr C tc yI o) :
    EvW fr C (tChain (rI0 fun i j => .bl (f i j)) (rI0 fun i j => .bl (g i j)) ta tb tc) yB (Wt.bind m fun x => Wt.bind n fun y => Wt.ite (f x y) (Wt.bind o fun z => Wt.pure (g y z)) (Wt.pure false)) := fun S0 σ S H Q I k => by
  refine h1 S0 σ S H _ I (m.mono (fun _ z => z) (fun x q v1 S1 H1 I1 st1 r1 => ?_) k)
  refine h2 S0 σ S1 H1 _ I1 (n.mono (fun _ z => z) (fun y q2 v2 S2 H2 I2 st2 r2 => ?_) q)
  refine ⟨x, y, r1, r2, f x y, rfl, ?_⟩
  cases e : f x y with
  | false =>
    rw [if_neg Bool.false_ne_true]
    have q2 : (Wt.ite (f x y) (Wt.bind o fun z => Wt.pure (g y z)) (Wt.pure false)).run _ _ := q2
    rw [e] at q2
    exact q2 (.bl false) S2 H2 I2 (st1.trans st2) rfl
  | true =>
    rw [if_pos rfl]
    have q2 : (Wt.ite (f x y) (Wt.bind o fun z => Wt.pure (g y z)) (Wt.pure false)).run _ _ := q2
    rw [e] at q2
    refine h3 S0 σ S2 H2 _ I2 (o.mono (fun _ z => z) (fun z q3 v3 S3 H3 I3 st3 r3 => ?_) q2)
    exact ⟨y, z, r2, r3, q3 _ S3 H3 I3 ((st1.trans st2).trans st3) rfl⟩
theorem x_chainI {f g : Int → Int → Bool} (ho : OpR X (compareOp op) (rI0 fun i j => .bl (f i j))) (ho' : OpR X (compareOp op') (rI0 fun i j => .bl (g i j))) {m n o : Wt Int} (h1 : EX X fr C a ta yI m) (h2 : EX X fr C b tb yI n) (h3 : EX X fr C c tc yI o) (hm : lastMarks [op, op'] [b, c] = false := by rfl) :
    EX X fr C (.Compare a [op, op'] [b, c] pos) (tChain (rI0 fun i j => .bl (f i j)) (rI0 fun i j => .bl (g i j)) ta tb tc) yB (Wt.bind m fun x => Wt.bind n fun y => Wt.ite (f x y) (Wt.bind o fun z => Wt.pure (g y z)) (Wt.pure false)) :=
  ⟨pe_chain ho ho' h1.1 h2.1 h3.1 hm, ev_chainI h1.2 h2.2 h3.2⟩
/-! ### and, or, not -/
abbrev WX (X : Cx) (fr : Fx) (C : Ct X.K) (e : Expr) (tt : TT) (m : Wt Bool) : Prop := PW X e tt ∧ EvT fr C tt m
theorem t_w {m : Wt Bool} (h : WX X fr C e tt m) : TX X fr C e tt m := ⟨h.1.pt, h.2⟩
theorem w_and1 {m : Wt Bool} (h : TX X fr C a tt m) : WX X fr C (.BoolOp .And [a] pos) tt m := ⟨pw_and1 h.1, h.2⟩
theorem w_or1 {m : Wt Bool} (h : TX X fr C a tt m) : WX X fr C (.BoolOp .Or [a] pos) tt m := ⟨pw_or1 h.1, h.2⟩
theorem ev_andT {m n : Wt Bool} (h1 : EvT fr C tt m) (h2 : EvT fr C tu n) : EvT fr C (tAnd tt tu) (Wt.bind m fun x => Wt.ite x n (Wt.pure false)) := fun S0 σ S H Q I k =>
  h1 S0 σ S H _ I (m.mono (fun _ z => z) (fun x q S1 H1 I1 st1 => by
    cases x with
    | false =>
      rw [if_neg Bool.false_ne_true]
      exact q S1 H1 I1 st1
    | true =>
      rw [if_pos rfl]
      exact h2 S0 σ S1 H1 Q I1 (n.mono (fun _ z => z) (fun y q2 S2 H2 I2 st2 => q2 S2 H2 I2 (st1.trans st2)) q)) k)
theorem ev_orT {m n : Wt Bool} (h1 : EvT fr C tt m) (h2 : EvT fr C tu n) : EvT fr C (tOr tt tu) (Wt.bind m fun x => Wt.ite x (Wt.pure true) n) := fun S0 σ S H Q I k =>
  h1 S0 σ S H _ I (m.mono (fun _ z => z) (fun x q S1 H1 I1 st1 => by
    cases x with
    | true =>
      rw [if_pos rfl]
      exact q S1 H1 I1 st1
    | false =>
      rw [if_neg Bool.false_ne_true]
      exact h2 S0 σ S1 H1 Q I1 (n.mono (fun _ z => z) (fun y q2 S2 H2 I2 st2 => q2 S2 H2 I2 (st1.trans st2)) q)) k)
theorem w_and {m n : Wt Bool} (h1 : TX X fr C a tt m) (h2 : WX X fr C (.BoolOp .And (b :: rest) pos) tu n) : WX X fr C (.BoolOp .And (a :: b :: rest) pos) (tAnd tt tu) (Wt.bind m fun x => Wt.ite x n (Wt.pure false)) := ⟨pw_and h1.1 h2.1, ev_andT h1.2 h2.2⟩
theorem w_or {m n : Wt Bool} (h1 : TX X fr C a tt m) (h2 : WX X fr C (.BoolOp .Or (b :: rest) pos) tu n) : WX X fr C (.BoolOp .Or (a :: b :: rest) pos) (tOr tt tu) (Wt.bind m fun x => Wt.ite x (Wt.pure true) n) := ⟨pw_or h1.1 h2.1, ev_orT h1.2 h2.2⟩
theorem t_not {m : Wt Bool} (h : TX X fr C a tt m) : TX X fr C (.UnaryOp .Not a pos) (tNot tt) (Wt.bind m fun x => Wt.pure (!x)) := ⟨pt_not h.1, fun S0 σ S H Q I k => h.2 S0 σ S H _ I (m.mono (fun _ z => z) (fun x q S1 H1 I1 st1 => q S1 H1 I1 st1) k)⟩
theorem x_bo1 {bo} {m : Wt Bool} (h : EX X fr C a ta yB m) : EX X fr C (.BoolOp bo [a] pos) ta yB m := ⟨pe_one h.1, h.2⟩
theorem x_and {m n : Wt Bool} (h1 : EX X fr C a ta yB m) (h2 : EX X fr C (.BoolOp .And (b :: rest) pos) tb yB n) : EX X fr C (.BoolOp .And (a :: b :: rest) pos) (tAndV ta tb) yB (Wt.bind m fun x => Wt.ite x n (Wt.pure false)) :=
  ⟨pe_and h1.1 h2.1, fun S0 σ S H Q I k => h1.2 S0 σ S H _ I (m.mono (fun _ z => z) (fun x q v S1 H1 I1 st1 r => ⟨x, r, by
    cases x with
    | false =>
      rw [if_neg Bool.false_ne_true]
      exact q _ S1 H1 I1 st1 rfl
    | true =>
      rw [if_pos rfl]
      exact h2.2 S0 σ S1 H1 Q I1 (n.mono (fun _ z => z) (fun y q2 v2 S2 H2 I2 st2 r2 => q2 v2 S2 H2 I2 (st1.trans st2) r2) q)⟩) k)⟩
theorem x_or {m n : Wt Bool} (h1 : EX X fr C a ta yB m) (h2 : EX X fr C (.BoolOp .Or (b :: rest) pos) tb yB n) : EX X fr C (.BoolOp .Or (a :: b :: rest) pos) (tOrV ta tb) yB (Wt.bind m fun x => Wt.ite x (Wt.pure true) n) :=
  ⟨pe_or h1.1 h2.1, fun S0 σ S H Q I k => h1.2 S0 σ S H _ I (m.mono (fun _ z => z) (fun x q v S1 H1 I1 st1 r => ⟨x, r, by
    cases x with
    | true =>
      rw [if_pos rfl]
      exact q _ S1 H1 I1 st1 rfl
    | false =>
      rw [if_neg Bool.false_ne_true]
      exact h2.2 S0 σ S1 H1 Q I1 (n.mono (fun _ z => z) (fun y q2 v2 S2 H2 I2 st2 r2 => q2 v2 S2 H2 I2 (st1.trans st2) r2) q)⟩) k)⟩
theorem x_not {m : Wt Bool} (h : EX X fr C a ta yB m) : EX X fr C (.UnaryOp .Not a pos) (tNotV ta) yB (Wt.bind m fun x => Wt.pure (!x)) :=
  ⟨pe_not h.1, fun S0 σ S H Q I k => h.2 S0 σ S H _ I (m.mono (fun _ z => z) (fun x q v S1 H1 I1 st1 r => ⟨x, r, q _ S1 H1 I1 st1 rfl⟩) k)⟩
/-! ### a if c else b -/
theorem ev_ifE {mc : Wt Bool} {m n : Wt α} (h : EvT fr C tt mc) (h1 : EvW fr C ta t m) (h2 : EvW fr C tb t n) : EvW fr C (tIf tt ta tb) t (Wt.bind mc fun x => Wt.ite x m n) := fun S0 σ S H Q I k =>
  h S0 σ S H _ I (mc.mono (fun _ z => z) (fun x q S1 H1 I1 st1 => by
    cases x with
    | true =>
      rw [if_pos rfl]
      exact h1 S0 σ S1 H1 Q I1 (m.mono (fun _ z => z) (fun y q2 v2 S2 H2 I2 st2 r2 => q2 v2 S2 H2 I2 (st1.trans st2) r2) q)
    | false =>
      rw [if_neg Bool.false_ne_true]
      exact h2 S0 σ S1 H1 Q I1 (n.mono (fun _ z => z) (fun y q2 v2 S2 H2 I2 st2 r2 => q2 v2 S2 H2 I2 (st1.trans st2) r2) q)) k)
theorem x_if {mc : Wt Bool} {m n : Wt α} (h : TX X fr C c tt mc) (h1 : EX X fr C a ta t m) (h2 : EX X fr C b tb t n) : EX X fr C (.IfExp c a b pos) (tIf tt ta tb) t (Wt.bind mc fun x => Wt.ite x m n) := ⟨pe_ifExp h.1 h1.1 h2.1, ev_ifE h.2 h1.2 h2.2⟩
theorem x_ifM {y : Mty X.K α} {mc : Wt Bool} {m n : Wt α} (h : TX X fr C c tt mc) (h1 : MX X fr C a ta y m) (h2 : MX X fr C b tb y n) : MX X fr C (.IfExp c a b pos) (tIf tt ta tb) y (Wt.bind mc fun x => Wt.ite x m n) :=
  ⟨pe_ifExp h.1 h1.1 h2.1, fun S0 σ S H Q I k => h.2 S0 σ S H _ I (mc.mono (fun _ z => z) (fun x q S1 H1 I1 st1 => by
    have ho : ∀ ad, H1 ad = none → H ad = none := fun ad z => by
      cases e : H ad with
      | none => rfl
      | some o => exact (st1.there ad (by rw [e]; exact fun z => nomatch z) z).elim
    cases x with
    | true =>
      rw [if_pos rfl]
      exact h1.2 S0 σ S1 H1 Q I1 (m.mono (fun _ z => z) (fun y q2 ad o S2 H2 I2 st2 n1 n2 n3 r2 => q2 ad o S2 H2 I2 (st1.trans st2) (ho ad n1) n2 n3 r2) q)
    | false =>
      rw [if_neg Bool.false_ne_true]
      exact h2.2 S0 σ S1 H1 Q I1 (n.mono (fun _ z => z) (fun y q2 ad o S2 H2 I2 st2 n1 n2 n3 r2 => q2 ad o S2 H2 I2 (st1.trans st2) (ho ad n1) n2 n3 r2) q)) k)⟩
/-! ### other types of the same value -/
theorem ev_as {w : Ty X.K β} {f : α → β} (h : EvW fr C te t m) (hr : ∀ x v H, t.rel x v H → w.rel (f x) v H) : EvW fr C te w (Wt.bind m fun x => Wt.pure (f x)) := fun S0 σ S H Q I k =>
  h S0 σ S H _ I (m.mono (fun _ z => z) (fun x q v S1 H1 I1 st1 r => q v S1 H1 I1 st1 (hr x v S1 r)) k)
theorem x_qL {m : Wt (List α)} (h : EX X fr C e te (yL t) m) : EX X fr C e te (yQ t) (Wt.bind m fun x => Wt.pure (true, x)) := ⟨h.1, ev_as h.2 fun x v H r => show (if (true : Bool) = true then (yL t).rel x v H else (yT t).rel x v H) from by rw [if_pos rfl]; exact r⟩
theorem x_qT {m : Wt (List α)} (h : EX X fr C e te (yT t) m) : EX X fr C e te (yQ t) (Wt.bind m fun x => Wt.pure (false, x)) := ⟨h.1, ev_as h.2 fun x v H r => show (if (false : Bool) = true then (yL t).rel x v H else (yT t).rel x v H) from by rw [if_neg Bool.false_ne_true]; exact r⟩
theorem x_some (h : EX X fr C e te t m) : EX X fr C e te (yO t) (Wt.bind m fun x => Wt.pure (some x)) := ⟨h.1, ev_as h.2 fun x v H r => r⟩
theorem x_none {m : Wt Unit} (h : EX X fr C e te yN m) : EX X fr C e te (yO t) (Wt.bind m fun _ => Wt.pure none) := ⟨h.1, ev_as h.2 fun x v H r => r⟩
end
end T9
namespace T9
open L2 PyProof.Rows PySem.Spec PySem
/-- a slice -/
def cutL {α : Type} (xs : List α) (lo hi : Option Int) : List α := (xs.drop (HT.sIx xs.length 0 lo)).take (HT.sIx xs.length xs.length hi - HT.sIx xs.length 0 lo)
theorem All2.cut {α : Type} {R : α → V → Hp → Prop} {H : Hp} {xs : List α} {vs : List V} (lo hi : Option Int) (h : All2 R xs vs H) : All2 R (cutL xs lo hi) (cutV vs lo hi) H := by
  unfold cutL cutV
  rw [h.length]
  exact All2.take _ (All2.drop _ h)
theorem All2.at {α : Type} {R : α → V → Hp → Prop} {H : Hp} {xs : List α} {vs : List V} {i : Int} {x : α} (h : All2 R xs vs H) (e : atI xs i = some x) : ∃ v, atI vs i = some v ∧ R x v H := by
  unfold atI at e ⊢
  rw [h.length]
  cases q : ixN xs.length i with
  | none => rw [q] at e; cases e
  | some j =>
    rw [q] at e
    exact All2.get h e
section
variable {α β γ ρ δ : Type} {X : Cx} {fr : Fx} {C : Ct X.K} {e a b c : Expr} {es rest : List Expr} {te ta tb tc : TE} {tt tu : TT} {tl : TA} {pos p p2 p3 : Pos} {m : Wt α} {n : Wt β} {t : Ty X.K α} {u : Ty X.K β} {op op' : CmpOp}
/-! ### built-ins by their name -/
abbrev S1 (X : Cx) (e : Expr) : Prop := starEach [e] X.env = (false, eval e X.env) :: starEach [] X.env
abbrev S2 (X : Cx) (a b : Expr) : Prop := starEach [a, b] X.env = (false, eval a X.env) :: starEach [b] X.env
def rLn (K : PySem.W.Frag) : List V → Hp → VK → Prop := fun xs H Q => ∃ p ys, xs = [.ref p] ∧ (SqL K H p ys ∨ SqT K H p ys) ∧ Q (.int ys.length) H
def rLs (K : PySem.W.Frag) : List V → Hp → VK → Prop := fun xs H Q => ∃ p ys, xs = [.ref p] ∧ (SqL K H p ys ∨ SqT K H p ys) ∧ ∀ l, H l = none → Q (.ref l) (upd H l (.lst ys))
def rTu (K : PySem.W.Frag) : List V → Hp → VK → Prop := fun xs H Q => ∃ p ys, xs = [.ref p] ∧ ((SqL K H p ys ∧ ∀ l, H l = none → Q (.ref l) (upd H l (.tup ys))) ∨ (SqT K H p ys ∧ Q (.ref p) H))
def rAb : List V → Hp → VK → Prop := fun xs H Q => ∃ i, xs = [.int i] ∧ Q (.int (if i < 0 then -i else i)) H
def rIn1 : List V → Hp → VK → Prop := fun xs H Q => (∃ i, xs = [.int i] ∧ Q (.int i) H) ∨ ∃ k, xs = [.bl k] ∧ Q (.int (if k then 1 else 0)) H
def rMx2 : List V → Hp → VK → Prop := fun xs H Q => ∃ i j, xs = [.int i, .int j] ∧ Q (.int (if j > i then j else i)) H
def rMn2 : List V → Hp → VK → Prop := fun xs H Q => ∃ i j, xs = [.int i, .int j] ∧ Q (.int (if j < i then j else i)) H
theorem ev_c1 {r : List V → Hp → VK → Prop} {w : Ty X.K γ} {f : α → Wt γ} (h1 : EvW fr C te t m)
    (hr : ∀ S0 σ S H x v (Q : VK), Sta fr S0 C σ S H → t.rel x v S → (f x).run fr.E (fun z => ∀ v' S' H', Sta fr S0 C σ S' H' → Stp C σ S H S' H' → w.rel z v' S' → Q v' H') → r [v] H Q) :
    EvW fr C (tCB r (tCons te tNil)) w (Wt.bind m f) := fun S0 σ S H Q I k =>
  h1 S0 σ S H _ I (m.mono (fun _ z => z) (fun x q v1 S1 H1 I1 st1 r1 => hr S0 σ S1 H1 x v1 Q I1 r1 ((f x).mono (fun _ z => z) (fun z q2 v2 S2 H2 I2 st2 r2 => q2 v2 S2 H2 I2 (st1.trans st2) r2) q)) k)
theorem ev_cB {r : List V → Hp → VK → Prop} {w : Ty X.K γ} {m : Wt (List α)} {f : List α → Wt γ} (h1 : EvB fr C te t m)
    (hr : ∀ S0 σ S H x v (Q : VK), Sta fr S0 C σ S H → RB t x v C σ S H → (f x).run fr.E (fun z => ∀ v' S' H', Sta fr S0 C σ S' H' → Stp C σ S H S' H' → w.rel z v' S' → Q v' H') → r [v] H Q) :
    EvW fr C (tCB r (tCons te tNil)) w (Wt.bind m f) := fun S0 σ S H Q I k =>
  h1 S0 σ S H _ I (m.mono (fun _ z => z) (fun x q v1 S1 H1 I1 st1 r1 => hr S0 σ S1 H1 x v1 Q I1 r1 ((f x).mono (fun _ z => z) (fun z q2 v2 S2 H2 I2 st2 r2 => q2 v2 S2 H2 I2 (st1.trans st2) r2) q)) k)
/-- .. to a new list -/
theorem em_c1 {r : List V → Hp → VK → Prop} {w : Mty X.K γ} {f : α → Wt γ} (h1 : EvW fr C te t m)
    (hr : ∀ S0 σ S H x v (Q : VK), Sta fr S0 C σ S H → t.rel x v S → (f x).run fr.E (fun z => ∀ ad o S' H', Sta fr S0 C σ S' H' → Stp C σ S H S' H' → H ad = none → S' ad = none → H' ad = some o → w.rel z o S' → Q (.ref ad) H') → r [v] H Q) :
    EvM fr C (tCB r (tCons te tNil)) w (Wt.bind m f) := fun S0 σ S H Q I k =>
  h1 S0 σ S H _ I (m.mono (fun _ z => z) (fun x q v1 S1 H1 I1 st1 r1 => hr S0 σ S1 H1 x v1 Q I1 r1 ((f x).mono (fun _ z => z) (fun z q2 v2 o S2 H2 I2 st2 n1 n2 n3 r2 => q2 v2 o S2 H2 I2 (st1.trans st2) (hnew st1 n1) n2 n3 r2) q)) k)
theorem em_cB {r : List V → Hp → VK → Prop} {w : Mty X.K γ} {m : Wt (List α)} {f : List α → Wt γ} (h1 : EvB fr C te t m)
    (hr : ∀ S0 σ S H x v (Q : VK), Sta fr S0 C σ S H → RB t x v C σ S H → (f x).run fr.E (fun z => ∀ ad o S' H', Sta fr S0 C σ S' H' → Stp C σ S H S' H' → H ad = none → S' ad = none → H' ad = some o → w.rel z o S' → Q (.ref ad) H') → r [v] H Q) :
    EvM fr C (tCB r (tCons te tNil)) w (Wt.bind m f) := fun S0 σ S H Q I k =>
  h1 S0 σ S H _ I (m.mono (fun _ z => z) (fun x q v1 S1 H1 I1 st1 r1 => hr S0 σ S1 H1 x v1 Q I1 r1 ((f x).mono (fun _ z => z) (fun z q2 v2 o S2 H2 I2 st2 n1 n2 n3 r2 => q2 v2 o S2 H2 I2 (st1.trans st2) (hnew st1 n1) n2 n3 r2) q)) k)
/-- a new list of these values -/
theorem new_lst {S0 : Hp} {σ : L2.St} {S H : Hp} {xs : List α} {vs : List V} {t : Ty X.K α} {Q : VK} (I : Sta fr S0 C σ S H) (r : All2 t.rel xs vs S)
    (k : ∀ ad o S' H', Sta fr S0 C σ S' H' → Stp C σ S H S' H' → H ad = none → S' ad = none → H' ad = some o → (mL t).rel xs o S' → Q (.ref ad) H') : ∀ q, H q = none → Q (.ref q) (upd H q (.lst vs)) := fun q hq => by
  obtain ⟨I2, st⟩ := I.newM (o := .lst vs) hq
  exact k q (.lst vs) S _ I2 st hq (Evl.fresh_back I.land.sub hq) upd_same ⟨vs, rfl, r⟩
theorem new_tup {S0 : Hp} {σ : L2.St} {S H : Hp} {xs : List α} {vs : List V} {t : Ty X.K α} {Q : VK} (I : Sta fr S0 C σ S H) (r : All2 t.rel xs vs S)
    (k : ∀ v S' H', Sta fr S0 C σ S' H' → Stp C σ S H S' H' → (yT t).rel xs v S' → Q v H') : ∀ q, H q = none → Q (.ref q) (upd H q (.tup vs)) := fun q hq => by
  obtain ⟨I2, st⟩ := I.new (o := .tup vs) hq
  exact k (.ref q) _ _ I2 st ⟨q, vs, rfl, upd_same, r.mono fun _ _ => t.mono st.ex⟩
theorem sqB {K : PySem.W.Frag} {t : Ty K α} {x : List α} {v : V} {C : Ct K} {σ : L2.St} {S H : Hp} (h : RB t x v C σ S H) : ∃ ad vs, v = .ref ad ∧ SqL K H ad vs ∧ All2 t.rel x vs S := by
  obtain ⟨ad, vs, h1, h2, h3, _⟩ := h
  exact ⟨ad, vs, h1, .inl (.inl h2), h3⟩
theorem sqT {K : PySem.W.Frag} {t : Ty K α} {x : List α} {v : V} {S H : Hp} (hs : Ex S H) (h : (yT t).rel x v S) : ∃ ad vs, v = .ref ad ∧ SqT K H ad vs ∧ All2 t.rel x vs S := by
  obtain ⟨ad, vs, h1, h2, h3⟩ := h
  exact ⟨ad, vs, h1, .inl (.inl (hs ad _ h2)), h3⟩
/-! ### len, list(), tuple(), sum, all, any, abs, int, bool, min, max -/
theorem x_lenB {m : Wt (List α)} (hm : X.mg "len" = none) (h : BX X fr C e te t m) (hg : Gl X "len" := by rfl) (hs : S1 X e := by rfl) : EX X fr C (.Call (.Name "len" p) [e] [] pos) (tCB (rLn X.K) (tCons te tNil)) yI (Wt.bind m fun xs => Wt.pure (xs.length : Int)) :=
  ⟨pe_callB call_len_seq hg hm PySem.boot_len (pa_cons h.1 pa_nil hs) (he := hs), ev_cB h.2 fun S0 σ S H x v Q I r k => by
    obtain ⟨ad, vs, rfl, h2, h3⟩ := sqB r
    refine ⟨ad, vs, rfl, .inl h2, ?_⟩
    rw [h3.length]
    exact k _ S H I Stp.refl rfl⟩
theorem x_lenT {m : Wt (List α)} (hm : X.mg "len" = none) (h : EX X fr C e te (yT t) m) (hg : Gl X "len" := by rfl) (hs : S1 X e := by rfl) : EX X fr C (.Call (.Name "len" p) [e] [] pos) (tCB (rLn X.K) (tCons te tNil)) yI (Wt.bind m fun xs => Wt.pure (xs.length : Int)) :=
  ⟨pe_callB call_len_seq hg hm PySem.boot_len (pa_cons h.1 pa_nil hs) (he := hs), ev_c1 h.2 fun S0 σ S H x v Q I r k => by
    obtain ⟨ad, vs, rfl, h2, h3⟩ := sqT I.land.sub r
    refine ⟨ad, vs, rfl, .inr h2, ?_⟩
    rw [h3.length]
    exact k _ S H I Stp.refl rfl⟩
theorem sqQ {K : PySem.W.Frag} {t : Ty K α} {x : Bool × List α} {v : V} {S H : Hp} (hs : Ex S H) (h : (yQ t).rel x v S) : ∃ ad vs, v = .ref ad ∧ ((x.1 = true ∧ S ad = some (.lst vs) ∧ SqL K H ad vs) ∨ (x.1 = false ∧ S ad = some (.tup vs) ∧ SqT K H ad vs)) ∧ All2 t.rel x.2 vs S := by
  obtain ⟨bb, x⟩ := x
  cases bb with
  | true =>
    have h : (if (true : Bool) = true then (yL t).rel x v S else (yT t).rel x v S) := h
    rw [if_pos rfl] at h
    obtain ⟨ad, vs, h1, h2, h3⟩ := h
    exact ⟨ad, vs, h1, .inl ⟨rfl, h2, .inl (.inl (hs ad _ h2))⟩, h3⟩
  | false =>
    have h : (if (false : Bool) = true then (yL t).rel x v S else (yT t).rel x v S) := h
    rw [if_neg Bool.false_ne_true] at h
    obtain ⟨ad, vs, h1, h2, h3⟩ := h
    exact ⟨ad, vs, h1, .inr ⟨rfl, h2, .inl (.inl (hs ad _ h2))⟩, h3⟩
theorem x_lenQ {m : Wt (Bool × List α)} (hm : X.mg "len" = none) (h : EX X fr C e te (yQ t) m) (hg : Gl X "len" := by rfl) (hs : S1 X e := by rfl) : EX X fr C (.Call (.Name "len" p) [e] [] pos) (tCB (rLn X.K) (tCons te tNil)) yI (Wt.bind m fun xs => Wt.pure (xs.2.length : Int)) :=
  ⟨pe_callB call_len_seq hg hm PySem.boot_len (pa_cons h.1 pa_nil hs) (he := hs), ev_c1 h.2 fun S0 σ S H x v Q I r k => by
    obtain ⟨ad, vs, rfl, h2, h3⟩ := sqQ I.land.sub r
    refine ⟨ad, vs, rfl, h2.elim (fun z => .inl z.2.2) (fun z => .inr z.2.2), ?_⟩
    rw [h3.length]
    exact k _ S H I Stp.refl rfl⟩
theorem x_lenSc {m : Wt (List Int)} (hm : X.mg "len" = none) (h : EX X fr C e te yScript m) (hg : Gl X "len" := by rfl) (hs : S1 X e := by rfl) : EX X fr C (.Call (.Name "len" p) [e] [] pos) (tCB (rLn X.K) (tCons te tNil)) yI (Wt.bind m fun xs => Wt.pure (xs.length : Int)) :=
  ⟨pe_callB call_len_seq hg hm PySem.boot_len (pa_cons h.1 pa_nil hs) (he := hs), ev_c1 h.2 fun S0 σ S H x v Q I r k => by
    obtain ⟨ad, rfl, h2⟩ := r
    refine ⟨ad, x.map V.int, rfl, .inl (Evl.ex_l I.land.sub h2), ?_⟩
    rw [List.length_map]
    exact k _ S H I Stp.refl rfl⟩
theorem x_listB {m : Wt (List α)} (hm : X.mg "list" = none) (h : BX X fr C e te t m) (hg : Gl X "list" := by rfl) (hs : S1 X e := by rfl) : MX X fr C (.Call (.Name "list" p) [e] [] pos) (tCB (rLs X.K) (tCons te tNil)) (mL t) (Wt.bind m fun xs => Wt.pure xs) :=
  ⟨pe_callTy call_list_of hg hm (by decide +kernel) (pa_cons h.1 pa_nil hs) (he := hs), em_cB h.2 fun S0 σ S H x v Q I r k => by
    obtain ⟨ad, vs, rfl, h2, h3⟩ := sqB r
    exact ⟨ad, vs, rfl, .inl h2, new_lst I h3 k⟩⟩
theorem x_listT {m : Wt (List α)} (hm : X.mg "list" = none) (h : EX X fr C e te (yT t) m) (hg : Gl X "list" := by rfl) (hs : S1 X e := by rfl) : MX X fr C (.Call (.Name "list" p) [e] [] pos) (tCB (rLs X.K) (tCons te tNil)) (mL t) (Wt.bind m fun xs => Wt.pure xs) :=
  ⟨pe_callTy call_list_of hg hm (by decide +kernel) (pa_cons h.1 pa_nil hs) (he := hs), em_c1 h.2 fun S0 σ S H x v Q I r k => by
    obtain ⟨ad, vs, rfl, h2, h3⟩ := sqT I.land.sub r
    exact ⟨ad, vs, rfl, .inr h2, new_lst I h3 k⟩⟩
theorem x_listQ {m : Wt (Bool × List α)} (hm : X.mg "list" = none) (h : EX X fr C e te (yQ t) m) (hg : Gl X "list" := by rfl) (hs : S1 X e := by rfl) : MX X fr C (.Call (.Name "list" p) [e] [] pos) (tCB (rLs X.K) (tCons te tNil)) (mL t) (Wt.bind m fun xs => Wt.pure xs.2) :=
  ⟨pe_callTy call_list_of hg hm (by decide +kernel) (pa_cons h.1 pa_nil hs) (he := hs), em_c1 h.2 fun S0 σ S H x v Q I r k => by
    obtain ⟨ad, vs, rfl, h2, h3⟩ := sqQ I.land.sub r
    exact ⟨ad, vs, rfl, h2.elim (fun z => .inl z.2.2) (fun z => .inr z.2.2), new_lst I h3 k⟩⟩
theorem x_tupB {m : Wt (List α)} (hm : X.mg "tuple" = none) (h : BX X fr C e te t m) (hg : Gl X "tuple" := by rfl) (hs : S1 X e := by rfl) : EX X fr C (.Call (.Name "tuple" p) [e] [] pos) (tCB (rTu X.K) (tCons te tNil)) (yT t) (Wt.bind m fun xs => Wt.pure xs) :=
  ⟨pe_callTy call_tuple_of hg hm (by decide +kernel) (pa_cons h.1 pa_nil hs) (he := hs), ev_cB h.2 fun S0 σ S H x v Q I r k => by
    obtain ⟨ad, vs, rfl, h2, h3⟩ := sqB r
    exact ⟨ad, vs, rfl, .inl ⟨h2, new_tup I h3 k⟩⟩⟩
theorem x_tupT {m : Wt (List α)} (hm : X.mg "tuple" = none) (h : EX X fr C e te (yT t) m) (hg : Gl X "tuple" := by rfl) (hs : S1 X e := by rfl) : EX X fr C (.Call (.Name "tuple" p) [e] [] pos) (tCB (rTu X.K) (tCons te tNil)) (yT t) (Wt.bind m fun xs => Wt.pure xs) :=
  ⟨pe_callTy call_tuple_of hg hm (by decide +kernel) (pa_cons h.1 pa_nil hs) (he := hs), ev_c1 h.2 fun S0 σ S H x v Q I r k => by
    obtain ⟨ad, vs, rfl, h2, h3⟩ := id r
    exact ⟨ad, vs, rfl, .inr ⟨.inl (.inl (I.land.sub _ _ h2)), k _ S H I Stp.refl r⟩⟩⟩
theorem x_tupQ {m : Wt (Bool × List α)} (hm : X.mg "tuple" = none) (h : EX X fr C e te (yQ t) m) (hg : Gl X "tuple" := by rfl) (hs : S1 X e := by rfl) : EX X fr C (.Call (.Name "tuple" p) [e] [] pos) (tCB (rTu X.K) (tCons te tNil)) (yT t) (Wt.bind m fun xs => Wt.pure xs.2) :=
  ⟨pe_callTy call_tuple_of hg hm (by decide +kernel) (pa_cons h.1 pa_nil hs) (he := hs), ev_c1 h.2 fun S0 σ S H x v Q I r k => by
    obtain ⟨ad, vs, rfl, h2, h3⟩ := sqQ I.land.sub r
    refine ⟨ad, vs, rfl, h2.elim (fun z => .inl ⟨z.2.2, new_tup I h3 k⟩) (fun z => .inr ⟨z.2.2, k _ S H I Stp.refl ⟨ad, vs, rfl, z.2.1, h3⟩⟩)⟩⟩
theorem x_sumB {m : Wt (List Int)} (hm : X.mg "sum" = none) (h : BX X fr C e te yI m) (hc : X.calm = true := by rfl) (hg : Gl X "sum" := by rfl) (hs : S1 X e := by rfl) : EX X fr C (.Call (.Name "sum" p) [e] [] pos) (tCB (rSum X.K) (tCons te tNil)) yI (Wt.bind m fun xs => Wt.pure xs.sum) :=
  ⟨pe_callB (cr_sum hc) hg hm (by decide +kernel) (pa_cons h.1 pa_nil hs) (he := hs), ev_cB h.2 fun S0 σ S H x v Q I r k => by
    obtain ⟨ad, vs, rfl, h2, h3⟩ := sqB r
    rw [all2_int h3] at h2
    exact ⟨ad, x, rfl, h2, k _ S H I Stp.refl rfl⟩⟩
theorem x_allB {m : Wt (List Bool)} (hm : X.mg "all" = none) (h : BX X fr C e te yB m) (hc : X.calm = true := by rfl) (hg : Gl X "all" := by rfl) (hs : S1 X e := by rfl) : EX X fr C (.Call (.Name "all" p) [e] [] pos) (tCB (rAll X.K) (tCons te tNil)) yB (Wt.bind m fun xs => Wt.pure (xs.all id)) :=
  ⟨pe_callB (cr_all hc) hg hm (by decide +kernel) (pa_cons h.1 pa_nil hs) (he := hs), ev_cB h.2 fun S0 σ S H x v Q I r k => by
    obtain ⟨ad, vs, rfl, h2, h3⟩ := sqB r
    rw [all2_bl h3] at h2
    exact ⟨ad, x, rfl, h2, k _ S H I Stp.refl rfl⟩⟩
theorem x_anyB {m : Wt (List Bool)} (hm : X.mg "any" = none) (h : BX X fr C e te yB m) (hc : X.calm = true := by rfl) (hg : Gl X "any" := by rfl) (hs : S1 X e := by rfl) : EX X fr C (.Call (.Name "any" p) [e] [] pos) (tCB (rAny X.K) (tCons te tNil)) yB (Wt.bind m fun xs => Wt.pure (xs.any id)) :=
  ⟨pe_callB (cr_any hc) hg hm (by decide +kernel) (pa_cons h.1 pa_nil hs) (he := hs), ev_cB h.2 fun S0 σ S H x v Q I r k => by
    obtain ⟨ad, vs, rfl, h2, h3⟩ := sqB r
    rw [all2_bl h3] at h2
    exact ⟨ad, x, rfl, h2, k _ S H I Stp.refl rfl⟩⟩
theorem x_abs {m : Wt Int} (hm : X.mg "abs" = none) (h : EX X fr C e te yI m) (hg : Gl X "abs" := by rfl) (hs : S1 X e := by rfl) : EX X fr C (.Call (.Name "abs" p) [e] [] pos) (tCB rAb (tCons te tNil)) yI (Wt.bind m fun x => Wt.pure (if x < 0 then -x else x)) :=
  ⟨pe_callB call_abs hg hm (by decide +kernel) (pa_cons h.1 pa_nil hs) (he := hs), ev_c1 h.2 fun S0 σ S H x v Q I r k => ⟨x, by rw [show v = .int x from r], k _ S H I Stp.refl rfl⟩⟩
theorem x_intI {m : Wt Int} (hm : X.mg "int" = none) (h : EX X fr C e te yI m) (hg : Gl X "int" := by rfl) (hs : S1 X e := by rfl) : EX X fr C (.Call (.Name "int" p) [e] [] pos) (tCB rIn1 (tCons te tNil)) yI (Wt.bind m fun x => Wt.pure x) :=
  ⟨pe_callTy call_int1 hg hm (by decide +kernel) (pa_cons h.1 pa_nil hs) (he := hs), ev_c1 h.2 fun S0 σ S H x v Q I r k => .inl ⟨x, by rw [show v = .int x from r], k _ S H I Stp.refl rfl⟩⟩
theorem x_intB {m : Wt Bool} (hm : X.mg "int" = none) (h : EX X fr C e te yB m) (hg : Gl X "int" := by rfl) (hs : S1 X e := by rfl) : EX X fr C (.Call (.Name "int" p) [e] [] pos) (tCB rIn1 (tCons te tNil)) yI (Wt.bind m fun x => Wt.pure (if x then 1 else 0)) :=
  ⟨pe_callTy call_int1 hg hm (by decide +kernel) (pa_cons h.1 pa_nil hs) (he := hs), ev_c1 h.2 fun S0 σ S H x v Q I r k => .inr ⟨x, by rw [show v = .bl x from r], k _ S H I Stp.refl rfl⟩⟩
theorem ev_c2 {r : List V → Hp → VK → Prop} {w : Ty X.K γ} {f : α → β → Wt γ} (h1 : EvW fr C ta t m) (h2 : EvW fr C tb u n)
    (hr : ∀ S0 σ S H x y v1 v2 (Q : VK), Sta fr S0 C σ S H → t.rel x v1 S → u.rel y v2 S → (f x y).run fr.E (fun z => ∀ v' S' H', Sta fr S0 C σ S' H' → Stp C σ S H S' H' → w.rel z v' S' → Q v' H') → r [v1, v2] H Q) :
    EvW fr C (tCB r (tCons ta (tCons tb tNil))) w (Wt.bind m fun x => Wt.bind n fun y => f x y) := fun S0 σ S H Q I k =>
  h1 S0 σ S H _ I (m.mono (fun _ z => z) (fun x q v1 S1 H1 I1 st1 r1 => h2 S0 σ S1 H1 _ I1 (n.mono (fun _ z => z) (fun y q2 v2 S2 H2 I2 st2 r2 =>
    hr S0 σ S2 H2 x y v1 v2 Q I2 (t.mono st2.ex r1) r2 ((f x y).mono (fun _ z => z) (fun z q3 v3 S3 H3 I3 st3 r3 => q3 v3 S3 H3 I3 ((st1.trans st2).trans st3) r3) q2)) q)) k)
theorem x_max2 {m n : Wt Int} (hm : X.mg "max" = none) (h1 : EX X fr C a ta yI m) (h2 : EX X fr C b tb yI n) (hc : X.calm = true := by rfl) (hg : Gl X "max" := by rfl) (hs : S2 X a b := by rfl) (hs2 : S1 X b := by rfl) : EX X fr C (.Call (.Name "max" p) [a, b] [] pos) (tCB rMx2 (tCons ta (tCons tb tNil))) yI (Wt.bind m fun x => Wt.bind n fun y => Wt.pure (if y > x then y else x)) :=
  ⟨pe_callB (call_max2 hc) hg hm (by decide +kernel) (pa_cons h1.1 (pa_cons h2.1 pa_nil hs2) hs) (he := hs) (hpl := by rw [hs2]; rfl), ev_c2 h1.2 h2.2 fun S0 σ S H x y v1 v2 Q I r1 r2 k => ⟨x, y, by rw [show v1 = .int x from r1, show v2 = .int y from r2], k _ S H I Stp.refl rfl⟩⟩
theorem x_min2 {m n : Wt Int} (hm : X.mg "min" = none) (h1 : EX X fr C a ta yI m) (h2 : EX X fr C b tb yI n) (hc : X.calm = true := by rfl) (hg : Gl X "min" := by rfl) (hs : S2 X a b := by rfl) (hs2 : S1 X b := by rfl) : EX X fr C (.Call (.Name "min" p) [a, b] [] pos) (tCB rMn2 (tCons ta (tCons tb tNil))) yI (Wt.bind m fun x => Wt.bind n fun y => Wt.pure (if y < x then y else x)) :=
  ⟨pe_callB (call_min2 hc) hg hm (by decide +kernel) (pa_cons h1.1 (pa_cons h2.1 pa_nil hs2) hs) (he := hs) (hpl := by rw [hs2]; rfl), ev_c2 h1.2 h2.2 fun S0 σ S H x y v1 v2 Q I r1 r2 k => ⟨x, y, by rw [show v1 = .int x from r1, show v2 = .int y from r2], k _ S H I Stp.refl rfl⟩⟩
/-! ### subscripts, slices -/
theorem ev_opB {r : R2} {w : Ty X.K γ} {m : Wt (List α)} {f : List α → β → Wt γ} (h1 : EvB fr C ta t m) (h2 : EvW fr C tb u n)
    (hr : ∀ S0 σ S H x y v1 v2 (Q : VK), Sta fr S0 C σ S H → RB t x v1 C σ S H → u.rel y v2 S → (f x y).run fr.E (fun z => ∀ v S' H', Sta fr S0 C σ S' H' → Stp C σ S H S' H' → w.rel z v S' → Q v H') → r v1 v2 H Q) :
    EvW fr C (tOp r ta tb) w (Wt.bind m fun x => Wt.bind n fun y => f x y) := fun S0 σ S H Q I k => by
  refine h1 S0 σ S H _ I (m.mono (fun _ z => z) (fun x q v1 S1 H1 I1 st1 r1 => ?_) k)
  refine h2 S0 σ S1 H1 _ I1 (n.mono (fun _ z => z) (fun y q2 v2 S2 H2 I2 st2 r2 => ?_) q)
  obtain ⟨ad, vs, e1, e2, e3, e4⟩ := r1
  refine hr S0 σ S2 H2 x y v1 v2 Q I2 ⟨ad, vs, e1, st2.keep ad _ e4 e2, e3.mono fun _ _ => t.mono st2.ex, e4⟩ r2 ((f x y).mono (fun _ z => z) (fun z q3 v S3 H3 I3 st3 r3 => ?_) q2)
  exact q3 v S3 H3 I3 ((st1.trans st2).trans st3) r3
theorem x_ixB {m : Wt (List α)} {n : Wt Int} (h1 : BX X fr C a ta t m) (h2 : EX X fr C b tb yI n) (hs : PlainIx b := by exact fun _ _ => rfl) : EX X fr C (.Subscript a b pos) (tOp (rIxL X.K) ta tb) t (Wt.bind m fun x => Wt.bind n fun y => Wt.opt (atI x y)) :=
  ⟨pe_ix ix_list h1.1 h2.1 hs, ev_opB h1.2 h2.2 fun S0 σ S H x y v1 v2 Q I r1 r2 k => by
    obtain ⟨ad, vs, rfl, e2, e3⟩ := sqB r1
    obtain ⟨z, ez, k⟩ := k
    obtain ⟨v, ev, rv⟩ := e3.at ez
    exact ⟨ad, vs, y, v, rfl, r2, e2, ev, k v S H I Stp.refl rv⟩⟩
theorem x_ixT {m : Wt (List α)} {n : Wt Int} (h1 : EX X fr C a ta (yT t) m) (h2 : EX X fr C b tb yI n) (hs : PlainIx b := by exact fun _ _ => rfl) : EX X fr C (.Subscript a b pos) (tOp (rIxT X.K) ta tb) t (Wt.bind m fun x => Wt.bind n fun y => Wt.opt (atI x y)) :=
  ⟨pe_ix ix_tup h1.1 h2.1 hs, ev_op2 h1.2 h2.2 fun S0 σ S H x y v1 v2 Q I r1 r2 k => by
    obtain ⟨ad, vs, rfl, e2, e3⟩ := sqT I.land.sub r1
    obtain ⟨z, ez, k⟩ := k
    obtain ⟨v, ev, rv⟩ := e3.at ez
    exact ⟨ad, vs, y, v, rfl, r2, e2, ev, k v S H I Stp.refl rv⟩⟩
theorem x_ixQ {m : Wt (Bool × List α)} {n : Wt Int} (h1 : EX X fr C a ta (yQ t) m) (h2 : EX X fr C b tb yI n) (hs : PlainIx b := by exact fun _ _ => rfl) : EX X fr C (.Subscript a b pos) (tOp (rIx X.K) ta tb) t (Wt.bind m fun x => Wt.bind n fun y => Wt.opt (atI x.2 y)) :=
  ⟨pe_ix ix_seq h1.1 h2.1 hs, ev_op2 h1.2 h2.2 fun S0 σ S H x y v1 v2 Q I r1 r2 k => by
    obtain ⟨ad, vs, rfl, e2, e3⟩ := sqQ I.land.sub r1
    obtain ⟨z, ez, k⟩ := k
    obtain ⟨v, ev, rv⟩ := e3.at ez
    exact e2.elim (fun e2 => .inl ⟨ad, vs, y, v, rfl, r2, e2.2.2, ev, k v S H I Stp.refl rv⟩) (fun e2 => .inr (.inl ⟨ad, vs, y, v, rfl, r2, e2.2.2, ev, k v S H I Stp.refl rv⟩))⟩
/-- of a pair, of a triple -/
theorem x_p0 {m : Wt (α × β)} {jj} (h1 : EX X fr C a ta (yP t u) m) : EX X fr C (.Subscript a (.Constant (.int 0) jj p2) pos) (tOp (rIxT X.K) ta (tC (.int 0))) t (Wt.bind m fun x => Wt.pure x.1) :=
  ⟨pe_ix ix_tup h1.1 pe_int (fun _ _ => rfl), fun S0 σ S H Q I k => h1.2 S0 σ S H _ I (m.mono (fun _ z => z) (fun x q v1 S1 H1 I1 st1 r1 => by
    obtain ⟨ad, w1, w2, e1, e2, e3, e4⟩ := r1
    exact ⟨ad, [w1, w2], 0, w1, e1, rfl, .inl (.inl (I1.land.sub _ _ e2)), rfl, q w1 S1 H1 I1 st1 e3⟩) k)⟩
theorem x_p1 {m : Wt (α × β)} {jj} (h1 : EX X fr C a ta (yP t u) m) : EX X fr C (.Subscript a (.Constant (.int 1) jj p2) pos) (tOp (rIxT X.K) ta (tC (.int 1))) u (Wt.bind m fun x => Wt.pure x.2) :=
  ⟨pe_ix ix_tup h1.1 pe_int (fun _ _ => rfl), fun S0 σ S H Q I k => h1.2 S0 σ S H _ I (m.mono (fun _ z => z) (fun x q v1 S1 H1 I1 st1 r1 => by
    obtain ⟨ad, w1, w2, e1, e2, e3, e4⟩ := r1
    exact ⟨ad, [w1, w2], 1, w2, e1, rfl, .inl (.inl (I1.land.sub _ _ e2)), rfl, q w2 S1 H1 I1 st1 e4⟩) k)⟩
abbrev OX (X : Cx) (fr : Fx) (C : Ct X.K) (e : Option Expr) (to : TO) (m : Wt (Option Int)) : Prop := PO X e to ∧ (∀ (S0 : Hp) (σ : L2.St) (S H : Hp) (Q : Option Int → Hp → Prop), Sta fr S0 C σ S H → m.run fr.E (fun x => ∀ S' H', Sta fr S0 C σ S' H' → Stp C σ S H S' H' → Q x H') → to σ H Q)
theorem o_none : OX X fr C none tNoPart (Wt.pure none) := ⟨po_none, fun S0 σ S H Q I k => k S H I Stp.refl⟩
theorem o_some {m : Wt Int} (h : EX X fr C e te yI m) : OX X fr C (some e) (tPart te) (Wt.bind m fun x => Wt.pure (some x)) := ⟨po_some h.1, fun S0 σ S H Q I k => h.2 S0 σ S H _ I (m.mono (fun _ z => z) (fun x q v1 S1 H1 I1 st1 r1 => ⟨x, r1, q S1 H1 I1 st1⟩) k)⟩
theorem x_slB {lo hi : Option Expr} {tlo thi : TO} {m : Wt (List α)} {ml mh : Wt (Option Int)} (h1 : BX X fr C a ta t m) (h2 : OX X fr C lo tlo ml) (h3 : OX X fr C hi thi mh) : MX X fr C (.Subscript a (.Slice lo hi none p2) pos) (tSl (rSlL X.K) ta tlo thi) (mL t) (Wt.bind m fun x => Wt.bind ml fun l => Wt.bind mh fun h => Wt.pure (cutL x l h)) :=
  ⟨pe_slice sl_list h1.1 h2.1 h3.1, fun S0 σ S H Q I k => by
    refine h1.2 S0 σ S H _ I (m.mono (fun _ z => z) (fun x q v1 S1 H1 I1 st1 r1 => ?_) k)
    refine h2.2 S0 σ S1 H1 _ I1 (ml.mono (fun _ z => z) (fun l q2 S2 H2 I2 st2 => ?_) q)
    refine h3.2 S0 σ S2 H2 _ I2 (mh.mono (fun _ z => z) (fun h q3 S3 H3 I3 st3 => ?_) q2)
    obtain ⟨ad, vs, e1, e2, e3, e4⟩ := r1
    have st := st2.trans st3
    refine ⟨ad, vs, e1, .inl (.inl (st.keep ad _ e4 e2)), new_lst I3 (All2.cut l h (e3.mono fun _ _ => t.mono st.ex)) fun ad' o S' H' I' st' n1 n2 n3 r => q3 ad' o S' H' I' ((st1.trans st).trans st') (hnew (st1.trans st) n1) n2 n3 r⟩⟩
theorem x_slT {lo hi : Option Expr} {tlo thi : TO} {m : Wt (List α)} {ml mh : Wt (Option Int)} (h1 : EX X fr C a ta (yT t) m) (h2 : OX X fr C lo tlo ml) (h3 : OX X fr C hi thi mh) : EX X fr C (.Subscript a (.Slice lo hi none p2) pos) (tSl (rSlA X.K) ta tlo thi) (yT t) (Wt.bind m fun x => Wt.bind ml fun l => Wt.bind mh fun h => Wt.pure (cutL x l h)) :=
  ⟨pe_slice sl_tupA h1.1 h2.1 h3.1, fun S0 σ S H Q I k => by
    refine h1.2 S0 σ S H _ I (m.mono (fun _ z => z) (fun x q v1 S1 H1 I1 st1 r1 => ?_) k)
    refine h2.2 S0 σ S1 H1 _ I1 (ml.mono (fun _ z => z) (fun l q2 S2 H2 I2 st2 => ?_) q)
    refine h3.2 S0 σ S2 H2 _ I2 (mh.mono (fun _ z => z) (fun h q3 S3 H3 I3 st3 => ?_) q2)
    have st := st2.trans st3
    obtain ⟨ad, vs, e1, e2, e3⟩ := (yT t).mono st.ex r1
    refine ⟨ad, vs, e1, .inl (.inl (I3.land.sub _ _ e2)), fun ⟨z1, z2⟩ => ?_, fun _ => new_tup I3 (All2.cut l h e3) fun v S' H' I' st' r => q3 v S' H' I' ((st1.trans st).trans st') r⟩
    have ec : cutL x l h = x := by
      have el := e3.length
      rw [el] at z1 z2
      unfold cutL
      rw [z1, z2, List.drop_zero, Nat.sub_zero, List.take_length]
    refine q3 _ S3 H3 I3 (st1.trans st) ?_
    rw [ec]
    exact ⟨ad, vs, rfl, e2, e3⟩⟩
/-! ### + and * of sequences -/
theorem x_catT {m n : Wt (List α)} (h1 : EX X fr C a ta (yT t) m) (h2 : EX X fr C b tb (yT t) n) : EX X fr C (.BinOp a .Add b pos) (tOp (rCatA X.K) ta tb) (yT t) (Wt.bind m fun x => Wt.bind n fun y => Wt.req (x.length + y.length ≤ sizeLine) (Wt.pure (x ++ y))) :=
  ⟨pe_op op_catA h1.1 h2.1, ev_op2 h1.2 h2.2 fun S0 σ S H x y v1 v2 Q I r1 r2 k => by
    obtain ⟨a1, vs, rfl, e2, e3⟩ := id r1
    obtain ⟨a2, ws, rfl, f2, f3⟩ := id r2
    obtain ⟨hz, k⟩ := k
    have l1 := e3.length
    have l2 := f3.length
    refine ⟨a1, a2, vs, ws, rfl, rfl, .inl (.inl (I.land.sub _ _ e2)), .inl (.inl (I.land.sub _ _ f2)), by rw [l1, l2]; exact hz, fun z => ?_, fun _ z => ?_, fun _ _ => new_tup I (All2.append e3 f3) k⟩
    · have ex : x = [] := by
        rw [z] at l1
        exact List.eq_nil_of_length_eq_zero l1.symm
      have ey : x ++ y = y := by rw [ex]; rfl
      refine k _ S H I Stp.refl ?_
      rw [ey]
      exact ⟨a2, ws, rfl, f2, f3⟩
    · have ex : y = [] := by
        rw [z] at l2
        exact List.eq_nil_of_length_eq_zero l2.symm
      have ey : x ++ y = x := by rw [ex, List.append_nil]
      refine k _ S H I Stp.refl ?_
      rw [ey]
      exact ⟨a1, vs, rfl, e2, e3⟩⟩
theorem x_catL {m n : Wt (List α)} (h1 : BX X fr C a ta t m) (h2 : BX X fr C b tb t n) : MX X fr C (.BinOp a .Add b pos) (tOp rCat ta tb) (mL t) (Wt.bind m fun x => Wt.bind n fun y => Wt.req (x.length + y.length ≤ sizeLine) (Wt.pure (x ++ y))) :=
  ⟨pe_op op_cat h1.1 h2.1, fun S0 σ S H Q I k => by
    refine h1.2 S0 σ S H _ I (m.mono (fun _ z => z) (fun x q v1 S1 H1 I1 st1 r1 => ?_) k)
    refine h2.2 S0 σ S1 H1 _ I1 (n.mono (fun _ z => z) (fun y q2 v2 S2 H2 I2 st2 r2 => ?_) q)
    obtain ⟨hz, q2⟩ := q2
    obtain ⟨a1, vs, e1, e2, e3, e4⟩ := r1
    obtain ⟨a2, ws, f1, f2, f3, f4⟩ := r2
    refine ⟨a1, a2, vs, ws, e1, f1, st2.keep _ _ e4 e2, f2, by rw [e3.length, f3.length]; exact hz, ?_⟩
    exact new_lst I2 (All2.append (e3.mono fun _ _ => t.mono st2.ex) f3) fun ad' o S' H' I' st' n1 n2 n3 r => q2 ad' o S' H' I' ((st1.trans st2).trans st') (hnew (st1.trans st2) n1) n2 n3 r⟩
theorem All2.rep {R : α → V → Hp → Prop} {H : Hp} {xs : List α} {vs : List V} (h : All2 R xs vs H) : ∀ k : Nat, All2 R (List.replicate k xs).flatten (List.replicate k vs).flatten H
  | 0 => True.intro
  | k + 1 => by
    rw [List.replicate_succ, List.replicate_succ, List.flatten_cons, List.flatten_cons]
    exact All2.append h (All2.rep h k)
theorem x_repL {m : Wt (List α)} {n : Wt Int} (h1 : BX X fr C a ta t m) (h2 : EX X fr C b tb yI n) : MX X fr C (.BinOp a .Mult b pos) (tOp rRep ta tb) (mL t) (Wt.bind m fun x => Wt.bind n fun y => Wt.req (-(2 ^ 63) ≤ y ∧ y < 2 ^ 63 ∧ x.length * y.toNat ≤ sizeLine) (Wt.pure (List.replicate y.toNat x).flatten)) :=
  ⟨pe_op op_rep h1.1 h2.1, fun S0 σ S H Q I k => by
    refine h1.2 S0 σ S H _ I (m.mono (fun _ z => z) (fun x q v1 S1 H1 I1 st1 r1 => ?_) k)
    refine h2.2 S0 σ S1 H1 _ I1 (n.mono (fun _ z => z) (fun y q2 v2 S2 H2 I2 st2 r2 => ?_) q)
    obtain ⟨⟨hz1, hz2, hz3⟩, q2⟩ := q2
    obtain ⟨a1, vs, e1, e2, e3, e4⟩ := r1
    refine ⟨a1, y, vs, e1, r2, st2.keep _ _ e4 e2, hz1, hz2, by rw [e3.length]; exact hz3, ?_⟩
    exact new_lst I2 (All2.rep (e3.mono fun _ _ => t.mono st2.ex) _) fun ad' o S' H' I' st' n1 n2 n3 r => q2 ad' o S' H' I' ((st1.trans st2).trans st') (hnew (st1.trans st2) n1) n2 n3 r⟩
/-! ### displays -/
def EvL (fr : Fx) (C : Ct X.K) (ta : TA) (t : Ty X.K α) (k : Nat) (m : Wt (List α)) : Prop := ∀ (S0 : Hp) (σ : L2.St) (S H : Hp) (Q : List V → Hp → Prop), Sta fr S0 C σ S H →
  m.run fr.E (fun x => x.length = k → ∀ v S' H', Sta fr S0 C σ S' H' → Stp C σ S H S' H' → All2 t.rel x v S' → Q v H') → ta σ H Q
abbrev LX (X : Cx) (fr : Fx) (C : Ct X.K) (es : List Expr) (ta : TA) (t : Ty X.K α) (k : Nat) (m : Wt (List α)) : Prop := PA X es ta ∧ EvL fr C ta t k m
theorem l_nil : LX X fr C [] tNil t 0 (Wt.pure []) := ⟨pa_nil, fun S0 σ S H Q I k => k rfl [] S H I Stp.refl True.intro⟩
theorem l_cons {k : Nat} {n : Wt (List α)} (h1 : EX X fr C e te t m) (h2 : LX X fr C es tl t k n) (hs : starEach (e :: es) X.env = (false, eval e X.env) :: starEach es X.env := by rfl) : LX X fr C (e :: es) (tCons te tl) t (k + 1) (Wt.bind m fun x => Wt.bind n fun xs => Wt.pure (x :: xs)) :=
  ⟨pa_cons h1.1 h2.1 hs, fun S0 σ S H Q I kk => h1.2 S0 σ S H _ I (m.mono (fun _ z => z) (fun x q v1 S1 H1 I1 st1 r1 => h2.2 S0 σ S1 H1 _ I1 (n.mono (fun _ z => z) (fun xs q2 hl vs S2 H2 I2 st2 r2 =>
    q2 (by rw [List.length_cons, hl]) (v1 :: vs) S2 H2 I2 (st1.trans st2) ⟨t.mono st2.ex r1, r2⟩) q)) kk)⟩
theorem x_tup {k : Nat} {m : Wt (List α)} {x1} (h : LX X fr C es tl t k m) (hk : k ≤ sizeLine := by decide) : EX X fr C (.Tuple es x1 pos) (tTup tl) (yT t) m :=
  ⟨pe_tup h.1, fun S0 σ S H Q I kk => h.2 S0 σ S H _ I (m.mono (fun _ z => z) (fun xs q hl vs S1 H1 I1 st1 r1 => ⟨by rw [r1.length, hl]; exact hk, new_tup I1 r1 fun v S' H' I' st' r => q v S' H' I' (st1.trans st') r⟩) kk)⟩
theorem x_lst {k : Nat} {m : Wt (List α)} (h : LX X fr C es tl t k m) (hk : k ≤ sizeLine := by decide) : MX X fr C (.List es pos) (tLst tl) (mL t) m :=
  ⟨pe_lst h.1, fun S0 σ S H Q I kk => h.2 S0 σ S H _ I (m.mono (fun _ z => z) (fun xs q hl vs S1 H1 I1 st1 r1 => ⟨by rw [r1.length, hl]; exact hk, new_lst I1 r1 fun ad o S' H' I' st' n1 n2 n3 r => q ad o S' H' I' (st1.trans st') (hnew st1 n1) n2 n3 r⟩) kk)⟩
theorem x_pair {x1} (h1 : EX X fr C a ta t m) (h2 : EX X fr C b tb u n) (hs : starEach [a, b] X.env = (false, eval a X.env) :: starEach [b] X.env := by rfl) (hs2 : starEach [b] X.env = (false, eval b X.env) :: starEach [] X.env := by rfl) : EX X fr C (.Tuple [a, b] x1 pos) (tTup (tCons ta (tCons tb tNil))) (yP t u) (Wt.bind m fun x => Wt.bind n fun y => Wt.pure (x, y)) :=
  ⟨pe_tup (pa_cons h1.1 (pa_cons h2.1 pa_nil hs2) hs), fun S0 σ S H Q I kk => h1.2 S0 σ S H _ I (m.mono (fun _ z => z) (fun x q v1 S1 H1 I1 st1 r1 => h2.2 S0 σ S1 H1 _ I1 (n.mono (fun _ z => z) (fun y q2 v2 S2 H2 I2 st2 r2 =>
    ⟨by show 2 ≤ sizeLine; decide, fun ad hd => by
      obtain ⟨I3, st3⟩ := I2.new (o := .tup [v1, v2]) hd
      exact q2 (.ref ad) _ _ I3 ((st1.trans st2).trans st3) ⟨ad, v1, v2, rfl, upd_same, t.mono (st2.trans st3).ex r1, u.mono st3.ex r2⟩⟩) q)) kk)⟩
theorem x_triple {w : Ty X.K γ} {o : Wt γ} {x1} (h1 : EX X fr C a ta t m) (h2 : EX X fr C b tb u n) (h3 : EX X fr C c tc w o) (hs : starEach [a, b, c] X.env = (false, eval a X.env) :: starEach [b, c] X.env := by rfl) (hs1 : starEach [b, c] X.env = (false, eval b X.env) :: starEach [c] X.env := by rfl) (hs2 : starEach [c] X.env = (false, eval c X.env) :: starEach [] X.env := by rfl) : EX X fr C (.Tuple [a, b, c] x1 pos) (tTup (tCons ta (tCons tb (tCons tc tNil)))) (yP3 t u w) (Wt.bind m fun x => Wt.bind n fun y => Wt.bind o fun z => Wt.pure (x, y, z)) :=
  ⟨pe_tup (pa_cons h1.1 (pa_cons h2.1 (pa_cons h3.1 pa_nil hs2) hs1) hs), fun S0 σ S H Q I kk => h1.2 S0 σ S H _ I (m.mono (fun _ z => z) (fun x q v1 S1 H1 I1 st1 r1 => h2.2 S0 σ S1 H1 _ I1 (n.mono (fun _ z => z) (fun y q2 v2 S2 H2 I2 st2 r2 =>
    h3.2 S0 σ S2 H2 _ I2 (o.mono (fun _ z => z) (fun z q3 v3 S3 H3 I3 st3 r3 => ⟨by show 3 ≤ sizeLine; decide, fun ad hd => by
      obtain ⟨I4, st4⟩ := I3.new (o := .tup [v1, v2, v3]) hd
      exact q3 (.ref ad) _ _ I4 (((st1.trans st2).trans st3).trans st4) ⟨ad, v1, v2, v3, rfl, upd_same, t.mono ((st2.trans st3).trans st4).ex r1, u.mono (st3.trans st4).ex r2, w.mono st4.ex r3⟩⟩) q2)) q)) kk)⟩
end
end T9
namespace T9
open L2 PyProof.Rows PySem.Spec PySem
/-- lo, lo + 1, .. below hi -/
def rng (lo hi : Int) : List Int := (List.range (hi - lo).toNat).map fun (k : Nat) => lo + (k : Int)
theorem rng_len (lo hi : Int) : (rng lo hi).length = (hi - lo).toNat := by unfold rng; rw [List.length_map, List.length_range]
theorem rng_get {lo hi : Int} {i : Nat} (h : i < (hi - lo).toNat) : (rng lo hi)[i]? = some (lo + (i : Int)) := by
  unfold rng
  rw [List.getElem?_map, List.getElem?_range h]
  rfl
section
variable {α β γ ρ δ : Type} {X : Cx} {fr : Fx} {C : Ct X.K} {e a b c tg iter : Expr} {es rest : List Expr} {te ta tb tc : TE} {tt tu : TT} {tl : TA} {wi : TI} {pos p p2 p3 tpos : Pos} {m : Wt α} {n : Wt β} {t : Ty X.K α} {u : Ty X.K β} {op op' : CmpOp}
/-! ### what is walked -/
def Trn {K : PySem.W.Frag} (J : It) (t : Ty K α) (xs : List α) (fr : Fx) (S0 : Hp) (C : Ct K) (σ : L2.St) (S H : Hp) : Prop := ∀ i : Nat,
  (i < xs.length → J.go i H ∧ ∀ v H', J.yld i H v H' → ∃ x S', xs[i]? = some x ∧ Sta fr S0 C σ S' H' ∧ Stp C σ S H S' H' ∧ Ex H H' ∧ t.rel x v S') ∧ (i = xs.length → J.stop i H)
structure Wks {K : PySem.W.Frag} (mode : Bool) (C : Ct K) (σ : L2.St) (J : It) (t : Ty K α) (xs : List α) (S1 H1 : Hp) : Prop where
  st : mode = true → ∀ (fr : Fx) (S0 : Hp) (C' : Ct K) (σ' : L2.St) (S2 H2 : Hp), Ex S1 S2 → Sta fr S0 C' σ' S2 H2 → Trn J t xs fr S0 C' σ' S2 H2
  ex : ∀ (fr : Fx) (S0 : Hp) (C' : Ct K) (σ' : L2.St) (S2 H2 : Hp), Sta fr S0 C' σ' S2 H2 → Ex S1 S2 → (∀ b o, ¬ HdS C σ b → H1 b = some o → H2 b = some o) → Trn J t xs fr S0 C' σ' S2 H2
def EvI {K : PySem.W.Frag} (fr : Fx) (C : Ct K) (wi : TI) (mode : Bool) (t : Ty K α) (m : Wt (List α)) : Prop := ∀ (S0 : Hp) (σ : L2.St) (S H : Hp) (R : It → Hp → Prop), Sta fr S0 C σ S H →
  m.run fr.E (fun xs => ∀ J S' H', Sta fr S0 C σ S' H' → Stp C σ S H S' H' → Wks mode C σ J t xs S' H' → R J H') → wi σ H R
abbrev IX (X : Cx) (fr : Fx) (C : Ct X.K) (tg iter : Expr) (wi : TI) (mode : Bool) (t : Ty X.K α) (m : Wt (List α)) : Prop := PI X tg iter wi ∧ EvI fr C wi mode t m
/-- the i-th of what stands -/
theorem trn_at {K : PySem.W.Frag} {J : It} {t : Ty K α} {xs : List α} {vs : List V} {fr : Fx} {S0 : Hp} {C : Ct K} {σ : L2.St} {S H : Hp} (I : Sta fr S0 C σ S H) (r : All2 t.rel xs vs S)
    (w : ∀ i, (i < vs.length → J.go i H) ∧ (∀ v H', i < vs.length → J.yld i H v H' → H' = H ∧ vs[i]? = some v) ∧ (vs.length ≤ i → J.stop i H)) : Trn J t xs fr S0 C σ S H := fun i => by
  obtain ⟨w1, w2, w3⟩ := w i
  have hl := r.length
  refine ⟨fun hi => ⟨w1 (by omega), fun v H' y => ?_⟩, fun hi => w3 (by omega)⟩
  obtain ⟨e1, e2⟩ := w2 v H' (by omega) y
  subst e1
  obtain ⟨x, hx, rx⟩ := r.getV e2
  exact ⟨x, S, hx, I, Stp.refl, Evl.Ex.refl _, rx⟩
theorem itl_at {K : PySem.W.Frag} {ad : Addr} {vs : List V} {H : Hp} (h : SqL K H ad vs) (i : Nat) : (i < vs.length → (Itl K ad).go i H) ∧ (∀ v H', i < vs.length → (Itl K ad).yld i H v H' → H' = H ∧ vs[i]? = some v) ∧ (vs.length ≤ i → (Itl K ad).stop i H) :=
  ⟨fun hi => ⟨vs, vs[i], h, by simp [hi]⟩, fun v H' _ y => ⟨y.1, y.2 vs h⟩, fun hi => ⟨vs, h, hi⟩⟩
theorem itt_at {K : PySem.W.Frag} {ad : Addr} {vs : List V} {H : Hp} (h : SqT K H ad vs) (i : Nat) : (i < vs.length → (Itt K ad).go i H) ∧ (∀ v H', i < vs.length → (Itt K ad).yld i H v H' → H' = H ∧ vs[i]? = some v) ∧ (vs.length ≤ i → (Itt K ad).stop i H) :=
  ⟨fun hi => ⟨vs, vs[i], h, by simp [hi]⟩, fun v H' _ y => ⟨y.1, y.2 vs h⟩, fun hi => ⟨vs, h, hi⟩⟩
theorem i_B {m : Wt (List α)} (h : BX X fr C e te t m) : IX X fr C tg e (iList X.K te) false t m := ⟨pi_list h.1, fun S0 σ S H R I k => h.2 S0 σ S H _ I (m.mono (fun _ z => z) (fun xs q v S1 H1 I1 st1 r1 => by
  obtain ⟨ad, vs, e1, e2, e3, e4⟩ := r1
  exact ⟨ad, e1, ⟨vs, .inl (.inl e2)⟩, q _ S1 H1 I1 st1 ⟨fun z => (nomatch z), fun fr' S0' C' σ' S2 H2 I2 ex hk => trn_at I2 (e3.mono fun _ _ => t.mono ex) (itl_at (.inl (.inl (hk ad _ e4 e2))))⟩⟩) k)⟩
theorem i_L {m : Wt (List α)} (h : EX X fr C e te (yL t) m) : IX X fr C tg e (iList X.K te) true t m := ⟨pi_list h.1, fun S0 σ S H R I k => h.2 S0 σ S H _ I (m.mono (fun _ z => z) (fun xs q v S1 H1 I1 st1 r1 => by
  obtain ⟨ad, vs, e1, e2, e3⟩ := r1
  have go : ∀ (fr : Fx) (S0 : Hp) (C' : Ct X.K) (σ' : L2.St) (S2 H2 : Hp), Ex S1 S2 → Sta fr S0 C' σ' S2 H2 → Trn (Itl X.K ad) t xs fr S0 C' σ' S2 H2 := fun fr' S0' C' σ' S2 H2 ex I2 => trn_at I2 (e3.mono fun _ _ => t.mono ex) (itl_at (.inl (.inl (I2.land.sub _ _ (ex _ _ e2)))))
  exact ⟨ad, e1, ⟨vs, .inl (.inl (I1.land.sub _ _ e2))⟩, q _ S1 H1 I1 st1 ⟨fun _ => go, fun fr' S0' C' σ' S2 H2 I2 ex _ => go fr' S0' C' σ' S2 H2 ex I2⟩⟩) k)⟩
theorem i_T {m : Wt (List α)} (h : EX X fr C e te (yT t) m) : IX X fr C tg e (iTup X.K te) true t m := ⟨pi_tup h.1, fun S0 σ S H R I k => h.2 S0 σ S H _ I (m.mono (fun _ z => z) (fun xs q v S1 H1 I1 st1 r1 => by
  obtain ⟨ad, vs, e1, e2, e3⟩ := r1
  have go : ∀ (fr : Fx) (S0 : Hp) (C' : Ct X.K) (σ' : L2.St) (S2 H2 : Hp), Ex S1 S2 → Sta fr S0 C' σ' S2 H2 → Trn (Itt X.K ad) t xs fr S0 C' σ' S2 H2 := fun fr' S0' C' σ' S2 H2 ex I2 => trn_at I2 (e3.mono fun _ _ => t.mono ex) (itt_at (.inl (.inl (I2.land.sub _ _ (ex _ _ e2)))))
  exact ⟨ad, e1, ⟨vs, .inl (.inl (I1.land.sub _ _ e2))⟩, q _ S1 H1 I1 st1 ⟨fun _ => go, fun fr' S0' C' σ' S2 H2 I2 ex _ => go fr' S0' C' σ' S2 H2 ex I2⟩⟩) k)⟩
theorem i_Sc {m : Wt (List Int)} (h : EX X fr C e te yScript m) : IX X fr C tg e (iList X.K te) true yI m := ⟨pi_list h.1, fun S0 σ S H R I k => h.2 S0 σ S H _ I (m.mono (fun _ z => z) (fun xs q v S1 H1 I1 st1 r1 => by
  obtain ⟨ad, e1, e2⟩ := r1
  have go : ∀ (fr : Fx) (S0 : Hp) (C' : Ct X.K) (σ' : L2.St) (S2 H2 : Hp), Ex S1 S2 → Sta fr S0 C' σ' S2 H2 → Trn (Itl X.K ad) yI xs fr S0 C' σ' S2 H2 := fun fr' S0' C' σ' S2 H2 ex I2 => trn_at I2 (all2_ints xs) (itl_at (Evl.ex_l I2.land.sub (Evl.ex_l ex e2)))
  exact ⟨ad, e1, ⟨_, Evl.ex_l I1.land.sub e2⟩, q _ S1 H1 I1 st1 ⟨fun _ => go, fun fr' S0' C' σ' S2 H2 I2 ex _ => go fr' S0' C' σ' S2 H2 ex I2⟩⟩) k)⟩
theorem trn_rng {K : PySem.W.Frag} {lo hi : Int} {fr : Fx} {S0 : Hp} {C : Ct K} {σ : L2.St} {S H : Hp} (I : Sta fr S0 C σ S H) : Trn (Itr lo (hi - lo).toNat) (yI (K := K)) (rng lo hi) fr S0 C σ S H := fun i => by
  rw [rng_len]
  refine ⟨fun hi => ⟨hi, fun v H' y => ?_⟩, fun hi => Nat.le_of_eq hi.symm⟩
  obtain ⟨e1, e2⟩ := y
  subst e1
  exact ⟨_, S, rng_get hi, I, Stp.refl, Evl.Ex.refl _, e2⟩
theorem i_rng1 {m : Wt Int} (hm : X.mg "range" = none) (h : EX X fr C e te yI m) (hg : Gl X "range" := by rfl) (hs : S1 X e := by rfl) (hs2 : starEach [e] X.env = [(false, eval e X.env)] := by rfl) : IX X fr C tg (.Call (.Name "range" p) [e] [] pos) (iRng1 (tCons te tNil)) true yI (Wt.bind m fun x => Wt.req (-(2 ^ 62) ≤ x ∧ x < 2 ^ 62) (Wt.pure (rng 0 x))) :=
  ⟨pi_range1 hg hm (pa_cons h.1 pa_nil hs) hs2, fun S0 σ S H R I k => h.2 S0 σ S H _ I (m.mono (fun _ z => z) (fun x q v S1 H1 I1 st1 r1 => by
    obtain ⟨hz, q⟩ := q
    refine ⟨x, by rw [show v = .int x from r1], hz.1, hz.2, ?_⟩
    have e0 : x.toNat = (x - 0).toNat := by rw [Int.sub_zero]
    rw [e0]
    exact q _ S1 H1 I1 st1 ⟨fun _ _ _ _ _ _ _ _ I2 => trn_rng I2, fun _ _ _ _ _ _ I2 _ _ => trn_rng I2⟩) k)⟩
theorem i_rng2 {m n : Wt Int} (hm : X.mg "range" = none) (h1 : EX X fr C a ta yI m) (h2 : EX X fr C b tb yI n) (hg : Gl X "range" := by rfl) (hs : S2 X a b := by rfl) (hs2 : S1 X b := by rfl) (hs3 : starEach [a, b] X.env = [(false, eval a X.env), (false, eval b X.env)] := by rfl) (hs4 : starEach [b] X.env = [(false, eval b X.env)] := by rfl) :
    IX X fr C tg (.Call (.Name "range" p) [a, b] [] pos) (iRng2 (tCons ta (tCons tb tNil))) true yI (Wt.bind m fun x => Wt.bind n fun y => Wt.req (-(2 ^ 62) ≤ x ∧ x < 2 ^ 62 ∧ -(2 ^ 62) ≤ y ∧ y < 2 ^ 62) (Wt.pure (rng x y))) :=
  ⟨pi_range2 hg hm (pa_cons h1.1 (pa_cons h2.1 pa_nil hs2) hs) hs3 hs4, fun S0 σ S H R I k => h1.2 S0 σ S H _ I (m.mono (fun _ z => z) (fun x q v S1 H1 I1 st1 r1 => h2.2 S0 σ S1 H1 _ I1 (n.mono (fun _ z => z) (fun y q2 v2 S2 H2 I2 st2 r2 => by
    obtain ⟨hz, q2⟩ := q2
    refine ⟨x, y, by rw [show v = .int x from r1, show v2 = .int y from r2], hz, ?_⟩
    exact q2 _ S2 H2 I2 (st1.trans st2) ⟨fun _ _ _ _ _ _ _ _ I2 => trn_rng I2, fun _ _ _ _ _ _ I2 _ _ => trn_rng I2⟩) q)) k)⟩
/-- pairs made on the way -/
theorem trn_pair {K : PySem.W.Frag} {J : It} {t : Ty K α} {u : Ty K β} {xs : List (α × β)} {f g : Nat → Option V} {fr : Fx} {S0 : Hp} {C : Ct K} {σ : L2.St} {S H : Hp} (I : Sta fr S0 C σ S H)
    (w : ∀ i, (i < xs.length → J.go i H) ∧ (∀ v H', i < xs.length → J.yld i H v H' → ∃ T x y, v = .ref T ∧ H T = none ∧ H' = upd H T (.tup [x, y]) ∧ f i = some x ∧ g i = some y) ∧ (i = xs.length → J.stop i H))
    (r : ∀ (i : Nat) (x y : V), i < xs.length → f i = some x → g i = some y → ∃ z, xs[i]? = some z ∧ t.rel z.1 x S ∧ u.rel z.2 y S) : Trn J (yP t u) xs fr S0 C σ S H := fun i => by
  obtain ⟨w1, w2, w3⟩ := w i
  refine ⟨fun hi => ⟨w1 hi, fun v H' yy => ?_⟩, w3⟩
  obtain ⟨T, x, y, rfl, nT, rfl, fx, fy⟩ := w2 v H' hi yy
  obtain ⟨z, hz, r1, r2⟩ := r i x y hi fx fy
  obtain ⟨I2, st⟩ := I.new (o := .tup [x, y]) nT
  exact ⟨z, _, hz, I2, st, Evl.Ex.new nT, T, x, y, rfl, upd_same, t.mono st.ex r1, u.mono st.ex r2⟩
/-- the items with their numbers -/
def enm (xs : List α) : List (Int × α) := (List.range xs.length).zipWith (fun (i : Nat) x => ((i : Int), x)) xs
theorem enm_len (xs : List α) : (enm xs).length = xs.length := by unfold enm; rw [List.length_zipWith, List.length_range, Nat.min_self]
theorem enm_get {xs : List α} {i : Nat} {x : α} (h : xs[i]? = some x) : (enm xs)[i]? = some ((i : Int), x) := by
  have hi : i < xs.length := (List.getElem?_eq_some_iff.mp h).1
  unfold enm
  rw [List.getElem?_zipWith, List.getElem?_range hi, h]
theorem trn_enum {K : PySem.W.Frag} {t : Ty K α} {ad : Addr} {xs : List α} {vs : List V} {fr : Fx} {S0 : Hp} {C : Ct K} {σ : L2.St} {S H : Hp} (I : Sta fr S0 C σ S H) (h : SqL K H ad vs) (r : All2 t.rel xs vs S) : Trn (Ite K ad) (yP yI t) (enm xs) fr S0 C σ S H := by
  have hl := r.length
  refine trn_pair (f := fun i => some (.int (i : Nat))) (g := fun i => vs[i]?) I (fun i => ?_) (fun i x y hi fx fy => ?_)
  · rw [enm_len, ← hl]
    exact ⟨fun hi => walk_enum.goes i H hi h, fun v H' hi y => walk_enum.yields i H v H' hi h y, fun hi => ⟨vs, h, Nat.le_of_eq hi.symm⟩⟩
  · obtain ⟨z, hz, rz⟩ := r.getV fy
    exact ⟨_, enm_get hz, (Option.some.inj fx).symm, rz⟩
theorem i_enumB {elts : List Expr} {kk : Nat} {m : Wt (List α)} (hm : X.mg "enumerate" = none) (h : BX X fr C e te t m) (hg : Gl X "enumerate" := by rfl) (hs : S1 X e := by rfl) (hs2 : starEach [e] X.env = [(false, eval e X.env)] := by rfl) :
    IX X fr C (.Tuple elts kk tpos) (.Call (.Name "enumerate" p) [e] [] pos) (iEnum X.K (tCons te tNil)) false (yP yI t) (Wt.bind m fun xs => Wt.pure (enm xs)) :=
  ⟨pi_enum hg hm (pa_cons h.1 pa_nil hs) hs2, fun S0 σ S H R I k => h.2 S0 σ S H _ I (m.mono (fun _ z => z) (fun xs q v S1 H1 I1 st1 r1 => by
    obtain ⟨ad, vs, e1, e2, e3, e4⟩ := r1
    exact ⟨ad, vs, by rw [e1], .inl (.inl e2), q _ S1 H1 I1 st1 ⟨fun z => (nomatch z), fun fr' S0' C' σ' S2 H2 I2 ex hk => trn_enum I2 (.inl (.inl (hk ad _ e4 e2))) (e3.mono fun _ _ => t.mono ex)⟩⟩) k)⟩
theorem i_enumL {elts : List Expr} {kk : Nat} {m : Wt (List α)} (hm : X.mg "enumerate" = none) (h : EX X fr C e te (yL t) m) (hg : Gl X "enumerate" := by rfl) (hs : S1 X e := by rfl) (hs2 : starEach [e] X.env = [(false, eval e X.env)] := by rfl) :
    IX X fr C (.Tuple elts kk tpos) (.Call (.Name "enumerate" p) [e] [] pos) (iEnum X.K (tCons te tNil)) true (yP yI t) (Wt.bind m fun xs => Wt.pure (enm xs)) :=
  ⟨pi_enum hg hm (pa_cons h.1 pa_nil hs) hs2, fun S0 σ S H R I k => h.2 S0 σ S H _ I (m.mono (fun _ z => z) (fun xs q v S1 H1 I1 st1 r1 => by
    obtain ⟨ad, vs, e1, e2, e3⟩ := r1
    have go : ∀ (fr : Fx) (S0 : Hp) (C' : Ct X.K) (σ' : L2.St) (S2 H2 : Hp), Ex S1 S2 → Sta fr S0 C' σ' S2 H2 → Trn (Ite X.K ad) (yP yI t) (enm xs) fr S0 C' σ' S2 H2 := fun fr' S0' C' σ' S2 H2 ex I2 => trn_enum I2 (.inl (.inl (I2.land.sub _ _ (ex _ _ e2)))) (e3.mono fun _ _ => t.mono ex)
    exact ⟨ad, vs, by rw [e1], .inl (.inl (I1.land.sub _ _ e2)), q _ S1 H1 I1 st1 ⟨fun _ => go, fun fr' S0' C' σ' S2 H2 I2 ex _ => go fr' S0' C' σ' S2 H2 ex I2⟩⟩) k)⟩
/-! ### targets -/
def EvG {K : PySem.W.Frag} (C : Ct K) (g : TG) (t : Ty K α) (own : List Nat) (C' : α → Ct K) : Prop := (∀ x, (C' x).length = C.length ∧ (∀ i : Nat, i ∉ own → (C' x)[i]? = C[i]?)) ∧ 0 ∉ own ∧ ∀ (fr : Fx) (S0 : Hp) (σ : L2.St) (S H : Hp) (x : α) (v : V) (Q : L2.St → Hp → Prop), Sta fr S0 C σ S H → t.rel x v S →
  (∀ σ', Sta fr S0 (C' x) σ' S H → (∀ vs, (∀ i ∈ own, i ∈ vs) → wipe σ' vs = wipe σ vs) → (∀ b, HdS (C' x) σ' b → HdS C σ b) → Q σ' H) → g v σ H Q
end
theorem wipe_set {σ : L2.St} {i : Nat} {x : Option V} : ∀ {vs : List Nat}, i ∈ vs → wipe (σ.set i x) vs = wipe σ vs
  | v :: vs, h => by
    unfold wipe
    by_cases hv : i ∈ vs
    · rw [wipe_set hv]
    · have e : i = v := by
        rcases List.mem_cons.mp h with z | z
        · exact z
        · exact (hv z).elim
      subst e
      have out : ∀ (ws : List Nat), i ∉ ws → wipe (σ.set i x) ws = (wipe σ ws).set i x := fun ws => by
        induction ws with
        | nil => intro _; rfl
        | cons w ws ih =>
          intro hw
          have h1 : i ≠ w := fun z => hw (by rw [z]; exact List.mem_cons_self)
          have h2 : i ∉ ws := fun z => hw (List.mem_cons_of_mem _ z)
          unfold wipe
          rw [ih h2, List.set_comm _ _ h1]
      rw [out vs hv, List.set_set]
section
variable {K : PySem.W.Frag} {fr : Fx} {S0 : Hp} {C : Ct K} {σ : L2.St} {S H : Hp} {α β : Type}
/-- a stable value is stored at i -/
theorem Sta.setSh (I : Sta fr S0 C σ S H) {i : Nat} {t : Ty K α} {x : α} {v : V} (hi : i < C.length) (r : t.rel x v S) (h0 : fr.free ∨ i ≠ 0) : Sta fr S0 (C.set i (.sh t x)) (σ.set i (some v)) S H := by
  have hl : i < σ.length := by rw [I.len]; exact hi
  have mu : ∀ j a, MuS (C.set i (.sh t x)) (σ.set i (some v)) j a → j ≠ i ∧ MuS C σ j a := fun j a ⟨c, h1, h2, h3⟩ => by
    by_cases e : i = j
    · subst e
      rw [List.getElem?_set_self hi] at h1
      cases h1
      exact h2.elim
    · rw [List.getElem?_set_ne e] at h1 h3
      exact ⟨fun z => e z.symm, c, h1, h2, h3⟩
  refine ⟨I.land, by rw [List.length_set, List.length_set, I.len], fun j c h => ?_, fun j k a h1 h2 => I.dist j k a (mu j a h1).2 (mu k a h2).2, fun j a h => I.fresh j a (mu j a h).2, fun a φ e => ?_, pslot_set I.pslot h0, I.err⟩
  · by_cases e : i = j
    · subst e
      rw [List.getElem?_set_self hi] at h
      cases h
      rw [List.getElem?_set_self hl]
      exact ⟨v, rfl, r⟩
    · rw [List.getElem?_set_ne e] at h ⊢
      exact I.sl j c h
  · have hi0 : i ≠ 0 := by
      rcases h0 with z | z
      · rw [z.1] at e; cases e
      · exact z
    rw [List.getElem?_set_ne hi0, List.getElem?_set_ne hi0]
    exact I.hslot a φ e
/-- a slot is forgotten -/
theorem Sta.forget (I : Sta fr S0 C σ S H) {i : Nat} {o : Option V} (h0 : fr.free ∨ i ≠ 0) : Sta fr S0 (C.set i .un) (σ.set i o) S H := by
  by_cases hi : i < C.length
  · have hl : i < σ.length := by rw [I.len]; exact hi
    have mu : ∀ j a, MuS (C.set i .un) (σ.set i o) j a → MuS C σ j a := fun j a ⟨c, h1, h2, h3⟩ => by
      by_cases e : i = j
      · subst e
        rw [List.getElem?_set_self hi] at h1
        cases h1
        exact h2.elim
      · rw [List.getElem?_set_ne e] at h1 h3
        exact ⟨c, h1, h2, h3⟩
    refine ⟨I.land, by rw [List.length_set, List.length_set, I.len], fun j c h => ?_, fun j k a h1 h2 => I.dist j k a (mu j a h1) (mu k a h2), fun j a h => I.fresh j a (mu j a h), fun a φ e => ?_, pslot_set I.pslot h0, I.err⟩
    · by_cases e : i = j
      · subst e
        rw [List.getElem?_set_self hi] at h
        cases h
        exact True.intro
      · rw [List.getElem?_set_ne e] at h ⊢
        exact I.sl j c h
    · have hi0 : i ≠ 0 := by
        rcases h0 with z | z
        · rw [z.1] at e; cases e
        · exact z
      rw [List.getElem?_set_ne hi0, List.getElem?_set_ne hi0]
      exact I.hslot a φ e
  · have e1 : C.set i .un = C := List.set_eq_of_length_le (by omega)
    have e2 : σ.set i o = σ := List.set_eq_of_length_le (by rw [I.len]; omega)
    rw [e1, e2]
    exact I
/-- a new mutable object is stored at i -/
theorem Sta.setMu (I : Sta fr S0 C σ S H) {i : Nat} {m : Mty K α} {x : α} {a : Addr} {o : HO} (hi : i < C.length) (sa : S a = none) (ha : H a = some o) (r : m.rel x o S) (hn : ∀ j, ¬ MuS C σ j a) (h00 : fr.H0 a = none) (h0 : fr.free ∨ i ≠ 0) :
    Sta fr S0 (C.set i (.mu m x)) (σ.set i (some (.ref a))) S H := by
  have hl : i < σ.length := by rw [I.len]; exact hi
  have mu : ∀ j b, MuS (C.set i (.mu m x)) (σ.set i (some (.ref a))) j b → (j = i ∧ b = a) ∨ (j ≠ i ∧ MuS C σ j b) := fun j b ⟨c, h1, h2, h3⟩ => by
    by_cases e : i = j
    · subst e
      rw [List.getElem?_set_self hl] at h3
      cases h3
      exact .inl ⟨rfl, rfl⟩
    · rw [List.getElem?_set_ne e] at h1 h3
      exact .inr ⟨fun z => e z.symm, c, h1, h2, h3⟩
  refine ⟨I.land, by rw [List.length_set, List.length_set, I.len], fun j c h => ?_, fun j k b h1 h2 => ?_, fun j b h => ?_, fun b φ e => ?_, pslot_set I.pslot h0, I.err⟩
  · by_cases e : i = j
    · subst e
      rw [List.getElem?_set_self hi] at h
      cases h
      rw [List.getElem?_set_self hl]
      exact ⟨a, o, rfl, sa, ha, r⟩
    · rw [List.getElem?_set_ne e] at h ⊢
      exact I.sl j c h
  · rcases mu j b h1 with ⟨z1, z2⟩ | ⟨z1, z2⟩
    · rcases mu k b h2 with ⟨y1, y2⟩ | ⟨y1, y2⟩
      · rw [z1, y1]
      · rw [z2] at y2; exact (hn k y2).elim
    · rcases mu k b h2 with ⟨y1, y2⟩ | ⟨y1, y2⟩
      · rw [y2] at z2; exact (hn j z2).elim
      · exact I.dist j k b z2 y2
  · rcases mu j b h with ⟨z1, z2⟩ | ⟨z1, z2⟩
    · rw [z2]; exact .inl h00
    · exact I.fresh j b z2
  · have hi0 : i ≠ 0 := by
      rcases h0 with z | z
      · rw [z.1] at e; cases e
      · exact z
    rw [List.getElem?_set_ne hi0, List.getElem?_set_ne hi0]
    exact I.hslot b φ e
theorem hdS_set {i : Nat} {t : Ty K α} {x : α} {o : Option V} {b : Addr} (h : HdS (C.set i (.sh t x)) (σ.set i o) b) : HdS C σ b := by
  obtain ⟨j, c, h1, h2, h3⟩ := h
  by_cases e : i = j
  · subst e
    by_cases hi : i < C.length
    · rw [List.getElem?_set_self hi] at h1
      cases h1
      exact h2.elim
    · rw [List.getElem?_eq_none (by rw [List.length_set]; omega)] at h1
      cases h1
  · rw [List.getElem?_set_ne e] at h1 h3
    exact ⟨j, c, h1, h2, h3⟩
end
section
variable {α β γ ρ δ : Type} {X : Cx} {fr : Fx} {C : Ct X.K} {e a b c tg iter : Expr} {es rest : List Expr} {te ta tb tc : TE} {tt tu : TT} {tl : TA} {wi : TI} {pos p p2 p3 tpos : Pos} {m : Wt α} {n : Wt β} {t : Ty X.K α} {u : Ty X.K β} {op op' : CmpOp}
theorem eg_name {i : Nat} (hi : i < C.length) (h0 : i ≠ 0) : EvG C (gName i) t [i] (fun x => C.set i (.sh t x)) := ⟨fun x => ⟨by rw [List.length_set], fun j hj => by rw [List.getElem?_set_ne (fun z => hj (by simp [z]))]⟩, fun z => h0 (List.mem_singleton.mp z).symm, fun fr S0 σ S H x v Q I r k =>
  k _ (I.setSh hi r (.inr h0)) (fun vs h => wipe_set (h i (by simp))) (fun b h => hdS_set h)⟩
theorem eg_pair {i j : Nat} (hi : i < C.length) (hj : j < C.length) (h0 : i ≠ 0) (h1 : j ≠ 0) : EvG C (gTup X.K 2 (gCons (gName i) (gCons (gName j) gNil))) (yP t u) [i, j] (fun x => (C.set i (.sh t x.1)).set j (.sh u x.2)) := ⟨fun x => ⟨by rw [List.length_set, List.length_set], fun l hl => by rw [List.getElem?_set_ne (fun z => hl (by simp [z])), List.getElem?_set_ne (fun z => hl (by simp [z]))]⟩, fun z => by
    rcases List.mem_cons.mp z with z | z
    · exact h0 z.symm
    · exact h1 (List.mem_singleton.mp z).symm, fun fr S0 σ S H x v Q I r k => by
  obtain ⟨ad, v1, v2, e1, e2, r1, r2⟩ := r
  refine ⟨ad, [v1, v2], e1, .inl (.inl (I.land.sub _ _ e2)), rfl, v1, [v2], rfl, v2, [], rfl, rfl, ?_⟩
  exact k _ ((I.setSh hi r1 (.inr h0)).setSh (by rw [List.length_set]; exact hj) r2 (.inr h1)) (fun vs h => by rw [wipe_set (h j (by simp)), wipe_set (h i (by simp))]) (fun b h => hdS_set (hdS_set h))⟩
end
end T9
namespace T9
open L2 PyProof.Rows PySem.Spec PySem
namespace Wt
variable {α β γ : Type}
/-- no error may leave -/
def nox (m : Wt α) : Wt α := ⟨fun _ Q => m.run (fun _ => False) Q, fun _ h q => m.mono (fun _ z => z) h q⟩
/-- the items that f gives, in order -/
def lc (f : α → Wt (Option β)) : List α → Wt (List β)
  | [] => pure []
  | x :: xs => bind (f x) fun o => bind (lc f xs) fun ys => pure (match o with | none => ys | some y => y :: ys)
end Wt
section
variable {α β γ ρ δ : Type} {X : Cx} {fr : Fx} {C : Ct X.K} {e a b c tg iter elt : Expr} {es rest ifs : List Expr} {te ta tb tc : TE} {tt tu : TT} {tl : TA} {wi : TI} {g : TG} {pos p p2 p3 tpos : Pos} {t : Ty X.K α} {u : Ty X.K β} {op op' : CmpOp}
/-- the frame in a block: no error leaves -/
def Fx.nox (fr : Fx) : Fx := { fr with E := fun _ => False, XE := E0 }
theorem Sta.nox {K : PySem.W.Frag} {fr : Fx} {S0 : Hp} {C : Ct K} {σ : L2.St} {S H : Hp} (I : Sta fr S0 C σ S H) : Sta fr.nox S0 C σ S H := ⟨⟨I.land.sub, I.land.base, I.land.keep, I.land.out, I.land.hand⟩, I.len, I.sl, I.dist, I.fresh, I.hslot, I.pslot, fun _ _ _ _ _ z => z.elim⟩
theorem Sta.unnox {K : PySem.W.Frag} {fr : Fx} {S0 : Hp} {C C' : Ct K} {σ σ' : L2.St} {S H S' H' : Hp} (I : Sta fr S0 C σ S H) (I' : Sta fr.nox S0 C' σ' S' H') : Sta fr S0 C' σ' S' H' := ⟨⟨I'.land.sub, I'.land.base, I'.land.keep, I'.land.out, I'.land.hand⟩, I'.len, I'.sl, I'.dist, I'.fresh, I'.hslot, I'.pslot, I.err⟩
/-- slots that are not known may be wiped -/
theorem wipe_at {σ : L2.St} {i : Nat} : ∀ {vs : List Nat}, (wipe σ vs)[i]? = σ[i]? ∨ (i ∈ vs ∧ (wipe σ vs)[i]? = some none)
  | [] => .inl rfl
  | v :: vs => by
    unfold wipe
    by_cases h : v = i
    · subst h
      by_cases hv : v < (wipe σ vs).length
      · exact .inr ⟨List.mem_cons_self, by rw [List.getElem?_set_self hv]⟩
      · refine .inl ?_
        rw [List.getElem?_eq_none (by rw [List.length_set]; omega), List.getElem?_eq_none (by rw [wipe_length] at hv; omega)]
    · rw [List.getElem?_set_ne h]
      rcases wipe_at (σ := σ) (i := i) (vs := vs) with z | ⟨z1, z2⟩
      · exact .inl z
      · exact .inr ⟨List.mem_cons_of_mem _ z1, z2⟩
def UnAt {K : PySem.W.Frag} (C : Ct K) (vs : List Nat) : Prop := ∀ i ∈ vs, C[i]? = some .un
theorem muS_wipe {K : PySem.W.Frag} {C : Ct K} {σ : L2.St} {vs : List Nat} (hu : UnAt C vs) {i : Nat} {a : Addr} : MuS C (wipe σ vs) i a ↔ MuS C σ i a := by
  constructor
  · rintro ⟨c, h1, h2, h3⟩
    exact ⟨c, h1, h2, (wipe_some h3).1⟩
  · rintro ⟨c, h1, h2, h3⟩
    refine ⟨c, h1, h2, ?_⟩
    rcases wipe_at (σ := σ) (i := i) (vs := vs) with z | ⟨z, _⟩
    · rw [z]; exact h3
    · rw [hu i z] at h1; cases h1; exact h2.elim
theorem hdS_wipe {K : PySem.W.Frag} {C : Ct K} {σ : L2.St} {vs : List Nat} {a : Addr} (h : HdS C (wipe σ vs) a) : HdS C σ a := by
  obtain ⟨i, c, h1, h2, h3⟩ := h
  exact ⟨i, c, h1, h2, (wipe_some h3).1⟩
theorem Sta.wipe {K : PySem.W.Frag} {fr : Fx} {S0 : Hp} {C : Ct K} {σ : L2.St} {S H : Hp} {vs : List Nat} (hu : UnAt C vs) (h00 : fr.sp = none ∨ 0 ∉ vs) (I : Sta fr S0 C σ S H) : Sta fr S0 C (L2.wipe σ vs) S H := by
  have sl : ∀ (i : Nat) (c : Sl K), C[i]? = some c → SlOk c ((L2.wipe σ vs)[i]?.join) S H := fun i c h => by
    rcases wipe_at (σ := σ) (i := i) (vs := vs) with z | ⟨z, _⟩
    · rw [z]; exact I.sl i c h
    · rw [hu i z] at h; cases h; exact True.intro
  refine ⟨I.land, by rw [wipe_length]; exact I.len, sl, fun i j a h1 h2 => I.dist i j a ((muS_wipe hu).mp h1) ((muS_wipe hu).mp h2), fun i a h => I.fresh i a ((muS_wipe hu).mp h), fun a φ e => ?_, fun a e => ?_, I.err⟩
  case refine_2 =>
    rcases h00 with z | z
    · rw [z] at e; cases e
    · rcases wipe_at (σ := σ) (i := 0) (vs := vs) with y | ⟨y, _⟩
      · rw [y]; exact I.pslot a e
      · exact (z y).elim
  obtain ⟨h1, m, h2, h3⟩ := I.hslot a φ e
  refine ⟨?_, m, h2, h3⟩
  rcases wipe_at (σ := σ) (i := 0) (vs := vs) with z | ⟨z, _⟩
  · rw [z]; exact h1
  · rw [hu 0 z] at h2; cases h2
/-! ### comprehensions -/
def EvTs {K : PySem.W.Frag} (fr : Fx) (C : Ct K) (tt : TT) (m : Wt Bool) : Prop := EvT fr C tt m
abbrev PTX (X : Cx) (fr : Fx) (C : Ct X.K) (ifs : List Expr) (tt : TT) (m : Wt Bool) : Prop := PTs X ifs tt ∧ EvT fr C tt m
theorem f_nil : PTX X fr C [] tYes (Wt.pure true) := ⟨pts_nil, fun S0 σ S H Q I k => k S H I Stp.refl⟩
theorem f_one {m : Wt Bool} (h : TX X fr C c tt m) : PTX X fr C [c] tt m := ⟨pts_one h.1, h.2⟩
/-- one turn: the test, then the element -/
def lcTurn (f : α → Wt Bool) (v : α → Wt β) : α → Wt (Option β) := fun x => Wt.bind (f x) fun b => Wt.ite b (Wt.bind (v x) fun y => Wt.pure (some y)) (Wt.pure none)
theorem wipe_wipe {σ : L2.St} {vs : List Nat} : wipe (wipe σ vs) vs = wipe σ vs := by
  have ww : ∀ (ws : List Nat), (∀ i ∈ ws, i ∈ vs) → wipe (wipe σ vs) ws = wipe σ vs := fun ws => by
    induction ws with
    | nil => intro _; rfl
    | cons z ws ih =>
      intro hz
      show (wipe (wipe σ vs) ws).set z none = wipe σ vs
      rw [ih fun i hi => hz i (List.mem_cons_of_mem _ hi)]
      refine List.ext_getElem? fun j => ?_
      by_cases hj : z = j
      · subst hj
        have hzv : z ∈ vs := hz z List.mem_cons_self
        have q1 : (wipe (σ.set z none) vs)[z]? = (wipe σ vs)[z]? := by rw [wipe_set hzv]
        by_cases hlen : z < (wipe σ vs).length
        · rw [List.getElem?_set_self hlen]
          rcases wipe_at (σ := σ.set z none) (i := z) (vs := vs) with y | ⟨_, y⟩
          · rw [← q1, y, List.getElem?_set_self (by rw [wipe_length] at hlen; exact hlen)]
          · rw [← q1, y]
        · rw [List.getElem?_eq_none (by rw [List.length_set]; omega), List.getElem?_eq_none (by omega)]
      · rw [List.getElem?_set_ne hj]
  exact ww vs fun _ h => h
theorem Sta.unwipe {K : PySem.W.Frag} {fr : Fx} {S0 : Hp} {C : Ct K} {σ : L2.St} {S H : Hp} {vs : List Nat} (hu : UnAt C vs) (hl : σ.length = C.length) (I : Sta fr S0 C (L2.wipe σ vs) S H) : Sta fr S0 C σ S H := by
  have at' : ∀ (i : Nat) (c : Sl K), C[i]? = some c → c ≠ .un → (L2.wipe σ vs)[i]? = σ[i]? := fun i c h hc => by
    rcases wipe_at (σ := σ) (i := i) (vs := vs) with z | ⟨z, _⟩
    · exact z
    · rw [hu i z] at h; cases h; exact (hc rfl).elim
  have sl : ∀ (i : Nat) (c : Sl K), C[i]? = some c → SlOk c (σ[i]?.join) S H := fun i c h => by
    cases c with
    | un => exact True.intro
    | sh => rw [← at' i _ h (fun z => nomatch z)]; exact I.sl i _ h
    | mu => rw [← at' i _ h (fun z => nomatch z)]; exact I.sl i _ h
    | hd => rw [← at' i _ h (fun z => nomatch z)]; exact I.sl i _ h
  refine ⟨I.land, hl, sl, fun i j a h1 h2 => I.dist i j a ((muS_wipe hu).mpr h1) ((muS_wipe hu).mpr h2), fun i a h => I.fresh i a ((muS_wipe hu).mpr h), fun a φ e => ?_, fun a e => (wipe_some (I.pslot a e)).1, I.err⟩
  obtain ⟨h1, m, h2, h3⟩ := I.hslot a φ e
  refine ⟨?_, m, h2, h3⟩
  rw [← at' 0 _ h2 (fun z => nomatch z)]
  exact h1
/-- back from a block's slots -/
theorem blk_back {K : PySem.W.Frag} {fr : Fx} {S0 : Hp} {C C' : Ct K} {σ σ3 : L2.St} {S H : Hp} {vs own : List Nat} (hu : UnAt C vs) (hsub : ∀ i ∈ own, i ∈ vs) (hl : C'.length = C.length) (hp : ∀ i : Nat, i ∉ own → C'[i]? = C[i]?) (h0 : 0 ∉ own) (h00 : fr.sp = none ∨ 0 ∉ vs) (hw : wipe σ3 vs = wipe σ vs) (I : Sta fr S0 C' σ3 S H) : Sta fr S0 C (L2.wipe σ vs) S H := by
  have I2 : Sta fr S0 C σ3 S H := I.weak hl.symm (fun i => by
    by_cases h : i ∈ own
    · exact .inr (hu i (hsub i h))
    · exact .inl (hp i h).symm) (.inl (hp 0 h0).symm)
  have I3 := I2.wipe hu h00
  rw [hw] at I3
  exact I3
theorem em_lc {K : PySem.W.Frag} {C : Ct K} {mode : Bool} {t : Ty K α} {u : Ty K β} {own vs : List Nat} {C' : α → Ct K} {m : Wt (List α)} {f : α → Wt Bool} {v : α → Wt β} (hi : EvI fr C wi mode t m) (hg : EvG C g t own C') (hsub : ∀ i ∈ own, i ∈ vs) (hu : UnAt C vs) (h00 : 0 ∉ vs)
    (ht : ∀ x, EvT fr.nox (C' x) tt (f x)) (he : ∀ x, EvW fr.nox (C' x) te u (v x)) :
    EvM fr C (tLc wi g tt te vs) (mL u) (Wt.bind m fun xs => Wt.req (xs.length ≤ sizeLine) (Wt.nox (Wt.lc (lcTurn f v) xs))) := fun S0 σ S H Q I k => by
  obtain ⟨hg1, hg0, hg⟩ := hg
  refine hi S0 σ S H _ I (m.mono (fun _ z => z) (fun xs q J S1 H1 I1 st1 wk => ?_) k)
  obtain ⟨hz, q⟩ := q
  have q : (Wt.lc (lcTurn f v) xs).run (fun _ => False) _ := q
  intro D hD
  let Pv : Nat → Hp → Prop := fun i H' => i ≤ xs.length ∧ ∃ (S' : Hp) (acc : List β) (vs' : List V), Sta fr.nox S0 C (wipe σ vs) S' H' ∧ Stp C σ S1 H1 S' H' ∧ S' D = none ∧ H' D = some (.lst vs') ∧ All2 u.rel acc vs' S' ∧ acc.length ≤ i ∧
    (Wt.lc (lcTurn f v) (xs.drop i)).run (fun _ => False) (fun ys => ∀ ad o S2 H2, Sta fr S0 C σ S2 H2 → Stp C σ S H S2 H2 → H ad = none → S2 ad = none → H2 ad = some o → (mL u).rel (acc ++ ys) o S2 → Q (.ref ad) H2)
  have nD : ¬ HdS C σ D := hdS_new I1 hD
  have hD0 : H D = none := hnew st1 hD
  have sD1 : S1 D = none := Evl.fresh_back I1.land.sub hD
  have h0D : fr.H0 D = none := I1.H0_none hD
  refine ⟨fun i m H' => m = xs.length - i ∧ Pv i H', ⟨xs.length - 0, rfl, Nat.zero_le _, ?_⟩, ?_⟩
  · obtain ⟨I2, st2⟩ := I1.newM (o := .lst []) hD
    refine ⟨S1, [], [], (I2.nox).wipe hu (.inr h00), st2, sD1, upd_same, True.intro, Nat.le_refl _, ?_⟩
    rw [List.drop_zero]
    exact q
  · rintro i mm H' ⟨rfl, hi', S', acc, vs', I', st', sD, eD, rD, hl, qd⟩
    have T : Trn J t xs fr.nox S0 C (wipe σ vs) S' H' := wk.ex fr.nox S0 C (wipe σ vs) S' H' I' st'.ex st'.keep
    have T := T i
    by_cases hlt : i < xs.length
    · refine .inr ⟨(T.1 hlt).1, Pv (i + 1), fun H2 p2 => ⟨xs.length - (i + 1), by omega, rfl, p2⟩, fun w H2 yy => ?_⟩
      obtain ⟨x, S2, hx, I2, st2, ex2, rx⟩ := (T.1 hlt).2 w H2 yy
      refine hg fr.nox S0 (wipe σ vs) S2 H2 x w _ I2 rx fun σ3 I3 hw hh => ?_
      have hw3 : wipe σ3 vs = wipe σ vs := by rw [hw vs hsub, wipe_wipe]
      refine ⟨hw3, ?_⟩
      have edrop : xs.drop i = x :: xs.drop (i + 1) := by
        obtain ⟨h1, h2⟩ := List.getElem?_eq_some_iff.mp hx
        rw [List.drop_eq_getElem_cons h1, h2]
      rw [edrop] at qd
      have qd : (f x).run (fun _ => False) _ := qd
      have some2 : ∀ b, H1 b ≠ none → H2 b ≠ none := fun b hn z => by
        have hb' := st'.there b hn
        cases q : H' b with
        | none => exact hb' q
        | some o => rw [ex2 b o q] at z; cases z
      have stp : ∀ (S5 H5 : Hp), Stp (C' x) σ3 S2 H2 S5 H5 → Stp C σ S1 H1 S5 H5 := fun S5 H5 st5 =>
        ⟨(st'.ex.trans st2.ex).trans st5.ex, fun b o nb hb => st5.keep b o (fun z => nb (hdS_wipe (hh b z))) (ex2 b o (st'.keep b o nb hb)), fun b hb => st5.there b (some2 b hb),
          fun b hb hn => st5.out b (st2.out b (st'.out b hb hn) (st'.there b hn)) (some2 b hn)⟩
      have atD : ∀ (S5 H5 : Hp), Stp (C' x) σ3 S2 H2 S5 H5 → S5 D = none ∧ H5 D = some (.lst vs') := fun S5 H5 st5 => by
        have e2 : H2 D = some (.lst vs') := ex2 D _ eD
        refine ⟨st5.out D (st2.out D sD (by rw [eD]; exact fun z => nomatch z)) (by rw [e2]; exact fun z => nomatch z), st5.keep D _ (fun z => nD (hdS_wipe (hh D z))) e2⟩
      refine ht x S0 σ3 S2 H2 _ I3 ((f x).mono (fun _ z => z) (fun bb q3 S4 H4 I4 st4 => ?_) qd)
      cases bb with
      | false =>
        rw [if_neg Bool.false_ne_true]
        have q3 : (Wt.lc (lcTurn f v) (xs.drop (i + 1))).run (fun _ => False) _ := q3
        obtain ⟨sD4, eD4⟩ := atD S4 H4 st4
        exact ⟨by omega, S4, acc, vs', blk_back hu hsub (hg1 x).1 (hg1 x).2 hg0 (.inr h00) hw3 I4, stp S4 H4 st4, sD4, eD4, rD.mono fun _ _ => u.mono ((st2.ex).trans st4.ex), by omega, q3⟩
      | true =>
        rw [if_pos rfl]
        have q3 : (v x).run (fun _ => False) _ := q3
        refine he x S0 σ3 S4 H4 _ I4 ((v x).mono (fun _ z => z) (fun y q4 w5 S5 H5 I5 st5 r5 => ?_) q3)
        have st45 := st4.trans st5
        obtain ⟨sD5, eD5⟩ := atD S5 H5 st45
        have q4 : (Wt.lc (lcTurn f v) (xs.drop (i + 1))).run (fun _ => False) _ := q4
        have Ib := blk_back hu hsub (hg1 x).1 (hg1 x).2 hg0 (.inr h00) hw3 I5
        have hlen : vs'.length < sizeLine := by rw [rD.length]; omega
        have stq := stp S5 H5 st45
        -- the item is appended
        have mkD : ∀ j, ¬ MuS C (wipe σ vs) j D := fun j z => muS_new I1 hD j ((muS_wipe hu).mp z)
        have I6 : Sta fr.nox S0 C (wipe σ vs) S5 (upd H5 D (.lst (vs' ++ [w5]))) := by
          have keepH : ∀ b, b ≠ D → (upd H5 D (.lst (vs' ++ [w5]))) b = H5 b := fun b hb => upd_ne hb
          refine ⟨⟨fun b o hb => ?_, Ib.land.base, fun b o n hb => ?_, Ib.land.out, fun a φ ea => ?_⟩, Ib.len, fun j c hc => ?_, Ib.dist, Ib.fresh, Ib.hslot, Ib.pslot, Ib.err⟩
          · rw [keepH b (fun z => by rw [z, sD5] at hb; cases hb)]
            exact Ib.land.sub b o hb
          · rw [keepH b (fun z => by
              have hb : fr.H0 b = some o := hb
              rw [z, h0D] at hb; cases hb)]
            exact Ib.land.keep b o n hb
          · obtain ⟨o, ho, hφ⟩ := Ib.land.hand a φ ea
            refine ⟨o, ?_, hφ⟩
            obtain ⟨g1, mh, g2, _⟩ := Ib.hslot a φ ea
            rw [keepH a (fun z => mkD 0 ⟨_, g2, True.intro, by rw [← z]; exact g1⟩)]
            exact ho
          · have q := Ib.sl j c hc
            cases c with
            | un => exact True.intro
            | sh => exact q
            | mu mm xx =>
              obtain ⟨a, ob, e, h1, h2, r⟩ := q
              exact ⟨a, ob, e, h1, by rw [keepH a (fun z => mkD j ⟨_, hc, True.intro, by rw [← z]; exact getJ e⟩)]; exact h2, r⟩
            | hd mm =>
              obtain ⟨a, ob, e, h1, h2, r⟩ := q
              exact ⟨a, ob, e, h1, by rw [keepH a (fun z => mkD j ⟨_, hc, True.intro, by rw [← z]; exact getJ e⟩)]; exact h2, r⟩
        have st6 : Stp C σ S1 H1 S5 (upd H5 D (.lst (vs' ++ [w5]))) := ⟨stq.ex, fun b o nb hb => by
            rw [upd_ne (fun z => by rw [z, hD] at hb; cases hb)]
            exact stq.keep b o nb hb, fun b hb => by
            rw [upd_ne (fun z => hb (by rw [z]; exact hD))]
            exact stq.there b hb, stq.out⟩
        refine ⟨vs', eD5, hlen, by omega, S5, acc ++ [y], vs' ++ [w5], I6, st6, sD5, upd_same, All2.append (rD.mono fun _ _ => u.mono (st2.ex.trans st45.ex)) ⟨r5, True.intro⟩, by rw [List.length_append]; show acc.length + 1 ≤ i + 1; omega, ?_⟩
        refine (Wt.lc (lcTurn f v) (xs.drop (i + 1))).mono (fun _ z => z) (fun ys q7 => ?_) q4
        have q7 : ∀ ad o S2 H2, Sta fr S0 C σ S2 H2 → Stp C σ S H S2 H2 → H ad = none → S2 ad = none → H2 ad = some o → (mL u).rel (acc ++ (y :: ys)) o S2 → Q (.ref ad) H2 := q7
        rw [List.append_assoc]
        exact q7
    · refine .inl ⟨T.2 (by omega), ?_⟩
      have ed : xs.drop i = [] := List.drop_of_length_le (by omega)
      rw [ed] at qd
      have qd : ∀ ad o S2 H2, Sta fr S0 C σ S2 H2 → Stp C σ S H S2 H2 → H ad = none → S2 ad = none → H2 ad = some o → (mL u).rel (acc ++ []) o S2 → Q (.ref ad) H2 := qd
      rw [List.append_nil] at qd
      exact qd D (.lst vs') S' H' (I1.unnox (I'.unwipe hu I1.len)) (st1.trans st') hD0 sD eD ⟨vs', rfl, rD⟩
abbrev GX (X : Cx) (scope : Scope) (tg : Expr) (g : TG) (t : Ty X.K α) (C : Ct X.K) (ow : List Nat) (C' : α → Ct X.K) : Prop := (∀ (s : Shared) (H : Hp) (Cc : Addr) (cl : List (Str × Addr)) (fp : List Addr), PG (X.blk s H scope (compEnvC scope cl Cc X.env) fp) tg g) ∧ EvG C g t ow C'
/-- [e for tg in iter if ..] -/
theorem x_lc {mode : Bool} {scope : Scope} {own : List (Str × Nat)} {ow : List Nat} {C' : α → Ct X.K} {m : Wt (List α)} {f : α → Wt Bool} {v : α → Wt β} (hN : X.N.Nodup) (hi : IX X fr C tg iter wi mode t m) (ok : BlkOk X.N X.env.scope scope own)
    (hg : GX X scope tg g t C ow C')
    (ht : ∀ (x : α) (s : Shared) (H : Hp) (Cc : Addr) (cl : List (Str × Addr)) (fp : List Addr), PTX (X.blk s H scope (compEnvC scope cl Cc X.env) fp) fr.nox (C' x) ifs tt (f x))
    (he : ∀ (x : α) (s : Shared) (H : Hp) (Cc : Addr) (cl : List (Str × Addr)) (fp : List Addr), EX (X.blk s H scope (compEnvC scope cl Cc X.env) fp) fr.nox (C' x) elt te u (v x)) (x0 : α)
    (hsub : ∀ i ∈ ow, i ∈ own.map (·.2) := by decide) (hu : UnAt C (own.map (·.2)) := by intro i hi; simp at hi; subst hi; rfl) (h00 : 0 ∉ own.map (·.2) := by decide) (hc : X.calm = true := by rfl) (hs : ∀ x, foldedSetIterable iter X.env x = pure x := by intro _; rfl) :
    MX X fr C (.ListComp elt [⟨tg, iter, ifs, 0⟩] scope pos) (tLc wi g tt te (own.map (·.2))) (mL u) (Wt.bind m fun xs => Wt.req (xs.length ≤ sizeLine) (Wt.nox (Wt.lc (lcTurn f v) xs))) :=
  ⟨pe_lc hc hN hi.1 ok hg.1 (fun s H Cc cl fp => (ht x0 s H Cc cl fp).1) (fun s H Cc cl fp => (he x0 s H Cc cl fp).1) hs, em_lc hi.2 hg.2 hsub hu h00 (fun x => (ht x {} (fun _ => none) 0 [] []).2) (fun x => (he x {} (fun _ => none) 0 [] []).2)⟩
end
end T9
namespace T9
open L2 PyProof.Rows PySem.Spec PySem
namespace Wt
variable {α β γ ρ δ : Type}
def andThen (m : Wt (Oc ρ δ γ)) (k : δ → Wt (Oc ρ β γ)) : Wt (Oc ρ β γ) := bind m fun o => match o with
  | .ret r => pure (.ret r)
  | .nxt s => k s
  | .brk s => pure (.brk s)
  | .cnt s => pure (.cnt s)
/-- a for -/
def forW (body : α → β → Wt (Oc ρ β β)) : List α → β → Wt (Oc ρ β γ)
  | [], s => pure (.nxt s)
  | x :: xs, s => bind (body x s) fun o => match o with
    | .ret r => pure (.ret r)
    | .nxt s' => forW body xs s'
    | .cnt s' => forW body xs s'
    | .brk s' => pure (.nxt s')
/-- a while: what holds between two turns, and what falls -/
def whileW (c : β → Wt Bool) (body : β → Wt (Oc ρ β β)) (s0 : β) : Wt (Oc ρ β γ) := ⟨fun E Q => ∃ (I : β → Prop) (μ : β → Nat), I s0 ∧ ∀ s, I s → (c s).run E fun b => if b = true then (body s).run E (fun o => match o with
    | .ret r => Q (.ret r)
    | .nxt s' => I s' ∧ μ s' < μ s
    | .cnt s' => I s' ∧ μ s' < μ s
    | .brk s' => Q (.nxt s')) else Q (.nxt s), fun he h ⟨I, μ, h0, hs⟩ => ⟨I, μ, h0, fun s hi => (c s).mono he (fun b q => by
      cases b with
      | false =>
        rw [if_neg Bool.false_ne_true] at q ⊢
        exact h _ q
      | true =>
        rw [if_pos rfl] at q ⊢
        refine (body s).mono he (fun o q => ?_) q
        cases o with
        | ret r => exact h _ q
        | nxt s' => exact q
        | cnt s' => exact q
        | brk s' => exact h _ q) (hs s hi)⟩⟩
end Wt
/-- how a value is handed back -/
structure Rk (K : PySem.W.Frag) (ρ : Type) where
  rel : ρ → V → Hp → Hp → Hp → Prop
def rkT {K : PySem.W.Frag} {ρ : Type} (t : Ty K ρ) : Rk K ρ := ⟨fun x v _ S _ => t.rel x v S⟩
def rkM {K : PySem.W.Frag} {ρ : Type} (m : Mty K ρ) : Rk K ρ := ⟨fun x v H0 S H => ∃ a o, v = .ref a ∧ H0 a = none ∧ S a = none ∧ H a = some o ∧ m.rel x o S⟩
section
variable {α β γ ρ δ ε : Type} {X : Cx} {fr : Fx} {C : Ct X.K} {e a b c tg iter elt : Expr} {es ifs : List Expr} {st : Stmt} {sts rest A B : List Stmt} {te ta tb tc : TE} {tt tu : TT} {tl : TA} {ts tr tA tB : TS} {wi : TI} {g : TG} {pos p p2 p3 tpos : Pos} {t : Ty X.K α} {u : Ty X.K β} {op op' : CmpOp}
def Pst {K : PySem.W.Frag} (fr : Fx) (S0 : Hp) (D : Ends) (r : Rk K ρ) (Cn : β → Ct K) (Cl : γ → Ct K) : Oc ρ β γ → Prop
  | .ret x => ∀ v S' H', Land fr S0 S' H' → r.rel x v fr.H0 S' H' → D.rt v H'
  | .nxt s => ∀ σ' S' H', Sta fr S0 (Cn s) σ' S' H' → D.nx σ' H'
  | .brk s => ∀ σ' S' H', Sta fr S0 (Cl s) σ' S' H' → D.bk σ' H'
  | .cnt s => ∀ σ' S' H', Sta fr S0 (Cl s) σ' S' H' → D.ct σ' H'
def EvS {K : PySem.W.Frag} (fr : Fx) (C : Ct K) (ts : TS) (r : Rk K ρ) (Cn : β → Ct K) (Cl : γ → Ct K) (m : Wt (Oc ρ β γ)) : Prop := ∀ (S0 : Hp) (σ : L2.St) (S H : Hp) (D : Ends), Sta fr S0 C σ S H → m.run fr.E (Pst fr S0 D r Cn Cl) → ts D σ H
abbrev SX (X : Cx) (fr : Fx) (C : Ct X.K) (sts : List Stmt) (ts : TS) (r : Rk X.K ρ) (Cn : β → Ct X.K) (Cl : γ → Ct X.K) (m : Wt (Oc ρ β γ)) : Prop := PSs X sts ts ∧ EvS fr C ts r Cn Cl m
variable {r : Rk X.K ρ} {Cn : β → Ct X.K} {Cl : γ → Ct X.K}
/-- what is known may be forgotten -/
def Wk {K : PySem.W.Frag} : Ct K → Ct K → Prop
  | [], [] => True
  | c :: C, d :: D => (d = c ∨ d = .un) ∧ Wk C D
  | _, _ => False
theorem Wk.len {K : PySem.W.Frag} : ∀ {C D : Ct K}, Wk C D → D.length = C.length
  | [], [], _ => rfl
  | c :: C, d :: D, h => by rw [List.length_cons, List.length_cons, Wk.len h.2]
  | [], _ :: _, h => h.elim
  | _ :: _, [], h => h.elim
theorem Wk.at {K : PySem.W.Frag} : ∀ {C D : Ct K}, Wk C D → ∀ i : Nat, D[i]? = C[i]? ∨ D[i]? = some .un
  | [], [], _, i => .inl rfl
  | c :: C, d :: D, h, 0 => h.1.elim (fun z => .inl (by rw [z]; rfl)) (fun z => .inr (by rw [z]; rfl))
  | c :: C, d :: D, h, i + 1 => Wk.at h.2 i
  | [], _ :: _, h, _ => h.elim
  | _ :: _, [], h, _ => h.elim
theorem Wk.refl {K : PySem.W.Frag} : ∀ {C : Ct K}, Wk C C
  | [] => True.intro
  | c :: C => ⟨.inl rfl, Wk.refl⟩
theorem Wk.un {K : PySem.W.Frag} : ∀ {C : Ct K} {n : Nat}, C.length = n → Wk C (List.replicate n .un)
  | [], n, h => by subst h; exact True.intro
  | c :: C, n, h => by subst h; exact ⟨.inr rfl, Wk.un rfl⟩
theorem Sta.wk {K : PySem.W.Frag} {fr : Fx} {S0 : Hp} {C D : Ct K} {σ : L2.St} {S H : Hp} (I : Sta fr S0 C σ S H) (h : Wk C D) (h0 : D[0]? = C[0]? ∨ fr.hp = none) : Sta fr S0 D σ S H := I.weak h.len h.at h0
/-! ### blocks -/
theorem s_nil {s : β} (h : Wk C (Cn s)) (h0 : (Cn s)[0]? = C[0]? ∨ fr.hp = none := by exact Or.inl rfl) : SX X fr C [] tNext r Cn Cl (Wt.pure (.nxt s)) := ⟨pss_nil, fun S0 σ S H D I k => k σ S H (I.wk h h0)⟩
/-- a statement behind which nothing comes -/
theorem s_ret {m : Wt ρ} {t : Ty X.K ρ} (h : EX X fr C e te t m) : SX X fr C (.Return (some e) pos :: rest) (tSeq (tRet te) tNever) (rkT t) Cn Cl (Wt.bind m fun x => Wt.pure (.ret x)) :=
  ⟨pss_cons (ps_ret h.1) pss_never, fun S0 σ S H D I k => h.2 S0 σ S H _ I (m.mono (fun _ z => z) (fun x q v S1 H1 I1 st1 r1 => q v S1 H1 I1.land r1) k)⟩
theorem s_retM {m : Wt ρ} {t : Mty X.K ρ} (h : MX X fr C e te t m) : SX X fr C (.Return (some e) pos :: rest) (tSeq (tRet te) tNever) (rkM t) Cn Cl (Wt.bind m fun x => Wt.pure (.ret x)) :=
  ⟨pss_cons (ps_ret h.1) pss_never, fun S0 σ S H D I k => h.2 S0 σ S H _ I (m.mono (fun _ z => z) (fun x q ad o S1 H1 I1 st1 n1 n2 n3 r1 => q (.ref ad) S1 H1 I1.land ⟨ad, o, rfl, I.H0_none n1, n2, n3, r1⟩) k)⟩
theorem s_retN : SX X fr C (.Return none pos :: rest) (tSeq tRetN tNever) (rkT (yN (K := X.K))) Cn Cl (Wt.pure (.ret ())) := ⟨pss_cons ps_retN pss_never, fun S0 σ S H D I k => k .non S H I.land rfl⟩
theorem s_break {Cl : γ → Ct X.K} {s : γ} (h : Wk C (Cl s)) (h0 : (Cl s)[0]? = C[0]? ∨ fr.hp = none := by exact Or.inl rfl) : SX X fr C (.Break pos :: rest) (tSeq tBreak tNever) r Cn Cl (Wt.pure (.brk s)) := ⟨pss_cons ps_break pss_never, fun S0 σ S H D I k => k σ S H (I.wk h h0)⟩
theorem s_cont {Cl : γ → Ct X.K} {s : γ} (h : Wk C (Cl s)) (h0 : (Cl s)[0]? = C[0]? ∨ fr.hp = none := by exact Or.inl rfl) : SX X fr C (.Continue pos :: rest) (tSeq tCont tNever) r Cn Cl (Wt.pure (.cnt s)) := ⟨pss_cons ps_continue pss_never, fun S0 σ S H D I k => k σ S H (I.wk h h0)⟩
/-- what is never come to -/
theorem s_never : SX X fr C sts tNever r Cn Cl Wt.never := ⟨pss_never, fun S0 σ S H D I k => k.elim⟩
theorem s_pass {m : Wt (Oc ρ β γ)} (h : SX X fr C rest tr r Cn Cl m) : SX X fr C (.Pass pos :: rest) (tSeq tNext tr) r Cn Cl m := ⟨pss_cons ps_pass h.1, fun S0 σ S H D I k => h.2 S0 σ S H D I k⟩
theorem s_drop {m : Wt α} {k : α → Wt (Oc ρ β γ)} (h : EX X fr C e te t m) (hk : ∀ x, SX X fr C rest tr r Cn Cl (k x)) (x0 : α) (hs : swapsWith e none pos.line X.env = pure false := by rfl) : SX X fr C (.Expr e pos :: rest) (tSeq (tDrop te) tr) r Cn Cl (Wt.bind m k) :=
  ⟨pss_cons (ps_expr h.1 hs) (hk x0).1, fun S0 σ S H D I kk => h.2 S0 σ S H _ I (m.mono (fun _ z => z) (fun x q v S1 H1 I1 st1 r1 => (hk x).2 S0 σ S1 H1 D I1 q) kk)⟩
/-- x = e -/
theorem s_set {i : Nat} {nm : Str} {p' : Pos} {m : Wt α} {k : α → Wt (Oc ρ β γ)} (h : EX X fr C e te t m) (hi : i < C.length) (hk : ∀ x, SX X fr (C.set i (.sh t x)) rest tr r Cn Cl (k x)) (x0 : α) (h0 : fr.free ∨ i ≠ 0) (hN : X.N.Nodup) (hn : X.N[i]? = some nm := by rfl)
    (hx : Loc X.env.scope nm := by first | exact Or.inl rfl | exact Or.inr rfl) (hs : swapsWith e (some (.Name nm p')) pos.line X.env = pure false := by rfl) (hf : X.fn nm = true ∨ X.env.scope.names.lookup nm = some .local := by first | exact .inl rfl | exact .inr rfl) :
    SX X fr C (.Assign [.Name nm p'] e pos :: rest) (tSeq (tAsg te (gName i)) tr) r Cn Cl (Wt.bind m k) :=
  ⟨pss_cons (ps_set hN hn hx h.1 hs hf) (hk x0).1, fun S0 σ S H D I kk => h.2 S0 σ S H _ I (m.mono (fun _ z => z) (fun x q v S1 H1 I1 st1 r1 => (hk x).2 S0 _ S1 H1 D (I1.setSh hi r1 h0) q) kk)⟩
/-- x = a new mutable object -/
theorem s_setM {y : Mty X.K α} {i : Nat} {nm : Str} {p' : Pos} {m : Wt α} {k : α → Wt (Oc ρ β γ)} (h : MX X fr C e te y m) (hi : i < C.length) (hk : ∀ x, SX X fr (C.set i (.mu y x)) rest tr r Cn Cl (k x)) (x0 : α) (h0 : fr.free ∨ i ≠ 0) (hN : X.N.Nodup) (hn : X.N[i]? = some nm := by rfl)
    (hx : Loc X.env.scope nm := by first | exact Or.inl rfl | exact Or.inr rfl) (hs : swapsWith e (some (.Name nm p')) pos.line X.env = pure false := by rfl) (hf : X.fn nm = true ∨ X.env.scope.names.lookup nm = some .local := by first | exact .inl rfl | exact .inr rfl) :
    SX X fr C (.Assign [.Name nm p'] e pos :: rest) (tSeq (tAsg te (gName i)) tr) r Cn Cl (Wt.bind m k) :=
  ⟨pss_cons (ps_set hN hn hx h.1 hs hf) (hk x0).1, fun S0 σ S H D I kk => h.2 S0 σ S H _ I (m.mono (fun _ z => z) (fun x q ad o S1 H1 I1 st1 n1 n2 n3 r1 => (hk x).2 S0 _ S1 H1 D (I1.setMu hi n2 n3 r1 (muS_new I n1) (I.H0_none n1) h0) q) kk)⟩
/-- x = [.. for ..] : the store stands within the comprehension's frame -/
theorem s_setLc {mode : Bool} {scope : Scope} {own : List (Str × Nat)} {ow : List Nat} {C' : α → Ct X.K} {i : Nat} {nm : Str} {p' : Pos} {m : Wt (List α)} {f : α → Wt Bool} {v : α → Wt δ} {w : Ty X.K δ} {k : List δ → Wt (Oc ρ β γ)} (hN : X.N.Nodup) (hi : IX X fr C tg iter wi mode t m) (ok : BlkOk X.N X.env.scope scope own)
    (hg : GX X scope tg g t C ow C')
    (ht : ∀ (x : α) (s : Shared) (H : Hp) (Cc : Addr) (cl : List (Str × Addr)) (fp : List Addr), PTX (X.blk s H scope (compEnvC scope cl Cc X.env) fp) fr.nox (C' x) ifs tt (f x))
    (he : ∀ (x : α) (s : Shared) (H : Hp) (Cc : Addr) (cl : List (Str × Addr)) (fp : List Addr), EX (X.blk s H scope (compEnvC scope cl Cc X.env) fp) fr.nox (C' x) elt te w (v x)) (x0 : α)
    (hi' : i < C.length) (hk : ∀ x, SX X fr (C.set i (.mu (mL w) x)) rest tr r Cn Cl (k x)) (h0 : fr.free ∨ i ≠ 0)
    (hsw : swapsWith (.ListComp elt [⟨tg, iter, ifs, 0⟩] scope pos) (some (.Name nm p')) p2.line X.env = pure true) (hn : X.N[i]? = some nm := by rfl) (hyl : X.env.scope.names.lookup nm = some .local := by rfl)
    (hsub : ∀ i ∈ ow, i ∈ own.map (·.2) := by decide) (hu : UnAt C (own.map (·.2)) := by intro i hi; simp at hi; subst hi; rfl) (h00 : 0 ∉ own.map (·.2) := by decide) (hc : X.calm = true := by rfl) (hs : ∀ x, foldedSetIterable iter X.env x = pure x := by intro _; rfl) :
    SX X fr C (.Assign [.Name nm p'] (.ListComp elt [⟨tg, iter, ifs, 0⟩] scope pos) p2 :: rest) (tSeq (tAsg (tLc wi g tt te (own.map (·.2))) (gName i)) tr) r Cn Cl (Wt.bind (Wt.bind m fun xs => Wt.req (xs.length ≤ sizeLine) (Wt.nox (Wt.lc (lcTurn f v) xs))) k) :=
  ⟨pss_cons (ps_setLc hc hN hn hyl hsw hi.1 ok hg.1 (fun s H Cc cl fp => (ht x0 s H Cc cl fp).1) (fun s H Cc cl fp => (he x0 s H Cc cl fp).1) hs) (hk []).1, fun S0 σ S H D I kk =>
    (em_lc hi.2 hg.2 hsub hu h00 (fun x => (ht x {} (fun _ => none) 0 [] []).2) (fun x => (he x {} (fun _ => none) 0 [] []).2)) S0 σ S H (fun y H1 => tr D (σ.set i (some y)) H1) I ((Wt.bind m fun xs => Wt.req (xs.length ≤ sizeLine) (Wt.nox (Wt.lc (lcTurn f v) xs))).mono (fun _ z => z) (fun x q ad o S1 H1 I1 st1 n1 n2 n3 r1 => (hk x).2 S0 _ S1 H1 D (I1.setMu hi' n2 n3 r1 (muS_new I n1) (I.H0_none n1) h0) q) kk)⟩
/-- a, b = e -/
theorem s_unpack {own : List Nat} {C' : α → Ct X.K} {m : Wt α} {k : α → Wt (Oc ρ β γ)} (h : EX X fr C e te t m) (hg : PG X tg g ∧ EvG C g t own C') (hk : ∀ x, SX X fr (C' x) rest tr r Cn Cl (k x)) (x0 : α) (hs : swapsWithSole [tg] e pos.line X.env = pure false := by rfl) (hw : swappedStores [tg] e X.env = pure none := by rfl)
    (h1 : (assignEach [tg] X.env).map (·.2) = [assign tg X.env] := by rfl) : SX X fr C (.Assign [tg] e pos :: rest) (tSeq (tAsg te g) tr) r Cn Cl (Wt.bind m k) :=
  ⟨pss_cons (ps_asg h.1 hg.1 hs hw h1) (hk x0).1, fun S0 σ S H D I kk => h.2 S0 σ S H _ I (m.mono (fun _ z => z) (fun x q v S1 H1 I1 st1 r1 => hg.2.2.2 fr S0 σ S1 H1 x v _ I1 r1 fun σ' I' _ _ => (hk x).2 S0 σ' S1 H1 D I' q) kk)⟩
/-- a, b = x, y -/
theorem s_par {i j : Nat} {x y : Str} {a b : Expr} {px py pt : Pos} {kt k2 pt2} {m : Wt α} {n : Wt δ} {w : Ty X.K δ} {k : α → δ → Wt (Oc ρ β γ)} (h1 : EX X fr C a ta t m) (h2 : EX X fr C b tb w n) (hi' : i < C.length) (hj' : j < C.length) (h0 : fr.free ∨ (i ≠ 0 ∧ j ≠ 0)) (hk : ∀ x y, SX X fr ((C.set i (.sh t x)).set j (.sh w y)) rest tr r Cn Cl (k x y)) (x0 : α) (y0 : δ) (hN : X.N.Nodup)
    (hij : i ≠ j := by decide) (hi : X.N[i]? = some x := by rfl) (hj : X.N[j]? = some y := by rfl) (hx : X.env.scope.names.lookup x = some .local := by rfl) (hy : X.env.scope.names.lookup y = some .local := by rfl)
    (hw : swappedStores [.Tuple [.Name x px, .Name y py] kt pt] (.Tuple [a, b] k2 pt2) X.env = pure (some [x, y]) := by rfl)
    (hs : swapsWithSole [.Tuple [.Name x px, .Name y py] kt pt] (.Tuple [a, b] k2 pt2) pos.line X.env = pure false := by rfl) (hs1 : starEach [a, b] X.env = (false, eval a X.env) :: starEach [b] X.env := by rfl) (hs2 : starEach [b] X.env = (false, eval b X.env) :: starEach [] X.env := by rfl) (hc : X.calm = true := by rfl) :
    SX X fr C (.Assign [.Tuple [.Name x px, .Name y py] kt pt] (.Tuple [a, b] k2 pt2) pos :: rest) (tSeq (tPar i j (tCons ta (tCons tb tNil))) tr) r Cn Cl (Wt.bind m fun x => Wt.bind n fun y => k x y) :=
  ⟨pss_cons (ps_par hc hN hi hj hij hx hy (pa_cons h1.1 (pa_cons h2.1 pa_nil hs2) hs1) hw hs) (hk x0 y0).1, fun S0 σ S H D I kk => h1.2 S0 σ S H _ I (m.mono (fun _ z => z) (fun x q v S1 H1 I1 st1 r1 => h2.2 S0 σ S1 H1 _ I1 (n.mono (fun _ z => z) (fun y q2 v2 S2 H2 I2 st2 r2 =>
    ⟨v, v2, rfl, (hk x y).2 S0 _ S2 H2 D ((I2.setSh hi' (t.mono st2.ex r1) (h0.imp id And.left)).setSh (by rw [List.length_set]; exact hj') r2 (h0.imp id And.right)) q2⟩) q)) kk)⟩
/-- x op= e, ints -/
theorem s_aug {i : Nat} {nm : Str} {p' : Pos} {op : Operator} {f : Int → Int → Int} {x : Int} {m : Wt Int} {k : Int → Wt (Oc ρ β γ)} (ho : PIp X op (ipI f)) (hC : C[i]? = some (.sh yI x)) (h : EX X fr C e te yI m) (hk : ∀ x, SX X fr (C.set i (.sh yI x)) rest tr r Cn Cl (k x)) (h0 : fr.free ∨ i ≠ 0) (hN : X.N.Nodup) (hn : X.N[i]? = some nm := by rfl)
    (hx : Loc X.env.scope nm := by first | exact Or.inl rfl | exact Or.inr rfl) (hf : X.fn nm = true ∨ X.env.scope.names.lookup nm = some .local := by first | exact .inl rfl | exact .inr rfl) :
    SX X fr C (.AugAssign (.Name nm p') op e pos :: rest) (tSeq (tAug i te (ipI f)) tr) r Cn Cl (Wt.bind m fun y => k (f x y)) :=
  ⟨pss_cons (ps_aug hN hn hx h.1 ho hf) (hk 0).1, fun S0 σ S H D I kk => by
    obtain ⟨v, e1, r1⟩ := I.sh hC
    refine ⟨v, e1, h.2 S0 σ S H _ I (m.mono (fun _ z => z) (fun y q v2 S1 H1 I1 st1 r2 => ⟨x, y, r1, r2, (hk _).2 S0 _ S1 H1 D (I1.setSh (List.getElem?_eq_some_iff.mp hC).1 rfl h0) q⟩) kk)⟩⟩
/-- a mutable list is fixed -/
theorem s_frz {i : Nat} {xs : List α} {m : Wt (Oc ρ β γ)} (hC : C[i]? = some (.mu (mL t) xs)) (h : SX X fr (C.set i (.sh (yL t) xs)) sts ts r Cn Cl m) (h0 : fr.free ∨ i ≠ 0) : SX X fr C sts ts r Cn Cl m := ⟨h.1, fun S0 σ S H D I k => by
  obtain ⟨ad, ob, e, h1, h2, vs, h3, h4⟩ := I.mu hC
  subst h3
  have hi : i < C.length := (List.getElem?_eq_some_iff.mp hC).1
  have hl : i < σ.length := by rw [I.len]; exact hi
  have f0 : fr.H0 ad = none := by
    rcases I.fresh i ad ⟨_, hC, True.intro, e⟩ with z | ⟨φ, z⟩
    · exact z
    · obtain ⟨g1, mm, g2, _⟩ := I.hslot ad φ z
      have := I.dist i 0 ad ⟨_, hC, True.intro, e⟩ ⟨_, g2, True.intro, g1⟩
      subst this
      rw [hC] at g2; cases g2
  have I2 : Sta fr S0 (C.set i .un) (σ.set i (some (.ref ad))) S H := I.forget h0
  have eσ : σ.set i (some (.ref ad)) = σ := by
    refine List.ext_getElem? fun j => ?_
    by_cases hj : i = j
    · subst hj; rw [List.getElem?_set_self hl, e]
    · rw [List.getElem?_set_ne hj]
  rw [eσ] at I2
  have nm : ∀ j, ¬ MuS (C.set i .un) σ j ad := fun j ⟨c, g1, g2, g3⟩ => by
    by_cases hj : i = j
    · subst hj
      rw [List.getElem?_set_self hi] at g1
      cases g1
      exact g2.elim
    · rw [List.getElem?_set_ne hj] at g1
      exact hj (I.dist i j ad ⟨_, hC, True.intro, e⟩ ⟨c, g1, g2, g3⟩)
  have I3 := I2.settle h2 f0 nm h1
  have I4 := I3.setSh (i := i) (t := yL t) (x := xs) (v := .ref ad) (by rw [List.length_set]; exact hi) ⟨ad, vs, rfl, upd_same, h4.mono fun _ _ => t.mono (Evl.Ex.new h1)⟩ h0
  rw [List.set_set, eσ] at I4
  exact h.2 S0 σ _ H D I4 k⟩
/-! ### if, for, while -/
theorem s_if {Cm : δ → Ct X.K} {mc : Wt Bool} {mA mB : Wt (Oc ρ δ γ)} {k : δ → Wt (Oc ρ β γ)} (hc : TX X fr C c tt mc) (hA : SX X fr C A tA r Cm Cl mA) (hB : SX X fr C B tB r Cm Cl mB) (hk : ∀ s, SX X fr (Cm s) rest tr r Cn Cl (k s)) (s0 : δ) : SX X fr C (.If c A B pos :: rest) (tSeq (tIfS tt tA tB) tr) r Cn Cl (Wt.bind mc fun x => Wt.andThen (Wt.ite x mA mB) k) :=
  ⟨pss_cons (ps_if hc.1 hA.1 hB.1) (hk s0).1, fun S0 σ S H D I kk => hc.2 S0 σ S H _ I (mc.mono (fun _ z => z) (fun x q S1 H1 I1 st1 => by
    have post : ∀ o : Oc ρ δ γ, ((match o with
        | .ret r => Wt.pure (.ret r)
        | .nxt s => k s
        | .brk s => Wt.pure (.brk s)
        | .cnt s => Wt.pure (.cnt s) : Wt (Oc ρ β γ))).run fr.E (Pst fr S0 D r Cn Cl) → Pst fr S0 { D with nx := tr D } r Cm Cl o := fun o q => by
      cases o with
      | ret z => exact q
      | nxt s => exact fun σ' S' H' I' => (hk s).2 S0 σ' S' H' D I' q
      | brk s => exact q
      | cnt s => exact q
    cases x with
    | true =>
      rw [if_pos rfl]
      exact hA.2 S0 σ S1 H1 _ I1 (mA.mono (fun _ z => z) post q)
    | false =>
      rw [if_neg Bool.false_ne_true]
      exact hB.2 S0 σ S1 H1 _ I1 (mB.mono (fun _ z => z) post q)) kk)⟩
/-- the frame's base moved up -/
theorem Land.base' {fr : Fx} {S0 S1 H1 S H : Hp} (l1 : Land fr S0 S1 H1) (l : Land fr S1 S H) : Land fr S0 S H := ⟨l.sub, l1.base.trans l.base, l.keep, fun b h n => l.out b (l1.out b h n) n, l.hand⟩
theorem Sta.up {K : PySem.W.Frag} {fr : Fx} {S0 : Hp} {C : Ct K} {σ : L2.St} {S H : Hp} (I : Sta fr S0 C σ S H) : Sta fr S C σ S H :=
  ⟨⟨I.land.sub, Evl.Ex.refl S, I.land.keep, fun b h _ => h, I.land.hand⟩, I.len, I.sl, I.dist, I.fresh, I.hslot, I.pslot, fun e c d S' H' he l er => I.err e c d S' H' he (I.land.base' l) er⟩
theorem Sta.down {K : PySem.W.Frag} {fr : Fx} {S0 : Hp} {C C' : Ct K} {σ σ' : L2.St} {S H S' H' : Hp} (I : Sta fr S0 C σ S H) (I' : Sta fr S C' σ' S' H') : Sta fr S0 C' σ' S' H' := ⟨I.land.base' I'.land, I'.len, I'.sl, I'.dist, I'.fresh, I'.hslot, I'.pslot, I.err⟩
theorem s_for {Cs : δ → Ct X.K} {Cg : δ → α → Ct X.K} {own : List Nat} {m : Wt (List α)} {mb : α → δ → Wt (Oc ρ δ δ)} {k : δ → Wt (Oc ρ β γ)} {s0 : δ} (hi : IX X fr C tg iter wi true t m) (hw : Wk C (Cs s0)) (hg : ∀ s, PG X tg g ∧ EvG (Cs s) g t own (Cg s)) (hb : ∀ x s, SX X fr (Cg s x) A tA r Cs Cs (mb x s)) (hk : ∀ s, SX X fr (Cs s) rest tr r Cn Cl (k s)) (x0 : α)
    (hp : PassesOwn (model X.prog X.w) X.A X.env X.xe) (h0 : (Cs s0)[0]? = C[0]? ∨ fr.hp = none := by exact Or.inl rfl) (hc : X.calm = true := by rfl) (hs : ∀ x, foldedSetIterable iter X.env x = pure x := by intro _; rfl) :
    SX X fr C (.For tg iter A [] pos :: rest) (tSeq (tFor wi g tA) tr) r Cn Cl (Wt.bind m fun xs => Wt.andThen (Wt.forW mb xs s0) k) :=
  ⟨pss_cons (ps_for hp hc hi.1 (hg s0).1 (hb x0 s0).1 hs) (hk s0).1, fun S0 σ S H D I kk => hi.2 S0 σ S H _ I (m.mono (fun _ z => z) (fun xs q J S1 H1 I1 st1 wk => by
    have I1 := (I1.wk hw h0)
    have wk := wk.st rfl
    let Qe : Oc ρ δ γ → Prop := fun o => ((match o with
        | .ret r => Wt.pure (.ret r)
        | .nxt s => k s
        | .brk s => Wt.pure (.brk s)
        | .cnt s => Wt.pure (.cnt s) : Wt (Oc ρ β γ))).run fr.E (Pst fr S0 D r Cn Cl)
    refine ⟨fun i mm σ' H' => mm = xs.length - i ∧ i ≤ xs.length ∧ ∃ S' s, Sta fr S1 (Cs s) σ' S' H' ∧ (Wt.forW mb (xs.drop i) s : Wt (Oc ρ δ γ)).run fr.E Qe, ⟨_, rfl, Nat.zero_le _, S1, s0, I1.up, q⟩, ?_⟩
    rintro i mm σ' H' ⟨rfl, hil, S', s, I', q'⟩
    have T := wk fr S1 (Cs s) σ' S' H' I'.land.base I' i
    by_cases hlt : i < xs.length
    · refine .inr ⟨(T.1 hlt).1, fun σ2 H2 => i + 1 ≤ xs.length ∧ ∃ S2 s2, Sta fr S1 (Cs s2) σ2 S2 H2 ∧ (Wt.forW mb (xs.drop (i + 1)) s2 : Wt (Oc ρ δ γ)).run fr.E Qe, fun σ2 H2 p => ⟨_, by omega, rfl, p.1, p.2⟩, fun v H2 y => ?_⟩
      obtain ⟨x, S2, hx, I2, st2, ex2, rx⟩ := (T.1 hlt).2 v H2 y
      have edrop : xs.drop i = x :: xs.drop (i + 1) := by
        obtain ⟨h1, h2⟩ := List.getElem?_eq_some_iff.mp hx
        rw [List.drop_eq_getElem_cons h1, h2]
      rw [edrop] at q'
      refine (hg s).2.2.2 fr S1 σ' S2 H2 x v _ I2 rx fun σ3 I3 _ _ => ?_
      refine (hb x s).2 S1 σ3 S2 H2 _ I3 ((mb x s).mono (fun _ z => z) (fun o qo => ?_) q')
      cases o with
      | ret z => exact fun v' S4 H4 l4 r4 => (show Pst fr S0 D r Cn Cl (.ret z) from qo) v' S4 H4 (I1.land.base' l4) r4
      | nxt s' => exact fun σ4 S4 H4 I4 => ⟨hlt, S4, s', I4, qo⟩
      | cnt s' => exact fun σ4 S4 H4 I4 => ⟨hlt, S4, s', I4, qo⟩
      | brk s' => exact fun σ4 S4 H4 I4 => (hk s').2 S0 σ4 S4 H4 D (I1.down I4) qo
    · refine .inl ⟨T.2 (by omega), ?_⟩
      rw [List.drop_of_length_le (show xs.length ≤ i by omega)] at q'
      exact (hk s).2 S0 σ' S' H' D (I1.down I') q') kk)⟩
theorem s_while {Cs : δ → Ct X.K} {mc : δ → Wt Bool} {mb : δ → Wt (Oc ρ δ δ)} {k : δ → Wt (Oc ρ β γ)} {s0 : δ} (hw : Wk C (Cs s0)) (hc : ∀ s, TX X fr (Cs s) c tt (mc s)) (hb : ∀ s, SX X fr (Cs s) A tA r Cs Cs (mb s)) (hk : ∀ s, SX X fr (Cs s) rest tr r Cn Cl (k s))
    (hp : PassesOwn (model X.prog X.w) X.A X.env X.xe) (h0 : (Cs s0)[0]? = C[0]? ∨ fr.hp = none := by exact Or.inl rfl) :
    SX X fr C (.While c A [] pos :: rest) (tSeq (tWhile tt tA) tr) r Cn Cl (Wt.andThen (Wt.whileW mc mb s0) k) :=
  ⟨pss_cons (ps_while hp (hc s0).1 (hb s0).1) (hk s0).1, fun S0 σ S H D I kk => by
    have I1 := (I.wk hw h0)
    obtain ⟨Iv, μ, i0, hs⟩ := kk
    refine ⟨fun mm σ' H' => ∃ S' s, mm = μ s ∧ Iv s ∧ Sta fr S0 (Cs s) σ' S' H', ⟨_, S, s0, rfl, i0, I1⟩, ?_⟩
    rintro mm σ' H' ⟨S', s, rfl, hi, I'⟩
    refine (hc s).2 S0 σ' S' H' _ I' ((mc s).mono (fun _ z => z) (fun x q S1 H1 I1 st1 => ?_) (hs s hi))
    cases x with
    | true =>
      rw [if_pos rfl] at q ⊢
      refine ⟨fun σ2 H2 => ∃ S2 s2, μ s2 < μ s ∧ Iv s2 ∧ Sta fr S0 (Cs s2) σ2 S2 H2, fun σ2 H2 ⟨S2, s2, l2, i2, I2⟩ => ⟨μ s2, l2, S2, s2, rfl, i2, I2⟩, ?_⟩
      refine (hb s).2 S0 σ' S1 H1 _ I1 ((mb s).mono (fun _ z => z) (fun o qo => ?_) q)
      cases o with
      | ret z => exact qo
      | nxt s' => exact fun σ4 S4 H4 I4 => ⟨S4, s', qo.2, qo.1, I4⟩
      | cnt s' => exact fun σ4 S4 H4 I4 => ⟨S4, s', qo.2, qo.1, I4⟩
      | brk s' => exact fun σ4 S4 H4 I4 => (hk s').2 S0 σ4 S4 H4 D I4 qo
    | false =>
      rw [if_neg Bool.false_ne_true] at q ⊢
      exact (hk s).2 S0 σ' S1 H1 D I1 q⟩
end
end T9
namespace T9
open L2 PyProof.Rows PySem.Spec PySem
section
variable {K : PySem.W.Frag} {fr : Fx} {S0 : Hp} {C : Ct K} {σ : L2.St} {S H : Hp} {α β γ : Type}
theorem Sta.mu0 (I : Sta fr S0 C σ S H) {i : Nat} {m : Mty K α} {x : α} {a : Addr} (hC : C[i]? = some (.mu m x)) (e : σ[i]? = some (some (.ref a))) : fr.H0 a = none ∧ (∀ b φ, fr.hp = some (b, φ) → b ≠ a) := by
  have nh : ∀ b φ, fr.hp = some (b, φ) → b ≠ a := fun b φ z q => by
    subst q
    obtain ⟨g1, mm, g2, _⟩ := I.hslot b φ z
    have := I.dist i 0 b ⟨_, hC, True.intro, e⟩ ⟨_, g2, True.intro, g1⟩
    subst this
    rw [hC] at g2; cases g2
  refine ⟨?_, nh⟩
  rcases I.fresh i a ⟨_, hC, True.intro, e⟩ with z | ⟨φ, z⟩
  · exact z
  · exact (nh a φ z rfl).elim
/-- the mutable object of slot i is changed -/
theorem Sta.mutate (I : Sta fr S0 C σ S H) {i : Nat} {m : Mty K α} {x y : α} {a : Addr} {o' : HO} (hC : C[i]? = some (.mu m x)) (e : σ[i]? = some (some (.ref a))) (r : m.rel y o' S) : Sta fr S0 (C.set i (.mu m y)) σ S (upd H a o') := by
  have hi : i < C.length := (List.getElem?_eq_some_iff.mp hC).1
  obtain ⟨h0a, nh⟩ := I.mu0 hC e
  have sa : S a = none := (I.muObj ⟨_, hC, True.intro, e⟩).1
  have mu : ∀ j b, MuS (C.set i (.mu m y)) σ j b → MuS C σ j b := fun j b ⟨c, h1, h2, h3⟩ => by
    by_cases q : i = j
    · subst q
      rw [List.getElem?_set_self hi] at h1
      cases h1
      exact ⟨_, hC, True.intro, h3⟩
    · rw [List.getElem?_set_ne q] at h1
      exact ⟨c, h1, h2, h3⟩
  have other : ∀ j b, j ≠ i → MuS C σ j b → b ≠ a := fun j b hj h z => by
    subst z
    exact hj (I.dist j i b h ⟨_, hC, True.intro, e⟩)
  refine ⟨⟨fun b o h => ?_, I.land.base, fun b o n h => ?_, I.land.out, fun b φ z => ?_⟩, by rw [List.length_set]; exact I.len, fun j c h => ?_, fun j k b h1 h2 => I.dist j k b (mu j b h1) (mu k b h2), fun j b h => I.fresh j b (mu j b h), fun b φ z => ?_, I.pslot, I.err⟩
  · rw [upd_ne (fun z => by rw [z, sa] at h; cases h)]
    exact I.land.sub b o h
  · rw [upd_ne (fun z => by rw [z, h0a] at h; cases h)]
    exact I.land.keep b o n h
  · obtain ⟨o, ho, q⟩ := I.land.hand b φ z
    exact ⟨o, by rw [upd_ne (nh b φ z)]; exact ho, q⟩
  · by_cases q : i = j
    · subst q
      rw [List.getElem?_set_self hi] at h
      cases h
      exact ⟨a, o', joinJ e, sa, upd_same, r⟩
    · rw [List.getElem?_set_ne q] at h
      have s := I.sl j c h
      cases c with
      | un => exact True.intro
      | sh => exact s
      | mu mm xx =>
        obtain ⟨b, ob, e', h1, h2, r'⟩ := s
        exact ⟨b, ob, e', h1, by rw [upd_ne (other j b (fun z => q z.symm) ⟨_, h, True.intro, getJ e'⟩)]; exact h2, r'⟩
      | hd mm =>
        obtain ⟨b, ob, e', h1, h2, r'⟩ := s
        exact ⟨b, ob, e', h1, by rw [upd_ne (other j b (fun z => q z.symm) ⟨_, h, True.intro, getJ e'⟩)]; exact h2, r'⟩
  · obtain ⟨g1, mm, g2, g3⟩ := I.hslot b φ z
    refine ⟨g1, mm, ?_, g3⟩
    have hi0 : i ≠ 0 := fun q => by
      subst q
      rw [hC] at g2; cases g2
    rw [List.getElem?_set_ne hi0]
    exact g2
end
section
variable {α β γ ρ δ ε : Type} {X : Cx} {fr : Fx} {C : Ct X.K} {e a b c tg iter elt : Expr} {es ifs : List Expr} {st : Stmt} {sts rest A B : List Stmt} {te ta tb tc : TE} {tt tu : TT} {tl : TA} {ts tr tA tB : TS} {wi : TI} {g : TG} {pos p p2 p3 tpos : Pos} {t : Ty X.K α} {u : Ty X.K β} {op op' : CmpOp} {r : Rk X.K ρ} {Cn : β → Ct X.K} {Cl : γ → Ct X.K}
/-- xs.append(e) -/
theorem s_app {i : Nat} {nm : Str} {xs : List α} {m : Wt α} {f : α → Wt (Oc ρ β γ)} (hC : C[i]? = some (.mu (mL t) xs)) (h : EX X fr C e te t m) (hk : ∀ x, SX X fr (C.set i (.mu (mL t) (xs ++ [x]))) rest tr r Cn Cl (f x)) (x0 : α) (hn : X.N[i]? = some nm := by rfl) (hv : Vis X.env.scope nm := by first | exact Or.inl rfl | exact Or.inr (Or.inl rfl) | exact Or.inr (Or.inr rfl))
    (hd : (nm == ("__debug__" : Str)) = false := by decide) (hcd : (nm == ("__classdict__" : Str)) = false := by decide) (hs1 : S1 X e := by rfl)
    (hbase : attributeBase (.Name nm p) "append" X.env (eval (.Name nm p) X.env) = eval (.Name nm p) X.env := by rfl)
    (hfew : ((backTo pos (starEach [e] X.env)).all (fun x => !x.1) && (backToKw pos (keywordEach [] X.env)).all (fun x => x.1.isSome)
      && decide ([e].length + ([] : List Keyword).length + (if ([] : List Keyword).isEmpty then 0 else 1) < 30)) = true := by rfl)
    (hline : (p2.endLine == pos.line) = true := by rfl) (hs : swapsWith (.Call (.Attribute (.Name nm p) "append" p2) [e] [] pos) none p3.line X.env = pure false := by rfl) :
    SX X fr C (.Expr (.Call (.Attribute (.Name nm p) "append" p2) [e] [] pos) p3 :: rest) (tSeq (tDrop (tBM X.K "list" rAppend (tVar i) (tCons te tNil))) tr) r Cn Cl (Wt.bind m fun x => Wt.req (xs.length < sizeLine) (f x)) :=
  ⟨pss_cons (ps_expr (pe_bm PySem.F.plainAttrs_list PySem.F.slot_list_append PySem.F.type_list_append mt_append (pe_var hn hv hd hcd) (pa_cons h.1 pa_nil hs1) hbase hfew hline hs1 rfl) hs) (hk x0).1, fun S0 σ S H D I kk => by
    obtain ⟨ad, ob, e1, h1, h2, vs, h3, h4⟩ := I.mu hC
    subst h3
    refine ⟨_, e1, .inl ⟨rfl, vs, .inl (.inl h2)⟩, h.2 S0 σ S H _ I (m.mono (fun _ z => z) (fun x q v S1 H1 I1 st1 r1 => ?_) kk)⟩
    obtain ⟨ad', ob', e1', g1, g2, ws, g3, g4⟩ := I1.mu hC
    rw [e1] at e1'
    cases e1'
    subst g3
    obtain ⟨hz, q⟩ := q
    refine ⟨ad, ws, v, rfl, rfl, g2, by rw [g4.length]; exact hz, ?_⟩
    exact (hk x).2 S0 σ S1 _ D (I1.mutate hC e1 ⟨ws ++ [v], rfl, All2.append g4 ⟨r1, True.intro⟩⟩) q⟩
/-- xs[j] = e -/
theorem s_setL {i : Nat} {nm : Str} {xs : List α} {m : Wt α} {n : Wt Int} {f : List α → Wt (Oc ρ β γ)} (hC : C[i]? = some (.mu (mL t) xs)) (h : EX X fr C e te t m) (h2 : EX X fr C b tb yI n) (hk : ∀ ys, SX X fr (C.set i (.mu (mL t) ys)) rest tr r Cn Cl (f ys)) (hn : X.N[i]? = some nm := by rfl) (hv : Vis X.env.scope nm := by first | exact Or.inl rfl | exact Or.inr (Or.inl rfl) | exact Or.inr (Or.inr rfl))
    (hd : (nm == ("__debug__" : Str)) = false := by decide) (hcd : (nm == ("__classdict__" : Str)) = false := by decide)
    (ha : ∀ v, assign (.Subscript (.Name nm p) b p2) X.env v = (do
      let ov ← holding [v] (eval (.Name nm p) X.env)
      let iv ← holding [v, ov] (eval b X.env)
      standAt p2
      holding [v, ov, iv] (setItem ov iv v)
      release [v, ov, iv] []) := by intro _; rfl) (hs : swapsWithSole [.Subscript (.Name nm p) b p2] e pos.line X.env = pure false := by rfl) (hw : swappedStores [.Subscript (.Name nm p) b p2] e X.env = pure none := by rfl)
    (h1 : (assignEach [.Subscript (.Name nm p) b p2] X.env).map (·.2) = [assign (.Subscript (.Name nm p) b p2) X.env] := by rfl) :
    SX X fr C (.Assign [.Subscript (.Name nm p) b p2] e pos :: rest) (tSeq (tAsg te (gSub (tVar i) tb rSetL)) tr) r Cn Cl (Wt.bind m fun x => Wt.bind n fun j => Wt.bind (Wt.opt (ixN xs.length j)) fun l => f (xs.set l x)) :=
  ⟨pss_cons (ps_asg h.1 (pg_sub (pe_var hn hv hd hcd) h2.1 set_list ha) hs hw h1) (hk xs).1, fun S0 σ S H D I kk => by
    refine h.2 S0 σ S H _ I (m.mono (fun _ z => z) (fun x q v S1 H1 I1 st1 r1 => ?_) kk)
    obtain ⟨ad, ob, e1, _, _⟩ := I1.mu hC
    refine ⟨_, e1, h2.2 S0 σ S1 H1 _ I1 (n.mono (fun _ z => z) (fun j q2 v2 S2 H2 I2 st2 r2 => ?_) q)⟩
    obtain ⟨ad', ob', e1', g1, g2, ws, g3, g4⟩ := I2.mu hC
    rw [e1] at e1'
    cases e1'
    subst g3
    obtain ⟨l, hl, q2⟩ := q2
    refine ⟨ad, ws, j, l, rfl, r2, g2, by rw [g4.length]; exact hl, ?_⟩
    exact (hk _).2 S0 σ S2 _ D (I2.mutate hC e1 ⟨ws.set l v, rfl, All2.set (t.mono st2.ex r1) l g4⟩) q2⟩
/-! ### promises -/
def fx0 (H0 : Hp) (hp : Option (Addr × (HO → Hp → Prop))) : Fx := ⟨H0, none, hp, fun _ => False, E0, fun _ => none⟩
theorem Land.re {fr fr' : Fx} {S0 S H : Hp} (h1 : fr.H0 = fr'.H0) (h2 : fr.hp = fr'.hp) (l : Land fr S0 S H) : Land fr' S0 S H := by
  refine ⟨l.sub, l.base, ?_, ?_, ?_⟩
  · rw [← h1, ← h2]; exact l.keep
  · rw [← h1]; exact l.out
  · rw [← h2]; exact l.hand
/-- a def without a hand -/
def spF (K : PySem.W.Frag) (mg : Str → Option Value) (Ar : Aty K α) (r : Rk K ρ) (w : α → Wt ρ) : Sp := fun vs H Q E => ∃ S x, Ex S H ∧ Ar.rel x vs S ∧
  (w x).run (fun e => ∀ c d S' H', Land (fx0 H none) S S' H' → errRel mg e c d H' → E c d H') (fun y => ∀ v S' H', Land (fx0 H none) S S' H' → r.rel y v H S' H' → Q v H')
/-- a def with a hand as its first argument -/
def spH (K : PySem.W.Frag) (mg : Str → Option Value) (mh : Mty K Unit) (Ar : Aty K α) (r : Rk K ρ) (w : α → Wt ρ) : Sp := fun vs H Q E => ∃ a o rest S x, vs = .ref a :: rest ∧ Ex S H ∧ S a = none ∧ H a = some o ∧ mh.rel () o S ∧ Ar.rel x rest S ∧
  (w x).run (fun e => ∀ c d S' H', Land (fx0 H (some (a, mh.rel ()))) S S' H' → errRel mg e c d H' → E c d H') (fun y => ∀ v S' H', Land (fx0 H (some (a, mh.rel ()))) S S' H' → r.rel y v H S' H' → Q v H')
/-- behind a call without a hand -/
theorem Sta.called {K : PySem.W.Frag} {fr : Fx} {S0 : Hp} {C : Ct K} {σ : L2.St} {S H S' H' : Hp} (I : Sta fr S0 C σ S H) (l : Land (fx0 H none) S S' H') : Sta fr S0 C σ S' H' ∧ Stp C σ S H S' H' := by
  have hh : Ex H H' := fun b o h => l.keep b o (fun _ _ z => nomatch z) h
  exact ⟨I.grow l.base hh l.sub l.out, Stp.of_grow l.base hh l.out⟩
/-- behind a call with the hand of slot i -/
theorem Sta.calledH {K : PySem.W.Frag} {fr : Fx} {S0 : Hp} {C : Ct K} {σ : L2.St} {S H S' H' : Hp} {i : Nat} {mh : Mty K Unit} {a : Addr} (I : Sta fr S0 C σ S H) (hC : C[i]? = some (.hd mh)) (e : σ[i]? = some (some (.ref a))) (l : Land (fx0 H (some (a, mh.rel ()))) S S' H') : Sta fr S0 C σ S' H' ∧ Stp C σ S H S' H' := by
  have hk : ∀ b o, b ≠ a → H b = some o → H' b = some o := fun b o n h => l.keep b o (fun a' φ z => by cases z; exact n) h
  obtain ⟨oa, hoa, hma⟩ := l.hand a _ rfl
  have hma : mh.rel () oa S' := hma
  have out : ∀ b, S b = none → H b ≠ none → S' b = none := l.out
  have hda : HdS C σ a := ⟨i, _, hC, True.intro, e⟩
  have th : ∀ b, H b ≠ none → H' b ≠ none := fun b n => by
    by_cases z : b = a
    · rw [z, hoa]; exact fun z => nomatch z
    · cases q : H b with
      | none => exact (n q).elim
      | some o => rw [hk b o z q]; exact fun z => nomatch z
  have st : Stp C σ S H S' H' := ⟨l.base, fun b o n h => hk b o (fun z => n (by rw [z]; exact hda)) h, th, l.out⟩
  refine ⟨?_, st⟩
  have sl : ∀ (j : Nat) (c : Sl K), C[j]? = some c → SlOk c (σ[j]?.join) S' H' := fun j c h => by
    have q := I.sl j c h
    cases c with
    | un => exact True.intro
    | sh t x => obtain ⟨v, e, r⟩ := q; exact ⟨v, e, t.mono l.base r⟩
    | mu m x =>
      obtain ⟨b, ob, e', h1, h2, r⟩ := q
      have ne : b ≠ a := fun z => by
        subst z
        have := I.dist j i b ⟨_, h, True.intro, getJ e'⟩ ⟨_, hC, True.intro, e⟩
        subst this
        rw [h] at hC; cases hC
      exact ⟨b, ob, e', out b h1 (by rw [h2]; exact fun z => nomatch z), hk b ob ne h2, m.mono l.base r⟩
    | hd m =>
      obtain ⟨b, ob, e', h1, h2, r⟩ := q
      by_cases ne : b = a
      · subst ne
        have := I.dist j i b ⟨_, h, True.intro, getJ e'⟩ ⟨_, hC, True.intro, e⟩
        subst this
        rw [h] at hC
        cases hC
        exact ⟨b, oa, e', out b h1 (by rw [h2]; exact fun z => nomatch z), hoa, hma⟩
      · exact ⟨b, ob, e', out b h1 (by rw [h2]; exact fun z => nomatch z), hk b ob ne h2, m.mono l.base r⟩
  refine ⟨⟨l.sub, I.land.base.trans l.base, fun b o n h => ?_, fun b h n => ?_, fun b φ z => ?_⟩, I.len, sl, I.dist, I.fresh, I.hslot, I.pslot, I.err⟩
  · by_cases q : b = a
    · subst q
      rcases I.fresh i b ⟨_, hC, True.intro, e⟩ with y | ⟨φ, y⟩
      · rw [y] at h; cases h
      · exact (n b φ y rfl).elim
    · exact hk b o q (I.land.keep b o n h)
  · by_cases q : ∃ a' φ, fr.hp = some (a', φ) ∧ b = a'
    · obtain ⟨a', φ, y, rfl⟩ := q
      obtain ⟨o, ho, _⟩ := I.land.hand b φ y
      exact out b (I.land.out b h n) (by rw [ho]; exact fun z => nomatch z)
    · cases q2 : fr.H0 b with
      | none => exact (n q2).elim
      | some o => exact out b (I.land.out b h n) (by rw [I.land.keep b o (fun a' φ y z => q ⟨a', φ, y, z⟩) q2]; exact fun z => nomatch z)
  · obtain ⟨g1, mm, g2, g3⟩ := I.hslot b φ z
    obtain ⟨b', ob, e', h2, r⟩ := sl 0 _ g2
    rw [joinJ g1] at e'
    cases e'
    subst g3
    exact ⟨ob, r.1, r.2⟩
/-! ### arguments -/
def EvAd {K : PySem.W.Frag} (fr : Fx) (C : Ct K) (ta : TA) (Ar : Aty K α) (dvs : List V) (m : Wt α) : Prop := ∀ (S0 : Hp) (σ : L2.St) (S H : Hp) (Q : List V → Hp → Prop), Sta fr S0 C σ S H →
  m.run fr.E (fun x => ∀ v S' H', Sta fr S0 C σ S' H' → Stp C σ S H S' H' → Ar.rel x (v ++ dvs) S' → Q v H') → ta σ H Q
abbrev AdX (X : Cx) (fr : Fx) (C : Ct X.K) (es : List Expr) (ta : TA) (Ar : Aty X.K α) (dvs : List V) (m : Wt α) : Prop := PA X es ta ∧ EvAd fr C ta Ar dvs m
theorem a_nil : AdX X fr C [] tNil aN [] (Wt.pure ()) := ⟨pa_nil, fun S0 σ S H Q I k => k [] S H I Stp.refl rfl⟩
/-- the defaults -/
theorem a_dfl {Ar : Aty X.K α} {x : α} {dvs : List V} (h : ∀ S, Ar.rel x dvs S) : AdX X fr C [] tNil Ar dvs (Wt.pure x) := ⟨pa_nil, fun S0 σ S H Q I k => k [] S H I Stp.refl (h S)⟩
theorem a_cons {Ar : Aty X.K β} {m : Wt α} {n : Wt β} {dvs : List V} (h1 : EX X fr C e te t m) (h2 : AdX X fr C es tl Ar dvs n) (hs : starEach (e :: es) X.env = (false, eval e X.env) :: starEach es X.env := by rfl) : AdX X fr C (e :: es) (tCons te tl) (aC t Ar) dvs (Wt.bind m fun x => Wt.bind n fun y => Wt.pure (x, y)) :=
  ⟨pa_cons h1.1 h2.1 hs, fun S0 σ S H Q I k => h1.2 S0 σ S H _ I (m.mono (fun _ z => z) (fun x q v1 S1 H1 I1 st1 r1 => h2.2 S0 σ S1 H1 _ I1 (n.mono (fun _ z => z) (fun y q2 vs S2 H2 I2 st2 r2 =>
    q2 (v1 :: vs) S2 H2 I2 (st1.trans st2) ⟨v1, vs ++ dvs, rfl, t.mono st2.ex r1, r2⟩) q)) k)⟩
/-! ### calls -/
theorem ev_call {K : PySem.W.Frag} {fr : Fx} {C : Ct K} {Ar : Aty K α} {rt : Ty K ρ} {w : α → Wt ρ} {m : Wt α} {dvs : List V} {mg : Str → Option Value} (hmg : fr.mg = mg) (h : EvAd fr C tl Ar dvs m) : EvW fr C (tCall (spF K mg Ar (rkT rt) w) dvs fr.XE tl) rt (Wt.bind m w) := fun S0 σ S H Q I k => by
  refine h S0 σ S H _ I (m.mono (fun _ z => z) (fun x q vs S1 H1 I1 st1 r1 => ?_) k)
  refine ⟨S1, x, I1.land.sub, r1, (w x).mono (fun e he c d S' H' l er => ?_) (fun y qy v S' H' l ry => ?_) q⟩
  · obtain ⟨I2, _⟩ := I1.called l
    exact I.err e c d S' H' he I2.land (by rw [hmg]; exact er)
  · obtain ⟨I2, st2⟩ := I1.called l
    exact qy v S' H' I2 (st1.trans st2) ry
theorem em_call {K : PySem.W.Frag} {fr : Fx} {C : Ct K} {Ar : Aty K α} {rt : Mty K ρ} {w : α → Wt ρ} {m : Wt α} {dvs : List V} {mg : Str → Option Value} (hmg : fr.mg = mg) (h : EvAd fr C tl Ar dvs m) : EvM fr C (tCall (spF K mg Ar (rkM rt) w) dvs fr.XE tl) rt (Wt.bind m w) := fun S0 σ S H Q I k => by
  refine h S0 σ S H _ I (m.mono (fun _ z => z) (fun x q vs S1 H1 I1 st1 r1 => ?_) k)
  refine ⟨S1, x, I1.land.sub, r1, (w x).mono (fun e he c d S' H' l er => ?_) (fun y qy v S' H' l ry => ?_) q⟩
  · obtain ⟨I2, _⟩ := I1.called l
    exact I.err e c d S' H' he I2.land (by rw [hmg]; exact er)
  · obtain ⟨I2, st2⟩ := I1.called l
    obtain ⟨ad, o, rfl, n1, n2, n3, r⟩ := ry
    exact qy ad o S' H' I2 (st1.trans st2) (hnew st1 n1) n2 n3 r
variable {k : Nat} {f : Addr} {fd : FuncData} {ps : List Str} {nm : Str} {ds : List Value} {dvs : List V}
theorem x_call {Ar : Aty X.K α} {rt : Ty X.K ρ} {w : α → Wt ρ} {m : Wt α} (F : FnOk X.prog X.w X.K X.mg X.base (CX X.prog X.w) k f fd ps (spF X.K X.mg Ar (rkT rt) w)) (hr : Room k X.A) (hm : X.mg nm = some (.ref f)) (hk : PySem.W.keepIn X.K (.ref f) = true) (hb : Binds X.K fd ps ds) (hd : Vals dvs ds) (hx : Passes (CX X.prog X.w) X fr.XE) (hmg : fr.mg = X.mg)
    (ha : AdX X fr C (e :: es) tl Ar dvs m) (hg : Gl X nm := by rfl) (hdb : (nm == ("__debug__" : Str)) = false := by decide) (he : starEach (e :: es) X.env = (false, eval e X.env) :: starEach es X.env := by rfl) (hpl : (backTo pos (starEach es X.env)).any (·.1) = false := by rfl) :
    EX X fr C (.Call (.Name nm p) (e :: es) [] pos) (tCall (spF X.K X.mg Ar (rkT rt) w) dvs fr.XE tl) rt (Wt.bind m w) := ⟨pe_call F hr hg hm hk hb hd hx ha.1 hdb he hpl, ev_call hmg ha.2⟩
theorem x_callM {Ar : Aty X.K α} {rt : Mty X.K ρ} {w : α → Wt ρ} {m : Wt α} (F : FnOk X.prog X.w X.K X.mg X.base (CX X.prog X.w) k f fd ps (spF X.K X.mg Ar (rkM rt) w)) (hr : Room k X.A) (hm : X.mg nm = some (.ref f)) (hk : PySem.W.keepIn X.K (.ref f) = true) (hb : Binds X.K fd ps ds) (hd : Vals dvs ds) (hx : Passes (CX X.prog X.w) X fr.XE) (hmg : fr.mg = X.mg)
    (ha : AdX X fr C (e :: es) tl Ar dvs m) (hg : Gl X nm := by rfl) (hdb : (nm == ("__debug__" : Str)) = false := by decide) (he : starEach (e :: es) X.env = (false, eval e X.env) :: starEach es X.env := by rfl) (hpl : (backTo pos (starEach es X.env)).any (·.1) = false := by rfl) :
    MX X fr C (.Call (.Name nm p) (e :: es) [] pos) (tCall (spF X.K X.mg Ar (rkM rt) w) dvs fr.XE tl) rt (Wt.bind m w) := ⟨pe_call F hr hg hm hk hb hd hx ha.1 hdb he hpl, em_call hmg ha.2⟩
/-- .. with the hand of slot i -/
theorem ev_callH {K : PySem.W.Frag} {fr : Fx} {C : Ct K} {i : Nat} {mh : Mty K Unit} {Ar : Aty K α} {rt : Ty K ρ} {w : α → Wt ρ} {m : Wt α} {dvs : List V} {mg : Str → Option Value} (hmg : fr.mg = mg) (hC : C[i]? = some (.hd mh)) (h : EvAd fr C tl Ar dvs m) : EvW fr C (tCall (spH K mg mh Ar (rkT rt) w) dvs fr.XE (tCons (tVar i) tl)) rt (Wt.bind m w) := fun S0 σ S H Q I k => by
  obtain ⟨a, _, e, _⟩ := I.hd hC
  refine ⟨_, e, h S0 σ S H _ I (m.mono (fun _ z => z) (fun x q vs S1 H1 I1 st1 r1 => ?_) k)⟩
  obtain ⟨a', o, e', g1, g2, g3⟩ := I1.hd hC
  rw [e] at e'
  cases e'
  refine ⟨a, o, vs ++ dvs, S1, x, rfl, I1.land.sub, g1, g2, g3, r1, (w x).mono (fun er her c d S' H' l err => ?_) (fun y qy v S' H' l ry => ?_) q⟩
  · obtain ⟨I2, _⟩ := I1.calledH hC e l
    exact I.err er c d S' H' her I2.land (by rw [hmg]; exact err)
  · obtain ⟨I2, st2⟩ := I1.calledH hC e l
    exact qy v S' H' I2 (st1.trans st2) ry
theorem em_callH {K : PySem.W.Frag} {fr : Fx} {C : Ct K} {i : Nat} {mh : Mty K Unit} {Ar : Aty K α} {rt : Mty K ρ} {w : α → Wt ρ} {m : Wt α} {dvs : List V} {mg : Str → Option Value} (hmg : fr.mg = mg) (hC : C[i]? = some (.hd mh)) (h : EvAd fr C tl Ar dvs m) : EvM fr C (tCall (spH K mg mh Ar (rkM rt) w) dvs fr.XE (tCons (tVar i) tl)) rt (Wt.bind m w) := fun S0 σ S H Q I k => by
  obtain ⟨a, _, e, _⟩ := I.hd hC
  refine ⟨_, e, h S0 σ S H _ I (m.mono (fun _ z => z) (fun x q vs S1 H1 I1 st1 r1 => ?_) k)⟩
  obtain ⟨a', o, e', g1, g2, g3⟩ := I1.hd hC
  rw [e] at e'
  cases e'
  refine ⟨a, o, vs ++ dvs, S1, x, rfl, I1.land.sub, g1, g2, g3, r1, (w x).mono (fun er her c d S' H' l err => ?_) (fun y qy v S' H' l ry => ?_) q⟩
  · obtain ⟨I2, _⟩ := I1.calledH hC e l
    exact I.err er c d S' H' her I2.land (by rw [hmg]; exact err)
  · obtain ⟨I2, st2⟩ := I1.calledH hC e l
    obtain ⟨ad, o', rfl, n1, n2, n3, r⟩ := ry
    exact qy ad o' S' H' I2 (st1.trans st2) (hnew st1 n1) n2 n3 r
theorem x_callH {i : Nat} {hn : Str} {mh : Mty X.K Unit} {Ar : Aty X.K α} {rt : Ty X.K ρ} {w : α → Wt ρ} {m : Wt α} (F : FnOk X.prog X.w X.K X.mg X.base (CX X.prog X.w) k f fd ps (spH X.K X.mg mh Ar (rkT rt) w)) (hr : Room k X.A) (hm : X.mg nm = some (.ref f)) (hk : PySem.W.keepIn X.K (.ref f) = true) (hb : Binds X.K fd ps ds) (hd : Vals dvs ds) (hx : Passes (CX X.prog X.w) X fr.XE) (hmg : fr.mg = X.mg)
    (hC : C[i]? = some (.hd mh)) (ha : AdX X fr C es tl Ar dvs m) (hn' : X.N[i]? = some hn := by rfl) (hv : Vis X.env.scope hn := by first | exact Or.inl rfl | exact Or.inr (Or.inl rfl) | exact Or.inr (Or.inr rfl)) (hd1 : (hn == ("__debug__" : Str)) = false := by decide) (hd2 : (hn == ("__classdict__" : Str)) = false := by decide) (hg : Gl X nm := by rfl) (hdb : (nm == ("__debug__" : Str)) = false := by decide) (he : starEach (.Name hn p2 :: es) X.env = (false, eval (.Name hn p2) X.env) :: starEach es X.env := by rfl) (hpl : (backTo pos (starEach es X.env)).any (·.1) = false := by rfl) :
    EX X fr C (.Call (.Name nm p) (.Name hn p2 :: es) [] pos) (tCall (spH X.K X.mg mh Ar (rkT rt) w) dvs fr.XE (tCons (tVar i) tl)) rt (Wt.bind m w) := ⟨pe_call F hr hg hm hk hb hd hx (pa_cons (pe_var hn' hv hd1 hd2) ha.1 he) hdb he hpl, ev_callH hmg hC ha.2⟩
theorem x_callHM {i : Nat} {hn : Str} {mh : Mty X.K Unit} {Ar : Aty X.K α} {rt : Mty X.K ρ} {w : α → Wt ρ} {m : Wt α} (F : FnOk X.prog X.w X.K X.mg X.base (CX X.prog X.w) k f fd ps (spH X.K X.mg mh Ar (rkM rt) w)) (hr : Room k X.A) (hm : X.mg nm = some (.ref f)) (hk : PySem.W.keepIn X.K (.ref f) = true) (hb : Binds X.K fd ps ds) (hd : Vals dvs ds) (hx : Passes (CX X.prog X.w) X fr.XE) (hmg : fr.mg = X.mg)
    (hC : C[i]? = some (.hd mh)) (ha : AdX X fr C es tl Ar dvs m) (hn' : X.N[i]? = some hn := by rfl) (hv : Vis X.env.scope hn := by first | exact Or.inl rfl | exact Or.inr (Or.inl rfl) | exact Or.inr (Or.inr rfl)) (hd1 : (hn == ("__debug__" : Str)) = false := by decide) (hd2 : (hn == ("__classdict__" : Str)) = false := by decide) (hg : Gl X nm := by rfl) (hdb : (nm == ("__debug__" : Str)) = false := by decide) (he : starEach (.Name hn p2 :: es) X.env = (false, eval (.Name hn p2) X.env) :: starEach es X.env := by rfl) (hpl : (backTo pos (starEach es X.env)).any (·.1) = false := by rfl) :
    MX X fr C (.Call (.Name nm p) (.Name hn p2 :: es) [] pos) (tCall (spH X.K X.mg mh Ar (rkM rt) w) dvs fr.XE (tCons (tVar i) tl)) rt (Wt.bind m w) := ⟨pe_call F hr hg hm hk hb hd hx (pa_cons (pe_var hn' hv hd1 hd2) ha.1 he) hdb he hpl, em_callH hmg hC ha.2⟩
end
/-! ### a def -/
/-- what a body hands back; fall: what None stands for where it falls off its end -/
def Wt.fin {ρ : Type} (fall : Option ρ) (m : Wt (Oc ρ Unit Unit)) : Wt ρ := Wt.bind m fun o => match o with
  | .ret x => Wt.pure x
  | .nxt _ => (match fall with | some x => Wt.pure x | none => Wt.never)
  | .brk _ => Wt.never
  | .cnt _ => Wt.never
section
variable {P : Program} {w : World} {K : PySem.W.Frag} {mg : Str → Option Value} {base : Heap} {α ρ : Type} {x qual : Str} {params : Arguments} {body : List Stmt} {scope : Scope} {dvs : List V} {kws : List (Str × V)} {f : Addr} {fd : FuncData} {N ps : List Str} {k : Nat}
def un (K : PySem.W.Frag) (n : Nat) : Ct K := List.replicate n .un
theorem sta_start {fr : Fx} {Ar : Aty K α} {y : α} {vs : List V} {S H : Hp} (r : Ar.rel y vs S) (hs : Ex S H) (hl : Ar.n ≤ N.length) (h0 : fr.H0 = H) (hp : fr.hp = none) (hsp : fr.sp = none)
    (he : ∀ e c d S' H', fr.E e → Land fr S S' H' → errRel fr.mg e c d H' → fr.XE c d H') : Sta fr S (Ar.slots y ++ un K (N.length - Ar.n)) (L2.start N vs) S H := by
  have lv : vs.length = Ar.n := Ar.len r
  have get : ∀ (i : Nat) (c : Sl K), (Ar.slots y ++ un K (N.length - Ar.n))[i]? = some c → SlOk c ((L2.start N vs)[i]?.join) S H ∧ ¬ c.isM := fun i c h => by
    by_cases hi : i < Ar.n
    · rw [List.getElem?_append_left (by rw [Ar.slen]; exact hi)] at h
      obtain ⟨v, hv, ok, nm⟩ := Ar.ok (H2 := H) r i c h
      refine ⟨?_, nm⟩
      unfold L2.start
      rw [List.getElem?_append_left (by rw [List.length_map, lv]; exact hi), List.getElem?_map, hv]
      exact ok
    · rw [List.getElem?_append_right (by rw [Ar.slen]; omega)] at h
      have : c = .un := by
        unfold un at h
        rw [List.getElem?_replicate] at h
        split at h
        · exact (Option.some.inj h).symm
        · cases h
      subst this
      exact ⟨True.intro, fun z => z⟩
  have nomu : ∀ i a, ¬ MuS (Ar.slots y ++ un K (N.length - Ar.n)) (L2.start N vs) i a := fun i a ⟨c, h1, h2, _⟩ => (get i c h1).2 h2
  refine ⟨⟨hs, Evl.Ex.refl S, fun b o _ h => by rw [← h0]; exact h, fun b h _ => h, fun a φ e => (by rw [hp] at e; cases e)⟩, ?_, fun i c h => (get i c h).1, fun i j a h _ => (nomu i a h).elim, fun i a h => (nomu i a h).elim, fun a φ e => (by rw [hp] at e; cases e), fun a e => (by rw [hsp] at e; cases e), he⟩
  unfold L2.start un
  rw [List.length_append, List.length_append, List.length_map, List.length_replicate, List.length_replicate, lv, Ar.slen]
theorem fn_body {Ar : Aty K α} {r : Rk K ρ} {fall : Option ρ} {m : α → Wt (Oc ρ Unit Unit)} (F : FunD K x qual params body scope dvs kws f fd) (Sc : FnScope N ps scope) (hn : Ar.n = ps.length) (hl : Ar.n ≤ N.length)
    (hfall : ∀ y, fall = some y → ∀ H0 S H, r.rel y .non H0 S H)
    (hb : ∀ (y : α) (cdv : Value) (A : Around) (outer : List Env) (s : Shared) (H : Hp) (E : XK) (fr : Fx), Room k (A.deeper (envOfC qual scope s.heap.objs.size f cdv)) → fr.free → fr.mg = mg → fr.XE = E →
      ∃ ts, SX (cxOf (CX P w) P w K mg base N qual scope f cdv A outer s H E) fr (Ar.slots y ++ un K (N.length - Ar.n)) body ts r (fun _ : Unit => un K N.length) (fun _ : Unit => un K N.length) (m y)) :
    FnOk P w K mg base (CX P w) (k + 1) f fd ps (spF K mg Ar r fun y => Wt.fin fall (m y)) := by
  refine F.ok Sc (fun vs H Q E h => ?_) (fun cdv A outer s H vs Q E hr h => ?_)
  · obtain ⟨S, y, _, r, _⟩ := h
    rw [Ar.len r, hn]
  · obtain ⟨S, y, hs, rv, hw⟩ := h
    let fr : Fx := ⟨H, none, none, fun e => ∀ c d S' H', Land (fx0 H none) S S' H' → errRel mg e c d H' → E c d H', E, mg⟩
    obtain ⟨ts, B⟩ := hb y cdv A outer s H E fr hr ⟨rfl, rfl⟩ rfl rfl
    refine ⟨ts, B.1, B.2 S _ S H _ (sta_start rv hs hl rfl rfl rfl fun e c d S' H' he l er => he c d S' H' ⟨l.sub, l.base, l.keep, l.out, l.hand⟩ er) ((m y).mono (fun _ z => z) (fun o q => ?_) hw)⟩
    cases o with
    | ret z => exact fun v S' H' l rr => q v S' H' ⟨l.sub, l.base, l.keep, l.out, l.hand⟩ rr
    | nxt s =>
      refine fun σ' S' H' I' => ?_
      cases e : fall with
      | none =>
        have q : (match fall with | some x => (Wt.pure x : Wt ρ) | none => Wt.never).run _ _ := q
        rw [e] at q
        exact q.elim
      | some z =>
        have q : (match fall with | some x => (Wt.pure x : Wt ρ) | none => Wt.never).run _ _ := q
        rw [e] at q
        exact q .non S' H' ⟨I'.land.sub, I'.land.base, I'.land.keep, I'.land.out, I'.land.hand⟩ (hfall z e _ _ _)
    | brk s => exact q.elim
    | cnt s => exact q.elim
/-- the same with a hand in slot 0 -/
theorem fn_bodyH {mh : Mty K Unit} {Ar : Aty K α} {r : Rk K ρ} {fall : Option ρ} {m : α → Wt (Oc ρ Unit Unit)} (F : FunD K x qual params body scope dvs kws f fd) (Sc : FnScope N ps scope) (hn : Ar.n + 1 = ps.length) (hl : Ar.n + 1 ≤ N.length)
    (hfall : ∀ y, fall = some y → ∀ H0 S H, r.rel y .non H0 S H)
    (hb : ∀ (y : α) (cdv : Value) (A : Around) (outer : List Env) (s : Shared) (H : Hp) (E : XK) (fr : Fx), Room k (A.deeper (envOfC qual scope s.heap.objs.size f cdv)) → fr.mg = mg → fr.XE = E →
      ∃ ts, SX (cxOf (CX P w) P w K mg base N qual scope f cdv A outer s H E) fr (.hd mh :: (Ar.slots y ++ un K (N.length - (Ar.n + 1)))) body ts r (fun _ : Unit => .hd mh :: un K (N.length - 1)) (fun _ : Unit => .hd mh :: un K (N.length - 1)) (m y)) :
    FnOk P w K mg base (CX P w) (k + 1) f fd ps (spH K mg mh Ar r fun y => Wt.fin fall (m y)) := by
  refine F.ok Sc (fun vs H Q E h => ?_) (fun cdv A outer s H vs Q E hr h => ?_)
  · obtain ⟨a, o, rest, S, y, rfl, _, _, _, _, r, _⟩ := h
    rw [List.length_cons, Ar.len r, hn]
  · obtain ⟨a, o, rest, S, y, rfl, hs, sa, ha, hm, rv, hw⟩ := h
    let fr : Fx := ⟨H, none, some (a, mh.rel ()), fun e => ∀ c d S' H', Land (fx0 H (some (a, mh.rel ()))) S S' H' → errRel mg e c d H' → E c d H', E, mg⟩
    obtain ⟨ts, B⟩ := hb y cdv A outer s H E fr hr rfl rfl
    have lv : rest.length = Ar.n := Ar.len rv
    have st0 : L2.start N (.ref a :: rest) = some (.ref a) :: (rest.map some ++ List.replicate (N.length - (Ar.n + 1)) none) := by
      unfold L2.start
      rw [List.map_cons, List.cons_append, List.length_cons, lv]
    have get : ∀ (i : Nat) (c : Sl K), (Ar.slots y ++ un K (N.length - (Ar.n + 1)))[i]? = some c → SlOk c ((rest.map some ++ List.replicate (N.length - (Ar.n + 1)) none)[i]?.join) S H ∧ ¬ c.isM := fun i c h => by
      by_cases hi : i < Ar.n
      · rw [List.getElem?_append_left (by rw [Ar.slen]; exact hi)] at h
        obtain ⟨v, hv, ok, nm⟩ := Ar.ok (H2 := H) rv i c h
        refine ⟨?_, nm⟩
        rw [List.getElem?_append_left (by rw [List.length_map, lv]; exact hi), List.getElem?_map, hv]
        exact ok
      · rw [List.getElem?_append_right (by rw [Ar.slen]; omega)] at h
        have : c = .un := by
          unfold un at h
          rw [List.getElem?_replicate] at h
          split at h
          · exact (Option.some.inj h).symm
          · cases h
        subst this
        exact ⟨True.intro, fun z => z⟩
    have mu0 : ∀ i b, MuS (.hd mh :: (Ar.slots y ++ un K (N.length - (Ar.n + 1)))) (L2.start N (.ref a :: rest)) i b → i = 0 ∧ b = a := fun i b ⟨c, h1, h2, h3⟩ => by
      cases i with
      | zero =>
        rw [st0] at h3
        have : some (V.ref a) = some (V.ref b) := Option.some.inj h3
        exact ⟨rfl, (V.ref.inj (Option.some.inj this)).symm⟩
      | succ i => exact ((get i c h1).2 h2).elim
    have I : Sta fr S (.hd mh :: (Ar.slots y ++ un K (N.length - (Ar.n + 1)))) (L2.start N (.ref a :: rest)) S H := by
      refine ⟨⟨hs, Evl.Ex.refl S, fun b o _ h => h, fun b h _ => h, fun b φ e => ?_⟩, ?_, fun i c h => ?_, fun i j b h1 h2 => ?_, fun i b h => ?_, fun b φ e => ?_, fun b e => (nomatch e), fun e c d S' H' he l er => he c d S' H' ⟨l.sub, l.base, l.keep, l.out, l.hand⟩ er⟩
      · cases e
        exact ⟨o, ha, hm⟩
      · rw [st0]
        unfold un
        rw [List.length_cons, List.length_cons, List.length_append, List.length_append, List.length_map, List.length_replicate, List.length_replicate, lv, Ar.slen]
      · rw [st0]
        cases i with
        | zero =>
          have : Sl.hd mh = c := Option.some.inj h
          subst this
          exact ⟨a, o, rfl, sa, ha, hm⟩
        | succ i => exact (get i c h).1
      · rw [(mu0 i b h1).1, (mu0 j b h2).1]
      · rw [(mu0 i b h).2]
        exact .inr ⟨_, rfl⟩
      · cases e
        rw [st0]
        exact ⟨rfl, mh, rfl, rfl⟩
    refine ⟨ts, B.1, B.2 S _ S H _ I ((m y).mono (fun _ z => z) (fun o q => ?_) hw)⟩
    cases o with
    | ret z => exact fun v S' H' l rr => q v S' H' ⟨l.sub, l.base, l.keep, l.out, l.hand⟩ rr
    | nxt s =>
      refine fun σ' S' H' I' => ?_
      cases e : fall with
      | none =>
        have q : (match fall with | some x => (Wt.pure x : Wt ρ) | none => Wt.never).run _ _ := q
        rw [e] at q
        exact q.elim
      | some z =>
        have q : (match fall with | some x => (Wt.pure x : Wt ρ) | none => Wt.never).run _ _ := q
        rw [e] at q
        exact q .non S' H' ⟨I'.land.sub, I'.land.base, I'.land.keep, I'.land.out, I'.land.hand⟩ (hfall z e _ _ _)
    | brk s => exact q.elim
    | cnt s => exact q.elim
end
end T9
/-! ### enumerate of a tuple -/
namespace T9E
open PySem
open Sem (wp)
open AutoSeq1 (wpAny_loadPart')
theorem made_of (l : Addr) (items : Array Value) (n : Nat) (dct : Option Addr) (sl : Array (Option Value)) : Meets (Builtin.«enumerate.__new__» ⟨[.type "enumerate", .ref l], []⟩) (fun _ R s => s.heap.get? l = some { cls := .type "tuple", dict := dct, data := .seq items n, slots := sl } ∧ R (.ok (.ret (.ref (s.heap.push { cls := .type "tuple_iterator", data := .fields #[.ref l, .int 0 0] }).objs.size))) { s with heap := (s.heap.push { cls := .type "tuple_iterator", data := .fields #[.ref l, .int 0 0] }).push { cls := .type "enumerate", data := .fields #[.none, .bool false, .ref s.heap.objs.size, rawInt 0, .none, .none] } }) := .of_wp fun prog w A R s h => by
    obtain ⟨hp, g, d, tk, os⟩ := s
    obtain ⟨hl, h⟩ := h
    have hsub := sub_enumerate; have hL : Heap.IsTuple (Shared.heap ⟨hp, g, d, tk, os⟩) l items := ⟨_, hl, rfl, n, rfl⟩
    wp_walk using wpAny_loadPart' hl; refine wpAny_stack_any fun st => wpAny_pure ?_; split
    · rename_i c _ _ _ _ _; cases (c == Value.type "enumerate")
      · (wp_walk using wpAny_loadPart' hl, wpAny_pyIter_tuple hL); exact ⟨_, rfl, h⟩
      · (wp_walk using wpAny_loadPart' hl, wpAny_pyIter_tuple hL); exact ⟨_, rfl, h⟩
    · (wp_walk using wpAny_loadPart' hl, wpAny_pyIter_tuple hL); exact ⟨_, rfl, h⟩
theorem call_enum_tup {prog : Program} {w : World} {A : Around} {E : Value → Shared → Prop} {s : Shared} {l : Addr} {items : Array Value} {Q : Value → Shared → Prop} (hL : s.heap.IsTuple l items)
    (h : ∀ h', IsEnum h' (s.heap.objs.size + 1) s.heap.objs.size 0 .none → h'.IsTupleIter s.heap.objs.size l 0 → h'.objs.size = s.heap.objs.size + 2 → (∀ b o, s.heap.get? b = some o → h'.get? b = some o) → Q (.ref (s.heap.objs.size + 1)) { s with heap := h' }) : wpAny (model prog w) A (call (.type "enumerate") [.ref l]) Q E s := by
  obtain ⟨⟨c, dct, dt, sl⟩, hl, hc, n, hd⟩ := hL; replace hc : c = .type "tuple" := hc; replace hd : dt = .seq items n := hd; subst hc hd
  refine callType_new F.called_enumerate (by decide) (F.typeCall_enumerate_1 _) (F.newCall_enumerate_1 _) (fun obj => F.args_object_init_2 obj _) F.entry_enumerate_new (made_of l items n dct sl) ⟨hl, ?_⟩
  have hz : (s.heap.push { cls := .type "tuple_iterator", data := .fields #[.ref l, .int 0 0] }).objs.size = s.heap.objs.size + 1 := Heap.size_push ..
  show _ ∧ _
  rw [hz]
  have he : IsEnum ((s.heap.push { cls := .type "tuple_iterator", data := .fields #[.ref l, .int 0 0] }).push { cls := .type "enumerate", data := .fields #[.none, .bool false, .ref s.heap.objs.size, rawInt 0, .none, .none] }) (s.heap.objs.size + 1) s.heap.objs.size 0 .none := by
    have q := Heap.get?_push_size (s.heap.push { cls := .type "tuple_iterator", data := .fields #[.ref l, .int 0 0] }) (o := { cls := .type "enumerate", data := .fields #[.none, .bool false, .ref s.heap.objs.size, rawInt 0, .none, .none] }) rfl
    rw [hz] at q; exact q
  refine ⟨⟨_, he, rfl⟩, h _ he ⟨_, Heap.get?_push_of_some _ (Heap.get?_push_size _ rfl), rfl, rfl⟩ (by rw [Heap.size_push, hz]) fun b o x => Heap.get?_push_of_some _ (Heap.get?_push_of_some _ x)⟩
end T9E
namespace T9
open PySem PySem.Spec PyProof.Rows L2 RZ
def IteT (K : PySem.W.Frag) (a : Addr) : It := ⟨fun i H => ∃ (xs : List V) (x : V), SqT K H a xs ∧ xs[i]? = some x, fun i H v H' => ∃ T x, v = .ref T ∧ H T = none ∧ H' = upd H T (.tup [.int (i : Nat), x]) ∧ ∀ xs, SqT K H a xs → xs[i]? = some x, fun i H => ∃ xs : List V, SqT K H a xs ∧ i = xs.length⟩
theorem turn_enumT {P : Program} {w : World} {K : PySem.W.Frag} {elts : List Expr} {kk : Nat} {tpos : Pos} (a e it : Addr) : Turn P w K (.Tuple elts kk tpos) (IteT K a) [e, it] e (fun i h => (∃ old, IsEnum h e it ((i : Nat) : Int) old) ∧ h.IsTupleIter it a i ∧ e ≠ it ∧ a ≠ it ∧ a ≠ e) where
  mem := by simp
  obj := fun i h st b hb => by
    obtain ⟨⟨old, he⟩, ⟨o, ho, hc, hd⟩, _⟩ := st
    rcases (show b = e ∨ b = it by simpa using hb) with z | z
    · rw [z]; exact ⟨_, he, fun v q => (nomatch q)⟩
    · rw [z]; exact ⟨o, ho, fun v q => by rw [hd] at q; cases q⟩
  keep := fun i h h' st k => let ⟨⟨old, he⟩, hi, hne⟩ := st; ⟨⟨old, k e (by simp) _ he⟩, hi.at fun o q => k it (by simp) o q, hne⟩
  item := by
    intro X hP hw hK hc i pins s σ H E I hf st hg; subst hP hw hK
    obtain ⟨⟨old, he⟩, hit, hne, hai, hae⟩ := st; obtain ⟨xs, x, hq, hx⟩ := hg; obtain ⟨its, rv, pt, hz⟩ := I.tuple hq; obtain ⟨u, hu, ru⟩ := rv.get hx
    have hel : e < s.heap.objs.size := Heap.lt_size he
    have hil : it < s.heap.objs.size := by obtain ⟨_, q, _⟩ := hit; exact Heap.lt_size q
    have hlt : i < its.toArray.size := by
      have := (List.getElem?_eq_some_iff.mp hu).1
      simpa using this
    refine wpAny_pyNext_enum_itemD (n := its.toArray.size) (Draws.tuple (w := X.w) (show X.A.in1.handled = none from I.ok.hd hc) it a hai its.toArray) he ⟨hit, show s.heap.IsTuple a its.toArray from pt⟩ hlt hne (by simp; exact ⟨hne, fun z => hae z.symm⟩) fun y h' tk hy ho hit' hT hsz hk => ?_
    have eu : y = u := by
      have hy' : its.toArray[i]? = some y := hy
      have hu' : its.toArray[i]? = some u := by simpa using hu
      rw [hu'] at hy'
      exact (Option.some.inj hy').symm
    subst eu
    refine ⟨_, rfl, wpAny_letOwnedTupleGo_enum (s := { s with heap := h', toks := tk + 1 }) ho fun h'' he' sb => ?_⟩
    have hT2 : h''.get? s.heap.objs.size = some { cls := .type "tuple", data := .seq #[.int i tk, y] } := (sb.2 _ (Nat.ne_of_gt hel)).trans hT
    have new : ObjOk X.prog X.w (upd H s.heap.objs.size (.tup [.int (i : Nat), x])) h'' s.heap.objs.size (.tup [.int (i : Nat), x]) := ⟨by show 2 ≤ sizeLine; decide, [.int i tk, y], .cons ⟨_, rfl⟩ (.cons ru .nil), ⟨_, hT2, rfl, _, rfl⟩⟩
    have I1 : Inv X pins σ (upd H s.heap.objs.size (.tup [.int (i : Nat), x])) { s with heap := h'', toks := tk + 1 } := I.turnedNew (t' := tk + 1) (ch := [e, it]) (fun b ob hb q => (sb.2 b (fun z => hb (by simp [z]))).trans (hk b ob (fun z => hb (by simp [z])) (fun z => hb (by simp [z])) q)) hf (Nat.le_refl _) new
    refine ⟨.ref s.heap.objs.size, _, I1, rfl, ⟨_, x, rfl, I.hok.fresh (Nat.le_refl _), rfl, fun ys hy => by rw [I.tuple_inj hy hq]; exact hx⟩, ⟨⟨y, ?_⟩, hit'.1.at fun o q => (sb.2 it (Ne.symm hne)).trans q, hne, hai, hae⟩, fun b hb => ?_⟩
    · rw [show ((i + 1 : Nat) : Int) = (i : Int) + 1 by omega]; exact he'
    · have hb' : b < s.heap.objs.size := by
        rcases (show b = e ∨ b = it by simpa using hb) with z | z <;> rw [z]
        · exact hel
        · exact hil
      rw [upd_ne (Nat.ne_of_lt hb')]; exact (hf b hb).1
  done := by
    intro X hP hw hK hc i pins s σ H E I hf st hg; subst hP hw hK
    obtain ⟨⟨old, he⟩, hit, hne, hai, hae⟩ := st; obtain ⟨xs, hq, hx⟩ := hg; obtain ⟨its, rv, pt, hz⟩ := I.tuple hq; obtain ⟨f0, f1, f2, f3, f4, f5⟩ := hf it (by simp)
    have hl := rv.length
    have ei : i = its.toArray.size := by simp; omega
    subst ei
    exact wpAny_pyNext_enum_endD (Draws.tuple (prog := X.prog) (w := X.w) (show X.A.in1.handled = none from I.ok.hd hc) it a hai its.toArray) he ⟨hit, show s.heap.IsTuple a its.toArray from pt⟩ fun h' eb => ⟨rfl, I.turned (t' := s.toks) (fun b o hb q => eb b o hb q) f0 f1 f3 f4 f5⟩
  self := fun A i s Q E st h => let ⟨⟨_, he⟩, _⟩ := st; wpAny_pyIter_enum he h
def iEnumT (K : PySem.W.Frag) (ta : TA) : TI := fun σ H R => ta σ H fun vs H1 => ∃ a xs, vs = [.ref a] ∧ SqT K H1 a xs ∧ R (IteT K a) H1
theorem pi_enumT {X : Cx} {e : Expr} {ta : TA} {p pos tpos : Pos} {elts : List Expr} {kk : Nat} (hg : Gl X "enumerate") (hm : X.mg "enumerate" = none) (ha : PA X [e] ta) (hs : starEach [e] X.env = [(false, eval e X.env)]) : PI X (.Tuple elts kk tpos) (.Call (.Name "enumerate" p) [e] [] pos) (iEnumT X.K ta) := by
  refine ⟨fun pins s σ H R I h => Call_ (ld_blt I hg hm boot_enumerate (PyProof.Rows.callWith_type1 (thn (ha.run pos pins s σ H _ I h) fun us s1 ⟨vs, H1, I1, r1, q1⟩ => ?_) hs rfl))⟩
  obtain ⟨a, xs, ex, hq, q⟩ := q1; subst ex
  cases r1 with
  | cons r rr =>
    cases rr; cases r
    obtain ⟨its, rv, p', hz⟩ := I1.tuple hq
    have hlt : a < s1.heap.objs.size := by obtain ⟨o, ho, _⟩ := id p'; exact Heap.lt_size ho
    refine T9E.call_enum_tup (show s1.heap.IsTuple a its.toArray from p') fun h' he hit hsz hk => wpAny_pyIter_enum he ?_
    have I2 : Inv X pins σ H1 { s1 with heap := h' } := I1.kept (t' := s1.toks) hk
    refine ⟨s1.heap.objs.size + 1, [s1.heap.objs.size + 1, s1.heap.objs.size], _, _, H1, rfl, I2, turn_enumT a (s1.heap.objs.size + 1) s1.heap.objs.size, ⟨⟨.none, he⟩, hit, Nat.succ_ne_self _, Nat.ne_of_lt hlt, Nat.ne_of_lt (Nat.lt_succ_of_lt hlt)⟩, fun b hb => ?_, q⟩
    have hle : s1.heap.objs.size ≤ b := by
      rcases (show b = s1.heap.objs.size + 1 ∨ b = s1.heap.objs.size by simpa using hb) with z | z <;> rw [z]
      · exact Nat.le_add_right _ _
      · exact Nat.le_refl _
    exact I1.fpOk hle (I1.hok.fresh hle)
/-- a list or a tuple, enumerated -/
def iEnumQ (K : PySem.W.Frag) (ta : TA) : TI := fun σ H R => ta σ H fun vs H1 => ∃ a xs, vs = [.ref a] ∧ ((SqL K H1 a xs ∧ R (Ite K a) H1) ∨ (SqT K H1 a xs ∧ R (IteT K a) H1))
theorem pi_enumQ {X : Cx} {e : Expr} {ta : TA} {p pos tpos : Pos} {elts : List Expr} {kk : Nat} (hg : Gl X "enumerate") (hm : X.mg "enumerate" = none) (ha : PA X [e] ta) (hs : starEach [e] X.env = [(false, eval e X.env)]) : PI X (.Tuple elts kk tpos) (.Call (.Name "enumerate" p) [e] [] pos) (iEnumQ X.K ta) := by
  refine ⟨fun pins s σ H R I h => Call_ (ld_blt I hg hm boot_enumerate (PyProof.Rows.callWith_type1 (thn (ha.run pos pins s σ H _ I h) fun us s1 ⟨vs, H1, I1, r1, q1⟩ => ?_) hs rfl))⟩
  obtain ⟨a, xs, ex, q1⟩ := q1; subst ex
  have fresh2 : ∀ b, b ∈ [s1.heap.objs.size + 1, s1.heap.objs.size] → FpOk X pins H1 b := fun b hb => by
    have hle : s1.heap.objs.size ≤ b := by
      rcases (show b = s1.heap.objs.size + 1 ∨ b = s1.heap.objs.size by simpa using hb) with z | z <;> rw [z]
      · exact Nat.le_add_right _ _
      · exact Nat.le_refl _
    exact I1.fpOk hle (I1.hok.fresh hle)
  cases r1 with
  | cons r rr =>
    cases rr; cases r
    rcases q1 with ⟨hq, q⟩ | ⟨hq, q⟩
    · obtain ⟨its, rv, p', hz⟩ := I1.list hq
      refine call_enumerate_list p'.isList fun h' he hit hsz hk => wpAny_pyIter_enum he ?_
      have I2 : Inv X pins σ H1 { s1 with heap := h' } := I1.kept (t' := s1.toks) hk
      exact ⟨s1.heap.objs.size + 1, [s1.heap.objs.size + 1, s1.heap.objs.size], _, _, H1, rfl, I2, turn_enum a (s1.heap.objs.size + 1) s1.heap.objs.size, ⟨⟨.none, he⟩, hit, Nat.succ_ne_self _⟩, fresh2, q⟩
    · obtain ⟨its, rv, p', hz⟩ := I1.tuple hq
      have hlt : a < s1.heap.objs.size := by obtain ⟨o, ho, _⟩ := id p'; exact Heap.lt_size ho
      refine T9E.call_enum_tup (show s1.heap.IsTuple a its.toArray from p') fun h' he hit hsz hk => wpAny_pyIter_enum he ?_
      have I2 : Inv X pins σ H1 { s1 with heap := h' } := I1.kept (t' := s1.toks) hk
      exact ⟨s1.heap.objs.size + 1, [s1.heap.objs.size + 1, s1.heap.objs.size], _, _, H1, rfl, I2, turn_enumT a (s1.heap.objs.size + 1) s1.heap.objs.size, ⟨⟨.none, he⟩, hit, Nat.succ_ne_self _, Nat.ne_of_lt hlt, Nat.ne_of_lt (Nat.lt_succ_of_lt hlt)⟩, fresh2, q⟩
section
variable {α β γ ρ δ : Type} {X : Cx} {fr : Fx} {C : Ct X.K} {e a b c tg iter : Expr} {es rest : List Expr} {te ta tb tc : TE} {tt tu : TT} {tl : TA} {wi : TI} {pos p p2 p3 tpos : Pos} {m : Wt α} {n : Wt β} {t : Ty X.K α} {u : Ty X.K β} {op op' : CmpOp}
theorem trn_enumT {K : PySem.W.Frag} {t : Ty K α} {ad : Addr} {xs : List α} {vs : List V} {fr : Fx} {S0 : Hp} {C : Ct K} {σ : L2.St} {S H : Hp} (I : Sta fr S0 C σ S H) (h : SqT K H ad vs) (r : All2 t.rel xs vs S) : Trn (IteT K ad) (yP yI t) (enm xs) fr S0 C σ S H := by
  have hl := r.length
  refine trn_pair (f := fun i => some (.int (i : Nat))) (g := fun i => vs[i]?) I (fun i => ?_) (fun i x y hi fx fy => ?_)
  · rw [enm_len, ← hl]
    refine ⟨fun hi => ⟨vs, vs[i], h, by simp [hi]⟩, fun v H' hi y => ?_, fun hi => ⟨vs, h, hi⟩⟩
    obtain ⟨T, x, e1, e2, e3, e4⟩ := y
    exact ⟨T, _, x, e1, e2, e3, rfl, e4 vs h⟩
  · obtain ⟨z, hz, rz⟩ := r.getV fy
    exact ⟨_, enm_get hz, (Option.some.inj fx).symm, rz⟩
theorem i_enumT {elts : List Expr} {kk : Nat} {m : Wt (List α)} (hm : X.mg "enumerate" = none) (h : EX X fr C e te (yT t) m) (hg : Gl X "enumerate" := by rfl) (hs : S1 X e := by rfl) (hs2 : starEach [e] X.env = [(false, eval e X.env)] := by rfl) :
    IX X fr C (.Tuple elts kk tpos) (.Call (.Name "enumerate" p) [e] [] pos) (iEnumT X.K (tCons te tNil)) true (yP yI t) (Wt.bind m fun xs => Wt.pure (enm xs)) :=
  ⟨pi_enumT hg hm (pa_cons h.1 pa_nil hs) hs2, fun S0 σ S H R I k => h.2 S0 σ S H _ I (m.mono (fun _ z => z) (fun xs q v S1 H1 I1 st1 r1 => by
    obtain ⟨ad, vs, e1, e2, e3⟩ := r1
    have go : ∀ (fr : Fx) (S0 : Hp) (C' : Ct X.K) (σ' : L2.St) (S2 H2 : Hp), Ex S1 S2 → Sta fr S0 C' σ' S2 H2 → Trn (IteT X.K ad) (yP yI t) (enm xs) fr S0 C' σ' S2 H2 := fun fr' S0' C' σ' S2 H2 ex I2 => trn_enumT I2 (.inl (.inl (I2.land.sub _ _ (ex _ _ e2)))) (e3.mono fun _ _ => t.mono ex)
    exact ⟨ad, vs, by rw [e1], .inl (.inl (I1.land.sub _ _ e2)), q _ S1 H1 I1 st1 ⟨fun _ => go, fun fr' S0' C' σ' S2 H2 I2 ex _ => go fr' S0' C' σ' S2 H2 ex I2⟩⟩) k)⟩
theorem i_enumQ {elts : List Expr} {kk : Nat} {m : Wt (Bool × List α)} (hm : X.mg "enumerate" = none) (h : EX X fr C e te (yQ t) m) (hg : Gl X "enumerate" := by rfl) (hs : S1 X e := by rfl) (hs2 : starEach [e] X.env = [(false, eval e X.env)] := by rfl) :
    IX X fr C (.Tuple elts kk tpos) (.Call (.Name "enumerate" p) [e] [] pos) (iEnumQ X.K (tCons te tNil)) true (yP yI t) (Wt.bind m fun xs => Wt.pure (enm xs.2)) :=
  ⟨pi_enumQ hg hm (pa_cons h.1 pa_nil hs) hs2, fun S0 σ S H R I k => h.2 S0 σ S H _ I (m.mono (fun _ z => z) (fun xs q v S1 H1 I1 st1 r1 => by
    obtain ⟨ad, vs, e1, e2, e3⟩ := sqQ I1.land.sub r1
    rcases e2 with ⟨_, e2, _⟩ | ⟨_, e2, _⟩
    · have go : ∀ (fr : Fx) (S0 : Hp) (C' : Ct X.K) (σ' : L2.St) (S2 H2 : Hp), Ex S1 S2 → Sta fr S0 C' σ' S2 H2 → Trn (Ite X.K ad) (yP yI t) (enm xs.2) fr S0 C' σ' S2 H2 := fun fr' S0' C' σ' S2 H2 ex I2 => trn_enum I2 (.inl (.inl (I2.land.sub _ _ (ex _ _ e2)))) (e3.mono fun _ _ => t.mono ex)
      exact ⟨ad, vs, by rw [e1], .inl ⟨.inl (.inl (I1.land.sub _ _ e2)), q _ S1 H1 I1 st1 ⟨fun _ => go, fun fr' S0' C' σ' S2 H2 I2 ex _ => go fr' S0' C' σ' S2 H2 ex I2⟩⟩⟩
    · have go : ∀ (fr : Fx) (S0 : Hp) (C' : Ct X.K) (σ' : L2.St) (S2 H2 : Hp), Ex S1 S2 → Sta fr S0 C' σ' S2 H2 → Trn (IteT X.K ad) (yP yI t) (enm xs.2) fr S0 C' σ' S2 H2 := fun fr' S0' C' σ' S2 H2 ex I2 => trn_enumT I2 (.inl (.inl (I2.land.sub _ _ (ex _ _ e2)))) (e3.mono fun _ _ => t.mono ex)
      exact ⟨ad, vs, by rw [e1], .inr ⟨.inl (.inl (I1.land.sub _ _ e2)), q _ S1 H1 I1 st1 ⟨fun _ => go, fun fr' S0' C' σ' S2 H2 I2 ex _ => go fr' S0' C' σ' S2 H2 ex I2⟩⟩⟩) k)⟩
/-! ### zip -/
theorem zip_get {xs : List α} {ys : List β} {i : Nat} {x : α} {y : β} (h1 : xs[i]? = some x) (h2 : ys[i]? = some y) : (xs.zip ys)[i]? = some (x, y) := by
  rw [List.getElem?_zip_eq_some]
  exact ⟨h1, h2⟩
theorem trn_zipT {K : PySem.W.Frag} {t : Ty K α} {u : Ty K β} {a1 a2 : Addr} {xs : List α} {ys : List β} {vs ws : List V} {fr : Fx} {S0 : Hp} {C : Ct K} {σ : L2.St} {S H : Hp} (I : Sta fr S0 C σ S H) (h1 : SqT K H a1 vs) (h2 : SqT K H a2 ws) (r1 : All2 t.rel xs vs S) (r2 : All2 u.rel ys ws S) : Trn (ItzT K a1 a2) (yP t u) (xs.zip ys) fr S0 C σ S H := by
  have l1 := r1.length
  have l2 := r2.length
  refine trn_pair (f := fun i => vs[i]?) (g := fun i => ws[i]?) I (fun i => ?_) (fun i x y hi fx fy => ?_)
  · rw [List.length_zip, ← l1, ← l2]
    refine ⟨fun hi => ⟨vs, ws, vs[i]'(by omega), ws[i]'(by omega), h1, h2, by simp, by simp⟩, fun v H' hi y => ?_, fun hi => ⟨vs, ws, h1, h2, by omega⟩⟩
    obtain ⟨T, x, y, e1, e2, e3, e4, e5⟩ := y
    exact ⟨T, x, y, e1, e2, e3, e4 vs h1, e5 ws h2⟩
  · obtain ⟨z, hz, rz⟩ := r1.getV fx
    obtain ⟨z', hz', rz'⟩ := r2.getV fy
    exact ⟨_, zip_get hz hz', rz, rz'⟩
theorem trn_zipL {K : PySem.W.Frag} {t : Ty K α} {u : Ty K β} {a1 a2 : Addr} {xs : List α} {ys : List β} {vs ws : List V} {fr : Fx} {S0 : Hp} {C : Ct K} {σ : L2.St} {S H : Hp} (I : Sta fr S0 C σ S H) (h1 : SqL K H a1 vs) (h2 : SqL K H a2 ws) (r1 : All2 t.rel xs vs S) (r2 : All2 u.rel ys ws S) : Trn (Itz K a1 a2) (yP t u) (xs.zip ys) fr S0 C σ S H := by
  have l1 := r1.length
  have l2 := r2.length
  refine trn_pair (f := fun i => vs[i]?) (g := fun i => ws[i]?) I (fun i => ?_) (fun i x y hi fx fy => ?_)
  · rw [List.length_zip, ← l1, ← l2]
    refine ⟨fun hi => ⟨vs, ws, vs[i]'(by omega), ws[i]'(by omega), h1, h2, by simp, by simp⟩, fun v H' hi y => ?_, fun hi => ⟨vs, ws, h1, h2, by omega⟩⟩
    obtain ⟨T, x, y, e1, e2, e3, e4, e5⟩ := y
    exact ⟨T, x, y, e1, e2, e3, e4 vs h1, e5 ws h2⟩
  · obtain ⟨z, hz, rz⟩ := r1.getV fx
    obtain ⟨z', hz', rz'⟩ := r2.getV fy
    exact ⟨_, zip_get hz hz', rz, rz'⟩
theorem i_zipT {elts : List Expr} {kk : Nat} {m : Wt (List α)} {n : Wt (List β)} (hm : X.mg "zip" = none) (h1 : EX X fr C a ta (yT t) m) (h2 : EX X fr C b tb (yT u) n) (hg : Gl X "zip" := by rfl) (hs : S2 X a b := by rfl) (hs2 : S1 X b := by rfl) :
    IX X fr C (.Tuple elts kk tpos) (.Call (.Name "zip" p) [a, b] [] pos) (iZipA X.K (tCons ta (tCons tb tNil))) true (yP t u) (Wt.bind m fun xs => Wt.bind n fun ys => Wt.pure (xs.zip ys)) :=
  ⟨pi_zipA hg hm (pa_cons h1.1 (pa_cons h2.1 pa_nil hs2) hs) hs (by rw [hs2]; rfl), fun S0 σ S H R I k => h1.2 S0 σ S H _ I (m.mono (fun _ z => z) (fun xs q v S1 H1 I1 st1 r1 => h2.2 S0 σ S1 H1 _ I1 (n.mono (fun _ z => z) (fun ys q2 v2 S2 H2 I2 st2 r2 => by
    obtain ⟨a1, vs, e1, e2, e3⟩ := (yT t).mono st2.ex r1
    obtain ⟨a2, ws, f1, f2, f3⟩ := r2
    have go : ∀ (fr : Fx) (S0 : Hp) (C' : Ct X.K) (σ' : L2.St) (S3 H3 : Hp), Ex S2 S3 → Sta fr S0 C' σ' S3 H3 → Trn (ItzT X.K a1 a2) (yP t u) (xs.zip ys) fr S0 C' σ' S3 H3 := fun fr' S0' C' σ' S3 H3 ex I3 => trn_zipT I3 (.inl (.inl (I3.land.sub _ _ (ex _ _ e2)))) (.inl (.inl (I3.land.sub _ _ (ex _ _ f2)))) (e3.mono fun _ _ => t.mono ex) (f3.mono fun _ _ => u.mono ex)
    exact ⟨a1, a2, vs, ws, by rw [e1, f1], .inr ⟨.inl (.inl (I2.land.sub _ _ e2)), .inl (.inl (I2.land.sub _ _ f2)), q2 _ S2 H2 I2 (st1.trans st2) ⟨fun _ => go, fun fr' S0' C' σ' S3 H3 I3 ex _ => go fr' S0' C' σ' S3 H3 ex I3⟩⟩⟩) q)) k)⟩
theorem i_zipL {elts : List Expr} {kk : Nat} {m : Wt (List α)} {n : Wt (List β)} (hm : X.mg "zip" = none) (h1 : EX X fr C a ta (yL t) m) (h2 : EX X fr C b tb (yL u) n) (hg : Gl X "zip" := by rfl) (hs : S2 X a b := by rfl) (hs2 : S1 X b := by rfl) :
    IX X fr C (.Tuple elts kk tpos) (.Call (.Name "zip" p) [a, b] [] pos) (iZipA X.K (tCons ta (tCons tb tNil))) true (yP t u) (Wt.bind m fun xs => Wt.bind n fun ys => Wt.pure (xs.zip ys)) :=
  ⟨pi_zipA hg hm (pa_cons h1.1 (pa_cons h2.1 pa_nil hs2) hs) hs (by rw [hs2]; rfl), fun S0 σ S H R I k => h1.2 S0 σ S H _ I (m.mono (fun _ z => z) (fun xs q v S1 H1 I1 st1 r1 => h2.2 S0 σ S1 H1 _ I1 (n.mono (fun _ z => z) (fun ys q2 v2 S2 H2 I2 st2 r2 => by
    obtain ⟨a1, vs, e1, e2, e3⟩ := (yL t).mono st2.ex r1
    obtain ⟨a2, ws, f1, f2, f3⟩ := r2
    have go : ∀ (fr : Fx) (S0 : Hp) (C' : Ct X.K) (σ' : L2.St) (S3 H3 : Hp), Ex S2 S3 → Sta fr S0 C' σ' S3 H3 → Trn (Itz X.K a1 a2) (yP t u) (xs.zip ys) fr S0 C' σ' S3 H3 := fun fr' S0' C' σ' S3 H3 ex I3 => trn_zipL I3 (.inl (.inl (I3.land.sub _ _ (ex _ _ e2)))) (.inl (.inl (I3.land.sub _ _ (ex _ _ f2)))) (e3.mono fun _ _ => t.mono ex) (f3.mono fun _ _ => u.mono ex)
    exact ⟨a1, a2, vs, ws, by rw [e1, f1], .inl ⟨.inl (.inl (I2.land.sub _ _ e2)), .inl (.inl (I2.land.sub _ _ f2)), q2 _ S2 H2 I2 (st1.trans st2) ⟨fun _ => go, fun fr' S0' C' σ' S3 H3 I3 ex _ => go fr' S0' C' σ' S3 H3 ex I3⟩⟩⟩) q)) k)⟩
/-! ### in, isinstance, xs[::-1] -/
theorem inV_ints {x : Int} : ∀ {xs : List Int}, inV (.int x) (xs.map V.int) = decide (x ∈ xs)
  | [] => rfl
  | y :: ys => by
    have ih := inV_ints (x := x) (xs := ys)
    unfold inV at ih ⊢
    rw [List.map_cons, List.any_cons, ih]
    by_cases h : x = y
    · subst h
      simp [eqV]
    · have h2 : ¬ y = x := fun z => h z.symm
      simp [eqV, h, h2]
theorem flat_ints (xs : List Int) : (xs.map V.int).all flatV = true := by
  rw [List.all_map, List.all_eq_true]
  intro x _
  rfl
theorem ev_inB {neg : Bool} {m : Wt Int} {n : Wt (List Int)} (h1 : EvW fr C ta yI m) (h2 : EvB fr C tb yI n) : EvW fr C (tOp (rIn X.K neg) ta tb) yB (Wt.bind m fun x => Wt.bind n fun xs => Wt.pure (if neg then !decide (x ∈ xs) else decide (x ∈ xs))) := fun S0 σ S H Q I k =>
  h1 S0 σ S H _ I (m.mono (fun _ z => z) (fun x q v1 S1 H1 I1 st1 r1 => h2 S0 σ S1 H1 _ I1 (n.mono (fun _ z => z) (fun xs q2 v2 S2 H2 I2 st2 r2 => by
    obtain ⟨ad, vs, e1, e2, e3⟩ := sqB r2
    have ev := all2_int e3
    subst ev
    refine ⟨ad, _, e1, .inl e2, by rw [show v1 = .int x from r1]; rfl, flat_ints xs, ?_⟩
    rw [show v1 = .int x from r1, inV_ints]
    exact q2 _ S2 H2 I2 (st1.trans st2) rfl) q)) k)
theorem ev_inT {neg : Bool} {m : Wt Int} {n : Wt (List Int)} (h1 : EvW fr C ta yI m) (h2 : EvW fr C tb (yT yI) n) : EvW fr C (tOp (rIn X.K neg) ta tb) yB (Wt.bind m fun x => Wt.bind n fun xs => Wt.pure (if neg then !decide (x ∈ xs) else decide (x ∈ xs))) := fun S0 σ S H Q I k =>
  h1 S0 σ S H _ I (m.mono (fun _ z => z) (fun x q v1 S1 H1 I1 st1 r1 => h2 S0 σ S1 H1 _ I1 (n.mono (fun _ z => z) (fun xs q2 v2 S2 H2 I2 st2 r2 => by
    obtain ⟨ad, vs, e1, e2, e3⟩ := sqT I2.land.sub r2
    have ev := all2_int e3
    subst ev
    refine ⟨ad, _, e1, .inr e2, by rw [show v1 = .int x from r1]; rfl, flat_ints xs, ?_⟩
    rw [show v1 = .int x from r1, inV_ints]
    exact q2 _ S2 H2 I2 (st1.trans st2) rfl) q)) k)
theorem c_inB {m : Wt Int} {n : Wt (List Int)} (h1 : EX X fr C a ta yI m) (h2 : BX X fr C b tb yI n) (hm : behindInMarks .In b = false := by rfl) : CmX X fr C .In a b (tOp (rIn X.K false) ta tb) (Wt.bind m fun x => Wt.bind n fun xs => Wt.pure (decide (x ∈ xs))) := c_op op_in_seq h1.1 h2.1 hm (ev_inB (neg := false) h1.2 h2.2)
theorem c_niB {m : Wt Int} {n : Wt (List Int)} (h1 : EX X fr C a ta yI m) (h2 : BX X fr C b tb yI n) (hm : behindInMarks .NotIn b = false := by rfl) : CmX X fr C .NotIn a b (tOp (rIn X.K true) ta tb) (Wt.bind m fun x => Wt.bind n fun xs => Wt.pure (!decide (x ∈ xs))) := c_op op_notIn_seq h1.1 h2.1 hm (ev_inB (neg := true) h1.2 h2.2)
theorem c_inT {m : Wt Int} {n : Wt (List Int)} (h1 : EX X fr C a ta yI m) (h2 : EX X fr C b tb (yT yI) n) (hm : behindInMarks .In b = false := by rfl) : CmX X fr C .In a b (tOp (rIn X.K false) ta tb) (Wt.bind m fun x => Wt.bind n fun xs => Wt.pure (decide (x ∈ xs))) := c_op op_in_seq h1.1 h2.1 hm (ev_inT (neg := false) h1.2 h2.2)
theorem c_niT {m : Wt Int} {n : Wt (List Int)} (h1 : EX X fr C a ta yI m) (h2 : EX X fr C b tb (yT yI) n) (hm : behindInMarks .NotIn b = false := by rfl) : CmX X fr C .NotIn a b (tOp (rIn X.K true) ta tb) (Wt.bind m fun x => Wt.bind n fun xs => Wt.pure (!decide (x ∈ xs))) := c_op op_notIn_seq h1.1 h2.1 hm (ev_inT (neg := true) h1.2 h2.2)
/-- the built-in type of a value -/
structure Tyx {K : PySem.W.Frag} (t : Ty K α) (n : α → String) : Prop where
  is : ∀ {x v S H}, Ex S H → t.rel x v S → TyX K H v (.type (n x))
theorem tyx_I {K : PySem.W.Frag} : Tyx (yI (K := K)) (fun _ => "int") := ⟨fun {x v S H} _ r => by rw [show v = .int x from r]; exact .base (.int x)⟩
theorem tyx_B {K : PySem.W.Frag} : Tyx (yB (K := K)) (fun _ => "bool") := ⟨fun {x v S H} _ r => by rw [show v = .bl x from r]; exact .base (.bl x)⟩
theorem tyx_N {K : PySem.W.Frag} : Tyx (yN (K := K)) (fun _ => "NoneType") := ⟨fun {x v S H} _ r => by rw [show v = .non from r]; exact .base .non⟩
theorem tyx_S {K : PySem.W.Frag} : Tyx (yS (K := K)) (fun _ => "str") := ⟨fun {x v S H} _ r => by rw [show v = .str x from r]; exact .base (.str x)⟩
theorem tyx_T {K : PySem.W.Frag} {t : Ty K α} : Tyx (yT t) (fun _ => "tuple") := ⟨fun {x v S H} e r => by
  obtain ⟨ad, vs, e1, e2, _⟩ := r
  rw [e1]
  exact .base (.tup (e _ _ e2))⟩
theorem tyx_L {K : PySem.W.Frag} {t : Ty K α} : Tyx (yL t) (fun _ => "list") := ⟨fun {x v S H} e r => by
  obtain ⟨ad, vs, e1, e2, _⟩ := r
  rw [e1]
  exact .base (.lst (e _ _ e2))⟩
theorem tyx_P {K : PySem.W.Frag} {t : Ty K α} {u : Ty K β} : Tyx (yP t u) (fun _ => "tuple") := ⟨fun {x v S H} e r => by
  obtain ⟨ad, v1, v2, e1, e2, _⟩ := r
  rw [e1]
  exact .base (.tup (e _ _ e2))⟩
theorem tyx_Q {K : PySem.W.Frag} {t : Ty K α} : Tyx (yQ t) (fun x => if x.1 then "list" else "tuple") := ⟨fun {x v S H} e r => by
  obtain ⟨ad, vs, e1, e2, _⟩ := sqQ e r
  rw [e1]
  rcases e2 with ⟨h, e2, _⟩ | ⟨h, e2, _⟩
  · rw [h]
    exact .base (.lst (e _ _ e2))
  · rw [h]
    exact .base (.tup (e _ _ e2))⟩
/-- isinstance(x, T), T a built-in class; the answer b is known for each x -/
theorem x_isi {nT : α → String} {T : String} {T' : Str} {f : α → Bool} (hm : X.mg "isinstance" = none) (hT : X.mg T' = none) (hB : bootBuiltins T' = some (.type T)) (hx : Tyx t nT) (hk : ∀ x, kitB (nT x) T = some (f x)) (h : EX X fr C e te t m) (hn : T' ≠ "__name__" := by decide) (hd : (T' == ("__debug__" : Str)) = false := by decide) (hg : Gl X "isinstance" := by rfl) (hg2 : Gl X T' := by rfl)
    (hs : starEach [e, .Name T' p2] X.env = (false, eval e X.env) :: starEach [.Name T' p2] X.env := by rfl) (hs2 : starEach [.Name T' p2] X.env = (false, eval (.Name T' p2) X.env) :: starEach [] X.env := by rfl) : EX X fr C (.Call (.Name "isinstance" p) [e, .Name T' p2] [] pos) (tCB (rIsi X.K) (tCons te (tCons (tC (.ty T)) tNil))) yB (Wt.bind m fun x => Wt.pure (f x)) :=
  ⟨pe_callB call_isi hg hm (by decide +kernel) (pa_cons h.1 (pa_cons (pe_bltn (v := .ty T) hg2 hT hB rfl hn hd) pa_nil hs2) hs) (he := hs) (hpl := by rw [hs2]; rfl), fun S0 σ S H Q I k => h.2 S0 σ S H _ I (m.mono (fun _ z => z) (fun x q v S1 H1 I1 st1 r1 => ⟨v, .ty T, _, _, f x, rfl, .ty T, hx.is I1.land.sub r1, kit_ty (hk x), q _ S1 H1 I1 st1 rfl⟩) k)⟩
/-- isinstance(x, (T, U)) -/
theorem x_isi2 {nT : α → String} {T U : String} {T' U' : Str} {f : α → Bool} {x1} (hm : X.mg "isinstance" = none) (hT : X.mg T' = none) (hB : bootBuiltins T' = some (.type T)) (hU : X.mg U' = none) (hBU : bootBuiltins U' = some (.type U)) (hx : Tyx t nT) (f1 f2 : α → Bool) (hk1 : ∀ x, kitB (nT x) T = some (f1 x)) (hk2 : ∀ x, kitB (nT x) U = some (f2 x)) (hf : ∀ x, f x = (f1 x || f2 x)) (h : EX X fr C e te t m)
    (hn : T' ≠ "__name__" := by decide) (hd : (T' == ("__debug__" : Str)) = false := by decide) (hnU : U' ≠ "__name__" := by decide) (hdU : (U' == ("__debug__" : Str)) = false := by decide) (hg : Gl X "isinstance" := by rfl) (hg2 : Gl X T' := by rfl) (hg3 : Gl X U' := by rfl)
    (hs : starEach [e, .Tuple [.Name T' p2, .Name U' p3] x1 tpos] X.env = (false, eval e X.env) :: starEach [.Tuple [.Name T' p2, .Name U' p3] x1 tpos] X.env := by rfl) (hs2 : starEach [.Tuple [.Name T' p2, .Name U' p3] x1 tpos] X.env = (false, eval (.Tuple [.Name T' p2, .Name U' p3] x1 tpos) X.env) :: starEach [] X.env := by rfl)
    (hs3 : starEach [.Name T' p2, .Name U' p3] X.env = (false, eval (.Name T' p2) X.env) :: starEach [.Name U' p3] X.env := by rfl) (hs4 : starEach [.Name U' p3] X.env = (false, eval (.Name U' p3) X.env) :: starEach [] X.env := by rfl) :
    EX X fr C (.Call (.Name "isinstance" p) [e, .Tuple [.Name T' p2, .Name U' p3] x1 tpos] [] pos) (tCB (rIsiT X.K) (tCons te (tCons (tTup (tCons (tC (.ty T)) (tCons (tC (.ty U)) tNil))) tNil))) yB (Wt.bind m fun x => Wt.pure (f x)) :=
  ⟨pe_callB call_isiT hg hm (by decide +kernel) (pa_cons h.1 (pa_cons (pe_tup (pa_cons (pe_bltn (v := .ty T) hg2 hT hB rfl hn hd) (pa_cons (pe_bltn (v := .ty U) hg3 hU hBU rfl hnU hdU) pa_nil hs4) hs3)) pa_nil hs2) hs) (he := hs) (hpl := by rw [hs2]; rfl), fun S0 σ S H Q I k => h.2 S0 σ S H _ I (m.mono (fun _ z => z) (fun x q v S1 H1 I1 st1 r1 => by
    refine ⟨by show 2 ≤ sizeLine; decide, fun tp ht => ?_⟩
    obtain ⟨I2, st2⟩ := I1.new (o := .tup [.ty T, .ty U]) ht
    refine ⟨v, tp, [.ty T, .ty U], _, [.type T, .type U], f x, rfl, upd_same, .cons (.ty T) (.cons (.ty U) .nil), hx.is I2.land.sub (t.mono st2.ex r1), ?_, q _ _ _ I2 (st1.trans st2) rfl⟩
    rw [hf x]
    refine kitAny_cons (kit_ty (hk1 x)) (fun z => ?_) (fun z => by rw [z]; rfl)
    rw [z, Bool.false_or]
    refine kitAny_cons (kit_ty (hk2 x)) (fun z => by rw [z]; rfl) (fun z => z)) k)⟩
theorem x_revB {jj : Nat} {p1 p4 : Pos} {m : Wt (List α)} (h : BX X fr C e te t m) : MX X fr C (.Subscript e (.Slice none none (some (.UnaryOp .USub (.Constant (.int 1) jj p1) p2)) p3) pos) (tRevL X.K te) (mL t) (Wt.bind m fun xs => Wt.pure xs.reverse) :=
  ⟨pe_revL h.1, fun S0 σ S H Q I k => h.2 S0 σ S H _ I (m.mono (fun _ z => z) (fun x q v S1 H1 I1 st1 r1 => by
    obtain ⟨ad, vs, e1, e2, e3⟩ := sqB r1
    exact ⟨ad, vs, e1, e2, new_lst I1 (All2.reverse e3) fun ad' o S' H' I' st' n1 n2 n3 r => q ad' o S' H' I' (st1.trans st') (hnew st1 n1) n2 n3 r⟩) k)⟩
end
end T9
/-! ### instances -/
namespace T9
open L2 PyProof.Rows PySem.Spec PySem
abbrev Flds := List (Str × (V → Hp → Prop))
def FMat : Flds → List (Str × V) → Hp → Prop
  | [], [], _ => True
  | p :: fl, q :: fs, H => p.1 = q.1 ∧ p.2 q.2 H ∧ FMat fl fs H
  | _, _, _ => False
def FMono : Flds → Prop
  | [] => True
  | p :: fl => (∀ v H H', Ex H H' → p.2 v H → p.2 v H') ∧ FMono fl
def fld {K : PySem.W.Frag} {α : Type} (n : Str) (t : Ty K α) (x : α) : Str × (V → Hp → Prop) := (n, fun v H => t.rel x v H)
theorem fmono_cons {K : PySem.W.Frag} {α : Type} {n : Str} {t : Ty K α} {x : α} {fl : Flds} (h : FMono fl) : FMono (fld n t x :: fl) := ⟨fun v H H' e r => t.mono e r, h⟩
theorem fmono_app {K : PySem.W.Frag} {α : Type} {n : Str} {t : Ty K α} {x : α} : ∀ {fl : Flds}, FMono fl → FMono (fl ++ [fld n t x])
  | [], _ => fmono_cons True.intro
  | _ :: fl, h => ⟨h.1, fmono_app h.2⟩
theorem FMat.mono : ∀ {fl : Flds} {fs : List (Str × V)} {H H' : Hp}, FMono fl → Ex H H' → FMat fl fs H → FMat fl fs H'
  | [], [], _, _, _, _, _ => True.intro
  | p :: fl, q :: fs, _, _, m, e, h => ⟨h.1, m.1 _ _ _ e h.2.1, FMat.mono m.2 e h.2.2⟩
  | [], _ :: _, _, _, _, _, h => h.elim
  | _ :: _, [], _, _, _, _, h => h.elim
theorem FMat.length : ∀ {fl : Flds} {fs : List (Str × V)} {H : Hp}, FMat fl fs H → fs.length = fl.length
  | [], [], _, _ => rfl
  | p :: fl, q :: fs, _, h => by rw [List.length_cons, List.length_cons, FMat.length h.2.2]
  | [], _ :: _, _, h => h.elim
  | _ :: _, [], _, h => h.elim
theorem FMat.get {f : Str} {R : V → Hp → Prop} : ∀ {fl : Flds} {fs : List (Str × V)} {H : Hp}, FMat fl fs H → fl.lookup f = some R → ∃ v, fs.lookup f = some v ∧ R v H
  | [], [], _, _, e => by cases e
  | (n, R') :: fl, (n', v) :: fs, H, h, e => by
    have hn : n = n' := h.1
    subst hn
    rw [List.lookup_cons] at e ⊢
    cases q : f == n with
    | true =>
      rw [q] at e
      cases e
      exact ⟨v, rfl, h.2.1⟩
    | false =>
      rw [q] at e
      exact FMat.get h.2.2 e
  | [], _ :: _, _, h, _ => h.elim
  | _ :: _, [], _, h, _ => h.elim
theorem FMat.none {f : Str} : ∀ {fl : Flds} {fs : List (Str × V)} {H : Hp}, FMat fl fs H → fl.lookup f = none → fs.lookup f = none
  | [], [], _, _, _ => rfl
  | (n, R') :: fl, (n', v) :: fs, H, h, e => by
    have hn : n = n' := h.1
    subst hn
    rw [List.lookup_cons] at e ⊢
    cases q : f == n with
    | true => rw [q] at e; cases e
    | false =>
      rw [q] at e
      exact FMat.none h.2.2 e
  | [], _ :: _, _, h, _ => h.elim
  | _ :: _, [], _, h, _ => h.elim
theorem FMat.put {f : Str} {R : V → Hp → Prop} {v : V} : ∀ {fl : Flds} {fs : List (Str × V)} {H : Hp}, FMat fl fs H → fl.lookup f = Option.none → R v H → FMat (fl ++ [(f, R)]) (putF f v fs) H
  | [], [], _, _, _, r => ⟨rfl, r, True.intro⟩
  | (n, R') :: fl, (n', w) :: fs, H, h, e, r => by
    have hn : n = n' := h.1
    subst hn
    rw [List.lookup_cons] at e
    cases q : f == n with
    | true => rw [q] at e; cases e
    | false =>
      rw [q] at e
      have ne : ¬ f = n := fun z => by rw [z, beq_self_eq_true] at q; cases q
      have ne2 : ¬ n = f := fun z => ne z.symm
      have : putF f v ((n, w) :: fs) = (n, w) :: putF f v fs := by simp [putF, ne, ne2]
      rw [this]
      exact ⟨rfl, h.2.1, FMat.put h.2.2 e r⟩
  | [], _ :: _, _, h, _, _ => h.elim
  | _ :: _, [], _, h, _, _ => h.elim
/-- an instance that does not change any more -/
def yIns (K : PySem.W.Frag) {α : Type} (C : Addr) (fl : α → Flds) (hm : ∀ x, FMono (fl x)) : Ty K α := ⟨fun x v H => ∃ a dx fs, v = .ref a ∧ H a = some (.ins C dx fs) ∧ FMat (fl x) fs H, fun e ⟨a, dx, fs, h1, h2, h3⟩ => ⟨a, dx, fs, h1, e a _ h2, h3.mono (hm _) e⟩⟩
/-- one that is being made -/
def mIns (K : PySem.W.Frag) (C : Addr) : Mty K Flds := ⟨fun fl o S => FMono fl ∧ ∃ dx fs, o = .ins C dx fs ∧ FMat fl fs S, fun e ⟨h0, dx, fs, h1, h2⟩ => ⟨h0, dx, fs, h1, h2.mono h0 e⟩⟩
section
variable {α β γ ρ δ ε : Type} {X : Cx} {fr : Fx} {C : Ct X.K} {e a b c tg iter elt : Expr} {es ifs : List Expr} {st : Stmt} {sts rest A B : List Stmt} {te ta tb tc : TE} {tt tu : TT} {tl : TA} {ts tr tA tB : TS} {wi : TI} {g : TG} {pos p p2 p3 tpos : Pos} {t : Ty X.K α} {u : Ty X.K β} {op op' : CmpOp} {r : Rk X.K ρ} {Cn : β → Ct X.K} {Cl : γ → Ct X.K}
theorem x_fld {f : Str} {Cc : Addr} {fl : α → Flds} {hm : ∀ x, FMono (fl x)} {w : Ty X.K δ} {g : α → δ} {m : Wt α} (hc : Cls X.K Cc) (hn : NoAttr X.K Cc f) (hf : ∀ x, (fl x).lookup f = some (fun v H => w.rel (g x) v H)) (h : EX X fr C e te (yIns X.K Cc fl hm) m) (hb : attributeBase e f X.env (eval e X.env) = eval e X.env := by rfl) :
    EX X fr C (.Attribute e f pos) (tFld X.K te f) w (Wt.bind m fun x => Wt.pure (g x)) :=
  ⟨pe_fld h.1 hb, fun S0 σ S H Q I k => h.2 S0 σ S H _ I (m.mono (fun _ z => z) (fun x q v S1 H1 I1 st1 r1 => by
    obtain ⟨ad, dx, fs, e1, e2, e3⟩ := r1
    obtain ⟨w', hw, rw'⟩ := e3.get (hf x)
    exact ⟨ad, Cc, dx, fs, w', e1, I1.land.sub _ _ e2, hc, hn, hw, q w' S1 H1 I1 st1 rw'⟩) k)⟩
/-- self.f = e -/
theorem s_fld {f : Str} {Cc : Addr} {nm : Str} {fl : Flds} {i : Nat} {m : Wt α} {k : α → Wt (Oc ρ β γ)} (hcl : Cls X.K Cc) (hna : NoAttr X.K Cc f) (hC : C[i]? = some (.mu (mIns X.K Cc) fl)) (h : EX X fr C e te t m) (hk : ∀ x, SX X fr (C.set i (.mu (mIns X.K Cc) (fl ++ [fld f t x]))) rest tr r Cn Cl (k x)) (x0 : α) (hf : fl.lookup f = none := by rfl) (hl : fl.length < 1000 := by decide)
    (hn : X.N[i]? = some nm := by rfl) (hv : Vis X.env.scope nm := by first | exact Or.inl rfl | exact Or.inr (Or.inl rfl) | exact Or.inr (Or.inr rfl)) (hd : (nm == ("__debug__" : Str)) = false := by decide) (hcd : (nm == ("__classdict__" : Str)) = false := by decide) (hs : swapsWith e (some (.Attribute (.Name nm p) f p2)) pos.line X.env = pure false := by rfl) :
    SX X fr C (.Assign [.Attribute (.Name nm p) f p2] e pos :: rest) (tSeq (sFld X.K (tVar i) te f) tr) r Cn Cl (Wt.bind m k) :=
  ⟨pss_cons (ps_fld (pe_var hn hv hd hcd) h.1 hs) (hk x0).1, fun S0 σ S H D I kk => h.2 S0 σ S H _ I (m.mono (fun _ z => z) (fun x q v S1 H1 I1 st1 r1 => by
    obtain ⟨ad, ob, e1, g1, g2, g0, dx, fs, g3, g4⟩ := I1.mu hC
    subst g3
    refine ⟨_, e1, ad, Cc, dx, fs, rfl, g2, hcl, hna, by rw [g4.length]; exact hl, ?_⟩
    exact (hk x).2 S0 σ S1 _ D (I1.mutate hC e1 ⟨fmono_app g0, dx, putF f v fs, rfl, g4.put hf r1⟩) q) kk)⟩
end
/-! ### __init__ -/
def Wt.finI {β : Type} (m : Wt (Oc Unit β Unit)) : Wt β := Wt.bind m fun o => match o with
  | .nxt x => Wt.pure x
  | .ret _ => Wt.never
  | .brk _ => Wt.never
  | .cnt _ => Wt.never
/-- the heap without one object -/
def wo (H : Hp) (a : Addr) : Hp := fun b => if b = a then none else H b
theorem wo_same {H : Hp} {a : Addr} : wo H a a = none := by unfold wo; rw [if_pos rfl]
theorem wo_ne {H : Hp} {a b : Addr} (h : b ≠ a) : wo H a b = H b := by unfold wo; rw [if_neg h]
def spI (K : PySem.W.Frag) (mg : Str → Option Value) {α β : Type} (C : Addr) (Ar : Aty K α) (fl : β → Flds) (w : α → Wt β) : Sp := fun vs H Q E => ∃ a dx rest S x, vs = .ref a :: rest ∧ Ex S H ∧ S a = none ∧ H a = some (.ins C dx []) ∧ Ar.rel x rest S ∧
  (w x).run (fun e => ∀ c d S' H', Land (fx0 (wo H a) none) S S' H' → errRel mg e c d H' → E c d H') (fun y => ∀ S' H' dx' fs, Land (fx0 (wo H a) none) S S' H' → S' a = none → H' a = some (.ins C dx' fs) → FMat (fl y) fs S' → Q .non H')
section
variable {P : Program} {w : World} {K : PySem.W.Frag} {mg : Str → Option Value} {base : Heap} {α β ρ : Type} {x qual : Str} {params : Arguments} {body : List Stmt} {scope : Scope} {dvs : List V} {kws : List (Str × V)} {f : Addr} {fd : FuncData} {N ps : List Str} {k : Nat}
theorem fn_init {C : Addr} {Ar : Aty K α} {fl : β → Flds} {m : α → Wt (Oc Unit β Unit)} (F : FunD K x qual params body scope dvs kws f fd) (Sc : FnScope N ps scope) (hn : Ar.n + 1 = ps.length) (hl : Ar.n + 1 ≤ N.length)
    (hb : ∀ (y : α) (cdv : Value) (A : Around) (outer : List Env) (s : Shared) (H : Hp) (E : XK) (fr : Fx), Room k (A.deeper (envOfC qual scope s.heap.objs.size f cdv)) → fr.hp = none → fr.mg = mg → fr.XE = E →
      ∃ ts, SX (cxOf (CX P w) P w K mg base N qual scope f cdv A outer s H E) fr (.mu (mIns K C) [] :: (Ar.slots y ++ un K (N.length - (Ar.n + 1)))) body ts (rkT (yN (K := K))) (fun z : β => .mu (mIns K C) (fl z) :: un K (N.length - 1)) (fun _ : Unit => un K N.length) (m y)) :
    FnOk P w K mg base (CX P w) (k + 1) f fd ps (spI K mg C Ar fl fun y => Wt.finI (m y)) := by
  refine F.ok Sc (fun vs H Q E h => ?_) (fun cdv A outer s H vs Q E hr h => ?_)
  · obtain ⟨a, dx, rest, S, y, rfl, _, _, _, r, _⟩ := h
    rw [List.length_cons, Ar.len r, hn]
  · obtain ⟨a, dx, rest, S, y, rfl, hs, sa, ha, rv, hw⟩ := h
    let fr : Fx := ⟨wo H a, some a, none, fun e => ∀ c d S' H', Land (fx0 (wo H a) none) S S' H' → errRel mg e c d H' → E c d H', E, mg⟩
    obtain ⟨ts, B⟩ := hb y cdv A outer s H E fr hr rfl rfl rfl
    have lv : rest.length = Ar.n := Ar.len rv
    have st0 : L2.start N (.ref a :: rest) = some (.ref a) :: (rest.map some ++ List.replicate (N.length - (Ar.n + 1)) none) := by
      unfold L2.start
      rw [List.map_cons, List.cons_append, List.length_cons, lv]
    have get : ∀ (i : Nat) (c : Sl K), (Ar.slots y ++ un K (N.length - (Ar.n + 1)))[i]? = some c → SlOk c ((rest.map some ++ List.replicate (N.length - (Ar.n + 1)) none)[i]?.join) S H ∧ ¬ c.isM := fun i c h => by
      by_cases hi : i < Ar.n
      · rw [List.getElem?_append_left (by rw [Ar.slen]; exact hi)] at h
        obtain ⟨v, hv, ok, nm⟩ := Ar.ok (H2 := H) rv i c h
        refine ⟨?_, nm⟩
        rw [List.getElem?_append_left (by rw [List.length_map, lv]; exact hi), List.getElem?_map, hv]
        exact ok
      · rw [List.getElem?_append_right (by rw [Ar.slen]; omega)] at h
        have : c = .un := by
          unfold un at h
          rw [List.getElem?_replicate] at h
          split at h
          · exact (Option.some.inj h).symm
          · cases h
        subst this
        exact ⟨True.intro, fun z => z⟩
    have mu0 : ∀ i b, MuS (.mu (mIns K C) [] :: (Ar.slots y ++ un K (N.length - (Ar.n + 1)))) (L2.start N (.ref a :: rest)) i b → i = 0 ∧ b = a := fun i b ⟨c, h1, h2, h3⟩ => by
      cases i with
      | zero =>
        rw [st0] at h3
        have : some (V.ref a) = some (V.ref b) := Option.some.inj h3
        exact ⟨rfl, (V.ref.inj (Option.some.inj this)).symm⟩
      | succ i => exact ((get i c h1).2 h2).elim
    have I : Sta fr S (.mu (mIns K C) [] :: (Ar.slots y ++ un K (N.length - (Ar.n + 1)))) (L2.start N (.ref a :: rest)) S H := by
      refine ⟨⟨hs, Evl.Ex.refl S, fun b o _ h => ?_, fun b h _ => h, fun b φ e => (nomatch e)⟩, ?_, fun i c h => ?_, fun i j b h1 h2 => ?_, fun i b h => ?_, fun b φ e => (nomatch e), fun b e => ?_, fun e c d S' H' he l er => he c d S' H' ⟨l.sub, l.base, l.keep, l.out, l.hand⟩ er⟩
      · have h : wo H a b = some o := h
        by_cases z : b = a
        · rw [z, wo_same] at h; cases h
        · rw [wo_ne z] at h; exact h
      · rw [st0]
        unfold un
        rw [List.length_cons, List.length_cons, List.length_append, List.length_append, List.length_map, List.length_replicate, List.length_replicate, lv, Ar.slen]
      · rw [st0]
        cases i with
        | zero =>
          have : Sl.mu (mIns K C) [] = c := Option.some.inj h
          subst this
          exact ⟨a, _, rfl, sa, ha, True.intro, dx, [], rfl, True.intro⟩
        | succ i => exact (get i c h).1
      · rw [(mu0 i b h1).1, (mu0 j b h2).1]
      · rw [(mu0 i b h).2]
        exact .inl wo_same
      · cases e
        rw [st0]
        rfl
    refine ⟨ts, B.1, B.2 S _ S H _ I ((m y).mono (fun _ z => z) (fun o q => ?_) hw)⟩
    cases o with
    | ret z => exact q.elim
    | brk s => exact q.elim
    | cnt s => exact q.elim
    | nxt z =>
      refine fun σ' S' H' I' => ?_
      obtain ⟨ad, ob, e1, g1, g2, g0, dx', fs, g3, g4⟩ := I'.mu (i := 0) rfl
      subst g3
      have ea : ad = a := by
        have q0 := I'.pslot a rfl
        rw [e1] at q0
        cases q0
        rfl
      subst ea
      exact q S' H' dx' fs ⟨I'.land.sub, I'.land.base, I'.land.keep, I'.land.out, I'.land.hand⟩ g1 g2 g4
end
end T9
namespace T9
open L2 PyProof.Rows PySem.Spec PySem
section
variable {α β γ ρ δ ε : Type} {X : Cx} {fr : Fx} {C : Ct X.K} {e o a b c tg iter elt : Expr} {es ifs : List Expr} {st : Stmt} {sts rest A B : List Stmt} {te ta tb tc : TE} {tt tu : TT} {tl : TA} {ts tr tA tB : TS} {wi : TI} {g : TG} {pos p p2 p3 tpos apos : Pos} {t : Ty X.K α} {u : Ty X.K β} {op op' : CmpOp} {r : Rk X.K ρ} {Cn : β → Ct X.K} {Cl : γ → Ct X.K}
variable {k : Nat} {f Cc : Addr} {fd : FuncData} {ps : List Str} {nm : Str} {ds : List Value} {dvs : List V}
/-- behind the making of an instance -/
theorem Sta.made {K : PySem.W.Frag} {fr : Fx} {S0 : Hp} {C : Ct K} {σ : L2.St} {S H S' H' : Hp} {x dx Cc : Addr} {ob : HO} (I : Sta fr S0 C σ S H) (hx : H x = none) (hd : H dx = none) (ne : dx ≠ x) (l : Land (fx0 (wo (upd (upd H dx (.own x)) x (.ins Cc dx [])) x) none) S S' H') (sx : S' x = none) (ho : H' x = some ob) :
    Sta fr S0 C σ (upd S' x ob) H' ∧ Stp C σ S H (upd S' x ob) H' := by
  have hk : ∀ b o, H b = some o → H' b = some o := fun b o h => by
    have n1 : b ≠ x := fun z => by rw [z, hx] at h; cases h
    have n2 : b ≠ dx := fun z => by rw [z, hd] at h; cases h
    refine l.keep b o (fun _ _ z => nomatch z) ?_
    show wo _ x b = some o
    rw [wo_ne n1, upd_ne n1, upd_ne n2]
    exact h
  have out : ∀ b, S b = none → H b ≠ none → (upd S' x ob) b = none := fun b h n => by
    have n1 : b ≠ x := fun z => n (by rw [z]; exact hx)
    have n2 : b ≠ dx := fun z => n (by rw [z]; exact hd)
    rw [upd_ne n1]
    refine l.out b h ?_
    show wo _ x b ≠ none
    rw [wo_ne n1, upd_ne n1, upd_ne n2]
    exact n
  have e1 : Ex S (upd S' x ob) := fun b o h => by
    have n1 : b ≠ x := fun z => by
      have := I.land.sub b o h
      rw [z, hx] at this; cases this
    rw [upd_ne n1]
    exact l.base b o h
  have e2 : Ex (upd S' x ob) H' := fun b o h => by
    by_cases z : b = x
    · subst z
      rw [upd_same] at h
      cases h
      exact ho
    · rw [upd_ne z] at h
      exact l.sub b o h
  exact ⟨I.grow e1 hk e2 out, Stp.of_grow e1 hk out⟩
theorem ev_make {K : PySem.W.Frag} {fr : Fx} {C : Ct K} {Cc : Addr} {Ar : Aty K α} {fl : β → Flds} {hm : ∀ x, FMono (fl x)} {w : α → Wt β} {m : Wt α} {dvs : List V} {mg : Str → Option Value} (hmg : fr.mg = mg) (h : EvAd fr C tl Ar dvs m) : EvW fr C (tMake Cc (spI K mg Cc Ar fl w) dvs fr.XE tl) (yIns K Cc fl hm) (Wt.bind m w) := fun S0 σ S H Q I k => by
  refine h S0 σ S H _ I (m.mono (fun _ z => z) (fun x q vs S1 H1 I1 st1 r1 => ?_) k)
  intro xa dx hx hd ne
  have sx1 : S1 xa = none := Evl.fresh_back I1.land.sub hx
  refine ⟨xa, dx, vs ++ dvs, S1, x, rfl, fun b o h => ?_, sx1, upd_same, r1, (w x).mono (fun e he c d S' H' l er => ?_) (fun y qy S' H' dx' fs l n1 n2 fm => ⟨rfl, ?_⟩) q⟩
  · have := I1.land.sub b o h
    rw [upd_ne (fun z => by rw [z, hx] at this; cases this), upd_ne (fun z => by rw [z, hd] at this; cases this)]
    exact this
  · have n1 : ∀ b o, H1 b = some o → b ≠ xa ∧ b ≠ dx := fun b o h => ⟨fun z => (by rw [z, hx] at h; cases h), fun z => (by rw [z, hd] at h; cases h)⟩
    have hk : ∀ b o, H1 b = some o → H' b = some o := fun b o h => l.keep b o (fun _ _ z => nomatch z) (by
      show wo _ xa b = some o
      rw [wo_ne (n1 b o h).1, upd_ne (n1 b o h).1, upd_ne (n1 b o h).2]
      exact h)
    have out : ∀ b, S1 b = none → H1 b ≠ none → S' b = none := fun b h n => l.out b h (by
      show wo _ xa b ≠ none
      cases q : H1 b with
      | none => exact (n q).elim
      | some o =>
        rw [wo_ne (n1 b o q).1, upd_ne (n1 b o q).1, upd_ne (n1 b o q).2, q]
        exact fun z => nomatch z)
    exact I.err e c d S' H' he (I1.grow l.base hk l.sub out).land (by rw [hmg]; exact er)
  · obtain ⟨I2, st2⟩ := I1.made hx hd ne l n1 n2
    exact qy (.ref xa) _ H' I2 (st1.trans st2) ⟨xa, dx', fs, rfl, upd_same, fm.mono (hm y) (Evl.Ex.new n1)⟩
theorem x_make {Ar : Aty X.K α} {fl : β → Flds} {hm : ∀ x, FMono (fl x)} {w : α → Wt β} {m : Wt α} (M : Mk X.K Cc f) (F : FnOk X.prog X.w X.K X.mg X.base (CX X.prog X.w) k f fd ps (spI X.K X.mg Cc Ar fl w)) (hr : Room (k + 1) X.A) (hmc : X.mg nm = some (.ref Cc)) (hb : Binds X.K fd ps ds) (hd : Vals dvs ds) (hx : Passes (CX X.prog X.w) X fr.XE) (hmg : fr.mg = X.mg)
    (ha : AdX X fr C (e :: es) tl Ar dvs m) (hg : Gl X nm := by rfl) (hdb : (nm == ("__debug__" : Str)) = false := by decide) (he : starEach (e :: es) X.env = (false, eval e X.env) :: starEach es X.env := by rfl) (hpl : (backTo pos (starEach es X.env)).any (·.1) = false := by rfl) :
    EX X fr C (.Call (.Name nm p) (e :: es) [] pos) (tMake Cc (spI X.K X.mg Cc Ar fl w) dvs fr.XE tl) (yIns X.K Cc fl hm) (Wt.bind m w) := ⟨pe_make M F hr hg hmc hb hd hx ha.1 hdb he hpl, ev_make hmg ha.2⟩
/-- o.m(e, ..) -/
theorem ev_meth {K : PySem.W.Frag} {fr : Fx} {C : Ct K} {Cc : Addr} {fl : β → Flds} {hm : ∀ x, FMono (fl x)} {Ar : Aty K α} {rt : Ty K ρ} {w : β × α → Wt ρ} {mo : Wt β} {m : Wt α} {dvs : List V} {mg : Str → Option Value} {mn : Str} (hmg : fr.mg = mg) (hno : ∀ x, (fl x).lookup mn = none) (ho : EvW fr C te (yIns K Cc fl hm) mo) (h : EvAd fr C tl Ar dvs m) :
    EvW fr C (tMeth Cc mn (spF K mg (aC (yIns K Cc fl hm) Ar) (rkT rt) w) dvs fr.XE te tl) rt (Wt.bind mo fun x => Wt.bind m fun y => w (x, y)) := fun S0 σ S H Q I k => by
  refine ho S0 σ S H _ I (mo.mono (fun _ z => z) (fun x q v S1 H1 I1 st1 r1 => ?_) k)
  obtain ⟨ad, dx, fs, e1, e2, e3⟩ := id r1
  refine ⟨ad, dx, fs, e1, I1.land.sub _ _ e2, e3.none (hno x), h S0 σ S1 H1 _ I1 (m.mono (fun _ z => z) (fun y q2 vs S2 H2 I2 st2 r2 => ?_) q)⟩
  refine ⟨S2, (x, y), I2.land.sub, ⟨v, vs ++ dvs, rfl, (yIns K Cc fl hm).mono st2.ex r1, r2⟩, (w (x, y)).mono (fun er her c d S' H' l err => ?_) (fun z qz v' S' H' l rz => ?_) q2⟩
  · obtain ⟨I3, _⟩ := I2.called l
    exact I.err er c d S' H' her I3.land (by rw [hmg]; exact err)
  · obtain ⟨I3, st3⟩ := I2.called l
    exact qz v' S' H' I3 ((st1.trans st2).trans st3) rz
theorem x_meth {fl : β → Flds} {hm : ∀ x, FMono (fl x)} {Ar : Aty X.K α} {rt : Ty X.K ρ} {w : β × α → Wt ρ} {mo : Wt β} {m : Wt α} {mn : Str} {pl : Sem Bool} (cl : Cls X.K Cc) (me : Meth X.K Cc mn f) (hno : ∀ x, (fl x).lookup mn = none) (F : FnOk X.prog X.w X.K X.mg X.base (CX X.prog X.w) k f fd ps (spF X.K X.mg (aC (yIns X.K Cc fl hm) Ar) (rkT rt) w)) (hr : Room k X.A) (hb : Binds X.K fd ps ds) (hd : Vals dvs ds) (hx : Passes (CX X.prog X.w) X fr.XE) (hmg : fr.mg = X.mg)
    (ho : EX X fr C o te (yIns X.K Cc fl hm) mo) (ha : AdX X fr C (e :: es) tl Ar dvs m) (he : starEach (e :: es) X.env = (false, eval e X.env) :: starEach es X.env := by rfl) (hpl : (backTo pos (starEach es X.env)).any (·.1) = false := by rfl)
    (ht : eval (.Call (.Attribute o mn apos) (e :: es) [] pos) X.env = (do
      let ov ← eval o X.env
      standAt apos.atName
      let (f, first) ← holding [ov] (getMethod ov mn pl)
      callWith pos f first (backTo pos (starEach (e :: es) X.env)) (backToKw pos (keywordEach [] X.env))) := by rfl) :
    EX X fr C (.Call (.Attribute o mn apos) (e :: es) [] pos) (tMeth Cc mn (spF X.K X.mg (aC (yIns X.K Cc fl hm) Ar) (rkT rt) w) dvs fr.XE te tl) rt (Wt.bind mo fun x => Wt.bind m fun y => w (x, y)) := ⟨pe_meth ho.1 cl me F hr hb hd hx ha.1 he hpl ht, ev_meth hmg hno ho.2 ha.2⟩
/-! ### len(set(xs)), xs a short list of tuples of ints -/
theorem call_len_setT (hc : X.calm = true) : CallR X (.builtin "len") (fun xs H Q => ∃ (a : Addr) (L : List (Addr × List Int)), xs = [V.ref a] ∧ H a = some (SetTO X.prog X.w a L) ∧ ((L.map (·.2)).Nodup → L.length < 64 → Q (.int (L.length : Int)) H)) := by
  intro pins s σ H xs us Q I r h
  obtain ⟨a, L, rfl, hL, q⟩ := h
  obtain ⟨u, rfl, rx⟩ := vals1 r
  cases rx
  obtain ⟨R, _, _⟩ := (show ObjOk X.prog X.w H s.heap a (SetTO X.prog X.w a L) from I.hok a _ hL)
  obtain ⟨es, ep, t, ⟨ob, h1, h2, h3⟩, h4, h5, h6, h7, h8, h9, h10⟩ := SetT0.ex (show SetT0 X.prog X.w s.heap a L from R)
  have hsz : es.size = L.length := by
    have := congrArg List.length h4
    rw [Array.length_toList] at this
    rw [this]
    unfold rowsOf
    rw [List.length_map]
  have hfit : t.fits es.size = true := by
    have q1 := h5.sz
    rw [List.length_map] at q1
    unfold SetTable.fits SetTable.fill
    rw [h5.dm, Bool.and_eq_true, beq_iff_eq, decide_eq_true_eq]
    exact ⟨by omega, show t.place.size + 0 ≤ t.mask by omega⟩
  refine call_len_set h1 h2 h3 hfit (by rw [hsz]; omega) ?_
  rw [hsz]
  exact ⟨.int (L.length : Int), H, I.tok _, ⟨_, rfl⟩, q h6 h10⟩
def rLenST (P : Program) (w : World) : List V → Hp → VK → Prop := fun xs H Q => ∃ (a : Addr) (L : List (Addr × List Int)), xs = [V.ref a] ∧ H a = some (SetTO P w a L) ∧ ((L.map (·.2)).Nodup → L.length < 64 → Q (.int (L.length : Int)) H)
theorem tups_of {K : PySem.W.Frag} {S : Hp} : ∀ {xs : List (List Int)} {vs : List V}, All2 (yT (yI (K := K))).rel xs vs S → ∃ ks : List (Addr × List Int), vs = ks.map (fun p => V.ref p.1) ∧ ks.map (·.2) = xs ∧ ∀ p ∈ ks, S p.1 = some (.tup (p.2.map V.int))
  | [], [], _ => ⟨[], rfl, rfl, fun _ h => nomatch h⟩
  | x :: xs, v :: vs, h => by
    obtain ⟨ks, h1, h2, h3⟩ := tups_of h.2
    obtain ⟨a, ws, e1, e2, e3⟩ := h.1
    rw [all2_int e3] at e2
    refine ⟨(a, x) :: ks, by rw [h1, e1]; rfl, by rw [List.map_cons, h2], fun p hp => ?_⟩
    rcases List.mem_cons.mp hp with z | z
    · rw [z]; exact e2
    · exact h3 p z
  | [], _ :: _, h => h.elim
  | _ :: _, [], h => h.elim
theorem x_lenSetT {m : Wt (List (List Int))} (hm : X.mg "len" = none) (hm2 : X.mg "set" = none) (hu : X.A.units + 64 < cLine) (h : BX X fr C e te (yT yI) m) (hc : X.calm = true := by rfl) (hg : Gl X "len" := by rfl) (hg2 : Gl X "set" := by rfl) (hs : S1 X e := by rfl) (hs2 : S1 X (.Call (.Name "set" p2) [e] [] p3) := by rfl) :
    EX X fr C (.Call (.Name "len" p) [.Call (.Name "set" p2) [e] [] p3] [] pos) (tCB (rLenST X.prog X.w) (tCons (tCB (rSetOfT X.K X.prog X.w) (tCons te tNil)) tNil)) yI (Wt.bind m fun xs => Wt.req (xs.length < 64) (Wt.any fun n => ∃ l : List (List Int), l.Nodup ∧ (∀ x, x ∈ l ↔ x ∈ xs) ∧ n = (l.length : Int))) :=
  ⟨pe_callB (call_len_setT hc) hg hm PySem.boot_len (pa_cons (pe_callTy (cr_setOfT hc hu) hg2 hm2 (by decide +kernel) (pa_cons h.1 pa_nil hs) (he := hs)) pa_nil hs2) (he := hs2), fun S0 σ S H Q I k => h.2 S0 σ S H _ I (m.mono (fun _ z => z) (fun xs q v S1 H1 I1 st1 r1 => by
    obtain ⟨hz, q⟩ := q
    obtain ⟨ad, vs, e1, e2, e3⟩ := sqB r1
    obtain ⟨ks, g1, g2, g3⟩ := tups_of e3
    subst g1
    refine ⟨ad, ks, by rw [e1], e2, fun p hp => .inl (.inl (I1.land.sub _ _ (g3 p hp))), by rw [← g2, List.length_map] at hz; exact hz, fun a L ha h1 h2 => ⟨a, L, rfl, upd_same, fun nd _ => ?_⟩⟩
    obtain ⟨I2, st2⟩ := I1.newM (o := SetTO X.prog X.w a L) ha
    refine q (L.length : Int) ⟨L.map (·.2), nd, fun x => ⟨fun hx => ?_, fun hx => ?_⟩, by rw [List.length_map]⟩ _ S1 _ I2 (st1.trans st2) rfl
    · obtain ⟨p, hp, rfl⟩ := List.mem_map.mp hx
      rw [← g2]
      exact List.mem_map.mpr ⟨p, h1 p hp, rfl⟩
    · rw [← g2] at hx
      obtain ⟨p, hp, rfl⟩ := List.mem_map.mp hx
      exact h2 p hp) k)⟩
end
end T9
namespace T9
open L2 PyProof.Rows PySem.Spec PySem
section
variable {α β γ ρ δ ε : Type} {X : Cx} {fr : Fx} {C : Ct X.K} {e o a b c tg iter elt : Expr} {es ifs : List Expr} {st : Stmt} {sts rest A B : List Stmt} {te ta tb tc : TE} {tt tu : TT} {tl : TA} {ts tr tA tB : TS} {wi : TI} {g : TG} {pos p p2 p3 tpos apos : Pos} {t : Ty X.K α} {u : Ty X.K β} {op op' : CmpOp} {r : Rk X.K ρ} {Cn : β → Ct X.K} {Cl : γ → Ct X.K}
/-- a, b = [..], [..] -/
theorem s_parM {i j : Nat} {x y : Str} {a b : Expr} {px py pt : Pos} {kt k2 pt2} {m : Wt α} {n : Wt δ} {v1 : Mty X.K α} {v2 : Mty X.K δ} {k : α → δ → Wt (Oc ρ β γ)} (h1 : MX X fr C a ta v1 m) (h2 : MX X fr C b tb v2 n) (hi' : i < C.length) (hj' : j < C.length) (h0 : fr.free ∨ (i ≠ 0 ∧ j ≠ 0)) (hk : ∀ x y, SX X fr ((C.set i (.mu v1 x)).set j (.mu v2 y)) rest tr r Cn Cl (k x y)) (x0 : α) (y0 : δ) (hN : X.N.Nodup)
    (hij : i ≠ j := by decide) (hi : X.N[i]? = some x := by rfl) (hj : X.N[j]? = some y := by rfl) (hx : X.env.scope.names.lookup x = some .local := by rfl) (hy : X.env.scope.names.lookup y = some .local := by rfl)
    (hw : swappedStores [.Tuple [.Name x px, .Name y py] kt pt] (.Tuple [a, b] k2 pt2) X.env = pure (some [x, y]) := by rfl)
    (hs : swapsWithSole [.Tuple [.Name x px, .Name y py] kt pt] (.Tuple [a, b] k2 pt2) pos.line X.env = pure false := by rfl) (hs1 : starEach [a, b] X.env = (false, eval a X.env) :: starEach [b] X.env := by rfl) (hs2 : starEach [b] X.env = (false, eval b X.env) :: starEach [] X.env := by rfl) (hc : X.calm = true := by rfl) :
    SX X fr C (.Assign [.Tuple [.Name x px, .Name y py] kt pt] (.Tuple [a, b] k2 pt2) pos :: rest) (tSeq (tPar i j (tCons ta (tCons tb tNil))) tr) r Cn Cl (Wt.bind m fun x => Wt.bind n fun y => k x y) :=
  ⟨pss_cons (ps_par hc hN hi hj hij hx hy (pa_cons h1.1 (pa_cons h2.1 pa_nil hs2) hs1) hw hs) (hk x0 y0).1, fun S0 σ S H D I kk => h1.2 S0 σ S H _ I (m.mono (fun _ z => z) (fun x q a1 o1 S1 H1 I1 st1 n1 n2 n3 r1 => h2.2 S0 σ S1 H1 _ I1 (n.mono (fun _ z => z) (fun y q2 a2 o2 S2 H2 I2 st2 g1 g2 g3 r2 => by
    have e1 : H2 a1 = some o1 := st2.keep a1 o1 (hdS_new I n1) n3
    have e2 : S2 a1 = none := st2.out a1 n2 (by rw [n3]; exact fun z => nomatch z)
    have I3 := I2.setMu hi' e2 e1 (v1.mono st2.ex r1) (muS_new I n1) (I.H0_none n1) (h0.imp id And.left)
    have ne : a1 ≠ a2 := fun z => by rw [← z, n3] at g1; cases g1
    have I4 := I3.setMu (i := j) (m := v2) (x := y) (a := a2) (by rw [List.length_set]; exact hj') g2 g3 r2 (fun l ⟨c, f1, f2, f3⟩ => by
      by_cases z : i = l
      · subst z
        rw [List.getElem?_set_self (by rw [I2.len]; exact hi')] at f3
        have f3 : some (V.ref a1) = some (V.ref a2) := Option.some.inj f3
        exact ne (V.ref.inj (Option.some.inj f3))
      · rw [List.getElem?_set_ne z] at f1 f3
        exact muS_new I1 g1 l ⟨c, f1, f2, f3⟩) (I1.H0_none g1) (h0.imp id And.right)
    exact ⟨.ref a1, .ref a2, rfl, (hk x y).2 S0 _ S2 H2 D I4 q2⟩) q)) kk)⟩
/-! ### f(e, .., k = v) -/
variable {k : Nat} {f Cc : Addr} {fd : FuncData} {ps ks : List Str} {nm : Str} {ds : List Value} {dvs : List V}
theorem ev_callK {K : PySem.W.Frag} {fr : Fx} {C : Ct K} {A1 : Aty K α} {t2 : Ty K β} {Ar : Aty K γ} {join : α → β → γ} {rt : Ty K ρ} {w : γ → Wt ρ} {m : Wt α} {n : Wt β} {mg : Str → Option Value} (hmg : fr.mg = mg) (hj : ∀ x y vs v S, A1.rel x vs S → t2.rel y v S → Ar.rel (join x y) (vs ++ [v]) S) (h : EvAd fr C tl A1 [] m) (h2 : EvW fr C te t2 n) :
    EvW fr C (tCallK (spF K mg Ar (rkT rt) w) (fun vs zs => vs ++ zs) fr.XE tl (tCons te tNil)) rt (Wt.bind m fun x => Wt.bind n fun y => w (join x y)) := fun S0 σ S H Q I k => by
  refine h S0 σ S H _ I (m.mono (fun _ z => z) (fun x q vs S1 H1 I1 st1 r1 => h2 S0 σ S1 H1 _ I1 (n.mono (fun _ z => z) (fun y q2 v S2 H2 I2 st2 r2 => ?_) q)) k)
  rw [List.append_nil] at r1
  refine ⟨S2, join x y, I2.land.sub, hj x y vs v S2 (A1.mono st2.ex r1) r2, (w (join x y)).mono (fun e he c d S' H' l er => ?_) (fun z qz v' S' H' l rz => ?_) q2⟩
  · obtain ⟨I3, _⟩ := I2.called l
    exact I.err e c d S' H' he I3.land (by rw [hmg]; exact er)
  · obtain ⟨I3, st3⟩ := I2.called l
    exact qz v' S' H' I3 ((st1.trans st2).trans st3) rz
theorem x_callK {A1 : Aty X.K α} {t2 : Ty X.K β} {Ar : Aty X.K γ} {join : α → β → γ} {rt : Ty X.K ρ} {w : γ → Wt ρ} {m : Wt α} {n : Wt β} {ke : Expr} {kn : Str} {kp : Pos} (F : FnOk X.prog X.w X.K X.mg X.base (CX X.prog X.w) k f fd ps (spF X.K X.mg Ar (rkT rt) w)) (hr : Room k X.A) (hm : X.mg nm = some (.ref f)) (hk : PySem.W.keepIn X.K (.ref f) = true) (hb : KBinds X.K fd ps [kn] (fun us ws => us ++ ws) (fun vs zs => vs ++ zs)) (hx : Passes (CX X.prog X.w) X fr.XE) (hmg : fr.mg = X.mg)
    (hj : ∀ x y vs v S, A1.rel x vs S → t2.rel y v S → Ar.rel (join x y) (vs ++ [v]) S) (ha : AdX X fr C (e :: es) tl A1 [] m) (h2 : EX X fr C ke te t2 n) (hg : Gl X nm := by rfl) (hdb : (nm == ("__debug__" : Str)) = false := by decide) (he : starEach (e :: es) X.env = (false, eval e X.env) :: starEach es X.env := by rfl)
    (hall : (backToKw pos (keywordEach [⟨some kn, ke, kp⟩] X.env)).all (·.1.isSome) = true := by rfl) (hks : (backToKw pos (keywordEach [⟨some kn, ke, kp⟩] X.env)).filterMap (·.1) = [kn] := by rfl)
    (hpl : ((backTo pos (starEach (e :: es) X.env)).any (·.1) || (backToKw pos (keywordEach [⟨some kn, ke, kp⟩] X.env)).any (·.1.isNone)) = false := by rfl) :
    EX X fr C (.Call (.Name nm p) (e :: es) [⟨some kn, ke, kp⟩] pos) (tCallK (spF X.K X.mg Ar (rkT rt) w) (fun vs zs => vs ++ zs) fr.XE tl (tCons te tNil)) rt (Wt.bind m fun x => Wt.bind n fun y => w (join x y)) :=
  ⟨pe_callK F hr hg hm hk hb hx ha.1 (pk_cons h2.1 pk_nil) hall hks hdb he hpl, ev_callK hmg hj ha.2 h2.2⟩
end
theorem aj1 {K : PySem.W.Frag} {α β : Type} {t : Ty K α} {u : Ty K β} : ∀ (x : α × Unit) (y : β) (vs : List V) (v : V) (S : Hp), (aC t aN).rel x vs S → u.rel y v S → (aC t (aC u aN)).rel (x.1, y, ()) (vs ++ [v]) S := fun x y vs v S ⟨v0, r, e, h1, h2⟩ h => by
  have h2 : r = [] := h2
  subst h2
  subst e
  exact ⟨v0, [v], rfl, h1, v, [], rfl, h, rfl⟩
theorem aj3 {K : PySem.W.Frag} {α β γ δ : Type} {t : Ty K α} {t2 : Ty K γ} {t3 : Ty K δ} {u : Ty K β} : ∀ (x : α × γ × δ × Unit) (y : β) (vs : List V) (v : V) (S : Hp), (aC t (aC t2 (aC t3 aN))).rel x vs S → u.rel y v S → (aC t (aC t2 (aC t3 (aC u aN)))).rel (x.1, x.2.1, x.2.2.1, y, ()) (vs ++ [v]) S := fun x y vs v S ⟨v0, r, e, h1, v1, r1, e1, g1, v2, r2, e2, g2, g3⟩ h => by
  have g3 : r2 = [] := g3
  subst g3
  subst e2
  subst e1
  subst e
  exact ⟨v0, _, rfl, h1, v1, _, rfl, g1, v2, _, rfl, g2, v, [], rfl, h, rfl⟩
end T9
namespace T9
open L2 PyProof.Rows PySem.Spec PySem
/-! ### the hand: a list of unlike things -/
abbrev HC := List Int ⊕ Int
def yU {K : PySem.W.Frag} : Ty K HC := ⟨fun x v H => match x with | .inl xs => (yL (yI (K := K))).rel xs v H | .inr n => v = .int n, fun {x _ _ _} e h => by
  cases x with
  | inl xs => exact (yL yI).mono e h
  | inr n => exact h⟩
def HC.i : HC → Option Int
  | .inr n => some n
  | .inl _ => none
def HC.l : HC → Option (List Int)
  | .inl xs => some xs
  | .inr _ => none
def HandOk (xs : List HC) : Prop := ∃ (c : List Int) (i b t : Int), xs = [.inl c, .inr i, .inr b, .inr t] ∧ (∀ x ∈ c, 0 ≤ x) ∧ 0 ≤ i ∧ i ≤ c.length ∧ c.length ≤ 1000 ∧ 0 ≤ b ∧ 0 ≤ t ∧ t < 2 ^ 40
def mH {K : PySem.W.Frag} : Mty K Unit := ⟨fun _ o S => ∃ xs, HandOk xs ∧ (mL (yU (K := K))).rel xs o S, fun e ⟨xs, h1, h2⟩ => ⟨xs, h1, (mL (yU (K := K))).mono e h2⟩⟩
section
variable {α β γ ρ δ ε : Type} {X : Cx} {fr : Fx} {C : Ct X.K} {e o a b c tg iter elt : Expr} {es ifs : List Expr} {st : Stmt} {sts rest A B : List Stmt} {te ta tb tc : TE} {tt tu : TT} {tl : TA} {ts tr tA tB : TS} {wi : TI} {g : TG} {pos p p2 p3 tpos apos : Pos} {t : Ty X.K α} {u : Ty X.K β} {op op' : CmpOp} {r : Rk X.K ρ} {Cn : β → Ct X.K} {Cl : γ → Ct X.K} {m : Wt α}
/-- a value of one type is one of another, where a reading tells -/
theorem ev_opt {w : Ty X.K β} {f : α → Option β} (h : EvW fr C te t m) (hr : ∀ x y v H, f x = some y → t.rel x v H → w.rel y v H) : EvW fr C te w (Wt.bind m fun x => Wt.opt (f x)) := fun S0 σ S H Q I k =>
  h S0 σ S H Q I (m.mono (fun _ z => z) (fun x q v S1 H1 I1 st1 r1 => by
    obtain ⟨y, ey, q⟩ := q
    exact q v S1 H1 I1 st1 (hr x y v S1 ey r1)) k)
theorem x_unO {m : Wt (Option α)} (h : EX X fr C e te (yO t) m) : EX X fr C e te t (Wt.bind m fun x => Wt.opt x) := ⟨h.1, ev_opt h.2 fun x y v H e r => by subst e; exact r⟩
theorem x_unI {m : Wt HC} (h : EX X fr C e te yU m) : EX X fr C e te yI (Wt.bind m fun x => Wt.opt x.i) := ⟨h.1, ev_opt h.2 fun x y v H e r => by
  cases x with
  | inl xs => cases e
  | inr n => cases e; exact r⟩
theorem x_unL {m : Wt HC} (h : EX X fr C e te yU m) : EX X fr C e te (yL yI) (Wt.bind m fun x => Wt.opt x.l) := ⟨h.1, ev_opt h.2 fun x y v H e r => by
  cases x with
  | inr n => cases e
  | inl xs => cases e; exact r⟩
theorem x_inI {m : Wt Int} (h : EX X fr C e te yI m) : EX X fr C e te yU (Wt.bind m fun x => Wt.pure (.inr x)) := ⟨h.1, ev_as h.2 fun x v H r => r⟩
theorem x_inL {m : Wt (List Int)} (h : EX X fr C e te (yL yI) m) : EX X fr C e te yU (Wt.bind m fun x => Wt.pure (.inl x)) := ⟨h.1, ev_as h.2 fun x v H r => r⟩
/-- what is true of a slot's value -/
theorem s_toH {i : Nat} {xs : List HC} {m : Wt (Oc ρ β γ)} (hC : C[i]? = some (.mu (mL yU) xs)) (h : SX X fr (C.set i (.hd mH)) sts ts r Cn Cl m) (hp : fr.hp = none) : SX X fr C sts ts r Cn Cl (Wt.req (HandOk xs) m) := ⟨h.1, fun S0 σ S H D I ⟨ok, k⟩ => by
  have hi : i < C.length := (List.getElem?_eq_some_iff.mp hC).1
  have mu : ∀ j b, MuS (C.set i (.hd mH)) σ j b → MuS C σ j b := fun j b ⟨c, h1, h2, h3⟩ => by
    by_cases q : i = j
    · subst q
      rw [List.getElem?_set_self hi] at h1
      cases h1
      exact ⟨_, hC, True.intro, h3⟩
    · rw [List.getElem?_set_ne q] at h1
      exact ⟨c, h1, h2, h3⟩
  refine h.2 S0 σ S H D ⟨I.land, by rw [List.length_set]; exact I.len, fun j c hc => ?_, fun j k b h1 h2 => I.dist j k b (mu j b h1) (mu k b h2), fun j b h => I.fresh j b (mu j b h), fun b φ z => (by rw [hp] at z; cases z), I.pslot, I.err⟩ k
  by_cases q : i = j
  · subst q
    rw [List.getElem?_set_self hi] at hc
    cases hc
    obtain ⟨ad, ob, e1, h1, h2, h3⟩ := I.mu hC
    exact ⟨ad, ob, joinJ e1, h1, h2, xs, ok, h3⟩
  · rw [List.getElem?_set_ne q] at hc
    exact I.sl j c hc⟩
/-- what a def tells that holds its hand exactly -/
def rkX {K : PySem.W.Frag} (a : Addr) (t : Ty K ρ) : Rk K (ρ × List HC) := ⟨fun x v _ S H => t.rel x.1 v S ∧ S a = none ∧ ∃ o, H a = some o ∧ (mL (yU (K := K))).rel x.2 o S⟩
theorem s_retX {ad : Addr} {xs : List HC} {m : Wt ρ} {t : Ty X.K ρ} (hC : C[0]? = some (.mu (mL yU) xs)) (hs : fr.sp = some ad) (h : EX X fr C e te t m) : SX X fr C (.Return (some e) pos :: rest) (tSeq (tRet te) tNever) (rkX ad t) Cn Cl (Wt.bind m fun x => Wt.pure (.ret (x, xs))) :=
  ⟨pss_cons (ps_ret h.1) pss_never, fun S0 σ S H D I k => h.2 S0 σ S H _ I (m.mono (fun _ z => z) (fun x q v S1 H1 I1 st1 r1 => q v S1 H1 I1.land (by
    obtain ⟨b, ob, e1, h1, h2, h3⟩ := I1.mu hC
    have q0 := I1.pslot ad hs
    rw [e1] at q0
    cases q0
    exact ⟨r1, h1, ob, h2, h3⟩)) k)⟩
end
section
variable {P : Program} {w : World} {K : PySem.W.Frag} {mg : Str → Option Value} {base : Heap} {α β ρ : Type} {x qual : Str} {params : Arguments} {body : List Stmt} {scope : Scope} {dvs : List V} {kws : List (Str × V)} {f : Addr} {fd : FuncData} {N ps : List Str} {k : Nat}
def wHand {α ρ : Type} (m : α → List HC → Wt (Oc (ρ × List HC) Unit Unit)) : α → Wt ρ := fun y => Wt.bind (Wt.any HandOk) fun xs => Wt.bind (Wt.nox (Wt.fin none (m y xs))) fun z => Wt.req (HandOk z.2) (Wt.pure z.1)
theorem fn_bodyHX {Ar : Aty K α} {t : Ty K ρ} {m : α → List HC → Wt (Oc (ρ × List HC) Unit Unit)} (F : FunD K x qual params body scope dvs kws f fd) (Sc : FnScope N ps scope) (hn : Ar.n + 1 = ps.length) (hl : Ar.n + 1 ≤ N.length)
    (hb : ∀ (y : α) (xs : List HC) (a : Addr) (cdv : Value) (A : Around) (outer : List Env) (s : Shared) (H : Hp) (E : XK) (fr : Fx), Room k (A.deeper (envOfC qual scope s.heap.objs.size f cdv)) → fr.hp = none → fr.sp = some a → fr.mg = mg → fr.XE = E →
      ∃ ts, SX (cxOf (CX P w) P w K mg base N qual scope f cdv A outer s H E) fr (.mu (mL yU) xs :: (Ar.slots y ++ un K (N.length - (Ar.n + 1)))) body ts (rkX a t) (fun _ : Unit => un K N.length) (fun _ : Unit => un K N.length) (m y xs)) :
    FnOk P w K mg base (CX P w) (k + 1) f fd ps (spH K mg mH Ar (rkT t) (wHand m)) := by
  refine F.ok Sc (fun vs H Q E h => ?_) (fun cdv A outer s H vs Q E hr h => ?_)
  · obtain ⟨a, o, rest, S, y, rfl, _, _, _, _, r, _⟩ := h
    rw [List.length_cons, Ar.len r, hn]
  · obtain ⟨a, o, rest, S, y, rfl, hs, sa, ha, ⟨xs, okx, hm⟩, rv, hw⟩ := h
    have hw := hw xs okx
    let fr : Fx := ⟨wo H a, some a, none, fun _ => False, E, mg⟩
    obtain ⟨ts, B⟩ := hb y xs a cdv A outer s H E fr hr rfl rfl rfl rfl
    have lv : rest.length = Ar.n := Ar.len rv
    have st0 : L2.start N (.ref a :: rest) = some (.ref a) :: (rest.map some ++ List.replicate (N.length - (Ar.n + 1)) none) := by
      unfold L2.start
      rw [List.map_cons, List.cons_append, List.length_cons, lv]
    have get : ∀ (i : Nat) (c : Sl K), (Ar.slots y ++ un K (N.length - (Ar.n + 1)))[i]? = some c → SlOk c ((rest.map some ++ List.replicate (N.length - (Ar.n + 1)) none)[i]?.join) S H ∧ ¬ c.isM := fun i c h => by
      by_cases hi : i < Ar.n
      · rw [List.getElem?_append_left (by rw [Ar.slen]; exact hi)] at h
        obtain ⟨v, hv, ok, nm⟩ := Ar.ok (H2 := H) rv i c h
        refine ⟨?_, nm⟩
        rw [List.getElem?_append_left (by rw [List.length_map, lv]; exact hi), List.getElem?_map, hv]
        exact ok
      · rw [List.getElem?_append_right (by rw [Ar.slen]; omega)] at h
        have : c = .un := by
          unfold un at h
          rw [List.getElem?_replicate] at h
          split at h
          · exact (Option.some.inj h).symm
          · cases h
        subst this
        exact ⟨True.intro, fun z => z⟩
    have mu0 : ∀ i b, MuS (.mu (mL yU) xs :: (Ar.slots y ++ un K (N.length - (Ar.n + 1)))) (L2.start N (.ref a :: rest)) i b → i = 0 ∧ b = a := fun i b ⟨c, h1, h2, h3⟩ => by
      cases i with
      | zero =>
        rw [st0] at h3
        have : some (V.ref a) = some (V.ref b) := Option.some.inj h3
        exact ⟨rfl, (V.ref.inj (Option.some.inj this)).symm⟩
      | succ i => exact ((get i c h1).2 h2).elim
    have I : Sta fr S (.mu (mL yU) xs :: (Ar.slots y ++ un K (N.length - (Ar.n + 1)))) (L2.start N (.ref a :: rest)) S H := by
      refine ⟨⟨hs, Evl.Ex.refl S, fun b o _ h => ?_, fun b h _ => h, fun b φ e => (nomatch e)⟩, ?_, fun i c h => ?_, fun i j b h1 h2 => ?_, fun i b h => ?_, fun b φ e => (nomatch e), fun b e => ?_, fun e c d S' H' he l er => he.elim⟩
      · have h : wo H a b = some o := h
        by_cases z : b = a
        · rw [z, wo_same] at h; cases h
        · rw [wo_ne z] at h; exact h
      · rw [st0]
        unfold un
        rw [List.length_cons, List.length_cons, List.length_append, List.length_append, List.length_map, List.length_replicate, List.length_replicate, lv, Ar.slen]
      · rw [st0]
        cases i with
        | zero =>
          have : Sl.mu (mL yU) xs = c := Option.some.inj h
          subst this
          exact ⟨a, _, rfl, sa, ha, hm⟩
        | succ i => exact (get i c h).1
      · rw [(mu0 i b h1).1, (mu0 j b h2).1]
      · rw [(mu0 i b h).2]
        exact .inl wo_same
      · cases e
        rw [st0]
        rfl
    refine ⟨ts, B.1, B.2 S _ S H _ I ((m y xs).mono (fun _ z => z) (fun o q => ?_) hw)⟩
    cases o with
    | nxt z => exact q.elim
    | brk s => exact q.elim
    | cnt s => exact q.elim
    | ret z =>
      intro v S' H' l ⟨r1, r2, ob, r3, r4⟩
      refine q.2 v S' H' ⟨l.sub, l.base, fun b o n h => ?_, fun b h n => ?_, fun b φ e => ?_⟩ r1
      · have n : b ≠ a := n a _ rfl
        exact l.keep b o (fun _ _ e => (nomatch e)) (show wo H a b = some o by rw [wo_ne n]; exact h)
      · by_cases z : b = a
        · rw [z]; exact r2
        · exact l.out b h (show wo H a b ≠ none by rw [wo_ne z]; exact n)
      · cases e
        exact ⟨ob, r3, z.2, q.1, r4⟩
end
section
variable {α β γ ρ δ ε : Type} {X : Cx} {fr : Fx} {C : Ct X.K} {e o a b c : Expr} {es ifs : List Expr} {te ta tb tc : TE} {tl : TA} {pos p p2 p3 : Pos} {t : Ty X.K α} {u : Ty X.K β}
variable {k nn : Nat} {f Cc : Addr} {fd : FuncData} {ps ks : List Str} {nm : Str} {ds : List Value} {dvs : List V} {gg : List Value → List Value → List Value} {gV : List V → List V → List V}
/-- f(e, .., k = v), v the last parameter -/
theorem ev_callN {K : PySem.W.Frag} {fr : Fx} {C : Ct K} {A1 : Aty K α} {t2 : Ty K β} {Ar : Aty K γ} {join : α → β → γ} {rt : Ty K ρ} {w : γ → Wt ρ} {m : Wt α} {n : Wt β} {mg : Str → Option Value} (hmg : fr.mg = mg) (hj : ∀ x y vs v S, A1.rel x vs S → t2.rel y v S → Ar.rel (join x y) (vs ++ [v]) S) (h : EvAd fr C tl A1 [] m) (h2 : EvW fr C te t2 n) :
    EvW fr C (tCallN A1.n 1 (spF K mg Ar (rkT rt) w) (fun vs zs => vs ++ zs) fr.XE tl (tCons te tNil)) rt (Wt.bind m fun x => Wt.bind n fun y => w (join x y)) := fun S0 σ S H Q I k => by
  refine h S0 σ S H _ I (m.mono (fun _ z => z) (fun x q vs S1 H1 I1 st1 r1 => h2 S0 σ S1 H1 _ I1 (n.mono (fun _ z => z) (fun y q2 v S2 H2 I2 st2 r2 => ?_) q)) k)
  rw [List.append_nil] at r1
  refine ⟨A1.len r1, rfl, S2, join x y, I2.land.sub, hj x y vs v S2 (A1.mono st2.ex r1) r2, (w (join x y)).mono (fun e he c d S' H' l er => ?_) (fun z qz v' S' H' l rz => ?_) q2⟩
  · obtain ⟨I3, _⟩ := I2.called l
    exact I.err e c d S' H' he I3.land (by rw [hmg]; exact er)
  · obtain ⟨I3, st3⟩ := I2.called l
    exact qz v' S' H' I3 ((st1.trans st2).trans st3) rz
theorem x_callN {A1 : Aty X.K α} {t2 : Ty X.K β} {Ar : Aty X.K γ} {join : α → β → γ} {rt : Ty X.K ρ} {w : γ → Wt ρ} {m : Wt α} {n : Wt β} {ke : Expr} {kn : Str} {kp : Pos} (F : FnOk X.prog X.w X.K X.mg X.base (CX X.prog X.w) k f fd ps (spF X.K X.mg Ar (rkT rt) w)) (hr : Room k X.A) (hm : X.mg nm = some (.ref f)) (hk : PySem.W.keepIn X.K (.ref f) = true) (hb : KBn X.K fd ps A1.n [kn] (fun us ws => us ++ ws) (fun vs zs => vs ++ zs)) (hx : Passes (CX X.prog X.w) X fr.XE) (hmg : fr.mg = X.mg)
    (hj : ∀ x y vs v S, A1.rel x vs S → t2.rel y v S → Ar.rel (join x y) (vs ++ [v]) S) (ha : AdX X fr C (e :: es) tl A1 [] m) (h2 : EX X fr C ke te t2 n) (hg : Gl X nm := by rfl) (hdb : (nm == ("__debug__" : Str)) = false := by decide) (he : starEach (e :: es) X.env = (false, eval e X.env) :: starEach es X.env := by rfl)
    (hall : (backToKw pos (keywordEach [⟨some kn, ke, kp⟩] X.env)).all (·.1.isSome) = true := by rfl) (hks : (backToKw pos (keywordEach [⟨some kn, ke, kp⟩] X.env)).filterMap (·.1) = [kn] := by rfl)
    (hpl : ((backTo pos (starEach (e :: es) X.env)).any (·.1) || (backToKw pos (keywordEach [⟨some kn, ke, kp⟩] X.env)).any (·.1.isNone)) = false := by rfl) :
    EX X fr C (.Call (.Name nm p) (e :: es) [⟨some kn, ke, kp⟩] pos) (tCallN A1.n 1 (spF X.K X.mg Ar (rkT rt) w) (fun vs zs => vs ++ zs) fr.XE tl (tCons te tNil)) rt (Wt.bind m fun x => Wt.bind n fun y => w (join x y)) :=
  ⟨pe_callN F hr hg hm hk hb hx ha.1 (pk_cons h2.1 pk_nil) hall hks hdb he hpl, ev_callN hmg hj ha.2 h2.2⟩
/-- how one keyword-only parameter with a default binds -/
theorem kbn1 {K : PySem.W.Frag} {x qual : Str} {params : Arguments} {body : List Stmt} {scope : Scope} {kn : Str} {dv : V} {n : Nat} (F : FunD K x qual params body scope [] [(kn, dv)] f fd)
    (h : ∀ (D : Addr) (doc pm : Value) (an : Option Addr) (cdv ct : Value) (us ws : List Value), us.length = n → ws.length = 1 → bindArgs (PySem.W.fnOf x qual params body scope .none (.ref D) doc pm an cdv ct) ⟨us, [kn].zip ws⟩ = pure (ps.zip (us ++ ws))) :
    KBn K fd ps n [kn] (fun us ws => us ++ ws) (fun vs zs => vs ++ zs) := by
  have b := F.kbinds0 (ps := ps) n [kn] [] (fun us _ ws => us ++ ws) (List.cons_ne_nil _ _) (fun q hq => nomatch hq) (fun r1 _ r3 => r1.append r3) (fun D doc pm an cdv ct us mv ws l1 l2 l3 => by
    have e : mv = [] := List.eq_nil_of_length_eq_zero l2
    subst e
    exact h D doc pm an cdv ct us ws l1 l3)
  exact b.choose_spec
end
end T9
namespace T9
open L2 PyProof.Rows PySem.Spec PySem
section
variable {α β γ ρ δ ε : Type} {X : Cx} {fr : Fx} {C : Ct X.K} {e o a b c tg iter elt : Expr} {es ifs : List Expr} {st : Stmt} {sts rest A B : List Stmt} {te ta tb tc : TE} {tt tu : TT} {tl : TA} {ts tr tA tB : TS} {wi : TI} {g : TG} {pos p p2 p3 tpos apos : Pos} {t : Ty X.K α} {u : Ty X.K β} {op op' : CmpOp} {r : Rk X.K ρ} {Cn : β → Ct X.K} {Cl : γ → Ct X.K}
theorem sx_nox {m : Wt (Oc ρ β γ)} (h : SX X fr.nox C sts ts r Cn Cl m) : SX X fr C sts ts r Cn Cl (Wt.nox m) := ⟨h.1, fun S0 σ S H D I k => h.2 S0 σ S H D I.nox (m.mono (fun _ z => z) (fun o q => by
  cases o with
  | ret x => exact fun v S' H' l rr => q v S' H' ⟨l.sub, l.base, l.keep, l.out, l.hand⟩ rr
  | nxt s => exact fun σ' S' H' I' => q σ' S' H' (I.unnox I')
  | brk s => exact fun σ' S' H' I' => q σ' S' H' (I.unnox I')
  | cnt s => exact fun σ' S' H' I' => q σ' S' H' (I.unnox I')) k)⟩
/-- return of a list of one's own -/
theorem s_retV {i : Nat} {nm : Str} {m : Mty X.K ρ} {x : ρ} (hC : C[i]? = some (.mu m x)) (hp : fr.hp = none) (hN : X.N[i]? = some nm := by rfl) (hv : Vis X.env.scope nm := by first | exact Or.inl rfl | exact Or.inr (Or.inl rfl) | exact Or.inr (Or.inr rfl))
    (hd : (nm == ("__debug__" : Str)) = false := by decide) (hcd : (nm == ("__classdict__" : Str)) = false := by decide) : SX X fr C (.Return (some (.Name nm p)) pos :: rest) (tSeq (tRet (tVar i)) tNever) (rkM m) Cn Cl (Wt.pure (.ret x)) :=
  ⟨pss_cons (ps_ret (pe_var hN hv hd hcd)) pss_never, fun S0 σ S H D I k => by
    obtain ⟨ad, ob, e1, h1, h2, h3⟩ := I.mu hC
    exact ⟨_, e1, k _ S H I.land ⟨ad, ob, rfl, (I.mu0 hC e1).1, h1, h2, h3⟩⟩⟩
end
section
variable {α β γ ρ δ : Type} {X : Cx} {fr : Fx} {C : Ct X.K} {pos p p2 : Pos} {k : Nat} {f : Addr} {fd : FuncData} {ps : List Str} {nm : Str}
/-- a def that only reads the list of slot i -/
theorem x_callB1 {i : Nat} {ln : Str} {t : Ty X.K α} {xs : List α} {w : (Bool × List α) × Unit → Wt Int} (F : FnOk X.prog X.w X.K X.mg X.base (CX X.prog X.w) k f fd ps (spF X.K X.mg (aC (yQ t) aN) (rkT yI) w)) (hr : Room k X.A) (hm : X.mg nm = some (.ref f)) (hk : PySem.W.keepIn X.K (.ref f) = true) (hb : Binds X.K fd ps []) (hx : Passes (CX X.prog X.w) X fr.XE) (hmg : fr.mg = X.mg)
    (hC : C[i]? = some (.mu (mL t) xs)) (hN : X.N[i]? = some ln := by rfl) (hv : Vis X.env.scope ln := by first | exact Or.inl rfl | exact Or.inr (Or.inl rfl) | exact Or.inr (Or.inr rfl)) (hd : (ln == ("__debug__" : Str)) = false := by decide) (hcd : (ln == ("__classdict__" : Str)) = false := by decide)
    (hg : Gl X nm := by rfl) (hdb : (nm == ("__debug__" : Str)) = false := by decide) (he : starEach [.Name ln p2] X.env = (false, eval (.Name ln p2) X.env) :: starEach [] X.env := by rfl) (hpl : (backTo pos (starEach ([] : List Expr) X.env)).any (·.1) = false := by rfl) :
    EX X fr C (.Call (.Name nm p) [.Name ln p2] [] pos) (tCall (spF X.K X.mg (aC (yQ t) aN) (rkT yI) w) [] fr.XE (tCons (tVar i) tNil)) yI (w ((true, xs), ())) :=
  ⟨pe_call F hr hg hm hk hb .nil hx (pa_cons (pe_var hN hv hd hcd) pa_nil he) hdb he hpl, fun S0 σ S H Q I kk => by
    obtain ⟨ad, ob, e1, h1, h2, vs, h3, h4⟩ := I.mu hC
    subst h3
    refine ⟨_, e1, upd S ad (.lst vs), ((true, xs), ()), fun b o hb => ?_, ⟨_, [], rfl, ?_, rfl⟩, (w ((true, xs), ())).mono (fun e he c d S' H' l er => ?_) (fun z qz v' S' H' l rz => ?_) kk⟩
    · by_cases z : b = ad
      · subst z
        rw [upd_same] at hb
        cases hb
        exact h2
      · rw [upd_ne z] at hb
        exact I.land.sub b o hb
    · show (yL t).rel xs (.ref ad) _
      exact ⟨ad, vs, rfl, upd_same, h4.mono fun _ _ => t.mono (Evl.Ex.new h1)⟩
    · have l2 : Land (fx0 H none) S S H' := ⟨fun b o h => l.keep b o (fun _ _ z => nomatch z) (I.land.sub b o h), Evl.Ex.refl S, l.keep, fun b h _ => h, fun a φ z => nomatch z⟩
      obtain ⟨I3, _⟩ := I.called l2
      exact I.err e c d S H' he I3.land (by rw [hmg]; exact er)
    · have l2 : Land (fx0 H none) S S H' := ⟨fun b o h => l.keep b o (fun _ _ z => nomatch z) (I.land.sub b o h), Evl.Ex.refl S, l.keep, fun b h _ => h, fun a φ z => nomatch z⟩
      obtain ⟨I3, st3⟩ := I.called l2
      exact qz v' S H' I3 st3 rz⟩
end
/-! ### in a block -/
section
variable {α : Type} {X : Cx} {fr : Fx} {C : Ct X.K} {e : Expr} {es : List Expr} {te te' : TE} {tt tt' : TT} {m : Wt α} {n : Wt Bool} {t : Ty X.K α}
theorem ex_te (h : EX X fr C e te t m) (q : te = te') : EX X fr C e te' t m := by subst q; exact h
theorem pt_te (h : PTX X fr C es tt n) (q : tt = tt') : PTX X fr C es tt' n := by subst q; exact h
end
/-! ### data -/
structure DatN {K : PySem.W.Frag} {α : Type} (n : Nat) (t : Ty K α) (f : α → PyData) : Prop where
  to : ∀ {x v H}, t.rel x v H → Dp K H v (f x)
  can : ∀ x, (f x).canLay0 = true
  dep : ∀ x, (f x).depth ≤ n
theorem datn_I {K : PySem.W.Frag} : DatN 1 (yI (K := K)) PyData.int := ⟨fun {x v H} h => by rw [show v = .int x from h]; exact .int x, fun _ => rfl, fun x => by simp [PyData.depth]⟩
theorem datn_B {K : PySem.W.Frag} : DatN 1 (yB (K := K)) PyData.bool := ⟨fun {x v H} h => by rw [show v = .bl x from h]; exact .bl x, fun _ => rfl, fun x => by simp [PyData.depth]⟩
theorem canAll {α : Type} {f : α → PyData} (h : ∀ x, (f x).canLay0 = true) : ∀ xs : List α, PyData.canLayAll0 (xs.map f) = true
  | [] => rfl
  | x :: xs => by rw [List.map_cons, PyData.canLayAll0, h x, canAll h xs]; rfl
theorem depAll {α : Type} {f : α → PyData} {n : Nat} (h : ∀ x, (f x).depth ≤ n) : ∀ xs : List α, PyData.depthAll (xs.map f) ≤ n
  | [] => by simp [PyData.depthAll]
  | x :: xs => by rw [List.map_cons, PyData.depthAll]; exact Nat.max_le.mpr ⟨h x, depAll h xs⟩
theorem datn_T {K : PySem.W.Frag} {α : Type} {n : Nat} {t : Ty K α} {f : α → PyData} (h : DatN n t f) : DatN (n + 1) (yT t) (fun xs => PyData.tuple (xs.map f)) := ⟨fun {x v H} ⟨ad, vs, e, e2, e3⟩ => by
  subst e
  exact .tup (.inl (.inl e2)) (dpA_of (f := f) (fun y v r => h.to r) e3), fun x => by rw [PyData.canLay0]; exact canAll h.can x, fun x => by rw [PyData.depth]; have := depAll h.dep x; omega⟩
theorem datn_L {K : PySem.W.Frag} {α : Type} {n : Nat} {t : Ty K α} {f : α → PyData} (h : DatN n t f) : DatN (n + 1) (yL t) (fun xs => PyData.list (xs.map f)) := ⟨fun {x v H} ⟨ad, vs, e, e2, e3⟩ => by
  subst e
  exact .lst (.inl (.inl e2)) (dpA_of (f := f) (fun y v r => h.to r) e3), fun x => by rw [PyData.canLay0]; exact canAll h.can x, fun x => by rw [PyData.depth]; have := depAll h.dep x; omega⟩
theorem DatN.dat {K : PySem.W.Frag} {α : Type} {n : Nat} {t : Ty K α} {f : α → PyData} (h : DatN n t f) (hn : n ≤ 64 := by decide) : Dat t f := ⟨h.to, fun x => by
  unfold SeqAt.shaped
  rw [h.can x, Bool.true_and]
  have := h.dep x
  exact decide_eq_true (by omega)⟩
/-! ### where a keyword's value stands -/
theorem aj2 {K : PySem.W.Frag} {α β γ : Type} {t : Ty K α} {t2 : Ty K γ} {u : Ty K β} : ∀ (x : α × γ × Unit) (y : β) (vs : List V) (v : V) (S : Hp), (aC t (aC t2 aN)).rel x vs S → u.rel y v S → (aC t (aC t2 (aC u aN))).rel (x.1, x.2.1, y, ()) (vs ++ [v]) S := fun x y vs v S ⟨v0, r, e, h1, v1, r1, e1, g1, g3⟩ h => by
  have g3 : r1 = [] := g3
  subst g3
  subst e1
  subst e
  exact ⟨v0, _, rfl, h1, v1, _, rfl, g1, v, [], rfl, h, rfl⟩
end T9
namespace T9
open L2 PyProof.Rows PySem.Spec PySem
/-! ## plain: what a mirror is worth -/
namespace Wt
variable {α β γ ρ δ : Type} {E : Er → Prop}
theorem run_nox {m : Wt α} {Q : α → Prop} : (nox m).run E Q = m.run (fun _ => False) Q := rfl
theorem run_ite_t {m n : Wt α} {Q : α → Prop} : (ite true m n).run E Q = m.run E Q := rfl
theorem run_ite_f {m n : Wt α} {Q : α → Prop} : (ite false m n).run E Q = n.run E Q := rfl
theorem run_never {Q : α → Prop} : (never : Wt α).run E Q = False := rfl
theorem run_andThen {m : Wt (Oc ρ δ γ)} {k : δ → Wt (Oc ρ β γ)} {Q : Oc ρ β γ → Prop} : (andThen m k).run E Q = m.run E fun o => match o with
    | .ret r => Q (.ret r)
    | .nxt s => (k s).run E Q
    | .brk s => Q (.brk s)
    | .cnt s => Q (.cnt s) := by
  show m.run E _ = m.run E _
  congr 1
  funext o
  cases o <;> rfl
theorem run_fin {m : Wt (Oc ρ Unit Unit)} {Q : ρ → Prop} {x : Option ρ} : (fin x m).run E Q = m.run E fun o => match o with
    | .ret r => Q r
    | .nxt _ => (match x with | some y => Q y | none => False)
    | .brk _ => False
    | .cnt _ => False := by
  show m.run E _ = m.run E _
  congr 1
  funext o
  cases o with
  | ret r => rfl
  | brk s => rfl
  | cnt s => rfl
  | nxt s => cases x <;> rfl
theorem run_finI {m : Wt (Oc Unit β Unit)} {Q : β → Prop} : (finI m).run E Q = m.run E fun o => match o with
    | .ret r => False
    | .nxt z => Q z
    | .brk _ => False
    | .cnt _ => False := by
  show m.run E _ = m.run E _
  congr 1
  funext o
  cases o <;> rfl
/-- a for, by what holds before its i-th turn -/
theorem for_inv {body : α → β → Wt (Oc ρ β β)} {Q : Oc ρ β γ → Prop} : ∀ (xs : List α) (s0 : β) (I : Nat → β → Prop), I 0 s0 →
    (∀ i x s, xs[i]? = some x → I i s → (body x s).run E fun o => match o with
      | .ret r => Q (.ret r)
      | .nxt s' => I (i + 1) s'
      | .cnt s' => I (i + 1) s'
      | .brk s' => Q (.nxt s')) → (∀ s, I xs.length s → Q (.nxt s)) → (forW (γ := γ) body xs s0).run E Q
  | [], s0, I, h0, _, hq => hq s0 h0
  | x :: xs, s0, I, h0, hs, hq => by
    show (body x s0).run E _
    refine (body x s0).mono (fun _ z => z) (fun o q => ?_) (hs 0 x s0 rfl h0)
    cases o with
    | ret r => exact q
    | nxt s => exact for_inv xs s (fun i => I (i + 1)) q (fun i y s' hy => hs (i + 1) y s' hy) hq
    | cnt s => exact for_inv xs s (fun i => I (i + 1)) q (fun i y s' hy => hs (i + 1) y s' hy) hq
    | brk s => exact q
/-- a while -/
theorem while_inv {c : β → Wt Bool} {body : β → Wt (Oc ρ β β)} {s0 : β} {Q : Oc ρ β γ → Prop} (I : β → Prop) (μ : β → Nat) (h0 : I s0) (h : ∀ s, I s → (c s).run E fun b => if b = true then (body s).run E (fun o => match o with
    | .ret r => Q (.ret r)
    | .nxt s' => I s' ∧ μ s' < μ s
    | .cnt s' => I s' ∧ μ s' < μ s
    | .brk s' => Q (.nxt s')) else Q (.nxt s)) : (whileW (γ := γ) c body s0).run E Q := ⟨I, μ, h0, h⟩
/-- a comprehension -/
theorem lc_run {f : α → Wt (Option β)} {Q : List β → Prop} (g : α → Option β) : ∀ (xs : List α), (∀ x ∈ xs, (f x).run E fun o => o = g x) → Q (xs.filterMap g) → (lc f xs).run E Q
  | [], _, q => q
  | x :: xs, h, q => by
    show (f x).run E _
    refine (f x).mono (fun _ z => z) (fun o e => ?_) (h x (List.mem_cons_self ..))
    subst e
    show (lc f xs).run E _
    refine lc_run g xs (fun y hy => h y (List.mem_cons_of_mem _ hy)) ?_
    rw [List.filterMap_cons] at q
    cases e : g x with
    | none => rw [e] at q; exact q
    | some y => rw [e] at q; exact q
theorem run_lcTurn {f : α → Wt Bool} {v : α → Wt β} {x : α} {Q : Option β → Prop} : (lcTurn f v x).run E Q = (f x).run E fun b => if b = true then (v x).run E fun y => Q (some y) else Q none := rfl
/-- without conditions -/
theorem lc_map {v : α → Wt β} {Q : List β → Prop} (g : α → β) (xs : List α) (h : ∀ x ∈ xs, (v x).run E fun y => y = g x) (q : Q (xs.map g)) : (lc (lcTurn (fun _ => Wt.pure true) v) xs).run E Q :=
  lc_run (fun x => some (g x)) xs (fun x hx => by
    rw [run_lcTurn]
    simp only [Wt.run_pure, ↓reduceIte]
    exact (v x).mono (fun _ z => z) (fun y e => by rw [e]) (h x hx)) (by rw [List.filterMap_eq_map']; exact q)
end Wt
end T9
namespace T9
open L2 PyProof.Rows PySem.Spec PySem
/-! ## words as functions of the place -/
def up (g : Int → Int) (p v : Int) : Int → Int := fun q => if q = p then v else g q
def Wd (L : Nat) (g : Int → Int) : List Int := (List.range L).map fun (k : Nat) => g ((k : Int) + 1)
def Sn (L : Nat) (f : Int → Int) : Int := ((List.range L).map fun (k : Nat) => f ((k : Int) + 1)).sum
theorem up_same {g : Int → Int} {p v : Int} : up g p v p = v := if_pos rfl
theorem up_ne {g : Int → Int} {p v q : Int} (h : q ≠ p) : up g p v q = g q := if_neg h
theorem Wd_len {L : Nat} {g : Int → Int} : (Wd L g).length = L := by unfold Wd; rw [List.length_map, List.length_range]
theorem Wd_get {L : Nat} {g : Int → Int} {k : Nat} (h : k < L) : (Wd L g)[k]? = some (g ((k : Int) + 1)) := by
  unfold Wd
  rw [List.getElem?_map, List.getElem?_range h]
  rfl
theorem Wd_ix {L : Nat} {g : Int → Int} {p : Int} (h : 1 ≤ p ∧ p ≤ (L : Int)) : ixN (Wd L g).length (p - 1) = some (p - 1).toNat := by
  rw [Wd_len]
  unfold ixN
  rw [if_pos (by omega), if_pos (by omega)]
theorem Wd_at {L : Nat} {g : Int → Int} {p : Int} (h : 1 ≤ p ∧ p ≤ (L : Int)) : atI (Wd L g) (p - 1) = some (g p) := by
  unfold atI
  rw [Wd_ix h]
  show (Wd L g)[(p - 1).toNat]? = _
  rw [Wd_get (by omega)]
  have e : (((p - 1).toNat : Nat) : Int) + 1 = p := by omega
  rw [e]
theorem Wd_ext {L : Nat} {g h : Int → Int} (e : ∀ p : Int, 1 ≤ p → p ≤ (L : Int) → g p = h p) : Wd L g = Wd L h := by
  unfold Wd
  refine List.map_congr_left fun k hk => ?_
  have := List.mem_range.mp hk
  exact e _ (by omega) (by omega)
theorem Sn_ext {L : Nat} {g h : Int → Int} (e : ∀ p : Int, 1 ≤ p → p ≤ (L : Int) → g p = h p) : Sn L g = Sn L h := by
  show (Wd L g).sum = (Wd L h).sum
  rw [Wd_ext e]
theorem Wd_set {L : Nat} {g : Int → Int} {p v : Int} (h : 1 ≤ p ∧ p ≤ (L : Int)) : (Wd L g).set (p - 1).toNat v = Wd L (up g p v) := by
  refine List.ext_getElem? fun k => ?_
  by_cases hk : k < L
  · by_cases e : (p - 1).toNat = k
    · subst e
      rw [List.getElem?_set_self (by rw [Wd_len]; exact hk), Wd_get hk]
      have e : (((p - 1).toNat : Nat) : Int) + 1 = p := by omega
      rw [e, up_same]
    · rw [List.getElem?_set_ne e, Wd_get hk, Wd_get hk, up_ne (by omega)]
  · rw [List.getElem?_eq_none (by rw [List.length_set, Wd_len]; omega), List.getElem?_eq_none (by rw [Wd_len]; omega)]
theorem Wd_zero (L : Nat) : (List.replicate L [(0 : Int)]).flatten = Wd L fun _ => 0 := by
  induction L with
  | zero => rfl
  | succ n ih =>
    rw [List.replicate_succ', List.flatten_append, ih]
    unfold Wd
    rw [List.range_succ, List.map_append]
    rfl
theorem Sn_succ {n : Nat} {f : Int → Int} : Sn (n + 1) f = Sn n f + f ((n : Int) + 1) := by
  unfold Sn
  rw [List.range_succ, List.map_append, List.sum_append]
  simp
theorem Sn_up {f : Int → Int} {p v : Int} : ∀ {L : Nat}, 1 ≤ p → p ≤ (L : Int) → Sn L (up f p v) = Sn L f + (v - f p)
  | 0, h1, h2 => by omega
  | n + 1, h1, h2 => by
    rw [Sn_succ, Sn_succ]
    by_cases e : p = (n : Int) + 1
    · subst e
      rw [up_same, Sn_ext (L := n) (g := up f ((n : Int) + 1) v) (h := f) (fun q _ hq => up_ne (by omega))]
      omega
    · rw [Sn_up h1 (by omega), up_ne (fun z => e z.symm)]
      omega
/-- many places -/
def ups (g : Int → Int) (z : List (Int × Int)) : Int → Int := z.foldl (fun g q => up g q.1 q.2) g
theorem ups_app {g : Int → Int} {z : List (Int × Int)} {q : Int × Int} : ups g (z ++ [q]) = up (ups g z) q.1 q.2 := by
  unfold ups
  rw [List.foldl_append]
  rfl
theorem ups_not {p : Int} : ∀ {z : List (Int × Int)} {g : Int → Int}, p ∉ z.map (·.1) → ups g z p = g p
  | [], g, _ => rfl
  | q :: z, g, h => by
    simp only [List.map_cons, List.mem_cons, not_or] at h
    show ups (up g q.1 q.2) z p = g p
    rw [ups_not h.2, up_ne h.1]
theorem ups_get {p b : Int} : ∀ {z : List (Int × Int)} {g : Int → Int}, (z.map (·.1)).Nodup → (p, b) ∈ z → ups g z p = b
  | [], g, _, h => nomatch h
  | q :: z, g, hn, h => by
    rw [List.map_cons, List.nodup_cons] at hn
    show ups (up g q.1 q.2) z p = b
    rcases List.mem_cons.mp h with e | h
    · subst e
      rw [ups_not hn.1, up_same]
    · exact ups_get hn.2 h
/-- the sum by places -/
def Sp (L : Nat) (g : Int → Int) : Int := Sn L fun p => p * g p
theorem Sp_up {L : Nat} {g : Int → Int} {p v : Int} (h1 : 1 ≤ p) (h2 : p ≤ (L : Int)) : Sp L (up g p v) = Sp L g + p * (v - g p) := by
  have e : (fun q : Int => q * up g p v q) = up (fun q => q * g q) p (p * v) := by
    funext q
    unfold up
    by_cases h : q = p
    · rw [if_pos h, if_pos h, h]
    · rw [if_neg h, if_neg h]
  unfold Sp
  rw [e, Sn_up h1 h2, Int.mul_sub]
theorem Sp_ups {L : Nat} : ∀ {z : List (Int × Int)} {g : Int → Int}, (z.map (·.1)).Nodup → (∀ p ∈ z.map (·.1), 1 ≤ p ∧ p ≤ (L : Int)) → Sp L (ups g z) = Sp L g + (z.map fun q => q.1 * (q.2 - g q.1)).sum
  | [], g, _, _ => by
    show Sp L g = Sp L g + 0
    omega
  | q :: z, g, hn, hr => by
    rw [List.map_cons, List.nodup_cons] at hn
    have h0 := hr q.1 (by rw [List.map_cons]; exact List.mem_cons_self ..)
    show Sp L (ups (up g q.1 q.2) z) = _
    rw [Sp_ups hn.2 (fun p hp => hr p (by rw [List.map_cons]; exact List.mem_cons_of_mem _ hp)), Sp_up h0.1 h0.2, List.map_cons, List.sum_cons]
    have e : (z.map fun r => r.1 * (r.2 - up g q.1 q.2 r.1)) = z.map fun r => r.1 * (r.2 - g r.1) := by
      refine List.map_congr_left fun r hr => ?_
      rw [up_ne (fun z => hn.1 (by rw [← z]; exact List.mem_map.mpr ⟨r, hr, rfl⟩))]
    rw [e]
    omega
theorem ups_zip {ps bs : List Int} {g : Int → Int} (hn : ps.Nodup) (hl : bs.length = ps.length) : ps.map (ups g (ps.zip bs)) = bs := by
  have hk : ((ps.zip bs).map (·.1)) = ps := List.map_fst_zip (by omega)
  refine List.ext_getElem? fun i => ?_
  rw [List.getElem?_map]
  by_cases h : i < ps.length
  · have e1 : ps[i]? = some ps[i] := List.getElem?_eq_getElem h
    have e2 : bs[i]? = some (bs[i]'(by omega)) := List.getElem?_eq_getElem (by omega)
    rw [e1, e2]
    show some (ups g (ps.zip bs) ps[i]) = _
    rw [ups_get (b := bs[i]'(by omega)) (by rw [hk]; exact hn) (List.mem_of_getElem? (zip_get e1 e2))]
  · rw [List.getElem?_eq_none (by omega), List.getElem?_eq_none (by omega)]
    rfl
/-! ### powers of two -/
def pw2 (m : Nat) : List Int := (List.range m).map fun j => (2 : Int) ^ j
theorem pw2_succ {m : Nat} : pw2 (m + 1) = pw2 m ++ [2 ^ m] := by
  unfold pw2
  rw [List.range_succ, List.map_append]
  rfl
theorem pw2_sum : ∀ m : Nat, (pw2 m).sum = 2 ^ m - 1
  | 0 => rfl
  | m + 1 => by
    rw [pw2_succ, List.sum_append, pw2_sum m, Int.pow_succ]
    simp
    omega
theorem mem_pw2 {m : Nat} {p : Int} : p ∈ pw2 m ↔ ∃ j, j < m ∧ p = 2 ^ j := by
  unfold pw2
  rw [List.mem_map]
  constructor
  · rintro ⟨j, h, e⟩
    exact ⟨j, List.mem_range.mp h, e.symm⟩
  · rintro ⟨j, h, e⟩
    exact ⟨j, List.mem_range.mpr h, e.symm⟩
theorem pow2_nat (j : Nat) : (2 : Int) ^ j = ((2 ^ j : Nat) : Int) := by
  rw [Int.natCast_pow]
  rfl
theorem pow2_inj {i j : Nat} (h : (2 : Int) ^ i = 2 ^ j) : i = j := by
  rw [pow2_nat, pow2_nat] at h
  have h := Int.ofNat.inj h
  rcases Nat.lt_trichotomy i j with z | z | z
  · have := Nat.pow_lt_pow_right (a := 2) (by decide) z; omega
  · exact z
  · have := Nat.pow_lt_pow_right (a := 2) (by decide) z; omega
theorem pw2_nodup (m : Nat) : (pw2 m).Nodup := by
  unfold pw2
  exact List.Pairwise.map _ (fun a b h z => h (pow2_inj z)) List.nodup_range
theorem pow2_pos (j : Nat) : (0 : Int) < 2 ^ j := Int.pow_pos (by decide)
theorem pow2_le {i j : Nat} (h : i ≤ j) : (2 : Int) ^ i ≤ 2 ^ j := by
  rw [pow2_nat, pow2_nat]
  exact Int.ofNat_le.mpr (Nat.pow_le_pow_right (by decide) h)
theorem pow2_lt {i j : Nat} (h : i < j) : (2 : Int) ^ i < 2 ^ j := by
  rw [pow2_nat, pow2_nat]
  exact Int.ofNat_lt.mpr (Nat.pow_lt_pow_right (by decide) h)
theorem bin_sum (x : Nat) : ∀ m : Nat, ((pw2 m).map fun p => p * ((x : Int) / p % 2)).sum = ((x % 2 ^ m : Nat) : Int)
  | 0 => by
    rw [Nat.pow_zero, Nat.mod_one]
    rfl
  | m + 1 => by
    rw [pw2_succ, List.map_append, List.sum_append, bin_sum x m, Nat.pow_succ, Nat.mod_mul]
    simp only [List.map_cons, List.map_nil, List.sum_cons, List.sum_nil]
    have e : ((x : Int) / 2 ^ m % 2) = ((x / 2 ^ m % 2 : Nat) : Int) := by
      rw [pow2_nat, ← Int.natCast_ediv]
      omega
    rw [e, pow2_nat, Int.natCast_add, Int.natCast_mul]
    omega
end T9
namespace T9
open L2 PyProof.Rows PySem.Spec PySem
/-! ## the same rules, as steps and not as unfoldings -/
namespace Ws
variable {α β γ ρ δ : Type} {E : Er → Prop}
theorem pure {a : α} {Q : α → Prop} : (Wt.pure a).run E Q = Q a := propext Iff.rfl
theorem bind {m : Wt α} {k : α → Wt β} {Q : β → Prop} : (Wt.bind m k).run E Q = m.run E fun a => (k a).run E Q := propext Iff.rfl
theorem req {p : Prop} {m : Wt α} {Q : α → Prop} : (Wt.req p m).run E Q = (p ∧ m.run E Q) := propext Iff.rfl
theorem opt {o : Option α} {Q : α → Prop} : (Wt.opt o).run E Q = ∃ a, o = some a ∧ Q a := propext Iff.rfl
theorem any {p : α → Prop} {Q : α → Prop} : (Wt.any p).run E Q = ∀ a, p a → Q a := propext Iff.rfl
theorem nox {m : Wt α} {Q : α → Prop} : (Wt.nox m).run E Q = m.run (fun _ => False) Q := propext Iff.rfl
theorem never {Q : α → Prop} : (Wt.never : Wt α).run E Q = False := propext Iff.rfl
theorem iteT {m n : Wt α} {Q : α → Prop} : (Wt.ite true m n).run E Q = m.run E Q := propext Iff.rfl
theorem iteF {m n : Wt α} {Q : α → Prop} : (Wt.ite false m n).run E Q = n.run E Q := propext Iff.rfl
def kont (Q : Oc ρ β γ → Prop) (K : δ → Prop) : Oc ρ δ γ → Prop
  | .ret r => Q (.ret r)
  | .nxt s => K s
  | .brk s => Q (.brk s)
  | .cnt s => Q (.cnt s)
def kfin (x : Option ρ) (Q : ρ → Prop) : Oc ρ Unit Unit → Prop
  | .ret r => Q r
  | .nxt _ => (match x with | some y => Q y | none => False)
  | .brk _ => False
  | .cnt _ => False
def kfor (Q : Oc ρ β γ → Prop) (I : β → Prop) : Oc ρ β β → Prop
  | .ret r => Q (.ret r)
  | .nxt s => I s
  | .cnt s => I s
  | .brk s => Q (.nxt s)
theorem kont_ret {Q : Oc ρ β γ → Prop} {K : δ → Prop} {r : ρ} : kont Q K (.ret r) = Q (.ret r) := propext Iff.rfl
theorem kont_nxt {Q : Oc ρ β γ → Prop} {K : δ → Prop} {s : δ} : kont Q K (.nxt s) = K s := propext Iff.rfl
theorem kont_brk {Q : Oc ρ β γ → Prop} {K : δ → Prop} {s : γ} : kont Q K (.brk s) = Q (.brk s) := propext Iff.rfl
theorem kont_cnt {Q : Oc ρ β γ → Prop} {K : δ → Prop} {s : γ} : kont Q K (.cnt s) = Q (.cnt s) := propext Iff.rfl
theorem kfin_ret {x : Option ρ} {Q : ρ → Prop} {r : ρ} : kfin x Q (.ret r) = Q r := propext Iff.rfl
theorem kfin_none {Q : ρ → Prop} {s : Unit} : kfin none Q (.nxt s) = False := propext Iff.rfl
theorem kfin_some {Q : ρ → Prop} {y : ρ} {s : Unit} : kfin (some y) Q (.nxt s) = Q y := propext Iff.rfl
theorem kfor_ret {Q : Oc ρ β γ → Prop} {I : β → Prop} {r : ρ} : kfor Q I (.ret r) = Q (.ret r) := propext Iff.rfl
theorem kfor_nxt {Q : Oc ρ β γ → Prop} {I : β → Prop} {s : β} : kfor Q I (.nxt s) = I s := propext Iff.rfl
theorem kfor_cnt {Q : Oc ρ β γ → Prop} {I : β → Prop} {s : β} : kfor Q I (.cnt s) = I s := propext Iff.rfl
theorem kfor_brk {Q : Oc ρ β γ → Prop} {I : β → Prop} {s : β} : kfor Q I (.brk s) = Q (.nxt s) := propext Iff.rfl
theorem andThen {m : Wt (Oc ρ δ γ)} {k : δ → Wt (Oc ρ β γ)} {Q : Oc ρ β γ → Prop} : (Wt.andThen m k).run E Q = m.run E (kont Q fun s => (k s).run E Q) := by
  rw [Wt.run_andThen]
  congr 1
theorem fin {m : Wt (Oc ρ Unit Unit)} {Q : ρ → Prop} {x : Option ρ} : (Wt.fin x m).run E Q = m.run E (kfin x Q) := by
  rw [Wt.run_fin]
  congr 1
theorem for_inv {body : α → β → Wt (Oc ρ β β)} {Q : Oc ρ β γ → Prop} (xs : List α) (s0 : β) (I : Nat → β → Prop) (h0 : I 0 s0)
    (h : ∀ i x s, xs[i]? = some x → I i s → (body x s).run E (kfor Q (I (i + 1)))) (hq : ∀ s, I xs.length s → Q (.nxt s)) : (Wt.forW (γ := γ) body xs s0).run E Q :=
  Wt.for_inv xs s0 I h0 (fun i x s hx hs => (body x s).mono (fun _ z => z) (fun o q => by cases o <;> exact q) (h i x s hx hs)) hq
end Ws
end T9
namespace T9
namespace K32
open L2 PyProof.Rows PySem.Spec PySem
def topS (i : Nat) : Stmt := PySem.Challenge.pw_lostplaces_k32_whole_data_in_every_rest.main.body.getD i (.Pass ⟨0, 0, 0, 0⟩)
abbrev s_is_whole : Stmt := topS 9
abbrev N_is_whole : List Str := ["thing", "low", "high"]
theorem sc_is_whole : FnScope N_is_whole ["thing", "low", "high"] (defScope s_is_whole) := ⟨rfl, rfl, rfl, by decide +kernel, rfl, by decide +kernel, by decide +kernel⟩
abbrev s_check_number : Stmt := topS 10
abbrev N_check_number : List Str := ["thing", "low", "high"]
theorem sc_check_number : FnScope N_check_number ["thing", "low", "high"] (defScope s_check_number) := ⟨rfl, rfl, rfl, by decide +kernel, rfl, by decide +kernel, by decide +kernel⟩
abbrev s_power_of : Stmt := topS 11
abbrev N_power_of : List Str := ["base", "exponent", "total", "step"]
theorem sc_power_of : FnScope N_power_of ["base", "exponent"] (defScope s_power_of) := ⟨rfl, rfl, rfl, by decide +kernel, rfl, by decide +kernel, by decide +kernel⟩
abbrev s_check_word : Stmt := topS 12
abbrev N_check_word : List Str := ["letters", "word", "most", "at", "letter"]
theorem sc_check_word : FnScope N_check_word ["letters", "word", "most"] (defScope s_check_word) := ⟨rfl, rfl, rfl, by decide +kernel, rfl, by decide +kernel, by decide +kernel⟩
abbrev s_doubling_places : Stmt := topS 15
abbrev N_doubling_places : List Str := ["length", "places", "place"]
theorem sc_doubling_places : FnScope N_doubling_places ["length"] (defScope s_doubling_places) := ⟨rfl, rfl, rfl, by decide +kernel, rfl, by decide +kernel, by decide +kernel⟩
abbrev s_free_places : Stmt := topS 16
abbrev N_free_places : List Str := ["length", "wrong", "fixed", "place"]
theorem sc_free_places : FnScope N_free_places ["length", "wrong"] (defScope s_free_places) := ⟨rfl, rfl, rfl, by decide +kernel, rfl, by decide +kernel, by decide +kernel⟩
abbrev s_check_bits : Stmt := topS 17
abbrev N_check_bits : List Str := ["bits", "many", "at", "bit"]
theorem sc_check_bits : FnScope N_check_bits ["bits", "many"] (defScope s_check_bits) := ⟨rfl, rfl, rfl, by decide +kernel, rfl, by decide +kernel, by decide +kernel⟩
abbrev s_data_word : Stmt := topS 18
abbrev N_data_word : List Str := ["length", "rest", "bits", "wrong", "places", "modulus", "word", "place", "bit", "lacking", "fixed"]
theorem sc_data_word : FnScope N_data_word ["length", "rest", "bits", "wrong"] (defScope s_data_word) := ⟨rfl, rfl, rfl, by decide +kernel, rfl, by decide +kernel, by decide +kernel⟩
abbrev s_data_of : Stmt := topS 19
abbrev N_data_of : List Str := ["word", "wrong", "place"]
theorem sc_data_of : FnScope N_data_of ["word", "wrong"] (defScope s_data_of) := ⟨rfl, rfl, rfl, by decide +kernel, rfl, by decide +kernel, by decide +kernel⟩
abbrev s_sum_places : Stmt := topS 23
abbrev N_sum_places : List Str := ["word", "total", "at", "letter"]
theorem sc_sum_places : FnScope N_sum_places ["word"] (defScope s_sum_places) := ⟨rfl, rfl, rfl, by decide +kernel, rfl, by decide +kernel, by decide +kernel⟩
abbrev s_place_sum : Stmt := topS 24
abbrev N_place_sum : List Str := ["word"]
theorem sc_place_sum : FnScope N_place_sum ["word"] (defScope s_place_sum) := ⟨rfl, rfl, rfl, by decide +kernel, rfl, by decide +kernel, by decide +kernel⟩
abbrev s_check_modulus : Stmt := topS 25
abbrev N_check_modulus : List Str := ["modulus", "low"]
theorem sc_check_modulus : FnScope N_check_modulus ["modulus", "low"] (defScope s_check_modulus) := ⟨rfl, rfl, rfl, by decide +kernel, rfl, by decide +kernel, by decide +kernel⟩
abbrev s_check_rest : Stmt := topS 26
abbrev N_check_rest : List Str := ["rest", "modulus"]
theorem sc_check_rest : FnScope N_check_rest ["rest", "modulus"] (defScope s_check_rest) := ⟨rfl, rfl, rfl, by decide +kernel, rfl, by decide +kernel, by decide +kernel⟩
abbrev s_SumBook_init : Stmt := L2.inClass (topS 27) 0
abbrev N_SumBook_init : List Str := ["self", "length", "modulus", "rest"]
theorem sc_SumBook_init : FnScope N_SumBook_init ["self", "length", "modulus", "rest"] (defScope s_SumBook_init) := ⟨rfl, rfl, rfl, by decide +kernel, rfl, by decide +kernel, by decide +kernel⟩
abbrev s_SumBook_has : Stmt := L2.inClass (topS 27) 4
abbrev N_SumBook_has : List Str := ["self", "word"]
theorem sc_SumBook_has : FnScope N_SumBook_has ["self", "word"] (defScope s_SumBook_has) := ⟨rfl, rfl, rfl, by decide +kernel, rfl, by decide +kernel, by decide +kernel⟩
abbrev s_divisors_of : Stmt := topS 30
abbrev N_divisors_of : List Str := ["number", "low", "high", "k"]
theorem sc_divisors_of : FnScope N_divisors_of ["number"] (defScope s_divisors_of) := ⟨rfl, rfl, rfl, by decide +kernel, rfl, by decide +kernel, by decide +kernel⟩
abbrev s_prime_powers : Stmt := topS 31
abbrev N_prime_powers : List Str := ["number", "rows", "left", "k", "many"]
theorem sc_prime_powers : FnScope N_prime_powers ["number"] (defScope s_prime_powers) := ⟨rfl, rfl, rfl, by decide +kernel, rfl, by decide +kernel, by decide +kernel⟩
abbrev s_phi_of : Stmt := topS 32
abbrev N_phi_of : List Str := ["number", "left", "row"]
theorem sc_phi_of : FnScope N_phi_of ["number"] (defScope s_phi_of) := ⟨rfl, rfl, rfl, by decide +kernel, rfl, by decide +kernel, by decide +kernel⟩
abbrev s_mu_of : Stmt := topS 33
abbrev N_mu_of : List Str := ["number", "sign", "row"]
theorem sc_mu_of : FnScope N_mu_of ["number"] (defScope s_mu_of) := ⟨rfl, rfl, rfl, by decide +kernel, rfl, by decide +kernel, by decide +kernel⟩
abbrev s_common_divisor : Stmt := topS 34
abbrev N_common_divisor : List Str := ["one", "other", "low", "high"]
theorem sc_common_divisor : FnScope N_common_divisor ["one", "other"] (defScope s_common_divisor) := ⟨rfl, rfl, rfl, by decide +kernel, rfl, by decide +kernel, by decide +kernel⟩
abbrev s_ram_of : Stmt := topS 35
abbrev N_ram_of : List Str := ["number", "rest", "left"]
theorem sc_ram_of : FnScope N_ram_of ["number", "rest"] (defScope s_ram_of) := ⟨rfl, rfl, rfl, by decide +kernel, rfl, by decide +kernel, by decide +kernel⟩
abbrev s_check_sized : Stmt := topS 38
abbrev N_check_sized : List Str := ["length", "rest"]
theorem sc_check_sized : FnScope N_check_sized ["length", "rest"] (defScope s_check_sized) := ⟨rfl, rfl, rfl, by decide +kernel, rfl, by decide +kernel, by decide +kernel⟩
abbrev s_size_of : Stmt := topS 39
abbrev N_size_of : List Str := ["length", "rest", "total", "divisor"]
theorem sc_size_of : FnScope N_size_of ["length", "rest"] (defScope s_size_of) := ⟨rfl, rfl, rfl, by decide +kernel, rfl, by decide +kernel, by decide +kernel⟩
abbrev s_WrongBook_init : Stmt := L2.inClass (topS 43) 0
abbrev N_WrongBook_init : List Str := ["self", "length", "rest"]
theorem sc_WrongBook_init : FnScope N_WrongBook_init ["self", "length", "rest"] (defScope s_WrongBook_init) := ⟨rfl, rfl, rfl, by decide +kernel, rfl, by decide +kernel, by decide +kernel⟩
abbrev s_WrongBook_has : Stmt := L2.inClass (topS 43) 3
abbrev N_WrongBook_has : List Str := ["self", "word", "told"]
theorem sc_WrongBook_has : FnScope N_WrongBook_has ["self", "word"] (defScope s_WrongBook_has) := ⟨rfl, rfl, rfl, by decide +kernel, rfl, by decide +kernel, by decide +kernel⟩
abbrev s__law_hand : Stmt := topS 45
abbrev N__law_hand : List Str := ["_law_script", "_law_total", "_law_cells", "_law_cell"]
theorem sc__law_hand : FnScope N__law_hand ["_law_script"] (defScope s__law_hand) := ⟨rfl, rfl, rfl, by decide +kernel, rfl, by decide +kernel, by decide +kernel⟩
abbrev s__law_mixed : Stmt := topS 46
abbrev N__law_mixed : List Str := ["_law_number", "_law_turn", "_law_once", "_law_twice"]
theorem sc__law_mixed : FnScope N__law_mixed ["_law_number", "_law_turn"] (defScope s__law_mixed) := ⟨rfl, rfl, rfl, by decide +kernel, rfl, by decide +kernel, by decide +kernel⟩
abbrev s__law_take : Stmt := topS 47
abbrev N__law_take : List Str := ["_law_hand_here", "_law_many", "_law_cell", "_law_rest"]
theorem sc__law_take : FnScope N__law_take ["_law_hand_here", "_law_many"] (defScope s__law_take) := ⟨rfl, rfl, rfl, by decide +kernel, rfl, by decide +kernel, by decide +kernel⟩
abbrev s__law_power : Stmt := topS 48
abbrev N__law_power : List Str := ["_law_base", "_law_exponent", "_law_total", "_law_k"]
theorem sc__law_power : FnScope N__law_power ["_law_base", "_law_exponent"] (defScope s__law_power) := ⟨rfl, rfl, rfl, by decide +kernel, rfl, by decide +kernel, by decide +kernel⟩
abbrev s__law_sum : Stmt := topS 49
abbrev N__law_sum : List Str := ["_law_word", "_law_k"]
theorem sc__law_sum : FnScope N__law_sum ["_law_word"] (defScope s__law_sum) := ⟨rfl, rfl, rfl, by decide +kernel, rfl, by decide +kernel, by decide +kernel⟩
abbrev s__law_exact : Stmt := topS 50
abbrev N__law_exact : List Str := ["_law_told", "_law_due", "_law_k"]
theorem sc__law_exact : FnScope N__law_exact ["_law_told", "_law_due"] (defScope s__law_exact) := ⟨rfl, rfl, rfl, by decide +kernel, rfl, by decide +kernel, by decide +kernel⟩
abbrev s__law_either : Stmt := topS 51
abbrev N__law_either : List Str := ["_law_hand_here", "_law_word"]
theorem sc__law_either : FnScope N__law_either ["_law_hand_here", "_law_word"] (defScope s__law_either) := ⟨rfl, rfl, rfl, by decide +kernel, rfl, by decide +kernel, by decide +kernel⟩
abbrev s__law_doubling : Stmt := topS 52
abbrev N__law_doubling : List Str := ["_law_length", "_law_told", "_law_place", "_law_k"]
theorem sc__law_doubling : FnScope N__law_doubling ["_law_length"] (defScope s__law_doubling) := ⟨rfl, rfl, rfl, by decide +kernel, rfl, by decide +kernel, by decide +kernel⟩
abbrev s__law_free : Stmt := topS 53
abbrev N__law_free : List Str := ["_law_length", "_law_wrong", "_law_fixed", "_law_place"]
theorem sc__law_free : FnScope N__law_free ["_law_length", "_law_wrong"] (defScope s__law_free) := ⟨rfl, rfl, rfl, by decide +kernel, rfl, by decide +kernel, by decide +kernel⟩
abbrev s__law_data : Stmt := topS 54
abbrev N__law_data : List Str := ["_law_length", "_law_rest", "_law_bits_here", "_law_wrong", "_law_modulus", "_law_free_here", "_law_word", "_law_k", "_law_lacking", "_law_fixed", "_law_place"]
theorem sc__law_data : FnScope N__law_data ["_law_length", "_law_rest", "_law_bits_here", "_law_wrong"] (defScope s__law_data) := ⟨rfl, rfl, rfl, by decide +kernel, rfl, by decide +kernel, by decide +kernel⟩
abbrev s__law_bits : Stmt := topS 55
abbrev N__law_bits : List Str := ["_law_number", "_law_many", "_law_told", "_law_k"]
theorem sc__law_bits : FnScope N__law_bits ["_law_number", "_law_many"] (defScope s__law_bits) := ⟨rfl, rfl, rfl, by decide +kernel, rfl, by decide +kernel, by decide +kernel⟩
abbrev s__law_word_holds : Stmt := topS 56
abbrev N__law_word_holds : List Str := ["_law_hand_here", "_law_length", "_law_rest", "_law_bits_here", "_law_wrong", "_law_given", "_law_due", "_law_told", "_law_back"]
theorem sc__law_word_holds : FnScope N__law_word_holds ["_law_hand_here", "_law_length", "_law_rest", "_law_bits_here", "_law_wrong"] (defScope s__law_word_holds) := ⟨rfl, rfl, rfl, by decide +kernel, rfl, by decide +kernel, by decide +kernel⟩
abbrev s__law_all_hold : Stmt := topS 57
abbrev N__law_all_hold : List Str := ["_law_hand_here", "_law_length", "_law_wrong", "_law_free_here", "_law_rest", "_law_told", "_law_number", "_law_bits_here"]
theorem sc__law_all_hold : FnScope N__law_all_hold ["_law_hand_here", "_law_length", "_law_wrong"] (defScope s__law_all_hold) := ⟨rfl, rfl, rfl, by decide +kernel, rfl, by decide +kernel, by decide +kernel⟩
abbrev s_law : Stmt := topS 58
abbrev N_law : List Str := ["_law_script", "_law_hand_here", "_law_length", "_law_wrong", "_law_free_here", "_law_bits_here", "_law_rest", "_law_word", "_law_small", "_law_place"]
theorem sc_law : FnScope N_law ["_law_script"] (defScope s_law) := ⟨rfl, rfl, rfl, by decide +kernel, rfl, by decide +kernel, by decide +kernel⟩
abbrev vi_SumBook := Int × Int × Int
def di_SumBook : vi_SumBook := (0, 0, 0)
abbrev cad_SumBook (K : PySem.W.Frag) : Addr := He.ga K "SumBook"
def fl_SumBook (K : PySem.W.Frag) (x : vi_SumBook) : Flds := [fld (K := K) "length" yI x.1, fld (K := K) "modulus" yI x.2.1, fld (K := K) "rest" yI x.2.2]
theorem fm_SumBook (K : PySem.W.Frag) (x : vi_SumBook) : FMono (fl_SumBook K x) := (fmono_cons (fmono_cons (fmono_cons True.intro)))
abbrev yi_SumBook (K : PySem.W.Frag) : Ty K vi_SumBook := yIns K (cad_SumBook K) (fl_SumBook K) (fm_SumBook K)
abbrev vi_WrongBook := Int × Int × Int × Int
def di_WrongBook : vi_WrongBook := (0, 0, 0, 0)
abbrev cad_WrongBook (K : PySem.W.Frag) : Addr := He.ga K "WrongBook"
def fl_WrongBook (K : PySem.W.Frag) (x : vi_WrongBook) : Flds := [fld (K := K) "length" yI x.1, fld (K := K) "rest" yI x.2.1, fld (K := K) "modulus" yI x.2.2.1, fld (K := K) "size" yI x.2.2.2]
theorem fm_WrongBook (K : PySem.W.Frag) (x : vi_WrongBook) : FMono (fl_WrongBook K x) := (fmono_cons (fmono_cons (fmono_cons (fmono_cons True.intro))))
abbrev yi_WrongBook (K : PySem.W.Frag) : Ty K vi_WrongBook := yIns K (cad_WrongBook K) (fl_WrongBook K) (fm_WrongBook K)
structure Prg (K : PySem.W.Frag) (mg : Str → Option Value) where
  fd_is_whole : FuncData
  F_is_whole : FunD K "is_whole" "is_whole" (defArgs s_is_whole) (defBody s_is_whole) (defScope s_is_whole) [.non, .non] [] (He.fAd K ("is_whole", none)) fd_is_whole
  m_is_whole : mg "is_whole" = some (.ref (He.fAd K ("is_whole", none)))
  fd_check_number : FuncData
  F_check_number : FunD K "check_number" "check_number" (defArgs s_check_number) (defBody s_check_number) (defScope s_check_number) [] [] (He.fAd K ("check_number", none)) fd_check_number
  m_check_number : mg "check_number" = some (.ref (He.fAd K ("check_number", none)))
  fd_power_of : FuncData
  F_power_of : FunD K "power_of" "power_of" (defArgs s_power_of) (defBody s_power_of) (defScope s_power_of) [] [] (He.fAd K ("power_of", none)) fd_power_of
  m_power_of : mg "power_of" = some (.ref (He.fAd K ("power_of", none)))
  fd_check_word : FuncData
  F_check_word : FunD K "check_word" "check_word" (defArgs s_check_word) (defBody s_check_word) (defScope s_check_word) [.int 24] [] (He.fAd K ("check_word", none)) fd_check_word
  m_check_word : mg "check_word" = some (.ref (He.fAd K ("check_word", none)))
  fd_doubling_places : FuncData
  F_doubling_places : FunD K "doubling_places" "doubling_places" (defArgs s_doubling_places) (defBody s_doubling_places) (defScope s_doubling_places) [] [] (He.fAd K ("doubling_places", none)) fd_doubling_places
  m_doubling_places : mg "doubling_places" = some (.ref (He.fAd K ("doubling_places", none)))
  fd_free_places : FuncData
  F_free_places : FunD K "free_places" "free_places" (defArgs s_free_places) (defBody s_free_places) (defScope s_free_places) [] [("wrong", .bl false)] (He.fAd K ("free_places", none)) fd_free_places
  m_free_places : mg "free_places" = some (.ref (He.fAd K ("free_places", none)))
  fd_check_bits : FuncData
  F_check_bits : FunD K "check_bits" "check_bits" (defArgs s_check_bits) (defBody s_check_bits) (defScope s_check_bits) [] [] (He.fAd K ("check_bits", none)) fd_check_bits
  m_check_bits : mg "check_bits" = some (.ref (He.fAd K ("check_bits", none)))
  fd_data_word : FuncData
  F_data_word : FunD K "data_word" "data_word" (defArgs s_data_word) (defBody s_data_word) (defScope s_data_word) [] [("wrong", .bl false)] (He.fAd K ("data_word", none)) fd_data_word
  m_data_word : mg "data_word" = some (.ref (He.fAd K ("data_word", none)))
  fd_data_of : FuncData
  F_data_of : FunD K "data_of" "data_of" (defArgs s_data_of) (defBody s_data_of) (defScope s_data_of) [] [("wrong", .bl false)] (He.fAd K ("data_of", none)) fd_data_of
  m_data_of : mg "data_of" = some (.ref (He.fAd K ("data_of", none)))
  fd_sum_places : FuncData
  F_sum_places : FunD K "sum_places" "sum_places" (defArgs s_sum_places) (defBody s_sum_places) (defScope s_sum_places) [] [] (He.fAd K ("sum_places", none)) fd_sum_places
  m_sum_places : mg "sum_places" = some (.ref (He.fAd K ("sum_places", none)))
  fd_place_sum : FuncData
  F_place_sum : FunD K "place_sum" "place_sum" (defArgs s_place_sum) (defBody s_place_sum) (defScope s_place_sum) [] [] (He.fAd K ("place_sum", none)) fd_place_sum
  m_place_sum : mg "place_sum" = some (.ref (He.fAd K ("place_sum", none)))
  fd_check_modulus : FuncData
  F_check_modulus : FunD K "check_modulus" "check_modulus" (defArgs s_check_modulus) (defBody s_check_modulus) (defScope s_check_modulus) [] [] (He.fAd K ("check_modulus", none)) fd_check_modulus
  m_check_modulus : mg "check_modulus" = some (.ref (He.fAd K ("check_modulus", none)))
  fd_check_rest : FuncData
  F_check_rest : FunD K "check_rest" "check_rest" (defArgs s_check_rest) (defBody s_check_rest) (defScope s_check_rest) [] [] (He.fAd K ("check_rest", none)) fd_check_rest
  m_check_rest : mg "check_rest" = some (.ref (He.fAd K ("check_rest", none)))
  fd_SumBook_init : FuncData
  F_SumBook_init : FunD K "__init__" "SumBook.__init__" (defArgs s_SumBook_init) (defBody s_SumBook_init) (defScope s_SumBook_init) [] [] (He.fAd K ("SumBook", some "__init__")) fd_SumBook_init
  fd_SumBook_has : FuncData
  F_SumBook_has : FunD K "has" "SumBook.has" (defArgs s_SumBook_has) (defBody s_SumBook_has) (defScope s_SumBook_has) [] [] (He.fAd K ("SumBook", some "has")) fd_SumBook_has
  fd_divisors_of : FuncData
  F_divisors_of : FunD K "divisors_of" "divisors_of" (defArgs s_divisors_of) (defBody s_divisors_of) (defScope s_divisors_of) [] [] (He.fAd K ("divisors_of", none)) fd_divisors_of
  m_divisors_of : mg "divisors_of" = some (.ref (He.fAd K ("divisors_of", none)))
  fd_prime_powers : FuncData
  F_prime_powers : FunD K "prime_powers" "prime_powers" (defArgs s_prime_powers) (defBody s_prime_powers) (defScope s_prime_powers) [] [] (He.fAd K ("prime_powers", none)) fd_prime_powers
  m_prime_powers : mg "prime_powers" = some (.ref (He.fAd K ("prime_powers", none)))
  fd_phi_of : FuncData
  F_phi_of : FunD K "phi_of" "phi_of" (defArgs s_phi_of) (defBody s_phi_of) (defScope s_phi_of) [] [] (He.fAd K ("phi_of", none)) fd_phi_of
  m_phi_of : mg "phi_of" = some (.ref (He.fAd K ("phi_of", none)))
  fd_mu_of : FuncData
  F_mu_of : FunD K "mu_of" "mu_of" (defArgs s_mu_of) (defBody s_mu_of) (defScope s_mu_of) [] [] (He.fAd K ("mu_of", none)) fd_mu_of
  m_mu_of : mg "mu_of" = some (.ref (He.fAd K ("mu_of", none)))
  fd_common_divisor : FuncData
  F_common_divisor : FunD K "common_divisor" "common_divisor" (defArgs s_common_divisor) (defBody s_common_divisor) (defScope s_common_divisor) [] [] (He.fAd K ("common_divisor", none)) fd_common_divisor
  m_common_divisor : mg "common_divisor" = some (.ref (He.fAd K ("common_divisor", none)))
  fd_ram_of : FuncData
  F_ram_of : FunD K "ram_of" "ram_of" (defArgs s_ram_of) (defBody s_ram_of) (defScope s_ram_of) [] [] (He.fAd K ("ram_of", none)) fd_ram_of
  m_ram_of : mg "ram_of" = some (.ref (He.fAd K ("ram_of", none)))
  fd_check_sized : FuncData
  F_check_sized : FunD K "check_sized" "check_sized" (defArgs s_check_sized) (defBody s_check_sized) (defScope s_check_sized) [] [] (He.fAd K ("check_sized", none)) fd_check_sized
  m_check_sized : mg "check_sized" = some (.ref (He.fAd K ("check_sized", none)))
  fd_size_of : FuncData
  F_size_of : FunD K "size_of" "size_of" (defArgs s_size_of) (defBody s_size_of) (defScope s_size_of) [] [] (He.fAd K ("size_of", none)) fd_size_of
  m_size_of : mg "size_of" = some (.ref (He.fAd K ("size_of", none)))
  fd_WrongBook_init : FuncData
  F_WrongBook_init : FunD K "__init__" "WrongBook.__init__" (defArgs s_WrongBook_init) (defBody s_WrongBook_init) (defScope s_WrongBook_init) [] [] (He.fAd K ("WrongBook", some "__init__")) fd_WrongBook_init
  fd_WrongBook_has : FuncData
  F_WrongBook_has : FunD K "has" "WrongBook.has" (defArgs s_WrongBook_has) (defBody s_WrongBook_has) (defScope s_WrongBook_has) [] [] (He.fAd K ("WrongBook", some "has")) fd_WrongBook_has
  fd__law_hand : FuncData
  F__law_hand : FunD K "_law_hand" "_law_hand" (defArgs s__law_hand) (defBody s__law_hand) (defScope s__law_hand) [] [] (He.fAd K ("_law_hand", none)) fd__law_hand
  m__law_hand : mg "_law_hand" = some (.ref (He.fAd K ("_law_hand", none)))
  fd__law_mixed : FuncData
  F__law_mixed : FunD K "_law_mixed" "_law_mixed" (defArgs s__law_mixed) (defBody s__law_mixed) (defScope s__law_mixed) [] [] (He.fAd K ("_law_mixed", none)) fd__law_mixed
  m__law_mixed : mg "_law_mixed" = some (.ref (He.fAd K ("_law_mixed", none)))
  fd__law_take : FuncData
  F__law_take : FunD K "_law_take" "_law_take" (defArgs s__law_take) (defBody s__law_take) (defScope s__law_take) [] [] (He.fAd K ("_law_take", none)) fd__law_take
  m__law_take : mg "_law_take" = some (.ref (He.fAd K ("_law_take", none)))
  fd__law_power : FuncData
  F__law_power : FunD K "_law_power" "_law_power" (defArgs s__law_power) (defBody s__law_power) (defScope s__law_power) [] [] (He.fAd K ("_law_power", none)) fd__law_power
  m__law_power : mg "_law_power" = some (.ref (He.fAd K ("_law_power", none)))
  fd__law_sum : FuncData
  F__law_sum : FunD K "_law_sum" "_law_sum" (defArgs s__law_sum) (defBody s__law_sum) (defScope s__law_sum) [] [] (He.fAd K ("_law_sum", none)) fd__law_sum
  m__law_sum : mg "_law_sum" = some (.ref (He.fAd K ("_law_sum", none)))
  fd__law_exact : FuncData
  F__law_exact : FunD K "_law_exact" "_law_exact" (defArgs s__law_exact) (defBody s__law_exact) (defScope s__law_exact) [] [] (He.fAd K ("_law_exact", none)) fd__law_exact
  m__law_exact : mg "_law_exact" = some (.ref (He.fAd K ("_law_exact", none)))
  fd__law_either : FuncData
  F__law_either : FunD K "_law_either" "_law_either" (defArgs s__law_either) (defBody s__law_either) (defScope s__law_either) [] [] (He.fAd K ("_law_either", none)) fd__law_either
  m__law_either : mg "_law_either" = some (.ref (He.fAd K ("_law_either", none)))
  fd__law_doubling : FuncData
  F__law_doubling : FunD K "_law_doubling" "_law_doubling" (defArgs s__law_doubling) (defBody s__law_doubling) (defScope s__law_doubling) [] [] (He.fAd K ("_law_doubling", none)) fd__law_doubling
  m__law_doubling : mg "_law_doubling" = some (.ref (He.fAd K ("_law_doubling", none)))
  fd__law_free : FuncData
  F__law_free : FunD K "_law_free" "_law_free" (defArgs s__law_free) (defBody s__law_free) (defScope s__law_free) [] [] (He.fAd K ("_law_free", none)) fd__law_free
  m__law_free : mg "_law_free" = some (.ref (He.fAd K ("_law_free", none)))
  fd__law_data : FuncData
  F__law_data : FunD K "_law_data" "_law_data" (defArgs s__law_data) (defBody s__law_data) (defScope s__law_data) [] [] (He.fAd K ("_law_data", none)) fd__law_data
  m__law_data : mg "_law_data" = some (.ref (He.fAd K ("_law_data", none)))
  fd__law_bits : FuncData
  F__law_bits : FunD K "_law_bits" "_law_bits" (defArgs s__law_bits) (defBody s__law_bits) (defScope s__law_bits) [] [] (He.fAd K ("_law_bits", none)) fd__law_bits
  m__law_bits : mg "_law_bits" = some (.ref (He.fAd K ("_law_bits", none)))
  fd__law_word_holds : FuncData
  F__law_word_holds : FunD K "_law_word_holds" "_law_word_holds" (defArgs s__law_word_holds) (defBody s__law_word_holds) (defScope s__law_word_holds) [] [] (He.fAd K ("_law_word_holds", none)) fd__law_word_holds
  m__law_word_holds : mg "_law_word_holds" = some (.ref (He.fAd K ("_law_word_holds", none)))
  fd__law_all_hold : FuncData
  F__law_all_hold : FunD K "_law_all_hold" "_law_all_hold" (defArgs s__law_all_hold) (defBody s__law_all_hold) (defScope s__law_all_hold) [] [] (He.fAd K ("_law_all_hold", none)) fd__law_all_hold
  m__law_all_hold : mg "_law_all_hold" = some (.ref (He.fAd K ("_law_all_hold", none)))
  fd_law : FuncData
  F_law : FunD K "law" "law" (defArgs s_law) (defBody s_law) (defScope s_law) [] [] (He.fAd K ("law", none)) fd_law
  m_law : mg "law" = some (.ref (He.fAd K ("law", none)))
  n_abs : mg "abs" = none
  n_all : mg "all" = none
  n_bool : mg "bool" = none
  n_enumerate : mg "enumerate" = none
  n_int : mg "int" = none
  n_isinstance : mg "isinstance" = none
  n_len : mg "len" = none
  n_list : mg "list" = none
  n_range : mg "range" = none
  n_set : mg "set" = none
  n_sum : mg "sum" = none
  n_tuple : mg "tuple" = none
  n_zip : mg "zip" = none
  c_MOST_DIVIDED : ∃ t, mg "MOST_DIVIDED" = some (.int 2000 t)
  c_MOST_LENGTH_datas : ∃ t, mg "MOST_LENGTH_datas" = some (.int 200 t)
  c_MOST_LENGTH_sums : ∃ t, mg "MOST_LENGTH_sums" = some (.int 200 t)
  c_MOST_LENGTH_wrongs : ∃ t, mg "MOST_LENGTH_wrongs" = some (.int 60 t)
  c_MOST_MODULUS : ∃ t, mg "MOST_MODULUS" = some (.int 1000000 t)
  c_MOST_READ : ∃ t, mg "MOST_READ" = some (.int 61 t)
  c_MOST_SIZED : ∃ t, mg "MOST_SIZED" = some (.int 200 t)
  m_SumBook : mg "SumBook" = some (.ref (cad_SumBook K))
  k_SumBook : Cls K (cad_SumBook K)
  mk_SumBook : Mk K (cad_SumBook K) (He.ma K (cad_SumBook K) "__init__")
  m_WrongBook : mg "WrongBook" = some (.ref (cad_WrongBook K))
  k_WrongBook : Cls K (cad_WrongBook K)
  mk_WrongBook : Mk K (cad_WrongBook K) (He.ma K (cad_WrongBook K) "__init__")
  a_SumBook_length : NoAttr K (cad_SumBook K) "length"
  a_SumBook_modulus : NoAttr K (cad_SumBook K) "modulus"
  a_SumBook_rest : NoAttr K (cad_SumBook K) "rest"
  a_WrongBook_length : NoAttr K (cad_WrongBook K) "length"
  a_WrongBook_modulus : NoAttr K (cad_WrongBook K) "modulus"
  a_WrongBook_rest : NoAttr K (cad_WrongBook K) "rest"
  a_WrongBook_size : NoAttr K (cad_WrongBook K) "size"
  me_SumBook_has : Meth K (cad_SumBook K) "has" (He.ma K (cad_SumBook K) "has")
  me_WrongBook_has : Meth K (cad_WrongBook K) "has" (He.ma K (cad_WrongBook K) "has")
section
variable {P : Program} {w : World} {K : PySem.W.Frag} {mg : Str → Option Value} {base : Heap}
theorem b_is_whole (T : Prg K mg) : Binds K T.fd_is_whole ["thing", "low", "high"] [] := by
  obtain ⟨ds, h1, h2⟩ := T.F_is_whole.binds1 (ps := ["thing", "low", "high"]) 3 2 (by simp) rfl (fun _ _ _ _ _ _ _ us its h1 h2 => match us, its, h1, h2 with | [_, _, _], [_, _], _, _ => ⟨_, rfl, rfl⟩)
  cases h1
  exact h2
theorem b_check_number (T : Prg K mg) : Binds K T.fd_check_number ["thing", "low", "high"] [] := T.F_check_number.bindsN fun _ _ _ _ _ _ us hl => match us, hl with | [_, _, _], _ => rfl
theorem b_power_of (T : Prg K mg) : Binds K T.fd_power_of ["base", "exponent"] [] := T.F_power_of.bindsN fun _ _ _ _ _ _ us hl => match us, hl with | [_, _], _ => rfl
theorem b_check_word (T : Prg K mg) : Binds K T.fd_check_word ["letters", "word", "most"] [] := by
  obtain ⟨ds, h1, h2⟩ := T.F_check_word.binds1 (ps := ["letters", "word", "most"]) 3 1 (by simp) rfl (fun _ _ _ _ _ _ _ us its h1 h2 => match us, its, h1, h2 with | [_, _, _], [_], _, _ => ⟨_, rfl, rfl⟩)
  cases h1
  exact h2
theorem b_doubling_places (T : Prg K mg) : Binds K T.fd_doubling_places ["length"] [] := T.F_doubling_places.bindsN fun _ _ _ _ _ _ us hl => match us, hl with | [_], _ => rfl
theorem bk_free_places (T : Prg K mg) : KBn K T.fd_free_places ["length", "wrong"] 1 ["wrong"] (fun us ws => us ++ ws) (fun vs zs => vs ++ zs) := kbn1 T.F_free_places fun _ _ _ _ _ _ us ws l1 l2 => match us, ws, l1, l2 with | [_], [_], _, _ => rfl
theorem bd_free_places (T : Prg K mg) : ∃ ds, Vals [V.bl false] ds ∧ Binds K T.fd_free_places ["length", "wrong"] ds := T.F_free_places.binds0 1 (by simp) rfl fun _ _ _ _ _ _ us ks h1 h2 => match us, ks, h1, h2 with | [_], [_], _, _ => ⟨_, _, _, _, _, _, rfl, rfl, rfl⟩
theorem b_check_bits (T : Prg K mg) : Binds K T.fd_check_bits ["bits", "many"] [] := T.F_check_bits.bindsN fun _ _ _ _ _ _ us hl => match us, hl with | [_, _], _ => rfl
theorem bk_data_word (T : Prg K mg) : KBn K T.fd_data_word ["length", "rest", "bits", "wrong"] 3 ["wrong"] (fun us ws => us ++ ws) (fun vs zs => vs ++ zs) := kbn1 T.F_data_word fun _ _ _ _ _ _ us ws l1 l2 => match us, ws, l1, l2 with | [_, _, _], [_], _, _ => rfl
theorem bd_data_word (T : Prg K mg) : ∃ ds, Vals [V.bl false] ds ∧ Binds K T.fd_data_word ["length", "rest", "bits", "wrong"] ds := T.F_data_word.binds0 3 (by simp) rfl fun _ _ _ _ _ _ us ks h1 h2 => match us, ks, h1, h2 with | [_, _, _], [_], _, _ => ⟨_, _, _, _, _, _, rfl, rfl, rfl⟩
theorem bk_data_of (T : Prg K mg) : KBn K T.fd_data_of ["word", "wrong"] 1 ["wrong"] (fun us ws => us ++ ws) (fun vs zs => vs ++ zs) := kbn1 T.F_data_of fun _ _ _ _ _ _ us ws l1 l2 => match us, ws, l1, l2 with | [_], [_], _, _ => rfl
theorem bd_data_of (T : Prg K mg) : ∃ ds, Vals [V.bl false] ds ∧ Binds K T.fd_data_of ["word", "wrong"] ds := T.F_data_of.binds0 1 (by simp) rfl fun _ _ _ _ _ _ us ks h1 h2 => match us, ks, h1, h2 with | [_], [_], _, _ => ⟨_, _, _, _, _, _, rfl, rfl, rfl⟩
theorem b_sum_places (T : Prg K mg) : Binds K T.fd_sum_places ["word"] [] := T.F_sum_places.bindsN fun _ _ _ _ _ _ us hl => match us, hl with | [_], _ => rfl
theorem b_place_sum (T : Prg K mg) : Binds K T.fd_place_sum ["word"] [] := T.F_place_sum.bindsN fun _ _ _ _ _ _ us hl => match us, hl with | [_], _ => rfl
theorem b_check_modulus (T : Prg K mg) : Binds K T.fd_check_modulus ["modulus", "low"] [] := T.F_check_modulus.bindsN fun _ _ _ _ _ _ us hl => match us, hl with | [_, _], _ => rfl
theorem b_check_rest (T : Prg K mg) : Binds K T.fd_check_rest ["rest", "modulus"] [] := T.F_check_rest.bindsN fun _ _ _ _ _ _ us hl => match us, hl with | [_, _], _ => rfl
theorem b_SumBook_init (T : Prg K mg) : Binds K T.fd_SumBook_init ["self", "length", "modulus", "rest"] [] := T.F_SumBook_init.bindsN fun _ _ _ _ _ _ us hl => match us, hl with | [_, _, _, _], _ => rfl
theorem b_SumBook_has (T : Prg K mg) : Binds K T.fd_SumBook_has ["self", "word"] [] := T.F_SumBook_has.bindsN fun _ _ _ _ _ _ us hl => match us, hl with | [_, _], _ => rfl
theorem b_divisors_of (T : Prg K mg) : Binds K T.fd_divisors_of ["number"] [] := T.F_divisors_of.bindsN fun _ _ _ _ _ _ us hl => match us, hl with | [_], _ => rfl
theorem b_prime_powers (T : Prg K mg) : Binds K T.fd_prime_powers ["number"] [] := T.F_prime_powers.bindsN fun _ _ _ _ _ _ us hl => match us, hl with | [_], _ => rfl
theorem b_phi_of (T : Prg K mg) : Binds K T.fd_phi_of ["number"] [] := T.F_phi_of.bindsN fun _ _ _ _ _ _ us hl => match us, hl with | [_], _ => rfl
theorem b_mu_of (T : Prg K mg) : Binds K T.fd_mu_of ["number"] [] := T.F_mu_of.bindsN fun _ _ _ _ _ _ us hl => match us, hl with | [_], _ => rfl
theorem b_common_divisor (T : Prg K mg) : Binds K T.fd_common_divisor ["one", "other"] [] := T.F_common_divisor.bindsN fun _ _ _ _ _ _ us hl => match us, hl with | [_, _], _ => rfl
theorem b_ram_of (T : Prg K mg) : Binds K T.fd_ram_of ["number", "rest"] [] := T.F_ram_of.bindsN fun _ _ _ _ _ _ us hl => match us, hl with | [_, _], _ => rfl
theorem b_check_sized (T : Prg K mg) : Binds K T.fd_check_sized ["length", "rest"] [] := T.F_check_sized.bindsN fun _ _ _ _ _ _ us hl => match us, hl with | [_, _], _ => rfl
theorem b_size_of (T : Prg K mg) : Binds K T.fd_size_of ["length", "rest"] [] := T.F_size_of.bindsN fun _ _ _ _ _ _ us hl => match us, hl with | [_, _], _ => rfl
theorem b_WrongBook_init (T : Prg K mg) : Binds K T.fd_WrongBook_init ["self", "length", "rest"] [] := T.F_WrongBook_init.bindsN fun _ _ _ _ _ _ us hl => match us, hl with | [_, _, _], _ => rfl
theorem b_WrongBook_has (T : Prg K mg) : Binds K T.fd_WrongBook_has ["self", "word"] [] := T.F_WrongBook_has.bindsN fun _ _ _ _ _ _ us hl => match us, hl with | [_, _], _ => rfl
theorem b__law_hand (T : Prg K mg) : Binds K T.fd__law_hand ["_law_script"] [] := T.F__law_hand.bindsN fun _ _ _ _ _ _ us hl => match us, hl with | [_], _ => rfl
theorem b__law_mixed (T : Prg K mg) : Binds K T.fd__law_mixed ["_law_number", "_law_turn"] [] := T.F__law_mixed.bindsN fun _ _ _ _ _ _ us hl => match us, hl with | [_, _], _ => rfl
theorem b__law_take (T : Prg K mg) : Binds K T.fd__law_take ["_law_hand_here", "_law_many"] [] := T.F__law_take.bindsN fun _ _ _ _ _ _ us hl => match us, hl with | [_, _], _ => rfl
theorem b__law_power (T : Prg K mg) : Binds K T.fd__law_power ["_law_base", "_law_exponent"] [] := T.F__law_power.bindsN fun _ _ _ _ _ _ us hl => match us, hl with | [_, _], _ => rfl
theorem b__law_sum (T : Prg K mg) : Binds K T.fd__law_sum ["_law_word"] [] := T.F__law_sum.bindsN fun _ _ _ _ _ _ us hl => match us, hl with | [_], _ => rfl
theorem b__law_exact (T : Prg K mg) : Binds K T.fd__law_exact ["_law_told", "_law_due"] [] := T.F__law_exact.bindsN fun _ _ _ _ _ _ us hl => match us, hl with | [_, _], _ => rfl
theorem b__law_either (T : Prg K mg) : Binds K T.fd__law_either ["_law_hand_here", "_law_word"] [] := T.F__law_either.bindsN fun _ _ _ _ _ _ us hl => match us, hl with | [_, _], _ => rfl
theorem b__law_doubling (T : Prg K mg) : Binds K T.fd__law_doubling ["_law_length"] [] := T.F__law_doubling.bindsN fun _ _ _ _ _ _ us hl => match us, hl with | [_], _ => rfl
theorem b__law_free (T : Prg K mg) : Binds K T.fd__law_free ["_law_length", "_law_wrong"] [] := T.F__law_free.bindsN fun _ _ _ _ _ _ us hl => match us, hl with | [_, _], _ => rfl
theorem b__law_data (T : Prg K mg) : Binds K T.fd__law_data ["_law_length", "_law_rest", "_law_bits_here", "_law_wrong"] [] := T.F__law_data.bindsN fun _ _ _ _ _ _ us hl => match us, hl with | [_, _, _, _], _ => rfl
theorem b__law_bits (T : Prg K mg) : Binds K T.fd__law_bits ["_law_number", "_law_many"] [] := T.F__law_bits.bindsN fun _ _ _ _ _ _ us hl => match us, hl with | [_, _], _ => rfl
theorem b__law_word_holds (T : Prg K mg) : Binds K T.fd__law_word_holds ["_law_hand_here", "_law_length", "_law_rest", "_law_bits_here", "_law_wrong"] [] := T.F__law_word_holds.bindsN fun _ _ _ _ _ _ us hl => match us, hl with | [_, _, _, _, _], _ => rfl
theorem b__law_all_hold (T : Prg K mg) : Binds K T.fd__law_all_hold ["_law_hand_here", "_law_length", "_law_wrong"] [] := T.F__law_all_hold.bindsN fun _ _ _ _ _ _ us hl => match us, hl with | [_, _, _], _ => rfl
theorem b_law (T : Prg K mg) : Binds K T.fd_law ["_law_script"] [] := T.F_law.bindsN fun _ _ _ _ _ _ us hl => match us, hl with | [_], _ => rfl
end

def w_is_whole (y : Int × Int × Int × Unit) : Wt (Oc Bool Unit Unit) := (Wt.bind (Wt.bind (Wt.bind (Wt.bind (Wt.pure y.1) fun x => Wt.pure (true)) fun x => Wt.pure (!x)) fun x => Wt.ite x (Wt.pure true) (Wt.bind (Wt.pure y.1) fun x => Wt.pure (false))) fun b4 => Wt.andThen (δ := Unit) (Wt.ite b4 Wt.never (Wt.pure (.nxt ()))) fun s1 => (Wt.bind (Wt.bind (Wt.bind (Wt.bind (Wt.pure y.2.1) fun x => Wt.pure (some x)) fun x => Wt.pure x.isSome) fun x => Wt.ite x (Wt.bind (Wt.pure y.1) fun x => Wt.bind (Wt.pure y.2.1) fun y => Wt.pure (decide (x < y))) (Wt.pure false)) fun b3 => Wt.andThen (δ := Unit) (Wt.ite b3 (Wt.bind (Wt.pure false) fun x => Wt.pure (.ret x)) (Wt.pure (.nxt ()))) fun s2 => (Wt.bind (Wt.bind (Wt.bind (Wt.bind (Wt.pure y.2.2.1) fun x => Wt.pure (some x)) fun x => Wt.pure x.isNone) fun x => Wt.ite x (Wt.pure true) (Wt.bind (Wt.pure y.1) fun x => Wt.bind (Wt.pure y.2.2.1) fun y => Wt.pure (decide (x ≤ y)))) fun x => Wt.pure (.ret x))))
def v_is_whole (y : Int × Int × Int × Unit) : Wt Bool := Wt.fin none (Wt.nox (w_is_whole y))
theorem ok_is_whole {P : Program} {w : World} {K : PySem.W.Frag} {mg : Str → Option Value} {base : Heap} (T : Prg K mg) : FnOk P w K mg base (CX P w) 1 (He.fAd K ("is_whole", none)) T.fd_is_whole ["thing", "low", "high"] (spF K mg (aC yI (aC yI (aC yI aN))) (rkT yB) v_is_whole) := by
  have sc := sc_is_whole
  refine fn_body (Ar := (aC yI (aC yI (aC yI aN)))) T.F_is_whole sc rfl (show 3 ≤ 3 by decide) (fun _ h => nomatch h) (fun y cdv A outer s H E fr hr hp hmg hxe => ?_)
  have h : SX (cxOf (L2.CX P w) P w K mg base N_is_whole "is_whole" (defScope s_is_whole) (He.fAd K ("is_whole", none)) cdv A outer s H E) fr.nox [.sh yI y.1, .sh yI y.2.1, .sh yI y.2.2.1] (defBody s_is_whole) _ (rkT yB) (fun _ : Unit => un K 3) (fun _ : Unit => un K 3) _ := (s_if (Cm := fun (s1 : Unit) => [.sh yI y.1, .sh yI y.2.1, .sh yI y.2.2.1]) (t_w (w_or (t_not (t_val (x_isi (f := fun x => true) T.n_isinstance T.n_int rfl tyx_I (fun _ => rfl) (x_var (i := 0) rfl)))) (w_or1 (t_val (x_isi (f := fun x => false) T.n_isinstance T.n_bool rfl tyx_I (fun _ => rfl) (x_var (i := 0) rfl)))))) s_never (s_nil (s := ()) ⟨.inl rfl, .inl rfl, .inl rfl, True.intro⟩) (fun s1 => (s_if (Cm := fun (s2 : Unit) => [.sh yI y.1, .sh yI y.2.1, .sh yI y.2.2.1]) (t_w (w_and (t_cmp (c_notN noN_I (x_some (x_var (i := 1) rfl)))) (w_and1 (t_cmp (c_I op_lt (x_var (i := 0) rfl) (x_var (i := 1) rfl)))))) (s_ret x_bl) (s_nil (s := ()) ⟨.inl rfl, .inl rfl, .inl rfl, True.intro⟩) (fun s2 => (s_ret (x_or (x_cmp (c_isN noN_I (x_some (x_var (i := 2) rfl)))) (x_bo1 (x_cmp (c_I op_le (x_var (i := 0) rfl) (x_var (i := 2) rfl))))))) ())) ())
  exact ⟨_, sx_nox h⟩
def w_check_number (y : Int × Int × Int × Unit) : Wt (Oc Int Unit Unit) := (Wt.bind (Wt.bind (Wt.bind (Wt.bind (Wt.pure y.1) fun x => Wt.bind (Wt.bind (Wt.pure y.2.1) fun x => Wt.bind (Wt.bind (Wt.pure y.2.2.1) fun x => Wt.bind (Wt.pure ()) fun y => Wt.pure (x, y)) fun y => Wt.pure (x, y)) fun y => Wt.pure (x, y)) v_is_whole) fun x => Wt.pure (!x)) fun b6 => Wt.andThen (δ := Unit) (Wt.ite b6 Wt.never (Wt.pure (.nxt ()))) fun s5 => (Wt.bind (Wt.pure y.1) fun x => Wt.pure (.ret x)))
def v_check_number (y : Int × Int × Int × Unit) : Wt Int := Wt.fin none (Wt.nox (w_check_number y))
theorem ok_check_number {P : Program} {w : World} {K : PySem.W.Frag} {mg : Str → Option Value} {base : Heap} (T : Prg K mg) : FnOk P w K mg base (CX P w) 2 (He.fAd K ("check_number", none)) T.fd_check_number ["thing", "low", "high"] (spF K mg (aC yI (aC yI (aC yI aN))) (rkT yI) v_check_number) := by
  have sc := sc_check_number
  refine fn_body (Ar := (aC yI (aC yI (aC yI aN)))) T.F_check_number sc rfl (show 3 ≤ 3 by decide) (fun _ h => nomatch h) (fun y cdv A outer s H E fr hr hp hmg hxe => ?_)
  have h : SX (cxOf (L2.CX P w) P w K mg base N_check_number "check_number" (defScope s_check_number) (He.fAd K ("check_number", none)) cdv A outer s H E) fr.nox [.sh yI y.1, .sh yI y.2.1, .sh yI y.2.2.1] (defBody s_check_number) _ (rkT yI) (fun _ : Unit => un K 3) (fun _ : Unit => un K 3) _ := (s_if (Cm := fun (s5 : Unit) => [.sh yI y.1, .sh yI y.2.1, .sh yI y.2.2.1]) (t_not (t_val (x_call (ok_is_whole T) (hr.mono (by decide)) T.m_is_whole T.F_is_whole.kp (b_is_whole T) .nil passL hmg (a_cons (x_var (i := 0) rfl) (a_cons (x_var (i := 1) rfl) (a_cons (x_var (i := 2) rfl) a_nil)))))) s_never (s_nil (s := ()) ⟨.inl rfl, .inl rfl, .inl rfl, True.intro⟩) (fun s5 => (s_ret (x_var (i := 0) rfl))) ())
  exact ⟨_, sx_nox h⟩
def w_power_of (y : Int × Int × Unit) : Wt (Oc Int Unit Unit) := (Wt.bind (Wt.pure 1) fun total7 => (Wt.bind (Wt.bind (Wt.pure y.2.1) fun x => Wt.req (-(2 ^ 62) ≤ x ∧ x < 2 ^ 62) (Wt.pure (rng 0 x))) fun xs => Wt.andThen (δ := Int) (Wt.forW (fun x8 (s9 : Int) => (Wt.bind (Wt.bind (Wt.pure s9) fun x => Wt.bind (Wt.pure y.1) fun y => Wt.req (CMulW x y) (Wt.pure (x * y))) fun total10 => (Wt.pure (.nxt total10)))) xs total7) fun s9 => (Wt.bind (Wt.pure s9) fun x => Wt.pure (.ret x))))
def v_power_of (y : Int × Int × Unit) : Wt Int := Wt.fin none (Wt.nox (w_power_of y))
theorem ok_power_of {P : Program} {w : World} {K : PySem.W.Frag} {mg : Str → Option Value} {base : Heap} (T : Prg K mg) : FnOk P w K mg base (CX P w) 1 (He.fAd K ("power_of", none)) T.fd_power_of ["base", "exponent"] (spF K mg (aC yI (aC yI aN)) (rkT yI) v_power_of) := by
  have sc := sc_power_of
  refine fn_body (Ar := (aC yI (aC yI aN))) T.F_power_of sc rfl (show 2 ≤ 4 by decide) (fun _ h => nomatch h) (fun y cdv A outer s H E fr hr hp hmg hxe => ?_)
  have h : SX (cxOf (L2.CX P w) P w K mg base N_power_of "power_of" (defScope s_power_of) (He.fAd K ("power_of", none)) cdv A outer s H E) fr.nox [.sh yI y.1, .sh yI y.2.1, .un, .un] (defBody s_power_of) _ (rkT yI) (fun _ : Unit => un K 4) (fun _ : Unit => un K 4) _ := (s_set x_int (show 2 < 4 from by decide) (fun total7 => (s_for (Cs := fun (s9 : Int) => [.sh yI y.1, .sh yI y.2.1, .sh yI s9, .un]) (s0 := total7) (i_rng1 T.n_range (x_var (i := 1) rfl)) ⟨.inl rfl, .inl rfl, .inl rfl, .inl rfl, True.intro⟩ (fun s9 => ⟨(pg_name (i := 3) sc.nd rfl (by first | exact .inl rfl | exact .inr rfl)), (eg_name (t := yI) (i := 3) (show 3 < 4 from by decide) (by decide))⟩) (fun x8 s9 => (s_set (x_opIC op_mulW (x_var (i := 2) rfl) (x_var (i := 0) rfl)) (show 2 < 4 from by decide) (fun total10 => (s_nil (s := total10) ⟨.inl rfl, .inl rfl, .inl rfl, .inr rfl, True.intro⟩)) 0 (.inr (by decide)) sc.nd)) (fun s9 => (s_ret (x_var (i := 2) rfl))) 0 (passes_of rfl))) 0 (.inr (by decide)) sc.nd)
  exact ⟨_, sx_nox h⟩
def w_check_word (y : Int × (Bool × List Int) × Int × Unit) : Wt (Oc (List Int) Unit Unit) := (Wt.bind (Wt.bind (Wt.bind (Wt.bind (Wt.pure y.2.1) fun x => Wt.pure (true)) fun x => Wt.pure (!x)) fun x => Wt.ite x (Wt.pure true) (Wt.bind (Wt.bind (Wt.pure y.2.1) fun xs => Wt.pure (xs.2.length : Int)) fun x => Wt.bind (Wt.pure y.2.2.1) fun y => Wt.pure (decide (y < x)))) fun b16 => Wt.andThen (δ := Unit) (Wt.ite b16 Wt.never (Wt.pure (.nxt ()))) fun s11 => (Wt.bind (Wt.bind (Wt.pure y.2.1) fun xs => Wt.pure (enm xs.2)) fun xs => Wt.andThen (δ := Unit) (Wt.forW (fun x12 (s13 : Unit) => (Wt.bind (Wt.bind (Wt.bind (Wt.bind (Wt.pure x12.2) fun x => Wt.bind (Wt.bind (Wt.pure 0) fun x => Wt.bind (Wt.bind (Wt.bind (Wt.pure y.1) fun x => Wt.bind (Wt.pure 1) fun y => Wt.pure (x - y)) fun x => Wt.bind (Wt.pure ()) fun y => Wt.pure (x, y)) fun y => Wt.pure (x, y)) fun y => Wt.pure (x, y)) v_is_whole) fun x => Wt.pure (!x)) fun b15 => Wt.andThen (δ := Unit) (Wt.ite b15 Wt.never (Wt.pure (.nxt ()))) fun s14 => (Wt.pure (.nxt ())))) xs ()) fun s13 => (Wt.bind (Wt.bind (Wt.pure y.2.1) fun xs => Wt.pure xs.2) fun x => Wt.pure (.ret x))))
def v_check_word (y : Int × (Bool × List Int) × Int × Unit) : Wt (List Int) := Wt.fin none (Wt.nox (w_check_word y))
theorem ok_check_word {P : Program} {w : World} {K : PySem.W.Frag} {mg : Str → Option Value} {base : Heap} (T : Prg K mg) : FnOk P w K mg base (CX P w) 2 (He.fAd K ("check_word", none)) T.fd_check_word ["letters", "word", "most"] (spF K mg (aC yI (aC (yQ yI) (aC yI aN))) (rkT (yT yI)) v_check_word) := by
  have sc := sc_check_word
  refine fn_body (Ar := (aC yI (aC (yQ yI) (aC yI aN)))) T.F_check_word sc rfl (show 3 ≤ 5 by decide) (fun _ h => nomatch h) (fun y cdv A outer s H E fr hr hp hmg hxe => ?_)
  have h : SX (cxOf (L2.CX P w) P w K mg base N_check_word "check_word" (defScope s_check_word) (He.fAd K ("check_word", none)) cdv A outer s H E) fr.nox [.sh yI y.1, .sh (yQ yI) y.2.1, .sh yI y.2.2.1, .un, .un] (defBody s_check_word) _ (rkT (yT yI)) (fun _ : Unit => un K 5) (fun _ : Unit => un K 5) _ := (s_if (Cm := fun (s11 : Unit) => [.sh yI y.1, .sh (yQ yI) y.2.1, .sh yI y.2.2.1, .un, .un]) (t_w (w_or (t_not (t_val (x_isi2 (f := fun _ => true) T.n_isinstance T.n_list rfl T.n_tuple rfl tyx_Q (fun x => x.1) (fun x => !x.1) (fun x => by obtain ⟨b, _⟩ := x; cases b <;> rfl) (fun x => by obtain ⟨b, _⟩ := x; cases b <;> rfl) (fun x => by obtain ⟨b, _⟩ := x; cases b <;> rfl) (x_var (i := 1) rfl)))) (w_or1 (t_cmp (c_I op_gt (x_lenQ T.n_len (x_var (i := 1) rfl)) (x_var (i := 2) rfl)))))) s_never (s_nil (s := ()) ⟨.inl rfl, .inl rfl, .inl rfl, .inl rfl, .inl rfl, True.intro⟩) (fun s11 => (s_for (Cs := fun (s13 : Unit) => [.sh yI y.1, .sh (yQ yI) y.2.1, .sh yI y.2.2.1, .un, .un]) (s0 := ()) (i_enumQ T.n_enumerate (x_var (i := 1) rfl)) ⟨.inl rfl, .inl rfl, .inl rfl, .inl rfl, .inl rfl, True.intro⟩ (fun s13 => ⟨(pg_tup rfl (pgs_cons (pg_name (i := 3) sc.nd rfl (by first | exact .inl rfl | exact .inr rfl)) (pgs_cons (pg_name (i := 4) sc.nd rfl (by first | exact .inl rfl | exact .inr rfl)) pgs_nil))), (eg_pair (t := yI) (u := yI) (i := 3) (j := 4) (show 3 < 5 from by decide) (show 4 < 5 from by decide) (by decide) (by decide))⟩) (fun x12 s13 => (s_if (Cm := fun (s14 : Unit) => [.sh yI y.1, .sh (yQ yI) y.2.1, .sh yI y.2.2.1, .sh yI x12.1, .sh yI x12.2]) (t_not (t_val (x_call (ok_is_whole T) (hr.mono (by decide)) T.m_is_whole T.F_is_whole.kp (b_is_whole T) .nil passL hmg (a_cons (x_var (i := 4) rfl) (a_cons x_int (a_cons (x_opII op_sub (x_var (i := 0) rfl) x_int) a_nil)))))) s_never (s_nil (s := ()) ⟨.inl rfl, .inl rfl, .inl rfl, .inl rfl, .inl rfl, True.intro⟩) (fun s14 => (s_nil (s := ()) ⟨.inl rfl, .inl rfl, .inl rfl, .inr rfl, .inr rfl, True.intro⟩)) ())) (fun s13 => (s_ret (x_tupQ T.n_tuple (x_var (i := 1) rfl)))) (0, 0) (passes_of rfl))) ())
  exact ⟨_, sx_nox h⟩
def w_doubling_places (y : Int × Unit) : Wt (Oc (List Int) Unit Unit) := (Wt.bind (Wt.pure ([] : List Int)) fun places17 => (Wt.bind (Wt.pure 1) fun place18 => (Wt.andThen (δ := (List Int) × Int) (Wt.whileW (fun (s19 : (List Int) × Int) => (Wt.bind (Wt.pure s19.2) fun x => Wt.bind (Wt.pure y.1) fun y => Wt.pure (decide (x ≤ y)))) (fun s19 => (Wt.bind (Wt.pure s19.2) fun x20 => Wt.req ((s19.1).length < sizeLine) (Wt.bind (Wt.bind (Wt.pure s19.2) fun x => Wt.bind (Wt.pure 2) fun y => Wt.req (CMulW x y) (Wt.pure (x * y))) fun place21 => (Wt.pure (.nxt ((s19.1 ++ [x20]), place21)))))) (places17, place18)) fun s19 => (Wt.pure (.ret s19.1)))))
def v_doubling_places (y : Int × Unit) : Wt (List Int) := Wt.fin none (Wt.nox (w_doubling_places y))
theorem ok_doubling_places {P : Program} {w : World} {K : PySem.W.Frag} {mg : Str → Option Value} {base : Heap} (T : Prg K mg) : FnOk P w K mg base (CX P w) 1 (He.fAd K ("doubling_places", none)) T.fd_doubling_places ["length"] (spF K mg (aC yI aN) (rkM (mL yI)) v_doubling_places) := by
  have sc := sc_doubling_places
  refine fn_body (Ar := (aC yI aN)) T.F_doubling_places sc rfl (show 1 ≤ 3 by decide) (fun _ h => nomatch h) (fun y cdv A outer s H E fr hr hp hmg hxe => ?_)
  have h : SX (cxOf (L2.CX P w) P w K mg base N_doubling_places "doubling_places" (defScope s_doubling_places) (He.fAd K ("doubling_places", none)) cdv A outer s H E) fr.nox [.sh yI y.1, .un, .un] (defBody s_doubling_places) _ (rkM (mL yI)) (fun _ : Unit => un K 3) (fun _ : Unit => un K 3) _ := (s_setM (x_lst (t := yI) l_nil) (show 1 < 3 from by decide) (fun places17 => (s_set x_int (show 2 < 3 from by decide) (fun place18 => (s_while (Cs := fun (s19 : (List Int) × Int) => [.sh yI y.1, .mu (mL yI) s19.1, .sh yI s19.2]) (s0 := (places17, place18)) ⟨.inl rfl, .inl rfl, .inl rfl, True.intro⟩ (fun s19 => (t_cmp (c_I op_le (x_var (i := 2) rfl) (x_var (i := 0) rfl)))) (fun s19 => (s_app (i := 1) rfl (x_var (i := 2) rfl) (fun x20 => (s_set (x_opIC op_mulW (x_var (i := 2) rfl) x_int) (show 2 < 3 from by decide) (fun place21 => (s_nil (s := ((s19.1 ++ [x20]), place21)) ⟨.inl rfl, .inl rfl, .inl rfl, True.intro⟩)) 0 (.inr (by decide)) sc.nd)) 0)) (fun s19 => (s_retV (i := 1) rfl hp.1)) (passes_of rfl))) 0 (.inr (by decide)) sc.nd)) [] (.inr (by decide)) sc.nd)
  exact ⟨_, sx_nox h⟩
def w_free_places (y : Int × Bool × Unit) : Wt (Oc (List Int) Unit Unit) := (Wt.bind (Wt.bind (Wt.bind (Wt.pure y.1) fun x => Wt.bind (Wt.bind (Wt.pure 1) fun x => Wt.bind (Wt.bind (Wt.pure 200) fun x => Wt.bind (Wt.pure ()) fun y => Wt.pure (x, y)) fun y => Wt.pure (x, y)) fun y => Wt.pure (x, y)) v_check_number) fun _ => (Wt.bind (Wt.bind (Wt.bind (Wt.pure y.1) fun x => Wt.bind (Wt.pure ()) fun y => Wt.pure (x, y)) v_doubling_places) fun fixed22 => (Wt.bind (Wt.pure y.2.1) fun b26 => Wt.andThen (δ := (List Int)) (Wt.ite b26 (Wt.bind (Wt.bind (Wt.pure fixed22) fun x => Wt.bind (Wt.bind (Wt.pure y.1) fun x => Wt.bind (Wt.pure []) fun xs => Wt.pure (x :: xs)) fun y => Wt.req (x.length + y.length ≤ sizeLine) (Wt.pure (x ++ y))) fun fixed24 => (Wt.pure (.nxt fixed24))) (Wt.pure (.nxt fixed22))) fun s23 => (Wt.bind (Wt.bind (Wt.bind (Wt.bind (Wt.pure 1) fun x => Wt.bind (Wt.bind (Wt.pure y.1) fun x => Wt.bind (Wt.pure 1) fun y => Wt.pure (x + y)) fun y => Wt.req (-(2 ^ 62) ≤ x ∧ x < 2 ^ 62 ∧ -(2 ^ 62) ≤ y ∧ y < 2 ^ 62) (Wt.pure (rng x y))) fun xs => Wt.req (xs.length ≤ sizeLine) (Wt.nox (Wt.lc (lcTurn (fun x25 => (Wt.bind (Wt.pure x25) fun x => Wt.bind (Wt.pure s23) fun xs => Wt.pure (!decide (x ∈ xs)))) (fun x25 => (Wt.pure x25))) xs))) fun xs => Wt.pure xs) fun x => Wt.pure (.ret x)))))
def v_free_places (y : Int × Bool × Unit) : Wt (List Int) := Wt.fin none (Wt.nox (w_free_places y))
theorem ok_free_places {P : Program} {w : World} {K : PySem.W.Frag} {mg : Str → Option Value} {base : Heap} (T : Prg K mg) : FnOk P w K mg base (CX P w) 3 (He.fAd K ("free_places", none)) T.fd_free_places ["length", "wrong"] (spF K mg (aC yI (aC yB aN)) (rkT (yT yI)) v_free_places) := by
  have sc := sc_free_places
  refine fn_body (Ar := (aC yI (aC yB aN))) T.F_free_places sc rfl (show 2 ≤ 4 by decide) (fun _ h => nomatch h) (fun y cdv A outer s H E fr hr hp hmg hxe => ?_)
  have h : SX (cxOf (L2.CX P w) P w K mg base N_free_places "free_places" (defScope s_free_places) (He.fAd K ("free_places", none)) cdv A outer s H E) fr.nox [.sh yI y.1, .sh yB y.2.1, .un, .un] (defBody s_free_places) _ (rkT (yT yI)) (fun _ : Unit => un K 4) (fun _ : Unit => un K 4) _ := (s_drop (x_call (ok_check_number T) (hr.mono (by decide)) T.m_check_number T.F_check_number.kp (b_check_number T) .nil passL hmg (a_cons (x_var (i := 0) rfl) (a_cons x_int (a_cons (x_glob T.c_MOST_LENGTH_datas.choose_spec) a_nil)))) (fun _ => (s_setM (x_callM (ok_doubling_places T) (hr.mono (by decide)) T.m_doubling_places T.F_doubling_places.kp (b_doubling_places T) .nil passL hmg (a_cons (x_var (i := 0) rfl) a_nil)) (show 2 < 4 from by decide) (fun fixed22 => (s_if (Cm := fun (s23 : (List Int)) => [.sh yI y.1, .sh yB y.2.1, .mu (mL yI) s23, .un]) (t_val (x_var (i := 1) rfl)) (s_setM (x_catL (x_bor (i := 2) rfl) (x_bM (x_lst (l_cons (x_var (i := 0) rfl) l_nil)))) (show 2 < 4 from by decide) (fun fixed24 => (s_nil (s := fixed24) ⟨.inl rfl, .inl rfl, .inl rfl, .inl rfl, True.intro⟩)) [] (.inr (by decide)) sc.nd) (s_nil (s := fixed22) ⟨.inl rfl, .inl rfl, .inl rfl, .inl rfl, True.intro⟩) (fun s23 => (s_ret (x_tupB T.n_tuple (x_bM (x_lc (own := [("place", 3)]) (u := yI) sc.nd (i_rng2 T.n_range x_int (x_opII op_add (x_var (i := 0) rfl) x_int)) (blkOk_by rfl) ⟨fun _ _ _ _ _ => (pg_name (i := 3) sc.nd rfl (by first | exact .inl rfl | exact .inr rfl)), (eg_name (t := yI) (i := 3) (show 3 < 4 from by decide) (by decide))⟩ (fun x25 _ _ _ _ _ => pt_te (f_one (t_cmp (c_niB (x_var (i := 3) rfl) (x_bor (i := 2) rfl)))) (by first | (dsimp only [Cx.blk] <;> rfl) | rfl)) (fun x25 _ _ _ _ _ => ex_te (x_var (i := 3) rfl) (by first | (dsimp only [Cx.blk] <;> rfl) | rfl)) 0))))) ([]))) [] (.inr (by decide)) sc.nd)) 0)
  exact ⟨_, sx_nox h⟩
def w_check_bits (y : (Bool × List Int) × Int × Unit) : Wt (Oc (List Int) Unit Unit) := (Wt.bind (Wt.bind (Wt.bind (Wt.bind (Wt.pure y.1) fun x => Wt.pure (true)) fun x => Wt.pure (!x)) fun x => Wt.ite x (Wt.pure true) (Wt.bind (Wt.bind (Wt.pure y.1) fun xs => Wt.pure (xs.2.length : Int)) fun x => Wt.bind (Wt.pure y.2.1) fun y => Wt.pure (!decide (x = y)))) fun b32 => Wt.andThen (δ := Unit) (Wt.ite b32 Wt.never (Wt.pure (.nxt ()))) fun s27 => (Wt.bind (Wt.bind (Wt.pure y.1) fun xs => Wt.pure (enm xs.2)) fun xs => Wt.andThen (δ := Unit) (Wt.forW (fun x28 (s29 : Unit) => (Wt.bind (Wt.bind (Wt.bind (Wt.bind (Wt.pure x28.2) fun x => Wt.bind (Wt.bind (Wt.pure 0) fun x => Wt.bind (Wt.bind (Wt.pure 1) fun x => Wt.bind (Wt.pure ()) fun y => Wt.pure (x, y)) fun y => Wt.pure (x, y)) fun y => Wt.pure (x, y)) v_is_whole) fun x => Wt.pure (!x)) fun b31 => Wt.andThen (δ := Unit) (Wt.ite b31 Wt.never (Wt.pure (.nxt ()))) fun s30 => (Wt.pure (.nxt ())))) xs ()) fun s29 => (Wt.bind (Wt.bind (Wt.pure y.1) fun xs => Wt.pure xs.2) fun x => Wt.pure (.ret x))))
def v_check_bits (y : (Bool × List Int) × Int × Unit) : Wt (List Int) := Wt.fin none (Wt.nox (w_check_bits y))
theorem ok_check_bits {P : Program} {w : World} {K : PySem.W.Frag} {mg : Str → Option Value} {base : Heap} (T : Prg K mg) : FnOk P w K mg base (CX P w) 2 (He.fAd K ("check_bits", none)) T.fd_check_bits ["bits", "many"] (spF K mg (aC (yQ yI) (aC yI aN)) (rkT (yT yI)) v_check_bits) := by
  have sc := sc_check_bits
  refine fn_body (Ar := (aC (yQ yI) (aC yI aN))) T.F_check_bits sc rfl (show 2 ≤ 4 by decide) (fun _ h => nomatch h) (fun y cdv A outer s H E fr hr hp hmg hxe => ?_)
  have h : SX (cxOf (L2.CX P w) P w K mg base N_check_bits "check_bits" (defScope s_check_bits) (He.fAd K ("check_bits", none)) cdv A outer s H E) fr.nox [.sh (yQ yI) y.1, .sh yI y.2.1, .un, .un] (defBody s_check_bits) _ (rkT (yT yI)) (fun _ : Unit => un K 4) (fun _ : Unit => un K 4) _ := (s_if (Cm := fun (s27 : Unit) => [.sh (yQ yI) y.1, .sh yI y.2.1, .un, .un]) (t_w (w_or (t_not (t_val (x_isi2 (f := fun _ => true) T.n_isinstance T.n_list rfl T.n_tuple rfl tyx_Q (fun x => x.1) (fun x => !x.1) (fun x => by obtain ⟨b, _⟩ := x; cases b <;> rfl) (fun x => by obtain ⟨b, _⟩ := x; cases b <;> rfl) (fun x => by obtain ⟨b, _⟩ := x; cases b <;> rfl) (x_var (i := 0) rfl)))) (w_or1 (t_cmp (c_neI (x_lenQ T.n_len (x_var (i := 0) rfl)) (x_var (i := 1) rfl)))))) s_never (s_nil (s := ()) ⟨.inl rfl, .inl rfl, .inl rfl, .inl rfl, True.intro⟩) (fun s27 => (s_for (Cs := fun (s29 : Unit) => [.sh (yQ yI) y.1, .sh yI y.2.1, .un, .un]) (s0 := ()) (i_enumQ T.n_enumerate (x_var (i := 0) rfl)) ⟨.inl rfl, .inl rfl, .inl rfl, .inl rfl, True.intro⟩ (fun s29 => ⟨(pg_tup rfl (pgs_cons (pg_name (i := 2) sc.nd rfl (by first | exact .inl rfl | exact .inr rfl)) (pgs_cons (pg_name (i := 3) sc.nd rfl (by first | exact .inl rfl | exact .inr rfl)) pgs_nil))), (eg_pair (t := yI) (u := yI) (i := 2) (j := 3) (show 2 < 4 from by decide) (show 3 < 4 from by decide) (by decide) (by decide))⟩) (fun x28 s29 => (s_if (Cm := fun (s30 : Unit) => [.sh (yQ yI) y.1, .sh yI y.2.1, .sh yI x28.1, .sh yI x28.2]) (t_not (t_val (x_call (ok_is_whole T) (hr.mono (by decide)) T.m_is_whole T.F_is_whole.kp (b_is_whole T) .nil passL hmg (a_cons (x_var (i := 3) rfl) (a_cons x_int (a_cons x_int a_nil)))))) s_never (s_nil (s := ()) ⟨.inl rfl, .inl rfl, .inl rfl, .inl rfl, True.intro⟩) (fun s30 => (s_nil (s := ()) ⟨.inl rfl, .inl rfl, .inr rfl, .inr rfl, True.intro⟩)) ())) (fun s29 => (s_ret (x_tupQ T.n_tuple (x_var (i := 0) rfl)))) (0, 0) (passes_of rfl))) ())
  exact ⟨_, sx_nox h⟩
def w_data_word (y : Int × Int × (Bool × List Int) × Bool × Unit) : Wt (Oc (List Int) Unit Unit) := (Wt.bind (Wt.bind (Wt.bind (Wt.pure y.1) fun x => Wt.bind (Wt.pure ()) fun y => Wt.pure (x, y)) fun x => Wt.bind (Wt.pure y.2.2.2.1) fun y => v_free_places (x.1, y, ())) fun places33 => (Wt.bind (Wt.bind (Wt.pure y.2.2.2.1) fun x => Wt.ite x (Wt.bind (Wt.pure 2) fun x => Wt.bind (Wt.pure y.1) fun y => Wt.req (CMulW x y) (Wt.pure (x * y))) (Wt.bind (Wt.pure y.1) fun x => Wt.bind (Wt.pure 1) fun y => Wt.pure (x + y))) fun modulus34 => (Wt.bind (Wt.bind (Wt.bind (Wt.bind (Wt.pure y.2.1) fun x => Wt.bind (Wt.bind (Wt.pure 0) fun x => Wt.bind (Wt.bind (Wt.bind (Wt.pure modulus34) fun x => Wt.bind (Wt.pure 1) fun y => Wt.pure (x - y)) fun x => Wt.bind (Wt.pure ()) fun y => Wt.pure (x, y)) fun y => Wt.pure (x, y)) fun y => Wt.pure (x, y)) v_is_whole) fun x => Wt.pure (!x)) fun b51 => Wt.andThen (δ := Unit) (Wt.ite b51 Wt.never (Wt.pure (.nxt ()))) fun s35 => (Wt.bind (Wt.bind (Wt.bind (Wt.pure y.2.2.1) fun x => Wt.bind (Wt.bind (Wt.bind (Wt.pure places33) fun xs => Wt.pure (xs.length : Int)) fun x => Wt.bind (Wt.pure ()) fun y => Wt.pure (x, y)) fun y => Wt.pure (x, y)) v_check_bits) fun bits36 => (Wt.bind (Wt.bind (Wt.bind (Wt.pure 0) fun x => Wt.bind (Wt.pure []) fun xs => Wt.pure (x :: xs)) fun x => Wt.bind (Wt.pure y.1) fun y => Wt.req (-(2 ^ 63) ≤ y ∧ y < 2 ^ 63 ∧ x.length * y.toNat ≤ sizeLine) (Wt.pure (List.replicate y.toNat x).flatten)) fun word37 => (Wt.bind (Wt.bind (Wt.pure places33) fun xs => Wt.bind (Wt.pure bits36) fun ys => Wt.pure (xs.zip ys)) fun xs => Wt.andThen (δ := (List Int)) (Wt.forW (fun x38 (s39 : (List Int)) => (Wt.bind (Wt.pure x38.2) fun x => Wt.bind (Wt.bind (Wt.pure x38.1) fun x => Wt.bind (Wt.pure 1) fun y => Wt.pure (x - y)) fun j => Wt.bind (Wt.opt (ixN (s39).length j)) fun l => (fun word40 => (Wt.pure (.nxt word40))) ((s39).set l x))) xs word37) fun s39 => (Wt.bind (Wt.bind (Wt.bind (Wt.pure y.2.1) fun x => Wt.bind (Wt.bind (Wt.bind (Wt.bind (Wt.pure places33) fun xs => Wt.bind (Wt.pure bits36) fun ys => Wt.pure (xs.zip ys)) fun xs => Wt.req (xs.length ≤ sizeLine) (Wt.nox (Wt.lc (lcTurn (fun x41 => (Wt.pure true)) (fun x41 => (Wt.bind (Wt.pure x41.1) fun x => Wt.bind (Wt.pure x41.2) fun y => Wt.req (CMulW x y) (Wt.pure (x * y))))) xs))) fun xs => Wt.pure xs.sum) fun y => Wt.pure (x - y)) fun x => Wt.bind (Wt.pure modulus34) fun y => Wt.req (0 < y) (Wt.pure (x % y))) fun lacking42 => (Wt.bind (Wt.bind (Wt.bind (Wt.pure y.1) fun x => Wt.bind (Wt.pure ()) fun y => Wt.pure (x, y)) v_doubling_places) fun fixed43 => (Wt.bind (Wt.bind (Wt.pure lacking42) fun x => Wt.bind (Wt.bind (Wt.pure fixed43) fun xs => Wt.pure xs.sum) fun y => Wt.pure (decide (y < x))) fun b50 => Wt.andThen (δ := (List Int) × Int) (Wt.ite b50 (Wt.bind (Wt.pure 1) fun x => Wt.bind (Wt.bind (Wt.pure y.1) fun x => Wt.bind (Wt.pure 1) fun y => Wt.pure (x - y)) fun j => Wt.bind (Wt.opt (ixN (s39).length j)) fun l => (fun word45 => (Wt.bind (Wt.bind (Wt.pure lacking42) fun x => Wt.bind (Wt.pure y.1) fun y => Wt.pure (x - y)) fun lacking46 => (Wt.pure (.nxt (word45, lacking46))))) ((s39).set l x)) (Wt.pure (.nxt (s39, lacking42)))) fun s44 => (Wt.bind (Wt.pure fixed43) fun xs => Wt.andThen (δ := (List Int)) (Wt.forW (fun x47 (s48 : (List Int)) => (Wt.bind (Wt.bind (Wt.bind (Wt.pure s44.2) fun x => Wt.bind (Wt.pure x47) fun y => Wt.req (CDivW x y) (Wt.pure (x / y))) fun x => Wt.bind (Wt.pure 2) fun y => Wt.req (0 < y) (Wt.pure (x % y))) fun x => Wt.bind (Wt.bind (Wt.pure x47) fun x => Wt.bind (Wt.pure 1) fun y => Wt.pure (x - y)) fun j => Wt.bind (Wt.opt (ixN (s48).length j)) fun l => (fun word49 => (Wt.pure (.nxt word49))) ((s48).set l x))) xs s44.1) fun s48 => (Wt.bind (Wt.bind (Wt.pure s48) fun xs => Wt.pure xs) fun x => Wt.pure (.ret x))))))))))))
def v_data_word (y : Int × Int × (Bool × List Int) × Bool × Unit) : Wt (List Int) := Wt.fin none (Wt.nox (w_data_word y))
theorem ok_data_word {P : Program} {w : World} {K : PySem.W.Frag} {mg : Str → Option Value} {base : Heap} (T : Prg K mg) : FnOk P w K mg base (CX P w) 4 (He.fAd K ("data_word", none)) T.fd_data_word ["length", "rest", "bits", "wrong"] (spF K mg (aC yI (aC yI (aC (yQ yI) (aC yB aN)))) (rkT (yT yI)) v_data_word) := by
  have sc := sc_data_word
  refine fn_body (Ar := (aC yI (aC yI (aC (yQ yI) (aC yB aN))))) T.F_data_word sc rfl (show 4 ≤ 11 by decide) (fun _ h => nomatch h) (fun y cdv A outer s H E fr hr hp hmg hxe => ?_)
  have h : SX (cxOf (L2.CX P w) P w K mg base N_data_word "data_word" (defScope s_data_word) (He.fAd K ("data_word", none)) cdv A outer s H E) fr.nox [.sh yI y.1, .sh yI y.2.1, .sh (yQ yI) y.2.2.1, .sh yB y.2.2.2.1, .un, .un, .un, .un, .un, .un, .un] (defBody s_data_word) _ (rkT (yT yI)) (fun _ : Unit => un K 11) (fun _ : Unit => un K 11) _ := (s_set (x_callN (A1 := (aC yI aN)) (ok_free_places T) (hr.mono (by decide)) T.m_free_places T.F_free_places.kp (bk_free_places T) passL hmg aj1 (a_cons (x_var (i := 0) rfl) a_nil) (x_var (i := 3) rfl)) (show 4 < 11 from by decide) (fun places33 => (s_set (x_if (t_val (x_var (i := 3) rfl)) (x_opIC op_mulW x_int (x_var (i := 0) rfl)) (x_opII op_add (x_var (i := 0) rfl) x_int)) (show 5 < 11 from by decide) (fun modulus34 => (s_if (Cm := fun (s35 : Unit) => [.sh yI y.1, .sh yI y.2.1, .sh (yQ yI) y.2.2.1, .sh yB y.2.2.2.1, .sh (yT yI) places33, .sh yI modulus34, .un, .un, .un, .un, .un]) (t_not (t_val (x_call (ok_is_whole T) (hr.mono (by decide)) T.m_is_whole T.F_is_whole.kp (b_is_whole T) .nil passL hmg (a_cons (x_var (i := 1) rfl) (a_cons x_int (a_cons (x_opII op_sub (x_var (i := 5) rfl) x_int) a_nil)))))) s_never (s_nil (s := ()) ⟨.inl rfl, .inl rfl, .inl rfl, .inl rfl, .inl rfl, .inl rfl, .inl rfl, .inl rfl, .inl rfl, .inl rfl, .inl rfl, True.intro⟩) (fun s35 => (s_set (x_call (ok_check_bits T) (hr.mono (by decide)) T.m_check_bits T.F_check_bits.kp (b_check_bits T) .nil passL hmg (a_cons (x_var (i := 2) rfl) (a_cons (x_lenT T.n_len (x_var (i := 4) rfl)) a_nil))) (show 2 < 11 from by decide) (fun bits36 => (s_setM (x_repL (x_bM (x_lst (l_cons x_int l_nil))) (x_var (i := 0) rfl)) (show 6 < 11 from by decide) (fun word37 => (s_for (Cs := fun (s39 : (List Int)) => [.sh yI y.1, .sh yI y.2.1, .sh (yT yI) bits36, .sh yB y.2.2.2.1, .sh (yT yI) places33, .sh yI modulus34, .mu (mL yI) s39, .un, .un, .un, .un]) (s0 := word37) (i_zipT T.n_zip (x_var (i := 4) rfl) (x_var (i := 2) rfl)) ⟨.inl rfl, .inl rfl, .inl rfl, .inl rfl, .inl rfl, .inl rfl, .inl rfl, .inl rfl, .inl rfl, .inl rfl, .inl rfl, True.intro⟩ (fun s39 => ⟨(pg_tup rfl (pgs_cons (pg_name (i := 7) sc.nd rfl (by first | exact .inl rfl | exact .inr rfl)) (pgs_cons (pg_name (i := 8) sc.nd rfl (by first | exact .inl rfl | exact .inr rfl)) pgs_nil))), (eg_pair (t := yI) (u := yI) (i := 7) (j := 8) (show 7 < 11 from by decide) (show 8 < 11 from by decide) (by decide) (by decide))⟩) (fun x38 s39 => (s_setL (i := 6) rfl (x_var (i := 8) rfl) (x_opII op_sub (x_var (i := 7) rfl) x_int) (fun word40 => (s_nil (s := word40) ⟨.inl rfl, .inl rfl, .inl rfl, .inl rfl, .inl rfl, .inl rfl, .inl rfl, .inr rfl, .inr rfl, .inl rfl, .inl rfl, True.intro⟩)))) (fun s39 => (s_set (x_opIC op_mod (x_opII op_sub (x_var (i := 1) rfl) (x_sumB T.n_sum (x_bM (x_lc (own := [("place", 7), ("bit", 8)]) (u := yI) sc.nd (i_zipT T.n_zip (x_var (i := 4) rfl) (x_var (i := 2) rfl)) (blkOk_by rfl) ⟨fun _ _ _ _ _ => (pg_tup rfl (pgs_cons (pg_name (i := 7) sc.nd rfl (by first | exact .inl rfl | exact .inr rfl)) (pgs_cons (pg_name (i := 8) sc.nd rfl (by first | exact .inl rfl | exact .inr rfl)) pgs_nil))), (eg_pair (t := yI) (u := yI) (i := 7) (j := 8) (show 7 < 11 from by decide) (show 8 < 11 from by decide) (by decide) (by decide))⟩ (fun x41 _ _ _ _ _ => pt_te f_nil (by first | (dsimp only [Cx.blk] <;> rfl) | rfl)) (fun x41 _ _ _ _ _ => ex_te (x_opIC op_mulW (x_var (i := 7) rfl) (x_var (i := 8) rfl)) (by first | (dsimp only [Cx.blk] <;> rfl) | rfl)) (0, 0) (hu := by intro i hi; simp at hi; rcases hi with rfl | rfl <;> rfl))))) (x_var (i := 5) rfl)) (show 9 < 11 from by decide) (fun lacking42 => (s_setM (x_callM (ok_doubling_places T) (hr.mono (by decide)) T.m_doubling_places T.F_doubling_places.kp (b_doubling_places T) .nil passL hmg (a_cons (x_var (i := 0) rfl) a_nil)) (show 10 < 11 from by decide) (fun fixed43 => (s_if (Cm := fun (s44 : (List Int) × Int) => [.sh yI y.1, .sh yI y.2.1, .sh (yT yI) bits36, .sh yB y.2.2.2.1, .sh (yT yI) places33, .sh yI modulus34, .mu (mL yI) s44.1, .un, .un, .sh yI s44.2, .mu (mL yI) fixed43]) (t_cmp (c_I op_gt (x_var (i := 9) rfl) (x_sumB T.n_sum (x_bor (i := 10) rfl)))) (s_setL (i := 6) rfl x_int (x_opII op_sub (x_var (i := 0) rfl) x_int) (fun word45 => (s_set (x_opII op_sub (x_var (i := 9) rfl) (x_var (i := 0) rfl)) (show 9 < 11 from by decide) (fun lacking46 => (s_nil (s := (word45, lacking46)) ⟨.inl rfl, .inl rfl, .inl rfl, .inl rfl, .inl rfl, .inl rfl, .inl rfl, .inl rfl, .inl rfl, .inl rfl, .inl rfl, True.intro⟩)) 0 (.inr (by decide)) sc.nd))) (s_nil (s := (s39, lacking42)) ⟨.inl rfl, .inl rfl, .inl rfl, .inl rfl, .inl rfl, .inl rfl, .inl rfl, .inl rfl, .inl rfl, .inl rfl, .inl rfl, True.intro⟩) (fun s44 => (s_frz (i := 10) rfl (s_for (Cs := fun (s48 : (List Int)) => [.sh yI y.1, .sh yI y.2.1, .sh (yT yI) bits36, .sh yB y.2.2.2.1, .sh (yT yI) places33, .sh yI modulus34, .mu (mL yI) s48, .un, .un, .sh yI s44.2, .sh (yL yI) fixed43]) (s0 := s44.1) (i_L (x_var (i := 10) rfl)) ⟨.inl rfl, .inl rfl, .inl rfl, .inl rfl, .inl rfl, .inl rfl, .inl rfl, .inl rfl, .inl rfl, .inl rfl, .inl rfl, True.intro⟩ (fun s48 => ⟨(pg_name (i := 7) sc.nd rfl (by first | exact .inl rfl | exact .inr rfl)), (eg_name (t := yI) (i := 7) (show 7 < 11 from by decide) (by decide))⟩) (fun x47 s48 => (s_setL (i := 6) rfl (x_opIC op_mod (x_opIC op_fdivW (x_var (i := 9) rfl) (x_var (i := 7) rfl)) x_int) (x_opII op_sub (x_var (i := 7) rfl) x_int) (fun word49 => (s_nil (s := word49) ⟨.inl rfl, .inl rfl, .inl rfl, .inl rfl, .inl rfl, .inl rfl, .inl rfl, .inr rfl, .inl rfl, .inl rfl, .inl rfl, True.intro⟩)))) (fun s48 => (s_ret (x_tupB T.n_tuple (x_bor (i := 6) rfl)))) 0 (passes_of rfl)) (.inr (by decide)))) ([], 0))) [] (.inr (by decide)) sc.nd)) 0 (.inr (by decide)) sc.nd)) (0, 0) (passes_of rfl))) [] (.inr (by decide)) sc.nd)) [] (.inr (by decide)) sc.nd)) ())) 0 (.inr (by decide)) sc.nd)) [] (.inr (by decide)) sc.nd)
  exact ⟨_, sx_nox h⟩
def w_data_of (y : (Bool × List Int) × Bool × Unit) : Wt (Oc (List Int) Unit Unit) := (Wt.bind (Wt.bind (Wt.bind (Wt.pure 2) fun x => Wt.bind (Wt.bind (Wt.pure y.1) fun x => Wt.bind (Wt.bind (Wt.pure 200) fun x => Wt.bind (Wt.pure ()) fun y => Wt.pure (x, y)) fun y => Wt.pure (x, y)) fun y => Wt.pure (x, y)) v_check_word) fun word52 => (Wt.bind (Wt.bind (Wt.pure word52) fun x => Wt.bind (Wt.pure []) fun y => Wt.pure (PyData.eqv ((fun xs => PyData.tuple (xs.map PyData.int)) x) ((fun xs => PyData.tuple (xs.map PyData.int)) y))) fun b55 => Wt.andThen (δ := Unit) (Wt.ite b55 Wt.never (Wt.pure (.nxt ()))) fun s53 => (Wt.bind (Wt.bind (Wt.bind (Wt.bind (Wt.bind (Wt.bind (Wt.pure word52) fun xs => Wt.pure (xs.length : Int)) fun x => Wt.bind (Wt.pure ()) fun y => Wt.pure (x, y)) fun x => Wt.bind (Wt.pure y.2.1) fun y => v_free_places (x.1, y, ())) fun xs => Wt.req (xs.length ≤ sizeLine) (Wt.nox (Wt.lc (lcTurn (fun x54 => (Wt.pure true)) (fun x54 => (Wt.bind (Wt.pure word52) fun x => Wt.bind (Wt.bind (Wt.pure x54) fun x => Wt.bind (Wt.pure 1) fun y => Wt.pure (x - y)) fun y => Wt.opt (atI x y)))) xs))) fun xs => Wt.pure xs) fun x => Wt.pure (.ret x))))
def v_data_of (y : (Bool × List Int) × Bool × Unit) : Wt (List Int) := Wt.fin none (Wt.nox (w_data_of y))
theorem ok_data_of {P : Program} {w : World} {K : PySem.W.Frag} {mg : Str → Option Value} {base : Heap} (T : Prg K mg) : FnOk P w K mg base (CX P w) 4 (He.fAd K ("data_of", none)) T.fd_data_of ["word", "wrong"] (spF K mg (aC (yQ yI) (aC yB aN)) (rkT (yT yI)) v_data_of) := by
  have sc := sc_data_of
  refine fn_body (Ar := (aC (yQ yI) (aC yB aN))) T.F_data_of sc rfl (show 2 ≤ 3 by decide) (fun _ h => nomatch h) (fun y cdv A outer s H E fr hr hp hmg hxe => ?_)
  have h : SX (cxOf (L2.CX P w) P w K mg base N_data_of "data_of" (defScope s_data_of) (He.fAd K ("data_of", none)) cdv A outer s H E) fr.nox [.sh (yQ yI) y.1, .sh yB y.2.1, .un] (defBody s_data_of) _ (rkT (yT yI)) (fun _ : Unit => un K 3) (fun _ : Unit => un K 3) _ := (s_set (x_call (ok_check_word T) (hr.mono (by decide)) T.m_check_word T.F_check_word.kp (b_check_word T) .nil passL hmg (a_cons x_int (a_cons (x_var (i := 0) rfl) (a_cons (x_glob T.c_MOST_LENGTH_datas.choose_spec) a_nil)))) (show 0 < 3 from by decide) (fun word52 => (s_if (Cm := fun (s53 : Unit) => [.sh (yT yI) word52, .sh yB y.2.1, .un]) (t_cmp (c_eqD (datn_T datn_I).dat (datn_T datn_I).dat hr.units (x_var (i := 0) rfl) (x_tup (t := yI) l_nil))) s_never (s_nil (s := ()) ⟨.inl rfl, .inl rfl, .inl rfl, True.intro⟩) (fun s53 => (s_ret (x_tupB T.n_tuple (x_bM (x_lc (own := [("place", 2)]) (u := yI) sc.nd (i_T (x_callN (A1 := (aC yI aN)) (ok_free_places T) (hr.mono (by decide)) T.m_free_places T.F_free_places.kp (bk_free_places T) passL hmg aj1 (a_cons (x_lenT T.n_len (x_var (i := 0) rfl)) a_nil) (x_var (i := 1) rfl))) (blkOk_by rfl) ⟨fun _ _ _ _ _ => (pg_name (i := 2) sc.nd rfl (by first | exact .inl rfl | exact .inr rfl)), (eg_name (t := yI) (i := 2) (show 2 < 3 from by decide) (by decide))⟩ (fun x54 _ _ _ _ _ => pt_te f_nil (by first | (dsimp only [Cx.blk] <;> rfl) | rfl)) (fun x54 _ _ _ _ _ => ex_te (x_ixT (x_var (i := 0) rfl) (x_opII op_sub (x_var (i := 2) rfl) x_int)) (by first | (dsimp only [Cx.blk] <;> rfl) | rfl)) 0))))) ())) [] (.inl hp) sc.nd)
  exact ⟨_, sx_nox h⟩
def w_sum_places (y : (List Int) × Unit) : Wt (Oc Int Unit Unit) := (Wt.bind (Wt.pure 0) fun total56 => (Wt.bind (Wt.bind (Wt.pure y.1) fun xs => Wt.pure (enm xs)) fun xs => Wt.andThen (δ := Int) (Wt.forW (fun x57 (s58 : Int) => (Wt.bind (Wt.bind (Wt.pure s58) fun x => Wt.bind (Wt.bind (Wt.bind (Wt.pure x57.1) fun x => Wt.bind (Wt.pure 1) fun y => Wt.pure (x + y)) fun x => Wt.bind (Wt.pure x57.2) fun y => Wt.req (CMulW x y) (Wt.pure (x * y))) fun y => Wt.pure (x + y)) fun total59 => (Wt.pure (.nxt total59)))) xs total56) fun s58 => (Wt.bind (Wt.pure s58) fun x => Wt.pure (.ret x))))
def v_sum_places (y : (List Int) × Unit) : Wt Int := Wt.fin none (Wt.nox (w_sum_places y))
theorem ok_sum_places {P : Program} {w : World} {K : PySem.W.Frag} {mg : Str → Option Value} {base : Heap} (T : Prg K mg) : FnOk P w K mg base (CX P w) 1 (He.fAd K ("sum_places", none)) T.fd_sum_places ["word"] (spF K mg (aC (yT yI) aN) (rkT yI) v_sum_places) := by
  have sc := sc_sum_places
  refine fn_body (Ar := (aC (yT yI) aN)) T.F_sum_places sc rfl (show 1 ≤ 4 by decide) (fun _ h => nomatch h) (fun y cdv A outer s H E fr hr hp hmg hxe => ?_)
  have h : SX (cxOf (L2.CX P w) P w K mg base N_sum_places "sum_places" (defScope s_sum_places) (He.fAd K ("sum_places", none)) cdv A outer s H E) fr.nox [.sh (yT yI) y.1, .un, .un, .un] (defBody s_sum_places) _ (rkT yI) (fun _ : Unit => un K 4) (fun _ : Unit => un K 4) _ := (s_set x_int (show 1 < 4 from by decide) (fun total56 => (s_for (Cs := fun (s58 : Int) => [.sh (yT yI) y.1, .sh yI s58, .un, .un]) (s0 := total56) (i_enumT T.n_enumerate (x_var (i := 0) rfl)) ⟨.inl rfl, .inl rfl, .inl rfl, .inl rfl, True.intro⟩ (fun s58 => ⟨(pg_tup rfl (pgs_cons (pg_name (i := 2) sc.nd rfl (by first | exact .inl rfl | exact .inr rfl)) (pgs_cons (pg_name (i := 3) sc.nd rfl (by first | exact .inl rfl | exact .inr rfl)) pgs_nil))), (eg_pair (t := yI) (u := yI) (i := 2) (j := 3) (show 2 < 4 from by decide) (show 3 < 4 from by decide) (by decide) (by decide))⟩) (fun x57 s58 => (s_set (x_opII op_add (x_var (i := 1) rfl) (x_opIC op_mulW (x_opII op_add (x_var (i := 2) rfl) x_int) (x_var (i := 3) rfl))) (show 1 < 4 from by decide) (fun total59 => (s_nil (s := total59) ⟨.inl rfl, .inl rfl, .inr rfl, .inr rfl, True.intro⟩)) 0 (.inr (by decide)) sc.nd)) (fun s58 => (s_ret (x_var (i := 1) rfl))) (0, 0) (passes_of rfl))) 0 (.inr (by decide)) sc.nd)
  exact ⟨_, sx_nox h⟩
def w_place_sum (y : (List Int) × Unit) : Wt (Oc Int Unit Unit) := (Wt.bind (Wt.bind (Wt.bind (Wt.bind (Wt.bind (Wt.pure 2) fun x => Wt.bind (Wt.bind (Wt.bind (Wt.pure y.1) fun x => Wt.pure (false, x)) fun x => Wt.bind (Wt.bind (Wt.bind (Wt.pure 200) fun x => Wt.bind (Wt.pure 1) fun y => Wt.pure (x + y)) fun x => Wt.bind (Wt.pure ()) fun y => Wt.pure (x, y)) fun y => Wt.pure (x, y)) fun y => Wt.pure (x, y)) v_check_word) fun x => Wt.bind (Wt.pure ()) fun y => Wt.pure (x, y)) v_sum_places) fun x => Wt.pure (.ret x))
def v_place_sum (y : (List Int) × Unit) : Wt Int := Wt.fin none (Wt.nox (w_place_sum y))
theorem ok_place_sum {P : Program} {w : World} {K : PySem.W.Frag} {mg : Str → Option Value} {base : Heap} (T : Prg K mg) : FnOk P w K mg base (CX P w) 3 (He.fAd K ("place_sum", none)) T.fd_place_sum ["word"] (spF K mg (aC (yT yI) aN) (rkT yI) v_place_sum) := by
  have sc := sc_place_sum
  refine fn_body (Ar := (aC (yT yI) aN)) T.F_place_sum sc rfl (show 1 ≤ 1 by decide) (fun _ h => nomatch h) (fun y cdv A outer s H E fr hr hp hmg hxe => ?_)
  have h : SX (cxOf (L2.CX P w) P w K mg base N_place_sum "place_sum" (defScope s_place_sum) (He.fAd K ("place_sum", none)) cdv A outer s H E) fr.nox [.sh (yT yI) y.1] (defBody s_place_sum) _ (rkT yI) (fun _ : Unit => un K 1) (fun _ : Unit => un K 1) _ := (s_ret (x_call (ok_sum_places T) (hr.mono (by decide)) T.m_sum_places T.F_sum_places.kp (b_sum_places T) .nil passL hmg (a_cons (x_call (ok_check_word T) (hr.mono (by decide)) T.m_check_word T.F_check_word.kp (b_check_word T) .nil passL hmg (a_cons x_int (a_cons (x_qT (x_var (i := 0) rfl)) (a_cons (x_opII op_add (x_glob T.c_MOST_LENGTH_sums.choose_spec) x_int) a_nil)))) a_nil)))
  exact ⟨_, sx_nox h⟩
def w_check_modulus (y : Int × Int × Unit) : Wt (Oc Unit Unit Unit) := (Wt.bind (Wt.bind (Wt.bind (Wt.bind (Wt.pure y.1) fun x => Wt.bind (Wt.bind (Wt.pure y.2.1) fun x => Wt.bind (Wt.bind (Wt.pure 1000000) fun x => Wt.bind (Wt.pure ()) fun y => Wt.pure (x, y)) fun y => Wt.pure (x, y)) fun y => Wt.pure (x, y)) v_is_whole) fun x => Wt.pure (!x)) fun b61 => Wt.andThen (δ := Unit) (Wt.ite b61 Wt.never (Wt.pure (.nxt ()))) fun s60 => (Wt.pure (.nxt ())))
def v_check_modulus (y : Int × Int × Unit) : Wt Unit := Wt.fin (some ()) (Wt.nox (w_check_modulus y))
theorem ok_check_modulus {P : Program} {w : World} {K : PySem.W.Frag} {mg : Str → Option Value} {base : Heap} (T : Prg K mg) : FnOk P w K mg base (CX P w) 2 (He.fAd K ("check_modulus", none)) T.fd_check_modulus ["modulus", "low"] (spF K mg (aC yI (aC yI aN)) (rkT yN) v_check_modulus) := by
  have sc := sc_check_modulus
  refine fn_body (Ar := (aC yI (aC yI aN))) T.F_check_modulus sc rfl (show 2 ≤ 2 by decide) (fun _ _ _ _ _ => rfl) (fun y cdv A outer s H E fr hr hp hmg hxe => ?_)
  have h : SX (cxOf (L2.CX P w) P w K mg base N_check_modulus "check_modulus" (defScope s_check_modulus) (He.fAd K ("check_modulus", none)) cdv A outer s H E) fr.nox [.sh yI y.1, .sh yI y.2.1] (defBody s_check_modulus) _ (rkT yN) (fun _ : Unit => un K 2) (fun _ : Unit => un K 2) _ := (s_if (Cm := fun (s60 : Unit) => [.sh yI y.1, .sh yI y.2.1]) (t_not (t_val (x_call (ok_is_whole T) (hr.mono (by decide)) T.m_is_whole T.F_is_whole.kp (b_is_whole T) .nil passL hmg (a_cons (x_var (i := 0) rfl) (a_cons (x_var (i := 1) rfl) (a_cons (x_glob T.c_MOST_MODULUS.choose_spec) a_nil)))))) s_never (s_nil (s := ()) ⟨.inl rfl, .inl rfl, True.intro⟩) (fun s60 => (s_nil (s := ()) ⟨.inr rfl, .inr rfl, True.intro⟩ (.inr hp.1))) ())
  exact ⟨_, sx_nox h⟩
def w_check_rest (y : Int × Int × Unit) : Wt (Oc Unit Unit Unit) := (Wt.bind (Wt.bind (Wt.bind (Wt.bind (Wt.pure y.1) fun x => Wt.bind (Wt.bind (Wt.pure 0) fun x => Wt.bind (Wt.bind (Wt.bind (Wt.pure y.2.1) fun x => Wt.bind (Wt.pure 1) fun y => Wt.pure (x - y)) fun x => Wt.bind (Wt.pure ()) fun y => Wt.pure (x, y)) fun y => Wt.pure (x, y)) fun y => Wt.pure (x, y)) v_is_whole) fun x => Wt.pure (!x)) fun b63 => Wt.andThen (δ := Unit) (Wt.ite b63 Wt.never (Wt.pure (.nxt ()))) fun s62 => (Wt.pure (.nxt ())))
def v_check_rest (y : Int × Int × Unit) : Wt Unit := Wt.fin (some ()) (Wt.nox (w_check_rest y))
theorem ok_check_rest {P : Program} {w : World} {K : PySem.W.Frag} {mg : Str → Option Value} {base : Heap} (T : Prg K mg) : FnOk P w K mg base (CX P w) 2 (He.fAd K ("check_rest", none)) T.fd_check_rest ["rest", "modulus"] (spF K mg (aC yI (aC yI aN)) (rkT yN) v_check_rest) := by
  have sc := sc_check_rest
  refine fn_body (Ar := (aC yI (aC yI aN))) T.F_check_rest sc rfl (show 2 ≤ 2 by decide) (fun _ _ _ _ _ => rfl) (fun y cdv A outer s H E fr hr hp hmg hxe => ?_)
  have h : SX (cxOf (L2.CX P w) P w K mg base N_check_rest "check_rest" (defScope s_check_rest) (He.fAd K ("check_rest", none)) cdv A outer s H E) fr.nox [.sh yI y.1, .sh yI y.2.1] (defBody s_check_rest) _ (rkT yN) (fun _ : Unit => un K 2) (fun _ : Unit => un K 2) _ := (s_if (Cm := fun (s62 : Unit) => [.sh yI y.1, .sh yI y.2.1]) (t_not (t_val (x_call (ok_is_whole T) (hr.mono (by decide)) T.m_is_whole T.F_is_whole.kp (b_is_whole T) .nil passL hmg (a_cons (x_var (i := 0) rfl) (a_cons x_int (a_cons (x_opII op_sub (x_var (i := 1) rfl) x_int) a_nil)))))) s_never (s_nil (s := ()) ⟨.inl rfl, .inl rfl, True.intro⟩) (fun s62 => (s_nil (s := ()) ⟨.inr rfl, .inr rfl, True.intro⟩ (.inr hp.1))) ())
  exact ⟨_, sx_nox h⟩
def w_SumBook_init (y : Int × Int × Int × Unit) : Wt (Oc Unit vi_SumBook Unit) := (Wt.bind (Wt.bind (Wt.bind (Wt.pure y.1) fun x => Wt.bind (Wt.bind (Wt.pure 0) fun x => Wt.bind (Wt.bind (Wt.pure 200) fun x => Wt.bind (Wt.pure ()) fun y => Wt.pure (x, y)) fun y => Wt.pure (x, y)) fun y => Wt.pure (x, y)) v_check_number) fun _ => (Wt.bind (Wt.bind (Wt.bind (Wt.pure y.2.1) fun x => Wt.bind (Wt.bind (Wt.bind (Wt.pure y.1) fun x => Wt.bind (Wt.pure 1) fun y => Wt.pure (x + y)) fun x => Wt.bind (Wt.pure ()) fun y => Wt.pure (x, y)) fun y => Wt.pure (x, y)) v_check_modulus) fun _ => (Wt.bind (Wt.bind (Wt.bind (Wt.pure y.2.2.1) fun x => Wt.bind (Wt.bind (Wt.pure y.2.1) fun x => Wt.bind (Wt.pure ()) fun y => Wt.pure (x, y)) fun y => Wt.pure (x, y)) v_check_rest) fun _ => (Wt.bind (Wt.pure y.1) fun length64 => (Wt.bind (Wt.pure y.2.1) fun modulus65 => (Wt.bind (Wt.pure y.2.2.1) fun rest66 => (Wt.pure (.nxt (length64, modulus65, rest66)))))))))
def v_SumBook_init (y : Int × Int × Int × Unit) : Wt vi_SumBook := Wt.finI (Wt.nox (w_SumBook_init y))
theorem ok_SumBook_init {P : Program} {w : World} {K : PySem.W.Frag} {mg : Str → Option Value} {base : Heap} (T : Prg K mg) : FnOk P w K mg base (CX P w) 3 (He.fAd K ("SumBook", some "__init__")) T.fd_SumBook_init ["self", "length", "modulus", "rest"] (spI K mg (cad_SumBook K) (aC yI (aC yI (aC yI aN))) (fl_SumBook K) v_SumBook_init) := by
  have sc := sc_SumBook_init
  refine fn_init (Ar := (aC yI (aC yI (aC yI aN)))) T.F_SumBook_init sc rfl (show 4 ≤ 4 by decide) (fun y cdv A outer s H E fr hr hpn hmg hxe => ?_)
  have h : SX (cxOf (L2.CX P w) P w K mg base N_SumBook_init "SumBook.__init__" (defScope s_SumBook_init) (He.fAd K ("SumBook", some "__init__")) cdv A outer s H E) fr.nox [.mu (mIns K (cad_SumBook K)) [], .sh yI y.1, .sh yI y.2.1, .sh yI y.2.2.1] (defBody s_SumBook_init) _ (rkT yN) (fun z : vi_SumBook => .mu (mIns K (cad_SumBook K)) (fl_SumBook K z) :: un K 3) (fun _ : Unit => un K 4) _ := (s_drop (x_call (ok_check_number T) (hr.mono (by decide)) T.m_check_number T.F_check_number.kp (b_check_number T) .nil passL hmg (a_cons (x_var (i := 1) rfl) (a_cons x_int (a_cons (x_glob T.c_MOST_LENGTH_sums.choose_spec) a_nil)))) (fun _ => (s_drop (x_call (ok_check_modulus T) (hr.mono (by decide)) T.m_check_modulus T.F_check_modulus.kp (b_check_modulus T) .nil passL hmg (a_cons (x_var (i := 2) rfl) (a_cons (x_opII op_add (x_var (i := 1) rfl) x_int) a_nil))) (fun _ => (s_drop (x_call (ok_check_rest T) (hr.mono (by decide)) T.m_check_rest T.F_check_rest.kp (b_check_rest T) .nil passL hmg (a_cons (x_var (i := 3) rfl) (a_cons (x_var (i := 2) rfl) a_nil))) (fun _ => (s_fld (i := 0) T.k_SumBook T.a_SumBook_length rfl (x_var (i := 1) rfl) (fun length64 => (s_fld (i := 0) T.k_SumBook T.a_SumBook_modulus rfl (x_var (i := 2) rfl) (fun modulus65 => (s_fld (i := 0) T.k_SumBook T.a_SumBook_rest rfl (x_var (i := 3) rfl) (fun rest66 => (s_nil (s := (length64, modulus65, rest66)) ⟨.inl rfl, .inr rfl, .inr rfl, .inr rfl, True.intro⟩)) 0 (hl := (by simp only [List.length_append, List.length_cons, List.length_nil] <;> decide)))) 0 (hl := (by simp only [List.length_append, List.length_cons, List.length_nil] <;> decide)))) 0 (hl := (by simp only [List.length_append, List.length_cons, List.length_nil] <;> decide)))) ())) ())) 0)
  exact ⟨_, sx_nox h⟩
def w_SumBook_has (y : (vi_SumBook) × (List Int) × Unit) : Wt (Oc Bool Unit Unit) := (Wt.bind (Wt.bind (Wt.bind (Wt.pure 2) fun x => Wt.bind (Wt.bind (Wt.bind (Wt.pure y.2.1) fun x => Wt.pure (false, x)) fun x => Wt.bind (Wt.bind (Wt.pure 200) fun x => Wt.bind (Wt.pure ()) fun y => Wt.pure (x, y)) fun y => Wt.pure (x, y)) fun y => Wt.pure (x, y)) v_check_word) fun word67 => (Wt.bind (Wt.bind (Wt.bind (Wt.bind (Wt.pure word67) fun xs => Wt.pure (xs.length : Int)) fun x => Wt.bind (Wt.bind (Wt.pure y.1) fun x => Wt.pure x.1) fun y => Wt.pure (decide (x = y))) fun x => Wt.ite x (Wt.bind (Wt.bind (Wt.bind (Wt.bind (Wt.pure word67) fun x => Wt.bind (Wt.pure ()) fun y => Wt.pure (x, y)) v_sum_places) fun x => Wt.bind (Wt.bind (Wt.pure y.1) fun x => Wt.pure x.2.1) fun y => Wt.req (0 < y) (Wt.pure (x % y))) fun x => Wt.bind (Wt.bind (Wt.pure y.1) fun x => Wt.pure x.2.2) fun y => Wt.pure (decide (x = y))) (Wt.pure false)) fun x => Wt.pure (.ret x)))
def v_SumBook_has (y : (vi_SumBook) × (List Int) × Unit) : Wt Bool := Wt.fin none (Wt.nox (w_SumBook_has y))
theorem ok_SumBook_has {P : Program} {w : World} {K : PySem.W.Frag} {mg : Str → Option Value} {base : Heap} (T : Prg K mg) : FnOk P w K mg base (CX P w) 3 (He.fAd K ("SumBook", some "has")) T.fd_SumBook_has ["self", "word"] (spF K mg (aC (yi_SumBook K) (aC (yT yI) aN)) (rkT yB) v_SumBook_has) := by
  have sc := sc_SumBook_has
  refine fn_body (Ar := (aC (yi_SumBook K) (aC (yT yI) aN))) T.F_SumBook_has sc rfl (show 2 ≤ 2 by decide) (fun _ h => nomatch h) (fun y cdv A outer s H E fr hr hp hmg hxe => ?_)
  have h : SX (cxOf (L2.CX P w) P w K mg base N_SumBook_has "SumBook.has" (defScope s_SumBook_has) (He.fAd K ("SumBook", some "has")) cdv A outer s H E) fr.nox [.sh (yi_SumBook K) y.1, .sh (yT yI) y.2.1] (defBody s_SumBook_has) _ (rkT yB) (fun _ : Unit => un K 2) (fun _ : Unit => un K 2) _ := (s_set (x_call (ok_check_word T) (hr.mono (by decide)) T.m_check_word T.F_check_word.kp (b_check_word T) .nil passL hmg (a_cons x_int (a_cons (x_qT (x_var (i := 1) rfl)) (a_cons (x_glob T.c_MOST_LENGTH_sums.choose_spec) a_nil)))) (show 1 < 2 from by decide) (fun word67 => (s_ret (x_and (x_cmp (c_eqI (x_lenT T.n_len (x_var (i := 1) rfl)) (x_fld (g := fun (x : vi_SumBook) => x.1) (hm := fm_SumBook K) (T.k_SumBook) T.a_SumBook_length (fun _ => rfl) (x_var (i := 0) rfl)))) (x_bo1 (x_cmp (c_eqI (x_opIC op_mod (x_call (ok_sum_places T) (hr.mono (by decide)) T.m_sum_places T.F_sum_places.kp (b_sum_places T) .nil passL hmg (a_cons (x_var (i := 1) rfl) a_nil)) (x_fld (g := fun (x : vi_SumBook) => x.2.1) (hm := fm_SumBook K) (T.k_SumBook) T.a_SumBook_modulus (fun _ => rfl) (x_var (i := 0) rfl))) (x_fld (g := fun (x : vi_SumBook) => x.2.2) (hm := fm_SumBook K) (T.k_SumBook) T.a_SumBook_rest (fun _ => rfl) (x_var (i := 0) rfl)))))))) [] (.inr (by decide)) sc.nd)
  exact ⟨_, sx_nox h⟩
def w_divisors_of (y : Int × Unit) : Wt (Oc (List Int) Unit Unit) := (Wt.bind (Wt.bind (Wt.bind (Wt.pure y.1) fun x => Wt.bind (Wt.bind (Wt.pure 1) fun x => Wt.bind (Wt.bind (Wt.pure 2000) fun x => Wt.bind (Wt.pure ()) fun y => Wt.pure (x, y)) fun y => Wt.pure (x, y)) fun y => Wt.pure (x, y)) v_check_number) fun _ => (Wt.bind (Wt.pure ([] : List Int)) fun low68 => Wt.bind (Wt.pure ([] : List Int)) fun high69 => (Wt.bind (Wt.pure 1) fun k70 => (Wt.andThen (δ := (List Int) × (List Int) × Int) (Wt.whileW (fun (s71 : (List Int) × (List Int) × Int) => (Wt.bind (Wt.bind (Wt.pure s71.2.2) fun x => Wt.bind (Wt.pure s71.2.2) fun y => Wt.req (CMulW x y) (Wt.pure (x * y))) fun x => Wt.bind (Wt.pure y.1) fun y => Wt.pure (decide (x ≤ y)))) (fun s71 => (Wt.bind (Wt.bind (Wt.bind (Wt.pure y.1) fun x => Wt.bind (Wt.pure s71.2.2) fun y => Wt.req (0 < y) (Wt.pure (x % y))) fun x => Wt.bind (Wt.pure 0) fun y => Wt.pure (decide (x = y))) fun b78 => Wt.andThen (δ := (List Int) × (List Int)) (Wt.ite b78 (Wt.bind (Wt.pure s71.2.2) fun x73 => Wt.req ((s71.1).length < sizeLine) (Wt.bind (Wt.bind (Wt.bind (Wt.pure s71.2.2) fun x => Wt.bind (Wt.pure s71.2.2) fun y => Wt.req (CMulW x y) (Wt.pure (x * y))) fun x => Wt.bind (Wt.pure y.1) fun y => Wt.pure (decide (x < y))) fun b76 => Wt.andThen (δ := (List Int)) (Wt.ite b76 (Wt.bind (Wt.bind (Wt.pure y.1) fun x => Wt.bind (Wt.pure s71.2.2) fun y => Wt.req (CDivW x y) (Wt.pure (x / y))) fun x75 => Wt.req ((s71.2.1).length < sizeLine) (Wt.pure (.nxt (s71.2.1 ++ [x75])))) (Wt.pure (.nxt s71.2.1))) fun s74 => (Wt.pure (.nxt ((s71.1 ++ [x73]), s74))))) (Wt.pure (.nxt (s71.1, s71.2.1)))) fun s72 => (Wt.bind (Wt.pure 1) fun y => (fun k77 => (Wt.pure (.nxt (s72.1, s72.2, k77)))) (s71.2.2 + y)))) (low68, high69, k70)) fun s71 => (Wt.bind (Wt.bind (Wt.bind (Wt.pure s71.1) fun x => Wt.bind (Wt.bind (Wt.pure s71.2.1) fun xs => Wt.pure xs.reverse) fun y => Wt.req (x.length + y.length ≤ sizeLine) (Wt.pure (x ++ y))) fun xs => Wt.pure xs) fun x => Wt.pure (.ret x))))))
def v_divisors_of (y : Int × Unit) : Wt (List Int) := Wt.fin none (Wt.nox (w_divisors_of y))
theorem ok_divisors_of {P : Program} {w : World} {K : PySem.W.Frag} {mg : Str → Option Value} {base : Heap} (T : Prg K mg) : FnOk P w K mg base (CX P w) 3 (He.fAd K ("divisors_of", none)) T.fd_divisors_of ["number"] (spF K mg (aC yI aN) (rkT (yT yI)) v_divisors_of) := by
  have sc := sc_divisors_of
  refine fn_body (Ar := (aC yI aN)) T.F_divisors_of sc rfl (show 1 ≤ 4 by decide) (fun _ h => nomatch h) (fun y cdv A outer s H E fr hr hp hmg hxe => ?_)
  have h : SX (cxOf (L2.CX P w) P w K mg base N_divisors_of "divisors_of" (defScope s_divisors_of) (He.fAd K ("divisors_of", none)) cdv A outer s H E) fr.nox [.sh yI y.1, .un, .un, .un] (defBody s_divisors_of) _ (rkT (yT yI)) (fun _ : Unit => un K 4) (fun _ : Unit => un K 4) _ := (s_drop (x_call (ok_check_number T) (hr.mono (by decide)) T.m_check_number T.F_check_number.kp (b_check_number T) .nil passL hmg (a_cons (x_var (i := 0) rfl) (a_cons x_int (a_cons (x_glob T.c_MOST_DIVIDED.choose_spec) a_nil)))) (fun _ => (s_parM (x_lst (t := yI) l_nil) (x_lst (t := yI) l_nil) (show 1 < 4 from by decide) (show 2 < 4 from by decide) (.inr ⟨by decide, by decide⟩) (fun low68 high69 => (s_set x_int (show 3 < 4 from by decide) (fun k70 => (s_while (Cs := fun (s71 : (List Int) × (List Int) × Int) => [.sh yI y.1, .mu (mL yI) s71.1, .mu (mL yI) s71.2.1, .sh yI s71.2.2]) (s0 := (low68, high69, k70)) ⟨.inl rfl, .inl rfl, .inl rfl, .inl rfl, True.intro⟩ (fun s71 => (t_cmp (c_I op_le (x_opIC op_mulW (x_var (i := 3) rfl) (x_var (i := 3) rfl)) (x_var (i := 0) rfl)))) (fun s71 => (s_if (Cm := fun (s72 : (List Int) × (List Int)) => [.sh yI y.1, .mu (mL yI) s72.1, .mu (mL yI) s72.2, .sh yI s71.2.2]) (t_cmp (c_eqI (x_opIC op_mod (x_var (i := 0) rfl) (x_var (i := 3) rfl)) x_int)) (s_app (i := 1) rfl (x_var (i := 3) rfl) (fun x73 => (s_if (Cm := fun (s74 : (List Int)) => [.sh yI y.1, .mu (mL yI) (s71.1 ++ [x73]), .mu (mL yI) s74, .sh yI s71.2.2]) (t_cmp (c_I op_lt (x_opIC op_mulW (x_var (i := 3) rfl) (x_var (i := 3) rfl)) (x_var (i := 0) rfl))) (s_app (i := 2) rfl (x_opIC op_fdivW (x_var (i := 0) rfl) (x_var (i := 3) rfl)) (fun x75 => (s_nil (s := (s71.2.1 ++ [x75])) ⟨.inl rfl, .inl rfl, .inl rfl, .inl rfl, True.intro⟩)) 0) (s_nil (s := s71.2.1) ⟨.inl rfl, .inl rfl, .inl rfl, .inl rfl, True.intro⟩) (fun s74 => (s_nil (s := ((s71.1 ++ [x73]), s74)) ⟨.inl rfl, .inl rfl, .inl rfl, .inl rfl, True.intro⟩)) ([]))) 0) (s_nil (s := (s71.1, s71.2.1)) ⟨.inl rfl, .inl rfl, .inl rfl, .inl rfl, True.intro⟩) (fun s72 => (s_aug (i := 3) ip_add rfl x_int (fun k77 => (s_nil (s := (s72.1, s72.2, k77)) ⟨.inl rfl, .inl rfl, .inl rfl, .inl rfl, True.intro⟩)) (.inr (by decide)) sc.nd)) ([], []))) (fun s71 => (s_ret (x_tupB T.n_tuple (x_bM (x_catL (x_bor (i := 1) rfl) (x_bM (x_revB (p4 := ⟨0, 0, 0, 0⟩) (x_bor (i := 2) rfl)))))))) (passes_of rfl))) 0 (.inr (by decide)) sc.nd)) [] [] sc.nd)) 0)
  exact ⟨_, sx_nox h⟩
def w_prime_powers (y : Int × Unit) : Wt (Oc (List (Int × Int)) Unit Unit) := (Wt.bind (Wt.pure ([] : List (Int × Int))) fun rows79 => (Wt.bind (Wt.pure y.1) fun left80 => (Wt.bind (Wt.pure 2) fun k81 => (Wt.andThen (δ := (List (Int × Int)) × Int × Int) (Wt.whileW (fun (s82 : (List (Int × Int)) × Int × Int) => (Wt.bind (Wt.bind (Wt.pure s82.2.2) fun x => Wt.bind (Wt.pure s82.2.2) fun y => Wt.req (CMulW x y) (Wt.pure (x * y))) fun x => Wt.bind (Wt.pure s82.2.1) fun y => Wt.pure (decide (x ≤ y)))) (fun s82 => (Wt.bind (Wt.pure 0) fun many83 => (Wt.andThen (δ := Int × Int) (Wt.whileW (fun (s84 : Int × Int) => (Wt.bind (Wt.bind (Wt.pure s84.1) fun x => Wt.bind (Wt.pure s82.2.2) fun y => Wt.req (0 < y) (Wt.pure (x % y))) fun x => Wt.bind (Wt.pure 0) fun y => Wt.pure (decide (x = y)))) (fun s84 => (Wt.bind (Wt.bind (Wt.pure s84.1) fun x => Wt.bind (Wt.pure s82.2.2) fun y => Wt.req (CDivW x y) (Wt.pure (x / y))) fun left85 => (Wt.bind (Wt.pure 1) fun y => (fun many86 => (Wt.pure (.nxt (left85, many86)))) (s84.2 + y)))) (s82.2.1, many83)) fun s84 => (Wt.bind (Wt.bind (Wt.pure s84.2) fun x => Wt.bind (Wt.pure 0) fun y => Wt.pure (decide (y < x))) fun b90 => Wt.andThen (δ := (List (Int × Int))) (Wt.ite b90 (Wt.bind (Wt.bind (Wt.pure s82.2.2) fun x => Wt.bind (Wt.pure s84.2) fun y => Wt.pure (x, y)) fun x88 => Wt.req ((s82.1).length < sizeLine) (Wt.pure (.nxt (s82.1 ++ [x88])))) (Wt.pure (.nxt s82.1))) fun s87 => (Wt.bind (Wt.pure 1) fun y => (fun k89 => (Wt.pure (.nxt (s87, s84.1, k89)))) (s82.2.2 + y)))))) (rows79, left80, k81)) fun s82 => (Wt.bind (Wt.bind (Wt.pure s82.2.1) fun x => Wt.bind (Wt.pure 1) fun y => Wt.pure (decide (y < x))) fun b93 => Wt.andThen (δ := (List (Int × Int))) (Wt.ite b93 (Wt.bind (Wt.bind (Wt.pure s82.2.1) fun x => Wt.bind (Wt.pure 1) fun y => Wt.pure (x, y)) fun x92 => Wt.req ((s82.1).length < sizeLine) (Wt.pure (.nxt (s82.1 ++ [x92])))) (Wt.pure (.nxt s82.1))) fun s91 => (Wt.pure (.ret s91)))))))
def v_prime_powers (y : Int × Unit) : Wt (List (Int × Int)) := Wt.fin none (Wt.nox (w_prime_powers y))
theorem ok_prime_powers {P : Program} {w : World} {K : PySem.W.Frag} {mg : Str → Option Value} {base : Heap} (T : Prg K mg) : FnOk P w K mg base (CX P w) 1 (He.fAd K ("prime_powers", none)) T.fd_prime_powers ["number"] (spF K mg (aC yI aN) (rkM (mL (yP yI yI))) v_prime_powers) := by
  have sc := sc_prime_powers
  refine fn_body (Ar := (aC yI aN)) T.F_prime_powers sc rfl (show 1 ≤ 5 by decide) (fun _ h => nomatch h) (fun y cdv A outer s H E fr hr hp hmg hxe => ?_)
  have h : SX (cxOf (L2.CX P w) P w K mg base N_prime_powers "prime_powers" (defScope s_prime_powers) (He.fAd K ("prime_powers", none)) cdv A outer s H E) fr.nox [.sh yI y.1, .un, .un, .un, .un] (defBody s_prime_powers) _ (rkM (mL (yP yI yI))) (fun _ : Unit => un K 5) (fun _ : Unit => un K 5) _ := (s_setM (x_lst (t := (yP yI yI)) l_nil) (show 1 < 5 from by decide) (fun rows79 => (s_set (x_var (i := 0) rfl) (show 2 < 5 from by decide) (fun left80 => (s_set x_int (show 3 < 5 from by decide) (fun k81 => (s_while (Cs := fun (s82 : (List (Int × Int)) × Int × Int) => [.sh yI y.1, .mu (mL (yP yI yI)) s82.1, .sh yI s82.2.1, .sh yI s82.2.2, .un]) (s0 := (rows79, left80, k81)) ⟨.inl rfl, .inl rfl, .inl rfl, .inl rfl, .inl rfl, True.intro⟩ (fun s82 => (t_cmp (c_I op_le (x_opIC op_mulW (x_var (i := 3) rfl) (x_var (i := 3) rfl)) (x_var (i := 2) rfl)))) (fun s82 => (s_set x_int (show 4 < 5 from by decide) (fun many83 => (s_while (Cs := fun (s84 : Int × Int) => [.sh yI y.1, .mu (mL (yP yI yI)) s82.1, .sh yI s84.1, .sh yI s82.2.2, .sh yI s84.2]) (s0 := (s82.2.1, many83)) ⟨.inl rfl, .inl rfl, .inl rfl, .inl rfl, .inl rfl, True.intro⟩ (fun s84 => (t_cmp (c_eqI (x_opIC op_mod (x_var (i := 2) rfl) (x_var (i := 3) rfl)) x_int))) (fun s84 => (s_set (x_opIC op_fdivW (x_var (i := 2) rfl) (x_var (i := 3) rfl)) (show 2 < 5 from by decide) (fun left85 => (s_aug (i := 4) ip_add rfl x_int (fun many86 => (s_nil (s := (left85, many86)) ⟨.inl rfl, .inl rfl, .inl rfl, .inl rfl, .inl rfl, True.intro⟩)) (.inr (by decide)) sc.nd)) 0 (.inr (by decide)) sc.nd)) (fun s84 => (s_if (Cm := fun (s87 : (List (Int × Int))) => [.sh yI y.1, .mu (mL (yP yI yI)) s87, .sh yI s84.1, .sh yI s82.2.2, .sh yI s84.2]) (t_cmp (c_I op_gt (x_var (i := 4) rfl) x_int)) (s_app (i := 1) rfl (x_pair (x_var (i := 3) rfl) (x_var (i := 4) rfl)) (fun x88 => (s_nil (s := (s82.1 ++ [x88])) ⟨.inl rfl, .inl rfl, .inl rfl, .inl rfl, .inl rfl, True.intro⟩)) (0, 0)) (s_nil (s := s82.1) ⟨.inl rfl, .inl rfl, .inl rfl, .inl rfl, .inl rfl, True.intro⟩) (fun s87 => (s_aug (i := 3) ip_add rfl x_int (fun k89 => (s_nil (s := (s87, s84.1, k89)) ⟨.inl rfl, .inl rfl, .inl rfl, .inl rfl, .inr rfl, True.intro⟩)) (.inr (by decide)) sc.nd)) ([]))) (passes_of rfl))) 0 (.inr (by decide)) sc.nd)) (fun s82 => (s_if (Cm := fun (s91 : (List (Int × Int))) => [.sh yI y.1, .mu (mL (yP yI yI)) s91, .sh yI s82.2.1, .sh yI s82.2.2, .un]) (t_cmp (c_I op_gt (x_var (i := 2) rfl) x_int)) (s_app (i := 1) rfl (x_pair (x_var (i := 2) rfl) x_int) (fun x92 => (s_nil (s := (s82.1 ++ [x92])) ⟨.inl rfl, .inl rfl, .inl rfl, .inl rfl, .inl rfl, True.intro⟩)) (0, 0)) (s_nil (s := s82.1) ⟨.inl rfl, .inl rfl, .inl rfl, .inl rfl, .inl rfl, True.intro⟩) (fun s91 => (s_retV (i := 1) rfl hp.1)) ([]))) (passes_of rfl))) 0 (.inr (by decide)) sc.nd)) 0 (.inr (by decide)) sc.nd)) [] (.inr (by decide)) sc.nd)
  exact ⟨_, sx_nox h⟩
def w_phi_of (y : Int × Unit) : Wt (Oc Int Unit Unit) := (Wt.bind (Wt.bind (Wt.bind (Wt.pure y.1) fun x => Wt.bind (Wt.bind (Wt.pure 1) fun x => Wt.bind (Wt.bind (Wt.pure 2000) fun x => Wt.bind (Wt.pure ()) fun y => Wt.pure (x, y)) fun y => Wt.pure (x, y)) fun y => Wt.pure (x, y)) v_check_number) fun _ => (Wt.bind (Wt.pure y.1) fun left94 => (Wt.bind (Wt.bind (Wt.bind (Wt.pure y.1) fun x => Wt.bind (Wt.pure ()) fun y => Wt.pure (x, y)) v_prime_powers) fun xs => Wt.andThen (δ := Int) (Wt.forW (fun x95 (s96 : Int) => (Wt.bind (Wt.bind (Wt.bind (Wt.pure s96) fun x => Wt.bind (Wt.bind (Wt.pure x95) fun x => Wt.pure x.1) fun y => Wt.req (CDivW x y) (Wt.pure (x / y))) fun x => Wt.bind (Wt.bind (Wt.bind (Wt.pure x95) fun x => Wt.pure x.1) fun x => Wt.bind (Wt.pure 1) fun y => Wt.pure (x - y)) fun y => Wt.req (CMulW x y) (Wt.pure (x * y))) fun left97 => (Wt.pure (.nxt left97)))) xs left94) fun s96 => (Wt.bind (Wt.pure s96) fun x => Wt.pure (.ret x)))))
def v_phi_of (y : Int × Unit) : Wt Int := Wt.fin none (Wt.nox (w_phi_of y))
theorem ok_phi_of {P : Program} {w : World} {K : PySem.W.Frag} {mg : Str → Option Value} {base : Heap} (T : Prg K mg) : FnOk P w K mg base (CX P w) 3 (He.fAd K ("phi_of", none)) T.fd_phi_of ["number"] (spF K mg (aC yI aN) (rkT yI) v_phi_of) := by
  have sc := sc_phi_of
  refine fn_body (Ar := (aC yI aN)) T.F_phi_of sc rfl (show 1 ≤ 3 by decide) (fun _ h => nomatch h) (fun y cdv A outer s H E fr hr hp hmg hxe => ?_)
  have h : SX (cxOf (L2.CX P w) P w K mg base N_phi_of "phi_of" (defScope s_phi_of) (He.fAd K ("phi_of", none)) cdv A outer s H E) fr.nox [.sh yI y.1, .un, .un] (defBody s_phi_of) _ (rkT yI) (fun _ : Unit => un K 3) (fun _ : Unit => un K 3) _ := (s_drop (x_call (ok_check_number T) (hr.mono (by decide)) T.m_check_number T.F_check_number.kp (b_check_number T) .nil passL hmg (a_cons (x_var (i := 0) rfl) (a_cons x_int (a_cons (x_glob T.c_MOST_DIVIDED.choose_spec) a_nil)))) (fun _ => (s_set (x_var (i := 0) rfl) (show 1 < 3 from by decide) (fun left94 => (s_for (Cs := fun (s96 : Int) => [.sh yI y.1, .sh yI s96, .un]) (s0 := left94) (i_L (x_fix (x_callM (ok_prime_powers T) (hr.mono (by decide)) T.m_prime_powers T.F_prime_powers.kp (b_prime_powers T) .nil passL hmg (a_cons (x_var (i := 0) rfl) a_nil)))) ⟨.inl rfl, .inl rfl, .inl rfl, True.intro⟩ (fun s96 => ⟨(pg_name (i := 2) sc.nd rfl (by first | exact .inl rfl | exact .inr rfl)), (eg_name (t := (yP yI yI)) (i := 2) (show 2 < 3 from by decide) (by decide))⟩) (fun x95 s96 => (s_set (x_opIC op_mulW (x_opIC op_fdivW (x_var (i := 1) rfl) (x_p0 (x_var (i := 2) rfl))) (x_opII op_sub (x_p0 (x_var (i := 2) rfl)) x_int)) (show 1 < 3 from by decide) (fun left97 => (s_nil (s := left97) ⟨.inl rfl, .inl rfl, .inr rfl, True.intro⟩)) 0 (.inr (by decide)) sc.nd)) (fun s96 => (s_ret (x_var (i := 1) rfl))) (0, 0) (passes_of rfl))) 0 (.inr (by decide)) sc.nd)) 0)
  exact ⟨_, sx_nox h⟩
def w_mu_of (y : Int × Unit) : Wt (Oc Int Unit Unit) := (Wt.bind (Wt.bind (Wt.bind (Wt.pure y.1) fun x => Wt.bind (Wt.bind (Wt.pure 1) fun x => Wt.bind (Wt.bind (Wt.pure 2000) fun x => Wt.bind (Wt.pure ()) fun y => Wt.pure (x, y)) fun y => Wt.pure (x, y)) fun y => Wt.pure (x, y)) v_check_number) fun _ => (Wt.bind (Wt.pure 1) fun sign98 => (Wt.bind (Wt.bind (Wt.bind (Wt.pure y.1) fun x => Wt.bind (Wt.pure ()) fun y => Wt.pure (x, y)) v_prime_powers) fun xs => Wt.andThen (δ := Int) (Wt.forW (fun x99 (s100 : Int) => (Wt.bind (Wt.bind (Wt.bind (Wt.pure x99) fun x => Wt.pure x.2) fun x => Wt.bind (Wt.pure 1) fun y => Wt.pure (decide (y < x))) fun b103 => Wt.andThen (δ := Unit) (Wt.ite b103 (Wt.bind (Wt.pure 0) fun x => Wt.pure (.ret x)) (Wt.pure (.nxt ()))) fun s101 => (Wt.bind (Wt.bind (Wt.pure s100) fun x => Wt.pure (-x)) fun sign102 => (Wt.pure (.nxt sign102))))) xs sign98) fun s100 => (Wt.bind (Wt.pure s100) fun x => Wt.pure (.ret x)))))
def v_mu_of (y : Int × Unit) : Wt Int := Wt.fin none (Wt.nox (w_mu_of y))
theorem ok_mu_of {P : Program} {w : World} {K : PySem.W.Frag} {mg : Str → Option Value} {base : Heap} (T : Prg K mg) : FnOk P w K mg base (CX P w) 3 (He.fAd K ("mu_of", none)) T.fd_mu_of ["number"] (spF K mg (aC yI aN) (rkT yI) v_mu_of) := by
  have sc := sc_mu_of
  refine fn_body (Ar := (aC yI aN)) T.F_mu_of sc rfl (show 1 ≤ 3 by decide) (fun _ h => nomatch h) (fun y cdv A outer s H E fr hr hp hmg hxe => ?_)
  have h : SX (cxOf (L2.CX P w) P w K mg base N_mu_of "mu_of" (defScope s_mu_of) (He.fAd K ("mu_of", none)) cdv A outer s H E) fr.nox [.sh yI y.1, .un, .un] (defBody s_mu_of) _ (rkT yI) (fun _ : Unit => un K 3) (fun _ : Unit => un K 3) _ := (s_drop (x_call (ok_check_number T) (hr.mono (by decide)) T.m_check_number T.F_check_number.kp (b_check_number T) .nil passL hmg (a_cons (x_var (i := 0) rfl) (a_cons x_int (a_cons (x_glob T.c_MOST_DIVIDED.choose_spec) a_nil)))) (fun _ => (s_set x_int (show 1 < 3 from by decide) (fun sign98 => (s_for (Cs := fun (s100 : Int) => [.sh yI y.1, .sh yI s100, .un]) (s0 := sign98) (i_L (x_fix (x_callM (ok_prime_powers T) (hr.mono (by decide)) T.m_prime_powers T.F_prime_powers.kp (b_prime_powers T) .nil passL hmg (a_cons (x_var (i := 0) rfl) a_nil)))) ⟨.inl rfl, .inl rfl, .inl rfl, True.intro⟩ (fun s100 => ⟨(pg_name (i := 2) sc.nd rfl (by first | exact .inl rfl | exact .inr rfl)), (eg_name (t := (yP yI yI)) (i := 2) (show 2 < 3 from by decide) (by decide))⟩) (fun x99 s100 => (s_if (Cm := fun (s101 : Unit) => [.sh yI y.1, .sh yI s100, .sh (yP yI yI) x99]) (t_cmp (c_I op_gt (x_p1 (x_var (i := 2) rfl)) x_int)) (s_ret x_int) (s_nil (s := ()) ⟨.inl rfl, .inl rfl, .inl rfl, True.intro⟩) (fun s101 => (s_set (x_neg (x_var (i := 1) rfl)) (show 1 < 3 from by decide) (fun sign102 => (s_nil (s := sign102) ⟨.inl rfl, .inl rfl, .inr rfl, True.intro⟩)) 0 (.inr (by decide)) sc.nd)) ())) (fun s100 => (s_ret (x_var (i := 1) rfl))) (0, 0) (passes_of rfl))) 0 (.inr (by decide)) sc.nd)) 0)
  exact ⟨_, sx_nox h⟩
def w_common_divisor (y : Int × Int × Unit) : Wt (Oc Int Unit Unit) := (Wt.bind (Wt.bind (Wt.bind (Wt.pure y.1) fun x => Wt.bind (Wt.bind (Wt.pure 0) fun x => Wt.bind (Wt.bind (Wt.pure 2000) fun x => Wt.bind (Wt.pure ()) fun y => Wt.pure (x, y)) fun y => Wt.pure (x, y)) fun y => Wt.pure (x, y)) v_check_number) fun _ => (Wt.bind (Wt.bind (Wt.bind (Wt.pure y.2.1) fun x => Wt.bind (Wt.bind (Wt.pure 0) fun x => Wt.bind (Wt.bind (Wt.pure 2000) fun x => Wt.bind (Wt.pure ()) fun y => Wt.pure (x, y)) fun y => Wt.pure (x, y)) fun y => Wt.pure (x, y)) v_check_number) fun _ => (Wt.bind (Wt.pure y.1) fun low104 => Wt.bind (Wt.pure y.2.1) fun high105 => (Wt.andThen (δ := Int × Int) (Wt.whileW (fun (s106 : Int × Int) => (Wt.bind (Wt.pure s106.1) fun x => Wt.bind (Wt.pure 0) fun y => Wt.pure (decide (y < x)))) (fun s106 => (Wt.bind (Wt.bind (Wt.pure s106.2) fun x => Wt.bind (Wt.pure s106.1) fun y => Wt.req (0 < y) (Wt.pure (x % y))) fun low107 => Wt.bind (Wt.pure s106.1) fun high108 => (Wt.pure (.nxt (low107, high108))))) (low104, high105)) fun s106 => (Wt.bind (Wt.pure s106.2) fun x => Wt.pure (.ret x))))))
def v_common_divisor (y : Int × Int × Unit) : Wt Int := Wt.fin none (Wt.nox (w_common_divisor y))
theorem ok_common_divisor {P : Program} {w : World} {K : PySem.W.Frag} {mg : Str → Option Value} {base : Heap} (T : Prg K mg) : FnOk P w K mg base (CX P w) 3 (He.fAd K ("common_divisor", none)) T.fd_common_divisor ["one", "other"] (spF K mg (aC yI (aC yI aN)) (rkT yI) v_common_divisor) := by
  have sc := sc_common_divisor
  refine fn_body (Ar := (aC yI (aC yI aN))) T.F_common_divisor sc rfl (show 2 ≤ 4 by decide) (fun _ h => nomatch h) (fun y cdv A outer s H E fr hr hp hmg hxe => ?_)
  have h : SX (cxOf (L2.CX P w) P w K mg base N_common_divisor "common_divisor" (defScope s_common_divisor) (He.fAd K ("common_divisor", none)) cdv A outer s H E) fr.nox [.sh yI y.1, .sh yI y.2.1, .un, .un] (defBody s_common_divisor) _ (rkT yI) (fun _ : Unit => un K 4) (fun _ : Unit => un K 4) _ := (s_drop (x_call (ok_check_number T) (hr.mono (by decide)) T.m_check_number T.F_check_number.kp (b_check_number T) .nil passL hmg (a_cons (x_var (i := 0) rfl) (a_cons x_int (a_cons (x_glob T.c_MOST_DIVIDED.choose_spec) a_nil)))) (fun _ => (s_drop (x_call (ok_check_number T) (hr.mono (by decide)) T.m_check_number T.F_check_number.kp (b_check_number T) .nil passL hmg (a_cons (x_var (i := 1) rfl) (a_cons x_int (a_cons (x_glob T.c_MOST_DIVIDED.choose_spec) a_nil)))) (fun _ => (s_par (x_var (i := 0) rfl) (x_var (i := 1) rfl) (show 2 < 4 from by decide) (show 3 < 4 from by decide) (.inr ⟨by decide, by decide⟩) (fun low104 high105 => (s_while (Cs := fun (s106 : Int × Int) => [.sh yI y.1, .sh yI y.2.1, .sh yI s106.1, .sh yI s106.2]) (s0 := (low104, high105)) ⟨.inl rfl, .inl rfl, .inl rfl, .inl rfl, True.intro⟩ (fun s106 => (t_cmp (c_I op_gt (x_var (i := 2) rfl) x_int))) (fun s106 => (s_par (x_opIC op_mod (x_var (i := 3) rfl) (x_var (i := 2) rfl)) (x_var (i := 2) rfl) (show 2 < 4 from by decide) (show 3 < 4 from by decide) (.inr ⟨by decide, by decide⟩) (fun low107 high108 => (s_nil (s := (low107, high108)) ⟨.inl rfl, .inl rfl, .inl rfl, .inl rfl, True.intro⟩)) 0 0 sc.nd)) (fun s106 => (s_ret (x_var (i := 3) rfl))) (passes_of rfl))) 0 0 sc.nd)) 0)) 0)
  exact ⟨_, sx_nox h⟩
def w_ram_of (y : Int × Int × Unit) : Wt (Oc Int Unit Unit) := (Wt.bind (Wt.bind (Wt.bind (Wt.pure y.1) fun x => Wt.bind (Wt.bind (Wt.pure 1) fun x => Wt.bind (Wt.bind (Wt.pure 2000) fun x => Wt.bind (Wt.pure ()) fun y => Wt.pure (x, y)) fun y => Wt.pure (x, y)) fun y => Wt.pure (x, y)) v_check_number) fun _ => (Wt.bind (Wt.bind (Wt.bind (Wt.pure y.2.1) fun x => Wt.bind (Wt.bind (Wt.pure 0) fun x => Wt.bind (Wt.bind (Wt.pure 2000) fun x => Wt.bind (Wt.pure ()) fun y => Wt.pure (x, y)) fun y => Wt.pure (x, y)) fun y => Wt.pure (x, y)) v_check_number) fun _ => (Wt.bind (Wt.bind (Wt.pure y.1) fun x => Wt.bind (Wt.bind (Wt.bind (Wt.pure y.1) fun x => Wt.bind (Wt.bind (Wt.pure y.2.1) fun x => Wt.bind (Wt.pure ()) fun y => Wt.pure (x, y)) fun y => Wt.pure (x, y)) v_common_divisor) fun y => Wt.req (CDivW x y) (Wt.pure (x / y))) fun left109 => (Wt.bind (Wt.bind (Wt.bind (Wt.bind (Wt.bind (Wt.pure y.1) fun x => Wt.bind (Wt.pure ()) fun y => Wt.pure (x, y)) v_phi_of) fun x => Wt.bind (Wt.bind (Wt.bind (Wt.pure left109) fun x => Wt.bind (Wt.pure ()) fun y => Wt.pure (x, y)) v_mu_of) fun y => Wt.req (CMulW x y) (Wt.pure (x * y))) fun x => Wt.bind (Wt.bind (Wt.bind (Wt.pure left109) fun x => Wt.bind (Wt.pure ()) fun y => Wt.pure (x, y)) v_phi_of) fun y => Wt.req (CDivW x y) (Wt.pure (x / y))) fun x => Wt.pure (.ret x)))))
def v_ram_of (y : Int × Int × Unit) : Wt Int := Wt.fin none (Wt.nox (w_ram_of y))
theorem ok_ram_of {P : Program} {w : World} {K : PySem.W.Frag} {mg : Str → Option Value} {base : Heap} (T : Prg K mg) : FnOk P w K mg base (CX P w) 4 (He.fAd K ("ram_of", none)) T.fd_ram_of ["number", "rest"] (spF K mg (aC yI (aC yI aN)) (rkT yI) v_ram_of) := by
  have sc := sc_ram_of
  refine fn_body (Ar := (aC yI (aC yI aN))) T.F_ram_of sc rfl (show 2 ≤ 3 by decide) (fun _ h => nomatch h) (fun y cdv A outer s H E fr hr hp hmg hxe => ?_)
  have h : SX (cxOf (L2.CX P w) P w K mg base N_ram_of "ram_of" (defScope s_ram_of) (He.fAd K ("ram_of", none)) cdv A outer s H E) fr.nox [.sh yI y.1, .sh yI y.2.1, .un] (defBody s_ram_of) _ (rkT yI) (fun _ : Unit => un K 3) (fun _ : Unit => un K 3) _ := (s_drop (x_call (ok_check_number T) (hr.mono (by decide)) T.m_check_number T.F_check_number.kp (b_check_number T) .nil passL hmg (a_cons (x_var (i := 0) rfl) (a_cons x_int (a_cons (x_glob T.c_MOST_DIVIDED.choose_spec) a_nil)))) (fun _ => (s_drop (x_call (ok_check_number T) (hr.mono (by decide)) T.m_check_number T.F_check_number.kp (b_check_number T) .nil passL hmg (a_cons (x_var (i := 1) rfl) (a_cons x_int (a_cons (x_glob T.c_MOST_DIVIDED.choose_spec) a_nil)))) (fun _ => (s_set (x_opIC op_fdivW (x_var (i := 0) rfl) (x_call (ok_common_divisor T) (hr.mono (by decide)) T.m_common_divisor T.F_common_divisor.kp (b_common_divisor T) .nil passL hmg (a_cons (x_var (i := 0) rfl) (a_cons (x_var (i := 1) rfl) a_nil)))) (show 2 < 3 from by decide) (fun left109 => (s_ret (x_opIC op_fdivW (x_opIC op_mulW (x_call (ok_phi_of T) (hr.mono (by decide)) T.m_phi_of T.F_phi_of.kp (b_phi_of T) .nil passL hmg (a_cons (x_var (i := 0) rfl) a_nil)) (x_call (ok_mu_of T) (hr.mono (by decide)) T.m_mu_of T.F_mu_of.kp (b_mu_of T) .nil passL hmg (a_cons (x_var (i := 2) rfl) a_nil))) (x_call (ok_phi_of T) (hr.mono (by decide)) T.m_phi_of T.F_phi_of.kp (b_phi_of T) .nil passL hmg (a_cons (x_var (i := 2) rfl) a_nil))))) 0 (.inr (by decide)) sc.nd)) 0)) 0)
  exact ⟨_, sx_nox h⟩
def w_check_sized (y : Int × Int × Unit) : Wt (Oc Unit Unit Unit) := (Wt.bind (Wt.bind (Wt.bind (Wt.pure y.1) fun x => Wt.bind (Wt.bind (Wt.pure 0) fun x => Wt.bind (Wt.bind (Wt.pure 200) fun x => Wt.bind (Wt.pure ()) fun y => Wt.pure (x, y)) fun y => Wt.pure (x, y)) fun y => Wt.pure (x, y)) v_check_number) fun _ => (Wt.bind (Wt.bind (Wt.bind (Wt.bind (Wt.pure y.2.1) fun x => Wt.bind (Wt.bind (Wt.pure 0) fun x => Wt.bind (Wt.bind (Wt.pure y.1) fun x => Wt.bind (Wt.pure ()) fun y => Wt.pure (x, y)) fun y => Wt.pure (x, y)) fun y => Wt.pure (x, y)) v_is_whole) fun x => Wt.pure (!x)) fun b111 => Wt.andThen (δ := Unit) (Wt.ite b111 Wt.never (Wt.pure (.nxt ()))) fun s110 => (Wt.pure (.nxt ()))))
def v_check_sized (y : Int × Int × Unit) : Wt Unit := Wt.fin (some ()) (Wt.nox (w_check_sized y))
theorem ok_check_sized {P : Program} {w : World} {K : PySem.W.Frag} {mg : Str → Option Value} {base : Heap} (T : Prg K mg) : FnOk P w K mg base (CX P w) 3 (He.fAd K ("check_sized", none)) T.fd_check_sized ["length", "rest"] (spF K mg (aC yI (aC yI aN)) (rkT yN) v_check_sized) := by
  have sc := sc_check_sized
  refine fn_body (Ar := (aC yI (aC yI aN))) T.F_check_sized sc rfl (show 2 ≤ 2 by decide) (fun _ _ _ _ _ => rfl) (fun y cdv A outer s H E fr hr hp hmg hxe => ?_)
  have h : SX (cxOf (L2.CX P w) P w K mg base N_check_sized "check_sized" (defScope s_check_sized) (He.fAd K ("check_sized", none)) cdv A outer s H E) fr.nox [.sh yI y.1, .sh yI y.2.1] (defBody s_check_sized) _ (rkT yN) (fun _ : Unit => un K 2) (fun _ : Unit => un K 2) _ := (s_drop (x_call (ok_check_number T) (hr.mono (by decide)) T.m_check_number T.F_check_number.kp (b_check_number T) .nil passL hmg (a_cons (x_var (i := 0) rfl) (a_cons x_int (a_cons (x_glob T.c_MOST_SIZED.choose_spec) a_nil)))) (fun _ => (s_if (Cm := fun (s110 : Unit) => [.sh yI y.1, .sh yI y.2.1]) (t_not (t_val (x_call (ok_is_whole T) (hr.mono (by decide)) T.m_is_whole T.F_is_whole.kp (b_is_whole T) .nil passL hmg (a_cons (x_var (i := 1) rfl) (a_cons x_int (a_cons (x_var (i := 0) rfl) a_nil)))))) s_never (s_nil (s := ()) ⟨.inl rfl, .inl rfl, True.intro⟩) (fun s110 => (s_nil (s := ()) ⟨.inr rfl, .inr rfl, True.intro⟩ (.inr hp.1))) ())) 0)
  exact ⟨_, sx_nox h⟩
def w_size_of (y : Int × Int × Unit) : Wt (Oc Int Unit Unit) := (Wt.bind (Wt.bind (Wt.bind (Wt.pure y.1) fun x => Wt.bind (Wt.bind (Wt.pure y.2.1) fun x => Wt.bind (Wt.pure ()) fun y => Wt.pure (x, y)) fun y => Wt.pure (x, y)) v_check_sized) fun _ => (Wt.bind (Wt.pure 0) fun total112 => (Wt.bind (Wt.bind (Wt.bind (Wt.bind (Wt.pure y.1) fun x => Wt.bind (Wt.pure 1) fun y => Wt.pure (x + y)) fun x => Wt.bind (Wt.pure ()) fun y => Wt.pure (x, y)) v_divisors_of) fun xs => Wt.andThen (δ := Int) (Wt.forW (fun x113 (s114 : Int) => (Wt.bind (Wt.bind (Wt.bind (Wt.pure x113) fun x => Wt.bind (Wt.pure 2) fun y => Wt.req (0 < y) (Wt.pure (x % y))) fun x => Wt.bind (Wt.pure 1) fun y => Wt.pure (decide (x = y))) fun b117 => Wt.andThen (δ := Int) (Wt.ite b117 (Wt.bind (Wt.bind (Wt.pure s114) fun x => Wt.bind (Wt.bind (Wt.bind (Wt.bind (Wt.pure x113) fun x => Wt.bind (Wt.bind (Wt.pure y.2.1) fun x => Wt.bind (Wt.pure ()) fun y => Wt.pure (x, y)) fun y => Wt.pure (x, y)) v_ram_of) fun x => Wt.bind (Wt.bind (Wt.bind (Wt.pure 2) fun x => Wt.bind (Wt.bind (Wt.bind (Wt.bind (Wt.pure y.1) fun x => Wt.bind (Wt.pure 1) fun y => Wt.pure (x + y)) fun x => Wt.bind (Wt.pure x113) fun y => Wt.req (CDivW x y) (Wt.pure (x / y))) fun x => Wt.bind (Wt.pure ()) fun y => Wt.pure (x, y)) fun y => Wt.pure (x, y)) v_power_of) fun y => Wt.req (CMulW x y) (Wt.pure (x * y))) fun y => Wt.pure (x + y)) fun total116 => (Wt.pure (.nxt total116))) (Wt.pure (.nxt s114))) fun s115 => (Wt.pure (.nxt s115)))) xs total112) fun s114 => (Wt.bind (Wt.bind (Wt.pure s114) fun x => Wt.bind (Wt.bind (Wt.pure 2) fun x => Wt.bind (Wt.bind (Wt.pure y.1) fun x => Wt.bind (Wt.pure 1) fun y => Wt.pure (x + y)) fun y => Wt.req (CMulW x y) (Wt.pure (x * y))) fun y => Wt.req (CDivW x y) (Wt.pure (x / y))) fun x => Wt.pure (.ret x)))))
def v_size_of (y : Int × Int × Unit) : Wt Int := Wt.fin none (Wt.nox (w_size_of y))
theorem ok_size_of {P : Program} {w : World} {K : PySem.W.Frag} {mg : Str → Option Value} {base : Heap} (T : Prg K mg) : FnOk P w K mg base (CX P w) 5 (He.fAd K ("size_of", none)) T.fd_size_of ["length", "rest"] (spF K mg (aC yI (aC yI aN)) (rkT yI) v_size_of) := by
  have sc := sc_size_of
  refine fn_body (Ar := (aC yI (aC yI aN))) T.F_size_of sc rfl (show 2 ≤ 4 by decide) (fun _ h => nomatch h) (fun y cdv A outer s H E fr hr hp hmg hxe => ?_)
  have h : SX (cxOf (L2.CX P w) P w K mg base N_size_of "size_of" (defScope s_size_of) (He.fAd K ("size_of", none)) cdv A outer s H E) fr.nox [.sh yI y.1, .sh yI y.2.1, .un, .un] (defBody s_size_of) _ (rkT yI) (fun _ : Unit => un K 4) (fun _ : Unit => un K 4) _ := (s_drop (x_call (ok_check_sized T) (hr.mono (by decide)) T.m_check_sized T.F_check_sized.kp (b_check_sized T) .nil passL hmg (a_cons (x_var (i := 0) rfl) (a_cons (x_var (i := 1) rfl) a_nil))) (fun _ => (s_set x_int (show 2 < 4 from by decide) (fun total112 => (s_for (Cs := fun (s114 : Int) => [.sh yI y.1, .sh yI y.2.1, .sh yI s114, .un]) (s0 := total112) (i_T (x_call (ok_divisors_of T) (hr.mono (by decide)) T.m_divisors_of T.F_divisors_of.kp (b_divisors_of T) .nil passL hmg (a_cons (x_opII op_add (x_var (i := 0) rfl) x_int) a_nil))) ⟨.inl rfl, .inl rfl, .inl rfl, .inl rfl, True.intro⟩ (fun s114 => ⟨(pg_name (i := 3) sc.nd rfl (by first | exact .inl rfl | exact .inr rfl)), (eg_name (t := yI) (i := 3) (show 3 < 4 from by decide) (by decide))⟩) (fun x113 s114 => (s_if (Cm := fun (s115 : Int) => [.sh yI y.1, .sh yI y.2.1, .sh yI s115, .sh yI x113]) (t_cmp (c_eqI (x_opIC op_mod (x_var (i := 3) rfl) x_int) x_int)) (s_set (x_opII op_add (x_var (i := 2) rfl) (x_opIC op_mulW (x_call (ok_ram_of T) (hr.mono (by decide)) T.m_ram_of T.F_ram_of.kp (b_ram_of T) .nil passL hmg (a_cons (x_var (i := 3) rfl) (a_cons (x_var (i := 1) rfl) a_nil))) (x_call (ok_power_of T) (hr.mono (by decide)) T.m_power_of T.F_power_of.kp (b_power_of T) .nil passL hmg (a_cons x_int (a_cons (x_opIC op_fdivW (x_opII op_add (x_var (i := 0) rfl) x_int) (x_var (i := 3) rfl)) a_nil))))) (show 2 < 4 from by decide) (fun total116 => (s_nil (s := total116) ⟨.inl rfl, .inl rfl, .inl rfl, .inl rfl, True.intro⟩)) 0 (.inr (by decide)) sc.nd) (s_nil (s := s114) ⟨.inl rfl, .inl rfl, .inl rfl, .inl rfl, True.intro⟩) (fun s115 => (s_nil (s := s115) ⟨.inl rfl, .inl rfl, .inl rfl, .inr rfl, True.intro⟩)) (0))) (fun s114 => (s_ret (x_opIC op_fdivW (x_var (i := 2) rfl) (x_opIC op_mulW x_int (x_opII op_add (x_var (i := 0) rfl) x_int))))) 0 (passes_of rfl))) 0 (.inr (by decide)) sc.nd)) ())
  exact ⟨_, sx_nox h⟩
def w_WrongBook_init (y : Int × Int × Unit) : Wt (Oc Unit vi_WrongBook Unit) := (Wt.bind (Wt.bind (Wt.bind (Wt.bind (Wt.pure y.1) fun x => Wt.bind (Wt.bind (Wt.pure 1) fun x => Wt.bind (Wt.bind (Wt.pure 60) fun x => Wt.bind (Wt.pure ()) fun y => Wt.pure (x, y)) fun y => Wt.pure (x, y)) fun y => Wt.pure (x, y)) v_is_whole) fun x => Wt.pure (!x)) fun b125 => Wt.andThen (δ := Unit) (Wt.ite b125 Wt.never (Wt.pure (.nxt ()))) fun s118 => (Wt.bind (Wt.bind (Wt.bind (Wt.bind (Wt.pure y.2.1) fun x => Wt.bind (Wt.bind (Wt.pure 0) fun x => Wt.bind (Wt.bind (Wt.bind (Wt.bind (Wt.pure 2) fun x => Wt.bind (Wt.pure y.1) fun y => Wt.req (CMulW x y) (Wt.pure (x * y))) fun x => Wt.bind (Wt.pure 1) fun y => Wt.pure (x - y)) fun x => Wt.bind (Wt.pure ()) fun y => Wt.pure (x, y)) fun y => Wt.pure (x, y)) fun y => Wt.pure (x, y)) v_is_whole) fun x => Wt.pure (!x)) fun b124 => Wt.andThen (δ := Unit) (Wt.ite b124 Wt.never (Wt.pure (.nxt ()))) fun s119 => (Wt.bind (Wt.pure y.1) fun length120 => (Wt.bind (Wt.pure y.2.1) fun rest121 => (Wt.bind (Wt.bind (Wt.pure 2) fun x => Wt.bind (Wt.pure y.1) fun y => Wt.req (CMulW x y) (Wt.pure (x * y))) fun modulus122 => (Wt.bind (Wt.bind (Wt.bind (Wt.bind (Wt.pure y.1) fun x => Wt.bind (Wt.pure 1) fun y => Wt.pure (x - y)) fun x => Wt.bind (Wt.bind (Wt.bind (Wt.pure y.2.1) fun x => Wt.bind (Wt.pure y.1) fun y => Wt.req (0 < y) (Wt.pure (x % y))) fun x => Wt.bind (Wt.pure ()) fun y => Wt.pure (x, y)) fun y => Wt.pure (x, y)) v_size_of) fun size123 => (Wt.pure (.nxt (length120, rest121, modulus122, size123)))))))))
def v_WrongBook_init (y : Int × Int × Unit) : Wt vi_WrongBook := Wt.finI (Wt.nox (w_WrongBook_init y))
theorem ok_WrongBook_init {P : Program} {w : World} {K : PySem.W.Frag} {mg : Str → Option Value} {base : Heap} (T : Prg K mg) : FnOk P w K mg base (CX P w) 6 (He.fAd K ("WrongBook", some "__init__")) T.fd_WrongBook_init ["self", "length", "rest"] (spI K mg (cad_WrongBook K) (aC yI (aC yI aN)) (fl_WrongBook K) v_WrongBook_init) := by
  have sc := sc_WrongBook_init
  refine fn_init (Ar := (aC yI (aC yI aN))) T.F_WrongBook_init sc rfl (show 3 ≤ 3 by decide) (fun y cdv A outer s H E fr hr hpn hmg hxe => ?_)
  have h : SX (cxOf (L2.CX P w) P w K mg base N_WrongBook_init "WrongBook.__init__" (defScope s_WrongBook_init) (He.fAd K ("WrongBook", some "__init__")) cdv A outer s H E) fr.nox [.mu (mIns K (cad_WrongBook K)) [], .sh yI y.1, .sh yI y.2.1] (defBody s_WrongBook_init) _ (rkT yN) (fun z : vi_WrongBook => .mu (mIns K (cad_WrongBook K)) (fl_WrongBook K z) :: un K 2) (fun _ : Unit => un K 3) _ := (s_if (Cm := fun (s118 : Unit) => [.mu (mIns K (cad_WrongBook K)) [], .sh yI y.1, .sh yI y.2.1]) (t_not (t_val (x_call (ok_is_whole T) (hr.mono (by decide)) T.m_is_whole T.F_is_whole.kp (b_is_whole T) .nil passL hmg (a_cons (x_var (i := 1) rfl) (a_cons x_int (a_cons (x_glob T.c_MOST_LENGTH_wrongs.choose_spec) a_nil)))))) s_never (s_nil (s := ()) ⟨.inl rfl, .inl rfl, .inl rfl, True.intro⟩) (fun s118 => (s_if (Cm := fun (s119 : Unit) => [.mu (mIns K (cad_WrongBook K)) [], .sh yI y.1, .sh yI y.2.1]) (t_not (t_val (x_call (ok_is_whole T) (hr.mono (by decide)) T.m_is_whole T.F_is_whole.kp (b_is_whole T) .nil passL hmg (a_cons (x_var (i := 2) rfl) (a_cons x_int (a_cons (x_opII op_sub (x_opIC op_mulW x_int (x_var (i := 1) rfl)) x_int) a_nil)))))) s_never (s_nil (s := ()) ⟨.inl rfl, .inl rfl, .inl rfl, True.intro⟩) (fun s119 => (s_fld (i := 0) T.k_WrongBook T.a_WrongBook_length rfl (x_var (i := 1) rfl) (fun length120 => (s_fld (i := 0) T.k_WrongBook T.a_WrongBook_rest rfl (x_var (i := 2) rfl) (fun rest121 => (s_fld (i := 0) T.k_WrongBook T.a_WrongBook_modulus rfl (x_opIC op_mulW x_int (x_var (i := 1) rfl)) (fun modulus122 => (s_fld (i := 0) T.k_WrongBook T.a_WrongBook_size rfl (x_call (ok_size_of T) (hr.mono (by decide)) T.m_size_of T.F_size_of.kp (b_size_of T) .nil passL hmg (a_cons (x_opII op_sub (x_var (i := 1) rfl) x_int) (a_cons (x_opIC op_mod (x_var (i := 2) rfl) (x_var (i := 1) rfl)) a_nil))) (fun size123 => (s_nil (s := (length120, rest121, modulus122, size123)) ⟨.inl rfl, .inr rfl, .inr rfl, True.intro⟩)) 0 (hl := (by simp only [List.length_append, List.length_cons, List.length_nil] <;> decide)))) 0 (hl := (by simp only [List.length_append, List.length_cons, List.length_nil] <;> decide)))) 0 (hl := (by simp only [List.length_append, List.length_cons, List.length_nil] <;> decide)))) 0 (hl := (by simp only [List.length_append, List.length_cons, List.length_nil] <;> decide)))) ())) ())
  exact ⟨_, sx_nox h⟩
def w_WrongBook_has (y : (vi_WrongBook) × (List Int) × Unit) : Wt (Oc Bool Unit Unit) := (Wt.bind (Wt.bind (Wt.bind (Wt.pure 2) fun x => Wt.bind (Wt.bind (Wt.bind (Wt.pure y.2.1) fun x => Wt.pure (false, x)) fun x => Wt.bind (Wt.bind (Wt.pure 61) fun x => Wt.bind (Wt.pure ()) fun y => Wt.pure (x, y)) fun y => Wt.pure (x, y)) fun y => Wt.pure (x, y)) v_check_word) fun told126 => (Wt.bind (Wt.bind (Wt.bind (Wt.bind (Wt.pure told126) fun xs => Wt.pure (xs.length : Int)) fun x => Wt.bind (Wt.bind (Wt.pure y.1) fun x => Wt.pure x.1) fun y => Wt.pure (decide (x = y))) fun x => Wt.ite x (Wt.bind (Wt.bind (Wt.bind (Wt.bind (Wt.pure told126) fun x => Wt.bind (Wt.pure ()) fun y => Wt.pure (x, y)) v_place_sum) fun x => Wt.bind (Wt.bind (Wt.pure y.1) fun x => Wt.pure x.2.2.1) fun y => Wt.req (0 < y) (Wt.pure (x % y))) fun x => Wt.bind (Wt.bind (Wt.pure y.1) fun x => Wt.pure x.2.1) fun y => Wt.pure (decide (x = y))) (Wt.pure false)) fun x => Wt.pure (.ret x)))
def v_WrongBook_has (y : (vi_WrongBook) × (List Int) × Unit) : Wt Bool := Wt.fin none (Wt.nox (w_WrongBook_has y))
theorem ok_WrongBook_has {P : Program} {w : World} {K : PySem.W.Frag} {mg : Str → Option Value} {base : Heap} (T : Prg K mg) : FnOk P w K mg base (CX P w) 4 (He.fAd K ("WrongBook", some "has")) T.fd_WrongBook_has ["self", "word"] (spF K mg (aC (yi_WrongBook K) (aC (yT yI) aN)) (rkT yB) v_WrongBook_has) := by
  have sc := sc_WrongBook_has
  refine fn_body (Ar := (aC (yi_WrongBook K) (aC (yT yI) aN))) T.F_WrongBook_has sc rfl (show 2 ≤ 3 by decide) (fun _ h => nomatch h) (fun y cdv A outer s H E fr hr hp hmg hxe => ?_)
  have h : SX (cxOf (L2.CX P w) P w K mg base N_WrongBook_has "WrongBook.has" (defScope s_WrongBook_has) (He.fAd K ("WrongBook", some "has")) cdv A outer s H E) fr.nox [.sh (yi_WrongBook K) y.1, .sh (yT yI) y.2.1, .un] (defBody s_WrongBook_has) _ (rkT yB) (fun _ : Unit => un K 3) (fun _ : Unit => un K 3) _ := (s_set (x_call (ok_check_word T) (hr.mono (by decide)) T.m_check_word T.F_check_word.kp (b_check_word T) .nil passL hmg (a_cons x_int (a_cons (x_qT (x_var (i := 1) rfl)) (a_cons (x_glob T.c_MOST_READ.choose_spec) a_nil)))) (show 2 < 3 from by decide) (fun told126 => (s_ret (x_and (x_cmp (c_eqI (x_lenT T.n_len (x_var (i := 2) rfl)) (x_fld (g := fun (x : vi_WrongBook) => x.1) (hm := fm_WrongBook K) (T.k_WrongBook) T.a_WrongBook_length (fun _ => rfl) (x_var (i := 0) rfl)))) (x_bo1 (x_cmp (c_eqI (x_opIC op_mod (x_call (ok_place_sum T) (hr.mono (by decide)) T.m_place_sum T.F_place_sum.kp (b_place_sum T) .nil passL hmg (a_cons (x_var (i := 2) rfl) a_nil)) (x_fld (g := fun (x : vi_WrongBook) => x.2.2.1) (hm := fm_WrongBook K) (T.k_WrongBook) T.a_WrongBook_modulus (fun _ => rfl) (x_var (i := 0) rfl))) (x_fld (g := fun (x : vi_WrongBook) => x.2.1) (hm := fm_WrongBook K) (T.k_WrongBook) T.a_WrongBook_rest (fun _ => rfl) (x_var (i := 0) rfl)))))))) [] (.inr (by decide)) sc.nd)
  exact ⟨_, sx_nox h⟩
def w__law_hand (y : (List Int) × Unit) : Wt (Oc (List HC) Unit Unit) := (Wt.bind (Wt.bind (Wt.bind (Wt.pure y.1) fun xs => Wt.pure (xs.length : Int)) fun x => Wt.bind (Wt.pure 43) fun y => Wt.pure (x + y)) fun total127 => (Wt.bind (Wt.pure ([] : List Int)) fun cells128 => (Wt.bind (Wt.pure y.1) fun xs => Wt.andThen (δ := Int × (List Int)) (Wt.forW (fun x129 (s130 : Int × (List Int)) => (Wt.bind (Wt.bind (Wt.bind (Wt.bind (Wt.bind (Wt.pure s130.1) fun x => Wt.bind (Wt.pure 2003) fun y => Wt.req (CMulW x y) (Wt.pure (x * y))) fun x => Wt.bind (Wt.bind (Wt.pure x129) fun x => Wt.pure x) fun y => Wt.pure (x + y)) fun x => Wt.pure x) fun x => Wt.bind (Wt.pure 2147483563) fun y => Wt.req (0 < y) (Wt.pure (x % y))) fun total131 => (Wt.bind (Wt.bind (Wt.bind (Wt.pure x129) fun x => Wt.pure x) fun x => Wt.pure (if x < 0 then -x else x)) fun x132 => Wt.req ((s130.2).length < sizeLine) (Wt.pure (.nxt (total131, (s130.2 ++ [x132]))))))) xs (total127, cells128)) fun s130 => (Wt.bind (Wt.bind (Wt.bind (Wt.pure s130.2) fun x => Wt.pure (.inl x)) fun x => Wt.bind (Wt.bind (Wt.bind (Wt.pure 0) fun x => Wt.pure (.inr x)) fun x => Wt.bind (Wt.bind (Wt.bind (Wt.pure 0) fun x => Wt.pure (.inr x)) fun x => Wt.bind (Wt.bind (Wt.bind (Wt.pure s130.1) fun x => Wt.pure (.inr x)) fun x => Wt.bind (Wt.pure []) fun xs => Wt.pure (x :: xs)) fun xs => Wt.pure (x :: xs)) fun xs => Wt.pure (x :: xs)) fun xs => Wt.pure (x :: xs)) fun x => Wt.pure (.ret x)))))
def v__law_hand (y : (List Int) × Unit) : Wt (List HC) := Wt.fin none (Wt.nox (w__law_hand y))
theorem ok__law_hand {P : Program} {w : World} {K : PySem.W.Frag} {mg : Str → Option Value} {base : Heap} (T : Prg K mg) : FnOk P w K mg base (CX P w) 1 (He.fAd K ("_law_hand", none)) T.fd__law_hand ["_law_script"] (spF K mg (aC yScript aN) (rkM (mL yU)) v__law_hand) := by
  have sc := sc__law_hand
  refine fn_body (Ar := (aC yScript aN)) T.F__law_hand sc rfl (show 1 ≤ 4 by decide) (fun _ h => nomatch h) (fun y cdv A outer s H E fr hr hp hmg hxe => ?_)
  have h : SX (cxOf (L2.CX P w) P w K mg base N__law_hand "_law_hand" (defScope s__law_hand) (He.fAd K ("_law_hand", none)) cdv A outer s H E) fr.nox [.sh yScript y.1, .un, .un, .un] (defBody s__law_hand) _ (rkM (mL yU)) (fun _ : Unit => un K 4) (fun _ : Unit => un K 4) _ := (s_set (x_opII op_add (x_lenSc T.n_len (x_var (i := 0) rfl)) x_int) (show 1 < 4 from by decide) (fun total127 => (s_setM (x_lst (t := yI) l_nil) (show 2 < 4 from by decide) (fun cells128 => (s_for (Cs := fun (s130 : Int × (List Int)) => [.sh yScript y.1, .sh yI s130.1, .mu (mL yI) s130.2, .un]) (s0 := (total127, cells128)) (i_Sc (x_var (i := 0) rfl)) ⟨.inl rfl, .inl rfl, .inl rfl, .inl rfl, True.intro⟩ (fun s130 => ⟨(pg_name (i := 3) sc.nd rfl (by first | exact .inl rfl | exact .inr rfl)), (eg_name (t := yI) (i := 3) (show 3 < 4 from by decide) (by decide))⟩) (fun x129 s130 => (s_set (x_opIC op_mod (x_intI T.n_int (x_opII op_add (x_opIC op_mulW (x_var (i := 1) rfl) x_int) (x_intI T.n_int (x_var (i := 3) rfl)))) x_int) (show 1 < 4 from by decide) (fun total131 => (s_app (i := 2) rfl (x_abs T.n_abs (x_intI T.n_int (x_var (i := 3) rfl))) (fun x132 => (s_nil (s := (total131, (s130.2 ++ [x132]))) ⟨.inl rfl, .inl rfl, .inl rfl, .inr rfl, True.intro⟩)) 0)) 0 (.inr (by decide)) sc.nd)) (fun s130 => (s_frz (i := 2) rfl (s_retM (x_lst (l_cons (x_inL (x_var (i := 2) rfl)) (l_cons (x_inI x_int) (l_cons (x_inI x_int) (l_cons (x_inI (x_var (i := 1) rfl)) l_nil)))))) (.inr (by decide)))) 0 (passes_of rfl))) [] (.inr (by decide)) sc.nd)) 0 (.inr (by decide)) sc.nd)
  exact ⟨_, sx_nox h⟩
def w__law_mixed (y : Int × Int × Unit) : Wt (Oc Int Unit Unit) := (Wt.bind (Wt.bind (Wt.bind (Wt.bind (Wt.bind (Wt.bind (Wt.pure y.1) fun x => Wt.bind (Wt.pure 39373) fun y => Wt.req (CMulW x y) (Wt.pure (x * y))) fun x => Wt.bind (Wt.bind (Wt.pure y.2.1) fun x => Wt.bind (Wt.pure 6151) fun y => Wt.req (CMulW x y) (Wt.pure (x * y))) fun y => Wt.pure (x + y)) fun x => Wt.bind (Wt.pure 50021) fun y => Wt.pure (x + y)) fun x => Wt.pure x) fun x => Wt.bind (Wt.pure 2147483399) fun y => Wt.req (0 < y) (Wt.pure (x % y))) fun once133 => (Wt.bind (Wt.bind (Wt.bind (Wt.bind (Wt.bind (Wt.bind (Wt.pure once133) fun x => Wt.bind (Wt.pure once133) fun y => Wt.req (CMulW x y) (Wt.pure (x * y))) fun x => Wt.bind (Wt.bind (Wt.pure y.2.1) fun x => Wt.bind (Wt.pure 81071) fun y => Wt.req (CMulW x y) (Wt.pure (x * y))) fun y => Wt.pure (x + y)) fun x => Wt.bind (Wt.bind (Wt.pure once133) fun x => Wt.bind (Wt.pure 137) fun y => Wt.req (CDivW x y) (Wt.pure (x / y))) fun y => Wt.pure (x + y)) fun x => Wt.pure x) fun x => Wt.bind (Wt.pure 2147483629) fun y => Wt.req (0 < y) (Wt.pure (x % y))) fun twice134 => (Wt.bind (Wt.bind (Wt.bind (Wt.bind (Wt.bind (Wt.bind (Wt.bind (Wt.pure twice134) fun x => Wt.bind (Wt.pure 62089) fun y => Wt.req (CMulW x y) (Wt.pure (x * y))) fun x => Wt.bind (Wt.bind (Wt.pure once133) fun x => Wt.bind (Wt.pure 11) fun y => Wt.req (CDivW x y) (Wt.pure (x / y))) fun y => Wt.pure (x + y)) fun x => Wt.pure x) fun x => Wt.bind (Wt.pure 2147483587) fun y => Wt.req (0 < y) (Wt.pure (x % y))) fun x => Wt.pure x) fun x => Wt.bind (Wt.pure 64) fun y => Wt.req (CDivW x y) (Wt.pure (x / y))) fun x => Wt.pure (.ret x))))
def v__law_mixed (y : Int × Int × Unit) : Wt Int := Wt.fin none (Wt.nox (w__law_mixed y))
theorem ok__law_mixed {P : Program} {w : World} {K : PySem.W.Frag} {mg : Str → Option Value} {base : Heap} (T : Prg K mg) : FnOk P w K mg base (CX P w) 1 (He.fAd K ("_law_mixed", none)) T.fd__law_mixed ["_law_number", "_law_turn"] (spF K mg (aC yI (aC yI aN)) (rkT yI) v__law_mixed) := by
  have sc := sc__law_mixed
  refine fn_body (Ar := (aC yI (aC yI aN))) T.F__law_mixed sc rfl (show 2 ≤ 4 by decide) (fun _ h => nomatch h) (fun y cdv A outer s H E fr hr hp hmg hxe => ?_)
  have h : SX (cxOf (L2.CX P w) P w K mg base N__law_mixed "_law_mixed" (defScope s__law_mixed) (He.fAd K ("_law_mixed", none)) cdv A outer s H E) fr.nox [.sh yI y.1, .sh yI y.2.1, .un, .un] (defBody s__law_mixed) _ (rkT yI) (fun _ : Unit => un K 4) (fun _ : Unit => un K 4) _ := (s_set (x_opIC op_mod (x_intI T.n_int (x_opII op_add (x_opII op_add (x_opIC op_mulW (x_var (i := 0) rfl) x_int) (x_opIC op_mulW (x_var (i := 1) rfl) x_int)) x_int)) x_int) (show 2 < 4 from by decide) (fun once133 => (s_set (x_opIC op_mod (x_intI T.n_int (x_opII op_add (x_opII op_add (x_opIC op_mulW (x_var (i := 2) rfl) (x_var (i := 2) rfl)) (x_opIC op_mulW (x_var (i := 1) rfl) x_int)) (x_opIC op_fdivW (x_var (i := 2) rfl) x_int))) x_int) (show 3 < 4 from by decide) (fun twice134 => (s_ret (x_opIC op_fdivW (x_intI T.n_int (x_opIC op_mod (x_intI T.n_int (x_opII op_add (x_opIC op_mulW (x_var (i := 3) rfl) x_int) (x_opIC op_fdivW (x_var (i := 2) rfl) x_int))) x_int)) x_int))) 0 (.inr (by decide)) sc.nd)) 0 (.inr (by decide)) sc.nd)
  exact ⟨_, sx_nox h⟩
def w__law_take (y : Int × Unit) (xs : List HC) : Wt (Oc (Int × List HC) Unit Unit) := (Wt.bind (Wt.bind (Wt.bind (Wt.bind (Wt.bind (Wt.pure xs) fun x => Wt.bind (Wt.pure 2) fun y => Wt.opt (atI x y)) fun x => Wt.opt x.i) fun x => Wt.bind (Wt.pure 0) fun y => Wt.pure (decide (x = y))) fun x => Wt.ite x (Wt.bind (Wt.bind (Wt.bind (Wt.pure xs) fun x => Wt.bind (Wt.pure 1) fun y => Wt.opt (atI x y)) fun x => Wt.opt x.i) fun x => Wt.bind (Wt.bind (Wt.bind (Wt.bind (Wt.pure xs) fun x => Wt.bind (Wt.pure 0) fun y => Wt.opt (atI x y)) fun x => Wt.opt x.l) fun xs => Wt.pure (xs.length : Int)) fun y => Wt.pure (decide (x < y))) (Wt.pure false)) fun b151 => Wt.andThen (δ := (List HC)) (Wt.ite b151 (Wt.bind (Wt.bind (Wt.bind (Wt.bind (Wt.pure xs) fun x => Wt.bind (Wt.pure 0) fun y => Wt.opt (atI x y)) fun x => Wt.opt x.l) fun x => Wt.bind (Wt.bind (Wt.bind (Wt.pure xs) fun x => Wt.bind (Wt.pure 1) fun y => Wt.opt (atI x y)) fun x => Wt.opt x.i) fun y => Wt.opt (atI x y)) fun cell141 => (Wt.bind (Wt.bind (Wt.bind (Wt.bind (Wt.bind (Wt.pure xs) fun x => Wt.bind (Wt.pure 1) fun y => Wt.opt (atI x y)) fun x => Wt.opt x.i) fun x => Wt.bind (Wt.pure 1) fun y => Wt.pure (x + y)) fun x => Wt.pure (.inr x)) fun x => Wt.bind (Wt.pure 1) fun j => Wt.bind (Wt.opt (ixN (xs).length j)) fun l => (fun handhere142 => (Wt.bind (Wt.bind (Wt.pure cell141) fun x => Wt.bind (Wt.bind (Wt.pure 10) fun x => Wt.bind (Wt.pure 18) fun y => Wt.req (CPow x y) (Wt.pure (x ^ y.toNat))) fun y => Wt.pure (decide (x < y))) fun b145 => Wt.andThen (δ := Unit) (Wt.ite b145 (Wt.bind (Wt.bind (Wt.bind (Wt.bind (Wt.bind (Wt.bind (Wt.bind (Wt.pure cell141) fun x => Wt.pure x) fun x => Wt.bind (Wt.pure 2147483399) fun y => Wt.req (0 < y) (Wt.pure (x % y))) fun x => Wt.bind (Wt.bind (Wt.bind (Wt.bind (Wt.pure handhere142) fun x => Wt.bind (Wt.pure 1) fun y => Wt.opt (atI x y)) fun x => Wt.opt x.i) fun x => Wt.bind (Wt.pure ()) fun y => Wt.pure (x, y)) fun y => Wt.pure (x, y)) v__law_mixed) fun x => Wt.pure x) fun x => Wt.bind (Wt.pure y.1) fun y => Wt.req (0 < y) (Wt.pure (x % y))) fun x => Wt.pure (.ret (x, handhere142))) (Wt.pure (.nxt ()))) fun s143 => (Wt.bind (Wt.bind (Wt.pure cell141) fun x => Wt.pure (.inr x)) fun x => Wt.bind (Wt.pure 2) fun j => Wt.bind (Wt.opt (ixN (handhere142).length j)) fun l => (fun handhere144 => (Wt.pure (.nxt handhere144))) ((handhere142).set l x)))) ((xs).set l x))) (Wt.pure (.nxt xs))) fun s135 => (Wt.bind (Wt.bind (Wt.bind (Wt.bind (Wt.pure s135) fun x => Wt.bind (Wt.pure 2) fun y => Wt.opt (atI x y)) fun x => Wt.opt x.i) fun x => Wt.bind (Wt.pure 0) fun y => Wt.pure (decide (y < x))) fun b150 => Wt.andThen (δ := Unit) (Wt.ite b150 (Wt.bind (Wt.bind (Wt.bind (Wt.pure s135) fun x => Wt.bind (Wt.pure 2) fun y => Wt.opt (atI x y)) fun x => Wt.opt x.i) fun rest147 => (Wt.bind (Wt.bind (Wt.bind (Wt.bind (Wt.pure rest147) fun x => Wt.pure x) fun x => Wt.bind (Wt.pure y.1) fun y => Wt.req (CDivW x y) (Wt.pure (x / y))) fun x => Wt.pure (.inr x)) fun x => Wt.bind (Wt.pure 2) fun j => Wt.bind (Wt.opt (ixN (s135).length j)) fun l => (fun handhere148 => (Wt.bind (Wt.bind (Wt.bind (Wt.pure rest147) fun x => Wt.pure x) fun x => Wt.bind (Wt.pure y.1) fun y => Wt.req (0 < y) (Wt.pure (x % y))) fun x => Wt.pure (.ret (x, handhere148)))) ((s135).set l x))) (Wt.pure (.nxt ()))) fun s146 => (Wt.bind (Wt.bind (Wt.bind (Wt.bind (Wt.bind (Wt.bind (Wt.bind (Wt.pure s135) fun x => Wt.bind (Wt.pure 3) fun y => Wt.opt (atI x y)) fun x => Wt.opt x.i) fun x => Wt.bind (Wt.pure 1) fun y => Wt.pure (x + y)) fun x => Wt.pure x) fun x => Wt.bind (Wt.pure 2147483549) fun y => Wt.req (0 < y) (Wt.pure (x % y))) fun x => Wt.pure (.inr x)) fun x => Wt.bind (Wt.pure 3) fun j => Wt.bind (Wt.opt (ixN (s135).length j)) fun l => (fun handhere149 => (Wt.bind (Wt.bind (Wt.bind (Wt.bind (Wt.bind (Wt.bind (Wt.bind (Wt.pure handhere149) fun x => Wt.bind (Wt.pure 3) fun y => Wt.opt (atI x y)) fun x => Wt.opt x.i) fun x => Wt.bind (Wt.bind (Wt.bind (Wt.bind (Wt.pure handhere149) fun x => Wt.bind (Wt.pure 1) fun y => Wt.opt (atI x y)) fun x => Wt.opt x.i) fun x => Wt.bind (Wt.pure ()) fun y => Wt.pure (x, y)) fun y => Wt.pure (x, y)) v__law_mixed) fun x => Wt.pure x) fun x => Wt.bind (Wt.pure y.1) fun y => Wt.req (0 < y) (Wt.pure (x % y))) fun x => Wt.pure (.ret (x, handhere149)))) ((s135).set l x))))
def v__law_take (y : Int × Unit) : Wt Int := wHand (fun y xs => Wt.nox (w__law_take y xs)) y
theorem ok__law_take {P : Program} {w : World} {K : PySem.W.Frag} {mg : Str → Option Value} {base : Heap} (T : Prg K mg) : FnOk P w K mg base (CX P w) 2 (He.fAd K ("_law_take", none)) T.fd__law_take ["_law_hand_here", "_law_many"] (spH K mg mH (aC yI aN) (rkT yI) v__law_take) := by
  have sc := sc__law_take
  refine fn_bodyHX (Ar := (aC yI aN)) T.F__law_take sc rfl (show 2 ≤ 4 by decide) (fun y xs a cdv A outer s H E fr hr hpn hsp hmg hxe => ?_)
  have h : SX (cxOf (L2.CX P w) P w K mg base N__law_take "_law_take" (defScope s__law_take) (He.fAd K ("_law_take", none)) cdv A outer s H E) fr.nox [.mu (mL yU) xs, .sh yI y.1, .un, .un] (defBody s__law_take) _ (rkX a yI) (fun _ : Unit => un K 4) (fun _ : Unit => un K 4) _ := (s_if (Cm := fun (s135 : (List HC)) => [.mu (mL yU) s135, .sh yI y.1, .un, .un]) (t_w (w_and (t_cmp (c_eqI (x_unI (x_ixB (x_bor (i := 0) rfl) x_int)) x_int)) (w_and1 (t_cmp (c_I op_lt (x_unI (x_ixB (x_bor (i := 0) rfl) x_int)) (x_lenB T.n_len (x_bW (x_unL (x_ixB (x_bor (i := 0) rfl) x_int))))))))) (s_set (x_ixB (x_bW (x_unL (x_ixB (x_bor (i := 0) rfl) x_int))) (x_unI (x_ixB (x_bor (i := 0) rfl) x_int))) (show 2 < 4 from by decide) (fun cell141 => (s_setL (i := 0) rfl (x_inI (x_opII op_add (x_unI (x_ixB (x_bor (i := 0) rfl) x_int)) x_int)) x_int (fun handhere142 => (s_if (Cm := fun (s143 : Unit) => [.mu (mL yU) handhere142, .sh yI y.1, .sh yI cell141, .un]) (t_cmp (c_I op_lt (x_var (i := 2) rfl) (x_opIC op_pow x_int x_int))) (s_retX rfl hsp (x_opIC op_mod (x_intI T.n_int (x_call (ok__law_mixed T) (hr.mono (by decide)) T.m__law_mixed T.F__law_mixed.kp (b__law_mixed T) .nil passL hmg (a_cons (x_opIC op_mod (x_intI T.n_int (x_var (i := 2) rfl)) x_int) (a_cons (x_unI (x_ixB (x_bor (i := 0) rfl) x_int)) a_nil)))) (x_var (i := 1) rfl))) (s_nil (s := ()) ⟨.inl rfl, .inl rfl, .inl rfl, .inl rfl, True.intro⟩) (fun s143 => (s_setL (i := 0) rfl (x_inI (x_var (i := 2) rfl)) x_int (fun handhere144 => (s_nil (s := handhere144) ⟨.inl rfl, .inl rfl, .inr rfl, .inl rfl, True.intro⟩)))) ())))) 0 (.inr (by decide)) sc.nd) (s_nil (s := xs) ⟨.inl rfl, .inl rfl, .inl rfl, .inl rfl, True.intro⟩) (fun s135 => (s_if (Cm := fun (s146 : Unit) => [.mu (mL yU) s135, .sh yI y.1, .un, .un]) (t_cmp (c_I op_gt (x_unI (x_ixB (x_bor (i := 0) rfl) x_int)) x_int)) (s_set (x_unI (x_ixB (x_bor (i := 0) rfl) x_int)) (show 3 < 4 from by decide) (fun rest147 => (s_setL (i := 0) rfl (x_inI (x_opIC op_fdivW (x_intI T.n_int (x_var (i := 3) rfl)) (x_var (i := 1) rfl))) x_int (fun handhere148 => (s_retX rfl hsp (x_opIC op_mod (x_intI T.n_int (x_var (i := 3) rfl)) (x_var (i := 1) rfl)))))) 0 (.inr (by decide)) sc.nd) (s_nil (s := ()) ⟨.inl rfl, .inl rfl, .inl rfl, .inl rfl, True.intro⟩) (fun s146 => (s_setL (i := 0) rfl (x_inI (x_opIC op_mod (x_intI T.n_int (x_opII op_add (x_unI (x_ixB (x_bor (i := 0) rfl) x_int)) x_int)) x_int)) x_int (fun handhere149 => (s_retX rfl hsp (x_opIC op_mod (x_intI T.n_int (x_call (ok__law_mixed T) (hr.mono (by decide)) T.m__law_mixed T.F__law_mixed.kp (b__law_mixed T) .nil passL hmg (a_cons (x_unI (x_ixB (x_bor (i := 0) rfl) x_int)) (a_cons (x_unI (x_ixB (x_bor (i := 0) rfl) x_int)) a_nil)))) (x_var (i := 1) rfl)))))) ())) ([]))
  exact ⟨_, sx_nox h⟩
def w__law_power (y : Int × Int × Unit) : Wt (Oc Int Unit Unit) := (Wt.bind (Wt.pure 1) fun total152 => (Wt.bind (Wt.bind (Wt.pure y.2.1) fun x => Wt.req (-(2 ^ 62) ≤ x ∧ x < 2 ^ 62) (Wt.pure (rng 0 x))) fun xs => Wt.andThen (δ := Int) (Wt.forW (fun x153 (s154 : Int) => (Wt.bind (Wt.bind (Wt.pure s154) fun x => Wt.bind (Wt.pure y.1) fun y => Wt.req (CMulW x y) (Wt.pure (x * y))) fun total155 => (Wt.pure (.nxt total155)))) xs total152) fun s154 => (Wt.bind (Wt.pure s154) fun x => Wt.pure (.ret x))))
def v__law_power (y : Int × Int × Unit) : Wt Int := Wt.fin none (Wt.nox (w__law_power y))
theorem ok__law_power {P : Program} {w : World} {K : PySem.W.Frag} {mg : Str → Option Value} {base : Heap} (T : Prg K mg) : FnOk P w K mg base (CX P w) 1 (He.fAd K ("_law_power", none)) T.fd__law_power ["_law_base", "_law_exponent"] (spF K mg (aC yI (aC yI aN)) (rkT yI) v__law_power) := by
  have sc := sc__law_power
  refine fn_body (Ar := (aC yI (aC yI aN))) T.F__law_power sc rfl (show 2 ≤ 4 by decide) (fun _ h => nomatch h) (fun y cdv A outer s H E fr hr hp hmg hxe => ?_)
  have h : SX (cxOf (L2.CX P w) P w K mg base N__law_power "_law_power" (defScope s__law_power) (He.fAd K ("_law_power", none)) cdv A outer s H E) fr.nox [.sh yI y.1, .sh yI y.2.1, .un, .un] (defBody s__law_power) _ (rkT yI) (fun _ : Unit => un K 4) (fun _ : Unit => un K 4) _ := (s_set x_int (show 2 < 4 from by decide) (fun total152 => (s_for (Cs := fun (s154 : Int) => [.sh yI y.1, .sh yI y.2.1, .sh yI s154, .un]) (s0 := total152) (i_rng1 T.n_range (x_var (i := 1) rfl)) ⟨.inl rfl, .inl rfl, .inl rfl, .inl rfl, True.intro⟩ (fun s154 => ⟨(pg_name (i := 3) sc.nd rfl (by first | exact .inl rfl | exact .inr rfl)), (eg_name (t := yI) (i := 3) (show 3 < 4 from by decide) (by decide))⟩) (fun x153 s154 => (s_set (x_opIC op_mulW (x_var (i := 2) rfl) (x_var (i := 0) rfl)) (show 2 < 4 from by decide) (fun total155 => (s_nil (s := total155) ⟨.inl rfl, .inl rfl, .inl rfl, .inr rfl, True.intro⟩)) 0 (.inr (by decide)) sc.nd)) (fun s154 => (s_ret (x_var (i := 2) rfl))) 0 (passes_of rfl))) 0 (.inr (by decide)) sc.nd)
  exact ⟨_, sx_nox h⟩
def w__law_sum (y : (Bool × List Int) × Unit) : Wt (Oc Int Unit Unit) := (Wt.bind (Wt.bind (Wt.bind (Wt.bind (Wt.bind (Wt.pure y.1) fun xs => Wt.pure (xs.2.length : Int)) fun x => Wt.req (-(2 ^ 62) ≤ x ∧ x < 2 ^ 62) (Wt.pure (rng 0 x))) fun xs => Wt.req (xs.length ≤ sizeLine) (Wt.nox (Wt.lc (lcTurn (fun x156 => (Wt.pure true)) (fun x156 => (Wt.bind (Wt.bind (Wt.pure x156) fun x => Wt.bind (Wt.pure 1) fun y => Wt.pure (x + y)) fun x => Wt.bind (Wt.bind (Wt.pure y.1) fun x => Wt.bind (Wt.pure x156) fun y => Wt.opt (atI x.2 y)) fun y => Wt.req (CMulW x y) (Wt.pure (x * y))))) xs))) fun xs => Wt.pure xs.sum) fun x => Wt.pure (.ret x))
def v__law_sum (y : (Bool × List Int) × Unit) : Wt Int := Wt.fin none (Wt.nox (w__law_sum y))
theorem ok__law_sum {P : Program} {w : World} {K : PySem.W.Frag} {mg : Str → Option Value} {base : Heap} (T : Prg K mg) : FnOk P w K mg base (CX P w) 1 (He.fAd K ("_law_sum", none)) T.fd__law_sum ["_law_word"] (spF K mg (aC (yQ yI) aN) (rkT yI) v__law_sum) := by
  have sc := sc__law_sum
  refine fn_body (Ar := (aC (yQ yI) aN)) T.F__law_sum sc rfl (show 1 ≤ 2 by decide) (fun _ h => nomatch h) (fun y cdv A outer s H E fr hr hp hmg hxe => ?_)
  have h : SX (cxOf (L2.CX P w) P w K mg base N__law_sum "_law_sum" (defScope s__law_sum) (He.fAd K ("_law_sum", none)) cdv A outer s H E) fr.nox [.sh (yQ yI) y.1, .un] (defBody s__law_sum) _ (rkT yI) (fun _ : Unit => un K 2) (fun _ : Unit => un K 2) _ := (s_ret (x_sumB T.n_sum (x_bM (x_lc (own := [("_law_k", 1)]) (u := yI) sc.nd (i_rng1 T.n_range (x_lenQ T.n_len (x_var (i := 0) rfl))) (blkOk_by rfl) ⟨fun _ _ _ _ _ => (pg_name (i := 1) sc.nd rfl (by first | exact .inl rfl | exact .inr rfl)), (eg_name (t := yI) (i := 1) (show 1 < 2 from by decide) (by decide))⟩ (fun x156 _ _ _ _ _ => pt_te f_nil (by first | (dsimp only [Cx.blk] <;> rfl) | rfl)) (fun x156 _ _ _ _ _ => ex_te (x_opIC op_mulW (x_opII op_add (x_var (i := 1) rfl) x_int) (x_ixQ (x_var (i := 0) rfl) (x_var (i := 1) rfl))) (by first | (dsimp only [Cx.blk] <;> rfl) | rfl)) 0))))
  exact ⟨_, sx_nox h⟩
def w__law_exact_I (y : Int × Int × Unit) : Wt (Oc Bool Unit Unit) := (Wt.bind (Wt.bind (Wt.pure y.2.1) fun x => Wt.pure (false)) fun b169 => Wt.andThen (δ := Unit) (Wt.ite b169 Wt.never (Wt.pure (.nxt ()))) fun s162 => (Wt.bind (Wt.bind (Wt.bind (Wt.pure y.2.1) fun x => Wt.pure (some x)) fun x => Wt.pure x.isNone) fun b168 => Wt.andThen (δ := Unit) (Wt.ite b168 Wt.never (Wt.pure (.nxt ()))) fun s163 => (Wt.bind (Wt.bind (Wt.pure y.2.1) fun x => Wt.pure (false)) fun b167 => Wt.andThen (δ := Unit) (Wt.ite b167 Wt.never (Wt.pure (.nxt ()))) fun s164 => (Wt.bind (Wt.bind (Wt.pure y.2.1) fun x => Wt.pure (true)) fun b166 => Wt.andThen (δ := Unit) (Wt.ite b166 (Wt.bind (Wt.bind (Wt.bind (Wt.pure y.1) fun x => Wt.pure (true)) fun x => Wt.ite x (Wt.bind (Wt.bind (Wt.bind (Wt.pure y.1) fun x => Wt.pure (false)) fun x => Wt.pure (!x)) fun x => Wt.ite x (Wt.bind (Wt.pure y.1) fun x => Wt.bind (Wt.pure y.2.1) fun y => Wt.pure (decide (x = y))) (Wt.pure false)) (Wt.pure false)) fun x => Wt.pure (.ret x)) Wt.never) fun s165 => Wt.never))))
def v__law_exact_I (y : Int × Int × Unit) : Wt Bool := Wt.fin none (Wt.nox (w__law_exact_I y))
theorem ok__law_exact_I {P : Program} {w : World} {K : PySem.W.Frag} {mg : Str → Option Value} {base : Heap} (T : Prg K mg) : FnOk P w K mg base (CX P w) 1 (He.fAd K ("_law_exact", none)) T.fd__law_exact ["_law_told", "_law_due"] (spF K mg (aC yI (aC yI aN)) (rkT yB) v__law_exact_I) := by
  have sc := sc__law_exact
  refine fn_body (Ar := (aC yI (aC yI aN))) T.F__law_exact sc rfl (show 2 ≤ 3 by decide) (fun _ h => nomatch h) (fun y cdv A outer s H E fr hr hp hmg hxe => ?_)
  have h : SX (cxOf (L2.CX P w) P w K mg base N__law_exact "_law_exact" (defScope s__law_exact) (He.fAd K ("_law_exact", none)) cdv A outer s H E) fr.nox [.sh yI y.1, .sh yI y.2.1, .un] (defBody s__law_exact) _ (rkT yB) (fun _ : Unit => un K 3) (fun _ : Unit => un K 3) _ := (s_if (Cm := fun (s162 : Unit) => [.sh yI y.1, .sh yI y.2.1, .un]) (t_val (x_isi2 (f := fun _ => false) T.n_isinstance T.n_tuple rfl T.n_list rfl tyx_I (fun _ => false) (fun _ => false) (fun _ => rfl) (fun _ => rfl) (fun _ => rfl) (x_var (i := 1) rfl))) s_never (s_nil (s := ()) ⟨.inl rfl, .inl rfl, .inl rfl, True.intro⟩) (fun s162 => (s_if (Cm := fun (s163 : Unit) => [.sh yI y.1, .sh yI y.2.1, .un]) (t_cmp (c_isN noN_I (x_some (x_var (i := 1) rfl)))) s_never (s_nil (s := ()) ⟨.inl rfl, .inl rfl, .inl rfl, True.intro⟩) (fun s163 => (s_if (Cm := fun (s164 : Unit) => [.sh yI y.1, .sh yI y.2.1, .un]) (t_val (x_isi (f := fun x => false) T.n_isinstance T.n_bool rfl tyx_I (fun _ => rfl) (x_var (i := 1) rfl))) s_never (s_nil (s := ()) ⟨.inl rfl, .inl rfl, .inl rfl, True.intro⟩) (fun s164 => (s_if (Cm := fun (s165 : Unit) => [.sh yI y.1, .sh yI y.2.1, .un]) (t_val (x_isi (f := fun x => true) T.n_isinstance T.n_int rfl tyx_I (fun _ => rfl) (x_var (i := 1) rfl))) (s_ret (x_and (x_isi (f := fun x => true) T.n_isinstance T.n_int rfl tyx_I (fun _ => rfl) (x_var (i := 0) rfl)) (x_and (x_not (x_isi (f := fun x => false) T.n_isinstance T.n_bool rfl tyx_I (fun _ => rfl) (x_var (i := 0) rfl))) (x_bo1 (x_cmp (c_eqI (x_var (i := 0) rfl) (x_var (i := 1) rfl))))))) s_never (fun s165 => s_never) ())) ())) ())) ())
  exact ⟨_, sx_nox h⟩
def w__law_exact_T (y : (List Int) × (Bool × List Int) × Unit) : Wt (Oc Bool Unit Unit) := (Wt.bind (Wt.bind (Wt.pure y.2.1) fun x => Wt.pure (true)) fun b161 => Wt.andThen (δ := Unit) (Wt.ite b161 (Wt.bind (Wt.bind (Wt.bind (Wt.bind (Wt.pure y.1) fun x => Wt.pure (true)) fun x => Wt.pure (!x)) fun x => Wt.ite x (Wt.pure true) (Wt.bind (Wt.bind (Wt.pure y.1) fun xs => Wt.pure (xs.length : Int)) fun x => Wt.bind (Wt.bind (Wt.pure y.2.1) fun xs => Wt.pure (xs.2.length : Int)) fun y => Wt.pure (!decide (x = y)))) fun b160 => Wt.andThen (δ := Unit) (Wt.ite b160 (Wt.bind (Wt.pure false) fun x => Wt.pure (.ret x)) (Wt.pure (.nxt ()))) fun s158 => (Wt.bind (Wt.bind (Wt.bind (Wt.bind (Wt.bind (Wt.pure y.2.1) fun xs => Wt.pure (xs.2.length : Int)) fun x => Wt.req (-(2 ^ 62) ≤ x ∧ x < 2 ^ 62) (Wt.pure (rng 0 x))) fun xs => Wt.req (xs.length ≤ sizeLine) (Wt.nox (Wt.lc (lcTurn (fun x159 => (Wt.pure true)) (fun x159 => (Wt.bind (Wt.bind (Wt.bind (Wt.pure y.1) fun x => Wt.bind (Wt.pure x159) fun y => Wt.opt (atI x y)) fun x => Wt.bind (Wt.bind (Wt.bind (Wt.pure y.2.1) fun x => Wt.bind (Wt.pure x159) fun y => Wt.opt (atI x.2 y)) fun x => Wt.bind (Wt.pure ()) fun y => Wt.pure (x, y)) fun y => Wt.pure (x, y)) v__law_exact_I))) xs))) fun xs => Wt.pure (xs.all id)) fun x => Wt.pure (.ret x))) Wt.never) fun s157 => Wt.never)
def v__law_exact_T (y : (List Int) × (Bool × List Int) × Unit) : Wt Bool := Wt.fin none (Wt.nox (w__law_exact_T y))
theorem ok__law_exact_T {P : Program} {w : World} {K : PySem.W.Frag} {mg : Str → Option Value} {base : Heap} (T : Prg K mg) : FnOk P w K mg base (CX P w) 2 (He.fAd K ("_law_exact", none)) T.fd__law_exact ["_law_told", "_law_due"] (spF K mg (aC (yT yI) (aC (yQ yI) aN)) (rkT yB) v__law_exact_T) := by
  have sc := sc__law_exact
  refine fn_body (Ar := (aC (yT yI) (aC (yQ yI) aN))) T.F__law_exact sc rfl (show 2 ≤ 3 by decide) (fun _ h => nomatch h) (fun y cdv A outer s H E fr hr hp hmg hxe => ?_)
  have h : SX (cxOf (L2.CX P w) P w K mg base N__law_exact "_law_exact" (defScope s__law_exact) (He.fAd K ("_law_exact", none)) cdv A outer s H E) fr.nox [.sh (yT yI) y.1, .sh (yQ yI) y.2.1, .un] (defBody s__law_exact) _ (rkT yB) (fun _ : Unit => un K 3) (fun _ : Unit => un K 3) _ := (s_if (Cm := fun (s157 : Unit) => [.sh (yT yI) y.1, .sh (yQ yI) y.2.1, .un]) (t_val (x_isi2 (f := fun _ => true) T.n_isinstance T.n_tuple rfl T.n_list rfl tyx_Q (fun x => !x.1) (fun x => x.1) (fun x => by obtain ⟨b, _⟩ := x; cases b <;> rfl) (fun x => by obtain ⟨b, _⟩ := x; cases b <;> rfl) (fun x => by obtain ⟨b, _⟩ := x; cases b <;> rfl) (x_var (i := 1) rfl))) (s_if (Cm := fun (s158 : Unit) => [.sh (yT yI) y.1, .sh (yQ yI) y.2.1, .un]) (t_w (w_or (t_not (t_val (x_isi (f := fun x => true) T.n_isinstance T.n_tuple rfl tyx_T (fun _ => rfl) (x_var (i := 0) rfl)))) (w_or1 (t_cmp (c_neI (x_lenT T.n_len (x_var (i := 0) rfl)) (x_lenQ T.n_len (x_var (i := 1) rfl))))))) (s_ret x_bl) (s_nil (s := ()) ⟨.inl rfl, .inl rfl, .inl rfl, True.intro⟩) (fun s158 => (s_ret (x_allB T.n_all (x_bM (x_lc (own := [("_law_k", 2)]) (u := yB) sc.nd (i_rng1 T.n_range (x_lenQ T.n_len (x_var (i := 1) rfl))) (blkOk_by rfl) ⟨fun _ _ _ _ _ => (pg_name (i := 2) sc.nd rfl (by first | exact .inl rfl | exact .inr rfl)), (eg_name (t := yI) (i := 2) (show 2 < 3 from by decide) (by decide))⟩ (fun x159 _ _ _ _ _ => pt_te f_nil (by first | (dsimp only [Cx.blk] <;> rfl) | rfl)) (fun x159 _ _ _ _ _ => ex_te (x_call (ok__law_exact_I T) (hr.mono (by decide)) T.m__law_exact T.F__law_exact.kp (b__law_exact T) .nil passL hmg (a_cons (x_ixT (x_var (i := 0) rfl) (x_var (i := 2) rfl)) (a_cons (x_ixQ (x_var (i := 1) rfl) (x_var (i := 2) rfl)) a_nil))) (by first | (dsimp only [Cx.blk] <;> rfl) | rfl)) 0))))) ()) s_never (fun s157 => s_never) ())
  exact ⟨_, sx_nox h⟩
def w__law_exact_B (y : Bool × Bool × Unit) : Wt (Oc Bool Unit Unit) := (Wt.bind (Wt.bind (Wt.pure y.2.1) fun x => Wt.pure (false)) fun b175 => Wt.andThen (δ := Unit) (Wt.ite b175 Wt.never (Wt.pure (.nxt ()))) fun s170 => (Wt.bind (Wt.bind (Wt.bind (Wt.pure y.2.1) fun x => Wt.pure (some x)) fun x => Wt.pure x.isNone) fun b174 => Wt.andThen (δ := Unit) (Wt.ite b174 Wt.never (Wt.pure (.nxt ()))) fun s171 => (Wt.bind (Wt.bind (Wt.pure y.2.1) fun x => Wt.pure (true)) fun b173 => Wt.andThen (δ := Unit) (Wt.ite b173 (Wt.bind (Wt.bind (Wt.bind (Wt.pure y.1) fun x => Wt.pure (true)) fun x => Wt.ite x (Wt.bind (Wt.pure y.1) fun x => Wt.bind (Wt.pure y.2.1) fun y => Wt.pure (x == y)) (Wt.pure false)) fun x => Wt.pure (.ret x)) Wt.never) fun s172 => Wt.never)))
def v__law_exact_B (y : Bool × Bool × Unit) : Wt Bool := Wt.fin none (Wt.nox (w__law_exact_B y))
theorem ok__law_exact_B {P : Program} {w : World} {K : PySem.W.Frag} {mg : Str → Option Value} {base : Heap} (T : Prg K mg) : FnOk P w K mg base (CX P w) 1 (He.fAd K ("_law_exact", none)) T.fd__law_exact ["_law_told", "_law_due"] (spF K mg (aC yB (aC yB aN)) (rkT yB) v__law_exact_B) := by
  have sc := sc__law_exact
  refine fn_body (Ar := (aC yB (aC yB aN))) T.F__law_exact sc rfl (show 2 ≤ 3 by decide) (fun _ h => nomatch h) (fun y cdv A outer s H E fr hr hp hmg hxe => ?_)
  have h : SX (cxOf (L2.CX P w) P w K mg base N__law_exact "_law_exact" (defScope s__law_exact) (He.fAd K ("_law_exact", none)) cdv A outer s H E) fr.nox [.sh yB y.1, .sh yB y.2.1, .un] (defBody s__law_exact) _ (rkT yB) (fun _ : Unit => un K 3) (fun _ : Unit => un K 3) _ := (s_if (Cm := fun (s170 : Unit) => [.sh yB y.1, .sh yB y.2.1, .un]) (t_val (x_isi2 (f := fun _ => false) T.n_isinstance T.n_tuple rfl T.n_list rfl tyx_B (fun _ => false) (fun _ => false) (fun _ => rfl) (fun _ => rfl) (fun _ => rfl) (x_var (i := 1) rfl))) s_never (s_nil (s := ()) ⟨.inl rfl, .inl rfl, .inl rfl, True.intro⟩) (fun s170 => (s_if (Cm := fun (s171 : Unit) => [.sh yB y.1, .sh yB y.2.1, .un]) (t_cmp (c_isN noN_B (x_some (x_var (i := 1) rfl)))) s_never (s_nil (s := ()) ⟨.inl rfl, .inl rfl, .inl rfl, True.intro⟩) (fun s171 => (s_if (Cm := fun (s172 : Unit) => [.sh yB y.1, .sh yB y.2.1, .un]) (t_val (x_isi (f := fun x => true) T.n_isinstance T.n_bool rfl tyx_B (fun _ => rfl) (x_var (i := 1) rfl))) (s_ret (x_and (x_isi (f := fun x => true) T.n_isinstance T.n_bool rfl tyx_B (fun _ => rfl) (x_var (i := 0) rfl)) (x_bo1 (x_cmp (c_eqB (x_var (i := 0) rfl) (x_var (i := 1) rfl)))))) s_never (fun s172 => s_never) ())) ())) ())
  exact ⟨_, sx_nox h⟩
def w__law_either (y : (Bool × List Int) × Unit) : Wt (Oc (Bool × List Int) Unit Unit) := (Wt.bind (Wt.bind (Wt.bind (Wt.bind (Wt.bind (Wt.pure 2) fun x => Wt.bind (Wt.pure ()) fun y => Wt.pure (x, y)) v__law_take) fun x => Wt.bind (Wt.pure 0) fun y => Wt.pure (decide (x = y))) fun x => Wt.ite x (Wt.bind (Wt.bind (Wt.pure y.1) fun xs => Wt.pure xs.2) fun x => Wt.pure (true, x)) (Wt.bind (Wt.bind (Wt.pure y.1) fun xs => Wt.pure xs.2) fun x => Wt.pure (false, x))) fun x => Wt.pure (.ret x))
def v__law_either (y : (Bool × List Int) × Unit) : Wt (Bool × List Int) := Wt.fin none (Wt.nox (w__law_either y))
theorem ok__law_either {P : Program} {w : World} {K : PySem.W.Frag} {mg : Str → Option Value} {base : Heap} (T : Prg K mg) : FnOk P w K mg base (CX P w) 3 (He.fAd K ("_law_either", none)) T.fd__law_either ["_law_hand_here", "_law_word"] (spH K mg mH (aC (yQ yI) aN) (rkT (yQ yI)) v__law_either) := by
  have sc := sc__law_either
  refine fn_bodyH (Ar := (aC (yQ yI) aN)) T.F__law_either sc rfl (show 2 ≤ 2 by decide) (fun _ h => nomatch h) (fun y cdv A outer s H E fr hr hmg hxe => ?_)
  have h : SX (cxOf (L2.CX P w) P w K mg base N__law_either "_law_either" (defScope s__law_either) (He.fAd K ("_law_either", none)) cdv A outer s H E) fr.nox [.hd mH, .sh (yQ yI) y.1] (defBody s__law_either) _ (rkT (yQ yI)) (fun _ : Unit => .hd mH :: un K 1) (fun _ : Unit => .hd mH :: un K 1) _ := (s_ret (x_if (t_cmp (c_eqI (x_callH (ok__law_take T) (hr.mono (by decide)) T.m__law_take T.F__law_take.kp (b__law_take T) .nil passL hmg (i := 0) rfl (a_cons x_int a_nil)) x_int)) (x_qL (x_fix (x_listQ T.n_list (x_var (i := 1) rfl)))) (x_qT (x_tupQ T.n_tuple (x_var (i := 1) rfl)))))
  exact ⟨_, sx_nox h⟩
def w__law_doubling (y : Int × Unit) : Wt (Oc (List Int) Unit Unit) := (Wt.bind (Wt.pure ([] : List Int)) fun told176 => (Wt.bind (Wt.pure 1) fun place177 => (Wt.bind (Wt.bind (Wt.pure 9) fun x => Wt.req (-(2 ^ 62) ≤ x ∧ x < 2 ^ 62) (Wt.pure (rng 0 x))) fun xs => Wt.andThen (δ := (List Int) × Int) (Wt.forW (fun x178 (s179 : (List Int) × Int) => (Wt.bind (Wt.bind (Wt.pure s179.2) fun x => Wt.bind (Wt.pure y.1) fun y => Wt.pure (decide (x ≤ y))) fun b183 => Wt.andThen (δ := (List Int)) (Wt.ite b183 (Wt.bind (Wt.pure s179.2) fun x181 => Wt.req ((s179.1).length < sizeLine) (Wt.pure (.nxt (s179.1 ++ [x181])))) (Wt.pure (.nxt s179.1))) fun s180 => (Wt.bind (Wt.bind (Wt.pure s179.2) fun x => Wt.bind (Wt.pure 2) fun y => Wt.req (CMulW x y) (Wt.pure (x * y))) fun place182 => (Wt.pure (.nxt (s180, place182)))))) xs (told176, place177)) fun s179 => (Wt.pure (.ret s179.1)))))
def v__law_doubling (y : Int × Unit) : Wt (List Int) := Wt.fin none (Wt.nox (w__law_doubling y))
theorem ok__law_doubling {P : Program} {w : World} {K : PySem.W.Frag} {mg : Str → Option Value} {base : Heap} (T : Prg K mg) : FnOk P w K mg base (CX P w) 1 (He.fAd K ("_law_doubling", none)) T.fd__law_doubling ["_law_length"] (spF K mg (aC yI aN) (rkM (mL yI)) v__law_doubling) := by
  have sc := sc__law_doubling
  refine fn_body (Ar := (aC yI aN)) T.F__law_doubling sc rfl (show 1 ≤ 4 by decide) (fun _ h => nomatch h) (fun y cdv A outer s H E fr hr hp hmg hxe => ?_)
  have h : SX (cxOf (L2.CX P w) P w K mg base N__law_doubling "_law_doubling" (defScope s__law_doubling) (He.fAd K ("_law_doubling", none)) cdv A outer s H E) fr.nox [.sh yI y.1, .un, .un, .un] (defBody s__law_doubling) _ (rkM (mL yI)) (fun _ : Unit => un K 4) (fun _ : Unit => un K 4) _ := (s_setM (x_lst (t := yI) l_nil) (show 1 < 4 from by decide) (fun told176 => (s_set x_int (show 2 < 4 from by decide) (fun place177 => (s_for (Cs := fun (s179 : (List Int) × Int) => [.sh yI y.1, .mu (mL yI) s179.1, .sh yI s179.2, .un]) (s0 := (told176, place177)) (i_rng1 T.n_range x_int) ⟨.inl rfl, .inl rfl, .inl rfl, .inl rfl, True.intro⟩ (fun s179 => ⟨(pg_name (i := 3) sc.nd rfl (by first | exact .inl rfl | exact .inr rfl)), (eg_name (t := yI) (i := 3) (show 3 < 4 from by decide) (by decide))⟩) (fun x178 s179 => (s_if (Cm := fun (s180 : (List Int)) => [.sh yI y.1, .mu (mL yI) s180, .sh yI s179.2, .sh yI x178]) (t_cmp (c_I op_le (x_var (i := 2) rfl) (x_var (i := 0) rfl))) (s_app (i := 1) rfl (x_var (i := 2) rfl) (fun x181 => (s_nil (s := (s179.1 ++ [x181])) ⟨.inl rfl, .inl rfl, .inl rfl, .inl rfl, True.intro⟩)) 0) (s_nil (s := s179.1) ⟨.inl rfl, .inl rfl, .inl rfl, .inl rfl, True.intro⟩) (fun s180 => (s_set (x_opIC op_mulW (x_var (i := 2) rfl) x_int) (show 2 < 4 from by decide) (fun place182 => (s_nil (s := (s180, place182)) ⟨.inl rfl, .inl rfl, .inl rfl, .inr rfl, True.intro⟩)) 0 (.inr (by decide)) sc.nd)) ([]))) (fun s179 => (s_retV (i := 1) rfl hp.1)) 0 (passes_of rfl))) 0 (.inr (by decide)) sc.nd)) [] (.inr (by decide)) sc.nd)
  exact ⟨_, sx_nox h⟩
def w__law_free (y : Int × Bool × Unit) : Wt (Oc (List Int) Unit Unit) := (Wt.bind (Wt.bind (Wt.bind (Wt.bind (Wt.pure y.1) fun x => Wt.bind (Wt.pure ()) fun y => Wt.pure (x, y)) v__law_doubling) fun x => Wt.bind (Wt.bind (Wt.pure y.2.1) fun x => Wt.ite x (Wt.bind (Wt.pure y.1) fun x => Wt.bind (Wt.pure []) fun xs => Wt.pure (x :: xs)) (Wt.pure ([] : List Int))) fun y => Wt.req (x.length + y.length ≤ sizeLine) (Wt.pure (x ++ y))) fun fixed184 => (Wt.bind (Wt.bind (Wt.bind (Wt.pure 1) fun x => Wt.bind (Wt.bind (Wt.pure y.1) fun x => Wt.bind (Wt.pure 1) fun y => Wt.pure (x + y)) fun y => Wt.req (-(2 ^ 62) ≤ x ∧ x < 2 ^ 62 ∧ -(2 ^ 62) ≤ y ∧ y < 2 ^ 62) (Wt.pure (rng x y))) fun xs => Wt.req (xs.length ≤ sizeLine) (Wt.nox (Wt.lc (lcTurn (fun x185 => (Wt.bind (Wt.pure x185) fun x => Wt.bind (Wt.pure fixed184) fun xs => Wt.pure (!decide (x ∈ xs)))) (fun x185 => (Wt.pure x185))) xs))) fun x => Wt.pure (.ret x)))
def v__law_free (y : Int × Bool × Unit) : Wt (List Int) := Wt.fin none (Wt.nox (w__law_free y))
theorem ok__law_free {P : Program} {w : World} {K : PySem.W.Frag} {mg : Str → Option Value} {base : Heap} (T : Prg K mg) : FnOk P w K mg base (CX P w) 2 (He.fAd K ("_law_free", none)) T.fd__law_free ["_law_length", "_law_wrong"] (spF K mg (aC yI (aC yB aN)) (rkM (mL yI)) v__law_free) := by
  have sc := sc__law_free
  refine fn_body (Ar := (aC yI (aC yB aN))) T.F__law_free sc rfl (show 2 ≤ 4 by decide) (fun _ h => nomatch h) (fun y cdv A outer s H E fr hr hp hmg hxe => ?_)
  have h : SX (cxOf (L2.CX P w) P w K mg base N__law_free "_law_free" (defScope s__law_free) (He.fAd K ("_law_free", none)) cdv A outer s H E) fr.nox [.sh yI y.1, .sh yB y.2.1, .un, .un] (defBody s__law_free) _ (rkM (mL yI)) (fun _ : Unit => un K 4) (fun _ : Unit => un K 4) _ := (s_setM (x_catL (x_bM (x_callM (ok__law_doubling T) (hr.mono (by decide)) T.m__law_doubling T.F__law_doubling.kp (b__law_doubling T) .nil passL hmg (a_cons (x_var (i := 0) rfl) a_nil))) (x_bM (x_ifM (t_val (x_var (i := 1) rfl)) (x_lst (l_cons (x_var (i := 0) rfl) l_nil)) (x_lst (t := yI) l_nil)))) (show 2 < 4 from by decide) (fun fixed184 => (s_retM (x_lc (own := [("_law_place", 3)]) (u := yI) sc.nd (i_rng2 T.n_range x_int (x_opII op_add (x_var (i := 0) rfl) x_int)) (blkOk_by rfl) ⟨fun _ _ _ _ _ => (pg_name (i := 3) sc.nd rfl (by first | exact .inl rfl | exact .inr rfl)), (eg_name (t := yI) (i := 3) (show 3 < 4 from by decide) (by decide))⟩ (fun x185 _ _ _ _ _ => pt_te (f_one (t_cmp (c_niB (x_var (i := 3) rfl) (x_bor (i := 2) rfl)))) (by first | (dsimp only [Cx.blk] <;> rfl) | rfl)) (fun x185 _ _ _ _ _ => ex_te (x_var (i := 3) rfl) (by first | (dsimp only [Cx.blk] <;> rfl) | rfl)) 0))) [] (.inr (by decide)) sc.nd)
  exact ⟨_, sx_nox h⟩
def w__law_data (y : Int × Int × (List Int) × Bool × Unit) : Wt (Oc (List Int) Unit Unit) := (Wt.bind (Wt.bind (Wt.pure y.2.2.2.1) fun x => Wt.ite x (Wt.bind (Wt.pure 2) fun x => Wt.bind (Wt.pure y.1) fun y => Wt.req (CMulW x y) (Wt.pure (x * y))) (Wt.bind (Wt.pure y.1) fun x => Wt.bind (Wt.pure 1) fun y => Wt.pure (x + y))) fun modulus186 => (Wt.bind (Wt.bind (Wt.bind (Wt.pure y.1) fun x => Wt.bind (Wt.bind (Wt.pure y.2.2.2.1) fun x => Wt.bind (Wt.pure ()) fun y => Wt.pure (x, y)) fun y => Wt.pure (x, y)) v__law_free) fun freehere187 => (Wt.bind (Wt.bind (Wt.bind (Wt.pure 0) fun x => Wt.bind (Wt.pure []) fun xs => Wt.pure (x :: xs)) fun x => Wt.bind (Wt.pure y.1) fun y => Wt.req (-(2 ^ 63) ≤ y ∧ y < 2 ^ 63 ∧ x.length * y.toNat ≤ sizeLine) (Wt.pure (List.replicate y.toNat x).flatten)) fun word188 => (Wt.bind (Wt.bind (Wt.bind (Wt.pure freehere187) fun xs => Wt.pure (xs.length : Int)) fun x => Wt.req (-(2 ^ 62) ≤ x ∧ x < 2 ^ 62) (Wt.pure (rng 0 x))) fun xs => Wt.andThen (δ := (List Int)) (Wt.forW (fun x189 (s190 : (List Int)) => (Wt.bind (Wt.bind (Wt.pure y.2.2.1) fun x => Wt.bind (Wt.pure x189) fun y => Wt.opt (atI x y)) fun x => Wt.bind (Wt.bind (Wt.bind (Wt.pure freehere187) fun x => Wt.bind (Wt.pure x189) fun y => Wt.opt (atI x y)) fun x => Wt.bind (Wt.pure 1) fun y => Wt.pure (x - y)) fun j => Wt.bind (Wt.opt (ixN (s190).length j)) fun l => (fun word191 => (Wt.pure (.nxt word191))) ((s190).set l x))) xs word188) fun s190 => (Wt.bind (Wt.bind (Wt.bind (Wt.bind (Wt.pure y.2.1) fun x => Wt.bind (v__law_sum ((true, s190), ())) fun y => Wt.pure (x - y)) fun x => Wt.pure x) fun x => Wt.bind (Wt.pure modulus186) fun y => Wt.req (0 < y) (Wt.pure (x % y))) fun lacking192 => (Wt.bind (Wt.bind (Wt.bind (Wt.pure y.1) fun x => Wt.bind (Wt.pure ()) fun y => Wt.pure (x, y)) v__law_doubling) fun fixed193 => (Wt.bind (Wt.bind (Wt.pure y.2.2.2.1) fun x => Wt.ite x (Wt.bind (Wt.bind (Wt.pure y.1) fun x => Wt.bind (Wt.pure fixed193) fun xs => Wt.pure (!decide (x ∈ xs))) fun x => Wt.ite x (Wt.bind (Wt.pure lacking192) fun x => Wt.bind (Wt.bind (Wt.pure fixed193) fun xs => Wt.pure xs.sum) fun y => Wt.pure (decide (y < x))) (Wt.pure false)) (Wt.pure false)) fun b200 => Wt.andThen (δ := (List Int) × Int) (Wt.ite b200 (Wt.bind (Wt.pure 1) fun x => Wt.bind (Wt.bind (Wt.pure y.1) fun x => Wt.bind (Wt.pure 1) fun y => Wt.pure (x - y)) fun j => Wt.bind (Wt.opt (ixN (s190).length j)) fun l => (fun word195 => (Wt.bind (Wt.bind (Wt.pure lacking192) fun x => Wt.bind (Wt.pure y.1) fun y => Wt.pure (x - y)) fun lacking196 => (Wt.pure (.nxt (word195, lacking196))))) ((s190).set l x)) (Wt.pure (.nxt (s190, lacking192)))) fun s194 => (Wt.bind (Wt.pure fixed193) fun xs => Wt.andThen (δ := (List Int)) (Wt.forW (fun x197 (s198 : (List Int)) => (Wt.bind (Wt.bind (Wt.bind (Wt.bind (Wt.pure s194.2) fun x => Wt.bind (Wt.pure x197) fun y => Wt.req (CDivW x y) (Wt.pure (x / y))) fun x => Wt.pure x) fun x => Wt.bind (Wt.pure 2) fun y => Wt.req (0 < y) (Wt.pure (x % y))) fun x => Wt.bind (Wt.bind (Wt.pure x197) fun x => Wt.bind (Wt.pure 1) fun y => Wt.pure (x - y)) fun j => Wt.bind (Wt.opt (ixN (s198).length j)) fun l => (fun word199 => (Wt.pure (.nxt word199))) ((s198).set l x))) xs s194.1) fun s198 => (Wt.bind (Wt.bind (Wt.pure s198) fun xs => Wt.pure xs) fun x => Wt.pure (.ret x))))))))))
def v__law_data (y : Int × Int × (List Int) × Bool × Unit) : Wt (List Int) := Wt.fin none (Wt.nox (w__law_data y))
theorem ok__law_data {P : Program} {w : World} {K : PySem.W.Frag} {mg : Str → Option Value} {base : Heap} (T : Prg K mg) : FnOk P w K mg base (CX P w) 3 (He.fAd K ("_law_data", none)) T.fd__law_data ["_law_length", "_law_rest", "_law_bits_here", "_law_wrong"] (spF K mg (aC yI (aC yI (aC (yL yI) (aC yB aN)))) (rkT (yT yI)) v__law_data) := by
  have sc := sc__law_data
  refine fn_body (Ar := (aC yI (aC yI (aC (yL yI) (aC yB aN))))) T.F__law_data sc rfl (show 4 ≤ 11 by decide) (fun _ h => nomatch h) (fun y cdv A outer s H E fr hr hp hmg hxe => ?_)
  have h : SX (cxOf (L2.CX P w) P w K mg base N__law_data "_law_data" (defScope s__law_data) (He.fAd K ("_law_data", none)) cdv A outer s H E) fr.nox [.sh yI y.1, .sh yI y.2.1, .sh (yL yI) y.2.2.1, .sh yB y.2.2.2.1, .un, .un, .un, .un, .un, .un, .un] (defBody s__law_data) _ (rkT (yT yI)) (fun _ : Unit => un K 11) (fun _ : Unit => un K 11) _ := (s_set (x_if (t_val (x_var (i := 3) rfl)) (x_opIC op_mulW x_int (x_var (i := 0) rfl)) (x_opII op_add (x_var (i := 0) rfl) x_int)) (show 4 < 11 from by decide) (fun modulus186 => (s_setM (x_callM (ok__law_free T) (hr.mono (by decide)) T.m__law_free T.F__law_free.kp (b__law_free T) .nil passL hmg (a_cons (x_var (i := 0) rfl) (a_cons (x_var (i := 3) rfl) a_nil))) (show 5 < 11 from by decide) (fun freehere187 => (s_setM (x_repL (x_bM (x_lst (l_cons x_int l_nil))) (x_var (i := 0) rfl)) (show 6 < 11 from by decide) (fun word188 => (s_for (Cs := fun (s190 : (List Int)) => [.sh yI y.1, .sh yI y.2.1, .sh (yL yI) y.2.2.1, .sh yB y.2.2.2.1, .sh yI modulus186, .mu (mL yI) freehere187, .mu (mL yI) s190, .un, .un, .un, .un]) (s0 := word188) (i_rng1 T.n_range (x_lenB T.n_len (x_bor (i := 5) rfl))) ⟨.inl rfl, .inl rfl, .inl rfl, .inl rfl, .inl rfl, .inl rfl, .inl rfl, .inl rfl, .inl rfl, .inl rfl, .inl rfl, True.intro⟩ (fun s190 => ⟨(pg_name (i := 7) sc.nd rfl (by first | exact .inl rfl | exact .inr rfl)), (eg_name (t := yI) (i := 7) (show 7 < 11 from by decide) (by decide))⟩) (fun x189 s190 => (s_setL (i := 6) rfl (x_ixB (x_bW (x_var (i := 2) rfl)) (x_var (i := 7) rfl)) (x_opII op_sub (x_ixB (x_bor (i := 5) rfl) (x_var (i := 7) rfl)) x_int) (fun word191 => (s_nil (s := word191) ⟨.inl rfl, .inl rfl, .inl rfl, .inl rfl, .inl rfl, .inl rfl, .inl rfl, .inr rfl, .inl rfl, .inl rfl, .inl rfl, True.intro⟩)))) (fun s190 => (s_set (x_opIC op_mod (x_intI T.n_int (x_opII op_sub (x_var (i := 1) rfl) (x_callB1 (ok__law_sum T) (hr.mono (by decide)) T.m__law_sum T.F__law_sum.kp (b__law_sum T) passL hmg (i := 6) rfl))) (x_var (i := 4) rfl)) (show 8 < 11 from by decide) (fun lacking192 => (s_setM (x_callM (ok__law_doubling T) (hr.mono (by decide)) T.m__law_doubling T.F__law_doubling.kp (b__law_doubling T) .nil passL hmg (a_cons (x_var (i := 0) rfl) a_nil)) (show 9 < 11 from by decide) (fun fixed193 => (s_if (Cm := fun (s194 : (List Int) × Int) => [.sh yI y.1, .sh yI y.2.1, .sh (yL yI) y.2.2.1, .sh yB y.2.2.2.1, .sh yI modulus186, .mu (mL yI) freehere187, .mu (mL yI) s194.1, .un, .sh yI s194.2, .mu (mL yI) fixed193, .un]) (t_w (w_and (t_val (x_var (i := 3) rfl)) (w_and (t_cmp (c_niB (x_var (i := 0) rfl) (x_bor (i := 9) rfl))) (w_and1 (t_cmp (c_I op_gt (x_var (i := 8) rfl) (x_sumB T.n_sum (x_bor (i := 9) rfl)))))))) (s_setL (i := 6) rfl x_int (x_opII op_sub (x_var (i := 0) rfl) x_int) (fun word195 => (s_set (x_opII op_sub (x_var (i := 8) rfl) (x_var (i := 0) rfl)) (show 8 < 11 from by decide) (fun lacking196 => (s_nil (s := (word195, lacking196)) ⟨.inl rfl, .inl rfl, .inl rfl, .inl rfl, .inl rfl, .inl rfl, .inl rfl, .inl rfl, .inl rfl, .inl rfl, .inl rfl, True.intro⟩)) 0 (.inr (by decide)) sc.nd))) (s_nil (s := (s190, lacking192)) ⟨.inl rfl, .inl rfl, .inl rfl, .inl rfl, .inl rfl, .inl rfl, .inl rfl, .inl rfl, .inl rfl, .inl rfl, .inl rfl, True.intro⟩) (fun s194 => (s_frz (i := 9) rfl (s_for (Cs := fun (s198 : (List Int)) => [.sh yI y.1, .sh yI y.2.1, .sh (yL yI) y.2.2.1, .sh yB y.2.2.2.1, .sh yI modulus186, .mu (mL yI) freehere187, .mu (mL yI) s198, .un, .sh yI s194.2, .sh (yL yI) fixed193, .un]) (s0 := s194.1) (i_L (x_var (i := 9) rfl)) ⟨.inl rfl, .inl rfl, .inl rfl, .inl rfl, .inl rfl, .inl rfl, .inl rfl, .inl rfl, .inl rfl, .inl rfl, .inl rfl, True.intro⟩ (fun s198 => ⟨(pg_name (i := 10) sc.nd rfl (by first | exact .inl rfl | exact .inr rfl)), (eg_name (t := yI) (i := 10) (show 10 < 11 from by decide) (by decide))⟩) (fun x197 s198 => (s_setL (i := 6) rfl (x_opIC op_mod (x_intI T.n_int (x_opIC op_fdivW (x_var (i := 8) rfl) (x_var (i := 10) rfl))) x_int) (x_opII op_sub (x_var (i := 10) rfl) x_int) (fun word199 => (s_nil (s := word199) ⟨.inl rfl, .inl rfl, .inl rfl, .inl rfl, .inl rfl, .inl rfl, .inl rfl, .inl rfl, .inl rfl, .inl rfl, .inr rfl, True.intro⟩)))) (fun s198 => (s_ret (x_tupB T.n_tuple (x_bor (i := 6) rfl)))) 0 (passes_of rfl)) (.inr (by decide)))) ([], 0))) [] (.inr (by decide)) sc.nd)) 0 (.inr (by decide)) sc.nd)) 0 (passes_of rfl))) [] (.inr (by decide)) sc.nd)) [] (.inr (by decide)) sc.nd)) 0 (.inr (by decide)) sc.nd)
  exact ⟨_, sx_nox h⟩
def w__law_bits (y : Int × Int × Unit) : Wt (Oc (List Int) Unit Unit) := (Wt.bind (Wt.pure ([] : List Int)) fun told201 => (Wt.bind (Wt.bind (Wt.pure y.2.1) fun x => Wt.req (-(2 ^ 62) ≤ x ∧ x < 2 ^ 62) (Wt.pure (rng 0 x))) fun xs => Wt.andThen (δ := Int × (List Int)) (Wt.forW (fun x202 (s203 : Int × (List Int)) => (Wt.bind (Wt.bind (Wt.bind (Wt.pure s203.1) fun x => Wt.pure x) fun x => Wt.bind (Wt.pure 2) fun y => Wt.req (0 < y) (Wt.pure (x % y))) fun x204 => Wt.req ((s203.2).length < sizeLine) (Wt.bind (Wt.bind (Wt.bind (Wt.pure s203.1) fun x => Wt.pure x) fun x => Wt.bind (Wt.pure 2) fun y => Wt.req (CDivW x y) (Wt.pure (x / y))) fun number205 => (Wt.pure (.nxt (number205, (s203.2 ++ [x204]))))))) xs (y.1, told201)) fun s203 => (Wt.pure (.ret s203.2))))
def v__law_bits (y : Int × Int × Unit) : Wt (List Int) := Wt.fin none (Wt.nox (w__law_bits y))
theorem ok__law_bits {P : Program} {w : World} {K : PySem.W.Frag} {mg : Str → Option Value} {base : Heap} (T : Prg K mg) : FnOk P w K mg base (CX P w) 1 (He.fAd K ("_law_bits", none)) T.fd__law_bits ["_law_number", "_law_many"] (spF K mg (aC yI (aC yI aN)) (rkM (mL yI)) v__law_bits) := by
  have sc := sc__law_bits
  refine fn_body (Ar := (aC yI (aC yI aN))) T.F__law_bits sc rfl (show 2 ≤ 4 by decide) (fun _ h => nomatch h) (fun y cdv A outer s H E fr hr hp hmg hxe => ?_)
  have h : SX (cxOf (L2.CX P w) P w K mg base N__law_bits "_law_bits" (defScope s__law_bits) (He.fAd K ("_law_bits", none)) cdv A outer s H E) fr.nox [.sh yI y.1, .sh yI y.2.1, .un, .un] (defBody s__law_bits) _ (rkM (mL yI)) (fun _ : Unit => un K 4) (fun _ : Unit => un K 4) _ := (s_setM (x_lst (t := yI) l_nil) (show 2 < 4 from by decide) (fun told201 => (s_for (Cs := fun (s203 : Int × (List Int)) => [.sh yI s203.1, .sh yI y.2.1, .mu (mL yI) s203.2, .un]) (s0 := (y.1, told201)) (i_rng1 T.n_range (x_var (i := 1) rfl)) ⟨.inl rfl, .inl rfl, .inl rfl, .inl rfl, True.intro⟩ (fun s203 => ⟨(pg_name (i := 3) sc.nd rfl (by first | exact .inl rfl | exact .inr rfl)), (eg_name (t := yI) (i := 3) (show 3 < 4 from by decide) (by decide))⟩) (fun x202 s203 => (s_app (i := 2) rfl (x_opIC op_mod (x_intI T.n_int (x_var (i := 0) rfl)) x_int) (fun x204 => (s_set (x_opIC op_fdivW (x_intI T.n_int (x_var (i := 0) rfl)) x_int) (show 0 < 4 from by decide) (fun number205 => (s_nil (s := (number205, (s203.2 ++ [x204]))) ⟨.inl rfl, .inl rfl, .inl rfl, .inr rfl, True.intro⟩)) 0 (.inl hp) sc.nd)) 0)) (fun s203 => (s_retV (i := 2) rfl hp.1)) 0 (passes_of rfl))) [] (.inr (by decide)) sc.nd)
  exact ⟨_, sx_nox h⟩
def w__law_word_holds (y : Int × Int × (List Int) × Bool × Unit) : Wt (Oc Bool Unit Unit) := (Wt.bind (Wt.bind (Wt.bind (Wt.bind (Wt.pure y.2.2.1) fun x => Wt.pure (true, x)) fun x => Wt.bind (Wt.pure ()) fun y => Wt.pure (x, y)) v__law_either) fun given206 => (Wt.bind (Wt.bind (Wt.bind (Wt.pure y.1) fun x => Wt.bind (Wt.bind (Wt.pure y.2.1) fun x => Wt.bind (Wt.bind (Wt.pure y.2.2.1) fun x => Wt.bind (Wt.bind (Wt.pure y.2.2.2.1) fun x => Wt.bind (Wt.pure ()) fun y => Wt.pure (x, y)) fun y => Wt.pure (x, y)) fun y => Wt.pure (x, y)) fun y => Wt.pure (x, y)) v__law_data) fun due207 => (Wt.bind (Wt.bind (Wt.bind (Wt.pure y.1) fun x => Wt.bind (Wt.bind (Wt.pure y.2.1) fun x => Wt.bind (Wt.bind (Wt.pure given206) fun x => Wt.bind (Wt.pure ()) fun y => Wt.pure (x, y)) fun y => Wt.pure (x, y)) fun y => Wt.pure (x, y)) fun x => Wt.bind (Wt.pure y.2.2.2.1) fun y => v_data_word (x.1, x.2.1, x.2.2.1, y, ())) fun told208 => (Wt.bind (Wt.bind (Wt.bind (Wt.bind (Wt.bind (Wt.pure told208) fun x => Wt.bind (Wt.bind (Wt.bind (Wt.pure due207) fun x => Wt.pure (false, x)) fun x => Wt.bind (Wt.pure ()) fun y => Wt.pure (x, y)) fun y => Wt.pure (x, y)) v__law_exact_T) fun x => Wt.pure (!x)) fun x => Wt.ite x (Wt.pure true) (Wt.bind (Wt.bind (Wt.pure given206) fun xs => Wt.pure xs.2) fun x => Wt.bind (Wt.bind (Wt.pure y.2.2.1) fun xs => Wt.pure xs) fun y => Wt.pure (!PyData.eqv ((fun xs => PyData.list (xs.map PyData.int)) x) ((fun xs => PyData.list (xs.map PyData.int)) y)))) fun b219 => Wt.andThen (δ := Unit) (Wt.ite b219 (Wt.bind (Wt.pure false) fun x => Wt.pure (.ret x)) (Wt.pure (.nxt ()))) fun s209 => (Wt.bind (Wt.bind (Wt.bind (Wt.pure y.2.2.2.1) fun x => Wt.pure (!x)) fun x => Wt.ite x (Wt.bind (Wt.bind (Wt.bind (Wt.bind (Wt.bind (Wt.pure y.1) fun x => Wt.bind (Wt.bind (Wt.pure y.2.1) fun x => Wt.bind (Wt.bind (Wt.pure given206) fun x => Wt.bind (Wt.pure (false, ())) fun y => Wt.pure (x, y)) fun y => Wt.pure (x, y)) fun y => Wt.pure (x, y)) v_data_word) fun x => Wt.bind (Wt.bind (Wt.bind (Wt.pure due207) fun x => Wt.pure (false, x)) fun x => Wt.bind (Wt.pure ()) fun y => Wt.pure (x, y)) fun y => Wt.pure (x, y)) v__law_exact_T) fun x => Wt.pure (!x)) (Wt.pure false)) fun b218 => Wt.andThen (δ := Unit) (Wt.ite b218 (Wt.bind (Wt.pure false) fun x => Wt.pure (.ret x)) (Wt.pure (.nxt ()))) fun s210 => (Wt.bind (Wt.bind (Wt.bind (Wt.bind (Wt.bind (Wt.bind (Wt.bind (Wt.pure due207) fun x => Wt.pure (false, x)) fun x => Wt.bind (Wt.pure ()) fun y => Wt.pure (x, y)) v__law_sum) fun x => Wt.pure x) fun x => Wt.bind (Wt.bind (Wt.pure y.2.2.2.1) fun x => Wt.ite x (Wt.bind (Wt.pure 2) fun x => Wt.bind (Wt.pure y.1) fun y => Wt.req (CMulW x y) (Wt.pure (x * y))) (Wt.bind (Wt.pure y.1) fun x => Wt.bind (Wt.pure 1) fun y => Wt.pure (x + y))) fun y => Wt.req (0 < y) (Wt.pure (x % y))) fun x => Wt.bind (Wt.pure y.2.1) fun y => Wt.pure (!decide (x = y))) fun b217 => Wt.andThen (δ := Unit) (Wt.ite b217 (Wt.bind (Wt.pure false) fun x => Wt.pure (.ret x)) (Wt.pure (.nxt ()))) fun s211 => (Wt.bind (Wt.bind (Wt.pure y.2.2.2.1) fun x => Wt.ite x (Wt.bind (Wt.bind (Wt.pure y.1) fun x => Wt.bind (Wt.pure 60) fun y => Wt.pure (decide (x ≤ y))) fun x => Wt.ite x (Wt.bind (Wt.bind (Wt.bind (Wt.bind (Wt.bind (Wt.bind (Wt.pure y.1) fun x => Wt.bind (Wt.bind (Wt.pure y.2.1) fun x => Wt.bind (Wt.pure ()) fun y => Wt.pure (x, y)) fun y => Wt.pure (x, y)) v_WrongBook_init) fun x => Wt.bind (Wt.bind (Wt.pure due207) fun x => Wt.bind (Wt.pure ()) fun y => Wt.pure (x, y)) fun y => v_WrongBook_has (x, y)) fun x => Wt.bind (Wt.bind (Wt.pure true) fun x => Wt.bind (Wt.pure ()) fun y => Wt.pure (x, y)) fun y => Wt.pure (x, y)) v__law_exact_B) fun x => Wt.pure (!x)) (Wt.pure false)) (Wt.pure false)) fun b216 => Wt.andThen (δ := Unit) (Wt.ite b216 (Wt.bind (Wt.pure false) fun x => Wt.pure (.ret x)) (Wt.pure (.nxt ()))) fun s212 => (Wt.bind (Wt.bind (Wt.bind (Wt.pure y.2.2.2.1) fun x => Wt.pure (!x)) fun x => Wt.ite x (Wt.bind (Wt.bind (Wt.bind (Wt.bind (Wt.bind (Wt.bind (Wt.pure y.1) fun x => Wt.bind (Wt.bind (Wt.bind (Wt.pure y.1) fun x => Wt.bind (Wt.pure 1) fun y => Wt.pure (x + y)) fun x => Wt.bind (Wt.bind (Wt.pure y.2.1) fun x => Wt.bind (Wt.pure ()) fun y => Wt.pure (x, y)) fun y => Wt.pure (x, y)) fun y => Wt.pure (x, y)) v_SumBook_init) fun x => Wt.bind (Wt.bind (Wt.pure due207) fun x => Wt.bind (Wt.pure ()) fun y => Wt.pure (x, y)) fun y => v_SumBook_has (x, y)) fun x => Wt.bind (Wt.bind (Wt.pure true) fun x => Wt.bind (Wt.pure ()) fun y => Wt.pure (x, y)) fun y => Wt.pure (x, y)) v__law_exact_B) fun x => Wt.pure (!x)) (Wt.pure false)) fun b215 => Wt.andThen (δ := Unit) (Wt.ite b215 (Wt.bind (Wt.pure false) fun x => Wt.pure (.ret x)) (Wt.pure (.nxt ()))) fun s213 => (Wt.bind (Wt.bind (Wt.bind (Wt.bind (Wt.bind (Wt.bind (Wt.pure due207) fun x => Wt.pure (false, x)) fun x => Wt.bind (Wt.pure ()) fun y => Wt.pure (x, y)) v__law_either) fun x => Wt.bind (Wt.pure ()) fun y => Wt.pure (x, y)) fun x => Wt.bind (Wt.pure y.2.2.2.1) fun y => v_data_of (x.1, y, ())) fun back214 => (Wt.bind (Wt.bind (Wt.bind (Wt.bind (Wt.pure back214) fun x => Wt.bind (Wt.bind (Wt.bind (Wt.pure y.2.2.1) fun x => Wt.pure (true, x)) fun x => Wt.bind (Wt.pure ()) fun y => Wt.pure (x, y)) fun y => Wt.pure (x, y)) v__law_exact_T) fun x => Wt.ite x (Wt.bind (Wt.pure y.2.2.2.1) fun x => Wt.ite x (Wt.pure true) (Wt.bind (Wt.bind (Wt.bind (Wt.bind (Wt.bind (Wt.pure due207) fun x => Wt.pure (false, x)) fun x => Wt.bind (Wt.pure (false, ())) fun y => Wt.pure (x, y)) v_data_of) fun x => Wt.bind (Wt.bind (Wt.bind (Wt.pure y.2.2.1) fun x => Wt.pure (true, x)) fun x => Wt.bind (Wt.pure ()) fun y => Wt.pure (x, y)) fun y => Wt.pure (x, y)) v__law_exact_T)) (Wt.pure false)) fun x => Wt.pure (.ret x)))))))))))
def v__law_word_holds (y : Int × Int × (List Int) × Bool × Unit) : Wt Bool := Wt.fin none (Wt.nox (w__law_word_holds y))
theorem ok__law_word_holds {P : Program} {w : World} {K : PySem.W.Frag} {mg : Str → Option Value} {base : Heap} (T : Prg K mg) : FnOk P w K mg base (CX P w) 8 (He.fAd K ("_law_word_holds", none)) T.fd__law_word_holds ["_law_hand_here", "_law_length", "_law_rest", "_law_bits_here", "_law_wrong"] (spH K mg mH (aC yI (aC yI (aC (yL yI) (aC yB aN)))) (rkT yB) v__law_word_holds) := by
  have sc := sc__law_word_holds
  refine fn_bodyH (Ar := (aC yI (aC yI (aC (yL yI) (aC yB aN))))) T.F__law_word_holds sc rfl (show 5 ≤ 9 by decide) (fun _ h => nomatch h) (fun y cdv A outer s H E fr hr hmg hxe => ?_)
  have h : SX (cxOf (L2.CX P w) P w K mg base N__law_word_holds "_law_word_holds" (defScope s__law_word_holds) (He.fAd K ("_law_word_holds", none)) cdv A outer s H E) fr.nox [.hd mH, .sh yI y.1, .sh yI y.2.1, .sh (yL yI) y.2.2.1, .sh yB y.2.2.2.1, .un, .un, .un, .un] (defBody s__law_word_holds) _ (rkT yB) (fun _ : Unit => .hd mH :: un K 8) (fun _ : Unit => .hd mH :: un K 8) _ := (s_set (x_callH (ok__law_either T) (hr.mono (by decide)) T.m__law_either T.F__law_either.kp (b__law_either T) .nil passL hmg (i := 0) rfl (a_cons (x_qL (x_var (i := 3) rfl)) a_nil)) (show 5 < 9 from by decide) (fun given206 => (s_set (x_call (ok__law_data T) (hr.mono (by decide)) T.m__law_data T.F__law_data.kp (b__law_data T) .nil passL hmg (a_cons (x_var (i := 1) rfl) (a_cons (x_var (i := 2) rfl) (a_cons (x_var (i := 3) rfl) (a_cons (x_var (i := 4) rfl) a_nil))))) (show 6 < 9 from by decide) (fun due207 => (s_set (x_callN (A1 := (aC yI (aC yI (aC (yQ yI) aN)))) (ok_data_word T) (hr.mono (by decide)) T.m_data_word T.F_data_word.kp (bk_data_word T) passL hmg aj3 (a_cons (x_var (i := 1) rfl) (a_cons (x_var (i := 2) rfl) (a_cons (x_var (i := 5) rfl) a_nil))) (x_var (i := 4) rfl)) (show 7 < 9 from by decide) (fun told208 => (s_if (Cm := fun (s209 : Unit) => [.hd mH, .sh yI y.1, .sh yI y.2.1, .sh (yL yI) y.2.2.1, .sh yB y.2.2.2.1, .sh (yQ yI) given206, .sh (yT yI) due207, .sh (yT yI) told208, .un]) (t_w (w_or (t_not (t_val (x_call (ok__law_exact_T T) (hr.mono (by decide)) T.m__law_exact T.F__law_exact.kp (b__law_exact T) .nil passL hmg (a_cons (x_var (i := 7) rfl) (a_cons (x_qT (x_var (i := 6) rfl)) a_nil))))) (w_or1 (t_cmp (c_neD (datn_L datn_I).dat (datn_L datn_I).dat hr.units (x_fix (x_listQ T.n_list (x_var (i := 5) rfl))) (x_fix (x_listB T.n_list (x_bW (x_var (i := 3) rfl))))))))) (s_ret x_bl) (s_nil (s := ()) ⟨.inl rfl, .inl rfl, .inl rfl, .inl rfl, .inl rfl, .inl rfl, .inl rfl, .inl rfl, .inl rfl, True.intro⟩) (fun s209 => (s_if (Cm := fun (s210 : Unit) => [.hd mH, .sh yI y.1, .sh yI y.2.1, .sh (yL yI) y.2.2.1, .sh yB y.2.2.2.1, .sh (yQ yI) given206, .sh (yT yI) due207, .sh (yT yI) told208, .un]) (t_w (w_and (t_not (t_val (x_var (i := 4) rfl))) (w_and1 (t_not (t_val (x_call (ok__law_exact_T T) (hr.mono (by decide)) T.m__law_exact T.F__law_exact.kp (b__law_exact T) .nil passL hmg (a_cons (x_call (ok_data_word T) (hr.mono (by decide)) T.m_data_word T.F_data_word.kp (bd_data_word T).choose_spec.2 (bd_data_word T).choose_spec.1 passL hmg (a_cons (x_var (i := 1) rfl) (a_cons (x_var (i := 2) rfl) (a_cons (x_var (i := 5) rfl) (a_dfl (x := (false, ())) (fun _ => ⟨_, _, rfl, rfl, rfl⟩)))))) (a_cons (x_qT (x_var (i := 6) rfl)) a_nil)))))))) (s_ret x_bl) (s_nil (s := ()) ⟨.inl rfl, .inl rfl, .inl rfl, .inl rfl, .inl rfl, .inl rfl, .inl rfl, .inl rfl, .inl rfl, True.intro⟩) (fun s210 => (s_if (Cm := fun (s211 : Unit) => [.hd mH, .sh yI y.1, .sh yI y.2.1, .sh (yL yI) y.2.2.1, .sh yB y.2.2.2.1, .sh (yQ yI) given206, .sh (yT yI) due207, .sh (yT yI) told208, .un]) (t_cmp (c_neI (x_opIC op_mod (x_intI T.n_int (x_call (ok__law_sum T) (hr.mono (by decide)) T.m__law_sum T.F__law_sum.kp (b__law_sum T) .nil passL hmg (a_cons (x_qT (x_var (i := 6) rfl)) a_nil))) (x_if (t_val (x_var (i := 4) rfl)) (x_opIC op_mulW x_int (x_var (i := 1) rfl)) (x_opII op_add (x_var (i := 1) rfl) x_int))) (x_var (i := 2) rfl))) (s_ret x_bl) (s_nil (s := ()) ⟨.inl rfl, .inl rfl, .inl rfl, .inl rfl, .inl rfl, .inl rfl, .inl rfl, .inl rfl, .inl rfl, True.intro⟩) (fun s211 => (s_if (Cm := fun (s212 : Unit) => [.hd mH, .sh yI y.1, .sh yI y.2.1, .sh (yL yI) y.2.2.1, .sh yB y.2.2.2.1, .sh (yQ yI) given206, .sh (yT yI) due207, .sh (yT yI) told208, .un]) (t_w (w_and (t_val (x_var (i := 4) rfl)) (w_and (t_cmp (c_I op_le (x_var (i := 1) rfl) x_int)) (w_and1 (t_not (t_val (x_call (ok__law_exact_B T) (hr.mono (by decide)) T.m__law_exact T.F__law_exact.kp (b__law_exact T) .nil passL hmg (a_cons (x_meth (hm := fm_WrongBook K) T.k_WrongBook T.me_WrongBook_has (fun _ => rfl) (ok_WrongBook_has T) (hr.mono (by decide)) (b_WrongBook_has T) .nil passL hmg (x_make (hm := fm_WrongBook K) T.mk_WrongBook (ok_WrongBook_init T) (hr.mono (by decide)) T.m_WrongBook (b_WrongBook_init T) .nil passL hmg (a_cons (x_var (i := 1) rfl) (a_cons (x_var (i := 2) rfl) a_nil))) (a_cons (x_var (i := 6) rfl) a_nil)) (a_cons x_bl a_nil))))))))) (s_ret x_bl) (s_nil (s := ()) ⟨.inl rfl, .inl rfl, .inl rfl, .inl rfl, .inl rfl, .inl rfl, .inl rfl, .inl rfl, .inl rfl, True.intro⟩) (fun s212 => (s_if (Cm := fun (s213 : Unit) => [.hd mH, .sh yI y.1, .sh yI y.2.1, .sh (yL yI) y.2.2.1, .sh yB y.2.2.2.1, .sh (yQ yI) given206, .sh (yT yI) due207, .sh (yT yI) told208, .un]) (t_w (w_and (t_not (t_val (x_var (i := 4) rfl))) (w_and1 (t_not (t_val (x_call (ok__law_exact_B T) (hr.mono (by decide)) T.m__law_exact T.F__law_exact.kp (b__law_exact T) .nil passL hmg (a_cons (x_meth (hm := fm_SumBook K) T.k_SumBook T.me_SumBook_has (fun _ => rfl) (ok_SumBook_has T) (hr.mono (by decide)) (b_SumBook_has T) .nil passL hmg (x_make (hm := fm_SumBook K) T.mk_SumBook (ok_SumBook_init T) (hr.mono (by decide)) T.m_SumBook (b_SumBook_init T) .nil passL hmg (a_cons (x_var (i := 1) rfl) (a_cons (x_opII op_add (x_var (i := 1) rfl) x_int) (a_cons (x_var (i := 2) rfl) a_nil)))) (a_cons (x_var (i := 6) rfl) a_nil)) (a_cons x_bl a_nil)))))))) (s_ret x_bl) (s_nil (s := ()) ⟨.inl rfl, .inl rfl, .inl rfl, .inl rfl, .inl rfl, .inl rfl, .inl rfl, .inl rfl, .inl rfl, True.intro⟩) (fun s213 => (s_set (x_callN (A1 := (aC (yQ yI) aN)) (ok_data_of T) (hr.mono (by decide)) T.m_data_of T.F_data_of.kp (bk_data_of T) passL hmg aj1 (a_cons (x_callH (ok__law_either T) (hr.mono (by decide)) T.m__law_either T.F__law_either.kp (b__law_either T) .nil passL hmg (i := 0) rfl (a_cons (x_qT (x_var (i := 6) rfl)) a_nil)) a_nil) (x_var (i := 4) rfl)) (show 8 < 9 from by decide) (fun back214 => (s_ret (x_and (x_call (ok__law_exact_T T) (hr.mono (by decide)) T.m__law_exact T.F__law_exact.kp (b__law_exact T) .nil passL hmg (a_cons (x_var (i := 8) rfl) (a_cons (x_qL (x_var (i := 3) rfl)) a_nil))) (x_bo1 (x_or (x_var (i := 4) rfl) (x_bo1 (x_call (ok__law_exact_T T) (hr.mono (by decide)) T.m__law_exact T.F__law_exact.kp (b__law_exact T) .nil passL hmg (a_cons (x_call (ok_data_of T) (hr.mono (by decide)) T.m_data_of T.F_data_of.kp (bd_data_of T).choose_spec.2 (bd_data_of T).choose_spec.1 passL hmg (a_cons (x_qT (x_var (i := 6) rfl)) (a_dfl (x := (false, ())) (fun _ => ⟨_, _, rfl, rfl, rfl⟩)))) (a_cons (x_qL (x_var (i := 3) rfl)) a_nil))))))))) [] (.inr (by decide)) sc.nd)) ())) ())) ())) ())) ())) [] (.inr (by decide)) sc.nd)) [] (.inr (by decide)) sc.nd)) (true, []) (.inr (by decide)) sc.nd)
  exact ⟨_, sx_nox h⟩
def w__law_all_hold (y : Int × Bool × Unit) : Wt (Oc Bool Unit Unit) := (Wt.bind (Wt.bind (Wt.bind (Wt.pure y.1) fun x => Wt.bind (Wt.bind (Wt.pure y.2.1) fun x => Wt.bind (Wt.pure ()) fun y => Wt.pure (x, y)) fun y => Wt.pure (x, y)) v__law_free) fun freehere220 => (Wt.bind (Wt.bind (Wt.bind (Wt.bind (Wt.bind (Wt.bind (Wt.pure y.1) fun x => Wt.bind (Wt.pure ()) fun y => Wt.pure (x, y)) fun x => Wt.bind (Wt.pure y.2.1) fun y => v_free_places (x.1, y, ())) fun x => Wt.bind (Wt.bind (Wt.bind (Wt.pure freehere220) fun x => Wt.pure (true, x)) fun x => Wt.bind (Wt.pure ()) fun y => Wt.pure (x, y)) fun y => Wt.pure (x, y)) v__law_exact_T) fun x => Wt.pure (!x)) fun b233 => Wt.andThen (δ := Unit) (Wt.ite b233 (Wt.bind (Wt.pure false) fun x => Wt.pure (.ret x)) (Wt.pure (.nxt ()))) fun s221 => (Wt.bind (Wt.bind (Wt.bind (Wt.pure y.2.1) fun x => Wt.ite x (Wt.bind (Wt.pure 2) fun x => Wt.bind (Wt.pure y.1) fun y => Wt.req (CMulW x y) (Wt.pure (x * y))) (Wt.bind (Wt.pure y.1) fun x => Wt.bind (Wt.pure 1) fun y => Wt.pure (x + y))) fun x => Wt.req (-(2 ^ 62) ≤ x ∧ x < 2 ^ 62) (Wt.pure (rng 0 x))) fun xs => Wt.andThen (δ := Unit) (Wt.forW (fun x222 (s223 : Unit) => (Wt.bind (Wt.pure ([] : List (List Int))) fun told224 => (Wt.bind (Wt.bind (Wt.bind (Wt.bind (Wt.pure 2) fun x => Wt.bind (Wt.bind (Wt.bind (Wt.pure freehere220) fun xs => Wt.pure (xs.length : Int)) fun x => Wt.bind (Wt.pure ()) fun y => Wt.pure (x, y)) fun y => Wt.pure (x, y)) v__law_power) fun x => Wt.req (-(2 ^ 62) ≤ x ∧ x < 2 ^ 62) (Wt.pure (rng 0 x))) fun xs => Wt.andThen (δ := (List (List Int))) (Wt.forW (fun x225 (s226 : (List (List Int))) => (Wt.bind (Wt.bind (Wt.bind (Wt.pure x225) fun x => Wt.bind (Wt.bind (Wt.bind (Wt.pure freehere220) fun xs => Wt.pure (xs.length : Int)) fun x => Wt.bind (Wt.pure ()) fun y => Wt.pure (x, y)) fun y => Wt.pure (x, y)) v__law_bits) fun bitshere227 => (Wt.bind (Wt.bind (Wt.bind (Wt.bind (Wt.pure y.1) fun x => Wt.bind (Wt.bind (Wt.pure x222) fun x => Wt.bind (Wt.bind (Wt.pure bitshere227) fun x => Wt.bind (Wt.bind (Wt.pure y.2.1) fun x => Wt.bind (Wt.pure ()) fun y => Wt.pure (x, y)) fun y => Wt.pure (x, y)) fun y => Wt.pure (x, y)) fun y => Wt.pure (x, y)) v__law_word_holds) fun x => Wt.pure (!x)) fun b230 => Wt.andThen (δ := Unit) (Wt.ite b230 (Wt.bind (Wt.pure false) fun x => Wt.pure (.ret x)) (Wt.pure (.nxt ()))) fun s228 => (Wt.bind (Wt.bind (Wt.bind (Wt.pure y.1) fun x => Wt.bind (Wt.bind (Wt.pure x222) fun x => Wt.bind (Wt.bind (Wt.bind (Wt.pure bitshere227) fun x => Wt.pure (true, x)) fun x => Wt.bind (Wt.pure ()) fun y => Wt.pure (x, y)) fun y => Wt.pure (x, y)) fun y => Wt.pure (x, y)) fun x => Wt.bind (Wt.pure y.2.1) fun y => v_data_word (x.1, x.2.1, x.2.2.1, y, ())) fun x229 => Wt.req ((s226).length < sizeLine) (Wt.pure (.nxt (s226 ++ [x229]))))))) xs told224) fun s226 => (Wt.bind (Wt.bind (Wt.bind (Wt.pure s226) fun xs => Wt.req (xs.length < 64) (Wt.any fun n => ∃ l : List (List Int), l.Nodup ∧ (∀ x, x ∈ l ↔ x ∈ xs) ∧ n = (l.length : Int))) fun x => Wt.bind (Wt.bind (Wt.bind (Wt.pure 2) fun x => Wt.bind (Wt.bind (Wt.bind (Wt.pure freehere220) fun xs => Wt.pure (xs.length : Int)) fun x => Wt.bind (Wt.pure ()) fun y => Wt.pure (x, y)) fun y => Wt.pure (x, y)) v__law_power) fun y => Wt.pure (!decide (x = y))) fun b232 => Wt.andThen (δ := Unit) (Wt.ite b232 (Wt.bind (Wt.pure false) fun x => Wt.pure (.ret x)) (Wt.pure (.nxt ()))) fun s231 => (Wt.pure (.nxt ())))))) xs ()) fun s223 => (Wt.bind (Wt.pure true) fun x => Wt.pure (.ret x)))))
def v__law_all_hold (y : Int × Bool × Unit) : Wt Bool := Wt.fin none (Wt.nox (w__law_all_hold y))
theorem ok__law_all_hold {P : Program} {w : World} {K : PySem.W.Frag} {mg : Str → Option Value} {base : Heap} (T : Prg K mg) : FnOk P w K mg base (CX P w) 9 (He.fAd K ("_law_all_hold", none)) T.fd__law_all_hold ["_law_hand_here", "_law_length", "_law_wrong"] (spH K mg mH (aC yI (aC yB aN)) (rkT yB) v__law_all_hold) := by
  have sc := sc__law_all_hold
  refine fn_bodyH (Ar := (aC yI (aC yB aN))) T.F__law_all_hold sc rfl (show 3 ≤ 8 by decide) (fun _ h => nomatch h) (fun y cdv A outer s H E fr hr hmg hxe => ?_)
  have h : SX (cxOf (L2.CX P w) P w K mg base N__law_all_hold "_law_all_hold" (defScope s__law_all_hold) (He.fAd K ("_law_all_hold", none)) cdv A outer s H E) fr.nox [.hd mH, .sh yI y.1, .sh yB y.2.1, .un, .un, .un, .un, .un] (defBody s__law_all_hold) _ (rkT yB) (fun _ : Unit => .hd mH :: un K 7) (fun _ : Unit => .hd mH :: un K 7) _ := (s_setM (x_callM (ok__law_free T) (hr.mono (by decide)) T.m__law_free T.F__law_free.kp (b__law_free T) .nil passL hmg (a_cons (x_var (i := 1) rfl) (a_cons (x_var (i := 2) rfl) a_nil))) (show 3 < 8 from by decide) (fun freehere220 => (s_frz (i := 3) rfl (s_if (Cm := fun (s221 : Unit) => [.hd mH, .sh yI y.1, .sh yB y.2.1, .sh (yL yI) freehere220, .un, .un, .un, .un]) (t_not (t_val (x_call (ok__law_exact_T T) (hr.mono (by decide)) T.m__law_exact T.F__law_exact.kp (b__law_exact T) .nil passL hmg (a_cons (x_callN (A1 := (aC yI aN)) (ok_free_places T) (hr.mono (by decide)) T.m_free_places T.F_free_places.kp (bk_free_places T) passL hmg aj1 (a_cons (x_var (i := 1) rfl) a_nil) (x_var (i := 2) rfl)) (a_cons (x_qL (x_var (i := 3) rfl)) a_nil))))) (s_ret x_bl) (s_nil (s := ()) ⟨.inl rfl, .inl rfl, .inl rfl, .inl rfl, .inl rfl, .inl rfl, .inl rfl, .inl rfl, True.intro⟩) (fun s221 => (s_for (Cs := fun (s223 : Unit) => [.hd mH, .sh yI y.1, .sh yB y.2.1, .sh (yL yI) freehere220, .un, .un, .un, .un]) (s0 := ()) (i_rng1 T.n_range (x_if (t_val (x_var (i := 2) rfl)) (x_opIC op_mulW x_int (x_var (i := 1) rfl)) (x_opII op_add (x_var (i := 1) rfl) x_int))) ⟨.inl rfl, .inl rfl, .inl rfl, .inl rfl, .inl rfl, .inl rfl, .inl rfl, .inl rfl, True.intro⟩ (fun s223 => ⟨(pg_name (i := 4) sc.nd rfl (by first | exact .inl rfl | exact .inr rfl)), (eg_name (t := yI) (i := 4) (show 4 < 8 from by decide) (by decide))⟩) (fun x222 s223 => (s_setM (x_lst (t := (yT yI)) l_nil) (show 5 < 8 from by decide) (fun told224 => (s_for (Cs := fun (s226 : (List (List Int))) => [.hd mH, .sh yI y.1, .sh yB y.2.1, .sh (yL yI) freehere220, .sh yI x222, .mu (mL (yT yI)) s226, .un, .un]) (s0 := told224) (i_rng1 T.n_range (x_call (ok__law_power T) (hr.mono (by decide)) T.m__law_power T.F__law_power.kp (b__law_power T) .nil passL hmg (a_cons x_int (a_cons (x_lenB T.n_len (x_bW (x_var (i := 3) rfl))) a_nil)))) ⟨.inl rfl, .inl rfl, .inl rfl, .inl rfl, .inl rfl, .inl rfl, .inl rfl, .inl rfl, True.intro⟩ (fun s226 => ⟨(pg_name (i := 6) sc.nd rfl (by first | exact .inl rfl | exact .inr rfl)), (eg_name (t := yI) (i := 6) (show 6 < 8 from by decide) (by decide))⟩) (fun x225 s226 => (s_setM (x_callM (ok__law_bits T) (hr.mono (by decide)) T.m__law_bits T.F__law_bits.kp (b__law_bits T) .nil passL hmg (a_cons (x_var (i := 6) rfl) (a_cons (x_lenB T.n_len (x_bW (x_var (i := 3) rfl))) a_nil))) (show 7 < 8 from by decide) (fun bitshere227 => (s_frz (i := 7) rfl (s_if (Cm := fun (s228 : Unit) => [.hd mH, .sh yI y.1, .sh yB y.2.1, .sh (yL yI) freehere220, .sh yI x222, .mu (mL (yT yI)) s226, .sh yI x225, .sh (yL yI) bitshere227]) (t_not (t_val (x_callH (ok__law_word_holds T) (hr.mono (by decide)) T.m__law_word_holds T.F__law_word_holds.kp (b__law_word_holds T) .nil passL hmg (i := 0) rfl (a_cons (x_var (i := 1) rfl) (a_cons (x_var (i := 4) rfl) (a_cons (x_var (i := 7) rfl) (a_cons (x_var (i := 2) rfl) a_nil))))))) (s_ret x_bl) (s_nil (s := ()) ⟨.inl rfl, .inl rfl, .inl rfl, .inl rfl, .inl rfl, .inl rfl, .inl rfl, .inl rfl, True.intro⟩) (fun s228 => (s_app (i := 5) rfl (x_callN (A1 := (aC yI (aC yI (aC (yQ yI) aN)))) (ok_data_word T) (hr.mono (by decide)) T.m_data_word T.F_data_word.kp (bk_data_word T) passL hmg aj3 (a_cons (x_var (i := 1) rfl) (a_cons (x_var (i := 4) rfl) (a_cons (x_qL (x_var (i := 7) rfl)) a_nil))) (x_var (i := 2) rfl)) (fun x229 => (s_nil (s := (s226 ++ [x229])) ⟨.inl rfl, .inl rfl, .inl rfl, .inl rfl, .inl rfl, .inl rfl, .inr rfl, .inr rfl, True.intro⟩)) [])) ()) (.inr (by decide)))) [] (.inr (by decide)) sc.nd)) (fun s226 => (s_if (Cm := fun (s231 : Unit) => [.hd mH, .sh yI y.1, .sh yB y.2.1, .sh (yL yI) freehere220, .sh yI x222, .mu (mL (yT yI)) s226, .un, .un]) (t_cmp (c_neI (x_lenSetT T.n_len T.n_set hr.units (x_bor (i := 5) rfl)) (x_call (ok__law_power T) (hr.mono (by decide)) T.m__law_power T.F__law_power.kp (b__law_power T) .nil passL hmg (a_cons x_int (a_cons (x_lenB T.n_len (x_bW (x_var (i := 3) rfl))) a_nil))))) (s_ret x_bl) (s_nil (s := ()) ⟨.inl rfl, .inl rfl, .inl rfl, .inl rfl, .inl rfl, .inl rfl, .inl rfl, .inl rfl, True.intro⟩) (fun s231 => (s_nil (s := ()) ⟨.inl rfl, .inl rfl, .inl rfl, .inl rfl, .inr rfl, .inr rfl, .inl rfl, .inl rfl, True.intro⟩)) ())) 0 (passes_of rfl))) [] (.inr (by decide)) sc.nd)) (fun s223 => (s_ret x_bl)) 0 (passes_of rfl))) ()) (.inr (by decide)))) [] (.inr (by decide)) sc.nd)
  exact ⟨_, sx_nox h⟩
def w_law (y : (List Int) × Unit) : Wt (Oc Bool Unit Unit) := (Wt.bind (Wt.bind (Wt.bind (Wt.pure y.1) fun x => Wt.bind (Wt.pure ()) fun y => Wt.pure (x, y)) v__law_hand) fun handhere234 => Wt.req (HandOk handhere234) (Wt.bind (Wt.bind (Wt.pure 1) fun x => Wt.bind (Wt.bind (Wt.bind (Wt.bind (Wt.bind (Wt.bind (Wt.bind (Wt.pure 3) fun x => Wt.bind (Wt.pure ()) fun y => Wt.pure (x, y)) v__law_take) fun x => Wt.bind (Wt.pure 0) fun y => Wt.pure (decide (x = y))) fun x => Wt.ite x (Wt.pure 200) (Wt.pure 40)) fun x => Wt.bind (Wt.pure ()) fun y => Wt.pure (x, y)) v__law_take) fun y => Wt.pure (x + y)) fun length235 => (Wt.bind (Wt.bind (Wt.pure false) fun x => Wt.bind (Wt.bind (Wt.pure true) fun x => Wt.bind (Wt.pure []) fun xs => Wt.pure (x :: xs)) fun xs => Wt.pure (x :: xs)) fun xs => Wt.andThen (δ := Unit) (Wt.forW (fun x236 (s237 : Unit) => (Wt.bind (Wt.bind (Wt.bind (Wt.pure length235) fun x => Wt.bind (Wt.bind (Wt.pure x236) fun x => Wt.bind (Wt.pure ()) fun y => Wt.pure (x, y)) fun y => Wt.pure (x, y)) v__law_free) fun freehere238 => (Wt.bind (Wt.bind (Wt.bind (Wt.bind (Wt.bind (Wt.bind (Wt.bind (Wt.pure 2) fun x => Wt.bind (Wt.bind (Wt.bind (Wt.pure freehere238) fun xs => Wt.pure (xs.length : Int)) fun x => Wt.bind (Wt.pure ()) fun y => Wt.pure (x, y)) fun y => Wt.pure (x, y)) v__law_power) fun x => Wt.bind (Wt.pure ()) fun y => Wt.pure (x, y)) v__law_take) fun x => Wt.bind (Wt.bind (Wt.bind (Wt.pure freehere238) fun xs => Wt.pure (xs.length : Int)) fun x => Wt.bind (Wt.pure ()) fun y => Wt.pure (x, y)) fun y => Wt.pure (x, y)) v__law_bits) fun bitshere239 => (Wt.bind (Wt.bind (Wt.bind (Wt.bind (Wt.pure x236) fun x => Wt.ite x (Wt.bind (Wt.pure 2) fun x => Wt.bind (Wt.pure length235) fun y => Wt.req (CMulW x y) (Wt.pure (x * y))) (Wt.bind (Wt.pure length235) fun x => Wt.bind (Wt.pure 1) fun y => Wt.pure (x + y))) fun x => Wt.bind (Wt.pure ()) fun y => Wt.pure (x, y)) v__law_take) fun rest240 => (Wt.bind (Wt.bind (Wt.bind (Wt.bind (Wt.bind (Wt.bind (Wt.pure length235) fun x => Wt.bind (Wt.pure ()) fun y => Wt.pure (x, y)) fun x => Wt.bind (Wt.pure x236) fun y => v_free_places (x.1, y, ())) fun x => Wt.bind (Wt.bind (Wt.bind (Wt.pure freehere238) fun x => Wt.pure (true, x)) fun x => Wt.bind (Wt.pure ()) fun y => Wt.pure (x, y)) fun y => Wt.pure (x, y)) v__law_exact_T) fun x => Wt.pure (!x)) fun b249 => Wt.andThen (δ := Unit) (Wt.ite b249 (Wt.bind (Wt.pure false) fun x => Wt.pure (.ret x)) (Wt.pure (.nxt ()))) fun s241 => (Wt.bind (Wt.bind (Wt.bind (Wt.bind (Wt.pure length235) fun x => Wt.bind (Wt.bind (Wt.pure rest240) fun x => Wt.bind (Wt.bind (Wt.pure bitshere239) fun x => Wt.bind (Wt.bind (Wt.pure x236) fun x => Wt.bind (Wt.pure ()) fun y => Wt.pure (x, y)) fun y => Wt.pure (x, y)) fun y => Wt.pure (x, y)) fun y => Wt.pure (x, y)) v__law_word_holds) fun x => Wt.pure (!x)) fun b248 => Wt.andThen (δ := Unit) (Wt.ite b248 (Wt.bind (Wt.pure false) fun x => Wt.pure (.ret x)) (Wt.pure (.nxt ()))) fun s242 => (Wt.bind (Wt.bind (Wt.bind (Wt.bind (Wt.bind (Wt.bind (Wt.bind (Wt.bind (Wt.pure 2) fun x => Wt.bind (Wt.bind (Wt.pure length235) fun x => Wt.bind (Wt.pure ()) fun y => Wt.pure (x, y)) fun y => Wt.pure (x, y)) v__law_power) fun x => Wt.bind (Wt.pure ()) fun y => Wt.pure (x, y)) v__law_take) fun x => Wt.bind (Wt.bind (Wt.pure length235) fun x => Wt.bind (Wt.pure ()) fun y => Wt.pure (x, y)) fun y => Wt.pure (x, y)) v__law_bits) fun xs => Wt.pure xs) fun word243 => (Wt.bind (Wt.bind (Wt.bind (Wt.bind (Wt.bind (Wt.bind (Wt.bind (Wt.pure word243) fun x => Wt.pure (false, x)) fun x => Wt.bind (Wt.pure ()) fun y => Wt.pure (x, y)) fun x => Wt.bind (Wt.pure x236) fun y => v_data_of (x.1, y, ())) fun x => Wt.bind (Wt.bind (Wt.bind (Wt.bind (Wt.pure freehere238) fun xs => Wt.req (xs.length ≤ sizeLine) (Wt.nox (Wt.lc (lcTurn (fun x245 => (Wt.pure true)) (fun x245 => (Wt.bind (Wt.pure word243) fun x => Wt.bind (Wt.bind (Wt.pure x245) fun x => Wt.bind (Wt.pure 1) fun y => Wt.pure (x - y)) fun y => Wt.opt (atI x y)))) xs))) fun x => Wt.pure (true, x)) fun x => Wt.bind (Wt.pure ()) fun y => Wt.pure (x, y)) fun y => Wt.pure (x, y)) v__law_exact_T) fun x => Wt.pure (!x)) fun b247 => Wt.andThen (δ := Unit) (Wt.ite b247 (Wt.bind (Wt.pure false) fun x => Wt.pure (.ret x)) (Wt.pure (.nxt ()))) fun s246 => (Wt.pure (.nxt ())))))))))) xs ()) fun s237 => (Wt.bind (Wt.bind (Wt.bind (Wt.bind (Wt.bind (Wt.bind (Wt.pure length235) fun x => Wt.bind (Wt.pure (false, ())) fun y => Wt.pure (x, y)) v_free_places) fun x => Wt.bind (Wt.bind (Wt.bind (Wt.bind (Wt.bind (Wt.pure length235) fun x => Wt.bind (Wt.bind (Wt.pure false) fun x => Wt.bind (Wt.pure ()) fun y => Wt.pure (x, y)) fun y => Wt.pure (x, y)) v__law_free) fun x => Wt.pure (true, x)) fun x => Wt.bind (Wt.pure ()) fun y => Wt.pure (x, y)) fun y => Wt.pure (x, y)) v__law_exact_T) fun x => Wt.pure (!x)) fun b252 => Wt.andThen (δ := Unit) (Wt.ite b252 (Wt.bind (Wt.pure false) fun x => Wt.pure (.ret x)) (Wt.pure (.nxt ()))) fun s250 => (Wt.bind (Wt.bind (Wt.pure 1) fun x => Wt.bind (Wt.bind (Wt.bind (Wt.pure 7) fun x => Wt.bind (Wt.pure ()) fun y => Wt.pure (x, y)) v__law_take) fun y => Wt.pure (x + y)) fun small251 => (Wt.bind (Wt.bind (Wt.bind (Wt.bind (Wt.pure small251) fun x => Wt.bind (Wt.bind (Wt.pure false) fun x => Wt.bind (Wt.pure ()) fun y => Wt.pure (x, y)) fun y => Wt.pure (x, y)) v__law_all_hold) fun x => Wt.ite x (Wt.bind (Wt.bind (Wt.pure small251) fun x => Wt.bind (Wt.bind (Wt.pure true) fun x => Wt.bind (Wt.pure ()) fun y => Wt.pure (x, y)) fun y => Wt.pure (x, y)) v__law_all_hold) (Wt.pure false)) fun x => Wt.pure (.ret x)))))))
def v_law (y : (List Int) × Unit) : Wt Bool := Wt.fin none (Wt.nox (w_law y))
theorem ok_law {P : Program} {w : World} {K : PySem.W.Frag} {mg : Str → Option Value} {base : Heap} (T : Prg K mg) : FnOk P w K mg base (CX P w) 10 (He.fAd K ("law", none)) T.fd_law ["_law_script"] (spF K mg (aC yScript aN) (rkT yB) v_law) := by
  have sc := sc_law
  refine fn_body (Ar := (aC yScript aN)) T.F_law sc rfl (show 1 ≤ 10 by decide) (fun _ h => nomatch h) (fun y cdv A outer s H E fr hr hp hmg hxe => ?_)
  have h : SX (cxOf (L2.CX P w) P w K mg base N_law "law" (defScope s_law) (He.fAd K ("law", none)) cdv A outer s H E) fr.nox [.sh yScript y.1, .un, .un, .un, .un, .un, .un, .un, .un, .un] (defBody s_law) _ (rkT yB) (fun _ : Unit => un K 10) (fun _ : Unit => un K 10) _ := (s_setM (x_callM (ok__law_hand T) (hr.mono (by decide)) T.m__law_hand T.F__law_hand.kp (b__law_hand T) .nil passL hmg (a_cons (x_var (i := 0) rfl) a_nil)) (show 1 < 10 from by decide) (fun handhere234 => s_toH (i := 1) rfl (s_set (x_opII op_add x_int (x_callH (ok__law_take T) (hr.mono (by decide)) T.m__law_take T.F__law_take.kp (b__law_take T) .nil passL hmg (i := 1) rfl (a_cons (x_if (t_cmp (c_eqI (x_callH (ok__law_take T) (hr.mono (by decide)) T.m__law_take T.F__law_take.kp (b__law_take T) .nil passL hmg (i := 1) rfl (a_cons x_int a_nil)) x_int)) x_int x_int) a_nil))) (show 2 < 10 from by decide) (fun length235 => (s_for (Cs := fun (s237 : Unit) => [.sh yScript y.1, .hd mH, .sh yI length235, .un, .un, .un, .un, .un, .un, .un]) (s0 := ()) (i_T (x_tup (l_cons x_bl (l_cons x_bl l_nil)))) ⟨.inl rfl, .inl rfl, .inl rfl, .inl rfl, .inl rfl, .inl rfl, .inl rfl, .inl rfl, .inl rfl, .inl rfl, True.intro⟩ (fun s237 => ⟨(pg_name (i := 3) sc.nd rfl (by first | exact .inl rfl | exact .inr rfl)), (eg_name (t := yB) (i := 3) (show 3 < 10 from by decide) (by decide))⟩) (fun x236 s237 => (s_setM (x_callM (ok__law_free T) (hr.mono (by decide)) T.m__law_free T.F__law_free.kp (b__law_free T) .nil passL hmg (a_cons (x_var (i := 2) rfl) (a_cons (x_var (i := 3) rfl) a_nil))) (show 4 < 10 from by decide) (fun freehere238 => (s_setM (x_callM (ok__law_bits T) (hr.mono (by decide)) T.m__law_bits T.F__law_bits.kp (b__law_bits T) .nil passL hmg (a_cons (x_callH (ok__law_take T) (hr.mono (by decide)) T.m__law_take T.F__law_take.kp (b__law_take T) .nil passL hmg (i := 1) rfl (a_cons (x_call (ok__law_power T) (hr.mono (by decide)) T.m__law_power T.F__law_power.kp (b__law_power T) .nil passL hmg (a_cons x_int (a_cons (x_lenB T.n_len (x_bor (i := 4) rfl)) a_nil))) a_nil)) (a_cons (x_lenB T.n_len (x_bor (i := 4) rfl)) a_nil))) (show 5 < 10 from by decide) (fun bitshere239 => (s_set (x_callH (ok__law_take T) (hr.mono (by decide)) T.m__law_take T.F__law_take.kp (b__law_take T) .nil passL hmg (i := 1) rfl (a_cons (x_if (t_val (x_var (i := 3) rfl)) (x_opIC op_mulW x_int (x_var (i := 2) rfl)) (x_opII op_add (x_var (i := 2) rfl) x_int)) a_nil)) (show 6 < 10 from by decide) (fun rest240 => (s_frz (i := 4) rfl (s_if (Cm := fun (s241 : Unit) => [.sh yScript y.1, .hd mH, .sh yI length235, .sh yB x236, .sh (yL yI) freehere238, .mu (mL yI) bitshere239, .sh yI rest240, .un, .un, .un]) (t_not (t_val (x_call (ok__law_exact_T T) (hr.mono (by decide)) T.m__law_exact T.F__law_exact.kp (b__law_exact T) .nil passL hmg (a_cons (x_callN (A1 := (aC yI aN)) (ok_free_places T) (hr.mono (by decide)) T.m_free_places T.F_free_places.kp (bk_free_places T) passL hmg aj1 (a_cons (x_var (i := 2) rfl) a_nil) (x_var (i := 3) rfl)) (a_cons (x_qL (x_var (i := 4) rfl)) a_nil))))) (s_ret x_bl) (s_nil (s := ()) ⟨.inl rfl, .inl rfl, .inl rfl, .inl rfl, .inl rfl, .inl rfl, .inl rfl, .inl rfl, .inl rfl, .inl rfl, True.intro⟩) (fun s241 => (s_frz (i := 5) rfl (s_if (Cm := fun (s242 : Unit) => [.sh yScript y.1, .hd mH, .sh yI length235, .sh yB x236, .sh (yL yI) freehere238, .sh (yL yI) bitshere239, .sh yI rest240, .un, .un, .un]) (t_not (t_val (x_callH (ok__law_word_holds T) (hr.mono (by decide)) T.m__law_word_holds T.F__law_word_holds.kp (b__law_word_holds T) .nil passL hmg (i := 1) rfl (a_cons (x_var (i := 2) rfl) (a_cons (x_var (i := 6) rfl) (a_cons (x_var (i := 5) rfl) (a_cons (x_var (i := 3) rfl) a_nil))))))) (s_ret x_bl) (s_nil (s := ()) ⟨.inl rfl, .inl rfl, .inl rfl, .inl rfl, .inl rfl, .inl rfl, .inl rfl, .inl rfl, .inl rfl, .inl rfl, True.intro⟩) (fun s242 => (s_set (x_tupB T.n_tuple (x_bM (x_callM (ok__law_bits T) (hr.mono (by decide)) T.m__law_bits T.F__law_bits.kp (b__law_bits T) .nil passL hmg (a_cons (x_callH (ok__law_take T) (hr.mono (by decide)) T.m__law_take T.F__law_take.kp (b__law_take T) .nil passL hmg (i := 1) rfl (a_cons (x_call (ok__law_power T) (hr.mono (by decide)) T.m__law_power T.F__law_power.kp (b__law_power T) .nil passL hmg (a_cons x_int (a_cons (x_var (i := 2) rfl) a_nil))) a_nil)) (a_cons (x_var (i := 2) rfl) a_nil))))) (show 7 < 10 from by decide) (fun word243 => (s_if (Cm := fun (s246 : Unit) => [.sh yScript y.1, .hd mH, .sh yI length235, .sh yB x236, .sh (yL yI) freehere238, .sh (yL yI) bitshere239, .sh yI rest240, .sh (yT yI) word243, .un, .un]) (t_not (t_val (x_call (ok__law_exact_T T) (hr.mono (by decide)) T.m__law_exact T.F__law_exact.kp (b__law_exact T) .nil passL hmg (a_cons (x_callN (A1 := (aC (yQ yI) aN)) (ok_data_of T) (hr.mono (by decide)) T.m_data_of T.F_data_of.kp (bk_data_of T) passL hmg aj1 (a_cons (x_qT (x_var (i := 7) rfl)) a_nil) (x_var (i := 3) rfl)) (a_cons (x_qL (x_fix (x_lc (own := [("_law_place", 9)]) (u := yI) sc.nd (i_L (x_var (i := 4) rfl)) (blkOk_by rfl) ⟨fun _ _ _ _ _ => (pg_name (i := 9) sc.nd rfl (by first | exact .inl rfl | exact .inr rfl)), (eg_name (t := yI) (i := 9) (show 9 < 10 from by decide) (by decide))⟩ (fun x245 _ _ _ _ _ => pt_te f_nil (by first | (dsimp only [Cx.blk] <;> rfl) | rfl)) (fun x245 _ _ _ _ _ => ex_te (x_ixT (x_var (i := 7) rfl) (x_opII op_sub (x_var (i := 9) rfl) x_int)) (by first | (dsimp only [Cx.blk] <;> rfl) | rfl)) 0))) a_nil))))) (s_ret x_bl) (s_nil (s := ()) ⟨.inl rfl, .inl rfl, .inl rfl, .inl rfl, .inl rfl, .inl rfl, .inl rfl, .inl rfl, .inl rfl, .inl rfl, True.intro⟩) (fun s246 => (s_nil (s := ()) ⟨.inl rfl, .inl rfl, .inl rfl, .inr rfl, .inr rfl, .inr rfl, .inr rfl, .inr rfl, .inl rfl, .inl rfl, True.intro⟩)) ())) [] (.inr (by decide)) sc.nd)) ()) (.inr (by decide)))) ()) (.inr (by decide)))) 0 (.inr (by decide)) sc.nd)) [] (.inr (by decide)) sc.nd)) [] (.inr (by decide)) sc.nd)) (fun s237 => (s_if (Cm := fun (s250 : Unit) => [.sh yScript y.1, .hd mH, .sh yI length235, .un, .un, .un, .un, .un, .un, .un]) (t_not (t_val (x_call (ok__law_exact_T T) (hr.mono (by decide)) T.m__law_exact T.F__law_exact.kp (b__law_exact T) .nil passL hmg (a_cons (x_call (ok_free_places T) (hr.mono (by decide)) T.m_free_places T.F_free_places.kp (bd_free_places T).choose_spec.2 (bd_free_places T).choose_spec.1 passL hmg (a_cons (x_var (i := 2) rfl) (a_dfl (x := (false, ())) (fun _ => ⟨_, _, rfl, rfl, rfl⟩)))) (a_cons (x_qL (x_fix (x_callM (ok__law_free T) (hr.mono (by decide)) T.m__law_free T.F__law_free.kp (b__law_free T) .nil passL hmg (a_cons (x_var (i := 2) rfl) (a_cons x_bl a_nil))))) a_nil))))) (s_ret x_bl) (s_nil (s := ()) ⟨.inl rfl, .inl rfl, .inl rfl, .inl rfl, .inl rfl, .inl rfl, .inl rfl, .inl rfl, .inl rfl, .inl rfl, True.intro⟩) (fun s250 => (s_set (x_opII op_add x_int (x_callH (ok__law_take T) (hr.mono (by decide)) T.m__law_take T.F__law_take.kp (b__law_take T) .nil passL hmg (i := 1) rfl (a_cons x_int a_nil))) (show 8 < 10 from by decide) (fun small251 => (s_ret (x_and (x_callH (ok__law_all_hold T) (hr.mono (by decide)) T.m__law_all_hold T.F__law_all_hold.kp (b__law_all_hold T) .nil passL hmg (i := 1) rfl (a_cons (x_var (i := 8) rfl) (a_cons x_bl a_nil))) (x_bo1 (x_callH (ok__law_all_hold T) (hr.mono (by decide)) T.m__law_all_hold T.F__law_all_hold.kp (b__law_all_hold T) .nil passL hmg (i := 1) rfl (a_cons (x_var (i := 8) rfl) (a_cons x_bl a_nil))))))) 0 (.inr (by decide)) sc.nd)) ())) false (passes_of rfl))) 0 (.inr (by decide)) sc.nd) hp.1) [] (.inr (by decide)) sc.nd)
  exact ⟨_, sx_nox h⟩

def fn : List He.DefD := [⟨("is_whole", none), "is_whole", "is_whole", defArgs s_is_whole, defBody s_is_whole, defScope s_is_whole, [.non, .non], []⟩,
  ⟨("check_number", none), "check_number", "check_number", defArgs s_check_number, defBody s_check_number, defScope s_check_number, [], []⟩,
  ⟨("power_of", none), "power_of", "power_of", defArgs s_power_of, defBody s_power_of, defScope s_power_of, [], []⟩,
  ⟨("check_word", none), "check_word", "check_word", defArgs s_check_word, defBody s_check_word, defScope s_check_word, [.int 24], []⟩,
  ⟨("doubling_places", none), "doubling_places", "doubling_places", defArgs s_doubling_places, defBody s_doubling_places, defScope s_doubling_places, [], []⟩,
  ⟨("free_places", none), "free_places", "free_places", defArgs s_free_places, defBody s_free_places, defScope s_free_places, [], [("wrong", .bl false)]⟩,
  ⟨("check_bits", none), "check_bits", "check_bits", defArgs s_check_bits, defBody s_check_bits, defScope s_check_bits, [], []⟩,
  ⟨("data_word", none), "data_word", "data_word", defArgs s_data_word, defBody s_data_word, defScope s_data_word, [], [("wrong", .bl false)]⟩,
  ⟨("data_of", none), "data_of", "data_of", defArgs s_data_of, defBody s_data_of, defScope s_data_of, [], [("wrong", .bl false)]⟩,
  ⟨("sum_places", none), "sum_places", "sum_places", defArgs s_sum_places, defBody s_sum_places, defScope s_sum_places, [], []⟩,
  ⟨("place_sum", none), "place_sum", "place_sum", defArgs s_place_sum, defBody s_place_sum, defScope s_place_sum, [], []⟩,
  ⟨("check_modulus", none), "check_modulus", "check_modulus", defArgs s_check_modulus, defBody s_check_modulus, defScope s_check_modulus, [], []⟩,
  ⟨("check_rest", none), "check_rest", "check_rest", defArgs s_check_rest, defBody s_check_rest, defScope s_check_rest, [], []⟩,
  ⟨("SumBook", some "__init__"), "__init__", "SumBook.__init__", defArgs s_SumBook_init, defBody s_SumBook_init, defScope s_SumBook_init, [], []⟩,
  ⟨("SumBook", some "has"), "has", "SumBook.has", defArgs s_SumBook_has, defBody s_SumBook_has, defScope s_SumBook_has, [], []⟩,
  ⟨("divisors_of", none), "divisors_of", "divisors_of", defArgs s_divisors_of, defBody s_divisors_of, defScope s_divisors_of, [], []⟩,
  ⟨("prime_powers", none), "prime_powers", "prime_powers", defArgs s_prime_powers, defBody s_prime_powers, defScope s_prime_powers, [], []⟩,
  ⟨("phi_of", none), "phi_of", "phi_of", defArgs s_phi_of, defBody s_phi_of, defScope s_phi_of, [], []⟩,
  ⟨("mu_of", none), "mu_of", "mu_of", defArgs s_mu_of, defBody s_mu_of, defScope s_mu_of, [], []⟩,
  ⟨("common_divisor", none), "common_divisor", "common_divisor", defArgs s_common_divisor, defBody s_common_divisor, defScope s_common_divisor, [], []⟩,
  ⟨("ram_of", none), "ram_of", "ram_of", defArgs s_ram_of, defBody s_ram_of, defScope s_ram_of, [], []⟩,
  ⟨("check_sized", none), "check_sized", "check_sized", defArgs s_check_sized, defBody s_check_sized, defScope s_check_sized, [], []⟩,
  ⟨("size_of", none), "size_of", "size_of", defArgs s_size_of, defBody s_size_of, defScope s_size_of, [], []⟩,
  ⟨("WrongBook", some "__init__"), "__init__", "WrongBook.__init__", defArgs s_WrongBook_init, defBody s_WrongBook_init, defScope s_WrongBook_init, [], []⟩,
  ⟨("WrongBook", some "has"), "has", "WrongBook.has", defArgs s_WrongBook_has, defBody s_WrongBook_has, defScope s_WrongBook_has, [], []⟩,
  ⟨("_law_hand", none), "_law_hand", "_law_hand", defArgs s__law_hand, defBody s__law_hand, defScope s__law_hand, [], []⟩,
  ⟨("_law_mixed", none), "_law_mixed", "_law_mixed", defArgs s__law_mixed, defBody s__law_mixed, defScope s__law_mixed, [], []⟩,
  ⟨("_law_take", none), "_law_take", "_law_take", defArgs s__law_take, defBody s__law_take, defScope s__law_take, [], []⟩,
  ⟨("_law_power", none), "_law_power", "_law_power", defArgs s__law_power, defBody s__law_power, defScope s__law_power, [], []⟩,
  ⟨("_law_sum", none), "_law_sum", "_law_sum", defArgs s__law_sum, defBody s__law_sum, defScope s__law_sum, [], []⟩,
  ⟨("_law_exact", none), "_law_exact", "_law_exact", defArgs s__law_exact, defBody s__law_exact, defScope s__law_exact, [], []⟩,
  ⟨("_law_either", none), "_law_either", "_law_either", defArgs s__law_either, defBody s__law_either, defScope s__law_either, [], []⟩,
  ⟨("_law_doubling", none), "_law_doubling", "_law_doubling", defArgs s__law_doubling, defBody s__law_doubling, defScope s__law_doubling, [], []⟩,
  ⟨("_law_free", none), "_law_free", "_law_free", defArgs s__law_free, defBody s__law_free, defScope s__law_free, [], []⟩,
  ⟨("_law_data", none), "_law_data", "_law_data", defArgs s__law_data, defBody s__law_data, defScope s__law_data, [], []⟩,
  ⟨("_law_bits", none), "_law_bits", "_law_bits", defArgs s__law_bits, defBody s__law_bits, defScope s__law_bits, [], []⟩,
  ⟨("_law_word_holds", none), "_law_word_holds", "_law_word_holds", defArgs s__law_word_holds, defBody s__law_word_holds, defScope s__law_word_holds, [], []⟩,
  ⟨("_law_all_hold", none), "_law_all_hold", "_law_all_hold", defArgs s__law_all_hold, defBody s__law_all_hold, defScope s__law_all_hold, [], []⟩,
  ⟨("law", none), "law", "law", defArgs s_law, defBody s_law, defScope s_law, [], []⟩]
def fa : List He.Fa := [.glo "is_whole", .glo "check_number", .glo "power_of", .glo "check_word", .glo "doubling_places", .glo "free_places", .glo "check_bits", .glo "data_word", .glo "data_of", .glo "sum_places", .glo "place_sum", .glo "check_modulus", .glo "check_rest", .glo "divisors_of", .glo "prime_powers", .glo "phi_of", .glo "mu_of", .glo "common_divisor", .glo "ram_of", .glo "check_sized", .glo "size_of", .glo "_law_hand", .glo "_law_mixed", .glo "_law_take", .glo "_law_power", .glo "_law_sum", .glo "_law_exact", .glo "_law_either", .glo "_law_doubling", .glo "_law_free", .glo "_law_data", .glo "_law_bits", .glo "_law_word_holds", .glo "_law_all_hold", .glo "law", .free "abs", .free "all", .free "bool", .free "enumerate", .free "int", .free "isinstance", .free "len", .free "list", .free "range", .free "set", .free "sum", .free "tuple", .free "zip", .int "MOST_DIVIDED" 2000, .int "MOST_LENGTH_datas" 200, .int "MOST_LENGTH_sums" 200, .int "MOST_LENGTH_wrongs" 60, .int "MOST_MODULUS" 1000000, .int "MOST_READ" 61, .int "MOST_SIZED" 200, .glo "SumBook", .cls "SumBook", .mkr "SumBook", .glo "WrongBook", .cls "WrongBook", .mkr "WrongBook", .noat "SumBook" "length", .noat "SumBook" "modulus", .noat "SumBook" "rest", .noat "WrongBook" "length", .noat "WrongBook" "modulus", .noat "WrongBook" "rest", .noat "WrongBook" "size", .meth "SumBook" "has", .meth "WrongBook" "has"]
theorem prg {K : PySem.W.Frag} {h : Heap} {mg : Str → Option Value} (X : K.In h) (G : h.Ns mainGlobals mg) (c : He.SaysD fa fn K) : Nonempty (Prg K mg) := by
  obtain ⟨fd0, F0⟩ := c.def_ 0 rfl
  obtain ⟨fd1, F1⟩ := c.def_ 1 rfl
  obtain ⟨fd2, F2⟩ := c.def_ 2 rfl
  obtain ⟨fd3, F3⟩ := c.def_ 3 rfl
  obtain ⟨fd4, F4⟩ := c.def_ 4 rfl
  obtain ⟨fd5, F5⟩ := c.def_ 5 rfl
  obtain ⟨fd6, F6⟩ := c.def_ 6 rfl
  obtain ⟨fd7, F7⟩ := c.def_ 7 rfl
  obtain ⟨fd8, F8⟩ := c.def_ 8 rfl
  obtain ⟨fd9, F9⟩ := c.def_ 9 rfl
  obtain ⟨fd10, F10⟩ := c.def_ 10 rfl
  obtain ⟨fd11, F11⟩ := c.def_ 11 rfl
  obtain ⟨fd12, F12⟩ := c.def_ 12 rfl
  obtain ⟨fd13, F13⟩ := c.def_ 13 rfl
  obtain ⟨fd14, F14⟩ := c.def_ 14 rfl
  obtain ⟨fd15, F15⟩ := c.def_ 15 rfl
  obtain ⟨fd16, F16⟩ := c.def_ 16 rfl
  obtain ⟨fd17, F17⟩ := c.def_ 17 rfl
  obtain ⟨fd18, F18⟩ := c.def_ 18 rfl
  obtain ⟨fd19, F19⟩ := c.def_ 19 rfl
  obtain ⟨fd20, F20⟩ := c.def_ 20 rfl
  obtain ⟨fd21, F21⟩ := c.def_ 21 rfl
  obtain ⟨fd22, F22⟩ := c.def_ 22 rfl
  obtain ⟨fd23, F23⟩ := c.def_ 23 rfl
  obtain ⟨fd24, F24⟩ := c.def_ 24 rfl
  obtain ⟨fd25, F25⟩ := c.def_ 25 rfl
  obtain ⟨fd26, F26⟩ := c.def_ 26 rfl
  obtain ⟨fd27, F27⟩ := c.def_ 27 rfl
  obtain ⟨fd28, F28⟩ := c.def_ 28 rfl
  obtain ⟨fd29, F29⟩ := c.def_ 29 rfl
  obtain ⟨fd30, F30⟩ := c.def_ 30 rfl
  obtain ⟨fd31, F31⟩ := c.def_ 31 rfl
  obtain ⟨fd32, F32⟩ := c.def_ 32 rfl
  obtain ⟨fd33, F33⟩ := c.def_ 33 rfl
  obtain ⟨fd34, F34⟩ := c.def_ 34 rfl
  obtain ⟨fd35, F35⟩ := c.def_ 35 rfl
  obtain ⟨fd36, F36⟩ := c.def_ 36 rfl
  obtain ⟨fd37, F37⟩ := c.def_ 37 rfl
  obtain ⟨fd38, F38⟩ := c.def_ 38 rfl
  exact ⟨{
    fd_is_whole := fd0, F_is_whole := F0,
    fd_check_number := fd1, F_check_number := F1,
    fd_power_of := fd2, F_power_of := F2,
    fd_check_word := fd3, F_check_word := F3,
    fd_doubling_places := fd4, F_doubling_places := F4,
    fd_free_places := fd5, F_free_places := F5,
    fd_check_bits := fd6, F_check_bits := F6,
    fd_data_word := fd7, F_data_word := F7,
    fd_data_of := fd8, F_data_of := F8,
    fd_sum_places := fd9, F_sum_places := F9,
    fd_place_sum := fd10, F_place_sum := F10,
    fd_check_modulus := fd11, F_check_modulus := F11,
    fd_check_rest := fd12, F_check_rest := F12,
    fd_SumBook_init := fd13, F_SumBook_init := F13,
    fd_SumBook_has := fd14, F_SumBook_has := F14,
    fd_divisors_of := fd15, F_divisors_of := F15,
    fd_prime_powers := fd16, F_prime_powers := F16,
    fd_phi_of := fd17, F_phi_of := F17,
    fd_mu_of := fd18, F_mu_of := F18,
    fd_common_divisor := fd19, F_common_divisor := F19,
    fd_ram_of := fd20, F_ram_of := F20,
    fd_check_sized := fd21, F_check_sized := F21,
    fd_size_of := fd22, F_size_of := F22,
    fd_WrongBook_init := fd23, F_WrongBook_init := F23,
    fd_WrongBook_has := fd24, F_WrongBook_has := F24,
    fd__law_hand := fd25, F__law_hand := F25,
    fd__law_mixed := fd26, F__law_mixed := F26,
    fd__law_take := fd27, F__law_take := F27,
    fd__law_power := fd28, F__law_power := F28,
    fd__law_sum := fd29, F__law_sum := F29,
    fd__law_exact := fd30, F__law_exact := F30,
    fd__law_either := fd31, F__law_either := F31,
    fd__law_doubling := fd32, F__law_doubling := F32,
    fd__law_free := fd33, F__law_free := F33,
    fd__law_data := fd34, F__law_data := F34,
    fd__law_bits := fd35, F__law_bits := F35,
    fd__law_word_holds := fd36, F__law_word_holds := F36,
    fd__law_all_hold := fd37, F__law_all_hold := F37,
    fd_law := fd38, F_law := F38,
    m_is_whole := He.glo_ok X G (c.fact 0 (f := .glo "is_whole") rfl),
    m_check_number := He.glo_ok X G (c.fact 1 (f := .glo "check_number") rfl),
    m_power_of := He.glo_ok X G (c.fact 2 (f := .glo "power_of") rfl),
    m_check_word := He.glo_ok X G (c.fact 3 (f := .glo "check_word") rfl),
    m_doubling_places := He.glo_ok X G (c.fact 4 (f := .glo "doubling_places") rfl),
    m_free_places := He.glo_ok X G (c.fact 5 (f := .glo "free_places") rfl),
    m_check_bits := He.glo_ok X G (c.fact 6 (f := .glo "check_bits") rfl),
    m_data_word := He.glo_ok X G (c.fact 7 (f := .glo "data_word") rfl),
    m_data_of := He.glo_ok X G (c.fact 8 (f := .glo "data_of") rfl),
    m_sum_places := He.glo_ok X G (c.fact 9 (f := .glo "sum_places") rfl),
    m_place_sum := He.glo_ok X G (c.fact 10 (f := .glo "place_sum") rfl),
    m_check_modulus := He.glo_ok X G (c.fact 11 (f := .glo "check_modulus") rfl),
    m_check_rest := He.glo_ok X G (c.fact 12 (f := .glo "check_rest") rfl),
    m_divisors_of := He.glo_ok X G (c.fact 13 (f := .glo "divisors_of") rfl),
    m_prime_powers := He.glo_ok X G (c.fact 14 (f := .glo "prime_powers") rfl),
    m_phi_of := He.glo_ok X G (c.fact 15 (f := .glo "phi_of") rfl),
    m_mu_of := He.glo_ok X G (c.fact 16 (f := .glo "mu_of") rfl),
    m_common_divisor := He.glo_ok X G (c.fact 17 (f := .glo "common_divisor") rfl),
    m_ram_of := He.glo_ok X G (c.fact 18 (f := .glo "ram_of") rfl),
    m_check_sized := He.glo_ok X G (c.fact 19 (f := .glo "check_sized") rfl),
    m_size_of := He.glo_ok X G (c.fact 20 (f := .glo "size_of") rfl),
    m__law_hand := He.glo_ok X G (c.fact 21 (f := .glo "_law_hand") rfl),
    m__law_mixed := He.glo_ok X G (c.fact 22 (f := .glo "_law_mixed") rfl),
    m__law_take := He.glo_ok X G (c.fact 23 (f := .glo "_law_take") rfl),
    m__law_power := He.glo_ok X G (c.fact 24 (f := .glo "_law_power") rfl),
    m__law_sum := He.glo_ok X G (c.fact 25 (f := .glo "_law_sum") rfl),
    m__law_exact := He.glo_ok X G (c.fact 26 (f := .glo "_law_exact") rfl),
    m__law_either := He.glo_ok X G (c.fact 27 (f := .glo "_law_either") rfl),
    m__law_doubling := He.glo_ok X G (c.fact 28 (f := .glo "_law_doubling") rfl),
    m__law_free := He.glo_ok X G (c.fact 29 (f := .glo "_law_free") rfl),
    m__law_data := He.glo_ok X G (c.fact 30 (f := .glo "_law_data") rfl),
    m__law_bits := He.glo_ok X G (c.fact 31 (f := .glo "_law_bits") rfl),
    m__law_word_holds := He.glo_ok X G (c.fact 32 (f := .glo "_law_word_holds") rfl),
    m__law_all_hold := He.glo_ok X G (c.fact 33 (f := .glo "_law_all_hold") rfl),
    m_law := He.glo_ok X G (c.fact 34 (f := .glo "law") rfl),
    n_abs := He.free_ok X G (c.fact 35 (f := .free "abs") rfl),
    n_all := He.free_ok X G (c.fact 36 (f := .free "all") rfl),
    n_bool := He.free_ok X G (c.fact 37 (f := .free "bool") rfl),
    n_enumerate := He.free_ok X G (c.fact 38 (f := .free "enumerate") rfl),
    n_int := He.free_ok X G (c.fact 39 (f := .free "int") rfl),
    n_isinstance := He.free_ok X G (c.fact 40 (f := .free "isinstance") rfl),
    n_len := He.free_ok X G (c.fact 41 (f := .free "len") rfl),
    n_list := He.free_ok X G (c.fact 42 (f := .free "list") rfl),
    n_range := He.free_ok X G (c.fact 43 (f := .free "range") rfl),
    n_set := He.free_ok X G (c.fact 44 (f := .free "set") rfl),
    n_sum := He.free_ok X G (c.fact 45 (f := .free "sum") rfl),
    n_tuple := He.free_ok X G (c.fact 46 (f := .free "tuple") rfl),
    n_zip := He.free_ok X G (c.fact 47 (f := .free "zip") rfl),
    c_MOST_DIVIDED := He.int_ok X G (c.fact 48 (f := .int "MOST_DIVIDED" 2000) rfl),
    c_MOST_LENGTH_datas := He.int_ok X G (c.fact 49 (f := .int "MOST_LENGTH_datas" 200) rfl),
    c_MOST_LENGTH_sums := He.int_ok X G (c.fact 50 (f := .int "MOST_LENGTH_sums" 200) rfl),
    c_MOST_LENGTH_wrongs := He.int_ok X G (c.fact 51 (f := .int "MOST_LENGTH_wrongs" 60) rfl),
    c_MOST_MODULUS := He.int_ok X G (c.fact 52 (f := .int "MOST_MODULUS" 1000000) rfl),
    c_MOST_READ := He.int_ok X G (c.fact 53 (f := .int "MOST_READ" 61) rfl),
    c_MOST_SIZED := He.int_ok X G (c.fact 54 (f := .int "MOST_SIZED" 200) rfl),
    m_SumBook := He.glo_ok X G (c.fact 55 (f := .glo "SumBook") rfl),
    k_SumBook := He.cls_ok (c.fact 56 (f := .cls "SumBook") rfl),
    mk_SumBook := He.mkr_ok (c.fact 57 (f := .mkr "SumBook") rfl),
    m_WrongBook := He.glo_ok X G (c.fact 58 (f := .glo "WrongBook") rfl),
    k_WrongBook := He.cls_ok (c.fact 59 (f := .cls "WrongBook") rfl),
    mk_WrongBook := He.mkr_ok (c.fact 60 (f := .mkr "WrongBook") rfl),
    a_SumBook_length := He.noat_ok (c.fact 61 (f := .noat "SumBook" "length") rfl),
    a_SumBook_modulus := He.noat_ok (c.fact 62 (f := .noat "SumBook" "modulus") rfl),
    a_SumBook_rest := He.noat_ok (c.fact 63 (f := .noat "SumBook" "rest") rfl),
    a_WrongBook_length := He.noat_ok (c.fact 64 (f := .noat "WrongBook" "length") rfl),
    a_WrongBook_modulus := He.noat_ok (c.fact 65 (f := .noat "WrongBook" "modulus") rfl),
    a_WrongBook_rest := He.noat_ok (c.fact 66 (f := .noat "WrongBook" "rest") rfl),
    a_WrongBook_size := He.noat_ok (c.fact 67 (f := .noat "WrongBook" "size") rfl),
    me_SumBook_has := He.meth_ok (c.fact 68 (f := .meth "SumBook" "has") rfl),
    me_WrongBook_has := He.meth_ok (c.fact 69 (f := .meth "WrongBook" "has") rfl)
  }⟩
end K32
end T9
namespace T9
namespace K32
open L2 PyProof.Rows PySem.Spec PySem
variable {E : Er → Prop}
theorem m_is_whole {t lo hi : Int} {Q : Bool → Prop} (q : Q (decide (lo ≤ t ∧ t ≤ hi))) : (v_is_whole (t, lo, hi, ())).run E Q := by
  simp only [v_is_whole, w_is_whole, Wt.run_bind, Wt.run_pure, Wt.run_req, Wt.run_opt, Wt.run_any, Wt.run_nox, Wt.run_andThen, Wt.run_fin, Wt.run_finI, Wt.run_never, Wt.run_ite_t, Wt.run_ite_f, Bool.not_true, Bool.not_false, Bool.false_eq_true, ↓reduceIte, Option.isSome_some, Option.isNone_some, decide_eq_true_eq, decide_not, Bool.not_eq_true, ite_true, ite_false, Bool.not_not, Wt.run_ite]
  by_cases h : t < lo
  · have e : decide (lo ≤ t ∧ t ≤ hi) = false := decide_eq_false (by omega)
    rw [e] at q
    simp only [h, decide_true, Wt.run_bind, Wt.run_pure, Wt.run_req, Wt.run_opt, Wt.run_any, Wt.run_nox, Wt.run_andThen, Wt.run_fin, Wt.run_finI, Wt.run_never, Wt.run_ite_t, Wt.run_ite_f, Bool.not_true, Bool.not_false, Bool.false_eq_true, ↓reduceIte, Option.isSome_some, Option.isNone_some, decide_eq_true_eq, decide_not, Bool.not_eq_true, ite_true, ite_false, Bool.not_not, Wt.run_ite]
    exact q
  · have e : decide (lo ≤ t ∧ t ≤ hi) = decide (t ≤ hi) := by
      by_cases h2 : t ≤ hi
      · rw [decide_eq_true h2, decide_eq_true ⟨by omega, h2⟩]
      · rw [decide_eq_false h2, decide_eq_false (fun z => h2 z.2)]
    rw [e] at q
    simp only [h, decide_false, Wt.run_bind, Wt.run_pure, Wt.run_req, Wt.run_opt, Wt.run_any, Wt.run_nox, Wt.run_andThen, Wt.run_fin, Wt.run_finI, Wt.run_never, Wt.run_ite_t, Wt.run_ite_f, Bool.not_true, Bool.not_false, Bool.false_eq_true, ↓reduceIte, Option.isSome_some, Option.isNone_some, decide_eq_true_eq, decide_not, Bool.not_eq_true, ite_true, ite_false, Bool.not_not, Wt.run_ite]
    exact q
theorem m_check_number {t lo hi : Int} {Q : Int → Prop} (h : lo ≤ t ∧ t ≤ hi) (q : Q t) : (v_check_number (t, lo, hi, ())).run E Q := by
  simp only [v_check_number, w_check_number, Wt.run_bind, Wt.run_pure, Wt.run_req, Wt.run_opt, Wt.run_any, Wt.run_nox, Wt.run_andThen, Wt.run_fin, Wt.run_finI, Wt.run_never, Wt.run_ite_t, Wt.run_ite_f, Bool.not_true, Bool.not_false, Bool.false_eq_true, ↓reduceIte, Option.isSome_some, Option.isNone_some, decide_eq_true_eq, decide_not, Bool.not_eq_true, ite_true, ite_false, Bool.not_not, Wt.run_ite]
  refine m_is_whole ?_
  simp only [decide_eq_true h, Wt.run_bind, Wt.run_pure, Wt.run_req, Wt.run_opt, Wt.run_any, Wt.run_nox, Wt.run_andThen, Wt.run_fin, Wt.run_finI, Wt.run_never, Wt.run_ite_t, Wt.run_ite_f, Bool.not_true, Bool.not_false, Bool.false_eq_true, ↓reduceIte, Option.isSome_some, Option.isNone_some, decide_eq_true_eq, decide_not, Bool.not_eq_true, ite_true, ite_false, Bool.not_not, Wt.run_ite]
  exact q
theorem m_check_modulus {t lo : Int} {Q : Unit → Prop} (h : lo ≤ t ∧ t ≤ 1000000) (q : Q ()) : (v_check_modulus (t, lo, ())).run E Q := by
  simp only [v_check_modulus, w_check_modulus, Wt.run_bind, Wt.run_pure, Wt.run_req, Wt.run_opt, Wt.run_any, Wt.run_nox, Wt.run_andThen, Wt.run_fin, Wt.run_finI, Wt.run_never, Wt.run_ite_t, Wt.run_ite_f, Bool.not_true, Bool.not_false, Bool.false_eq_true, ↓reduceIte, Option.isSome_some, Option.isNone_some, decide_eq_true_eq, decide_not, Bool.not_eq_true, ite_true, ite_false, Bool.not_not, Wt.run_ite]
  refine m_is_whole ?_
  simp only [decide_eq_true h, Wt.run_bind, Wt.run_pure, Wt.run_req, Wt.run_opt, Wt.run_any, Wt.run_nox, Wt.run_andThen, Wt.run_fin, Wt.run_finI, Wt.run_never, Wt.run_ite_t, Wt.run_ite_f, Bool.not_true, Bool.not_false, Bool.false_eq_true, ↓reduceIte, Option.isSome_some, Option.isNone_some, decide_eq_true_eq, decide_not, Bool.not_eq_true, ite_true, ite_false, Bool.not_not, Wt.run_ite]
  exact q
theorem m_check_rest {t m : Int} {Q : Unit → Prop} (h : 0 ≤ t ∧ t < m) (q : Q ()) : (v_check_rest (t, m, ())).run E Q := by
  simp only [v_check_rest, w_check_rest, Wt.run_bind, Wt.run_pure, Wt.run_req, Wt.run_opt, Wt.run_any, Wt.run_nox, Wt.run_andThen, Wt.run_fin, Wt.run_finI, Wt.run_never, Wt.run_ite_t, Wt.run_ite_f, Bool.not_true, Bool.not_false, Bool.false_eq_true, ↓reduceIte, Option.isSome_some, Option.isNone_some, decide_eq_true_eq, decide_not, Bool.not_eq_true, ite_true, ite_false, Bool.not_not, Wt.run_ite]
  refine m_is_whole ?_
  have e : 0 ≤ t ∧ t ≤ m - 1 := by omega
  simp only [decide_eq_true e, Wt.run_bind, Wt.run_pure, Wt.run_req, Wt.run_opt, Wt.run_any, Wt.run_nox, Wt.run_andThen, Wt.run_fin, Wt.run_finI, Wt.run_never, Wt.run_ite_t, Wt.run_ite_f, Bool.not_true, Bool.not_false, Bool.false_eq_true, ↓reduceIte, Option.isSome_some, Option.isNone_some, decide_eq_true_eq, decide_not, Bool.not_eq_true, ite_true, ite_false, Bool.not_not, Wt.run_ite]
  exact q
/-! ### powers -/
theorem rng_get' {n : Int} {i : Nat} {x : Int} (h : (rng 0 n)[i]? = some x) : x = (i : Int) ∧ i < n.toNat := by
  have hl : i < (rng 0 n).length := (List.getElem?_eq_some_iff.mp h).1
  rw [rng_len] at hl
  have := rng_get (lo := 0) (hi := n) (i := i) hl
  rw [h] at this
  have e := Option.some.inj this
  exact ⟨by omega, by omega⟩
theorem cmul_small {i j : Int} (hi : i.natAbs < 2 ^ 4000) (hj : j.natAbs < 2 ^ 4000) : CMulW i j := wide_mul hi hj (by decide) (by decide) (by decide)
theorem two_nat (k : Nat) : ((2 : Int) ^ k).natAbs = 2 ^ k := by
  rw [Int.natAbs_pow]
  rfl
theorem m_power_of {n : Int} {Q : Int → Prop} (h : 0 ≤ n ∧ n ≤ 3000) (q : Q (2 ^ n.toNat)) : (v_power_of (2, n, ())).run E Q := by
  simp only [v_power_of, w_power_of, Wt.run_bind, Wt.run_pure, Wt.run_req, Wt.run_opt, Wt.run_any, Wt.run_nox, Wt.run_andThen, Wt.run_fin, Wt.run_finI, Wt.run_never, Wt.run_ite_t, Wt.run_ite_f, Bool.not_true, Bool.not_false, Bool.false_eq_true, ↓reduceIte, Option.isSome_some, Option.isNone_some, decide_eq_true_eq, decide_not, Bool.not_eq_true, ite_true, ite_false, Bool.not_not, Wt.run_ite]
  refine ⟨⟨by omega, by omega⟩, ?_⟩
  refine Wt.for_inv (rng 0 n) 1 (fun i s => s = 2 ^ i ∧ i ≤ n.toNat) ⟨rfl, Nat.zero_le _⟩ (fun i x s hx hs => ?_) (fun s hs => ?_)
  · obtain ⟨rfl, hi⟩ := hs
    have := (rng_get' hx).2
    simp only [Wt.run_bind, Wt.run_pure, Wt.run_req, Wt.run_opt, Wt.run_any, Wt.run_nox, Wt.run_andThen, Wt.run_fin, Wt.run_finI, Wt.run_never, Wt.run_ite_t, Wt.run_ite_f, Bool.not_true, Bool.not_false, Bool.false_eq_true, ↓reduceIte, Option.isSome_some, Option.isNone_some, decide_eq_true_eq, decide_not, Bool.not_eq_true, ite_true, ite_false, Bool.not_not, Wt.run_ite]
    refine ⟨cmul_small ?_ (by decide), ?_, by omega⟩
    · rw [two_nat]
      exact Nat.pow_lt_pow_right (by decide) (by omega)
    · rw [Int.pow_succ]
  · rw [rng_len] at hs
    obtain ⟨rfl, _⟩ := hs
    have e : (n - 0).toNat = n.toNat := by omega
    rw [e]
    simp only [Wt.run_bind, Wt.run_pure, Wt.run_req, Wt.run_opt, Wt.run_any, Wt.run_nox, Wt.run_andThen, Wt.run_fin, Wt.run_finI, Wt.run_never, Wt.run_ite_t, Wt.run_ite_f, Bool.not_true, Bool.not_false, Bool.false_eq_true, ↓reduceIte, Option.isSome_some, Option.isNone_some, decide_eq_true_eq, decide_not, Bool.not_eq_true, ite_true, ite_false, Bool.not_not, Wt.run_ite]
    exact q
theorem m_law_power {n : Int} {Q : Int → Prop} (h : 0 ≤ n ∧ n ≤ 3000) (q : Q (2 ^ n.toNat)) : (v__law_power (2, n, ())).run E Q := by
  simp only [v__law_power, w__law_power, Wt.run_bind, Wt.run_pure, Wt.run_req, Wt.run_opt, Wt.run_any, Wt.run_nox, Wt.run_andThen, Wt.run_fin, Wt.run_finI, Wt.run_never, Wt.run_ite_t, Wt.run_ite_f, Bool.not_true, Bool.not_false, Bool.false_eq_true, ↓reduceIte, Option.isSome_some, Option.isNone_some, decide_eq_true_eq, decide_not, Bool.not_eq_true, ite_true, ite_false, Bool.not_not, Wt.run_ite]
  refine ⟨⟨by omega, by omega⟩, ?_⟩
  refine Wt.for_inv (rng 0 n) 1 (fun i s => s = 2 ^ i ∧ i ≤ n.toNat) ⟨rfl, Nat.zero_le _⟩ (fun i x s hx hs => ?_) (fun s hs => ?_)
  · obtain ⟨rfl, hi⟩ := hs
    have := (rng_get' hx).2
    simp only [Wt.run_bind, Wt.run_pure, Wt.run_req, Wt.run_opt, Wt.run_any, Wt.run_nox, Wt.run_andThen, Wt.run_fin, Wt.run_finI, Wt.run_never, Wt.run_ite_t, Wt.run_ite_f, Bool.not_true, Bool.not_false, Bool.false_eq_true, ↓reduceIte, Option.isSome_some, Option.isNone_some, decide_eq_true_eq, decide_not, Bool.not_eq_true, ite_true, ite_false, Bool.not_not, Wt.run_ite]
    refine ⟨cmul_small ?_ (by decide), ?_, by omega⟩
    · rw [two_nat]
      exact Nat.pow_lt_pow_right (by decide) (by omega)
    · rw [Int.pow_succ]
  · rw [rng_len] at hs
    obtain ⟨rfl, _⟩ := hs
    have e : (n - 0).toNat = n.toNat := by omega
    rw [e]
    simp only [Wt.run_bind, Wt.run_pure, Wt.run_req, Wt.run_opt, Wt.run_any, Wt.run_nox, Wt.run_andThen, Wt.run_fin, Wt.run_finI, Wt.run_never, Wt.run_ite_t, Wt.run_ite_f, Bool.not_true, Bool.not_false, Bool.false_eq_true, ↓reduceIte, Option.isSome_some, Option.isNone_some, decide_eq_true_eq, decide_not, Bool.not_eq_true, ite_true, ite_false, Bool.not_not, Wt.run_ite]
    exact q
/-! ### words -/
theorem enm_get' {xs : List Int} {i : Nat} {p : Int × Int} (h : (enm xs)[i]? = some p) : ∃ x ∈ xs, p = ((i : Int), x) := by
  have hl : i < (enm xs).length := (List.getElem?_eq_some_iff.mp h).1
  rw [enm_len] at hl
  have e := enm_get (xs := xs) (i := i) (x := xs[i]) (List.getElem?_eq_getElem hl)
  rw [h] at e
  exact ⟨xs[i], List.getElem_mem hl, Option.some.inj e⟩
theorem m_check_word {b : Bool} {xs : List Int} {most : Int} {Q : List Int → Prop} (h : (xs.length : Int) ≤ most) (h2 : ∀ x ∈ xs, 0 ≤ x ∧ x ≤ 1) (q : Q xs) : (v_check_word (2, (b, xs), most, ())).run E Q := by
  have e : ¬ (most < (xs.length : Int)) := by omega
  simp only [v_check_word, w_check_word, Wt.run_bind, Wt.run_pure, Wt.run_req, Wt.run_opt, Wt.run_any, Wt.run_nox, Wt.run_andThen, Wt.run_fin, Wt.run_finI, Wt.run_never, Wt.run_ite_t, Wt.run_ite_f, Bool.not_true, Bool.not_false, Bool.false_eq_true, ↓reduceIte, Option.isSome_some, Option.isNone_some, decide_eq_true_eq, decide_not, Bool.not_eq_true, ite_true, ite_false, Bool.not_not, Wt.run_ite, e, decide_false]
  refine Wt.for_inv (enm xs) () (fun i s => True) True.intro (fun i x s hx hs => ?_) (fun s hs => ?_)
  · obtain ⟨y, hy, rfl⟩ := enm_get' hx
    simp only [Wt.run_bind, Wt.run_pure, Wt.run_req, Wt.run_opt, Wt.run_any, Wt.run_nox, Wt.run_andThen, Wt.run_fin, Wt.run_finI, Wt.run_never, Wt.run_ite_t, Wt.run_ite_f, Bool.not_true, Bool.not_false, Bool.false_eq_true, ↓reduceIte, Option.isSome_some, Option.isNone_some, decide_eq_true_eq, decide_not, Bool.not_eq_true, ite_true, ite_false, Bool.not_not, Wt.run_ite]
    refine m_is_whole ?_
    have e2 : 0 ≤ y ∧ y ≤ 2 - 1 := by have := h2 y hy; omega
    simp only [decide_eq_true e2, Wt.run_bind, Wt.run_pure, Wt.run_req, Wt.run_opt, Wt.run_any, Wt.run_nox, Wt.run_andThen, Wt.run_fin, Wt.run_finI, Wt.run_never, Wt.run_ite_t, Wt.run_ite_f, Bool.not_true, Bool.not_false, Bool.false_eq_true, ↓reduceIte, Option.isSome_some, Option.isNone_some, decide_eq_true_eq, decide_not, Bool.not_eq_true, ite_true, ite_false, Bool.not_not, Wt.run_ite]
  · simp only [Wt.run_bind, Wt.run_pure, Wt.run_req, Wt.run_opt, Wt.run_any, Wt.run_nox, Wt.run_andThen, Wt.run_fin, Wt.run_finI, Wt.run_never, Wt.run_ite_t, Wt.run_ite_f, Bool.not_true, Bool.not_false, Bool.false_eq_true, ↓reduceIte, Option.isSome_some, Option.isNone_some, decide_eq_true_eq, decide_not, Bool.not_eq_true, ite_true, ite_false, Bool.not_not, Wt.run_ite]
    exact q
theorem m_check_bits {b : Bool} {xs : List Int} {most : Int} {Q : List Int → Prop} (h : (xs.length : Int) = most) (h2 : ∀ x ∈ xs, 0 ≤ x ∧ x ≤ 1) (q : Q xs) : (v_check_bits ((b, xs), most, ())).run E Q := by
  simp only [v_check_bits, w_check_bits, Wt.run_bind, Wt.run_pure, Wt.run_req, Wt.run_opt, Wt.run_any, Wt.run_nox, Wt.run_andThen, Wt.run_fin, Wt.run_finI, Wt.run_never, Wt.run_ite_t, Wt.run_ite_f, Bool.not_true, Bool.not_false, Bool.false_eq_true, ↓reduceIte, Option.isSome_some, Option.isNone_some, decide_eq_true_eq, decide_not, Bool.not_eq_true, ite_true, ite_false, Bool.not_not, Wt.run_ite, h, decide_true]
  refine Wt.for_inv (enm xs) () (fun i s => True) True.intro (fun i x s hx hs => ?_) (fun s hs => ?_)
  · obtain ⟨y, hy, rfl⟩ := enm_get' hx
    simp only [Wt.run_bind, Wt.run_pure, Wt.run_req, Wt.run_opt, Wt.run_any, Wt.run_nox, Wt.run_andThen, Wt.run_fin, Wt.run_finI, Wt.run_never, Wt.run_ite_t, Wt.run_ite_f, Bool.not_true, Bool.not_false, Bool.false_eq_true, ↓reduceIte, Option.isSome_some, Option.isNone_some, decide_eq_true_eq, decide_not, Bool.not_eq_true, ite_true, ite_false, Bool.not_not, Wt.run_ite]
    refine m_is_whole ?_
    simp only [decide_eq_true (h2 y hy), Wt.run_bind, Wt.run_pure, Wt.run_req, Wt.run_opt, Wt.run_any, Wt.run_nox, Wt.run_andThen, Wt.run_fin, Wt.run_finI, Wt.run_never, Wt.run_ite_t, Wt.run_ite_f, Bool.not_true, Bool.not_false, Bool.false_eq_true, ↓reduceIte, Option.isSome_some, Option.isNone_some, decide_eq_true_eq, decide_not, Bool.not_eq_true, ite_true, ite_false, Bool.not_not, Wt.run_ite]
  · simp only [Wt.run_bind, Wt.run_pure, Wt.run_req, Wt.run_opt, Wt.run_any, Wt.run_nox, Wt.run_andThen, Wt.run_fin, Wt.run_finI, Wt.run_never, Wt.run_ite_t, Wt.run_ite_f, Bool.not_true, Bool.not_false, Bool.false_eq_true, ↓reduceIte, Option.isSome_some, Option.isNone_some, decide_eq_true_eq, decide_not, Bool.not_eq_true, ite_true, ite_false, Bool.not_not, Wt.run_ite]
    exact q
end K32
end T9
namespace T9
namespace K32
open L2 PyProof.Rows PySem.Spec PySem
variable {E : Er → Prop}
theorem sizeLine_big : 1000000 ≤ sizeLine := by rw [sizeLine_eq]; decide
theorem m_sum_places {L : Nat} {g : Int → Int} {Q : Int → Prop} (hL : L ≤ 1000) (hg : ∀ p, 0 ≤ g p ∧ g p ≤ 1) (q : Q (Sp L g)) : (v_sum_places (Wd L g, ())).run E Q := by
  simp only [v_sum_places, w_sum_places, Wt.run_bind, Wt.run_pure, Wt.run_req, Wt.run_opt, Wt.run_any, Wt.run_nox, Wt.run_andThen, Wt.run_fin, Wt.run_finI, Wt.run_never, Wt.run_ite_t, Wt.run_ite_f, Bool.not_true, Bool.not_false, Bool.false_eq_true, ↓reduceIte, Option.isSome_some, Option.isNone_some, decide_eq_true_eq, decide_not, Bool.not_eq_true, ite_true, ite_false, Bool.not_not, Wt.run_ite]
  refine Wt.for_inv (enm (Wd L g)) 0 (fun i s => s = Sp i g ∧ i ≤ L) ⟨rfl, Nat.zero_le _⟩ (fun i x s hx hs => ?_) (fun s hs => ?_)
  · obtain ⟨rfl, hi⟩ := hs
    have hl : i < (enm (Wd L g)).length := (List.getElem?_eq_some_iff.mp hx).1
    rw [enm_len, Wd_len] at hl
    have e := enm_get (Wd_get (g := g) hl)
    rw [hx] at e
    cases e
    simp only [Wt.run_bind, Wt.run_pure, Wt.run_req, Wt.run_opt, Wt.run_any, Wt.run_nox, Wt.run_andThen, Wt.run_fin, Wt.run_finI, Wt.run_never, Wt.run_ite_t, Wt.run_ite_f, Bool.not_true, Bool.not_false, Bool.false_eq_true, ↓reduceIte, Option.isSome_some, Option.isNone_some, decide_eq_true_eq, decide_not, Bool.not_eq_true, ite_true, ite_false, Bool.not_not, Wt.run_ite]
    have h2 := hg ((i : Int) + 1)
    refine ⟨cmul_small (by omega) (by omega), ?_, hl⟩
    show _ = Sn (i + 1) _
    rw [Sn_succ]
    rfl
  · rw [enm_len, Wd_len] at hs
    obtain ⟨rfl, _⟩ := hs
    simp only [Wt.run_bind, Wt.run_pure, Wt.run_req, Wt.run_opt, Wt.run_any, Wt.run_nox, Wt.run_andThen, Wt.run_fin, Wt.run_finI, Wt.run_never, Wt.run_ite_t, Wt.run_ite_f, Bool.not_true, Bool.not_false, Bool.false_eq_true, ↓reduceIte, Option.isSome_some, Option.isNone_some, decide_eq_true_eq, decide_not, Bool.not_eq_true, ite_true, ite_false, Bool.not_not, Wt.run_ite]
    exact q
theorem m_law_sum {L : Nat} {g : Int → Int} {b : Bool} {Q : Int → Prop} (hL : L ≤ 1000) (hg : ∀ p, 0 ≤ g p ∧ g p ≤ 1) (q : Q (Sp L g)) : (v__law_sum ((b, Wd L g), ())).run E Q := by
  have hz := sizeLine_big
  simp only [v__law_sum, w__law_sum, Wt.run_bind, Wt.run_pure, Wt.run_req, Wt.run_opt, Wt.run_any, Wt.run_nox, Wt.run_andThen, Wt.run_fin, Wt.run_finI, Wt.run_never, Wt.run_ite_t, Wt.run_ite_f, Bool.not_true, Bool.not_false, Bool.false_eq_true, ↓reduceIte, Option.isSome_some, Option.isNone_some, decide_eq_true_eq, decide_not, Bool.not_eq_true, ite_true, ite_false, Bool.not_not, Wt.run_ite, Wd_len]
  refine ⟨⟨by omega, by omega⟩, by rw [rng_len]; omega, ?_⟩
  refine Wt.lc_map (fun k => (k + 1) * g (k + 1)) _ (fun k hk => ?_) ?_
  · simp only [Wt.run_bind, Wt.run_pure, Wt.run_req, Wt.run_opt, Wt.run_any, Wt.run_nox, Wt.run_andThen, Wt.run_fin, Wt.run_finI, Wt.run_never, Wt.run_ite_t, Wt.run_ite_f, Bool.not_true, Bool.not_false, Bool.false_eq_true, ↓reduceIte, Option.isSome_some, Option.isNone_some, decide_eq_true_eq, decide_not, Bool.not_eq_true, ite_true, ite_false, Bool.not_not, Wt.run_ite]
    unfold rng at hk
    obtain ⟨j, hj, rfl⟩ := List.mem_map.mp hk
    have hj := List.mem_range.mp hj
    have h2 := hg ((0 : Int) + j + 1)
    refine ⟨g ((0 : Int) + j + 1), ?_, cmul_small (by omega) (by omega), rfl⟩
    have e := Wd_at (L := L) (g := g) (p := (0 : Int) + j + 1) ⟨by omega, by omega⟩
    have e2 : (0 : Int) + j + 1 - 1 = 0 + j := by omega
    rw [e2] at e
    exact e
  · have e : ((rng 0 (L : Int)).map fun k => (k + 1) * g (k + 1)).sum = Sp L g := by
      unfold rng Sp Sn
      rw [List.map_map]
      have e2 : ((L : Int) - 0).toNat = L := by omega
      rw [e2]
      congr 1
      refine List.map_congr_left fun k _ => ?_
      show ((0 : Int) + k + 1) * g (0 + k + 1) = ((k : Int) + 1) * g ((k : Int) + 1)
      rw [Int.zero_add]
    rw [e]
    exact q
/-! ### the doubling places -/
theorem log_facts {L : Int} (h : 1 ≤ L ∧ L ≤ 200) : ∃ m : Nat, 1 ≤ m ∧ m ≤ 8 ∧ L < 2 ^ m ∧ ∀ j, j < m → (2 : Int) ^ j ≤ L := by
  have c : ∀ n : Nat, n < 201 → 1 ≤ n → (Nat.log2 n + 1 ≤ 8 ∧ n < 2 ^ (Nat.log2 n + 1) ∧ 2 ^ Nat.log2 n ≤ n) := by decide +kernel
  obtain ⟨h1, h2, h3⟩ := c L.toNat (by omega) (by omega)
  refine ⟨Nat.log2 L.toNat + 1, by omega, h1, ?_, fun j hj => ?_⟩
  · rw [pow2_nat]; omega
  · have : 2 ^ j ≤ 2 ^ Nat.log2 L.toNat := Nat.pow_le_pow_right (by decide) (by omega)
    rw [pow2_nat]; omega
/-- what the doubling places of L are -/
structure Dbl (L : Int) (m : Nat) : Prop where
  m1 : 1 ≤ m
  m8 : m ≤ 8
  hi : L < 2 ^ m
  lo : ∀ j, j < m → (2 : Int) ^ j ≤ L
theorem pw2_len {m : Nat} : (pw2 m).length = m := by unfold pw2; rw [List.length_map, List.length_range]
theorem pow2_small {j : Nat} (h : j ≤ 3000) : ((2 : Int) ^ j).natAbs < 2 ^ 4000 := by
  rw [two_nat]
  exact Nat.pow_lt_pow_right (by decide) (by omega)
theorem m_doubling {L : Int} {m : Nat} (d : Dbl L m) {Q : List Int → Prop} (q : Q (pw2 m)) : (v_doubling_places (L, ())).run E Q := by
  have hz := sizeLine_big
  have d8 := d.m8
  simp only [v_doubling_places, w_doubling_places, Wt.run_bind, Wt.run_pure, Wt.run_req, Wt.run_opt, Wt.run_any, Wt.run_nox, Wt.run_andThen, Wt.run_fin, Wt.run_finI, Wt.run_never, Wt.run_ite_t, Wt.run_ite_f, Bool.not_true, Bool.not_false, Bool.false_eq_true, ↓reduceIte, Option.isSome_some, Option.isNone_some, decide_eq_true_eq, decide_not, Bool.not_eq_true, ite_true, ite_false, Bool.not_not, Wt.run_ite]
  refine Wt.while_inv (fun s => ∃ j, j ≤ m ∧ s = (pw2 j, (2 : Int) ^ j)) (fun s => m - s.1.length) ⟨0, Nat.zero_le _, rfl⟩ (fun s hs => ?_)
  obtain ⟨j, hj, rfl⟩ := hs
  simp only [Wt.run_bind, Wt.run_pure, Wt.run_req, Wt.run_opt, Wt.run_any, Wt.run_nox, Wt.run_andThen, Wt.run_fin, Wt.run_finI, Wt.run_never, Wt.run_ite_t, Wt.run_ite_f, Bool.not_true, Bool.not_false, Bool.false_eq_true, ↓reduceIte, Option.isSome_some, Option.isNone_some, decide_eq_true_eq, decide_not, Bool.not_eq_true, ite_true, ite_false, Bool.not_not, Wt.run_ite]
  by_cases h : j < m
  · have h1 := d.lo j h
    simp only [h1, decide_true, Wt.run_bind, Wt.run_pure, Wt.run_req, Wt.run_opt, Wt.run_any, Wt.run_nox, Wt.run_andThen, Wt.run_fin, Wt.run_finI, Wt.run_never, Wt.run_ite_t, Wt.run_ite_f, Bool.not_true, Bool.not_false, Bool.false_eq_true, ↓reduceIte, Option.isSome_some, Option.isNone_some, decide_eq_true_eq, decide_not, Bool.not_eq_true, ite_true, ite_false, Bool.not_not, Wt.run_ite]
    refine ⟨by rw [pw2_len]; omega, cmul_small (pow2_small (by omega)) (by decide), ⟨j + 1, h, ?_⟩, ?_⟩
    · rw [pw2_succ, Int.pow_succ]
    · rw [List.length_append, pw2_len]
      show m - (j + 1) < m - j
      omega
  · have e : j = m := by omega
    subst e
    have h1 : ¬ ((2 : Int) ^ j ≤ L) := by have := d.hi; omega
    simp only [h1, decide_false, Wt.run_bind, Wt.run_pure, Wt.run_req, Wt.run_opt, Wt.run_any, Wt.run_nox, Wt.run_andThen, Wt.run_fin, Wt.run_finI, Wt.run_never, Wt.run_ite_t, Wt.run_ite_f, Bool.not_true, Bool.not_false, Bool.false_eq_true, ↓reduceIte, Option.isSome_some, Option.isNone_some, decide_eq_true_eq, decide_not, Bool.not_eq_true, ite_true, ite_false, Bool.not_not, Wt.run_ite]
    exact q
theorem m_law_doubling {L : Int} {m : Nat} (d : Dbl L m) {Q : List Int → Prop} (q : Q (pw2 m)) : (v__law_doubling (L, ())).run E Q := by
  have hz := sizeLine_big
  have d8 := d.m8
  simp only [v__law_doubling, w__law_doubling, Wt.run_bind, Wt.run_pure, Wt.run_req, Wt.run_opt, Wt.run_any, Wt.run_nox, Wt.run_andThen, Wt.run_fin, Wt.run_finI, Wt.run_never, Wt.run_ite_t, Wt.run_ite_f, Bool.not_true, Bool.not_false, Bool.false_eq_true, ↓reduceIte, Option.isSome_some, Option.isNone_some, decide_eq_true_eq, decide_not, Bool.not_eq_true, ite_true, ite_false, Bool.not_not, Wt.run_ite]
  refine ⟨⟨by decide, by decide⟩, ?_⟩
  refine Wt.for_inv (rng 0 9) _ (fun i s => i ≤ 9 ∧ s = (pw2 (min i m), (2 : Int) ^ i)) ⟨by omega, by rw [Nat.zero_min]; rfl⟩ (fun i x s hx hs => ?_) (fun s hs => ?_)
  · obtain ⟨hi, rfl⟩ := hs
    have hi2 := (rng_get' hx).2
    simp only [Wt.run_bind, Wt.run_pure, Wt.run_req, Wt.run_opt, Wt.run_any, Wt.run_nox, Wt.run_andThen, Wt.run_fin, Wt.run_finI, Wt.run_never, Wt.run_ite_t, Wt.run_ite_f, Bool.not_true, Bool.not_false, Bool.false_eq_true, ↓reduceIte, Option.isSome_some, Option.isNone_some, decide_eq_true_eq, decide_not, Bool.not_eq_true, ite_true, ite_false, Bool.not_not, Wt.run_ite]
    have hi3 : i + 1 ≤ 9 := by omega
    by_cases h : i < m
    · have h1 := d.lo i h
      have e1 : min i m = i := by omega
      have e2 : min (i + 1) m = i + 1 := by omega
      simp only [h1, decide_true, Wt.run_bind, Wt.run_pure, Wt.run_req, Wt.run_opt, Wt.run_any, Wt.run_nox, Wt.run_andThen, Wt.run_fin, Wt.run_finI, Wt.run_never, Wt.run_ite_t, Wt.run_ite_f, Bool.not_true, Bool.not_false, Bool.false_eq_true, ↓reduceIte, Option.isSome_some, Option.isNone_some, decide_eq_true_eq, decide_not, Bool.not_eq_true, ite_true, ite_false, Bool.not_not, Wt.run_ite, e1, e2]
      refine ⟨by rw [pw2_len]; omega, cmul_small (pow2_small (by omega)) (by decide), hi3, ?_⟩
      rw [pw2_succ, Int.pow_succ]
    · have h1 : ¬ ((2 : Int) ^ i ≤ L) := by
        have := d.hi
        have := pow2_le (i := m) (j := i) (by omega)
        omega
      have e1 : min i m = m := by omega
      have e2 : min (i + 1) m = m := by omega
      simp only [h1, decide_false, Wt.run_bind, Wt.run_pure, Wt.run_req, Wt.run_opt, Wt.run_any, Wt.run_nox, Wt.run_andThen, Wt.run_fin, Wt.run_finI, Wt.run_never, Wt.run_ite_t, Wt.run_ite_f, Bool.not_true, Bool.not_false, Bool.false_eq_true, ↓reduceIte, Option.isSome_some, Option.isNone_some, decide_eq_true_eq, decide_not, Bool.not_eq_true, ite_true, ite_false, Bool.not_not, Wt.run_ite, e1, e2]
      refine ⟨cmul_small (pow2_small (by omega)) (by decide), hi3, ?_⟩
      rw [Int.pow_succ]
  · obtain ⟨_, rfl⟩ := hs
    have e : min (rng 0 9).length m = m := by rw [rng_len]; omega
    simp only [Wt.run_bind, Wt.run_pure, Wt.run_req, Wt.run_opt, Wt.run_any, Wt.run_nox, Wt.run_andThen, Wt.run_fin, Wt.run_finI, Wt.run_never, Wt.run_ite_t, Wt.run_ite_f, Bool.not_true, Bool.not_false, Bool.false_eq_true, ↓reduceIte, Option.isSome_some, Option.isNone_some, decide_eq_true_eq, decide_not, Bool.not_eq_true, ite_true, ite_false, Bool.not_not, Wt.run_ite, e]
    exact q
/-! ### the free places -/
def fx (L : Int) (m : Nat) (wr : Bool) : List Int := pw2 m ++ (if wr = true then [L] else [])
def fr (L : Int) (m : Nat) (wr : Bool) : List Int := (rng 1 (L + 1)).filter fun p => !decide (p ∈ fx L m wr)
theorem mem_rng {lo hi x : Int} : x ∈ rng lo hi ↔ lo ≤ x ∧ x < hi := by
  unfold rng
  rw [List.mem_map]
  constructor
  · rintro ⟨k, hk, rfl⟩
    have := List.mem_range.mp hk
    omega
  · intro h
    exact ⟨(x - lo).toNat, List.mem_range.mpr (by omega), by omega⟩
theorem rng_nodup (lo hi : Int) : (rng lo hi).Nodup := by
  unfold rng
  exact List.Pairwise.map _ (fun a b h z => h (by omega)) List.nodup_range
theorem fr_nodup {L : Int} {m : Nat} {wr : Bool} : (fr L m wr).Nodup := List.Pairwise.filter _ (rng_nodup _ _)
theorem mem_fr {L : Int} {m : Nat} {wr : Bool} {p : Int} : p ∈ fr L m wr ↔ (1 ≤ p ∧ p ≤ L) ∧ p ∉ fx L m wr := by
  unfold fr
  rw [List.mem_filter, mem_rng]
  simp only [Bool.not_eq_true', decide_eq_false_iff_not]
  constructor
  · rintro ⟨h1, h2⟩
    exact ⟨⟨by omega, by omega⟩, h2⟩
  · rintro ⟨h1, h2⟩
    exact ⟨⟨by omega, by omega⟩, h2⟩
theorem fr_len {L : Int} {m : Nat} {wr : Bool} : (fr L m wr).length ≤ L.toNat := by
  unfold fr
  refine Nat.le_trans (List.length_filter_le _ _) ?_
  rw [rng_len]
  omega
theorem lc_free {fx : List Int} {xs : List Int} {Q : List Int → Prop} (q : Q (xs.filter fun p => !decide (p ∈ fx))) : (Wt.lc (lcTurn (fun x25 => (Wt.bind (Wt.pure x25) fun x => Wt.bind (Wt.pure fx) fun xs => Wt.pure (!decide (x ∈ xs)))) (fun x25 => (Wt.pure x25))) xs).run E Q := by
  refine Wt.lc_run (fun p => if (!decide (p ∈ fx)) = true then some p else none) xs (fun x _ => ?_) ?_
  · rw [Wt.run_lcTurn]
    simp only [Wt.run_bind, Wt.run_pure, Wt.run_req, Wt.run_opt, Wt.run_any, Wt.run_nox, Wt.run_andThen, Wt.run_fin, Wt.run_finI, Wt.run_never, Wt.run_ite_t, Wt.run_ite_f, Bool.not_true, Bool.not_false, Bool.false_eq_true, ↓reduceIte, Option.isSome_some, Option.isNone_some, decide_eq_true_eq, decide_not, Bool.not_eq_true, ite_true, ite_false, Bool.not_not, Wt.run_ite]
    by_cases h : x ∈ fx
    · simp only [h, decide_true, Wt.run_bind, Wt.run_pure, Wt.run_req, Wt.run_opt, Wt.run_any, Wt.run_nox, Wt.run_andThen, Wt.run_fin, Wt.run_finI, Wt.run_never, Wt.run_ite_t, Wt.run_ite_f, Bool.not_true, Bool.not_false, Bool.false_eq_true, ↓reduceIte, Option.isSome_some, Option.isNone_some, decide_eq_true_eq, decide_not, Bool.not_eq_true, ite_true, ite_false, Bool.not_not, Wt.run_ite]
    · simp only [h, decide_false, Wt.run_bind, Wt.run_pure, Wt.run_req, Wt.run_opt, Wt.run_any, Wt.run_nox, Wt.run_andThen, Wt.run_fin, Wt.run_finI, Wt.run_never, Wt.run_ite_t, Wt.run_ite_f, Bool.not_true, Bool.not_false, Bool.false_eq_true, ↓reduceIte, Option.isSome_some, Option.isNone_some, decide_eq_true_eq, decide_not, Bool.not_eq_true, ite_true, ite_false, Bool.not_not, Wt.run_ite]
  · have e : (xs.filterMap fun p => if (!decide (p ∈ fx)) = true then some p else none) = xs.filter fun p => !decide (p ∈ fx) := by
      clear q
      induction xs with
      | nil => rfl
      | cons x xs ih =>
        rw [List.filterMap_cons, List.filter_cons]
        by_cases h : (!decide (x ∈ fx)) = true
        · rw [if_pos h, if_pos h]
          show x :: _ = _
          rw [ih]
        · rw [if_neg h, if_neg h]
          exact ih
    rw [e]
    exact q
theorem m_free_places {L : Int} {m : Nat} {wr : Bool} (hL : 1 ≤ L ∧ L ≤ 200) (d : Dbl L m) {Q : List Int → Prop} (q : Q (fr L m wr)) : (v_free_places (L, wr, ())).run E Q := by
  have hz := sizeLine_big
  have d8 := d.m8
  simp only [v_free_places, w_free_places, Wt.run_bind, Wt.run_pure, Wt.run_req, Wt.run_opt, Wt.run_any, Wt.run_nox, Wt.run_andThen, Wt.run_fin, Wt.run_finI, Wt.run_never, Wt.run_ite_t, Wt.run_ite_f, Bool.not_true, Bool.not_false, Bool.false_eq_true, ↓reduceIte, Option.isSome_some, Option.isNone_some, decide_eq_true_eq, decide_not, Bool.not_eq_true, ite_true, ite_false, Bool.not_not, Wt.run_ite]
  refine m_check_number hL (m_doubling d ?_)
  cases wr with
  | false =>
    simp only [Wt.run_bind, Wt.run_pure, Wt.run_req, Wt.run_opt, Wt.run_any, Wt.run_nox, Wt.run_andThen, Wt.run_fin, Wt.run_finI, Wt.run_never, Wt.run_ite_t, Wt.run_ite_f, Bool.not_true, Bool.not_false, Bool.false_eq_true, ↓reduceIte, Option.isSome_some, Option.isNone_some, decide_eq_true_eq, decide_not, Bool.not_eq_true, ite_true, ite_false, Bool.not_not, Wt.run_ite]
    refine ⟨⟨by decide, by decide, by omega, by omega⟩, by rw [rng_len]; omega, lc_free ?_⟩
    have e : fx L m false = pw2 m := List.append_nil _
    unfold fr at q
    rw [e] at q
    exact q
  | true =>
    simp only [Wt.run_bind, Wt.run_pure, Wt.run_req, Wt.run_opt, Wt.run_any, Wt.run_nox, Wt.run_andThen, Wt.run_fin, Wt.run_finI, Wt.run_never, Wt.run_ite_t, Wt.run_ite_f, Bool.not_true, Bool.not_false, Bool.false_eq_true, ↓reduceIte, Option.isSome_some, Option.isNone_some, decide_eq_true_eq, decide_not, Bool.not_eq_true, ite_true, ite_false, Bool.not_not, Wt.run_ite]
    refine ⟨by rw [pw2_len]; simp only [List.length_cons, List.length_nil]; omega, ⟨by decide, by decide, by omega, by omega⟩, by rw [rng_len]; omega, lc_free ?_⟩
    exact q
theorem m_law_free {L : Int} {m : Nat} {wr : Bool} (hL : 1 ≤ L ∧ L ≤ 200) (d : Dbl L m) {Q : List Int → Prop} (q : Q (fr L m wr)) : (v__law_free (L, wr, ())).run E Q := by
  have hz := sizeLine_big
  have d8 := d.m8
  simp only [v__law_free, w__law_free, Wt.run_bind, Wt.run_pure, Wt.run_req, Wt.run_opt, Wt.run_any, Wt.run_nox, Wt.run_andThen, Wt.run_fin, Wt.run_finI, Wt.run_never, Wt.run_ite_t, Wt.run_ite_f, Bool.not_true, Bool.not_false, Bool.false_eq_true, ↓reduceIte, Option.isSome_some, Option.isNone_some, decide_eq_true_eq, decide_not, Bool.not_eq_true, ite_true, ite_false, Bool.not_not, Wt.run_ite]
  refine m_law_doubling d ?_
  cases wr with
  | false =>
    simp only [Wt.run_bind, Wt.run_pure, Wt.run_req, Wt.run_opt, Wt.run_any, Wt.run_nox, Wt.run_andThen, Wt.run_fin, Wt.run_finI, Wt.run_never, Wt.run_ite_t, Wt.run_ite_f, Bool.not_true, Bool.not_false, Bool.false_eq_true, ↓reduceIte, Option.isSome_some, Option.isNone_some, decide_eq_true_eq, decide_not, Bool.not_eq_true, ite_true, ite_false, Bool.not_not, Wt.run_ite]
    exact ⟨by rw [pw2_len]; simp only [List.length_nil]; omega, ⟨by decide, by decide, by omega, by omega⟩, by rw [rng_len]; omega, lc_free q⟩
  | true =>
    simp only [Wt.run_bind, Wt.run_pure, Wt.run_req, Wt.run_opt, Wt.run_any, Wt.run_nox, Wt.run_andThen, Wt.run_fin, Wt.run_finI, Wt.run_never, Wt.run_ite_t, Wt.run_ite_f, Bool.not_true, Bool.not_false, Bool.false_eq_true, ↓reduceIte, Option.isSome_some, Option.isNone_some, decide_eq_true_eq, decide_not, Bool.not_eq_true, ite_true, ite_false, Bool.not_not, Wt.run_ite]
    exact ⟨by rw [pw2_len]; simp only [List.length_cons, List.length_nil]; omega, ⟨by decide, by decide, by omega, by omega⟩, by rw [rng_len]; omega, lc_free q⟩
end K32
end T9
namespace T9
namespace K32
open L2 PyProof.Rows PySem.Spec PySem
variable {E : Er → Prop}
theorem run_mono {α : Type} {m : Wt α} {P Q : α → Prop} (h : m.run E P) (k : ∀ a, P a → Q a) : m.run E Q := m.mono (fun _ z => z) k h
/-! ### the word of some data -/
def md (n : Nat) (wr : Bool) : Int := if wr = true then 2 * (n : Int) else (n : Int) + 1
def zz (n m : Nat) (wr : Bool) (bits : List Int) : List (Int × Int) := (fr n m wr).zip bits
def Tz (z : List (Int × Int)) : Int := (z.map fun q => q.1 * q.2).sum
def lk (n m : Nat) (wr : Bool) (rest : Int) (bits : List Int) : Int := (rest - Tz (zz n m wr bits)) % md n wr
def big (n m : Nat) (wr : Bool) (rest : Int) (bits : List Int) : Bool := decide ((pw2 m).sum < lk n m wr rest bits)
def g1 (n m : Nat) (wr : Bool) (bits : List Int) : Int → Int := ups (fun _ => 0) (zz n m wr bits)
def g2 (n m : Nat) (wr : Bool) (rest : Int) (bits : List Int) : Int → Int := if big n m wr rest bits = true then up (g1 n m wr bits) n 1 else g1 n m wr bits
def lk2 (n m : Nat) (wr : Bool) (rest : Int) (bits : List Int) : Int := if big n m wr rest bits = true then lk n m wr rest bits - n else lk n m wr rest bits
def zd (m : Nat) (l : Int) : List (Int × Int) := (pw2 m).map fun p => (p, l / p % 2)
def g3 (n m : Nat) (wr : Bool) (rest : Int) (bits : List Int) : Int → Int := ups (g2 n m wr rest bits) (zd m (lk2 n m wr rest bits))
def dw (n m : Nat) (wr : Bool) (rest : Int) (bits : List Int) : List Int := Wd n (g3 n m wr rest bits)
theorem set_step {n : Nat} {g : Int → Int} {z : List (Int × Int)} {i : Nat} {x : Int × Int} (hx : z[i]? = some x) (hr : 1 ≤ x.1 ∧ x.1 ≤ (n : Int)) : (Wd n (ups g (z.take i))).set (x.1 - 1).toNat x.2 = Wd n (ups g (z.take (i + 1))) := by
  rw [Wd_set hr, List.take_add_one, hx]
  show _ = Wd n (ups g (z.take i ++ [x]))
  rw [ups_app]
theorem pw2_range {n m : Nat} (d : Dbl n m) {p : Int} (h : p ∈ pw2 m) : 1 ≤ p ∧ p ≤ (n : Int) := by
  obtain ⟨j, hj, rfl⟩ := mem_pw2.mp h
  have := pow2_pos j
  exact ⟨by omega, d.lo j hj⟩
theorem zz_range {n m : Nat} {wr : Bool} {bits : List Int} {q : Int × Int} (h : q ∈ zz n m wr bits) : (1 ≤ q.1 ∧ q.1 ≤ (n : Int)) ∧ q.1 ∉ fx n m wr ∧ q.2 ∈ bits := by
  have h1 := (List.of_mem_zip (a := q.1) (b := q.2) h)
  have := mem_fr.mp h1.1
  exact ⟨this.1, this.2, h1.2⟩
theorem md_pos {n : Nat} {wr : Bool} (h : 1 ≤ n) : 0 < md n wr := by
  unfold md
  cases wr <;> simp only [Bool.false_eq_true, ↓reduceIte] <;> omega
theorem lk_range {n m : Nat} {wr : Bool} {rest : Int} {bits : List Int} (h : 1 ≤ n) : 0 ≤ lk n m wr rest bits ∧ lk n m wr rest bits < md n wr := by
  have := md_pos (wr := wr) h
  exact ⟨Int.emod_nonneg _ (by omega), Int.emod_lt_of_pos _ this⟩
/-- when the lacking is too big -/
theorem big_iff {n m : Nat} {wr : Bool} {rest : Int} {bits : List Int} (h : 1 ≤ n) (d : Dbl n m) (hb : big n m wr rest bits = true) : wr = true ∧ (n : Int) ∉ pw2 m := by
  have hb := of_decide_eq_true hb
  have hl := lk_range (m := m) (wr := wr) (rest := rest) (bits := bits) h
  rw [pw2_sum] at hb
  have := d.hi
  unfold md at hl
  cases wr with
  | false =>
    simp only [Bool.false_eq_true, ↓reduceIte] at hl
    omega
  | true =>
    refine ⟨rfl, fun z => ?_⟩
    simp only [↓reduceIte] at hl
    obtain ⟨j, hj, e⟩ := mem_pw2.mp z
    have h1 : (2 : Int) ^ (j + 1) ≤ 2 ^ m := pow2_le hj
    rw [Int.pow_succ] at h1
    omega
theorem big_law {n m : Nat} {wr : Bool} {rest : Int} {bits : List Int} (h : 1 ≤ n) (d : Dbl n m) : (if wr = true then (if (!decide ((n : Int) ∈ pw2 m)) = true then decide ((pw2 m).sum < lk n m wr rest bits) else false) else false) = big n m wr rest bits := by
  cases hb : big n m wr rest bits with
  | true =>
    obtain ⟨rfl, hn⟩ := big_iff h d hb
    have hb : decide ((pw2 m).sum < lk n m true rest bits) = true := hb
    simp only [hn, decide_false, Bool.not_false, ↓reduceIte, hb]
  | false =>
    have hb : decide ((pw2 m).sum < lk n m wr rest bits) = false := hb
    rw [hb]
    cases wr <;> simp
theorem lk2_nn {n m : Nat} {wr : Bool} {rest : Int} {bits : List Int} (h : 1 ≤ n) (d : Dbl n m) : 0 ≤ lk2 n m wr rest bits ∧ lk2 n m wr rest bits < 2 ^ m := by
  have hl := lk_range (m := m) (wr := wr) (rest := rest) (bits := bits) h
  have h1 := d.hi
  unfold lk2
  cases hb : big n m wr rest bits with
  | true =>
    obtain ⟨rfl, hn⟩ := big_iff h d hb
    have hb := of_decide_eq_true hb
    rw [pw2_sum] at hb
    unfold md at hl
    simp only [↓reduceIte] at hl ⊢
    omega
  | false =>
    have hb : ¬ _ := of_decide_eq_false hb
    rw [pw2_sum] at hb
    simp only [Bool.false_eq_true, ↓reduceIte]
    omega
theorem zd_keys {m : Nat} {l : Int} : (zd m l).map (·.1) = pw2 m := by
  unfold zd
  rw [List.map_map]
  exact List.map_id _
theorem zz_keys {n m : Nat} {wr : Bool} {bits : List Int} (hb : bits.length = (fr n m wr).length) : (zz n m wr bits).map (·.1) = fr n m wr := List.map_fst_zip (by omega)
theorem m_data_word {n m : Nat} {wr b : Bool} {rest : Int} {bits : List Int} (hn : 1 ≤ n ∧ n ≤ 200) (d : Dbl n m) (hr : 0 ≤ rest ∧ rest < md n wr) (hb : bits.length = (fr n m wr).length) (h01 : ∀ x ∈ bits, 0 ≤ x ∧ x ≤ 1)
    {Q : List Int → Prop} (q : Q (dw n m wr rest bits)) : (v_data_word ((n : Int), rest, (b, bits), wr, ())).run E Q := by
  have hz := sizeLine_big
  have d8 := d.m8
  have hfl : (fr n m wr).length ≤ n := by have := fr_len (L := n) (m := m) (wr := wr); omega
  have hmp := md_pos (wr := wr) hn.1
  have hzl : (zz n m wr bits).length ≤ n := by
    unfold zz
    rw [List.length_zip]
    omega
  simp only [v_data_word, w_data_word, Wt.run_bind, Wt.run_pure, Wt.run_req, Wt.run_opt, Wt.run_any, Wt.run_nox, Wt.run_andThen, Wt.run_fin, Wt.run_finI, Wt.run_never, Wt.run_ite_t, Wt.run_ite_f, Bool.not_true, Bool.not_false, Bool.false_eq_true, ↓reduceIte, Option.isSome_some, Option.isNone_some, decide_eq_true_eq, decide_not, Bool.not_eq_true, ite_true, ite_false, Bool.not_not]
  refine m_free_places ⟨by omega, by omega⟩ d ?_
  refine run_mono (P := fun M => M = md n wr) ?_ (fun M hM => ?_)
  · unfold md
    cases wr <;> simp only [Wt.run_bind, Wt.run_pure, Wt.run_req, Wt.run_opt, Wt.run_any, Wt.run_nox, Wt.run_andThen, Wt.run_fin, Wt.run_finI, Wt.run_never, Wt.run_ite_t, Wt.run_ite_f, Bool.not_true, Bool.not_false, Bool.false_eq_true, ↓reduceIte, Option.isSome_some, Option.isNone_some, decide_eq_true_eq, decide_not, Bool.not_eq_true, ite_true, ite_false, Bool.not_not, Wt.run_ite]
    exact ⟨cmul_small (by decide) (by omega), by trivial⟩
  subst hM
  refine m_is_whole ?_
  have e1 : 0 ≤ rest ∧ rest ≤ md n wr - 1 := by omega
  simp only [decide_eq_true e1, Wt.run_bind, Wt.run_pure, Wt.run_req, Wt.run_opt, Wt.run_any, Wt.run_nox, Wt.run_andThen, Wt.run_fin, Wt.run_finI, Wt.run_never, Wt.run_ite_t, Wt.run_ite_f, Bool.not_true, Bool.not_false, Bool.false_eq_true, ↓reduceIte, Option.isSome_some, Option.isNone_some, decide_eq_true_eq, decide_not, Bool.not_eq_true, ite_true, ite_false, Bool.not_not]
  refine m_check_bits (by omega) h01 ?_
  refine ⟨⟨by omega, by omega, by simp only [List.length_cons, List.length_nil]; omega⟩, ?_⟩
  have e2 : (n : Int).toNat = n := by omega
  rw [e2, Wd_zero]
  refine Wt.for_inv (zz n m wr bits) _ (fun i s => s = Wd n (ups (fun _ => 0) ((zz n m wr bits).take i))) rfl (fun i x s hx hs => ?_) (fun s hs => ?_)
  · subst hs
    have hx2 := (zz_range (List.mem_of_getElem? hx)).1
    simp only [Wt.run_bind, Wt.run_pure, Wt.run_req, Wt.run_opt, Wt.run_any, Wt.run_nox, Wt.run_andThen, Wt.run_fin, Wt.run_finI, Wt.run_never, Wt.run_ite_t, Wt.run_ite_f, Bool.not_true, Bool.not_false, Bool.false_eq_true, ↓reduceIte, Option.isSome_some, Option.isNone_some, decide_eq_true_eq, decide_not, Bool.not_eq_true, ite_true, ite_false, Bool.not_not, Wt.run_ite]
    exact ⟨_, Wd_ix hx2, set_step hx hx2⟩
  subst hs
  rw [List.take_length]
  simp only [Wt.run_bind, Wt.run_pure, Wt.run_req, Wt.run_opt, Wt.run_any, Wt.run_nox, Wt.run_andThen, Wt.run_fin, Wt.run_finI, Wt.run_never, Wt.run_ite_t, Wt.run_ite_f, Bool.not_true, Bool.not_false, Bool.false_eq_true, ↓reduceIte, Option.isSome_some, Option.isNone_some, decide_eq_true_eq, decide_not, Bool.not_eq_true, ite_true, ite_false, Bool.not_not]
  refine ⟨Nat.le_trans hzl (by omega), ?_⟩
  refine Wt.lc_map (fun q => q.1 * q.2) _ (fun k hk => ?_) ?_
  · obtain ⟨h1, _, h3⟩ := zz_range hk
    have h3 := h01 _ h3
    simp only [Wt.run_bind, Wt.run_pure, Wt.run_req, Wt.run_opt, Wt.run_any, Wt.run_nox, Wt.run_andThen, Wt.run_fin, Wt.run_finI, Wt.run_never, Wt.run_ite_t, Wt.run_ite_f, Bool.not_true, Bool.not_false, Bool.false_eq_true, ↓reduceIte, Option.isSome_some, Option.isNone_some, decide_eq_true_eq, decide_not, Bool.not_eq_true, ite_true, ite_false, Bool.not_not, Wt.run_ite]
    exact ⟨cmul_small (by omega) (by omega), by trivial⟩
  refine ⟨hmp, ?_⟩
  refine m_doubling d ?_
  refine run_mono (P := fun o => o = .nxt (Wd n (g2 n m wr rest bits), lk2 n m wr rest bits)) ?_ (fun o ho => ?_)
  · show (Wt.ite (big n m wr rest bits) _ _).run _ _
    cases hbg : big n m wr rest bits with
    | false =>
      simp only [Wt.run_bind, Wt.run_pure, Wt.run_req, Wt.run_opt, Wt.run_any, Wt.run_nox, Wt.run_andThen, Wt.run_fin, Wt.run_finI, Wt.run_never, Wt.run_ite_t, Wt.run_ite_f, Bool.not_true, Bool.not_false, Bool.false_eq_true, ↓reduceIte, Option.isSome_some, Option.isNone_some, decide_eq_true_eq, decide_not, Bool.not_eq_true, ite_true, ite_false, Bool.not_not, Wt.run_ite]
      unfold g2 lk2
      rw [hbg]
      rfl
    | true =>
      simp only [Wt.run_bind, Wt.run_pure, Wt.run_req, Wt.run_opt, Wt.run_any, Wt.run_nox, Wt.run_andThen, Wt.run_fin, Wt.run_finI, Wt.run_never, Wt.run_ite_t, Wt.run_ite_f, Bool.not_true, Bool.not_false, Bool.false_eq_true, ↓reduceIte, Option.isSome_some, Option.isNone_some, decide_eq_true_eq, decide_not, Bool.not_eq_true, ite_true, ite_false, Bool.not_not, Wt.run_ite]
      have hL : 1 ≤ (n : Int) ∧ (n : Int) ≤ (n : Int) := by omega
      refine ⟨_, Wd_ix hL, ?_⟩
      rw [Wd_set hL]
      unfold g2 lk2
      rw [hbg]
      rfl
  subst ho
  simp only [Wt.run_bind, Wt.run_pure, Wt.run_req, Wt.run_opt, Wt.run_any, Wt.run_nox, Wt.run_andThen, Wt.run_fin, Wt.run_finI, Wt.run_never, Wt.run_ite_t, Wt.run_ite_f, Bool.not_true, Bool.not_false, Bool.false_eq_true, ↓reduceIte, Option.isSome_some, Option.isNone_some, decide_eq_true_eq, decide_not, Bool.not_eq_true, ite_true, ite_false, Bool.not_not]
  refine Wt.for_inv (pw2 m) _ (fun i s => s = Wd n (ups (g2 n m wr rest bits) ((zd m (lk2 n m wr rest bits)).take i))) rfl (fun i x s hx hs => ?_) (fun s hs => ?_)
  · subst hs
    have hx2 := pw2_range d (List.mem_of_getElem? hx)
    have hx3 : (zd m (lk2 n m wr rest bits))[i]? = some (x, lk2 n m wr rest bits / x % 2) := by
      unfold zd
      rw [List.getElem?_map, hx]
      rfl
    simp only [Wt.run_bind, Wt.run_pure, Wt.run_req, Wt.run_opt, Wt.run_any, Wt.run_nox, Wt.run_andThen, Wt.run_fin, Wt.run_finI, Wt.run_never, Wt.run_ite_t, Wt.run_ite_f, Bool.not_true, Bool.not_false, Bool.false_eq_true, ↓reduceIte, Option.isSome_some, Option.isNone_some, decide_eq_true_eq, decide_not, Bool.not_eq_true, ite_true, ite_false, Bool.not_not, Wt.run_ite]
    exact ⟨wide_div (b := 4000) (by omega) (by omega) (by decide) (by decide), by decide, _, Wd_ix hx2, set_step hx3 hx2⟩
  subst hs
  simp only [Wt.run_bind, Wt.run_pure, Wt.run_req, Wt.run_opt, Wt.run_any, Wt.run_nox, Wt.run_andThen, Wt.run_fin, Wt.run_finI, Wt.run_never, Wt.run_ite_t, Wt.run_ite_f, Bool.not_true, Bool.not_false, Bool.false_eq_true, ↓reduceIte, Option.isSome_some, Option.isNone_some, decide_eq_true_eq, decide_not, Bool.not_eq_true, ite_true, ite_false, Bool.not_not]
  have e3 : (zd m (lk2 n m wr rest bits)).take (pw2 m).length = zd m (lk2 n m wr rest bits) := by
    unfold zd
    rw [← List.length_map (f := fun p => (p, lk2 n m wr rest bits / p % 2)), List.take_length]
  rw [e3]
  exact q
theorem g1_01 {n m : Nat} {wr : Bool} {bits : List Int} (hb : bits.length = (fr n m wr).length) (h01 : ∀ x ∈ bits, 0 ≤ x ∧ x ≤ 1) (p : Int) : 0 ≤ g1 n m wr bits p ∧ g1 n m wr bits p ≤ 1 := by
  unfold g1
  by_cases h : p ∈ (zz n m wr bits).map (·.1)
  · obtain ⟨q, hq, rfl⟩ := List.mem_map.mp h
    rw [ups_get (b := q.2) (by rw [zz_keys hb]; exact fr_nodup) hq]
    exact h01 _ (zz_range hq).2.2
  · rw [ups_not h]
    decide
theorem Sp_g1 {n m : Nat} {wr : Bool} {bits : List Int} (hb : bits.length = (fr n m wr).length) : Sp n (g1 n m wr bits) = Tz (zz n m wr bits) := by
  unfold g1
  rw [Sp_ups (by rw [zz_keys hb]; exact fr_nodup) (fun p hp => by rw [zz_keys hb] at hp; exact (mem_fr.mp hp).1)]
  have e : Sp n (fun _ => 0) = 0 := by
    have : ∀ k : Nat, Sp k (fun _ => 0) = 0 := fun k => by
      induction k with
      | zero => rfl
      | succ k ih =>
        show Sn (k + 1) _ = 0
        rw [Sn_succ]
        have ih : Sn k (fun p => p * 0) = 0 := ih
        rw [ih]
        show (0 : Int) + ((k : Int) + 1) * 0 = 0
        rw [Int.mul_zero]
        rfl
    exact this n
  rw [e]
  unfold Tz
  simp only [Int.sub_zero, Int.zero_add]
theorem m_law_data {n m : Nat} {wr : Bool} {rest : Int} {bits : List Int} (hn : 1 ≤ n ∧ n ≤ 200) (d : Dbl n m) (hb : bits.length = (fr n m wr).length) (h01 : ∀ x ∈ bits, 0 ≤ x ∧ x ≤ 1)
    {Q : List Int → Prop} (q : Q (dw n m wr rest bits)) : (v__law_data ((n : Int), rest, bits, wr, ())).run E Q := by
  have hz := sizeLine_big
  have d8 := d.m8
  have hfl : (fr n m wr).length ≤ n := by have := fr_len (L := n) (m := m) (wr := wr); omega
  have hmp := md_pos (wr := wr) hn.1
  simp only [v__law_data, w__law_data, Wt.run_bind, Wt.run_pure, Wt.run_req, Wt.run_opt, Wt.run_any, Wt.run_nox, Wt.run_andThen, Wt.run_fin, Wt.run_finI, Wt.run_never, Wt.run_ite_t, Wt.run_ite_f, Bool.not_true, Bool.not_false, Bool.false_eq_true, ↓reduceIte, Option.isSome_some, Option.isNone_some, decide_eq_true_eq, decide_not, Bool.not_eq_true, ite_true, ite_false, Bool.not_not]
  refine run_mono (P := fun M => M = md n wr) ?_ (fun M hM => ?_)
  · unfold md
    cases wr <;> simp only [Wt.run_bind, Wt.run_pure, Wt.run_req, Wt.run_opt, Wt.run_any, Wt.run_nox, Wt.run_andThen, Wt.run_fin, Wt.run_finI, Wt.run_never, Wt.run_ite_t, Wt.run_ite_f, Bool.not_true, Bool.not_false, Bool.false_eq_true, ↓reduceIte, Option.isSome_some, Option.isNone_some, decide_eq_true_eq, decide_not, Bool.not_eq_true, ite_true, ite_false, Bool.not_not, Wt.run_ite]
    exact ⟨cmul_small (by decide) (by omega), by trivial⟩
  subst hM
  refine m_law_free ⟨by omega, by omega⟩ d ?_
  refine ⟨⟨by omega, by omega, by simp only [List.length_cons, List.length_nil]; omega⟩, ⟨by omega, by omega⟩, ?_⟩
  have e2 : (n : Int).toNat = n := by omega
  rw [e2, Wd_zero]
  refine Wt.for_inv (rng 0 ((fr n m wr).length : Int)) _ (fun i s => i ≤ (fr n m wr).length ∧ s = Wd n (ups (fun _ => 0) ((zz n m wr bits).take i))) ⟨Nat.zero_le _, rfl⟩ (fun i x s hx hs => ?_) (fun s hs => ?_)
  · obtain ⟨_, rfl⟩ := hs
    obtain ⟨rfl, hi⟩ := rng_get' hx
    have hi1 : i < (fr n m wr).length := by omega
    have hb1 : bits[i]? = some (bits[i]'(by omega)) := List.getElem?_eq_getElem _
    have hf1 : (fr n m wr)[i]? = some ((fr n m wr)[i]'hi1) := List.getElem?_eq_getElem _
    have hx3 : (zz n m wr bits)[i]? = some ((fr n m wr)[i]'hi1, bits[i]'(by omega)) := zip_get hf1 hb1
    have hx2 := (zz_range (List.mem_of_getElem? hx3)).1
    simp only [Wt.run_bind, Wt.run_pure, Wt.run_req, Wt.run_opt, Wt.run_any, Wt.run_nox, Wt.run_andThen, Wt.run_fin, Wt.run_finI, Wt.run_never, Wt.run_ite_t, Wt.run_ite_f, Bool.not_true, Bool.not_false, Bool.false_eq_true, ↓reduceIte, Option.isSome_some, Option.isNone_some, decide_eq_true_eq, decide_not, Bool.not_eq_true, ite_true, ite_false, Bool.not_not, Wt.run_ite]
    exact ⟨_, atI_nat hb1, _, atI_nat hf1, _, Wd_ix hx2, by omega, set_step hx3 hx2⟩
  obtain ⟨_, rfl⟩ := hs
  rw [rng_len]
  have e4 : (zz n m wr bits).take ((((fr n m wr).length : Int) - 0).toNat) = zz n m wr bits := by
    refine List.take_of_length_le ?_
    unfold zz
    rw [List.length_zip]
    omega
  rw [e4]
  simp only [Wt.run_bind, Wt.run_pure, Wt.run_req, Wt.run_opt, Wt.run_any, Wt.run_nox, Wt.run_andThen, Wt.run_fin, Wt.run_finI, Wt.run_never, Wt.run_ite_t, Wt.run_ite_f, Bool.not_true, Bool.not_false, Bool.false_eq_true, ↓reduceIte, Option.isSome_some, Option.isNone_some, decide_eq_true_eq, decide_not, Bool.not_eq_true, ite_true, ite_false, Bool.not_not]
  refine m_law_sum (by omega) (g1_01 hb h01) ?_
  refine ⟨hmp, ?_⟩
  have eg := Sp_g1 (wr := wr) hb
  unfold g1 at eg
  rw [eg]
  refine m_law_doubling d ?_
  refine run_mono (P := fun x => x = big n m wr rest bits) ?_ (fun x hx => ?_)
  · have e := big_law (wr := wr) (rest := rest) (bits := bits) hn.1 d
    unfold lk at e
    cases wr with
    | false =>
      simp only [Wt.run_bind, Wt.run_pure, Wt.run_req, Wt.run_opt, Wt.run_any, Wt.run_nox, Wt.run_andThen, Wt.run_fin, Wt.run_finI, Wt.run_never, Wt.run_ite_t, Wt.run_ite_f, Bool.not_true, Bool.not_false, Bool.false_eq_true, ↓reduceIte, Option.isSome_some, Option.isNone_some, decide_eq_true_eq, decide_not, Bool.not_eq_true, ite_true, ite_false, Bool.not_not, Wt.run_ite]
      simp only [Bool.false_eq_true, ↓reduceIte] at e
      exact e
    | true =>
      simp only [↓reduceIte] at e
      simp only [Wt.run_bind, Wt.run_pure, Wt.run_req, Wt.run_opt, Wt.run_any, Wt.run_nox, Wt.run_andThen, Wt.run_fin, Wt.run_finI, Wt.run_never, Wt.run_ite_t, Wt.run_ite_f, Bool.not_true, Bool.not_false, Bool.false_eq_true, ↓reduceIte, Option.isSome_some, Option.isNone_some, decide_eq_true_eq, decide_not, Bool.not_eq_true, ite_true, ite_false, Bool.not_not, Wt.run_ite]
      by_cases h : (n : Int) ∈ pw2 m
      · simp only [h, decide_true, Bool.not_true, Bool.false_eq_true, ↓reduceIte] at e ⊢
        exact e
      · simp only [h, decide_false, Bool.not_false, ↓reduceIte] at e ⊢
        exact e
  subst hx
  refine run_mono (P := fun o => o = .nxt (Wd n (g2 n m wr rest bits), lk2 n m wr rest bits)) ?_ (fun o ho => ?_)
  · cases hbg : big n m wr rest bits with
    | false =>
      simp only [Wt.run_bind, Wt.run_pure, Wt.run_req, Wt.run_opt, Wt.run_any, Wt.run_nox, Wt.run_andThen, Wt.run_fin, Wt.run_finI, Wt.run_never, Wt.run_ite_t, Wt.run_ite_f, Bool.not_true, Bool.not_false, Bool.false_eq_true, ↓reduceIte, Option.isSome_some, Option.isNone_some, decide_eq_true_eq, decide_not, Bool.not_eq_true, ite_true, ite_false, Bool.not_not, Wt.run_ite]
      unfold g2 lk2
      rw [hbg]
      rfl
    | true =>
      simp only [Wt.run_bind, Wt.run_pure, Wt.run_req, Wt.run_opt, Wt.run_any, Wt.run_nox, Wt.run_andThen, Wt.run_fin, Wt.run_finI, Wt.run_never, Wt.run_ite_t, Wt.run_ite_f, Bool.not_true, Bool.not_false, Bool.false_eq_true, ↓reduceIte, Option.isSome_some, Option.isNone_some, decide_eq_true_eq, decide_not, Bool.not_eq_true, ite_true, ite_false, Bool.not_not, Wt.run_ite]
      have hL : 1 ≤ (n : Int) ∧ (n : Int) ≤ (n : Int) := by omega
      refine ⟨_, Wd_ix hL, ?_⟩
      rw [Wd_set hL]
      unfold g2 lk2
      rw [hbg]
      rfl
  subst ho
  simp only [Wt.run_bind, Wt.run_pure, Wt.run_req, Wt.run_opt, Wt.run_any, Wt.run_nox, Wt.run_andThen, Wt.run_fin, Wt.run_finI, Wt.run_never, Wt.run_ite_t, Wt.run_ite_f, Bool.not_true, Bool.not_false, Bool.false_eq_true, ↓reduceIte, Option.isSome_some, Option.isNone_some, decide_eq_true_eq, decide_not, Bool.not_eq_true, ite_true, ite_false, Bool.not_not]
  refine Wt.for_inv (pw2 m) _ (fun i s => s = Wd n (ups (g2 n m wr rest bits) ((zd m (lk2 n m wr rest bits)).take i))) rfl (fun i x s hx hs => ?_) (fun s hs => ?_)
  · subst hs
    have hx2 := pw2_range d (List.mem_of_getElem? hx)
    have hx3 : (zd m (lk2 n m wr rest bits))[i]? = some (x, lk2 n m wr rest bits / x % 2) := by
      unfold zd
      rw [List.getElem?_map, hx]
      rfl
    simp only [Wt.run_bind, Wt.run_pure, Wt.run_req, Wt.run_opt, Wt.run_any, Wt.run_nox, Wt.run_andThen, Wt.run_fin, Wt.run_finI, Wt.run_never, Wt.run_ite_t, Wt.run_ite_f, Bool.not_true, Bool.not_false, Bool.false_eq_true, ↓reduceIte, Option.isSome_some, Option.isNone_some, decide_eq_true_eq, decide_not, Bool.not_eq_true, ite_true, ite_false, Bool.not_not, Wt.run_ite]
    exact ⟨wide_div (b := 4000) (by omega) (by omega) (by decide) (by decide), by decide, _, Wd_ix hx2, set_step hx3 hx2⟩
  subst hs
  simp only [Wt.run_bind, Wt.run_pure, Wt.run_req, Wt.run_opt, Wt.run_any, Wt.run_nox, Wt.run_andThen, Wt.run_fin, Wt.run_finI, Wt.run_never, Wt.run_ite_t, Wt.run_ite_f, Bool.not_true, Bool.not_false, Bool.false_eq_true, ↓reduceIte, Option.isSome_some, Option.isNone_some, decide_eq_true_eq, decide_not, Bool.not_eq_true, ite_true, ite_false, Bool.not_not]
  have e3 : (zd m (lk2 n m wr rest bits)).take (pw2 m).length = zd m (lk2 n m wr rest bits) := by
    unfold zd
    rw [← List.length_map (f := fun p => (p, lk2 n m wr rest bits / p % 2)), List.take_length]
  rw [e3]
  exact q
end K32
end T9
namespace T9
namespace K32
open L2 PyProof.Rows PySem.Spec PySem
variable {E : Er → Prop}
theorem g2_01 {n m : Nat} {wr : Bool} {rest : Int} {bits : List Int} (hb : bits.length = (fr n m wr).length) (h01 : ∀ x ∈ bits, 0 ≤ x ∧ x ≤ 1) (p : Int) : 0 ≤ g2 n m wr rest bits p ∧ g2 n m wr rest bits p ≤ 1 := by
  unfold g2
  cases big n m wr rest bits with
  | false => exact g1_01 hb h01 p
  | true =>
    simp only [↓reduceIte]
    by_cases h : p = (n : Int)
    · rw [h, up_same]; decide
    · rw [up_ne h]; exact g1_01 hb h01 p
theorem g3_01 {n m : Nat} {wr : Bool} {rest : Int} {bits : List Int} (hb : bits.length = (fr n m wr).length) (h01 : ∀ x ∈ bits, 0 ≤ x ∧ x ≤ 1) (p : Int) : 0 ≤ g3 n m wr rest bits p ∧ g3 n m wr rest bits p ≤ 1 := by
  unfold g3
  by_cases h : p ∈ (zd m (lk2 n m wr rest bits)).map (·.1)
  · obtain ⟨q, hq, rfl⟩ := List.mem_map.mp h
    rw [ups_get (b := q.2) (by rw [zd_keys]; exact pw2_nodup m) hq]
    unfold zd at hq
    obtain ⟨p, hp, rfl⟩ := List.mem_map.mp hq
    show 0 ≤ _ % 2 ∧ _ % 2 ≤ 1
    omega
  · rw [ups_not h]
    exact g2_01 hb h01 p
theorem g1_off {n m : Nat} {wr : Bool} {bits : List Int} (hb : bits.length = (fr n m wr).length) {p : Int} (h : p ∈ fx n m wr) : g1 n m wr bits p = 0 := by
  unfold g1
  rw [ups_not]
  rw [zz_keys hb]
  exact fun z => (mem_fr.mp z).2 h
theorem g2_off {n m : Nat} {wr : Bool} {rest : Int} {bits : List Int} (hn : 1 ≤ n) (d : Dbl n m) (hb : bits.length = (fr n m wr).length) {p : Int} (h : p ∈ pw2 m) : g2 n m wr rest bits p = 0 := by
  have e : g1 n m wr bits p = 0 := g1_off hb (List.mem_append_left _ h)
  unfold g2
  cases hbg : big n m wr rest bits with
  | false => exact e
  | true =>
    obtain ⟨_, h2⟩ := big_iff hn d hbg
    simp only [↓reduceIte]
    rw [up_ne (fun z => h2 (by rw [← z]; exact h))]
    exact e
theorem dw_sum {n m : Nat} {wr : Bool} {rest : Int} {bits : List Int} (hn : 1 ≤ n) (d : Dbl n m) (hr : 0 ≤ rest ∧ rest < md n wr) (hb : bits.length = (fr n m wr).length) : Sp n (g3 n m wr rest bits) % md n wr = rest := by
  have h1 : Sp n (g3 n m wr rest bits) = Sp n (g2 n m wr rest bits) + lk2 n m wr rest bits := by
    unfold g3
    rw [Sp_ups (by rw [zd_keys]; exact pw2_nodup m) (fun p hp => by rw [zd_keys] at hp; exact pw2_range d hp)]
    have hl := lk2_nn (wr := wr) (rest := rest) (bits := bits) hn d
    have e : ((zd m (lk2 n m wr rest bits)).map fun q => q.1 * (q.2 - g2 n m wr rest bits q.1)).sum = lk2 n m wr rest bits := by
      have e1 : ((zd m (lk2 n m wr rest bits)).map fun q => q.1 * (q.2 - g2 n m wr rest bits q.1)) = (pw2 m).map fun p => p * (((lk2 n m wr rest bits).toNat : Int) / p % 2) := by
        unfold zd
        rw [List.map_map]
        refine List.map_congr_left fun p hp => ?_
        show p * (lk2 n m wr rest bits / p % 2 - g2 n m wr rest bits p) = _
        rw [g2_off hn d hb hp, Int.sub_zero, Int.toNat_of_nonneg hl.1]
      rw [e1, bin_sum]
      have h2 := hl.2
      rw [pow2_nat] at h2
      rw [Nat.mod_eq_of_lt (by omega)]
      omega
    rw [e]
  have h2 : Sp n (g2 n m wr rest bits) + lk2 n m wr rest bits = Tz (zz n m wr bits) + lk n m wr rest bits := by
    unfold g2 lk2
    cases hbg : big n m wr rest bits with
    | false =>
      simp only [Bool.false_eq_true, ↓reduceIte]
      rw [Sp_g1 hb]
    | true =>
      obtain ⟨rfl, h2⟩ := big_iff hn d hbg
      simp only [↓reduceIte]
      rw [Sp_up (by omega) (by omega), Sp_g1 hb, g1_off hb (p := (n : Int)) (List.mem_append_right _ (List.mem_cons_self ..))]
      omega
  rw [h1, h2]
  unfold lk
  rw [Int.add_emod_emod, show Tz (zz n m wr bits) + (rest - Tz (zz n m wr bits)) = rest by omega]
  exact Int.emod_eq_of_lt hr.1 hr.2
theorem dw_back {n m : Nat} {wr : Bool} {rest : Int} {bits : List Int} (hn : 1 ≤ n) (d : Dbl n m) (hb : bits.length = (fr n m wr).length) : (fr n m wr).map (g3 n m wr rest bits) = bits := by
  have e : (fr n m wr).map (g3 n m wr rest bits) = (fr n m wr).map (g1 n m wr bits) := by
    refine List.map_congr_left fun p hp => ?_
    have hp2 := (mem_fr.mp hp).2
    unfold g3
    rw [ups_not (by rw [zd_keys]; exact fun z => hp2 (List.mem_append_left _ z))]
    unfold g2
    cases hbg : big n m wr rest bits with
    | false => rfl
    | true =>
      obtain ⟨rfl, _⟩ := big_iff hn d hbg
      simp only [↓reduceIte]
      exact up_ne (fun z => hp2 (by rw [z]; exact List.mem_append_right _ (List.mem_cons_self ..)))
  rw [e]
  exact ups_zip fr_nodup hb
theorem Wd_01 {n : Nat} {g : Int → Int} (hg : ∀ p, 0 ≤ g p ∧ g p ≤ 1) : ∀ x ∈ Wd n g, 0 ≤ x ∧ x ≤ 1 := fun x hx => by
  unfold Wd at hx
  obtain ⟨k, _, rfl⟩ := List.mem_map.mp hx
  exact hg _
theorem m_data_of {n m : Nat} {wr b : Bool} {g : Int → Int} (hn : 1 ≤ n ∧ n ≤ 200) (d : Dbl n m) (hg : ∀ p, 0 ≤ g p ∧ g p ≤ 1) {Q : List Int → Prop} (q : Q ((fr n m wr).map g)) : (v_data_of ((b, Wd n g), wr, ())).run E Q := by
  have hz := sizeLine_big
  have hfl : (fr n m wr).length ≤ n := by have := fr_len (L := n) (m := m) (wr := wr); omega
  simp only [v_data_of, w_data_of, Wt.run_bind, Wt.run_pure, Wt.run_req, Wt.run_opt, Wt.run_any, Wt.run_nox, Wt.run_andThen, Wt.run_fin, Wt.run_finI, Wt.run_never, Wt.run_ite_t, Wt.run_ite_f, Bool.not_true, Bool.not_false, Bool.false_eq_true, ↓reduceIte, Option.isSome_some, Option.isNone_some, decide_eq_true_eq, decide_not, Bool.not_eq_true, ite_true, ite_false, Bool.not_not]
  refine m_check_word (by rw [Wd_len]; omega) (Wd_01 hg) ?_
  have e : PyData.eqv (PyData.tuple ((Wd n g).map PyData.int)) (PyData.tuple (([] : List Int).map PyData.int)) = false := by
    cases h : Wd n g with
    | nil =>
      have := Wd_len (L := n) (g := g)
      rw [h] at this
      simp only [List.length_nil] at this
      omega
    | cons x xs => simp [PyData.eqv, PyData.eqvAll]
  simp only [e, Wt.run_bind, Wt.run_pure, Wt.run_req, Wt.run_opt, Wt.run_any, Wt.run_nox, Wt.run_andThen, Wt.run_fin, Wt.run_finI, Wt.run_never, Wt.run_ite_t, Wt.run_ite_f, Bool.not_true, Bool.not_false, Bool.false_eq_true, ↓reduceIte, Option.isSome_some, Option.isNone_some, decide_eq_true_eq, decide_not, Bool.not_eq_true, ite_true, ite_false, Bool.not_not, Wd_len]
  refine m_free_places ⟨by omega, by omega⟩ d ?_
  refine ⟨by omega, Wt.lc_map g _ (fun p hp => ?_) ?_⟩
  · simp only [Wt.run_bind, Wt.run_pure, Wt.run_req, Wt.run_opt, Wt.run_any, Wt.run_nox, Wt.run_andThen, Wt.run_fin, Wt.run_finI, Wt.run_never, Wt.run_ite_t, Wt.run_ite_f, Bool.not_true, Bool.not_false, Bool.false_eq_true, ↓reduceIte, Option.isSome_some, Option.isNone_some, decide_eq_true_eq, decide_not, Bool.not_eq_true, ite_true, ite_false, Bool.not_not, Wt.run_ite]
    exact ⟨_, Wd_at (mem_fr.mp hp).1, rfl⟩
  · exact q
/-! ### bits of a number -/
def btn (x : Nat) (k : Nat) : List Int := (List.range k).map fun (j : Nat) => ((x / 2 ^ j % 2 : Nat) : Int)
theorem btn_len {x k : Nat} : (btn x k).length = k := by unfold btn; rw [List.length_map, List.length_range]
theorem btn_01 {x k : Nat} : ∀ y ∈ btn x k, 0 ≤ y ∧ y ≤ 1 := fun y hy => by
  unfold btn at hy
  obtain ⟨j, _, rfl⟩ := List.mem_map.mp hy
  omega
theorem btn_succ {x k : Nat} : btn x (k + 1) = btn x k ++ [((x / 2 ^ k % 2 : Nat) : Int)] := by
  unfold btn
  rw [List.range_succ, List.map_append]
  rfl
theorem btn_inj : ∀ {k x y : Nat}, x < 2 ^ k → y < 2 ^ k → btn x k = btn y k → x = y
  | 0, x, y, hx, hy, _ => by
    rw [Nat.pow_zero] at hx hy
    omega
  | k + 1, x, y, hx, hy, h => by
    rw [btn_succ, btn_succ] at h
    have h1 := List.append_inj h (by rw [btn_len, btn_len])
    have ex : btn x k = btn (x % 2 ^ k) k := by
      unfold btn
      refine List.map_congr_left fun j hj => ?_
      have hj := List.mem_range.mp hj
      congr 1
      have e : 2 ^ k = 2 ^ j * 2 ^ (k - j) := by rw [← Nat.pow_add]; congr 1; omega
      rw [e, Nat.mod_mul_right_div_self]
      exact (Nat.mod_mod_of_dvd _ (by exact ⟨2 ^ (k - j - 1), by rw [← Nat.pow_succ']; congr 1; omega⟩)).symm
    have ey : btn y k = btn (y % 2 ^ k) k := by
      unfold btn
      refine List.map_congr_left fun j hj => ?_
      have hj := List.mem_range.mp hj
      congr 1
      have e : 2 ^ k = 2 ^ j * 2 ^ (k - j) := by rw [← Nat.pow_add]; congr 1; omega
      rw [e, Nat.mod_mul_right_div_self]
      exact (Nat.mod_mod_of_dvd _ (by exact ⟨2 ^ (k - j - 1), by rw [← Nat.pow_succ']; congr 1; omega⟩)).symm
    have h2 := h1.1
    rw [ex, ey] at h2
    have hp : 0 < 2 ^ k := Nat.pow_pos (by decide)
    have h3 := btn_inj (Nat.mod_lt x hp) (Nat.mod_lt y hp) h2
    have h4 := h1.2
    simp only [List.cons.injEq, and_true] at h4
    have h4 := Int.ofNat.inj h4
    have hx2 : x / 2 ^ k < 2 := Nat.div_lt_of_lt_mul (by rw [Nat.pow_succ] at hx; exact hx)
    have hy2 : y / 2 ^ k < 2 := Nat.div_lt_of_lt_mul (by rw [Nat.pow_succ] at hy; exact hy)
    rw [Nat.mod_eq_of_lt hx2, Nat.mod_eq_of_lt hy2] at h4
    rw [← Nat.div_add_mod x (2 ^ k), ← Nat.div_add_mod y (2 ^ k), h3, h4]
theorem m_bits {x k : Nat} (hk : k ≤ 1000) {Q : List Int → Prop} (q : Q (btn x k)) : (v__law_bits ((x : Int), (k : Int), ())).run E Q := by
  have hz := sizeLine_big
  simp only [v__law_bits, w__law_bits, Wt.run_bind, Wt.run_pure, Wt.run_req, Wt.run_opt, Wt.run_any, Wt.run_nox, Wt.run_andThen, Wt.run_fin, Wt.run_finI, Wt.run_never, Wt.run_ite_t, Wt.run_ite_f, Bool.not_true, Bool.not_false, Bool.false_eq_true, ↓reduceIte, Option.isSome_some, Option.isNone_some, decide_eq_true_eq, decide_not, Bool.not_eq_true, ite_true, ite_false, Bool.not_not]
  refine ⟨⟨by omega, by omega⟩, ?_⟩
  refine Wt.for_inv (rng 0 (k : Int)) _ (fun i s => i ≤ k ∧ s = (((x / 2 ^ i : Nat) : Int), btn x i)) ⟨Nat.zero_le _, by rw [Nat.pow_zero, Nat.div_one]; rfl⟩ (fun i y s hx hs => ?_) (fun s hs => ?_)
  · obtain ⟨_, rfl⟩ := hs
    have hi := (rng_get' hx).2
    simp only [Wt.run_bind, Wt.run_pure, Wt.run_req, Wt.run_opt, Wt.run_any, Wt.run_nox, Wt.run_andThen, Wt.run_fin, Wt.run_finI, Wt.run_never, Wt.run_ite_t, Wt.run_ite_f, Bool.not_true, Bool.not_false, Bool.false_eq_true, ↓reduceIte, Option.isSome_some, Option.isNone_some, decide_eq_true_eq, decide_not, Bool.not_eq_true, ite_true, ite_false, Bool.not_not, Wt.run_ite]
    refine ⟨by decide, by rw [btn_len]; omega, wide_div (b := 4000) (by decide) (by decide) (by decide) (by decide), by omega, ?_⟩
    rw [btn_succ, Nat.pow_succ, ← Nat.div_div_eq_div_mul]
    congr 1
  · obtain ⟨_, rfl⟩ := hs
    rw [rng_len]
    simp only [Wt.run_bind, Wt.run_pure, Wt.run_req, Wt.run_opt, Wt.run_any, Wt.run_nox, Wt.run_andThen, Wt.run_fin, Wt.run_finI, Wt.run_never, Wt.run_ite_t, Wt.run_ite_f, Bool.not_true, Bool.not_false, Bool.false_eq_true, ↓reduceIte, Option.isSome_some, Option.isNone_some, decide_eq_true_eq, decide_not, Bool.not_eq_true, ite_true, ite_false, Bool.not_not]
    have e : ((k : Int) - 0).toNat = k := by omega
    rw [e]
    exact q
/-! ### the comparisons -/
theorem m_exact_I {x : Int} {Q : Bool → Prop} (q : Q true) : (v__law_exact_I (x, x, ())).run E Q := by
  simp only [v__law_exact_I, w__law_exact_I, Wt.run_bind, Wt.run_pure, Wt.run_req, Wt.run_opt, Wt.run_any, Wt.run_nox, Wt.run_andThen, Wt.run_fin, Wt.run_finI, Wt.run_never, Wt.run_ite_t, Wt.run_ite_f, Bool.not_true, Bool.not_false, Bool.false_eq_true, ↓reduceIte, Option.isSome_some, Option.isNone_some, decide_eq_true_eq, decide_not, Bool.not_eq_true, ite_true, ite_false, Bool.not_not, decide_true]
  exact q
theorem m_exact_B {Q : Bool → Prop} (q : Q true) : (v__law_exact_B (true, true, ())).run E Q := by
  simp only [v__law_exact_B, w__law_exact_B, Wt.run_bind, Wt.run_pure, Wt.run_req, Wt.run_opt, Wt.run_any, Wt.run_nox, Wt.run_andThen, Wt.run_fin, Wt.run_finI, Wt.run_never, Wt.run_ite_t, Wt.run_ite_f, Bool.not_true, Bool.not_false, Bool.false_eq_true, ↓reduceIte, Option.isSome_some, Option.isNone_some, decide_eq_true_eq, decide_not, Bool.not_eq_true, ite_true, ite_false, Bool.not_not, beq_self_eq_true]
  exact q
theorem m_exact_T {xs : List Int} {b : Bool} (hl : xs.length ≤ 1000) {Q : Bool → Prop} (q : Q true) : (v__law_exact_T (xs, (b, xs), ())).run E Q := by
  have hz := sizeLine_big
  simp only [v__law_exact_T, w__law_exact_T, Wt.run_bind, Wt.run_pure, Wt.run_req, Wt.run_opt, Wt.run_any, Wt.run_nox, Wt.run_andThen, Wt.run_fin, Wt.run_finI, Wt.run_never, Wt.run_ite_t, Wt.run_ite_f, Bool.not_true, Bool.not_false, Bool.false_eq_true, ↓reduceIte, Option.isSome_some, Option.isNone_some, decide_eq_true_eq, decide_not, Bool.not_eq_true, ite_true, ite_false, Bool.not_not, decide_true]
  refine ⟨⟨by omega, by omega⟩, by rw [rng_len]; omega, Wt.lc_map (fun _ => true) _ (fun k hk => ?_) ?_⟩
  · have hk := mem_rng.mp hk
    have hk2 : k.toNat < xs.length := by omega
    have e : atI xs k = some (xs[k.toNat]'hk2) := by
      have e := atI_nat (List.getElem?_eq_getElem hk2)
      rw [Int.toNat_of_nonneg hk.1] at e
      exact e
    simp only [Wt.run_bind, Wt.run_pure, Wt.run_req, Wt.run_opt, Wt.run_any, Wt.run_nox, Wt.run_andThen, Wt.run_fin, Wt.run_finI, Wt.run_never, Wt.run_ite_t, Wt.run_ite_f, Bool.not_true, Bool.not_false, Bool.false_eq_true, ↓reduceIte, Option.isSome_some, Option.isNone_some, decide_eq_true_eq, decide_not, Bool.not_eq_true, ite_true, ite_false, Bool.not_not, Wt.run_ite]
    exact ⟨_, e, _, e, m_exact_I rfl⟩
  · have e : (((rng 0 (xs.length : Int)).map fun _ => true).all id) = true := by
      rw [List.all_eq_true]
      intro x hx
      obtain ⟨_, _, rfl⟩ := List.mem_map.mp hx
      rfl
    rw [e]
    exact q
/-! ### the books -/
theorem m_SumBook {n : Nat} {rest : Int} (hn : 1 ≤ n ∧ n ≤ 200) (hr : 0 ≤ rest ∧ rest < (n : Int) + 1) {Q : vi_SumBook → Prop} (q : Q ((n : Int), (n : Int) + 1, rest)) : (v_SumBook_init ((n : Int), (n : Int) + 1, rest, ())).run E Q := by
  simp only [v_SumBook_init, w_SumBook_init, Wt.run_bind, Wt.run_pure, Wt.run_req, Wt.run_opt, Wt.run_any, Wt.run_nox, Wt.run_andThen, Wt.run_fin, Wt.run_finI, Wt.run_never, Wt.run_ite_t, Wt.run_ite_f, Bool.not_true, Bool.not_false, Bool.false_eq_true, ↓reduceIte, Option.isSome_some, Option.isNone_some, decide_eq_true_eq, decide_not, Bool.not_eq_true, ite_true, ite_false, Bool.not_not]
  refine m_check_number ⟨by omega, by omega⟩ (m_check_modulus ⟨by omega, by omega⟩ (m_check_rest hr ?_))
  exact q
theorem m_SumBook_has {n : Nat} {rest : Int} {g : Int → Int} (hn : 1 ≤ n ∧ n ≤ 200) (hg : ∀ p, 0 ≤ g p ∧ g p ≤ 1) (hs : Sp n g % ((n : Int) + 1) = rest) {Q : Bool → Prop} (q : Q true) : (v_SumBook_has (((n : Int), (n : Int) + 1, rest), Wd n g, ())).run E Q := by
  simp only [v_SumBook_has, w_SumBook_has, Wt.run_bind, Wt.run_pure, Wt.run_req, Wt.run_opt, Wt.run_any, Wt.run_nox, Wt.run_andThen, Wt.run_fin, Wt.run_finI, Wt.run_never, Wt.run_ite_t, Wt.run_ite_f, Bool.not_true, Bool.not_false, Bool.false_eq_true, ↓reduceIte, Option.isSome_some, Option.isNone_some, decide_eq_true_eq, decide_not, Bool.not_eq_true, ite_true, ite_false, Bool.not_not]
  refine m_check_word (by rw [Wd_len]; omega) (Wd_01 hg) ?_
  simp only [Wd_len, decide_true, Wt.run_bind, Wt.run_pure, Wt.run_req, Wt.run_opt, Wt.run_any, Wt.run_nox, Wt.run_andThen, Wt.run_fin, Wt.run_finI, Wt.run_never, Wt.run_ite_t, Wt.run_ite_f, Bool.not_true, Bool.not_false, Bool.false_eq_true, ↓reduceIte, Option.isSome_some, Option.isNone_some, decide_eq_true_eq, decide_not, Bool.not_eq_true, ite_true, ite_false, Bool.not_not]
  refine m_sum_places (by omega) hg ⟨by omega, ?_⟩
  rw [hs]
  simp only [decide_true]
  exact q
theorem m_WrongBook_has {n : Nat} {rest z : Int} {g : Int → Int} (hn : 1 ≤ n ∧ n ≤ 60) (hg : ∀ p, 0 ≤ g p ∧ g p ≤ 1) (hs : Sp n g % (2 * (n : Int)) = rest) {Q : Bool → Prop} (q : Q true) : (v_WrongBook_has (((n : Int), rest, 2 * (n : Int), z), Wd n g, ())).run E Q := by
  simp only [v_WrongBook_has, w_WrongBook_has, Wt.run_bind, Wt.run_pure, Wt.run_req, Wt.run_opt, Wt.run_any, Wt.run_nox, Wt.run_andThen, Wt.run_fin, Wt.run_finI, Wt.run_never, Wt.run_ite_t, Wt.run_ite_f, Bool.not_true, Bool.not_false, Bool.false_eq_true, ↓reduceIte, Option.isSome_some, Option.isNone_some, decide_eq_true_eq, decide_not, Bool.not_eq_true, ite_true, ite_false, Bool.not_not]
  refine m_check_word (by rw [Wd_len]; omega) (Wd_01 hg) ?_
  simp only [Wd_len, decide_true, Wt.run_bind, Wt.run_pure, Wt.run_req, Wt.run_opt, Wt.run_any, Wt.run_nox, Wt.run_andThen, Wt.run_fin, Wt.run_finI, Wt.run_never, Wt.run_ite_t, Wt.run_ite_f, Bool.not_true, Bool.not_false, Bool.false_eq_true, ↓reduceIte, Option.isSome_some, Option.isNone_some, decide_eq_true_eq, decide_not, Bool.not_eq_true, ite_true, ite_false, Bool.not_not]
  simp only [v_place_sum, w_place_sum, Wt.run_bind, Wt.run_pure, Wt.run_req, Wt.run_opt, Wt.run_any, Wt.run_nox, Wt.run_andThen, Wt.run_fin, Wt.run_finI, Wt.run_never, Wt.run_ite_t, Wt.run_ite_f, Bool.not_true, Bool.not_false, Bool.false_eq_true, ↓reduceIte, Option.isSome_some, Option.isNone_some, decide_eq_true_eq, decide_not, Bool.not_eq_true, ite_true, ite_false, Bool.not_not]
  refine m_check_word (by rw [Wd_len]; omega) (Wd_01 hg) ?_
  refine m_sum_places (by omega) hg ⟨by omega, ?_⟩
  rw [hs]
  simp only [decide_true]
  exact q
end K32
end T9
namespace T9
namespace K32
open L2 PyProof.Rows PySem.Spec PySem
variable {E : Er → Prop}
theorem small_of {x : Int} (h : 0 ≤ x ∧ x < 2 ^ 80) : x.natAbs < 2 ^ 4000 := by
  have h2 : x.natAbs < 2 ^ 80 := by omega
  exact Nat.lt_trans h2 (Nat.pow_lt_pow_right (by decide) (by decide))
theorem m_mixed {a b : Int} (ha : 0 ≤ a ∧ a < 2 ^ 40) (hb : 0 ≤ b ∧ b ≤ 1000) {Q : Int → Prop} (q : ∀ v, Q v) : (v__law_mixed (a, b, ())).run E Q := by
  simp only [v__law_mixed, w__law_mixed, Wt.run_bind, Wt.run_pure, Wt.run_req, Wt.run_opt, Wt.run_any, Wt.run_nox, Wt.run_andThen, Wt.run_fin, Wt.run_finI, Wt.run_never, Wt.run_ite_t, Wt.run_ite_f, Bool.not_true, Bool.not_false, Bool.false_eq_true, ↓reduceIte, Option.isSome_some, Option.isNone_some, decide_eq_true_eq, decide_not, Bool.not_eq_true, ite_true, ite_false, Bool.not_not]
  have dv : ∀ x y : Int, 0 < y → y < 2 ^ 80 → CDivW x y := fun x y h1 h2 => wide_div (b := 4000) h1 (small_of ⟨by omega, h2⟩) (by decide) (by decide)
  have once := Int.emod_nonneg (a * 39373 + b * 6151 + 50021) (b := 2147483399) (by decide)
  have once2 := Int.emod_lt_of_pos (a * 39373 + b * 6151 + 50021) (b := 2147483399) (by decide)
  refine ⟨cmul_small (small_of (by omega)) (small_of (by decide)), cmul_small (small_of (by omega)) (small_of (by decide)), by decide, cmul_small (small_of (by omega)) (small_of (by omega)),
    cmul_small (small_of (by omega)) (small_of (by decide)), dv _ _ (by decide) (by decide), by decide, cmul_small (small_of ⟨Int.emod_nonneg _ (by decide), Int.lt_trans (Int.emod_lt_of_pos _ (by decide)) (by decide)⟩) (small_of (by decide)), dv _ _ (by decide) (by decide), by decide, dv _ _ (by decide) (by decide), q _⟩
theorem m_take {many : Int} (h : 1 ≤ many ∧ many.natAbs < 2 ^ 4000) {Q : Int → Prop} (q : ∀ v, 0 ≤ v → v < many → Q v) : (v__law_take (many, ())).run E Q := by
  simp only [v__law_take, wHand, w__law_take, Wt.run_bind, Wt.run_pure, Wt.run_req, Wt.run_opt, Wt.run_any, Wt.run_nox, Wt.run_andThen, Wt.run_fin, Wt.run_finI, Wt.run_never, Wt.run_ite_t, Wt.run_ite_f, Bool.not_true, Bool.not_false, Bool.false_eq_true, ↓reduceIte, Option.isSome_some, Option.isNone_some, decide_eq_true_eq, decide_not, Bool.not_eq_true, ite_true, ite_false, Bool.not_not]
  rintro xs ⟨c, i, b, t, rfl, hc, hi0, hi, hcl, hb, ht0, ht⟩
  have hp : 0 < many := by omega
  have em : ∀ x : Int, 0 ≤ x % many ∧ x % many < many := fun x => ⟨Int.emod_nonneg _ (by omega), Int.emod_lt_of_pos _ hp⟩
  have dv : ∀ x : Int, CDivW x many := fun x => wide_div (b := 4000) hp h.2 (by decide) (by decide)
  refine ⟨_, rfl, _, rfl, ?_⟩
  refine run_mono (P := fun x => x = decide (b = 0 ∧ i < (c.length : Int))) ?_ (fun x hx => ?_)
  · by_cases h1 : b = 0
    · simp only [h1, decide_true, Wt.run_bind, Wt.run_pure, Wt.run_req, Wt.run_opt, Wt.run_any, Wt.run_nox, Wt.run_andThen, Wt.run_fin, Wt.run_finI, Wt.run_never, Wt.run_ite_t, Wt.run_ite_f, Bool.not_true, Bool.not_false, Bool.false_eq_true, ↓reduceIte, Option.isSome_some, Option.isNone_some, decide_eq_true_eq, decide_not, Bool.not_eq_true, ite_true, ite_false, Bool.not_not, true_and]
      exact ⟨_, rfl, _, rfl, _, rfl, _, rfl, rfl⟩
    · simp only [h1, decide_false, Wt.run_bind, Wt.run_pure, Wt.run_req, Wt.run_opt, Wt.run_any, Wt.run_nox, Wt.run_andThen, Wt.run_fin, Wt.run_finI, Wt.run_never, Wt.run_ite_t, Wt.run_ite_f, Bool.not_true, Bool.not_false, Bool.false_eq_true, ↓reduceIte, Option.isSome_some, Option.isNone_some, decide_eq_true_eq, decide_not, Bool.not_eq_true, ite_true, ite_false, Bool.not_not, false_and]
  subst hx
  refine run_mono (P := fun o => match o with
    | .ret r => HandOk r.2 ∧ 0 ≤ r.1 ∧ r.1 < many
    | .nxt s => ∃ c i b t, s = [.inl c, .inr i, .inr b, .inr t] ∧ (∀ x ∈ c, (0 : Int) ≤ x) ∧ (0 : Int) ≤ i ∧ i ≤ (c.length : Int) ∧ c.length ≤ 1000 ∧ (0 : Int) ≤ b ∧ (0 : Int) ≤ t ∧ t < 2 ^ 40
    | .brk s => False
    | .cnt s => False) ?_ (fun o ho => ?_)
  · by_cases h1 : b = 0 ∧ i < (c.length : Int)
    · have hi2 : i.toNat < c.length := by omega
      have hat : atI c i = some (c[i.toNat]'hi2) := by
        have e := atI_nat (List.getElem?_eq_getElem hi2)
        rw [Int.toNat_of_nonneg hi0] at e
        exact e
      have hc0 := hc _ (List.getElem_mem hi2)
      simp only [h1, decide_true, Wt.run_bind, Wt.run_pure, Wt.run_req, Wt.run_opt, Wt.run_any, Wt.run_nox, Wt.run_andThen, Wt.run_fin, Wt.run_finI, Wt.run_never, Wt.run_ite_t, Wt.run_ite_f, Bool.not_true, Bool.not_false, Bool.false_eq_true, ↓reduceIte, Option.isSome_some, Option.isNone_some, decide_eq_true_eq, decide_not, Bool.not_eq_true, ite_true, ite_false, Bool.not_not, and_self]
      refine ⟨_, rfl, _, rfl, _, rfl, _, rfl, _, hat, _, rfl, _, rfl, _, rfl, ⟨by decide, by decide, by decide⟩, ?_⟩
      by_cases h2 : c[i.toNat]'hi2 < 10 ^ (18 : Int).toNat
      · simp only [h2, decide_true, Wt.run_bind, Wt.run_pure, Wt.run_req, Wt.run_opt, Wt.run_any, Wt.run_nox, Wt.run_andThen, Wt.run_fin, Wt.run_finI, Wt.run_never, Wt.run_ite_t, Wt.run_ite_f, Bool.not_true, Bool.not_false, Bool.false_eq_true, ↓reduceIte, Option.isSome_some, Option.isNone_some, decide_eq_true_eq, decide_not, Bool.not_eq_true, ite_true, ite_false, Bool.not_not]
        refine ⟨by decide, _, rfl, _, rfl, ?_⟩
        have e1 := Int.emod_nonneg (c[i.toNat]'hi2) (b := 2147483399) (by decide)
        have e2 := Int.emod_lt_of_pos (c[i.toNat]'hi2) (b := 2147483399) (by decide)
        refine m_mixed ⟨e1, by omega⟩ ⟨by omega, by omega⟩ fun v => ⟨hp, ⟨c, i + 1, 0, t, rfl, hc, by omega, by omega, hcl, Int.le_refl 0, ht0, ht⟩, em v⟩
      · simp only [h2, decide_false, Wt.run_bind, Wt.run_pure, Wt.run_req, Wt.run_opt, Wt.run_any, Wt.run_nox, Wt.run_andThen, Wt.run_fin, Wt.run_finI, Wt.run_never, Wt.run_ite_t, Wt.run_ite_f, Bool.not_true, Bool.not_false, Bool.false_eq_true, ↓reduceIte, Option.isSome_some, Option.isNone_some, decide_eq_true_eq, decide_not, Bool.not_eq_true, ite_true, ite_false, Bool.not_not]
        refine ⟨_, rfl, c, i + 1, _, t, rfl, hc, by omega, by omega, hcl, hc0, ht0, ht⟩
    · simp only [h1, decide_false, Wt.run_bind, Wt.run_pure, Wt.run_req, Wt.run_opt, Wt.run_any, Wt.run_nox, Wt.run_andThen, Wt.run_fin, Wt.run_finI, Wt.run_never, Wt.run_ite_t, Wt.run_ite_f, Bool.not_true, Bool.not_false, Bool.false_eq_true, ↓reduceIte, Option.isSome_some, Option.isNone_some, decide_eq_true_eq, decide_not, Bool.not_eq_true, ite_true, ite_false, Bool.not_not]
      exact ⟨c, i, b, t, rfl, hc, hi0, hi, hcl, hb, ht0, ht⟩
  cases o with
  | brk s => exact ho.elim
  | cnt s => exact ho.elim
  | ret r => exact ⟨ho.1, q _ ho.2.1 ho.2.2⟩
  | nxt s =>
    obtain ⟨c, i, b, t, rfl, hc, hi0, hi, hcl, hb, ht0, ht⟩ := ho
    simp only [Wt.run_bind, Wt.run_pure, Wt.run_req, Wt.run_opt, Wt.run_any, Wt.run_nox, Wt.run_andThen, Wt.run_fin, Wt.run_finI, Wt.run_never, Wt.run_ite_t, Wt.run_ite_f, Bool.not_true, Bool.not_false, Bool.false_eq_true, ↓reduceIte, Option.isSome_some, Option.isNone_some, decide_eq_true_eq, decide_not, Bool.not_eq_true, ite_true, ite_false, Bool.not_not]
    refine ⟨_, rfl, _, rfl, ?_⟩
    by_cases h1 : 0 < b
    · simp only [h1, decide_true, Wt.run_bind, Wt.run_pure, Wt.run_req, Wt.run_opt, Wt.run_any, Wt.run_nox, Wt.run_andThen, Wt.run_fin, Wt.run_finI, Wt.run_never, Wt.run_ite_t, Wt.run_ite_f, Bool.not_true, Bool.not_false, Bool.false_eq_true, ↓reduceIte, Option.isSome_some, Option.isNone_some, decide_eq_true_eq, decide_not, Bool.not_eq_true, ite_true, ite_false, Bool.not_not]
      refine ⟨_, rfl, _, rfl, dv b, _, rfl, hp, ⟨c, i, b / many, t, rfl, hc, hi0, hi, hcl, Int.ediv_nonneg hb (by omega), ht0, ht⟩, q _ (em b).1 (em b).2⟩
    · simp only [h1, decide_false, Wt.run_bind, Wt.run_pure, Wt.run_req, Wt.run_opt, Wt.run_any, Wt.run_nox, Wt.run_andThen, Wt.run_fin, Wt.run_finI, Wt.run_never, Wt.run_ite_t, Wt.run_ite_f, Bool.not_true, Bool.not_false, Bool.false_eq_true, ↓reduceIte, Option.isSome_some, Option.isNone_some, decide_eq_true_eq, decide_not, Bool.not_eq_true, ite_true, ite_false, Bool.not_not]
      have e1 := Int.emod_nonneg (t + 1) (b := 2147483549) (by decide)
      have e2 := Int.emod_lt_of_pos (t + 1) (b := 2147483549) (by decide)
      refine ⟨_, rfl, _, rfl, by decide, _, rfl, _, rfl, _, rfl, _, rfl, _, rfl, ?_⟩
      exact m_mixed ⟨e1, by omega⟩ ⟨hi0, by omega⟩ fun v => ⟨hp, ⟨c, i, b, (t + 1) % 2147483549, rfl, hc, hi0, hi, hcl, hb, e1, by omega⟩, q _ (em v).1 (em v).2⟩
theorem m_hand {ns : List Int} (h : ns.length ≤ 63) {Q : List HC → Prop} (q : ∀ xs, HandOk xs → Q xs) : (v__law_hand (ns, ())).run E Q := by
  have hz := sizeLine_big
  simp only [v__law_hand, w__law_hand, Wt.run_bind, Wt.run_pure, Wt.run_req, Wt.run_opt, Wt.run_any, Wt.run_nox, Wt.run_andThen, Wt.run_fin, Wt.run_finI, Wt.run_never, Wt.run_ite_t, Wt.run_ite_f, Bool.not_true, Bool.not_false, Bool.false_eq_true, ↓reduceIte, Option.isSome_some, Option.isNone_some, decide_eq_true_eq, decide_not, Bool.not_eq_true, ite_true, ite_false, Bool.not_not]
  refine Wt.for_inv ns _ (fun i s => i ≤ ns.length ∧ 0 ≤ s.1 ∧ s.1 < 2 ^ 40 ∧ s.2.length = i ∧ ∀ x ∈ s.2, (0 : Int) ≤ x) ⟨Nat.zero_le _, by omega, by omega, rfl, fun x hx => nomatch hx⟩ (fun i x s hx hs => ?_) (fun s hs => ?_)
  · obtain ⟨_, h1, h2, h3, h4⟩ := hs
    have hi : i < ns.length := (List.getElem?_eq_some_iff.mp hx).1
    simp only [Wt.run_bind, Wt.run_pure, Wt.run_req, Wt.run_opt, Wt.run_any, Wt.run_nox, Wt.run_andThen, Wt.run_fin, Wt.run_finI, Wt.run_never, Wt.run_ite_t, Wt.run_ite_f, Bool.not_true, Bool.not_false, Bool.false_eq_true, ↓reduceIte, Option.isSome_some, Option.isNone_some, decide_eq_true_eq, decide_not, Bool.not_eq_true, ite_true, ite_false, Bool.not_not]
    refine ⟨cmul_small (small_of (by omega)) (small_of (by decide)), by decide, by omega, by omega, Int.emod_nonneg _ (by decide), Int.lt_trans (Int.emod_lt_of_pos _ (by decide)) (by decide), by rw [List.length_append, h3]; rfl, fun y hy => ?_⟩
    rcases List.mem_append.mp hy with hy | hy
    · exact h4 y hy
    · have e := List.mem_singleton.mp hy
      rw [e]
      split <;> omega
  · obtain ⟨h0, h1, h2, h3, h4⟩ := hs
    simp only [Wt.run_bind, Wt.run_pure, Wt.run_req, Wt.run_opt, Wt.run_any, Wt.run_nox, Wt.run_andThen, Wt.run_fin, Wt.run_finI, Wt.run_never, Wt.run_ite_t, Wt.run_ite_f, Bool.not_true, Bool.not_false, Bool.false_eq_true, ↓reduceIte, Option.isSome_some, Option.isNone_some, decide_eq_true_eq, decide_not, Bool.not_eq_true, ite_true, ite_false, Bool.not_not]
    exact q _ ⟨s.2, 0, 0, s.1, rfl, h4, by omega, by omega, by omega, by omega, h1, h2⟩
theorem m_either {b : Bool} {xs : List Int} {Q : Bool × List Int → Prop} (q : ∀ c, Q (c, xs)) : (v__law_either ((b, xs), ())).run E Q := by
  simp only [v__law_either, w__law_either, Wt.run_bind, Wt.run_pure, Wt.run_req, Wt.run_opt, Wt.run_any, Wt.run_nox, Wt.run_andThen, Wt.run_fin, Wt.run_finI, Wt.run_never, Wt.run_ite_t, Wt.run_ite_f, Bool.not_true, Bool.not_false, Bool.false_eq_true, ↓reduceIte, Option.isSome_some, Option.isNone_some, decide_eq_true_eq, decide_not, Bool.not_eq_true, ite_true, ite_false, Bool.not_not]
  refine m_take ⟨by decide, small_of (by decide)⟩ fun v _ _ => ?_
  by_cases h : v = 0
  · simp only [h, decide_true, Wt.run_bind, Wt.run_pure, Wt.run_req, Wt.run_opt, Wt.run_any, Wt.run_nox, Wt.run_andThen, Wt.run_fin, Wt.run_finI, Wt.run_never, Wt.run_ite_t, Wt.run_ite_f, Bool.not_true, Bool.not_false, Bool.false_eq_true, ↓reduceIte, Option.isSome_some, Option.isNone_some, decide_eq_true_eq, decide_not, Bool.not_eq_true, ite_true, ite_false, Bool.not_not]
    exact q true
  · simp only [h, decide_false, Wt.run_bind, Wt.run_pure, Wt.run_req, Wt.run_opt, Wt.run_any, Wt.run_nox, Wt.run_andThen, Wt.run_fin, Wt.run_finI, Wt.run_never, Wt.run_ite_t, Wt.run_ite_f, Bool.not_true, Bool.not_false, Bool.false_eq_true, ↓reduceIte, Option.isSome_some, Option.isNone_some, decide_eq_true_eq, decide_not, Bool.not_eq_true, ite_true, ite_false, Bool.not_not]
    exact q false
end K32
end T9
namespace T9
namespace K32
open L2 PyProof.Rows PySem.Spec PySem
variable {E : Er → Prop}
theorem dv_ok {x y : Int} (h1 : 0 < y) (h2 : y < 2 ^ 80) : CDivW x y := wide_div (b := 4000) h1 (small_of ⟨by omega, h2⟩) (by decide) (by decide)
theorem sq_le {k n : Int} (h0 : 1 ≤ k) (h : k * k ≤ n) : k ≤ n := by
  have : k * 1 ≤ k * k := Int.mul_le_mul_of_nonneg_left h0 (by omega)
  omega
theorem div_in {n k : Int} (hk : 1 ≤ k) (hn : k ≤ n) : 1 ≤ n / k ∧ n / k ≤ n := by
  constructor
  · exact (Int.le_ediv_iff_mul_le (by omega)).mpr (by omega)
  · exact Int.ediv_le_self _ (by omega)
theorem m_divisors {n : Int} (hn : 1 ≤ n ∧ n ≤ 2000) {Q : List Int → Prop} (q : ∀ xs, (∀ x ∈ xs, 1 ≤ x ∧ x ≤ n) → Q xs) : (v_divisors_of (n, ())).run E Q := by
  have hz := sizeLine_big
  simp only [v_divisors_of, w_divisors_of, Wt.run_bind, Wt.run_pure, Wt.run_req, Wt.run_opt, Wt.run_any, Wt.run_nox, Wt.run_andThen, Wt.run_fin, Wt.run_finI, Wt.run_never, Wt.run_ite_t, Wt.run_ite_f, Bool.not_true, Bool.not_false, Bool.false_eq_true, ↓reduceIte, Option.isSome_some, Option.isNone_some, decide_eq_true_eq, decide_not, Bool.not_eq_true, ite_true, ite_false, Bool.not_not]
  refine m_check_number hn ?_
  refine Wt.while_inv (fun s => 1 ≤ s.2.2 ∧ s.2.2 ≤ n + 1 ∧ (s.1.length : Int) ≤ s.2.2 ∧ (s.2.1.length : Int) ≤ s.2.2 ∧ (∀ x ∈ s.1, 1 ≤ x ∧ x ≤ n) ∧ ∀ x ∈ s.2.1, 1 ≤ x ∧ x ≤ n) (fun s => (n + 2 - s.2.2).toNat) ⟨by show (1 : Int) ≤ 1; omega, by show (1 : Int) ≤ n + 1; omega, by simp, by simp, fun x hx => (nomatch hx), fun x hx => (nomatch hx)⟩ (fun s hs => ?_)
  obtain ⟨lo, hi, k⟩ := s
  obtain ⟨h1, h2, h3, h4, h5, h6⟩ := hs
  simp only [Wt.run_bind, Wt.run_pure, Wt.run_req, Wt.run_opt, Wt.run_any, Wt.run_nox, Wt.run_andThen, Wt.run_fin, Wt.run_finI, Wt.run_never, Wt.run_ite_t, Wt.run_ite_f, Bool.not_true, Bool.not_false, Bool.false_eq_true, ↓reduceIte, Option.isSome_some, Option.isNone_some, decide_eq_true_eq, decide_not, Bool.not_eq_true, ite_true, ite_false, Bool.not_not] at h1 h2 h3 h4 h5 h6 ⊢
  refine ⟨cmul_small (small_of (by omega)) (small_of (by omega)), ?_⟩
  by_cases hk : k * k ≤ n
  · have hkn := sq_le h1 hk
    simp only [hk, decide_true, Wt.run_bind, Wt.run_pure, Wt.run_req, Wt.run_opt, Wt.run_any, Wt.run_nox, Wt.run_andThen, Wt.run_fin, Wt.run_finI, Wt.run_never, Wt.run_ite_t, Wt.run_ite_f, Bool.not_true, Bool.not_false, Bool.false_eq_true, ↓reduceIte, Option.isSome_some, Option.isNone_some, decide_eq_true_eq, decide_not, Bool.not_eq_true, ite_true, ite_false, Bool.not_not]
    refine ⟨by omega, ?_⟩
    refine run_mono (P := fun o => match o with
      | .nxt s => (s.1.length : Int) ≤ k + 1 ∧ (s.2.length : Int) ≤ k + 1 ∧ (∀ x ∈ s.1, 1 ≤ x ∧ x ≤ n) ∧ ∀ x ∈ s.2, 1 ≤ x ∧ x ≤ n
      | _ => False) ?_ (fun o ho => ?_)
    · by_cases hd : n % k = 0
      · simp only [hd, decide_true, Wt.run_bind, Wt.run_pure, Wt.run_req, Wt.run_opt, Wt.run_any, Wt.run_nox, Wt.run_andThen, Wt.run_fin, Wt.run_finI, Wt.run_never, Wt.run_ite_t, Wt.run_ite_f, Bool.not_true, Bool.not_false, Bool.false_eq_true, ↓reduceIte, Option.isSome_some, Option.isNone_some, decide_eq_true_eq, decide_not, Bool.not_eq_true, ite_true, ite_false, Bool.not_not]
        refine ⟨by omega, cmul_small (small_of (by omega)) (small_of (by omega)), ?_⟩
        have ha : ∀ x ∈ lo ++ [k], 1 ≤ x ∧ x ≤ n := fun x hx => by
          rcases List.mem_append.mp hx with hx | hx
          · exact h5 x hx
          · rw [List.mem_singleton.mp hx]; omega
        have hl : ((lo ++ [k]).length : Int) ≤ k + 1 := by
          rw [List.length_append]; simp only [List.length_cons, List.length_nil]; omega
        by_cases hs : k * k < n
        · simp only [hs, decide_true, Wt.run_bind, Wt.run_pure, Wt.run_req, Wt.run_opt, Wt.run_any, Wt.run_nox, Wt.run_andThen, Wt.run_fin, Wt.run_finI, Wt.run_never, Wt.run_ite_t, Wt.run_ite_f, Bool.not_true, Bool.not_false, Bool.false_eq_true, ↓reduceIte, Option.isSome_some, Option.isNone_some, decide_eq_true_eq, decide_not, Bool.not_eq_true, ite_true, ite_false, Bool.not_not]
          refine ⟨dv_ok (by omega) (by omega), by omega, hl, ?_, ha, fun x hx => ?_⟩
          · rw [List.length_append]; simp only [List.length_cons, List.length_nil]; omega
          · rcases List.mem_append.mp hx with hx | hx
            · exact h6 x hx
            · rw [List.mem_singleton.mp hx]
              exact div_in h1 hkn
        · simp only [hs, decide_false, Wt.run_bind, Wt.run_pure, Wt.run_req, Wt.run_opt, Wt.run_any, Wt.run_nox, Wt.run_andThen, Wt.run_fin, Wt.run_finI, Wt.run_never, Wt.run_ite_t, Wt.run_ite_f, Bool.not_true, Bool.not_false, Bool.false_eq_true, ↓reduceIte, Option.isSome_some, Option.isNone_some, decide_eq_true_eq, decide_not, Bool.not_eq_true, ite_true, ite_false, Bool.not_not]
          exact ⟨hl, by omega, ha, h6⟩
      · simp only [hd, decide_false, Wt.run_bind, Wt.run_pure, Wt.run_req, Wt.run_opt, Wt.run_any, Wt.run_nox, Wt.run_andThen, Wt.run_fin, Wt.run_finI, Wt.run_never, Wt.run_ite_t, Wt.run_ite_f, Bool.not_true, Bool.not_false, Bool.false_eq_true, ↓reduceIte, Option.isSome_some, Option.isNone_some, decide_eq_true_eq, decide_not, Bool.not_eq_true, ite_true, ite_false, Bool.not_not]
        exact ⟨by omega, by omega, h5, h6⟩
    · cases o with
      | ret r => exact ho.elim
      | brk r => exact ho.elim
      | cnt r => exact ho.elim
      | nxt s =>
        obtain ⟨a1, a2, a3, a4⟩ := ho
        simp only [Wt.run_bind, Wt.run_pure, Wt.run_req, Wt.run_opt, Wt.run_any, Wt.run_nox, Wt.run_andThen, Wt.run_fin, Wt.run_finI, Wt.run_never, Wt.run_ite_t, Wt.run_ite_f, Bool.not_true, Bool.not_false, Bool.false_eq_true, ↓reduceIte, Option.isSome_some, Option.isNone_some, decide_eq_true_eq, decide_not, Bool.not_eq_true, ite_true, ite_false, Bool.not_not]
        exact ⟨⟨by omega, by omega, a1, a2, a3, a4⟩, by omega⟩
  · simp only [hk, decide_false, Wt.run_bind, Wt.run_pure, Wt.run_req, Wt.run_opt, Wt.run_any, Wt.run_nox, Wt.run_andThen, Wt.run_fin, Wt.run_finI, Wt.run_never, Wt.run_ite_t, Wt.run_ite_f, Bool.not_true, Bool.not_false, Bool.false_eq_true, ↓reduceIte, Option.isSome_some, Option.isNone_some, decide_eq_true_eq, decide_not, Bool.not_eq_true, ite_true, ite_false, Bool.not_not]
    refine ⟨by rw [List.length_reverse]; omega, q _ fun x hx => ?_⟩
    rcases List.mem_append.mp hx with hx | hx
    · exact h5 x hx
    · exact h6 x (List.mem_reverse.mp hx)
/-! ### rows of factors -/
def prodR : List (Int × Int) → Int
  | [] => 1
  | r :: rs => r.1 ^ r.2.toNat * prodR rs
theorem prodR_app {r : Int × Int} : ∀ {rs : List (Int × Int)}, prodR (rs ++ [r]) = prodR rs * r.1 ^ r.2.toNat
  | [] => by
    show r.1 ^ r.2.toNat * 1 = 1 * _
    rw [Int.mul_comm]
  | s :: rs => by
    show s.1 ^ s.2.toNat * prodR (rs ++ [r]) = s.1 ^ s.2.toNat * prodR rs * _
    rw [prodR_app, Int.mul_assoc]
def RowsOk (n : Int) (rs : List (Int × Int)) : Prop := ∀ r ∈ rs, 2 ≤ r.1 ∧ r.1 ≤ n ∧ 1 ≤ r.2
theorem prodR_pos {n : Int} : ∀ {rs : List (Int × Int)}, RowsOk n rs → 1 ≤ prodR rs
  | [], _ => Int.le_refl 1
  | r :: rs, h => by
    have h1 := h r (List.mem_cons_self ..)
    have h2 := prodR_pos (rs := rs) fun s hs => h s (List.mem_cons_of_mem _ hs)
    have h3 : 0 < r.1 ^ r.2.toNat := Int.pow_pos (by omega)
    show 1 ≤ r.1 ^ r.2.toNat * prodR rs
    have := Int.mul_pos h3 (show 0 < prodR rs by omega)
    omega
theorem m_prime_powers {n : Int} (hn : 1 ≤ n ∧ n ≤ 2000) {Q : List (Int × Int) → Prop} (q : ∀ rs, RowsOk n rs → prodR rs = n → Q rs) : (v_prime_powers (n, ())).run E Q := by
  have hz := sizeLine_big
  simp only [v_prime_powers, w_prime_powers, Wt.run_bind, Wt.run_pure, Wt.run_req, Wt.run_opt, Wt.run_any, Wt.run_nox, Wt.run_andThen, Wt.run_fin, Wt.run_finI, Wt.run_never, Wt.run_ite_t, Wt.run_ite_f, Bool.not_true, Bool.not_false, Bool.false_eq_true, ↓reduceIte, Option.isSome_some, Option.isNone_some, decide_eq_true_eq, decide_not, Bool.not_eq_true, ite_true, ite_false, Bool.not_not]
  refine Wt.while_inv (fun s => 2 ≤ s.2.2 ∧ s.2.2 ≤ n + 2 ∧ (s.1.length : Int) + 2 ≤ s.2.2 ∧ 1 ≤ s.2.1 ∧ s.2.1 ≤ n ∧ RowsOk n s.1 ∧ prodR s.1 * s.2.1 = n) (fun s => (n + 5 - s.2.2).toNat) ⟨by show (2 : Int) ≤ 2; omega, by show (2 : Int) ≤ n + 2; omega, by simp, hn.1, Int.le_refl n, fun x hx => (nomatch hx), Int.one_mul n⟩ (fun s hs => ?_)
  obtain ⟨rs, left, k⟩ := s
  obtain ⟨h1, h2, h3, h4, h5, h6, h7⟩ := hs
  simp only [Wt.run_bind, Wt.run_pure, Wt.run_req, Wt.run_opt, Wt.run_any, Wt.run_nox, Wt.run_andThen, Wt.run_fin, Wt.run_finI, Wt.run_never, Wt.run_ite_t, Wt.run_ite_f, Bool.not_true, Bool.not_false, Bool.false_eq_true, ↓reduceIte, Option.isSome_some, Option.isNone_some, decide_eq_true_eq, decide_not, Bool.not_eq_true, ite_true, ite_false, Bool.not_not] at h1 h2 h3 h4 h5 h6 h7 ⊢
  refine ⟨cmul_small (small_of (by omega)) (small_of (by omega)), ?_⟩
  by_cases hk : k * k ≤ left
  · have hkn := sq_le (by omega) hk
    simp only [hk, decide_true, Wt.run_bind, Wt.run_pure, Wt.run_req, Wt.run_opt, Wt.run_any, Wt.run_nox, Wt.run_andThen, Wt.run_fin, Wt.run_finI, Wt.run_never, Wt.run_ite_t, Wt.run_ite_f, Bool.not_true, Bool.not_false, Bool.false_eq_true, ↓reduceIte, Option.isSome_some, Option.isNone_some, decide_eq_true_eq, decide_not, Bool.not_eq_true, ite_true, ite_false, Bool.not_not]
    refine Wt.while_inv (fun s => 1 ≤ s.1 ∧ s.1 ≤ left ∧ 0 ≤ s.2 ∧ k ^ s.2.toNat * s.1 = left) (fun s => s.1.toNat) ⟨h4, Int.le_refl _, Int.le_refl _, by show k ^ 0 * left = left; rw [Int.pow_zero, Int.one_mul]⟩ (fun s hs => ?_)
    obtain ⟨l, c⟩ := s
    obtain ⟨a1, a2, a3, a4⟩ := hs
    simp only [Wt.run_bind, Wt.run_pure, Wt.run_req, Wt.run_opt, Wt.run_any, Wt.run_nox, Wt.run_andThen, Wt.run_fin, Wt.run_finI, Wt.run_never, Wt.run_ite_t, Wt.run_ite_f, Bool.not_true, Bool.not_false, Bool.false_eq_true, ↓reduceIte, Option.isSome_some, Option.isNone_some, decide_eq_true_eq, decide_not, Bool.not_eq_true, ite_true, ite_false, Bool.not_not] at a1 a2 a3 a4 ⊢
    refine ⟨by omega, ?_⟩
    by_cases hd : l % k = 0
    · simp only [hd, decide_true, Wt.run_bind, Wt.run_pure, Wt.run_req, Wt.run_opt, Wt.run_any, Wt.run_nox, Wt.run_andThen, Wt.run_fin, Wt.run_finI, Wt.run_never, Wt.run_ite_t, Wt.run_ite_f, Bool.not_true, Bool.not_false, Bool.false_eq_true, ↓reduceIte, Option.isSome_some, Option.isNone_some, decide_eq_true_eq, decide_not, Bool.not_eq_true, ite_true, ite_false, Bool.not_not]
      have hlk : k * (l / k) = l := Int.mul_ediv_cancel' (Int.dvd_of_emod_eq_zero hd)
      have hkl : k ≤ l := by
        rcases Int.lt_or_le l k with z | z
        · rw [Int.emod_eq_of_lt (by omega) z] at hd; omega
        · exact z
      have hdi := div_in (n := l) (k := k) (by omega) hkl
      refine ⟨dv_ok (by omega) (by omega), ⟨hdi.1, by omega, by omega, ?_⟩, ?_⟩
      · have e : (c + 1).toNat = c.toNat + 1 := by omega
        rw [e, Int.pow_succ, Int.mul_assoc, hlk, a4]
      · have h2 : 2 * (l / k) ≤ k * (l / k) := Int.mul_le_mul_of_nonneg_right h1 (by omega)
        omega
    · simp only [hd, decide_false, Wt.run_bind, Wt.run_pure, Wt.run_req, Wt.run_opt, Wt.run_any, Wt.run_nox, Wt.run_andThen, Wt.run_fin, Wt.run_finI, Wt.run_never, Wt.run_ite_t, Wt.run_ite_f, Bool.not_true, Bool.not_false, Bool.false_eq_true, ↓reduceIte, Option.isSome_some, Option.isNone_some, decide_eq_true_eq, decide_not, Bool.not_eq_true, ite_true, ite_false, Bool.not_not]
      refine run_mono (P := fun o => match o with
        | .nxt s => (s.length : Int) + 2 ≤ k + 1 ∧ RowsOk n s ∧ prodR s * l = n
        | _ => False) ?_ (fun o ho => ?_)
      · by_cases hc : 0 < c
        · simp only [hc, decide_true, Wt.run_bind, Wt.run_pure, Wt.run_req, Wt.run_opt, Wt.run_any, Wt.run_nox, Wt.run_andThen, Wt.run_fin, Wt.run_finI, Wt.run_never, Wt.run_ite_t, Wt.run_ite_f, Bool.not_true, Bool.not_false, Bool.false_eq_true, ↓reduceIte, Option.isSome_some, Option.isNone_some, decide_eq_true_eq, decide_not, Bool.not_eq_true, ite_true, ite_false, Bool.not_not]
          refine ⟨by omega, by rw [List.length_append]; simp only [List.length_cons, List.length_nil]; omega, fun r hr => ?_, ?_⟩
          · rcases List.mem_append.mp hr with hr | hr
            · exact h6 r hr
            · rw [List.mem_singleton.mp hr]
              exact ⟨h1, by show k ≤ n; omega, by show 1 ≤ c; omega⟩
          · rw [prodR_app, Int.mul_assoc]
            show prodR rs * (k ^ c.toNat * l) = n
            rw [a4, h7]
        · simp only [hc, decide_false, Wt.run_bind, Wt.run_pure, Wt.run_req, Wt.run_opt, Wt.run_any, Wt.run_nox, Wt.run_andThen, Wt.run_fin, Wt.run_finI, Wt.run_never, Wt.run_ite_t, Wt.run_ite_f, Bool.not_true, Bool.not_false, Bool.false_eq_true, ↓reduceIte, Option.isSome_some, Option.isNone_some, decide_eq_true_eq, decide_not, Bool.not_eq_true, ite_true, ite_false, Bool.not_not]
          have e : c = 0 := by omega
          rw [e] at a4
          rw [show Int.toNat 0 = 0 from rfl, Int.pow_zero] at a4
          exact ⟨by omega, h6, by rw [← h7, ← a4, Int.one_mul]⟩
      · cases o with
        | ret r => exact ho.elim
        | brk r => exact ho.elim
        | cnt r => exact ho.elim
        | nxt s =>
          obtain ⟨b1, b2, b3⟩ := ho
          simp only [Wt.run_bind, Wt.run_pure, Wt.run_req, Wt.run_opt, Wt.run_any, Wt.run_nox, Wt.run_andThen, Wt.run_fin, Wt.run_finI, Wt.run_never, Wt.run_ite_t, Wt.run_ite_f, Bool.not_true, Bool.not_false, Bool.false_eq_true, ↓reduceIte, Option.isSome_some, Option.isNone_some, decide_eq_true_eq, decide_not, Bool.not_eq_true, ite_true, ite_false, Bool.not_not]
          exact ⟨⟨by omega, by omega, by omega, a1, by omega, b2, b3⟩, by omega⟩
  · simp only [hk, decide_false, Wt.run_bind, Wt.run_pure, Wt.run_req, Wt.run_opt, Wt.run_any, Wt.run_nox, Wt.run_andThen, Wt.run_fin, Wt.run_finI, Wt.run_never, Wt.run_ite_t, Wt.run_ite_f, Bool.not_true, Bool.not_false, Bool.false_eq_true, ↓reduceIte, Option.isSome_some, Option.isNone_some, decide_eq_true_eq, decide_not, Bool.not_eq_true, ite_true, ite_false, Bool.not_not]
    by_cases hl : 1 < left
    · simp only [hl, decide_true, Wt.run_bind, Wt.run_pure, Wt.run_req, Wt.run_opt, Wt.run_any, Wt.run_nox, Wt.run_andThen, Wt.run_fin, Wt.run_finI, Wt.run_never, Wt.run_ite_t, Wt.run_ite_f, Bool.not_true, Bool.not_false, Bool.false_eq_true, ↓reduceIte, Option.isSome_some, Option.isNone_some, decide_eq_true_eq, decide_not, Bool.not_eq_true, ite_true, ite_false, Bool.not_not]
      refine ⟨by omega, q _ (fun r hr => ?_) ?_⟩
      · rcases List.mem_append.mp hr with hr | hr
        · exact h6 r hr
        · rw [List.mem_singleton.mp hr]
          exact ⟨by show 2 ≤ left; omega, h5, by show (1 : Int) ≤ 1; omega⟩
      · rw [prodR_app]
        show prodR rs * left ^ 1 = n
        rw [Int.pow_succ, Int.pow_zero, Int.one_mul, h7]
    · simp only [hl, decide_false, Wt.run_bind, Wt.run_pure, Wt.run_req, Wt.run_opt, Wt.run_any, Wt.run_nox, Wt.run_andThen, Wt.run_fin, Wt.run_finI, Wt.run_never, Wt.run_ite_t, Wt.run_ite_f, Bool.not_true, Bool.not_false, Bool.false_eq_true, ↓reduceIte, Option.isSome_some, Option.isNone_some, decide_eq_true_eq, decide_not, Bool.not_eq_true, ite_true, ite_false, Bool.not_not]
      have e : left = 1 := by omega
      rw [e, Int.mul_one] at h7
      exact q _ h6 h7
theorem m_phi {n : Int} (hn : 1 ≤ n ∧ n ≤ 2000) {Q : Int → Prop} (q : ∀ x, 1 ≤ x → x ≤ n → Q x) : (v_phi_of (n, ())).run E Q := by
  simp only [v_phi_of, w_phi_of, Wt.run_bind, Wt.run_pure, Wt.run_req, Wt.run_opt, Wt.run_any, Wt.run_nox, Wt.run_andThen, Wt.run_fin, Wt.run_finI, Wt.run_never, Wt.run_ite_t, Wt.run_ite_f, Bool.not_true, Bool.not_false, Bool.false_eq_true, ↓reduceIte, Option.isSome_some, Option.isNone_some, decide_eq_true_eq, decide_not, Bool.not_eq_true, ite_true, ite_false, Bool.not_not]
  refine m_check_number hn (m_prime_powers hn fun rs hrs hp => ?_)
  refine Wt.for_inv rs _ (fun i s => i ≤ rs.length ∧ 1 ≤ s ∧ s ≤ n ∧ ∃ A : Int, 1 ≤ A ∧ s = A * prodR (rs.drop i)) ⟨Nat.zero_le _, hn.1, Int.le_refl _, 1, Int.le_refl _, by rw [Int.one_mul]; exact hp.symm⟩ (fun i r s hx hs => ?_) (fun s hs => ?_)
  · obtain ⟨_, h1, h2, A, hA, e⟩ := hs
    have hi : i < rs.length := (List.getElem?_eq_some_iff.mp hx).1
    obtain ⟨r1, r2, r3⟩ := hrs r (List.mem_of_getElem? hx)
    have ed : rs.drop i = r :: rs.drop (i + 1) := by
      rw [List.drop_eq_getElem_cons hi]
      have := (List.getElem?_eq_some_iff.mp hx).2
      rw [this]
    have hpos := prodR_pos (rs := rs.drop (i + 1)) fun s hs => hrs s (List.mem_of_mem_drop hs)
    obtain ⟨c, hc⟩ : ∃ c : Nat, r.2.toNat = c + 1 := ⟨r.2.toNat - 1, by omega⟩
    have e2 : s = r.1 * (A * r.1 ^ c * prodR (rs.drop (i + 1))) := by
      rw [e, ed]
      show A * (r.1 ^ r.2.toNat * prodR _) = _
      rw [hc, Int.pow_succ]
      ac_rfl
    have e3 : s / r.1 = A * r.1 ^ c * prodR (rs.drop (i + 1)) := by
      rw [e2]
      exact Int.mul_ediv_cancel_left _ (by omega)
    have hpc : 0 < r.1 ^ c := Int.pow_pos (by omega)
    have h5 : 0 < A * r.1 ^ c * prodR (rs.drop (i + 1)) := Int.mul_pos (Int.mul_pos (by omega) hpc) (by omega)
    have h6 : s / r.1 ≤ n := by
      have := Int.ediv_le_self r.1 (a := s) (by omega)
      omega
    simp only [Wt.run_bind, Wt.run_pure, Wt.run_req, Wt.run_opt, Wt.run_any, Wt.run_nox, Wt.run_andThen, Wt.run_fin, Wt.run_finI, Wt.run_never, Wt.run_ite_t, Wt.run_ite_f, Bool.not_true, Bool.not_false, Bool.false_eq_true, ↓reduceIte, Option.isSome_some, Option.isNone_some, decide_eq_true_eq, decide_not, Bool.not_eq_true, ite_true, ite_false, Bool.not_not]
    rw [← e3] at h5
    have h7 : 1 * (s / r.1) ≤ (r.1 - 1) * (s / r.1) := Int.mul_le_mul_of_nonneg_right (by omega) (by omega)
    have h8 : (r.1 - 1) * (s / r.1) ≤ s := by
      have : r.1 * (s / r.1) = s := by rw [e3, ← e2]
      rw [Int.sub_mul]
      omega
    rw [Int.mul_comm (s / r.1)]
    refine ⟨dv_ok (by omega) (by omega), cmul_small (small_of (by omega)) (small_of (by omega)), hi, by omega, by omega, A * r.1 ^ c * (r.1 - 1), ?_, ?_⟩
    · have := Int.mul_pos (Int.mul_pos (show 0 < A by omega) hpc) (show 0 < r.1 - 1 by omega)
      omega
    · rw [e3]
      ac_rfl
  · obtain ⟨_, h1, h2, _⟩ := hs
    simp only [Wt.run_bind, Wt.run_pure, Wt.run_req, Wt.run_opt, Wt.run_any, Wt.run_nox, Wt.run_andThen, Wt.run_fin, Wt.run_finI, Wt.run_never, Wt.run_ite_t, Wt.run_ite_f, Bool.not_true, Bool.not_false, Bool.false_eq_true, ↓reduceIte, Option.isSome_some, Option.isNone_some, decide_eq_true_eq, decide_not, Bool.not_eq_true, ite_true, ite_false, Bool.not_not]
    exact q _ h1 h2
theorem m_mu {n : Int} (hn : 1 ≤ n ∧ n ≤ 2000) {Q : Int → Prop} (q : ∀ x, -1 ≤ x → x ≤ 1 → Q x) : (v_mu_of (n, ())).run E Q := by
  simp only [v_mu_of, w_mu_of, Wt.run_bind, Wt.run_pure, Wt.run_req, Wt.run_opt, Wt.run_any, Wt.run_nox, Wt.run_andThen, Wt.run_fin, Wt.run_finI, Wt.run_never, Wt.run_ite_t, Wt.run_ite_f, Bool.not_true, Bool.not_false, Bool.false_eq_true, ↓reduceIte, Option.isSome_some, Option.isNone_some, decide_eq_true_eq, decide_not, Bool.not_eq_true, ite_true, ite_false, Bool.not_not]
  refine m_check_number hn (m_prime_powers hn fun rs hrs hp => ?_)
  refine Wt.for_inv rs _ (fun i s => -1 ≤ s ∧ s ≤ 1) ⟨by omega, by omega⟩ (fun i r s hx hs => ?_) (fun s hs => ?_)
  · simp only [Wt.run_bind, Wt.run_pure, Wt.run_req, Wt.run_opt, Wt.run_any, Wt.run_nox, Wt.run_andThen, Wt.run_fin, Wt.run_finI, Wt.run_never, Wt.run_ite_t, Wt.run_ite_f, Bool.not_true, Bool.not_false, Bool.false_eq_true, ↓reduceIte, Option.isSome_some, Option.isNone_some, decide_eq_true_eq, decide_not, Bool.not_eq_true, ite_true, ite_false, Bool.not_not]
    by_cases h : 1 < r.2
    · simp only [h, decide_true, Wt.run_bind, Wt.run_pure, Wt.run_req, Wt.run_opt, Wt.run_any, Wt.run_nox, Wt.run_andThen, Wt.run_fin, Wt.run_finI, Wt.run_never, Wt.run_ite_t, Wt.run_ite_f, Bool.not_true, Bool.not_false, Bool.false_eq_true, ↓reduceIte, Option.isSome_some, Option.isNone_some, decide_eq_true_eq, decide_not, Bool.not_eq_true, ite_true, ite_false, Bool.not_not]
      exact q 0 (by omega) (by omega)
    · simp only [h, decide_false, Wt.run_bind, Wt.run_pure, Wt.run_req, Wt.run_opt, Wt.run_any, Wt.run_nox, Wt.run_andThen, Wt.run_fin, Wt.run_finI, Wt.run_never, Wt.run_ite_t, Wt.run_ite_f, Bool.not_true, Bool.not_false, Bool.false_eq_true, ↓reduceIte, Option.isSome_some, Option.isNone_some, decide_eq_true_eq, decide_not, Bool.not_eq_true, ite_true, ite_false, Bool.not_not]
      omega
  · simp only [Wt.run_bind, Wt.run_pure, Wt.run_req, Wt.run_opt, Wt.run_any, Wt.run_nox, Wt.run_andThen, Wt.run_fin, Wt.run_finI, Wt.run_never, Wt.run_ite_t, Wt.run_ite_f, Bool.not_true, Bool.not_false, Bool.false_eq_true, ↓reduceIte, Option.isSome_some, Option.isNone_some, decide_eq_true_eq, decide_not, Bool.not_eq_true, ite_true, ite_false, Bool.not_not]
    exact q _ hs.1 hs.2
theorem m_common {a b : Int} (ha : 1 ≤ a ∧ a ≤ 2000) (hb : 0 ≤ b ∧ b ≤ 2000) {Q : Int → Prop} (q : ∀ x, 1 ≤ x → x ≤ a → Q x) : (v_common_divisor (a, b, ())).run E Q := by
  simp only [v_common_divisor, w_common_divisor, Wt.run_bind, Wt.run_pure, Wt.run_req, Wt.run_opt, Wt.run_any, Wt.run_nox, Wt.run_andThen, Wt.run_fin, Wt.run_finI, Wt.run_never, Wt.run_ite_t, Wt.run_ite_f, Bool.not_true, Bool.not_false, Bool.false_eq_true, ↓reduceIte, Option.isSome_some, Option.isNone_some, decide_eq_true_eq, decide_not, Bool.not_eq_true, ite_true, ite_false, Bool.not_not]
  refine m_check_number ⟨by omega, ha.2⟩ (m_check_number hb ?_)
  refine Wt.while_inv (fun s => (s.1 = a ∧ s.2 = b) ∨ (0 ≤ s.1 ∧ s.1 < s.2 ∧ s.2 ≤ a)) (fun s => s.1.toNat) (.inl ⟨rfl, rfl⟩) (fun s hs => ?_)
  obtain ⟨lo, hi⟩ := s
  simp only [Wt.run_bind, Wt.run_pure, Wt.run_req, Wt.run_opt, Wt.run_any, Wt.run_nox, Wt.run_andThen, Wt.run_fin, Wt.run_finI, Wt.run_never, Wt.run_ite_t, Wt.run_ite_f, Bool.not_true, Bool.not_false, Bool.false_eq_true, ↓reduceIte, Option.isSome_some, Option.isNone_some, decide_eq_true_eq, decide_not, Bool.not_eq_true, ite_true, ite_false, Bool.not_not] at hs ⊢
  by_cases h : 0 < lo
  · simp only [h, decide_true, Wt.run_bind, Wt.run_pure, Wt.run_req, Wt.run_opt, Wt.run_any, Wt.run_nox, Wt.run_andThen, Wt.run_fin, Wt.run_finI, Wt.run_never, Wt.run_ite_t, Wt.run_ite_f, Bool.not_true, Bool.not_false, Bool.false_eq_true, ↓reduceIte, Option.isSome_some, Option.isNone_some, decide_eq_true_eq, decide_not, Bool.not_eq_true, ite_true, ite_false, Bool.not_not]
    have h1 := Int.emod_nonneg hi (b := lo) (by omega)
    have h2 := Int.emod_lt_of_pos hi h
    exact ⟨True.intro, .inr ⟨h1, h2, by omega⟩, by omega⟩
  · simp only [h, decide_false, Wt.run_bind, Wt.run_pure, Wt.run_req, Wt.run_opt, Wt.run_any, Wt.run_nox, Wt.run_andThen, Wt.run_fin, Wt.run_finI, Wt.run_never, Wt.run_ite_t, Wt.run_ite_f, Bool.not_true, Bool.not_false, Bool.false_eq_true, ↓reduceIte, Option.isSome_some, Option.isNone_some, decide_eq_true_eq, decide_not, Bool.not_eq_true, ite_true, ite_false, Bool.not_not]
    exact q _ (by omega) (by omega)
theorem m_ram {a b : Int} (ha : 1 ≤ a ∧ a ≤ 2000) (hb : 0 ≤ b ∧ b ≤ 2000) {Q : Int → Prop} (q : ∀ x, -2000 ≤ x → x ≤ 2000 → Q x) : (v_ram_of (a, b, ())).run E Q := by
  simp only [v_ram_of, w_ram_of, Wt.run_bind, Wt.run_pure, Wt.run_req, Wt.run_opt, Wt.run_any, Wt.run_nox, Wt.run_andThen, Wt.run_fin, Wt.run_finI, Wt.run_never, Wt.run_ite_t, Wt.run_ite_f, Bool.not_true, Bool.not_false, Bool.false_eq_true, ↓reduceIte, Option.isSome_some, Option.isNone_some, decide_eq_true_eq, decide_not, Bool.not_eq_true, ite_true, ite_false, Bool.not_not]
  refine m_check_number ha (m_check_number hb (m_common ha hb fun g h1 h2 => ?_))
  have hd := div_in h1 h2
  refine ⟨dv_ok (by omega) (by omega), m_phi ha fun x x1 x2 => m_mu ⟨by omega, by omega⟩ fun y y1 y2 => ?_⟩
  refine ⟨cmul_small (small_of (by omega)) (by omega), m_phi ⟨by omega, by omega⟩ fun z z1 z2 => ⟨dv_ok (by omega) (by omega), ?_⟩⟩
  have b1 : -2000 ≤ x * y ∧ x * y ≤ 2000 := by
    have : y = -1 ∨ y = 0 ∨ y = 1 := by omega
    rcases this with rfl | rfl | rfl <;> omega
  exact q _ ((Int.le_ediv_iff_mul_le (by omega)).mpr (by omega)) (Int.ediv_le_of_le_mul (by omega) (by omega))
theorem m_size {n : Nat} {r : Int} (hn : 1 ≤ n ∧ n ≤ 60) (hr : 0 ≤ r ∧ r < (n : Int)) {Q : Int → Prop} (q : ∀ x, Q x) : (v_size_of ((n : Int) - 1, r, ())).run E Q := by
  simp only [v_size_of, w_size_of, Wt.run_bind, Wt.run_pure, Wt.run_req, Wt.run_opt, Wt.run_any, Wt.run_nox, Wt.run_andThen, Wt.run_fin, Wt.run_finI, Wt.run_never, Wt.run_ite_t, Wt.run_ite_f, Bool.not_true, Bool.not_false, Bool.false_eq_true, ↓reduceIte, Option.isSome_some, Option.isNone_some, decide_eq_true_eq, decide_not, Bool.not_eq_true, ite_true, ite_false, Bool.not_not]
  simp only [v_check_sized, w_check_sized, Wt.run_bind, Wt.run_pure, Wt.run_req, Wt.run_opt, Wt.run_any, Wt.run_nox, Wt.run_andThen, Wt.run_fin, Wt.run_finI, Wt.run_never, Wt.run_ite_t, Wt.run_ite_f, Bool.not_true, Bool.not_false, Bool.false_eq_true, ↓reduceIte, Option.isSome_some, Option.isNone_some, decide_eq_true_eq, decide_not, Bool.not_eq_true, ite_true, ite_false, Bool.not_not]
  refine m_check_number ⟨by omega, by omega⟩ (m_is_whole ?_)
  have e : 0 ≤ r ∧ r ≤ (n : Int) - 1 := by omega
  simp only [decide_eq_true e, Wt.run_bind, Wt.run_pure, Wt.run_req, Wt.run_opt, Wt.run_any, Wt.run_nox, Wt.run_andThen, Wt.run_fin, Wt.run_finI, Wt.run_never, Wt.run_ite_t, Wt.run_ite_f, Bool.not_true, Bool.not_false, Bool.false_eq_true, ↓reduceIte, Option.isSome_some, Option.isNone_some, decide_eq_true_eq, decide_not, Bool.not_eq_true, ite_true, ite_false, Bool.not_not]
  refine m_divisors ⟨by omega, by omega⟩ fun xs hxs => ?_
  refine Wt.for_inv xs _ (fun i s => True) True.intro (fun i d s hx hs => ?_) (fun s hs => ?_)
  · have hd := hxs d (List.mem_of_getElem? hx)
    simp only [Wt.run_bind, Wt.run_pure, Wt.run_req, Wt.run_opt, Wt.run_any, Wt.run_nox, Wt.run_andThen, Wt.run_fin, Wt.run_finI, Wt.run_never, Wt.run_ite_t, Wt.run_ite_f, Bool.not_true, Bool.not_false, Bool.false_eq_true, ↓reduceIte, Option.isSome_some, Option.isNone_some, decide_eq_true_eq, decide_not, Bool.not_eq_true, ite_true, ite_false, Bool.not_not]
    refine ⟨by decide, ?_⟩
    by_cases ho : d % 2 = 1
    · simp only [ho, decide_true, Wt.run_bind, Wt.run_pure, Wt.run_req, Wt.run_opt, Wt.run_any, Wt.run_nox, Wt.run_andThen, Wt.run_fin, Wt.run_finI, Wt.run_never, Wt.run_ite_t, Wt.run_ite_f, Bool.not_true, Bool.not_false, Bool.false_eq_true, ↓reduceIte, Option.isSome_some, Option.isNone_some, decide_eq_true_eq, decide_not, Bool.not_eq_true, ite_true, ite_false, Bool.not_not]
      have h2 := div_in (n := (n : Int) - 1 + 1) hd.1 hd.2
      refine m_ram ⟨by omega, by omega⟩ ⟨by omega, by omega⟩ fun x x1 x2 => ⟨dv_ok (by omega) (by omega), m_power_of ⟨by omega, by omega⟩ ⟨cmul_small ?_ (pow2_small (by omega)), True.intro⟩⟩
      exact Nat.lt_of_lt_of_le (show x.natAbs < 2 ^ 80 by omega) (Nat.pow_le_pow_right (by decide) (by decide))
    · simp only [ho, decide_false, Wt.run_bind, Wt.run_pure, Wt.run_req, Wt.run_opt, Wt.run_any, Wt.run_nox, Wt.run_andThen, Wt.run_fin, Wt.run_finI, Wt.run_never, Wt.run_ite_t, Wt.run_ite_f, Bool.not_true, Bool.not_false, Bool.false_eq_true, ↓reduceIte, Option.isSome_some, Option.isNone_some, decide_eq_true_eq, decide_not, Bool.not_eq_true, ite_true, ite_false, Bool.not_not]
  · simp only [Wt.run_bind, Wt.run_pure, Wt.run_req, Wt.run_opt, Wt.run_any, Wt.run_nox, Wt.run_andThen, Wt.run_fin, Wt.run_finI, Wt.run_never, Wt.run_ite_t, Wt.run_ite_f, Bool.not_true, Bool.not_false, Bool.false_eq_true, ↓reduceIte, Option.isSome_some, Option.isNone_some, decide_eq_true_eq, decide_not, Bool.not_eq_true, ite_true, ite_false, Bool.not_not]
    exact ⟨cmul_small (small_of (by omega)) (small_of (by omega)), dv_ok (by omega) (by omega), q _⟩
theorem m_WrongBook {n : Nat} {rest : Int} (hn : 1 ≤ n ∧ n ≤ 60) (hr : 0 ≤ rest ∧ rest < 2 * (n : Int)) {Q : vi_WrongBook → Prop} (q : ∀ z, Q ((n : Int), rest, 2 * (n : Int), z)) : (v_WrongBook_init ((n : Int), rest, ())).run E Q := by
  simp only [v_WrongBook_init, w_WrongBook_init, Wt.run_bind, Wt.run_pure, Wt.run_req, Wt.run_opt, Wt.run_any, Wt.run_nox, Wt.run_andThen, Wt.run_fin, Wt.run_finI, Wt.run_never, Wt.run_ite_t, Wt.run_ite_f, Bool.not_true, Bool.not_false, Bool.false_eq_true, ↓reduceIte, Option.isSome_some, Option.isNone_some, decide_eq_true_eq, decide_not, Bool.not_eq_true, ite_true, ite_false, Bool.not_not]
  refine m_is_whole ?_
  have e1 : (1 : Int) ≤ (n : Int) ∧ (n : Int) ≤ 60 := by omega
  simp only [decide_eq_true e1, Wt.run_bind, Wt.run_pure, Wt.run_req, Wt.run_opt, Wt.run_any, Wt.run_nox, Wt.run_andThen, Wt.run_fin, Wt.run_finI, Wt.run_never, Wt.run_ite_t, Wt.run_ite_f, Bool.not_true, Bool.not_false, Bool.false_eq_true, ↓reduceIte, Option.isSome_some, Option.isNone_some, decide_eq_true_eq, decide_not, Bool.not_eq_true, ite_true, ite_false, Bool.not_not]
  refine ⟨cmul_small (small_of (by omega)) (small_of (by omega)), m_is_whole ?_⟩
  have e2 : 0 ≤ rest ∧ rest ≤ 2 * (n : Int) - 1 := by omega
  simp only [decide_eq_true e2, Wt.run_bind, Wt.run_pure, Wt.run_req, Wt.run_opt, Wt.run_any, Wt.run_nox, Wt.run_andThen, Wt.run_fin, Wt.run_finI, Wt.run_never, Wt.run_ite_t, Wt.run_ite_f, Bool.not_true, Bool.not_false, Bool.false_eq_true, ↓reduceIte, Option.isSome_some, Option.isNone_some, decide_eq_true_eq, decide_not, Bool.not_eq_true, ite_true, ite_false, Bool.not_not]
  refine ⟨cmul_small (small_of (by omega)) (small_of (by omega)), by omega, m_size hn ⟨Int.emod_nonneg _ (by omega), Int.emod_lt_of_pos _ (by omega)⟩ fun z => ?_⟩
  exact q z
end K32
end T9
namespace T9
namespace K32
open L2 PyProof.Rows PySem.Spec PySem
variable {E : Er → Prop}
theorem dw_len {n m : Nat} {wr : Bool} {rest : Int} {bits : List Int} : (dw n m wr rest bits).length = n := Wd_len
theorem eqvL (xs : List Int) : PyData.eqv (PyData.list (xs.map PyData.int)) (PyData.list (xs.map PyData.int)) = true := by
  rw [PyData.eqv]
  induction xs with
  | nil => rfl
  | cons x xs ih =>
    rw [List.map_cons, PyData.eqvAll, ih]
    simp [PyData.eqv]
theorem m_word_holds {n m : Nat} {wr : Bool} {rest : Int} {bits : List Int} (hn : 1 ≤ n ∧ n ≤ 200) (d : Dbl n m) (hr : 0 ≤ rest ∧ rest < md n wr) (hb : bits.length = (fr n m wr).length) (h01 : ∀ x ∈ bits, 0 ≤ x ∧ x ≤ 1)
    {Q : Bool → Prop} (q : Q true) : (v__law_word_holds ((n : Int), rest, bits, wr, ())).run E Q := by
  have hfl : (fr n m wr).length ≤ n := by have := fr_len (L := n) (m := m) (wr := wr); omega
  have hg := g3_01 (rest := rest) hb h01
  have hs := dw_sum hn.1 d hr hb
  have hk := dw_back (rest := rest) hn.1 d hb
  have hmp := md_pos (wr := wr) hn.1
  simp only [v__law_word_holds, w__law_word_holds, Ws.bind, Ws.pure, Ws.req, Ws.opt, Ws.any, Ws.nox, Ws.never, Ws.iteT, Ws.iteF, Wt.run_andThen, Wt.run_fin, Wt.run_finI, Bool.not_true, Bool.not_false, Bool.false_eq_true, ↓reduceIte, Option.isSome_some, Option.isNone_some, decide_eq_true_eq, decide_not, Bool.not_eq_true, ite_true, ite_false, Bool.not_not]
  refine m_either fun c => m_law_data hn d hb h01 (m_data_word hn d hr hb h01 (m_exact_T (by rw [dw_len]; omega) ?_))
  simp only [Ws.bind, Ws.pure, Ws.req, Ws.opt, Ws.any, Ws.nox, Ws.never, Ws.iteT, Ws.iteF, Wt.run_andThen, Wt.run_fin, Wt.run_finI, Bool.not_true, Bool.not_false, Bool.false_eq_true, ↓reduceIte, Option.isSome_some, Option.isNone_some, decide_eq_true_eq, decide_not, Bool.not_eq_true, ite_true, ite_false, Bool.not_not, eqvL]
  cases wr with
  | false =>
    have ed : md n false = (n : Int) + 1 := rfl
    rw [ed] at hs hr hmp
    simp only [Ws.bind, Ws.pure, Ws.req, Ws.opt, Ws.any, Ws.nox, Ws.never, Ws.iteT, Ws.iteF, Wt.run_andThen, Wt.run_fin, Wt.run_finI, Bool.not_true, Bool.not_false, Bool.false_eq_true, ↓reduceIte, Option.isSome_some, Option.isNone_some, decide_eq_true_eq, decide_not, Bool.not_eq_true, ite_true, ite_false, Bool.not_not]
    refine m_data_word hn d hr hb h01 (m_exact_T (by rw [dw_len]; omega) ?_)
    simp only [Ws.bind, Ws.pure, Ws.req, Ws.opt, Ws.any, Ws.nox, Ws.never, Ws.iteT, Ws.iteF, Wt.run_andThen, Wt.run_fin, Wt.run_finI, Bool.not_true, Bool.not_false, Bool.false_eq_true, ↓reduceIte, Option.isSome_some, Option.isNone_some, decide_eq_true_eq, decide_not, Bool.not_eq_true, ite_true, ite_false, Bool.not_not]
    refine m_law_sum (by omega) hg ⟨hmp, ?_⟩
    simp only [hs, decide_true, Ws.bind, Ws.pure, Ws.req, Ws.opt, Ws.any, Ws.nox, Ws.never, Ws.iteT, Ws.iteF, Wt.run_andThen, Wt.run_fin, Wt.run_finI, Bool.not_true, Bool.not_false, Bool.false_eq_true, ↓reduceIte, Option.isSome_some, Option.isNone_some, decide_eq_true_eq, decide_not, Bool.not_eq_true, ite_true, ite_false, Bool.not_not]
    refine m_SumBook hn hr (m_SumBook_has hn hg hs (m_exact_B ?_))
    simp only [Ws.bind, Ws.pure, Ws.req, Ws.opt, Ws.any, Ws.nox, Ws.never, Ws.iteT, Ws.iteF, Wt.run_andThen, Wt.run_fin, Wt.run_finI, Bool.not_true, Bool.not_false, Bool.false_eq_true, ↓reduceIte, Option.isSome_some, Option.isNone_some, decide_eq_true_eq, decide_not, Bool.not_eq_true, ite_true, ite_false, Bool.not_not]
    refine m_either fun c2 => m_data_of hn d hg ?_
    rw [hk]
    refine m_exact_T (by omega) ?_
    simp only [Ws.bind, Ws.pure, Ws.req, Ws.opt, Ws.any, Ws.nox, Ws.never, Ws.iteT, Ws.iteF, Wt.run_andThen, Wt.run_fin, Wt.run_finI, Bool.not_true, Bool.not_false, Bool.false_eq_true, ↓reduceIte, Option.isSome_some, Option.isNone_some, decide_eq_true_eq, decide_not, Bool.not_eq_true, ite_true, ite_false, Bool.not_not]
    refine m_data_of hn d hg ?_
    rw [hk]
    exact m_exact_T (by omega) q
  | true =>
    have ed : md n true = 2 * (n : Int) := rfl
    rw [ed] at hs hr hmp
    simp only [Ws.bind, Ws.pure, Ws.req, Ws.opt, Ws.any, Ws.nox, Ws.never, Ws.iteT, Ws.iteF, Wt.run_andThen, Wt.run_fin, Wt.run_finI, Bool.not_true, Bool.not_false, Bool.false_eq_true, ↓reduceIte, Option.isSome_some, Option.isNone_some, decide_eq_true_eq, decide_not, Bool.not_eq_true, ite_true, ite_false, Bool.not_not]
    refine m_law_sum (by omega) hg ⟨cmul_small (by decide) (by omega), hmp, ?_⟩
    simp only [hs, decide_true, Ws.bind, Ws.pure, Ws.req, Ws.opt, Ws.any, Ws.nox, Ws.never, Ws.iteT, Ws.iteF, Wt.run_andThen, Wt.run_fin, Wt.run_finI, Bool.not_true, Bool.not_false, Bool.false_eq_true, ↓reduceIte, Option.isSome_some, Option.isNone_some, decide_eq_true_eq, decide_not, Bool.not_eq_true, ite_true, ite_false, Bool.not_not]
    have rest_ok : (v__law_either ((false, dw n m true rest bits), ())).run (fun _ => False) fun a => (v_data_of (a, true, ())).run (fun _ => False) fun a => (v__law_exact_T (a, (true, bits), ())).run (fun _ => False) fun a => a = true := by
      refine m_either fun c2 => m_data_of hn d hg ?_
      rw [hk]
      exact m_exact_T (by omega) rfl
    by_cases h60 : (n : Int) ≤ 60
    · simp only [h60, decide_true, Ws.bind, Ws.pure, Ws.req, Ws.opt, Ws.any, Ws.nox, Ws.never, Ws.iteT, Ws.iteF, Wt.run_andThen, Wt.run_fin, Wt.run_finI, Bool.not_true, Bool.not_false, Bool.false_eq_true, ↓reduceIte, Option.isSome_some, Option.isNone_some, decide_eq_true_eq, decide_not, Bool.not_eq_true, ite_true, ite_false, Bool.not_not]
      refine m_WrongBook ⟨hn.1, by omega⟩ hr fun z => m_WrongBook_has ⟨hn.1, by omega⟩ hg hs (m_exact_B ?_)
      simp only [Ws.bind, Ws.pure, Ws.req, Ws.opt, Ws.any, Ws.nox, Ws.never, Ws.iteT, Ws.iteF, Wt.run_andThen, Wt.run_fin, Wt.run_finI, Bool.not_true, Bool.not_false, Bool.false_eq_true, ↓reduceIte, Option.isSome_some, Option.isNone_some, decide_eq_true_eq, decide_not, Bool.not_eq_true, ite_true, ite_false, Bool.not_not]
      refine m_either fun c2 => m_data_of hn d hg ?_
      rw [hk]
      refine m_exact_T (by omega) ?_
      simp only [Ws.bind, Ws.pure, Ws.req, Ws.opt, Ws.any, Ws.nox, Ws.never, Ws.iteT, Ws.iteF, Wt.run_andThen, Wt.run_fin, Wt.run_finI, Bool.not_true, Bool.not_false, Bool.false_eq_true, ↓reduceIte, Option.isSome_some, Option.isNone_some, decide_eq_true_eq, decide_not, Bool.not_eq_true, ite_true, ite_false, Bool.not_not]
      exact q
    · simp only [h60, decide_false, Ws.bind, Ws.pure, Ws.req, Ws.opt, Ws.any, Ws.nox, Ws.never, Ws.iteT, Ws.iteF, Wt.run_andThen, Wt.run_fin, Wt.run_finI, Bool.not_true, Bool.not_false, Bool.false_eq_true, ↓reduceIte, Option.isSome_some, Option.isNone_some, decide_eq_true_eq, decide_not, Bool.not_eq_true, ite_true, ite_false, Bool.not_not]
      refine m_either fun c2 => m_data_of hn d hg ?_
      rw [hk]
      refine m_exact_T (by omega) ?_
      simp only [Ws.bind, Ws.pure, Ws.req, Ws.opt, Ws.any, Ws.nox, Ws.never, Ws.iteT, Ws.iteF, Wt.run_andThen, Wt.run_fin, Wt.run_finI, Bool.not_true, Bool.not_false, Bool.false_eq_true, ↓reduceIte, Option.isSome_some, Option.isNone_some, decide_eq_true_eq, decide_not, Bool.not_eq_true, ite_true, ite_false, Bool.not_not]
      exact q
/-! ### all short words -/
theorem sub_len {α : Type} [DecidableEq α] : ∀ {l xs : List α}, l.Nodup → (∀ x ∈ l, x ∈ xs) → l.length ≤ xs.length
  | [], xs, _, _ => Nat.zero_le _
  | x :: l, xs, hn, h => by
    rw [List.nodup_cons] at hn
    have hx := h x (List.mem_cons_self ..)
    have h2 : ∀ y ∈ l, y ∈ xs.erase x := fun y hy => (List.mem_erase_of_ne (fun z => hn.1 (by rw [← z]; exact hy))).mpr (h y (List.mem_cons_of_mem _ hy))
    have h3 := sub_len hn.2 h2
    rw [List.length_erase_of_mem hx] at h3
    have : 0 < xs.length := List.length_pos_of_mem hx
    rw [List.length_cons]
    omega
theorem dw_inj {n m : Nat} {wr : Bool} {rest : Int} {a b : List Int} (hn : 1 ≤ n) (d : Dbl n m) (ha : a.length = (fr n m wr).length) (hb : b.length = (fr n m wr).length) (h : dw n m wr rest a = dw n m wr rest b) : a = b := by
  rw [← dw_back (rest := rest) hn d ha, ← dw_back (rest := rest) hn d hb]
  refine List.map_congr_left fun p hp => ?_
  have hp := (mem_fr.mp hp).1
  have e1 := Wd_at (g := g3 n m wr rest a) hp
  have e2 := Wd_at (g := g3 n m wr rest b) hp
  have h : Wd n (g3 n m wr rest a) = Wd n (g3 n m wr rest b) := h
  rw [h, e2] at e1
  exact (Option.some.inj e1).symm
theorem fr_few : ∀ n : Fin 8, ∀ m : Fin 9, ∀ wr : Bool, 1 ≤ n.val → ((n.val : Nat) : Int) < 2 ^ m.val → (∀ j : Fin 9, j.val < m.val → (2 : Int) ^ j.val ≤ ((n.val : Nat) : Int)) → (fr ((n.val : Nat) : Int) m.val wr).length ≤ 5 := by
  decide +kernel
theorem m_all_hold {n m : Nat} {wr : Bool} (hn : 1 ≤ n ∧ n ≤ 7) (d : Dbl n m) {Q : Bool → Prop} (q : Q true) : (v__law_all_hold ((n : Int), wr, ())).run E Q := by
  have hz := sizeLine_big
  have d8 := d.m8
  have hn2 : 1 ≤ n ∧ n ≤ 200 := by omega
  have hf5 : (fr n m wr).length ≤ 5 := fr_few ⟨n, by omega⟩ ⟨m, by omega⟩ wr hn.1 d.hi fun j hj => d.lo j.val hj
  have hp5 : 2 ^ (fr n m wr).length ≤ 32 := Nat.pow_le_pow_right (n := 2) (by decide) hf5
  have hmp := md_pos (wr := wr) hn.1
  have hmd : md n wr < 2 ^ 62 := by unfold md; cases wr <;> simp only [Bool.false_eq_true, ↓reduceIte] <;> omega
  simp only [v__law_all_hold, w__law_all_hold, Ws.bind, Ws.pure, Ws.req, Ws.opt, Ws.any, Ws.nox, Ws.never, Ws.iteT, Ws.iteF, Wt.run_andThen, Wt.run_fin, Wt.run_finI, Bool.not_true, Bool.not_false, Bool.false_eq_true, ↓reduceIte, Option.isSome_some, Option.isNone_some, decide_eq_true_eq, decide_not, Bool.not_eq_true, ite_true, ite_false, Bool.not_not]
  refine m_law_free ⟨by omega, by omega⟩ d (m_free_places ⟨by omega, by omega⟩ d (m_exact_T (by omega) ?_))
  simp only [Ws.bind, Ws.pure, Ws.req, Ws.opt, Ws.any, Ws.nox, Ws.never, Ws.iteT, Ws.iteF, Wt.run_andThen, Wt.run_fin, Wt.run_finI, Bool.not_true, Bool.not_false, Bool.false_eq_true, ↓reduceIte, Option.isSome_some, Option.isNone_some, decide_eq_true_eq, decide_not, Bool.not_eq_true, ite_true, ite_false, Bool.not_not]
  refine run_mono (P := fun M => M = md n wr) ?_ (fun M hM => ?_)
  · unfold md
    cases wr <;> simp only [Wt.run_bind, Wt.run_pure, Wt.run_req, Wt.run_opt, Wt.run_any, Wt.run_nox, Wt.run_never, Wt.run_ite_t, Wt.run_ite_f, Wt.run_andThen, Wt.run_fin, Wt.run_finI, Bool.not_true, Bool.not_false, Bool.false_eq_true, ↓reduceIte, Option.isSome_some, Option.isNone_some, decide_eq_true_eq, decide_not, Bool.not_eq_true, ite_true, ite_false, Bool.not_not, Wt.run_ite]
    exact ⟨cmul_small (by decide) (by omega), by trivial⟩
  subst hM
  refine ⟨⟨by omega, hmd⟩, ?_⟩
  have ef : (((fr n m wr).length : Int)).toNat = (fr n m wr).length := by omega
  refine Wt.for_inv (rng 0 (md n wr)) _ (fun i s => True) True.intro (fun i rest s hx hs => ?_) (fun s hs => ?_)
  · have hrest := mem_rng.mp (List.mem_of_getElem? hx)
    simp only [Ws.bind, Ws.pure, Ws.req, Ws.opt, Ws.any, Ws.nox, Ws.never, Ws.iteT, Ws.iteF, Wt.run_andThen, Wt.run_fin, Wt.run_finI, Bool.not_true, Bool.not_false, Bool.false_eq_true, ↓reduceIte, Option.isSome_some, Option.isNone_some, decide_eq_true_eq, decide_not, Bool.not_eq_true, ite_true, ite_false, Bool.not_not]
    refine m_law_power ⟨by omega, by omega⟩ ?_
    rw [ef, pow2_nat]
    have hpI : ((2 ^ (fr n m wr).length : Nat) : Int) ≤ 32 := by omega
    have hpJ : (0 : Int) ≤ ((2 ^ (fr n m wr).length : Nat) : Int) := Int.natCast_nonneg _
    refine ⟨⟨Int.le_trans (by decide) hpJ, Int.lt_of_le_of_lt hpI (by decide)⟩, ?_⟩
    refine Wt.for_inv (rng 0 ((2 ^ (fr n m wr).length : Nat) : Int)) _ (fun i s => i ≤ 2 ^ (fr n m wr).length ∧ s = (List.range i).map fun x => dw n m wr rest (btn x (fr n m wr).length)) ⟨Nat.zero_le _, rfl⟩ (fun i x s hx hs => ?_) (fun s hs => ?_)
    · obtain ⟨_, rfl⟩ := hs
      obtain ⟨rfl, hi⟩ := rng_get' hx
      simp only [Ws.bind, Ws.pure, Ws.req, Ws.opt, Ws.any, Ws.nox, Ws.never, Ws.iteT, Ws.iteF, Wt.run_andThen, Wt.run_fin, Wt.run_finI, Bool.not_true, Bool.not_false, Bool.false_eq_true, ↓reduceIte, Option.isSome_some, Option.isNone_some, decide_eq_true_eq, decide_not, Bool.not_eq_true, ite_true, ite_false, Bool.not_not]
      refine m_bits (by omega) (m_word_holds hn2 d hrest btn_len btn_01 ?_)
      simp only [Ws.bind, Ws.pure, Ws.req, Ws.opt, Ws.any, Ws.nox, Ws.never, Ws.iteT, Ws.iteF, Wt.run_andThen, Wt.run_fin, Wt.run_finI, Bool.not_true, Bool.not_false, Bool.false_eq_true, ↓reduceIte, Option.isSome_some, Option.isNone_some, decide_eq_true_eq, decide_not, Bool.not_eq_true, ite_true, ite_false, Bool.not_not]
      refine m_data_word hn2 d hrest btn_len btn_01 ⟨by rw [List.length_map, List.length_range]; omega, by omega, ?_⟩
      rw [List.range_succ, List.map_append]
      rfl
    · obtain ⟨_, rfl⟩ := hs
      rw [rng_len]
      have e : (((2 ^ (fr n m wr).length : Nat) : Int) - 0).toNat = 2 ^ (fr n m wr).length := by omega
      rw [e]
      simp only [Ws.bind, Ws.pure, Ws.req, Ws.opt, Ws.any, Ws.nox, Ws.never, Ws.iteT, Ws.iteF, Wt.run_andThen, Wt.run_fin, Wt.run_finI, Bool.not_true, Bool.not_false, Bool.false_eq_true, ↓reduceIte, Option.isSome_some, Option.isNone_some, decide_eq_true_eq, decide_not, Bool.not_eq_true, ite_true, ite_false, Bool.not_not, List.length_map, List.length_range]
      refine ⟨by omega, ?_⟩
      rintro v ⟨l, h1, h2, rfl⟩
      refine m_law_power ⟨by omega, by omega⟩ ?_
      rw [ef, pow2_nat]
      have hnd : ((List.range (2 ^ (fr n m wr).length)).map fun x => dw n m wr rest (btn x (fr n m wr).length)).Nodup := by
        refine List.pairwise_map.mpr ?_
        refine List.Pairwise.imp_of_mem (fun {a b} ha hb hab z => hab ?_) List.nodup_range
        exact btn_inj (List.mem_range.mp ha) (List.mem_range.mp hb) (dw_inj hn.1 d btn_len btn_len z)
      have l1 := sub_len h1 fun x hx => (h2 x).mp hx
      have l2 := sub_len hnd fun x hx => (h2 x).mpr hx
      rw [List.length_map, List.length_range] at l1 l2
      have e3 : ((l.length : Int) = ((2 ^ (fr n m wr).length : Nat) : Int)) := by omega
      simp only [e3, decide_true, Ws.bind, Ws.pure, Ws.req, Ws.opt, Ws.any, Ws.nox, Ws.never, Ws.iteT, Ws.iteF, Wt.run_andThen, Wt.run_fin, Wt.run_finI, Bool.not_true, Bool.not_false, Bool.false_eq_true, ↓reduceIte, Option.isSome_some, Option.isNone_some, decide_eq_true_eq, decide_not, Bool.not_eq_true, ite_true, ite_false, Bool.not_not]
  · simp only [Ws.bind, Ws.pure, Ws.req, Ws.opt, Ws.any, Ws.nox, Ws.never, Ws.iteT, Ws.iteF, Wt.run_andThen, Wt.run_fin, Wt.run_finI, Bool.not_true, Bool.not_false, Bool.false_eq_true, ↓reduceIte, Option.isSome_some, Option.isNone_some, decide_eq_true_eq, decide_not, Bool.not_eq_true, ite_true, ite_false, Bool.not_not]
    exact q
/-! ### the law -/
theorem dbl_of {n : Nat} (h : 1 ≤ n ∧ n ≤ 200) : ∃ m, Dbl n m := by
  obtain ⟨m, h1, h2, h3, h4⟩ := log_facts (L := (n : Int)) ⟨by omega, by omega⟩
  exact ⟨m, h1, h2, h3, h4⟩
def bg (x : Nat) : Int → Int := fun p => ((x / 2 ^ (p - 1).toNat % 2 : Nat) : Int)
theorem btn_Wd {x n : Nat} : btn x n = Wd n (bg x) := by
  unfold btn Wd
  refine List.map_congr_left fun k _ => ?_
  show _ = ((x / 2 ^ (((k : Int) + 1 - 1).toNat) % 2 : Nat) : Int)
  have e : ((k : Int) + 1 - 1).toNat = k := by omega
  rw [e]
theorem bg_01 {x : Nat} (p : Int) : 0 ≤ bg x p ∧ bg x p ≤ 1 := by
  unfold bg
  omega
theorem pow_abs {k : Nat} (h : k ≤ 3000) : ((2 : Int) ^ k).natAbs < 2 ^ 4000 := pow2_small h
theorem math0 (ns : List Int) (h : ns.length ≤ 63) {Q : Bool → Prop} (q : Q true) : (v_law (ns, ())).run E Q := by
  have hz := sizeLine_big
  simp (config := { iota := false }) only [v_law, w_law, Ws.bind, Ws.pure, Ws.req, Ws.opt, Ws.any, Ws.nox, Ws.never, Ws.iteT, Ws.iteF, Ws.andThen, Ws.fin, Ws.kont_ret, Ws.kont_nxt, Ws.kont_brk, Ws.kont_cnt, Ws.kfin_ret, Ws.kfin_none, Ws.kfin_some, Ws.kfor_ret, Ws.kfor_nxt, Ws.kfor_cnt, Ws.kfor_brk, Bool.not_true, Bool.not_false, Bool.false_eq_true, ↓reduceIte, Option.isSome_some, Option.isNone_some, decide_eq_true_eq, decide_not, Bool.not_eq_true, ite_true, ite_false, Bool.not_not]
  refine m_hand h fun xs hxs => ⟨hxs, ?_⟩
  refine m_take ⟨by decide, small_of (by decide)⟩ fun v0 _ _ => ?_
  refine run_mono (P := fun M => 1 ≤ M ∧ M ≤ (200 : Int)) ?_ (fun M hM => ?_)
  · rw [Wt.run_ite]
    split <;> simp (config := { iota := false }) only [Ws.bind, Ws.pure, Ws.req, Ws.opt, Ws.any, Ws.nox, Ws.never, Ws.iteT, Ws.iteF, Ws.andThen, Ws.fin, Ws.kont_ret, Ws.kont_nxt, Ws.kont_brk, Ws.kont_cnt, Ws.kfin_ret, Ws.kfin_none, Ws.kfin_some, Ws.kfor_ret, Ws.kfor_nxt, Ws.kfor_cnt, Ws.kfor_brk, Bool.not_true, Bool.not_false, Bool.false_eq_true, ↓reduceIte, Option.isSome_some, Option.isNone_some, decide_eq_true_eq, decide_not, Bool.not_eq_true, ite_true, ite_false, Bool.not_not] <;> omega
  refine m_take ⟨hM.1, small_of ⟨by omega, by omega⟩⟩ fun v1 w1 w2 => ?_
  obtain ⟨n, hn⟩ : ∃ n : Nat, 1 + v1 = (n : Int) := ⟨(1 + v1).toNat, by omega⟩
  rw [hn]
  have hn1 : 1 ≤ n ∧ n ≤ 200 := by omega
  obtain ⟨m, d⟩ := dbl_of hn1
  have hL : 1 ≤ (n : Int) ∧ (n : Int) ≤ 200 := by omega
  have hfl : ∀ wr, (fr n m wr).length ≤ n := fun wr => by have := fr_len (L := n) (m := m) (wr := wr); omega
  refine Ws.for_inv [false, true] _ (fun i s => True) True.intro (fun i wr s hx hs => ?_) (fun s hs => ?_)
  · have hf := hfl wr
    have ef : (((fr n m wr).length : Int)).toNat = (fr n m wr).length := by omega
    simp (config := { iota := false }) only [Ws.bind, Ws.pure, Ws.req, Ws.opt, Ws.any, Ws.nox, Ws.never, Ws.iteT, Ws.iteF, Ws.andThen, Ws.fin, Ws.kont_ret, Ws.kont_nxt, Ws.kont_brk, Ws.kont_cnt, Ws.kfin_ret, Ws.kfin_none, Ws.kfin_some, Ws.kfor_ret, Ws.kfor_nxt, Ws.kfor_cnt, Ws.kfor_brk, Bool.not_true, Bool.not_false, Bool.false_eq_true, ↓reduceIte, Option.isSome_some, Option.isNone_some, decide_eq_true_eq, decide_not, Bool.not_eq_true, ite_true, ite_false, Bool.not_not]
    refine m_law_free hL d (m_law_power ⟨by omega, by omega⟩ ?_)
    rw [ef]
    refine m_take ⟨by have := pow2_pos (fr n m wr).length; omega, pow_abs (by omega)⟩ fun v2 w3 w4 => ?_
    obtain ⟨x, rfl⟩ : ∃ x : Nat, v2 = (x : Int) := ⟨v2.toNat, by omega⟩
    refine m_bits (by omega) ?_
    refine run_mono (P := fun M => M = md n wr) ?_ (fun M hM => ?_)
    · unfold md
      cases wr <;> simp only [Wt.run_bind, Wt.run_pure, Wt.run_req, Wt.run_opt, Wt.run_any, Wt.run_nox, Wt.run_never, Wt.run_ite_t, Wt.run_ite_f, Wt.run_andThen, Wt.run_fin, Wt.run_finI, Bool.not_true, Bool.not_false, Bool.false_eq_true, ↓reduceIte, Option.isSome_some, Option.isNone_some, decide_eq_true_eq, decide_not, Bool.not_eq_true, ite_true, ite_false, Bool.not_not, Wt.run_ite]
      exact ⟨cmul_small (by decide) (by omega), by trivial⟩
    subst hM
    have hmp := md_pos (wr := wr) hn1.1
    have hmd : md n wr < 2 ^ 62 := by unfold md; cases wr <;> simp only [Bool.false_eq_true, ↓reduceIte] <;> omega
    refine m_take ⟨by omega, small_of ⟨by omega, by omega⟩⟩ fun rest w5 w6 => ?_
    refine m_free_places hL d (m_exact_T (by omega) ?_)
    simp (config := { iota := false }) only [Ws.bind, Ws.pure, Ws.req, Ws.opt, Ws.any, Ws.nox, Ws.never, Ws.iteT, Ws.iteF, Ws.andThen, Ws.fin, Ws.kont_ret, Ws.kont_nxt, Ws.kont_brk, Ws.kont_cnt, Ws.kfin_ret, Ws.kfin_none, Ws.kfin_some, Ws.kfor_ret, Ws.kfor_nxt, Ws.kfor_cnt, Ws.kfor_brk, Bool.not_true, Bool.not_false, Bool.false_eq_true, ↓reduceIte, Option.isSome_some, Option.isNone_some, decide_eq_true_eq, decide_not, Bool.not_eq_true, ite_true, ite_false, Bool.not_not]
    refine m_word_holds hn1 d ⟨w5, w6⟩ btn_len btn_01 ?_
    simp (config := { iota := false }) only [Ws.bind, Ws.pure, Ws.req, Ws.opt, Ws.any, Ws.nox, Ws.never, Ws.iteT, Ws.iteF, Ws.andThen, Ws.fin, Ws.kont_ret, Ws.kont_nxt, Ws.kont_brk, Ws.kont_cnt, Ws.kfin_ret, Ws.kfin_none, Ws.kfin_some, Ws.kfor_ret, Ws.kfor_nxt, Ws.kfor_cnt, Ws.kfor_brk, Bool.not_true, Bool.not_false, Bool.false_eq_true, ↓reduceIte, Option.isSome_some, Option.isNone_some, decide_eq_true_eq, decide_not, Bool.not_eq_true, ite_true, ite_false, Bool.not_not]
    refine m_law_power ⟨by omega, by omega⟩ ?_
    have en : ((n : Int)).toNat = n := by omega
    rw [en]
    refine m_take ⟨by have := pow2_pos n; omega, pow_abs (by omega)⟩ fun v3 w7 w8 => ?_
    obtain ⟨y, rfl⟩ : ∃ y : Nat, v3 = (y : Int) := ⟨v3.toNat, by omega⟩
    refine m_bits (by omega) ?_
    rw [btn_Wd]
    refine m_data_of hn1 d bg_01 ⟨by omega, Wt.lc_map (bg y) _ (fun p hp => ?_) ?_⟩
    · simp only [Wt.run_bind, Wt.run_pure, Wt.run_req, Wt.run_opt, Wt.run_any, Wt.run_nox, Wt.run_never, Wt.run_ite_t, Wt.run_ite_f, Wt.run_andThen, Wt.run_fin, Wt.run_finI, Bool.not_true, Bool.not_false, Bool.false_eq_true, ↓reduceIte, Option.isSome_some, Option.isNone_some, decide_eq_true_eq, decide_not, Bool.not_eq_true, ite_true, ite_false, Bool.not_not, Wt.run_ite]
      exact ⟨_, Wd_at (mem_fr.mp hp).1, rfl⟩
    · refine m_exact_T (by rw [List.length_map]; omega) ?_
      simp (config := { iota := false }) only [Ws.bind, Ws.pure, Ws.req, Ws.opt, Ws.any, Ws.nox, Ws.never, Ws.iteT, Ws.iteF, Ws.andThen, Ws.fin, Ws.kont_ret, Ws.kont_nxt, Ws.kont_brk, Ws.kont_cnt, Ws.kfin_ret, Ws.kfin_none, Ws.kfin_some, Ws.kfor_ret, Ws.kfor_nxt, Ws.kfor_cnt, Ws.kfor_brk, Bool.not_true, Bool.not_false, Bool.false_eq_true, ↓reduceIte, Option.isSome_some, Option.isNone_some, decide_eq_true_eq, decide_not, Bool.not_eq_true, ite_true, ite_false, Bool.not_not]
  · simp (config := { iota := false }) only [Ws.bind, Ws.pure, Ws.req, Ws.opt, Ws.any, Ws.nox, Ws.never, Ws.iteT, Ws.iteF, Ws.andThen, Ws.fin, Ws.kont_ret, Ws.kont_nxt, Ws.kont_brk, Ws.kont_cnt, Ws.kfin_ret, Ws.kfin_none, Ws.kfin_some, Ws.kfor_ret, Ws.kfor_nxt, Ws.kfor_cnt, Ws.kfor_brk, Bool.not_true, Bool.not_false, Bool.false_eq_true, ↓reduceIte, Option.isSome_some, Option.isNone_some, decide_eq_true_eq, decide_not, Bool.not_eq_true, ite_true, ite_false, Bool.not_not]
    refine m_free_places hL d (m_law_free hL d (m_exact_T (by have := hfl false; omega) ?_))
    simp (config := { iota := false }) only [Ws.bind, Ws.pure, Ws.req, Ws.opt, Ws.any, Ws.nox, Ws.never, Ws.iteT, Ws.iteF, Ws.andThen, Ws.fin, Ws.kont_ret, Ws.kont_nxt, Ws.kont_brk, Ws.kont_cnt, Ws.kfin_ret, Ws.kfin_none, Ws.kfin_some, Ws.kfor_ret, Ws.kfor_nxt, Ws.kfor_cnt, Ws.kfor_brk, Bool.not_true, Bool.not_false, Bool.false_eq_true, ↓reduceIte, Option.isSome_some, Option.isNone_some, decide_eq_true_eq, decide_not, Bool.not_eq_true, ite_true, ite_false, Bool.not_not]
    refine m_take ⟨by decide, small_of (by decide)⟩ fun v4 w9 w10 => ?_
    obtain ⟨k, hk⟩ : ∃ k : Nat, 1 + v4 = (k : Int) := ⟨(1 + v4).toNat, by omega⟩
    rw [hk]
    obtain ⟨m2, d2⟩ := dbl_of (n := k) (by omega)
    refine m_all_hold (by omega) d2 ?_
    simp (config := { iota := false }) only [Ws.bind, Ws.pure, Ws.req, Ws.opt, Ws.any, Ws.nox, Ws.never, Ws.iteT, Ws.iteF, Ws.andThen, Ws.fin, Ws.kont_ret, Ws.kont_nxt, Ws.kont_brk, Ws.kont_cnt, Ws.kfin_ret, Ws.kfin_none, Ws.kfin_some, Ws.kfor_ret, Ws.kfor_nxt, Ws.kfor_cnt, Ws.kfor_brk, Bool.not_true, Bool.not_false, Bool.false_eq_true, ↓reduceIte, Option.isSome_some, Option.isNone_some, decide_eq_true_eq, decide_not, Bool.not_eq_true, ite_true, ite_false, Bool.not_not]
    exact m_all_hold (by omega) d2 q
theorem math (ns : List Int) (h : ns.length ≤ 63) : (v_law (ns, ())).run (fun _ => False) (fun b => b = true) := math0 ns h rfl
end K32
end T9
namespace T9
namespace K32
open L2 PyProof.Rows PySem.Spec PySem
abbrev R : PySem.W.OpenRow := PySem.W.OpenLaw.row PySem.Challenge.rw_lostplaces_k32_whole_data_in_every_rest
abbrev hk : PySem.W.Hook := He.hookD 6 fa fn
def ob (s : PySem.W.SharedT) : He.AlD := He.obsDG 6 fa fn (HandSHeadRun.getT s)
theorem ob_eq (s : PySem.W.SharedT) : ob s = hk.obs s.abs := He.obsDG_eq (HandSHeadRun.getT_eq s)
def names0 : List PySem.Str := ["_wall", "__name__", "PlaceError", "BadNumber", "BadWord", "BadModulus", "BadRest", "BadBits", "is_whole", "check_number", "power_of", "check_word", "MOST_LENGTH_datas", "doubling_places", "free_places", "check_bits", "data_word", "data_of", "MOST_LENGTH_sums", "MOST_MODULUS", "sum_places", "place_sum", "check_modulus", "check_rest", "SumBook", "MOST_DIVIDED", "divisors_of", "prime_powers", "phi_of", "mu_of"]
def names1 : List PySem.Str := ["common_divisor", "ram_of", "MOST_SIZED", "check_sized", "size_of", "MOST_LENGTH_wrongs", "MOST_READ", "WrongBook", "_law_hand", "_law_mixed", "_law_take", "_law_power", "_law_sum", "_law_exact", "_law_either", "_law_doubling", "_law_free", "_law_data", "_law_bits", "_law_word_holds", "_law_all_hold"]
def names : List PySem.Str := names0 ++ names1
theorem run (w : World) : HandSHeadRun.RunEq R (PySem.W.view R.prog [58]) hk ob 4000 names w := by
  intro os
  kernel_rfl
end K32
end T9
namespace T9
namespace K32
open L2 PyProof.Rows PySem.Spec PySem
theorem walkW {l : PySem.W.OpenLaw} {n k : Nat} {q : Program} {loose : List Str} {XP : (Str → Option Value) → Heap → Prop} {YP : World → Heap → Prop} {d : DefRec} {CZ : World → CXT} {x : Str}
    (most : l.most = some n) (few : n ≤ sizeLine) (nodf : d.params.defaults = []) (room : Room k callerA)
    (each : ∀ (w : World) (mg : Str → Option Value) (fa : Addr) (h : Heap), YP w h → h.Ns mainGlobals mg → mg d.name = some (.ref fa) →
      ∃ (K : PySem.W.Frag) (fd : FuncData) (sp : L2.Sp), K.In h ∧ (∀ (s : Shared) (u : Value), BindsTo s fd ⟨[u], []⟩ [(x, u)]) ∧
        (∀ (H : Hp) (a : Addr) (ns : List Int), ns.length ≤ n → SqL K H a (ns.map V.int) → sp [.ref a] H (fun v _ => v = .bl true) fun _ _ _ => False) ∧
        ∀ base : Heap, K.In base → base.Ns mainGlobals mg → FnOk l.prog w K mg base (CZ w) k fa fd [x] sp)
    (air : ∀ (w : World) (H : Hp) (s : Shared) (e : Value) (s' : Shared), CZ w [] H s (fun _ _ _ => False) e s' → False) :
    PySem.W.WalkO q loose XP YP l.row.toRowW d [] (fun f vs => PySem.call f vs) := by
  refine Att.attach_call most nodf fun w t0 t1 mg mb fa ob pm cd doc a vs ns G Y g1 g2 g3 g4 g5 g6 g7 g8 => ?_
  obtain ⟨K, fd, sp, KX, c1, c2, c3⟩ := each w mg fa _ Y G.T.g g4
  exact law_call KX G.T.g G.T.b G.T.builtins G.T.nolimit g8 g5 g6 (Nat.le_trans g7 few) room c3 c1 (fun H _ hS => c2 H a ns g7 hS) fun H e s' => air w H t1 e s'
theorem facts {P : Program} {w : World} {K : PySem.W.Frag} {h : Heap} {mg : Str → Option Value} {f : Addr} (X : K.In h) (G : h.Ns mainGlobals mg) (hfa : mg ("law" : Str) = some (.ref f)) (c : He.SaysD fa fn K) :
    ∃ fd : FuncData, (∀ (s : Shared) (v : Value), BindsTo s fd ⟨[v], []⟩ [("_law_script", v)]) ∧ ∀ base : Heap, K.In base → base.Ns mainGlobals mg → FnOk P w K mg base (CX P w) 10 f fd ["_law_script"] (spF K mg (aC yScript aN) (rkT yB) v_law) := by
  obtain ⟨T⟩ := prg X G c
  have e := hfa.symm.trans T.m_law
  cases e
  have b := FunD.bindsA (ps := ["_law_script"]) T.F_law fun _ _ _ _ _ _ us hl => match us, hl with | [_], _ => rfl
  exact ⟨T.fd_law, fun s v => b s [v] rfl, fun base _ _ => ok_law T⟩
end K32
end T9
open PySem PySem.W PySem.Calls PyProof.Rows
theorem PySem.Challenge.cw_lostplaces_k32_whole_data_in_every_rest_holds : PySem.Challenge.rw_lostplaces_k32_whole_data_in_every_rest.Holds := by
  w_on; o_law
  refine HandSHeadRun.head_any (r := OpenLaw.row PySem.Challenge.rw_lostplaces_k32_whole_data_in_every_rest) (q := view (OpenLaw.row PySem.Challenge.rw_lostplaces_k32_whole_data_in_every_rest).prog [58]) (H := T9.K32.hk) (ob := T9.K32.ob) (M := 4000) (loose := T9.K32.names) (d := HandSHeadRun.topDef (OpenLaw.row PySem.Challenge.rw_lostplaces_k32_whole_data_in_every_rest).prog 58) (kwd := []) T9.K32.ob_eq
    (by kernel_rfl) (fun s => by kernel_rfl) T9.K32.run (by kernel_rfl) (by kernel_rfl) (by kernel_rfl) (by rfl) (by first | assumption | decide +kernel) (by decide +kernel) ⟨rfl, rfl, rfl, rfl, rfl, by decide +kernel⟩ ?hw ?hc
  case hw => w_witness2
  case hc =>
    refine T9.K32.walkW (l := PySem.Challenge.rw_lostplaces_k32_whole_data_in_every_rest) (n := 63) (k := 10) (x := "_law_script") (CZ := fun w => L2.CX (PySem.Challenge.rw_lostplaces_k32_whole_data_in_every_rest).prog w) rfl (by decide) (by kernel_rfl) ⟨rfl, by decide, by decide⟩ ?each (fun w H s e s' z => by obtain ⟨_, _, _, _, _, _, _, _, _, _, _, _, h⟩ := z; exact h)
    intro w mg fa h Y G g0
    obtain ⟨K, KX, c⟩ := Y
    have g1 : mg ("law" : PySem.Str) = some (.ref fa) := by
      have e : (HandSHeadRun.topDef (OpenLaw.row PySem.Challenge.rw_lostplaces_k32_whole_data_in_every_rest).prog 58).name = ("law" : PySem.Str) := by kernel_rfl
      rw [← e]
      exact g0
    obtain ⟨fd, hb, hF⟩ := T9.K32.facts (P := (PySem.Challenge.rw_lostplaces_k32_whole_data_in_every_rest).prog) (w := w) KX G g1 c
    refine ⟨K, fd, _, KX, hb, fun H a ns hl hS => ?_, hF⟩
    exact ⟨H, (ns, ()), fun _ _ z => z, ⟨_, [], rfl, ⟨a, rfl, hS⟩, rfl⟩, (T9.K32.v_law (ns, ())).mono (fun _ z => z.elim) (fun y e v S' H' _ (r : v = L2.V.bl y) => by rw [r, e]) (T9.K32.math ns hl)⟩
