import PyProof.Rows.All
import Wide.All
import OpenK.AllK
import Wide.FinOn
import HandS.ForMost
import HandS.ForExc
import HandS.More
import HandS.DictComp
import HandS.IsInst
import HandS.ExcInit
import HandS.TryMany
import KE.KEqNest
import HandS.NoneIn
import HandS.TupAny
import HandS.Style
import HandS.SortInts
import HandS.Small
import HandS.ExcOwn
import HandS.ExcField
import HandS.Zip
import KE.KDictZip
import KE.KItemsList
import HandS.ListItems
import HandS.ExcIs
import KE.RegKIsAll
import PySem.Challenge.RW_freerealm_k42_even_turnings_and_arrows_o
set_option Elab.async false
set_option linter.all false
set_option maxRecDepth 100000
set_option maxHeartbeats 4000000
/-! Vm1: data, what holds of a heap, mirrors, simulations. -/
namespace Vm
open PySem L2

/-! ### a truth that is not reckoned out -/
noncomputable def shut (b : Bool) : Bool := Classical.choose (⟨b, rfl⟩ : ∃ c : Bool, c = b)
theorem shut_eq (b : Bool) : shut b = b := Classical.choose_spec (⟨b, rfl⟩ : ∃ c : Bool, c = b)
/-! ### data -/
inductive D where
  | non | bl (b : Bool) | int (i : Int) | str (s : Str)
  | lst (xs : List D) | tup (xs : List D)
  | dct (kvs : List (Key × D))
  | obj (c : Str) (fs : List (Str × D))
  | scr (ns : List Int)
instance : Inhabited D := ⟨.non⟩

/-- an exception that was caught: its name's slot, where it and its dict stand, its class, its fields -/
structure ExcP where
  i : Nat
  a : Addr
  d : Addr
  c : Str
  fs : List (Str × D)
/-- what stands fast through a law: where each class stands, the written part, the lists handed in -/
structure Par where
  z : Str → Addr
  K : PySem.W.Frag
  s : Addr → List Int → Prop
  e : Option ExcP

/-! ### a datum and its value -/
section
variable (Z : Par) (F : Hp)
mutual
inductive Rp : D → V → Prop
  | non : Rp .non .non
  | bl (b : Bool) : Rp (.bl b) (.bl b)
  | int (i : Int) : Rp (.int i) (.int i)
  | str (s : Str) : Rp (.str s) (.str s)
  | lst {a : Addr} {vs : List V} {ds : List D} : F a = some (.lst vs) → RpL ds vs → Rp (.lst ds) (.ref a)
  | tup {a : Addr} {vs : List V} {ds : List D} : F a = some (.tup vs) → RpL ds vs → Rp (.tup ds) (.ref a)
  | dct {a : Addr} {kvs : List (Key × V)} {ds : List (Key × D)} : F a = some (.dK kvs) → RpK ds kvs → Rp (.dct ds) (.ref a)
  | obj {a dx : Addr} {c : Str} {fs : List (Str × V)} {ds : List (Str × D)} : F a = some (.ins (Z.z c) dx fs) → RpS ds fs → Rp (.obj c ds) (.ref a)
  | scr {a : Addr} {ns : List Int} : Z.s a ns → Rp (.scr ns) (.ref a)
inductive RpL : List D → List V → Prop
  | nil : RpL [] []
  | cons {d : D} {ds : List D} {v : V} {vs : List V} : Rp d v → RpL ds vs → RpL (d :: ds) (v :: vs)
inductive RpK : List (Key × D) → List (Key × V) → Prop
  | nil : RpK [] []
  | cons {k : Key} {d : D} {ds : List (Key × D)} {v : V} {vs : List (Key × V)} : Rp d v → RpK ds vs → RpK ((k, d) :: ds) ((k, v) :: vs)
inductive RpS : List (Str × D) → List (Str × V) → Prop
  | nil : RpS [] []
  | cons {k : Str} {d : D} {ds : List (Str × D)} {v : V} {vs : List (Str × V)} : Rp d v → RpS ds vs → RpS ((k, d) :: ds) ((k, v) :: vs)
end
end

section
variable {Z : Par} {F F' : Hp}
mutual
theorem Rp.mono (e : Same F F') : ∀ {d : D} {v : V}, Rp Z F d v → Rp Z F' d v
  | _, _, .non => .non
  | _, _, .bl b => .bl b
  | _, _, .int i => .int i
  | _, _, .str s => .str s
  | _, _, .lst h r => .lst (e _ _ h) (RpL.mono e r)
  | _, _, .tup h r => .tup (e _ _ h) (RpL.mono e r)
  | _, _, .dct h r => .dct (e _ _ h) (RpK.mono e r)
  | _, _, .obj h r => .obj (e _ _ h) (RpS.mono e r)
  | _, _, .scr h => .scr h
theorem RpL.mono (e : Same F F') : ∀ {d : List D} {v : List V}, RpL Z F d v → RpL Z F' d v
  | _, _, .nil => .nil
  | _, _, .cons h r => .cons (Rp.mono e h) (RpL.mono e r)
theorem RpK.mono (e : Same F F') : ∀ {d : List (Key × D)} {v : List (Key × V)}, RpK Z F d v → RpK Z F' d v
  | _, _, .nil => .nil
  | _, _, .cons h r => .cons (Rp.mono e h) (RpK.mono e r)
theorem RpS.mono (e : Same F F') : ∀ {d : List (Str × D)} {v : List (Str × V)}, RpS Z F d v → RpS Z F' d v
  | _, _, .nil => .nil
  | _, _, .cons h r => .cons (Rp.mono e h) (RpS.mono e r)
end
theorem RpL.length {ds : List D} {vs : List V} (h : RpL Z F ds vs) : ds.length = vs.length := by
  induction ds generalizing vs with
  | nil => cases h; rfl
  | cons d ds ih => cases h with | cons h r => rw [List.length_cons, List.length_cons, ih r]
theorem RpL.get {ds : List D} {vs : List V} (h : RpL Z F ds vs) : ∀ {i : Nat} {d : D}, ds[i]? = some d → ∃ v, vs[i]? = some v ∧ Rp Z F d v := by
  induction ds generalizing vs with
  | nil => intro i d e; simp at e
  | cons d ds ih =>
    cases h with
    | cons h r =>
      intro i e he
      cases i with
      | zero => simp at he; subst he; exact ⟨_, by simp, h⟩
      | succ i => simp at he; obtain ⟨v, h1, h2⟩ := ih r he; exact ⟨v, by simpa using h1, h2⟩
theorem RpL.getV {ds : List D} {vs : List V} (h : RpL Z F ds vs) : ∀ {i : Nat} {v : V}, vs[i]? = some v → ∃ d, ds[i]? = some d ∧ Rp Z F d v := by
  induction ds generalizing vs with
  | nil => cases h; intro i d e; simp at e
  | cons d ds ih =>
    cases h with
    | cons h r =>
      intro i e he
      cases i with
      | zero => simp at he; subst he; exact ⟨_, by simp, h⟩
      | succ i => simp at he; obtain ⟨v, h1, h2⟩ := ih r he; exact ⟨v, by simpa using h1, h2⟩
theorem RpL.append {ds es : List D} {vs ws : List V} (h : RpL Z F ds vs) (g : RpL Z F es ws) : RpL Z F (ds ++ es) (vs ++ ws) := by
  induction ds generalizing vs with
  | nil => cases h; exact g
  | cons d ds ih => cases h with | cons h r => exact .cons h (ih r)
theorem RpL.take {ds : List D} {vs : List V} (h : RpL Z F ds vs) (n : Nat) : RpL Z F (ds.take n) (vs.take n) := by
  induction ds generalizing vs n with
  | nil => cases h; simp; exact .nil
  | cons d ds ih => cases h with | cons h r => cases n with | zero => exact .nil | succ n => exact .cons h (ih r n)
theorem RpL.drop {ds : List D} {vs : List V} (h : RpL Z F ds vs) (n : Nat) : RpL Z F (ds.drop n) (vs.drop n) := by
  induction ds generalizing vs n with
  | nil => cases h; simp; exact .nil
  | cons d ds ih => cases h with | cons h r => cases n with | zero => exact .cons h r | succ n => exact ih r n
theorem RpL.one {d : D} {v : V} (h : Rp Z F d v) : RpL Z F [d] [v] := .cons h .nil
theorem RpL.set {ds : List D} {vs : List V} (h : RpL Z F ds vs) {d : D} {v : V} (r : Rp Z F d v) (n : Nat) : RpL Z F (ds.set n d) (vs.set n v) := by
  induction ds generalizing vs n with
  | nil => cases h; exact .nil
  | cons d' ds ih => cases h with | cons h r' => cases n with | zero => exact .cons r r' | succ n => exact .cons h (ih r' n)
theorem RpL.reverse {ds : List D} {vs : List V} (h : RpL Z F ds vs) : RpL Z F ds.reverse vs.reverse := by
  induction ds generalizing vs with
  | nil => cases h; exact .nil
  | cons d ds ih =>
    cases h with
    | cons h r =>
      rw [List.reverse_cons, List.reverse_cons]
      exact (ih r).append (.one h)
theorem RpL.eraseIdx {ds : List D} {vs : List V} (h : RpL Z F ds vs) (n : Nat) : RpL Z F (ds.eraseIdx n) (vs.eraseIdx n) := by
  induction ds generalizing vs n with
  | nil => cases h; exact .nil
  | cons d' ds ih => cases h with | cons h r' => cases n with | zero => exact r' | succ n => exact .cons h (ih r' n)
end

/-! ### the slots -/
abbrev Rho := List (Option D)
/-- the status of slots: not listed: frozen data; true: an object of one's own; false: one's own, not changed for now -/
abbrev Os := List (Nat × Bool)

def Own (Z : Par) (F H : Hp) (b : Bool) (l : Addr) : D → Prop
  | .lst ds => ∃ vs, H l = some (.lst vs) ∧ RpL Z F ds vs
  | .dct ds => ∃ kvs, (H l = some (.dK kvs) ∨ (b = false ∧ ∃ ob, H l = some (.frz ob (.dK kvs)))) ∧ RpK Z F ds kvs
  | .obj c ds => ∃ dx fs, H l = some (.ins (Z.z c) dx fs) ∧ RpS Z F ds fs
  | _ => False
/-- the frozen part is within the heap; only dicts may be locked -/
structure Hk (Z : Par) (F H : Hp) : Prop where
  le : ∀ a o, F a = some o → H a = some o ∨ ∃ ob kvs, o = .dK kvs ∧ H a = some (.frz ob (.dK kvs))
  sc : ∀ a ns, Z.s a ns → SqL Z.K F a (ns.map V.int)
theorem Hk.scH {Z : Par} {F H : Hp} (k : Hk Z F H) {a : Addr} {ns : List Int} (h : Z.s a ns) : SqL Z.K H a (ns.map V.int) := by
  rcases k.sc a ns h with (h | ⟨o, h⟩) | h
  · rcases k.le a _ h with q | ⟨_, _, e, _⟩
    · exact .inl (.inl q)
    · cases e
  · rcases k.le a _ h with q | ⟨_, _, e, _⟩
    · exact .inl (.inr ⟨o, q⟩)
    · cases e
  · exact .inr h
theorem Hk.none {Z : Par} {F H : Hp} (k : Hk Z F H) {p : Addr} (hp : H p = none) : F p = none := by
  cases e : F p with
  | none => rfl
  | some u =>
    rcases k.le p u e with h | ⟨_, _, _, h⟩
    · rw [hp] at h; cases h
    · rw [hp] at h; cases h
theorem Hk.lst {Z : Par} {F H : Hp} (k : Hk Z F H) {a : Addr} {xs : List V} (h : F a = some (.lst xs)) : H a = some (.lst xs) := by
  rcases k.le a _ h with h | ⟨_, _, e, _⟩
  · exact h
  · cases e
theorem Hk.tup {Z : Par} {F H : Hp} (k : Hk Z F H) {a : Addr} {xs : List V} (h : F a = some (.tup xs)) : H a = some (.tup xs) := by
  rcases k.le a _ h with h | ⟨_, _, e, _⟩
  · exact h
  · cases e
theorem Hk.ins {Z : Par} {F H : Hp} (k : Hk Z F H) {a C dx : Addr} {xs : List (Str × V)} (h : F a = some (.ins C dx xs)) : H a = some (.ins C dx xs) := by
  rcases k.le a _ h with h | ⟨_, _, e, _⟩
  · exact h
  · cases e
theorem Hk.dK {Z : Par} {F H : Hp} (k : Hk Z F H) {a : Addr} {xs : List (Key × V)} (h : F a = some (.dK xs)) : Rd H a (.dK xs) := by
  rcases k.le a _ h with h | ⟨ob, _, e, h⟩
  · exact .inl h
  · cases e; exact .inr ⟨ob, h⟩
theorem Hk.same {Z : Par} {F H H' : Hp} (k : Hk Z F H) (e : Same H H') : Hk Z F H' :=
  ⟨fun a o h => (k.le a o h).imp (e a o) fun ⟨ob, kvs, q, h⟩ => ⟨ob, kvs, q, e _ _ h⟩, k.sc⟩
theorem Hk.new {Z : Par} {F H : Hp} {p : Addr} {o : HO} (k : Hk Z F H) (hp : H p = Option.none) : Hk Z (upd F p o) (upd H p o) := by
  have s : Same H (upd H p o) := fun a u e => by rw [upd_ne (ne_of_none e hp)]; exact e
  have s2 : Same F (upd F p o) := fun a u e => by rw [upd_ne (ne_of_none e (k.none hp))]; exact e
  refine ⟨fun a u e => ?_, fun a ns h => s2.seq (k.sc a ns h)⟩
  by_cases h : a = p
  · subst h; rw [upd_same] at e ⊢; exact .inl e
  · rw [upd_ne h] at e ⊢; exact k.le a u e
/-- the addresses that may change -/
def Ow (os : Os) (σ : St) (ρ : Rho) (a : Addr) : Prop := ∃ i, os.lookup i = some true ∧ (∃ d, ρ[i]? = some (some d)) ∧ σ[i]? = some (some (.ref a))

/-- all of one's own addresses, changing or not -/
def Oa (os : Os) (σ : St) (ρ : Rho) (a : Addr) : Prop := ∃ i b, os.lookup i = some b ∧ (∃ d, ρ[i]? = some (some d)) ∧ σ[i]? = some (some (.ref a))
theorem Ow.oa {os : Os} {σ : St} {ρ : Rho} {a : Addr} (h : Ow os σ ρ a) : Oa os σ ρ a := let ⟨i, h1, h2, h3⟩ := h; ⟨i, true, h1, h2, h3⟩

/-- the caught exception stands at its slot -/
def ExR (Z : Par) (os : Os) (F : Hp) (σ : St) : Prop := ∀ x, Z.e = some x → os.lookup x.i = some false ∧ σ[x.i]? = some (some (.ref x.a)) ∧ (x.fs ≠ [] → ∃ vs, F x.d = some (.xd vs) ∧ RpS Z F x.fs vs)
theorem ExR.to {Z : Par} {os os' : Os} {F F' : Hp} {σ σ' : St} (h : ExR Z os F σ) (f : Same F F') (ho : ∀ i, os.lookup i = some false → os'.lookup i = some false) (hs : ∀ i, os.lookup i = some false → σ'[i]? = σ[i]?) : ExR Z os' F' σ' := fun x e =>
  let ⟨h1, h2, h3⟩ := h x e
  ⟨ho _ h1, (hs _ h1).trans h2, fun n => let ⟨vs, q1, q2⟩ := h3 n; ⟨vs, f _ _ q1, q2.mono f⟩⟩
theorem ExR.f {Z : Par} {os : Os} {F F' : Hp} {σ : St} (h : ExR Z os F σ) (f : Same F F') : ExR Z os F' σ := h.to f (fun _ h => h) fun _ _ => rfl
structure EnvR (Z : Par) (os : Os) (F H : Hp) (σ : St) (ρ : Rho) : Prop where
  ex : ExR Z os F σ
  hk : Hk Z F H
  len : σ.length = ρ.length
  fz : ∀ i d, ρ[i]? = some (some d) → os.lookup i = none → ∃ v, σ[i]? = some (some v) ∧ Rp Z F d v
  ow : ∀ i d b, ρ[i]? = some (some d) → os.lookup i = some b → ∃ l, σ[i]? = some (some (.ref l)) ∧ F l = none ∧ Own Z F H b l d
  ne : ∀ i j b c l, os.lookup i = some b → os.lookup j = some c → (∃ d, ρ[i]? = some (some d)) → (∃ d, ρ[j]? = some (some d)) → σ[i]? = some (some (.ref l)) → σ[j]? = some (some (.ref l)) → i = j

structure Step (O O' : Addr → Prop) (F H F' H' : Hp) : Prop where
  f : Same F F'
  n : ∀ a o, F' a = some o → F a = some o ∨ H a = none ∨ O a
  k : ∀ a o, H a = some o → ¬ O a → H' a = some o
  w : ∀ a, O' a → O a ∨ H a = none
  d : ∀ a, H' a = none → H a = none
theorem Step.refl {O : Addr → Prop} {F H : Hp} : Step O O F H F H :=
  ⟨Same.refl F, fun _ _ h => .inl h, fun _ _ h _ => h, fun _ h => .inl h, fun _ h => h⟩
theorem Step.trans {O O1 O2 : Addr → Prop} {F H F1 H1 F2 H2 : Hp} (s : Step O O1 F H F1 H1) (t : Step O1 O2 F1 H1 F2 H2) : Step O O2 F H F2 H2 where
  f := s.f.trans t.f
  n := fun a o h => by
    rcases t.n a o h with h | h | h
    · exact s.n a o h
    · exact .inr (.inl (s.d a h))
    · rcases s.w a h with h | h
      · exact .inr (.inr h)
      · exact .inr (.inl h)
  k := fun a o h no => t.k a o (s.k a o h no) fun z => by
    rcases s.w a z with z | z
    · exact no z
    · rw [h] at z; cases z
  w := fun a h => by
    rcases t.w a h with h | h
    · exact s.w a h
    · exact .inr (s.d a h)
  d := fun a h => s.d a (t.d a h)

/-- a step that only makes new things -/
structure PStep (Z : Par) (F H F' H' : Hp) : Prop where
  f : Same F F'
  n : ∀ a o, F' a = some o → F a = some o ∨ H a = none
  h : Same H H'
  hk : Hk Z F' H'
section
variable {Z : Par}
theorem PStep.refl {F H : Hp} (k : Hk Z F H) : PStep Z F H F H := ⟨Same.refl F, fun _ _ h => .inl h, Same.refl H, k⟩
theorem PStep.step {O : Addr → Prop} {F H F' H' : Hp} (p : PStep Z F H F' H') : Step O O F H F' H' :=
  ⟨p.f, fun a o h => (p.n a o h).imp id .inl, fun a o h _ => p.h a o h, fun _ h => .inl h, fun _ h => p.h.free h⟩
theorem PStep.trans {F H F1 H1 F2 H2 : Hp} (p : PStep Z F H F1 H1) (q : PStep Z F1 H1 F2 H2) : PStep Z F H F2 H2 :=
  ⟨p.f.trans q.f, fun a o h => by
    rcases q.n a o h with h | h
    · exact p.n a o h
    · exact .inr (p.h.free h), p.h.trans q.h, q.hk⟩
theorem same_upd {H : Hp} {p : Addr} {o : HO} (hp : H p = none) : Same H (upd H p o) := fun a u e => by rw [upd_ne (ne_of_none e hp)]; exact e
/-- a new thing, frozen at once -/
theorem PStep.new {F H : Hp} {p : Addr} {o : HO} (k : Hk Z F H) (hp : H p = none) : PStep Z F H (upd F p o) (upd H p o) := by
  refine ⟨same_upd (k.none hp), fun a u e => ?_, same_upd hp, k.new hp⟩
  by_cases h : a = p
  · subst h; exact .inr hp
  · rw [upd_ne h] at e; exact .inl e
/-- a new thing, not yet frozen -/
theorem PStep.newH {F H : Hp} {p : Addr} {o : HO} (k : Hk Z F H) (hp : H p = none) : PStep Z F H F (upd H p o) :=
  ⟨Same.refl F, fun a u e => .inl e, same_upd hp, k.same (same_upd hp)⟩
/-- .. where only its own cell is known to be kept -/
theorem Own.keep {F H F' H' : Hp} {b : Bool} {l : Addr} {d : D} (f : Same F F') (h : ∀ o, H l = some o → H' l = some o) (o : Own Z F H b l d) : Own Z F' H' b l d := by
  cases d with
  | lst ds => obtain ⟨vs, h1, h3⟩ := o; exact ⟨vs, h _ h1, h3.mono f⟩
  | dct ds => obtain ⟨vs, h1, h3⟩ := o; exact ⟨vs, h1.imp (h _) fun ⟨e, ob, q⟩ => ⟨e, ob, h _ q⟩, h3.mono f⟩
  | obj c ds => obtain ⟨dx, vs, h1, h3⟩ := o; exact ⟨dx, vs, h _ h1, h3.mono f⟩
  | _ => exact o.elim
theorem Own.mono {F H F' H' : Hp} {b : Bool} {l : Addr} {d : D} (f : Same F F') (h : Same H H') (o : Own Z F H b l d) : Own Z F' H' b l d := o.keep f fun u => h l u
theorem Own.some {F H : Hp} {b : Bool} {l : Addr} {d : D} (o : Own Z F H b l d) : ∃ u, H l = some u := by
  cases d with
  | lst ds => obtain ⟨vs, h1, _⟩ := o; exact ⟨_, h1⟩
  | dct ds =>
    obtain ⟨vs, h1, _⟩ := o
    rcases h1 with h1 | ⟨_, ob, h1⟩
    · exact ⟨_, h1⟩
    · exact ⟨_, h1⟩
  | obj c ds => obtain ⟨dx, vs, h1, _⟩ := o; exact ⟨_, h1⟩
  | _ => exact o.elim
theorem Own.dK {F H : Hp} {b : Bool} {l : Addr} {ds : List (Key × D)} (o : Own Z F H b l (.dct ds)) : ∃ kvs, Rd H l (.dK kvs) ∧ RpK Z F ds kvs := by
  obtain ⟨vs, h1, h2⟩ := o
  rcases h1 with h1 | ⟨_, ob, h1⟩
  · exact ⟨vs, .inl h1, h2⟩
  · exact ⟨vs, .inr ⟨ob, h1⟩, h2⟩
end

theorem EnvR.pstep {Z : Par} {os : Os} {F H F' H' : Hp} {σ : St} {ρ : Rho} (R : EnvR Z os F H σ ρ) (p : PStep Z F H F' H') : EnvR Z os F' H' σ ρ where
  ex := R.ex.f p.f
  hk := p.hk
  len := R.len
  fz := fun i d h n => let ⟨v, h1, h2⟩ := R.fz i d h n; ⟨v, h1, h2.mono p.f⟩
  ow := fun i d b h n => by
    obtain ⟨l, h1, h2, h3⟩ := R.ow i d b h n
    refine ⟨l, h1, ?_, h3.mono p.f p.h⟩
    cases e : F' l with
    | none => rfl
    | some o =>
      obtain ⟨u, hu⟩ := h3.some
      rcases p.n l o e with q | q
      · rw [h2] at q; cases q
      · rw [hu] at q; cases q
  ne := R.ne
theorem Oa.back {os : Os} {F H F' H' : Hp} {σ : St} {ρ ρ' : Rho} (s : Step (Ow os σ ρ) (Ow os σ ρ') F H F' H') (p : ∀ i, os.lookup i = some false → ρ'[i]? = ρ[i]?) {a : Addr} (h : Oa os σ ρ' a) : Oa os σ ρ a ∨ H a = none := by
  obtain ⟨i, b, h1, ⟨d, h2⟩, h3⟩ := h
  cases b with
  | true => exact (s.w a ⟨i, h1, ⟨d, h2⟩, h3⟩).imp Ow.oa id
  | false => exact .inl ⟨i, false, h1, ⟨d, by rw [← p i h1]; exact h2⟩, h3⟩
/-- a new thing in hand is kept while something else is reckoned -/
theorem nw_keep {Z : Par} {os : Os} {O0 : Addr → Prop} {H0 F H F' H' : Hp} {σ : St} {ρ ρ' : Rho} {d : D} {v : V} (s : Step (Ow os σ ρ) (Ow os σ ρ') F H F' H') (p : ∀ i, os.lookup i = some false → ρ'[i]? = ρ[i]?)
    (h : ∃ l, v = .ref l ∧ (O0 l ∨ H0 l = none) ∧ F l = none ∧ ¬ Oa os σ ρ l ∧ Own Z F H true l d) : ∃ l, v = .ref l ∧ (O0 l ∨ H0 l = none) ∧ F' l = none ∧ ¬ Oa os σ ρ' l ∧ Own Z F' H' true l d := by
  obtain ⟨l, h1, h2, h3, h4, h5⟩ := h
  obtain ⟨u, hu⟩ := h5.some
  refine ⟨l, h1, h2, ?_, fun z => ?_, h5.keep s.f fun o e => s.k l o e fun z => h4 z.oa⟩
  · cases e : F' l with
    | none => rfl
    | some o =>
      rcases s.n l o e with q | q | q
      · rw [h3] at q; cases q
      · rw [hu] at q; cases q
      · exact absurd q.oa h4
  · rcases Oa.back s p z with q | q
    · exact h4 q
    · rw [hu] at q; cases q
theorem EnvR.owH {Z : Par} {os : Os} {F H : Hp} {σ : St} {ρ : Rho} (R : EnvR Z os F H σ ρ) {a : Addr} (h : Ow os σ ρ a) : ∃ u, H a = some u := by
  obtain ⟨i, h1, ⟨d, h2⟩, h3⟩ := h
  obtain ⟨l, e1, _, e3⟩ := R.ow i d true h2 h1
  rw [h3] at e1
  cases e1
  exact e3.some

/-! ### mirrors -/
inductive ER (α : Type) where
  | ok (a : α) (ρ : Rho)
  | exc (c : Str) (fs : List (Str × D)) (ρ : Rho)
  | stuck
abbrev ME := Rho → ER D
inductive SR where
  | nx (ρ : Rho) | rt (d : D) (ρ : Rho) | bk (ρ : Rho) | ct (ρ : Rho)
  | exc (c : Str) (fs : List (Str × D)) (ρ : Rho)
  | stuck
abbrev MS := Rho → SR

def ER.bind {α β : Type} (x : ER α) (f : α → Rho → ER β) : ER β := match x with
  | .ok a ρ => f a ρ
  | .exc c fs ρ => .exc c fs ρ
  | .stuck => .stuck
/-- a partial answer -/
def ER.of {α : Type} (o : Option α) (ρ : Rho) : ER α := match o with
  | some a => .ok a ρ
  | none => .stuck
/-- how a value is held: frozen, new (nobody else's), borrowed -/
inductive Fl where
  | fz | nw | bo
def Bo (Z : Par) (F H : Hp) (d : D) (v : V) : Prop := Rp Z F d v ∨ ∃ l b, v = .ref l ∧ Own Z F H b l d
def ResR (Z : Par) (fl : Fl) (O O' : Addr → Prop) (H F' H' : Hp) (d : D) (v : V) : Prop := match fl with
  | .fz => Rp Z F' d v
  | .nw => ∃ l, v = .ref l ∧ (O l ∨ H l = none) ∧ F' l = none ∧ ¬ O' l ∧ Own Z F' H' true l d
  | .bo => Bo Z F' H' d v
/-- an exception of the class named c, with its fields -/
def ExcG (Z : Par) (E : XK) (c : Str) (fs : List (Str × D)) (F' H' : Hp) : Prop := match fs with
  | [] => E (.ref (Z.z c)) none H'
  | fs => ∀ d fs', F' d = some (.xd fs') → RpS Z F' fs fs' → E (.ref (Z.z c)) (some d) H'

/-- slots that are one's own but not changed for now stay as they are -/
def Pin (os : Os) (σ σ' : St) (ρ ρ' : Rho) : Prop := ∀ i, os.lookup i = some false → σ'[i]? = σ[i]? ∧ ρ'[i]? = ρ[i]?
theorem Pin.refl {os : Os} {σ : St} {ρ : Rho} : Pin os σ σ ρ ρ := fun _ _ => ⟨rfl, rfl⟩
theorem Pin.trans {os : Os} {σ σ1 σ2 : St} {ρ ρ1 ρ2 : Rho} (p : Pin os σ σ1 ρ ρ1) (q : Pin os σ1 σ2 ρ1 ρ2) : Pin os σ σ2 ρ ρ2 := fun i h =>
  ⟨(q i h).1.trans (p i h).1, (q i h).2.trans (p i h).2⟩

section
variable (Z : Par) (E : St → XK) (os : Os)
/-- what must hold behind a state so that Q holds behind what a mirror tells -/
def RunE (fl : Fl) (pu : Bool) (F H : Hp) (σ : St) (ρ : Rho) (r : ER D) (Q : VK) : Prop := match r with
   | .ok d ρ' => ∀ (F' H' : Hp) (v : V), Step (Ow os σ ρ) (Ow os σ ρ') F H F' H' → (pu = true → Same H H') → Pin os σ σ ρ ρ' → EnvR Z os F' H' σ ρ' → ResR Z fl (Ow os σ ρ) (Oa os σ ρ') H F' H' d v → Q v H'
   | .exc c fs ρ' => ∀ (F' H' : Hp), Step (Ow os σ ρ) (Ow os σ ρ') F H F' H' → Pin os σ σ ρ ρ' → EnvR Z os F' H' σ ρ' → ExcG Z (E σ) c fs F' H'
   | .stuck => False
def SimE (fl : Fl) (pu : Bool) (te : TE) (me : ME) : Prop := ∀ (F H : Hp) (σ : St) (ρ : Rho) (Q : VK), EnvR Z os F H σ ρ → RunE Z E os fl pu F H σ ρ (me ρ) Q → te σ H Q
/-- the same of anything that comes with no value of the heap -/
def RunB {α : Type} (pu : Bool) (F H : Hp) (σ : St) (ρ : Rho) (r : ER α) (Q : α → Hp → Prop) : Prop := match r with
   | .ok b ρ' => ∀ (F' H' : Hp), Step (Ow os σ ρ) (Ow os σ ρ') F H F' H' → (pu = true → Same H H') → Pin os σ σ ρ ρ' → EnvR Z os F' H' σ ρ' → Q b H'
   | .exc c fs ρ' => ∀ (F' H' : Hp), Step (Ow os σ ρ) (Ow os σ ρ') F H F' H' → Pin os σ σ ρ ρ' → EnvR Z os F' H' σ ρ' → ExcG Z (E σ) c fs F' H'
   | .stuck => False
def SimT (pu : Bool) (tt : TT) (mt : Rho → ER Bool) : Prop := ∀ (F H : Hp) (σ : St) (ρ : Rho) (Q : Bool → Hp → Prop), EnvR Z os F H σ ρ → RunB Z E os pu F H σ ρ (mt ρ) Q → tt σ H Q
/-- an argument: frozen, borrowed, the object of one of one's own slots, a new object handed over -/
inductive AF where
  | fz | bo | sl (i : Nat) | tm
def ArgR (O0 : Addr → Prop) (H0 F H : Hp) (σ : St) (ρ : Rho) : AF → D → V → Prop
  | .fz, d, v => Rp Z F d v
  | .bo, d, v => Bo Z F H d v
  | .sl i, _, v => σ[i]? = some (some v)
  | .tm, d, v => ResR Z .nw O0 (Oa os σ ρ) H0 F H d v
inductive ArgsR (O0 : Addr → Prop) (H0 F H : Hp) (σ : St) (ρ : Rho) : List AF → List D → List V → Prop
  | nil : ArgsR O0 H0 F H σ ρ [] [] []
  | cons {f : AF} {d : D} {v : V} {fs : List AF} {ds : List D} {vs : List V} : ArgR Z os O0 H0 F H σ ρ f d v → (f = .tm → ∀ j : Nat, fs[j]? = some .tm → vs[j]? ≠ some v) → ArgsR O0 H0 F H σ ρ fs ds vs → ArgsR O0 H0 F H σ ρ (f :: fs) (d :: ds) (v :: vs)
def RunA (fls : List AF) (pu : Bool) (F H : Hp) (σ : St) (ρ : Rho) (r : ER (List D)) (Q : List V → Hp → Prop) : Prop := match r with
   | .ok ds ρ' => ∀ (F' H' : Hp) (vs : List V), Step (Ow os σ ρ) (Ow os σ ρ') F H F' H' → (pu = true → Same H H') → Pin os σ σ ρ ρ' → EnvR Z os F' H' σ ρ' → ArgsR Z os (Ow os σ ρ) H F' H' σ ρ' fls ds vs → Q vs H'
   | .exc c fs ρ' => ∀ (F' H' : Hp), Step (Ow os σ ρ) (Ow os σ ρ') F H F' H' → Pin os σ σ ρ ρ' → EnvR Z os F' H' σ ρ' → ExcG Z (E σ) c fs F' H'
   | .stuck => False
def SimA (fls : List AF) (pu : Bool) (ta : TA) (ma : Rho → ER (List D)) : Prop := ∀ (F H : Hp) (σ : St) (ρ : Rho) (Q : List V → Hp → Prop), EnvR Z os F H σ ρ → RunA Z E os fls pu F H σ ρ (ma ρ) Q → ta σ H Q
/-- what a statement leaves -/
structure Go (io : List Nat) (σ : St) (ρ : Rho) (F H : Hp) (σ' : St) (ρ' : Rho) (F' H' : Hp) : Prop where
  s : Step (Ow os σ ρ) (Ow os σ' ρ') F H F' H'
  p : Pin os σ σ' ρ ρ'
  e : EnvR Z os F' H' σ' ρ'
  io : ∀ i ∈ io, σ'[i]? = σ[i]?
def RunS (io : List Nat) (rf : Fl) (F H : Hp) (σ : St) (ρ : Rho) (r : SR) (K : Ends) : Prop := match r with
   | .nx ρ' => ∀ (F' H' : Hp) (σ' : St), Go Z os io σ ρ F H σ' ρ' F' H' → K.nx σ' H'
   | .rt d ρ' => ∀ (F' H' : Hp) (σ' : St) (v : V), Go Z os io σ ρ F H σ' ρ' F' H' → ResR Z rf (Ow os σ ρ) (Oa os σ' ρ') H F' H' d v → K.rt v H'
   | .bk ρ' => ∀ (F' H' : Hp) (σ' : St), Go Z os io σ ρ F H σ' ρ' F' H' → K.bk σ' H'
   | .ct ρ' => ∀ (F' H' : Hp) (σ' : St), Go Z os io σ ρ F H σ' ρ' F' H' → K.ct σ' H'
   | .exc c fs ρ' => ∀ (F' H' : Hp) (σ' : St), Go Z os io σ ρ F H σ' ρ' F' H' → ExcG Z (E σ') c fs F' H'
   | .stuck => False
def SimS (io : List Nat) (rf : Fl) (ts : TS) (ms : MS) : Prop := ∀ (F H : Hp) (σ : St) (ρ : Rho) (K : Ends), EnvR Z os F H σ ρ → RunS Z E os io rf F H σ ρ (ms ρ) K → ts K σ H
end
theorem Go.trans {Z : Par} {os : Os} {io : List Nat} {σ σ1 σ2 : St} {ρ ρ1 ρ2 : Rho} {F H F1 H1 F2 H2 : Hp} (a : Go Z os io σ ρ F H σ1 ρ1 F1 H1) (b : Go Z os io σ1 ρ1 F1 H1 σ2 ρ2 F2 H2) : Go Z os io σ ρ F H σ2 ρ2 F2 H2 :=
  ⟨a.s.trans b.s, a.p.trans b.p, b.e, fun i h => (b.io i h).trans (a.io i h)⟩
theorem Go.ofE {Z : Par} {os : Os} {io : List Nat} {σ : St} {ρ ρ' : Rho} {F H F' H' : Hp} (s : Step (Ow os σ ρ) (Ow os σ ρ') F H F' H') (p : Pin os σ σ ρ ρ') (e : EnvR Z os F' H' σ ρ') : Go Z os io σ ρ F H σ ρ' F' H' :=
  ⟨s, p, e, fun _ _ => rfl⟩
/-- a result that was new at a later point is new from an earlier one -/
theorem ResR.back {Z : Par} {fl : Fl} {O O1 O2 : Addr → Prop} {F H F1 H1 F' H' : Hp} {d : D} {v : V} (s : Step O O1 F H F1 H1) (r : ResR Z fl O1 O2 H1 F' H' d v) : ResR Z fl O O2 H F' H' d v := by
  cases fl with
  | fz => exact r
  | bo => exact r
  | nw =>
    obtain ⟨l, h1, h2, h3⟩ := r
    refine ⟨l, h1, ?_, h3⟩
    rcases h2 with h | h
    · exact s.w l h
    · exact .inr (s.d l h)
section
variable {Z : Par} {E : St → XK} {os : Os} {fl : Fl} {pu pu1 pu2 : Bool} {F H F1 H1 : Hp} {σ : St} {ρ ρ1 : Rho}
/-- the same wish, from a later state -/
theorem RunE.rebase {r : ER D} {Q : VK} (s : Step (Ow os σ ρ) (Ow os σ ρ1) F H F1 H1) (hp : pu1 = true → Same H H1) (hpu : pu = true → pu1 = true ∧ pu2 = true) (p : Pin os σ σ ρ ρ1) (h : RunE Z E os fl pu F H σ ρ r Q) : RunE Z E os fl pu2 F1 H1 σ ρ1 r Q := by
  cases r with
  | ok d ρ' => exact fun F' H' v s' hp' p' R' r' => h F' H' v (s.trans s') (fun e => (hp (hpu e).1).trans (hp' (hpu e).2)) (p.trans p') R' (r'.back s)
  | exc c fs ρ' => exact fun F' H' s' p' R' => h F' H' (s.trans s') (p.trans p') R'
  | stuck => exact h
theorem RunB.rebase {α : Type} {r : ER α} {Q : α → Hp → Prop} (s : Step (Ow os σ ρ) (Ow os σ ρ1) F H F1 H1) (hp : pu1 = true → Same H H1) (hpu : pu = true → pu1 = true ∧ pu2 = true) (p : Pin os σ σ ρ ρ1) (h : RunB Z E os pu F H σ ρ r Q) : RunB Z E os pu2 F1 H1 σ ρ1 r Q := by
  cases r with
  | ok d ρ' => exact fun F' H' s' hp' p' R' => h F' H' (s.trans s') (fun e => (hp (hpu e).1).trans (hp' (hpu e).2)) (p.trans p') R'
  | exc c fs ρ' => exact fun F' H' s' p' R' => h F' H' (s.trans s') (p.trans p') R'
  | stuck => exact h
theorem ArgsR.back {O O1 : Addr → Prop} {F' H' : Hp} {ρ' : Rho} {fls : List AF} {ds : List D} {vs : List V} (s : Step O O1 F H F1 H1) (h : ArgsR Z os O1 H1 F' H' σ ρ' fls ds vs) : ArgsR Z os O H F' H' σ ρ' fls ds vs := by
  induction h with
  | nil => exact .nil
  | @cons f d v fs ds vs h n r ih =>
    refine .cons ?_ n ih
    cases f with
    | tm => exact ResR.back (fl := .nw) (F' := F') (H' := H') (d := d) (v := v) s h
    | fz => exact h
    | bo => exact h
    | sl i => exact h
theorem ArgsR.get_tm {O0 : Addr → Prop} {H0 F' H' : Hp} {ρ' : Rho} {fls : List AF} {ds : List D} {vs : List V} (h : ArgsR Z os O0 H0 F' H' σ ρ' fls ds vs) : ∀ {j : Nat} {v : V}, fls[j]? = some .tm → vs[j]? = some v → ∃ l, v = .ref l ∧ (O0 l ∨ H0 l = none) := by
  induction h with
  | nil => intro j v e; simp at e
  | @cons f d v fs ds vs h n r ih =>
    intro j w e1 e2
    cases j with
    | zero =>
      simp at e1 e2
      subst e1 e2
      obtain ⟨l, h1, h2, _⟩ := h
      exact ⟨l, h1, h2⟩
    | succ j => exact ih (by simpa using e1) (by simpa using e2)
theorem ArgsR.tmd {O0 : Addr → Prop} {H0 F' H' : Hp} {ρ' : Rho} {fls : List AF} {ds : List D} {vs : List V} (h : ArgsR Z os O0 H0 F' H' σ ρ' fls ds vs) : ∀ {j j' : Nat} {v : V}, fls[j]? = some .tm → fls[j']? = some .tm → vs[j]? = some v → vs[j']? = some v → j = j' := by
  induction h with
  | nil => intro j j' v e; simp at e
  | @cons f d v fs ds vs h n r ih =>
    intro j j' w e1 e2 e3 e4
    cases j with
    | zero =>
      cases j' with
      | zero => rfl
      | succ j' =>
        simp at e1 e2 e3 e4
        subst e3
        exact absurd e4 (n e1 j' e2)
    | succ j =>
      cases j' with
      | zero =>
        simp at e1 e2 e3 e4
        subst e4
        exact absurd e3 (n e2 j e1)
      | succ j' => rw [ih (j := j) (j' := j') (by simpa using e1) (by simpa using e2) (by simpa using e3) (by simpa using e4)]
theorem RunA.rebase {fls : List AF} {r : ER (List D)} {Q : List V → Hp → Prop} (s : Step (Ow os σ ρ) (Ow os σ ρ1) F H F1 H1) (hp : pu1 = true → Same H H1) (hpu : pu = true → pu1 = true ∧ pu2 = true) (p : Pin os σ σ ρ ρ1) (h : RunA Z E os fls pu F H σ ρ r Q) : RunA Z E os fls pu2 F1 H1 σ ρ1 r Q := by
  cases r with
  | ok d ρ' => exact fun F' H' v s' hp' p' R' r' => h F' H' v (s.trans s') (fun e => (hp (hpu e).1).trans (hp' (hpu e).2)) (p.trans p') R' (r'.back s)
  | exc c fs ρ' => exact fun F' H' s' p' R' => h F' H' (s.trans s') (p.trans p') R'
  | stuck => exact h
theorem RunS.rebase {io : List Nat} {rf : Fl} {σ1 : St} {r : SR} {K : Ends} (g : Go Z os io σ ρ F H σ1 ρ1 F1 H1) (h : RunS Z E os io rf F H σ ρ r K) : RunS Z E os io rf F1 H1 σ1 ρ1 r K := by
  cases r with
  | nx ρ' => exact fun F' H' σ' g' => h F' H' σ' (g.trans g')
  | rt d ρ' => exact fun F' H' σ' v g' r' => h F' H' σ' v (g.trans g') (r'.back g.s)
  | bk ρ' => exact fun F' H' σ' g' => h F' H' σ' (g.trans g')
  | ct ρ' => exact fun F' H' σ' g' => h F' H' σ' (g.trans g')
  | exc c fs ρ' => exact fun F' H' σ' g' => h F' H' σ' (g.trans g')
  | stuck => exact h
end
end Vm
/-! Vm2: expressions. -/
namespace Vm
open PySem L2
variable {Z : Par} {E : St → XK} {os : Os} {X : Cx}

/-! ### small facts -/
theorem Bo.of {F H : Hp} {d : D} {v : V} (h : Rp Z F d v) : Bo Z F H d v := .inl h
theorem Bo.mono {F H F' H' : Hp} {d : D} {v : V} (f : Same F F') (h : Same H H') (b : Bo Z F H d v) : Bo Z F' H' d v := by
  rcases b with b | ⟨l, k, e, o⟩
  · exact .inl (b.mono f)
  · exact .inr ⟨l, k, e, o.mono f h⟩
theorem Bo.lst {F H : Hp} {ds : List D} {v : V} (k : Hk Z F H) (b : Bo Z F H (.lst ds) v) : ∃ a vs, v = .ref a ∧ H a = some (.lst vs) ∧ RpL Z F ds vs := by
  rcases b with b | ⟨l, _, e, o⟩
  · cases b with | lst h r => exact ⟨_, _, rfl, k.lst h, r⟩
  · obtain ⟨vs, h1, h3⟩ := o; exact ⟨l, vs, e, h1, h3⟩
theorem Bo.tup {F H : Hp} {ds : List D} {v : V} (k : Hk Z F H) (b : Bo Z F H (.tup ds) v) : ∃ a vs, v = .ref a ∧ H a = some (.tup vs) ∧ RpL Z F ds vs := by
  rcases b with b | ⟨l, _, e, o⟩
  · cases b with | tup h r => exact ⟨_, _, rfl, k.tup h, r⟩
  · exact o.elim
theorem Bo.tupF {F H : Hp} {ds : List D} {v : V} (b : Bo Z F H (.tup ds) v) : Rp Z F (.tup ds) v := by
  rcases b with b | ⟨l, _, e, o⟩
  · exact b
  · exact o.elim
theorem Bo.dct {F H : Hp} {ds : List (Key × D)} {v : V} (k : Hk Z F H) (b : Bo Z F H (.dct ds) v) : ∃ a vs, v = .ref a ∧ Rd H a (.dK vs) ∧ RpK Z F ds vs := by
  rcases b with b | ⟨l, _, e, o⟩
  · cases b with | dct h r => exact ⟨_, _, rfl, k.dK h, r⟩
  · obtain ⟨vs, h1, h3⟩ := o.dK; exact ⟨l, vs, e, h1, h3⟩
theorem Bo.obj {F H : Hp} {c : Str} {ds : List (Str × D)} {v : V} (k : Hk Z F H) (b : Bo Z F H (.obj c ds) v) : ∃ a dx vs, v = .ref a ∧ H a = some (.ins (Z.z c) dx vs) ∧ RpS Z F ds vs := by
  rcases b with b | ⟨l, _, e, o⟩
  · cases b with | obj h r => exact ⟨_, _, _, rfl, k.ins h, r⟩
  · obtain ⟨dx, vs, h1, h3⟩ := o; exact ⟨l, dx, vs, e, h1, h3⟩
theorem Bo.scr {F H : Hp} {ns : List Int} {v : V} (k : Hk Z F H) (b : Bo Z F H (.scr ns) v) : ∃ a, v = .ref a ∧ SqL Z.K H a (ns.map V.int) := by
  rcases b with b | ⟨l, _, e, o⟩
  · cases b with | scr h => exact ⟨_, rfl, k.scH h⟩
  · exact o.elim
theorem Bo.int {F H : Hp} {i : Int} {v : V} (b : Bo Z F H (.int i) v) : v = .int i := by
  rcases b with b | ⟨l, k, e, o⟩
  · cases b; rfl
  · exact o.elim
theorem Bo.bl {F H : Hp} {i : Bool} {v : V} (b : Bo Z F H (.bl i) v) : v = .bl i := by
  rcases b with b | ⟨l, k, e, o⟩
  · cases b; rfl
  · exact o.elim
theorem Bo.str {F H : Hp} {i : Str} {v : V} (b : Bo Z F H (.str i) v) : v = .str i := by
  rcases b with b | ⟨l, k, e, o⟩
  · cases b; rfl
  · exact o.elim
theorem Bo.non {F H : Hp} {v : V} (b : Bo Z F H .non v) : v = .non := by
  rcases b with b | ⟨l, k, e, o⟩
  · cases b; rfl
  · exact o.elim
theorem ResR.bo {fl : Fl} {O O' : Addr → Prop} {H F' H' : Hp} {d : D} {v : V} (r : ResR Z fl O O' H F' H' d v) : Bo Z F' H' d v := by
  cases fl with
  | fz => exact .inl r
  | bo => exact r
  | nw => obtain ⟨l, h1, _, _, _, h5⟩ := r; exact .inr ⟨l, true, h1, h5⟩

/-- what a rule by values makes -/
def NewR (Z : Par) (fl : Fl) (H F' H' : Hp) (d : D) (v : V) : Prop := match fl with
  | .fz => Rp Z F' d v
  | .nw => ∃ l, v = .ref l ∧ H l = none ∧ F' l = none ∧ Own Z F' H' true l d
  | .bo => Bo Z F' H' d v
theorem NewR.res {fl : Fl} {F H F' H' : Hp} {σ : St} {ρ : Rho} {d : D} {v : V} (R : EnvR Z os F H σ ρ) (r : NewR Z fl H F' H' d v) : ResR Z fl (Ow os σ ρ) (Oa os σ ρ) H F' H' d v := by
  cases fl with
  | fz => exact r
  | bo => exact r
  | nw =>
    obtain ⟨l, h1, h2, h3, h4⟩ := r
    refine ⟨l, h1, .inr h2, h3, fun ⟨i, b, e1, ⟨d', e2⟩, e3⟩ => ?_, h4⟩
    obtain ⟨l', q1, _, q3⟩ := R.ow i d' b e2 e1
    rw [e3] at q1
    cases q1
    obtain ⟨u, hu⟩ := q3.some
    rw [h2] at hu
    cases hu

/-- the end of a rule that makes new things only -/
theorem RunE.fin {fl : Fl} {pu : Bool} {F H F' H' : Hp} {σ : St} {ρ : Rho} {d : D} {v : V} {Q : VK} (R : EnvR Z os F H σ ρ) (h : RunE Z E os fl pu F H σ ρ (.ok d ρ) Q) (p : PStep Z F H F' H') (r : NewR Z fl H F' H' d v) : Q v H' :=
  h F' H' v p.step (fun _ => p.h) Pin.refl (R.pstep p) (r.res R)

/-! ### the judgements with their mirrors -/
section
variable (X : Cx) (Z : Par) (E : St → XK) (os : Os)
def PEm (fl : Fl) (pu : Bool) (e : Expr) (me : ME) : Prop := ∃ te, PE X e te ∧ SimE Z E os fl pu te me
def PTm (pu : Bool) (e : Expr) (mt : Rho → ER Bool) : Prop := ∃ tt, PT X e tt ∧ SimT Z E os pu tt mt
def PWm (pu : Bool) (e : Expr) (mt : Rho → ER Bool) : Prop := ∃ tt, PW X e tt ∧ SimT Z E os pu tt mt
def PAm (fls : List AF) (pu : Bool) (es : List Expr) (ma : Rho → ER (List D)) : Prop := ∃ ta, PA X es ta ∧ SimA Z E os fls pu ta ma
def PSm (io : List Nat) (rf : Fl) (s : Stmt) (ms : MS) : Prop := ∃ ts, PS X s ts ∧ SimS Z E os io rf ts ms
def PSsm (io : List Nat) (rf : Fl) (s : List Stmt) (ms : MS) : Prop := ∃ ts, PSs X s ts ∧ SimS Z E os io rf ts ms
end

/-! ### names, constants -/
def mVar (i : Nat) : ME := fun ρ => match ρ[i]? with
  | some (some d) => .ok d ρ
  | _ => .stuck
def mMv (i : Nat) : ME := fun ρ => match ρ[i]? with
  | some (some d) => .ok d (ρ.set i none)
  | _ => .stuck
def mC (d : D) : ME := fun ρ => .ok d ρ

theorem sim_var {i : Nat} (ho : os.lookup i = none) : SimE Z E os .fz true (tVar i) (mVar i) := by
  intro F H σ ρ Q R h
  unfold mVar at h
  split at h
  · rename_i d e
    obtain ⟨v, h1, h2⟩ := R.fz i d e ho
    exact ⟨v, h1, RunE.fin R h (PStep.refl R.hk) h2⟩
  · exact h.elim
theorem sim_own {i : Nat} {b : Bool} (ho : os.lookup i = some b) : SimE Z E os .bo true (tVar i) (mVar i) := by
  intro F H σ ρ Q R h
  unfold mVar at h
  split at h
  · rename_i d e
    obtain ⟨l, h1, h2, h3⟩ := R.ow i d b e ho
    exact ⟨.ref l, h1, RunE.fin R h (PStep.refl R.hk) (.inr ⟨l, b, rfl, h3⟩)⟩
  · exact h.elim
theorem lookup_set_none {ρ : Rho} {i j : Nat} {d : D} (h : (ρ.set i none)[j]? = some (some d)) : ρ[j]? = some (some d) ∧ j ≠ i := by
  by_cases e : i = j
  · subst e
    by_cases hl : i < ρ.length
    · rw [List.getElem?_set_self hl] at h; cases h
    · rw [List.getElem?_eq_none (by rw [List.length_set]; omega)] at h; cases h
  · rw [List.getElem?_set_ne e] at h
    exact ⟨h, Ne.symm e⟩
/-- a slot is forgotten -/
theorem EnvR.drop {F H : Hp} {σ : St} {ρ : Rho} (R : EnvR Z os F H σ ρ) (i : Nat) : EnvR Z os F H σ (ρ.set i none) where
  ex := R.ex
  hk := R.hk
  len := by rw [List.length_set]; exact R.len
  fz := fun j d h n => R.fz j d (lookup_set_none h).1 n
  ow := fun j d b h n => R.ow j d b (lookup_set_none h).1 n
  ne := fun j k b c l h1 h2 ⟨d, h3⟩ ⟨d', h4⟩ => R.ne j k b c l h1 h2 ⟨d, (lookup_set_none h3).1⟩ ⟨d', (lookup_set_none h4).1⟩
theorem Ow.drop {σ : St} {ρ : Rho} {i : Nat} {a : Addr} (h : Ow os σ (ρ.set i none) a) : Ow os σ ρ a := by
  obtain ⟨j, h1, ⟨d, h2⟩, h3⟩ := h
  exact ⟨j, h1, ⟨d, (lookup_set_none h2).1⟩, h3⟩
theorem Step.drop {F H : Hp} {σ : St} {ρ : Rho} (i : Nat) : Step (Ow os σ ρ) (Ow os σ (ρ.set i none)) F H F H :=
  ⟨Same.refl F, fun _ _ h => .inl h, fun _ _ h _ => h, fun _ h => .inl h.drop, fun _ h => h⟩
theorem Pin.drop {σ : St} {ρ : Rho} {i : Nat} (ho : os.lookup i = some true) : Pin os σ σ ρ (ρ.set i none) := fun j h =>
  ⟨rfl, by rw [List.getElem?_set_ne]; rintro rfl; rw [ho] at h; cases h⟩
theorem sim_mv {i : Nat} (ho : os.lookup i = some true) : SimE Z E os .nw true (tVar i) (mMv i) := by
  intro F H σ ρ Q R h
  unfold mMv at h
  split at h
  · rename_i d e
    obtain ⟨l, h1, h2, h3⟩ := R.ow i d true e ho
    refine ⟨.ref l, h1, h F H (.ref l) (Step.drop i) (fun _ => Same.refl H) (Pin.drop ho) (R.drop i) ⟨l, rfl, .inl ⟨i, ho, ⟨d, e⟩, h1⟩, h2, ?_, h3⟩⟩
    rintro ⟨j, b, e1, ⟨d', e2⟩, e3⟩
    obtain ⟨e4, ne⟩ := lookup_set_none e2
    exact ne (R.ne j i b true l e1 ho ⟨d', e4⟩ ⟨d, e⟩ e3 h1)
  · exact h.elim
theorem sim_c {d : D} {v : V} (r : ∀ F, Rp Z F d v) : SimE Z E os .fz true (tC v) (mC d) := fun F H σ ρ Q R h => RunE.fin R h (PStep.refl R.hk) (r F)

section
variable {x : Str} {pos : Pos}
theorem em_var (i : Nat) (ho : os.lookup i = none := by rfl) (hN : X.N[i]? = some x := by rfl) (hv : Vis X.env.scope x := by first | exact Or.inl rfl | exact Or.inr (Or.inl rfl) | exact Or.inr (Or.inr rfl)) (hd : (x == ("__debug__" : Str)) = false := by decide)
    (hcd : (x == ("__classdict__" : Str)) = false := by decide) : PEm X Z E os .fz true (.Name x pos) (mVar i) := ⟨_, pe_var hN hv hd hcd, sim_var ho⟩
theorem em_own (i : Nat) {b : Bool} (ho : os.lookup i = some b := by rfl) (hN : X.N[i]? = some x := by rfl) (hv : Vis X.env.scope x := by first | exact Or.inl rfl | exact Or.inr (Or.inl rfl) | exact Or.inr (Or.inr rfl)) (hd : (x == ("__debug__" : Str)) = false := by decide)
    (hcd : (x == ("__classdict__" : Str)) = false := by decide) : PEm X Z E os .bo true (.Name x pos) (mVar i) := ⟨_, pe_var hN hv hd hcd, sim_own ho⟩
theorem em_mv (i : Nat) (ho : os.lookup i = some true := by rfl) (hN : X.N[i]? = some x := by rfl) (hv : Vis X.env.scope x := by first | exact Or.inl rfl | exact Or.inr (Or.inl rfl) | exact Or.inr (Or.inr rfl)) (hd : (x == ("__debug__" : Str)) = false := by decide)
    (hcd : (x == ("__classdict__" : Str)) = false := by decide) : PEm X Z E os .nw true (.Name x pos) (mMv i) := ⟨_, pe_var hN hv hd hcd, sim_mv ho⟩
theorem em_int {i j} : PEm X Z E os .fz true (.Constant (.int i) j pos) (mC (.int i)) := ⟨_, pe_int, sim_c fun _ => .int i⟩
theorem em_bl {i j} : PEm X Z E os .fz true (.Constant (.bool i) j pos) (mC (.bl i)) := ⟨_, pe_bl, sim_c fun _ => .bl i⟩
theorem em_str {i j} : PEm X Z E os .fz true (.Constant (.str i) j pos) (mC (.str i)) := ⟨_, pe_str, sim_c fun _ => .str i⟩
theorem em_non {j} : PEm X Z E os .fz true (.Constant .none j pos) (mC .non) := ⟨_, pe_non, sim_c fun _ => .non⟩
/-- a constant of the module: an int, a text -/
theorem em_gint {i : Int} {t : Tok} (hg : Gl X x) (hm : X.mg x = some (.int i t)) (hd : (x == ("__debug__" : Str)) = false := by decide) : PEm X Z E os .fz true (.Name x pos) (mC (.int i)) := ⟨_, pe_glob (v := .int i) hg hm ⟨t, rfl⟩ hd, sim_c fun _ => .int i⟩
theorem em_gstr {i : Str} {t : Tok} (hg : Gl X x) (hm : X.mg x = some (.str i t)) (hd : (x == ("__debug__" : Str)) = false := by decide) : PEm X Z E os .fz true (.Name x pos) (mC (.str i)) := ⟨_, pe_glob (v := .str i) hg hm ⟨t, rfl⟩ hd, sim_c fun _ => .str i⟩
end

/-! ### from new to frozen -/
theorem SimE.fr {pu : Bool} {te : TE} {me : ME} (h : SimE Z E os .nw pu te me) : SimE Z E os .fz pu te me := by
  intro F H σ ρ Q R hq
  refine h F H σ ρ Q R ?_
  revert hq
  cases hm : me ρ with
  | stuck => exact fun z => z
  | exc c fs ρ' => exact fun z => z
  | ok d ρ' =>
    intro hq F' H' v s hp p R' r
    obtain ⟨l, h1, h2, h3, h4, h5⟩ := r
    have key : ∀ u : HO, H' l = some u → (∀ F2, Same F' F2 → F2 l = some u → Rp Z F2 d (.ref l)) → Q v H' := by
      intro u hu hr
      have s1 : Same F' (upd F' l u) := fun a o e => by rw [upd_ne (ne_of_none e h3)]; exact e
      have hk2 : Hk Z (upd F' l u) H' := ⟨fun a o e => by
        by_cases ha : a = l
        · subst ha; rw [upd_same] at e; cases e; exact .inl hu
        · rw [upd_ne ha] at e; exact R'.hk.le a o e, fun a ns h => s1.seq (R'.hk.sc a ns h)⟩
      have R2 : EnvR Z os (upd F' l u) H' σ ρ' := by
        refine ⟨R'.ex.f s1, hk2, R'.len, fun i d' e n => ?_, fun i d' b e n => ?_, R'.ne⟩
        · obtain ⟨w, q1, q2⟩ := R'.fz i d' e n
          exact ⟨w, q1, q2.mono s1⟩
        · obtain ⟨l', q1, q2, q3⟩ := R'.ow i d' b e n
          have hne : l' ≠ l := fun z => h4 ⟨i, b, n, ⟨d', e⟩, by rw [q1, z]⟩
          exact ⟨l', q1, by rw [upd_ne hne]; exact q2, q3.mono s1 (Same.refl H')⟩
      refine hq (upd F' l u) H' v ⟨s.f.trans s1, fun a o e => ?_, s.k, s.w, s.d⟩ hp p R2 ?_
      · by_cases ha : a = l
        · subst ha
          rcases h2 with z | z
          · exact .inr (.inr z)
          · exact .inr (.inl z)
        · rw [upd_ne ha] at e; exact s.n a o e
      · rw [h1]
        exact hr _ s1 upd_same
    cases d with
    | lst ds => obtain ⟨vs, q1, q3⟩ := h5; exact key _ q1 fun F2 e hl => .lst hl (q3.mono e)
    | dct ds =>
      obtain ⟨vs, q1, q3⟩ := h5
      rcases q1 with q1 | ⟨z, _⟩
      · exact key _ q1 fun F2 e hl => .dct hl (q3.mono e)
      · cases z
    | obj c ds => obtain ⟨dx, vs, q1, q3⟩ := h5; exact key _ q1 fun F2 e hl => .obj hl (q3.mono e)
    | _ => exact h5.elim
theorem PEm.fr {pu : Bool} {e : Expr} {me : ME} (h : PEm X Z E os .nw pu e me) : PEm X Z E os .fz pu e me := let ⟨_, a, b⟩ := h; ⟨_, a, b.fr⟩
theorem SimE.bo {fl : Fl} {pu : Bool} {te : TE} {me : ME} (h : SimE Z E os fl pu te me) : SimE Z E os .bo pu te me := by
  intro F H σ ρ Q R hq
  refine h F H σ ρ Q R ?_
  revert hq
  cases hm : me ρ with
  | stuck => exact fun z => z
  | exc c fs ρ' => exact fun z => z
  | ok d ρ' => exact fun hq F' H' v s hp p R' r => hq F' H' v s hp p R' r.bo
theorem PEm.bo {fl : Fl} {pu : Bool} {e : Expr} {me : ME} (h : PEm X Z E os fl pu e me) : PEm X Z E os .bo pu e me := let ⟨_, a, b⟩ := h; ⟨_, a, b.bo⟩
/-- pure or not, it is not pure -/
theorem SimE.np {fl : Fl} {pu : Bool} {te : TE} {me : ME} (h : SimE Z E os fl pu te me) : SimE Z E os fl false te me := by
  intro F H σ ρ Q R hq
  refine h F H σ ρ Q R ?_
  revert hq
  cases hm : me ρ with
  | stuck => exact fun z => z
  | exc c fs ρ' => exact fun z => z
  | ok d ρ' => exact fun hq F' H' v s hp p R' r => hq F' H' v s (fun z => by cases z) p R' r

/-! ### rules by values -/
def Op1 (Z : Par) (r : V → Hp → VK → Prop) (fl : Fl) (g : D → Option D) : Prop := ∀ (F H : Hp) (d : D) (v : V) (Q : VK) (e : D), Hk Z F H → Bo Z F H d v → g d = some e →
  (∀ (F' H' : Hp) (w : V), PStep Z F H F' H' → NewR Z fl H F' H' e w → Q w H') → r v H Q
def Op2 (Z : Par) (r : R2) (fl : Fl) (g : D → D → Option D) : Prop := ∀ (F H : Hp) (d1 d2 : D) (v1 v2 : V) (Q : VK) (e : D), Hk Z F H → Bo Z F H d1 v1 → Bo Z F H d2 v2 → g d1 d2 = some e →
  (∀ (F' H' : Hp) (w : V), PStep Z F H F' H' → NewR Z fl H F' H' e w → Q w H') → r v1 v2 H Q
inductive BoL (Z : Par) (F H : Hp) : List D → List V → Prop
  | nil : BoL Z F H [] []
  | cons {d : D} {ds : List D} {v : V} {vs : List V} : Bo Z F H d v → BoL Z F H ds vs → BoL Z F H (d :: ds) (v :: vs)
def OpN (Z : Par) (r : List V → Hp → VK → Prop) (fl : Fl) (g : List D → Option D) : Prop := ∀ (F H : Hp) (ds : List D) (vs : List V) (Q : VK) (e : D), Hk Z F H → BoL Z F H ds vs → g ds = some e →
  (∀ (F' H' : Hp) (w : V), PStep Z F H F' H' → NewR Z fl H F' H' e w → Q w H') → r vs H Q
def OpM (Z : Par) (K : PySem.W.Frag) (T : String) (r : V → List V → Hp → VK → Prop) (fl : Fl) (g : D → List D → Option D) : Prop := ∀ (F H : Hp) (d : D) (ds : List D) (v : V) (vs : List V) (Q : VK) (e : D), Hk Z F H → Bo Z F H d v → BoL Z F H ds vs → g d ds = some e →
  (∀ (F' H' : Hp) (w : V), PStep Z F H F' H' → NewR Z fl H F' H' e w → Q w H') → r v vs H Q

def mOp1 (g : D → Option D) (ma : ME) : ME := fun ρ => (ma ρ).bind fun x ρ1 => ER.of (g x) ρ1
def mOp2 (g : D → D → Option D) (ma mb : ME) : ME := fun ρ => (ma ρ).bind fun x ρ1 => (mb ρ1).bind fun y ρ2 => ER.of (g x y) ρ2
/-- held still while a second thing is reckoned -/
def Still (fl : Fl) (pu : Bool) : Prop := fl = .fz ∨ pu = true
theorem still_bo {fl : Fl} {pu : Bool} {O O' : Addr → Prop} {H F1 H1 F2 H2 : Hp} {d : D} {v : V} (h : Still fl pu) (r : ResR Z fl O O' H F1 H1 d v) (f : Same F1 F2) (hp : pu = true → Same H1 H2) : Bo Z F2 H2 d v := by
  rcases h with h | h
  · subst h; exact .inl (r.mono f)
  · exact r.bo.mono f (hp h)
theorem run_of {fl : Fl} {pu : Bool} {F H : Hp} {σ : St} {ρ : Rho} {o : Option D} {Q : VK} (h : RunE Z E os fl pu F H σ ρ (ER.of o ρ) Q) : ∃ e, o = some e ∧ RunE Z E os fl pu F H σ ρ (.ok e ρ) Q := by
  cases o with
  | none => exact h.elim
  | some e => exact ⟨e, rfl, h⟩

theorem sim_op1 {fl fl1 : Fl} {pu : Bool} {r : V → Hp → VK → Prop} {g : D → Option D} {ta : TE} {ma : ME} (hr : Op1 Z r fl g) (ha : SimE Z E os fl1 pu ta ma) : SimE Z E os fl pu (fun σ H Q => ta σ H fun x H1 => r x H1 Q) (mOp1 g ma) := by
  intro F H σ ρ Q R h
  refine ha F H σ ρ _ R ?_
  unfold mOp1 at h
  revert h
  cases e1 : ma ρ with
  | stuck => exact fun z => z
  | exc c fs ρ' => exact fun z => z
  | ok x ρ1 =>
    intro h F1 H1 v s hp p R1 r1
    obtain ⟨e, he, h2⟩ := run_of (RunE.rebase (pu2 := true) s hp (fun e => ⟨e, rfl⟩) p h)
    exact hr F1 H1 x v Q e R1.hk r1.bo he fun F' H' w ps nr => RunE.fin R1 h2 ps nr
theorem sim_op2 {fl fl1 fl2 : Fl} {pu1 pu2 : Bool} {r : R2} {g : D → D → Option D} {ta tb : TE} {ma mb : ME} (hr : Op2 Z r fl g) (ha : SimE Z E os fl1 pu1 ta ma) (hb : SimE Z E os fl2 pu2 tb mb) (hs : Still fl1 pu2) :
    SimE Z E os fl (pu1 && pu2) (tOp r ta tb) (mOp2 g ma mb) := by
  intro F H σ ρ Q R h
  refine ha F H σ ρ _ R ?_
  unfold mOp2 at h
  revert h
  cases e1 : ma ρ with
  | stuck => exact fun z => z
  | exc c fs ρ' => exact fun z => z
  | ok x ρ1 =>
    intro h F1 H1 v s hp p R1 r1
    have h1 : RunE Z E os fl pu2 F1 H1 σ ρ1 ((mb ρ1).bind fun y ρ2 => ER.of (g x y) ρ2) Q := RunE.rebase (pu1 := pu1) (pu2 := pu2) s hp (fun e => by simpa using e) p h
    refine hb F1 H1 σ ρ1 _ R1 ?_
    revert h1
    cases e2 : mb ρ1 with
    | stuck => exact fun z => z
    | exc c fs ρ' => exact fun z => z
    | ok y ρ2 =>
      intro h1 F2 H2 u s2 hp2 p2 R2 r2
      obtain ⟨e, he, h3⟩ := run_of (RunE.rebase (pu1 := pu2) (pu2 := true) s2 hp2 (fun e => ⟨e, rfl⟩) p2 h1)
      exact hr F2 H2 x y v u Q e R2.hk (still_bo hs r1 s2.f hp2) r2.bo he fun F' H' w ps nr => RunE.fin R2 h3 ps nr

section
variable {a b c : Expr} {pos : Pos} {fl fl1 fl2 : Fl} {pu pu1 pu2 : Bool} {ma mb : ME}
theorem em_op {op : Operator} {r : R2} {g : D → D → Option D} (ho : OpR X (binaryOp op) r) (hr : Op2 Z r fl g) (ha : PEm X Z E os fl1 pu1 a ma) (hb : PEm X Z E os fl2 pu2 b mb) (hs : Still fl1 pu2 := by first | exact Or.inl rfl | exact Or.inr rfl) :
    PEm X Z E os fl (pu1 && pu2) (.BinOp a op b pos) (mOp2 g ma mb) := let ⟨_, a1, a2⟩ := ha; let ⟨_, b1, b2⟩ := hb; ⟨_, pe_op ho a1 b1, sim_op2 hr a2 b2 hs⟩
theorem em_un {op : UnaryOp} {r : V → Hp → VK → Prop} {g : D → Option D} (ho : UnR X (unaryOp op) r) (hr : Op1 Z r fl g) (ha : PEm X Z E os fl1 pu1 a ma) : PEm X Z E os fl pu1 (.UnaryOp op a pos) (mOp1 g ma) :=
  let ⟨_, a1, a2⟩ := ha; ⟨_, pe_un ho a1, sim_op1 (r := r) hr a2⟩
theorem em_cmp {op : CmpOp} {r : R2} {g : D → D → Option D} (ho : OpR X (compareOp op) r) (hr : Op2 Z r fl g) (ha : PEm X Z E os fl1 pu1 a ma) (hb : PEm X Z E os fl2 pu2 b mb) (hm : behindInMarks op b = false := by first | rfl | exact nobehind _ (by decide) (by decide)) (hs : Still fl1 pu2 := by first | exact Or.inl rfl | exact Or.inr rfl) :
    PEm X Z E os fl (pu1 && pu2) (.Compare a [op] [b] pos) (mOp2 g ma mb) := let ⟨_, a1, a2⟩ := ha; let ⟨_, b1, b2⟩ := hb; ⟨_, pe_cmpR ho a1 b1 hm, sim_op2 hr a2 b2 hs⟩

/-! ### tests -/
def mT (me : ME) : Rho → ER Bool := fun ρ => (me ρ).bind fun d ρ1 => match d with
  | .bl b => .ok b ρ1
  | _ => .stuck
theorem sim_tB {te : TE} {me : ME} (h : SimE Z E os fl pu te me) : SimT Z E os pu (tB te) (mT me) := by
  intro F H σ ρ Q R hq
  refine h F H σ ρ _ R ?_
  unfold mT at hq
  revert hq
  cases e1 : me ρ with
  | stuck => exact fun z => z
  | exc c fs ρ' => exact fun z => z
  | ok x ρ1 =>
    intro hq F1 H1 v s hp p R1 r1
    cases x with
    | bl k => exact ⟨k, r1.bo.bl, hq F1 H1 s hp p R1⟩
    | _ => exact hq.elim
theorem tm_val (h : PEm X Z E os fl pu a ma) (he : ∀ whole, isTrue a X.env whole = (do let v ← whole; standAt a.pos; holding [v] (truthy v)) := by intro _; rfl) : PTm X Z E os pu a (mT ma) := let ⟨_, a1, a2⟩ := h; ⟨_, pt_val a1 he, sim_tB a2⟩
theorem tm_cmp {op : CmpOp} {r : R2} {g : D → D → Option D} (ho : OpR X (compareOp op) r) (hr : Op2 Z r fl g) (ha : PEm X Z E os fl1 pu1 a ma) (hb : PEm X Z E os fl2 pu2 b mb) (hm : behindInMarks op b = false := by first | rfl | exact nobehind _ (by decide) (by decide)) (hs : Still fl1 pu2 := by first | exact Or.inl rfl | exact Or.inr rfl) :
    PTm X Z E os (pu1 && pu2) (.Compare a [op] [b] pos) (mT (mOp2 g ma mb)) := let ⟨_, a1, a2⟩ := ha; let ⟨_, b1, b2⟩ := hb; ⟨_, pt_cmpR ho a1 b1 hm, sim_tB (sim_op2 hr a2 b2 hs)⟩
def mNotT (mt : Rho → ER Bool) : Rho → ER Bool := fun ρ => (mt ρ).bind fun b ρ1 => .ok (!b) ρ1
variable {mt mu : Rho → ER Bool}
theorem sim_notT {tt : TT} (h : SimT Z E os pu tt mt) : SimT Z E os pu (tNot tt) (mNotT mt) := by
  intro F H σ ρ Q R hq
  refine h F H σ ρ _ R ?_
  unfold mNotT at hq
  revert hq
  cases e1 : mt ρ with
  | stuck => exact fun z => z
  | exc c fs ρ' => exact fun z => z
  | ok x ρ1 => exact fun hq F1 H1 s hp p R1 => hq F1 H1 s hp p R1
theorem tm_not (h : PTm X Z E os pu a mt) : PTm X Z E os pu (.UnaryOp .Not a pos) (mNotT mt) := let ⟨_, a1, a2⟩ := h; ⟨_, pt_not a1, sim_notT a2⟩
def mAndT (mt mu : Rho → ER Bool) : Rho → ER Bool := fun ρ => (mt ρ).bind fun b ρ1 => if b = true then mu ρ1 else .ok false ρ1
def mOrT (mt mu : Rho → ER Bool) : Rho → ER Bool := fun ρ => (mt ρ).bind fun b ρ1 => if b = true then .ok true ρ1 else mu ρ1
theorem sim_andT {tt tu : TT} (h : SimT Z E os pu1 tt mt) (h2 : SimT Z E os pu2 tu mu) : SimT Z E os (pu1 && pu2) (tAnd tt tu) (mAndT mt mu) := by
  intro F H σ ρ Q R hq
  refine h F H σ ρ _ R ?_
  unfold mAndT at hq
  revert hq
  cases e1 : mt ρ with
  | stuck => exact fun z => z
  | exc c fs ρ' => exact fun z => z
  | ok x ρ1 =>
    intro hq F1 H1 s hp p R1
    cases x with
    | true => exact h2 F1 H1 σ ρ1 Q R1 (RunB.rebase (pu1 := pu1) s hp (fun e => by simpa using e) p hq)
    | false => exact hq F1 H1 s (fun e => hp (by simp at e; exact e.1)) p R1
theorem sim_orT {tt tu : TT} (h : SimT Z E os pu1 tt mt) (h2 : SimT Z E os pu2 tu mu) : SimT Z E os (pu1 && pu2) (tOr tt tu) (mOrT mt mu) := by
  intro F H σ ρ Q R hq
  refine h F H σ ρ _ R ?_
  unfold mOrT at hq
  revert hq
  cases e1 : mt ρ with
  | stuck => exact fun z => z
  | exc c fs ρ' => exact fun z => z
  | ok x ρ1 =>
    intro hq F1 H1 s hp p R1
    cases x with
    | false => exact h2 F1 H1 σ ρ1 Q R1 (RunB.rebase (pu1 := pu1) s hp (fun e => by simpa using e) p hq)
    | true => exact hq F1 H1 s (fun e => hp (by simp at e; exact e.1)) p R1
variable {rest : List Expr}
theorem wm_and1 (h : PTm X Z E os pu a mt) : PWm X Z E os pu (.BoolOp .And [a] pos) mt := let ⟨_, a1, a2⟩ := h; ⟨_, pw_and1 a1, a2⟩
theorem wm_or1 (h : PTm X Z E os pu a mt) : PWm X Z E os pu (.BoolOp .Or [a] pos) mt := let ⟨_, a1, a2⟩ := h; ⟨_, pw_or1 a1, a2⟩
theorem wm_and (h : PTm X Z E os pu1 a mt) (h2 : PWm X Z E os pu2 (.BoolOp .And (b :: rest) pos) mu) : PWm X Z E os (pu1 && pu2) (.BoolOp .And (a :: b :: rest) pos) (mAndT mt mu) := let ⟨_, a1, a2⟩ := h; let ⟨_, b1, b2⟩ := h2; ⟨_, pw_and a1 b1, sim_andT a2 b2⟩
theorem wm_or (h : PTm X Z E os pu1 a mt) (h2 : PWm X Z E os pu2 (.BoolOp .Or (b :: rest) pos) mu) : PWm X Z E os (pu1 && pu2) (.BoolOp .Or (a :: b :: rest) pos) (mOrT mt mu) := let ⟨_, a1, a2⟩ := h; let ⟨_, b1, b2⟩ := h2; ⟨_, pw_or a1 b1, sim_orT a2 b2⟩
theorem PWm.pt (h : PWm X Z E os pu a mt) : PTm X Z E os pu a mt := let ⟨_, a1, a2⟩ := h; ⟨_, a1.pt, a2⟩

/-! ### bools as values -/
def mAndV (ma mb : ME) : ME := fun ρ => (ma ρ).bind fun d ρ1 => match d with
  | .bl true => mb ρ1
  | .bl false => .ok (.bl false) ρ1
  | _ => .stuck
def mOrV (ma mb : ME) : ME := fun ρ => (ma ρ).bind fun d ρ1 => match d with
  | .bl true => .ok (.bl true) ρ1
  | .bl false => mb ρ1
  | _ => .stuck
def gNot : D → Option D
  | .bl b => some (.bl (!b))
  | _ => none
theorem sim_andV {ta tb : TE} (ha : SimE Z E os fl1 pu1 ta ma) (hb : SimE Z E os .fz pu2 tb mb) : SimE Z E os .fz (pu1 && pu2) (tAndV ta tb) (mAndV ma mb) := by
  intro F H σ ρ Q R hq
  refine ha F H σ ρ _ R ?_
  unfold mAndV at hq
  revert hq
  cases e1 : ma ρ with
  | stuck => exact fun z => z
  | exc c fs ρ' => exact fun z => z
  | ok x ρ1 =>
    intro hq F1 H1 v s hp p R1 r1
    cases x with
    | bl k =>
      refine ⟨k, r1.bo.bl, ?_⟩
      cases k with
      | true => exact hb F1 H1 σ ρ1 Q R1 (RunE.rebase (pu1 := pu1) s hp (fun e => by simpa using e) p hq)
      | false => exact hq F1 H1 (.bl false) s (fun e => hp (by simp at e; exact e.1)) p R1 (.bl false)
    | _ => exact hq.elim
theorem sim_orV {ta tb : TE} (ha : SimE Z E os fl1 pu1 ta ma) (hb : SimE Z E os .fz pu2 tb mb) : SimE Z E os .fz (pu1 && pu2) (tOrV ta tb) (mOrV ma mb) := by
  intro F H σ ρ Q R hq
  refine ha F H σ ρ _ R ?_
  unfold mOrV at hq
  revert hq
  cases e1 : ma ρ with
  | stuck => exact fun z => z
  | exc c fs ρ' => exact fun z => z
  | ok x ρ1 =>
    intro hq F1 H1 v s hp p R1 r1
    cases x with
    | bl k =>
      refine ⟨k, r1.bo.bl, ?_⟩
      cases k with
      | false => exact hb F1 H1 σ ρ1 Q R1 (RunE.rebase (pu1 := pu1) s hp (fun e => by simpa using e) p hq)
      | true => exact hq F1 H1 (.bl true) s (fun e => hp (by simp at e; exact e.1)) p R1 (.bl true)
    | _ => exact hq.elim
theorem em_and1 {o : BoolOp} (h : PEm X Z E os fl pu a ma) : PEm X Z E os fl pu (.BoolOp o [a] pos) ma := let ⟨_, a1, a2⟩ := h; ⟨_, pe_one a1, a2⟩
theorem em_and (ha : PEm X Z E os fl1 pu1 a ma) (hb : PEm X Z E os .fz pu2 (.BoolOp .And (b :: rest) pos) mb) : PEm X Z E os .fz (pu1 && pu2) (.BoolOp .And (a :: b :: rest) pos) (mAndV ma mb) := let ⟨_, a1, a2⟩ := ha; let ⟨_, b1, b2⟩ := hb; ⟨_, pe_and a1 b1, sim_andV a2 b2⟩
theorem em_or (ha : PEm X Z E os fl1 pu1 a ma) (hb : PEm X Z E os .fz pu2 (.BoolOp .Or (b :: rest) pos) mb) : PEm X Z E os .fz (pu1 && pu2) (.BoolOp .Or (a :: b :: rest) pos) (mOrV ma mb) := let ⟨_, a1, a2⟩ := ha; let ⟨_, b1, b2⟩ := hb; ⟨_, pe_or a1 b1, sim_orV a2 b2⟩
theorem em_not (ha : PEm X Z E os fl1 pu1 a ma) : PEm X Z E os .fz pu1 (.UnaryOp .Not a pos) (mOp1 gNot ma) := let ⟨_, a1, a2⟩ := ha; ⟨_, pe_not a1, sim_op1 (r := fun x H Q => ∃ c, x = .bl c ∧ Q (.bl (!c)) H) (fun F H d v Q e le bo hg k => by
  cases d with
  | bl b => cases hg; exact ⟨b, bo.bl, k F H _ (PStep.refl le) (.bl _)⟩
  | _ => cases hg) a2⟩
/-- a if t else b -/
def mIfE (mt : Rho → ER Bool) (ma mb : ME) : ME := fun ρ => (mt ρ).bind fun b ρ1 => if b = true then ma ρ1 else mb ρ1
theorem em_if (ht : PTm X Z E os pu c mt) (ha : PEm X Z E os fl pu1 a ma) (hb : PEm X Z E os fl pu2 b mb) : PEm X Z E os fl (pu && (pu1 && pu2)) (.IfExp c a b pos) (mIfE mt ma mb) := by
  obtain ⟨_, t1, t2⟩ := ht
  obtain ⟨_, a1, a2⟩ := ha
  obtain ⟨_, b1, b2⟩ := hb
  refine ⟨_, pe_ifExp t1 a1 b1, ?_⟩
  intro F H σ ρ Q R hq
  refine t2 F H σ ρ _ R ?_
  unfold mIfE at hq
  revert hq
  cases e1 : mt ρ with
  | stuck => exact fun z => z
  | exc c fs ρ' => exact fun z => z
  | ok x ρ1 =>
    intro hq F1 H1 s hp p R1
    cases x with
    | true => exact a2 F1 H1 σ ρ1 Q R1 (RunE.rebase (pu1 := pu) s hp (fun e => by simp at e; exact ⟨e.1, e.2.1⟩) p hq)
    | false => exact b2 F1 H1 σ ρ1 Q R1 (RunE.rebase (pu1 := pu) s hp (fun e => by simp at e; exact ⟨e.1, e.2.2⟩) p hq)
/-- a < b < c -/
def mChain (g g' : D → D → Option D) (ma mb mc : ME) : ME := fun ρ => (ma ρ).bind fun x ρ1 => (mb ρ1).bind fun y ρ2 => match g x y with
  | some (.bl true) => (mc ρ2).bind fun z ρ3 => ER.of (g' y z) ρ3
  | some (.bl false) => .ok (.bl false) ρ2
  | _ => .stuck
theorem sim_chain {r r' : R2} {g g' : D → D → Option D} {ta tb tc : TE} {mc : ME} (hr : Op2 Z r .fz g) (hr' : Op2 Z r' .fz g') (ha : SimE Z E os .fz true ta ma) (hb : SimE Z E os .fz true tb mb) (hc : SimE Z E os .fz true tc mc) :
    SimE Z E os .fz true (tChain r r' ta tb tc) (mChain g g' ma mb mc) := by
  intro F H σ ρ Q R h
  refine ha F H σ ρ _ R ?_
  unfold mChain at h
  revert h
  cases e1 : ma ρ with
  | stuck => exact fun z => z
  | exc c fs ρ' => exact fun z => z
  | ok x ρ1 =>
    intro h F1 H1 v s hp p R1 r1
    have h1 : RunE Z E os .fz true F1 H1 σ ρ1 ((mb ρ1).bind fun y ρ2 => match g x y with
      | some (.bl true) => (mc ρ2).bind fun z ρ3 => ER.of (g' y z) ρ3
      | some (.bl false) => .ok (.bl false) ρ2
      | _ => .stuck) Q := RunE.rebase (pu1 := true) (pu2 := true) s hp (fun e => by simp) p h
    refine hb F1 H1 σ ρ1 _ R1 ?_
    revert h1
    cases e2 : mb ρ1 with
    | stuck => exact fun z => z
    | exc c fs ρ' => exact fun z => z
    | ok y ρ2 =>
      intro h1 F2 H2 u s2 hp2 p2 R2 r2
      have h3 : RunE Z E os .fz true F2 H2 σ ρ2 (match g x y with
        | some (.bl true) => (mc ρ2).bind fun z ρ3 => ER.of (g' y z) ρ3
        | some (.bl false) => .ok (.bl false) ρ2
        | _ => .stuck) Q := RunE.rebase (pu1 := true) (pu2 := true) s2 hp2 (fun e => by simp) p2 h1
      cases eg : g x y with
      | none => rw [eg] at h3; exact h3.elim
      | some gd =>
        rw [eg] at h3
        refine hr F2 H2 x y v u _ gd R2.hk (.inl (r1.mono s2.f)) (.inl r2) eg fun F3 H3 w ps nr => ?_
        have R3 := R2.pstep ps
        have h4 := RunE.rebase (pu1 := true) (pu2 := true) (ps.step (O := Ow os σ ρ2)) (fun _ => ps.h) (fun e => by simp) Pin.refl h3
        cases gd with
        | bl k =>
          cases k with
          | true =>
            refine ⟨true, by cases nr; rfl, ?_⟩
            rw [if_pos rfl]
            refine hc F3 H3 σ ρ2 _ R3 ?_
            revert h4
            dsimp only [ER.bind]
            cases e3 : mc ρ2 with
            | stuck => exact fun z => z
            | exc c fs ρ' => exact fun z => z
            | ok z ρ3 =>
              intro h4 F4 H4 u2 s4 hp4 p4 R4 r4
              obtain ⟨e, he, h5⟩ := run_of (RunE.rebase (pu1 := true) (pu2 := true) s4 hp4 (fun e => by simp) p4 h4)
              have r2' : Rp Z F2 y u := r2
              exact hr' F4 H4 y z u u2 Q e R4.hk (.inl (r2'.mono (ps.f.trans s4.f))) (.inl r4) he fun F' H' w ps nr => RunE.fin R4 h5 ps nr
          | false =>
            refine ⟨false, by cases nr; rfl, ?_⟩
            rw [if_neg Bool.false_ne_true]
            exact RunE.fin R3 h4 (PStep.refl R3.hk) (.bl false)
        | _ => exact h3.elim
theorem em_chain {op op' : CmpOp} {r r' : R2} {g g' : D → D → Option D} {mc : ME} (ho : OpR X (compareOp op) r) (ho' : OpR X (compareOp op') r') (hr : Op2 Z r .fz g) (hr' : Op2 Z r' .fz g') (ha : PEm X Z E os .fz true a ma) (hb : PEm X Z E os .fz true b mb) (hc : PEm X Z E os .fz true c mc) (hm : lastMarks [op, op'] [b, c] = false := by with_unfolding_all rfl) :
    PEm X Z E os .fz true (.Compare a [op, op'] [b, c] pos) (mChain g g' ma mb mc) := let ⟨_, a1, a2⟩ := ha; let ⟨_, b1, b2⟩ := hb; let ⟨_, c1, c2⟩ := hc; ⟨_, pe_chain ho ho' a1 b1 c1 hm, sim_chain hr hr' a2 b2 c2⟩
theorem tm_chain {op op' : CmpOp} {r r' : R2} {g g' : D → D → Option D} {mc : ME} (ho : OpR X (compareOp op) r) (ho' : OpR X (compareOp op') r') (hr : Op2 Z r .fz g) (hr' : Op2 Z r' .fz g') (ha : PEm X Z E os .fz true a ma) (hb : PEm X Z E os .fz true b mb) (hc : PEm X Z E os .fz true c mc) (hm : lastMarks [op, op'] [b, c] = false := by with_unfolding_all rfl) :
    PTm X Z E os true (.Compare a [op, op'] [b, c] pos) (mT (mChain g g' ma mb mc)) := let ⟨_, a1, a2⟩ := ha; let ⟨_, b1, b2⟩ := hb; let ⟨_, c1, c2⟩ := hc; ⟨_, pt_chain ho ho' a1 b1 c1 hm, sim_tB (sim_chain hr hr' a2 b2 c2)⟩
end

/-! ### arguments -/
def mNil : Rho → ER (List D) := fun ρ => .ok [] ρ
def mCons (ma : ME) (ms : Rho → ER (List D)) : Rho → ER (List D) := fun ρ => (ma ρ).bind fun x ρ1 => (ms ρ1).bind fun xs ρ2 => .ok (x :: xs) ρ2
def mSl (ms : Rho → ER (List D)) : Rho → ER (List D) := fun ρ => (ms ρ).bind fun xs ρ1 => .ok (.non :: xs) ρ1
theorem am_nil : PAm X Z E os [] true [] mNil := ⟨_, pa_nil, fun F H σ ρ Q R h => h F H [] (PStep.refl R.hk).step (fun _ => Same.refl H) Pin.refl R .nil⟩
section
variable {e : Expr} {es : List Expr} {pu1 pu2 : Bool} {fls : List AF} {ma : ME} {ms : Rho → ER (List D)}
theorem sim_consA {fl : Fl} {ta : TE} {ts : TA} (f : AF) (hf : (fl = .fz ∧ f = .fz) ∨ (pu2 = true ∧ f = .bo) ∨ (fl = .fz ∧ f = .bo) ∨ (fl = .nw ∧ f = .tm)) (h : SimE Z E os fl pu1 ta ma) (hs : SimA Z E os fls pu2 ts ms) : SimA Z E os (f :: fls) (pu1 && pu2) (tCons ta ts) (mCons ma ms) := by
  intro F H σ ρ Q R h0
  refine h F H σ ρ _ R ?_
  unfold mCons at h0
  revert h0
  cases e1 : ma ρ with
  | stuck => exact fun z => z
  | exc c fs ρ' => exact fun z => z
  | ok x ρ1 =>
    intro h0 F1 H1 v s hp p R1 r1
    have h1 : ∀ F2 H2 us ρ2 y, ms ρ1 = .ok y ρ2 → Step (Ow os σ ρ1) (Ow os σ ρ2) F1 H1 F2 H2 → (pu2 = true → Same H1 H2) → Pin os σ σ ρ1 ρ2 → EnvR Z os F2 H2 σ ρ2 → ArgR Z os (Ow os σ ρ) H F2 H2 σ ρ2 f x v → ArgsR Z os (Ow os σ ρ1) H1 F2 H2 σ ρ2 fls y us → Q (v :: us) H2 := by
      intro F2 H2 us ρ2 y e2 s2 hp2 p2 R2 ra r2
      have h0 : RunA Z E os (f :: fls) (pu1 && pu2) F H σ ρ ((ms ρ1).bind fun xs ρ2 => .ok (x :: xs) ρ2) Q := h0
      rw [e2] at h0
      have hn : f = .tm → ∀ j : Nat, fls[j]? = some .tm → us[j]? ≠ some v := fun z j q1 q2 => by
        obtain ⟨l2, g1, g2⟩ := r2.get_tm q1 q2
        rcases hf with ⟨_, w⟩ | ⟨_, w⟩ | ⟨_, w⟩ | ⟨w1, w⟩
        · rw [w] at z; cases z
        · rw [w] at z; cases z
        · rw [w] at z; cases z
        · subst w1
          obtain ⟨l, a1, a2, a3, a4, a5⟩ := r1
          rw [a1] at g1; cases g1
          rcases g2 with g2 | g2
          · exact a4 g2.oa
          · obtain ⟨u, hu⟩ := a5.some
            rw [g2] at hu; cases hu
      exact h0 F2 H2 (v :: us) (s.trans s2) (fun e => (hp (by simp at e; exact e.1)).trans (hp2 (by simp at e; exact e.2))) (p.trans p2) R2 (.cons ra hn (r2.back s))
    have h0' : RunA Z E os (f :: fls) (pu1 && pu2) F H σ ρ ((ms ρ1).bind fun xs ρ2 => .ok (x :: xs) ρ2) Q := h0
    refine hs F1 H1 σ ρ1 _ R1 ?_
    revert h1 h0'
    cases e2 : ms ρ1 with
    | stuck => exact fun _ z => z
    | exc c fs ρ' => exact fun _ z F2 H2 s2 p2 R2 => z F2 H2 (s.trans s2) (p.trans p2) R2
    | ok y ρ2 =>
      intro h1 _ F2 H2 us s2 hp2 p2 R2 r2
      refine h1 F2 H2 us ρ2 y rfl s2 hp2 p2 R2 ?_ r2
      rcases hf with ⟨q1, q2⟩ | ⟨q1, q2⟩ | ⟨q1, q2⟩ | ⟨q1, q2⟩
      · subst q1 q2; exact r1.mono s2.f
      · subst q2; exact r1.bo.mono s2.f (hp2 q1)
      · subst q1 q2; exact .inl (r1.mono s2.f)
      · subst q1 q2; exact nw_keep s2 (fun i h => (p2 i h).2) r1
theorem am_fz (h : PEm X Z E os .fz pu1 e ma) (hs : PAm X Z E os fls pu2 es ms) (hst : starEach (e :: es) X.env = (false, eval e X.env) :: starEach es X.env := by rfl) : PAm X Z E os (.fz :: fls) (pu1 && pu2) (e :: es) (mCons ma ms) :=
  let ⟨_, a1, a2⟩ := h; let ⟨_, b1, b2⟩ := hs; ⟨_, pa_cons a1 b1 hst, sim_consA .fz (.inl ⟨rfl, rfl⟩) a2 b2⟩
theorem am_bo {fl : Fl} (h : PEm X Z E os fl pu1 e ma) (hs : PAm X Z E os fls true es ms) (hst : starEach (e :: es) X.env = (false, eval e X.env) :: starEach es X.env := by rfl) : PAm X Z E os (.bo :: fls) (pu1 && true) (e :: es) (mCons ma ms) :=
  let ⟨_, a1, a2⟩ := h; let ⟨_, b1, b2⟩ := hs; ⟨_, pa_cons a1 b1 hst, sim_consA .bo (.inr (.inl ⟨rfl, rfl⟩)) a2 b2⟩
theorem am_fb (h : PEm X Z E os .fz pu1 e ma) (hs : PAm X Z E os fls pu2 es ms) (hst : starEach (e :: es) X.env = (false, eval e X.env) :: starEach es X.env := by rfl) : PAm X Z E os (.bo :: fls) (pu1 && pu2) (e :: es) (mCons ma ms) :=
  let ⟨_, a1, a2⟩ := h; let ⟨_, b1, b2⟩ := hs; ⟨_, pa_cons a1 b1 hst, sim_consA .bo (.inr (.inr (.inl ⟨rfl, rfl⟩))) a2 b2⟩
theorem am_tm (h : PEm X Z E os .nw pu1 e ma) (hs : PAm X Z E os fls pu2 es ms) (hst : starEach (e :: es) X.env = (false, eval e X.env) :: starEach es X.env := by rfl) : PAm X Z E os (.tm :: fls) (pu1 && pu2) (e :: es) (mCons ma ms) :=
  let ⟨_, a1, a2⟩ := h; let ⟨_, b1, b2⟩ := hs; ⟨_, pa_cons a1 b1 hst, sim_consA .tm (.inr (.inr (.inr ⟨rfl, rfl⟩))) a2 b2⟩
/-- the object of a slot, for a callee that changes it -/
theorem am_sl {x : Str} {p : Pos} (i : Nat) (hs : PAm X Z E os fls pu2 es ms) (hN : X.N[i]? = some x := by rfl) (hv : Vis X.env.scope x := by first | exact Or.inl rfl | exact Or.inr (Or.inl rfl) | exact Or.inr (Or.inr rfl)) (hd : (x == ("__debug__" : Str)) = false := by decide)
    (hcd : (x == ("__classdict__" : Str)) = false := by decide) (hst : starEach (.Name x p :: es) X.env = (false, eval (.Name x p) X.env) :: starEach es X.env := by rfl) (ho : os.lookup i = some true := by rfl) : PAm X Z E os (.sl i :: fls) pu2 (.Name x p :: es) (fun ρ => match ρ[i]? with | some (some _) => mSl ms ρ | _ => .stuck) := by
  obtain ⟨ts, b1, b2⟩ := hs
  refine ⟨_, pa_cons (pe_var hN hv hd hcd) b1 hst, ?_⟩
  intro F H σ ρ Q R h0
  dsimp only at h0
  split at h0
  · rename_i d hd
    obtain ⟨l, h1, h2, h3⟩ := R.ow i d true hd ho
    refine ⟨.ref l, h1, ?_⟩
    unfold mSl at h0
    refine b2 F H σ ρ _ R ?_
    revert h0
    cases e2 : ms ρ with
    | stuck => exact fun z => z
    | exc c fs ρ' => exact fun z => z
    | ok y ρ2 => exact fun h0 F2 H2 us s2 hp2 p2 R2 r2 => h0 F2 H2 (.ref l :: us) s2 hp2 p2 R2 (.cons h1 (fun z => by cases z) r2)
  · exact h0.elim
end
/-- only frozen or borrowed ones -/
def Bos : List AF → Bool
  | [] => true
  | .sl _ :: _ => false
  | .tm :: _ => false
  | _ :: r => Bos r
theorem ArgsR.boL {O0 : Addr → Prop} {H0 F H : Hp} {σ : St} {ρ : Rho} {fls : List AF} {ds : List D} {vs : List V} (h : ArgsR Z os O0 H0 F H σ ρ fls ds vs) (hb : Bos fls = true) : BoL Z F H ds vs := by
  induction h with
  | nil => exact .nil
  | @cons f d v fs ds vs h _ r ih =>
    cases f with
    | fz => exact .cons (.inl h) (ih hb)
    | bo => exact .cons h (ih hb)
    | sl i => cases hb
    | tm => cases hb
def mOpN (g : List D → Option D) (ma : Rho → ER (List D)) : ME := fun ρ => (ma ρ).bind fun x ρ1 => ER.of (g x) ρ1
theorem sim_opN {fl : Fl} {pu : Bool} {fls : List AF} {r : List V → Hp → VK → Prop} {g : List D → Option D} {ta : TA} {ma : Rho → ER (List D)} (hr : OpN Z r fl g) (ha : SimA Z E os fls pu ta ma) (hb : Bos fls = true) : SimE Z E os fl pu (fun σ H Q => ta σ H fun vs H1 => r vs H1 Q) (mOpN g ma) := by
  intro F H σ ρ Q R h
  refine ha F H σ ρ _ R ?_
  unfold mOpN at h
  revert h
  cases e1 : ma ρ with
  | stuck => exact fun z => z
  | exc c fs ρ' => exact fun z => z
  | ok x ρ1 =>
    intro h F1 H1 v s hp p R1 r1
    obtain ⟨e, he, h2⟩ := run_of (RunE.rebase (pu2 := true) s hp (fun e => ⟨e, rfl⟩) p h)
    exact hr F1 H1 x v Q e R1.hk (r1.boL hb) he fun F' H' w ps nr => RunE.fin R1 h2 ps nr
section
variable {x : Str} {e : Expr} {es : List Expr} {fl : Fl} {pu : Bool} {fls : List AF} {r : List V → Hp → VK → Prop} {g : List D → Option D} {ma : Rho → ER (List D)} {p pos : Pos}
theorem em_callB {id : String} (hc : CallR X (.builtin id) r) (hr : OpN Z r fl g) (hg : Gl X x) (hm : X.mg x = none) (hv : bootBuiltins x = some (.builtin id)) (ha : PAm X Z E os fls pu (e :: es) ma) (hb : Bos fls = true := by rfl)
    (hn : x ≠ "__name__" := by decide) (hd : (x == ("__debug__" : Str)) = false := by decide) (he : starEach (e :: es) X.env = (false, eval e X.env) :: starEach es X.env := by rfl) (hpl : (backTo pos (starEach es X.env)).any (·.1) = false := by rfl) :
    PEm X Z E os fl pu (.Call (.Name x p) (e :: es) [] pos) (mOpN g ma) := let ⟨_, a1, a2⟩ := ha; ⟨_, pe_callB hc hg hm hv a1 hn hd he hpl, sim_opN hr a2 hb⟩
theorem em_callTy {T : String} (hc : CallR X (.type T) r) (hr : OpN Z r fl g) (hg : Gl X x) (hm : X.mg x = none) (hv : bootBuiltins x = some (.type T)) (ha : PAm X Z E os fls pu (e :: es) ma) (hb : Bos fls = true := by rfl)
    (hn : x ≠ "__name__" := by decide) (hd : (x == ("__debug__" : Str)) = false := by decide) (he : starEach (e :: es) X.env = (false, eval e X.env) :: starEach es X.env := by rfl) (hpl : (backTo pos (starEach es X.env)).any (·.1) = false := by rfl) :
    PEm X Z E os fl pu (.Call (.Name x p) (e :: es) [] pos) (mOpN g ma) := let ⟨_, a1, a2⟩ := ha; ⟨_, pe_callTy hc hg hm hv a1 hn hd he hpl, sim_opN hr a2 hb⟩
end
end Vm
/-! Vm3: statements. -/
namespace Vm
open PySem L2
variable {Z : Par} {E : St → XK} {os : Os} {X : Cx} {io : List Nat} {rf : Fl}

/-! ### a slot is stored -/
theorem lookup_set_some {ρ : Rho} {i j : Nat} {d x : D} (h : (ρ.set i (some d))[j]? = some (some x)) : (j = i ∧ x = d ∧ i < ρ.length) ∨ (j ≠ i ∧ ρ[j]? = some (some x)) := by
  by_cases e : i = j
  · subst e
    by_cases hl : i < ρ.length
    · rw [List.getElem?_set_self hl] at h; cases h; exact .inl ⟨rfl, rfl, hl⟩
    · rw [List.getElem?_eq_none (by rw [List.length_set]; omega)] at h; cases h
  · rw [List.getElem?_set_ne e] at h
    exact .inr ⟨Ne.symm e, h⟩
theorem get_set_ne {σ : St} {i j : Nat} {v : Option V} (h : j ≠ i) : (σ.set i v)[j]? = σ[j]? := List.getElem?_set_ne (Ne.symm h)
/-- frozen data at a slot -/
theorem Go.setF {F H : Hp} {σ : St} {ρ : Rho} {i : Nat} {d : D} {v : V} (R : EnvR Z os F H σ ρ) (ho : os.lookup i = none) (hio : i ∉ io) (r : Rp Z F d v) : Go Z os io σ ρ F H (σ.set i (some v)) (ρ.set i (some d)) F H := by
  have hσ : ∀ j, j ≠ i → (σ.set i (some v))[j]? = σ[j]? := fun j h => get_set_ne h
  have back : ∀ j b, os.lookup j = some b → j ≠ i := fun j b h e => by subst e; rw [ho] at h; cases h
  refine ⟨⟨Same.refl F, fun _ _ h => .inl h, fun _ _ h _ => h, fun a h => ?_, fun _ h => h⟩, fun j h => ?_, ⟨R.ex.to (Same.refl F) (fun _ h => h) fun j h => hσ j (back j false h), R.hk, by rw [List.length_set, List.length_set]; exact R.len, fun j x h n => ?_, fun j x b h n => ?_, fun j k b c l h1 h2 ⟨x, h3⟩ ⟨y, h4⟩ h5 h6 => ?_⟩, fun j h => ?_⟩
  · obtain ⟨j, h1, ⟨x, h2⟩, h3⟩ := h
    have ne := back j true h1
    rcases lookup_set_some h2 with ⟨e, _⟩ | ⟨_, h2⟩
    · exact absurd e ne
    · exact .inl ⟨j, h1, ⟨x, h2⟩, by rw [← hσ j ne]; exact h3⟩
  · have ne := back j false h
    exact ⟨hσ j ne, List.getElem?_set_ne (Ne.symm ne)⟩
  · rcases lookup_set_some h with ⟨e, e2, hl⟩ | ⟨ne, h⟩
    · subst e e2
      exact ⟨v, by rw [List.getElem?_set_self (by rw [R.len]; exact hl)], r⟩
    · rw [hσ j ne]; exact R.fz j x h n
  · have ne := back j b n
    rcases lookup_set_some h with ⟨e, _⟩ | ⟨_, h⟩
    · exact absurd e ne
    · rw [hσ j ne]; exact R.ow j x b h n
  · have ne := back j b h1
    have ne2 := back k c h2
    rcases lookup_set_some h3 with ⟨e, _⟩ | ⟨_, h3⟩
    · exact absurd e ne
    rcases lookup_set_some h4 with ⟨e, _⟩ | ⟨_, h4⟩
    · exact absurd e ne2
    rw [hσ j ne] at h5
    rw [hσ k ne2] at h6
    exact R.ne j k b c l h1 h2 ⟨x, h3⟩ ⟨y, h4⟩ h5 h6
  · exact hσ j fun e => hio (e ▸ h)
/-- a new object at a slot of one's own; (F0, H0): before it was made -/
theorem Go.setO {F H F0 H0 : Hp} {σ : St} {ρ ρ0 : Rho} {i : Nat} {d : D} {v : V} (s : Step (Ow os σ ρ0) (Ow os σ ρ) F0 H0 F H) (p : Pin os σ σ ρ0 ρ) (R : EnvR Z os F H σ ρ) (ho : os.lookup i = some true) (hio : i ∉ io) (r : ResR Z .nw (Ow os σ ρ0) (Oa os σ ρ) H0 F H d v) :
    Go Z os io σ ρ0 F0 H0 (σ.set i (some v)) (ρ.set i (some d)) F H := by
  obtain ⟨l, e0, hl0, hF, hO, own⟩ := r
  subst e0
  have hσ : ∀ j, j ≠ i → (σ.set i (some (.ref l)))[j]? = σ[j]? := fun j h => get_set_ne h
  refine ⟨⟨s.f, s.n, s.k, fun a h => ?_, s.d⟩, fun j h => ?_, ⟨R.ex.to (Same.refl F) (fun _ h => h) fun j h => hσ j (fun e => by subst e; rw [ho] at h; cases h), R.hk, by rw [List.length_set, List.length_set]; exact R.len, fun j x h n => ?_, fun j x b h n => ?_, fun j k b c l' h1 h2 ⟨x, h3⟩ ⟨y, h4⟩ h5 h6 => ?_⟩, fun j h => ?_⟩
  · obtain ⟨j, h1, ⟨x, h2⟩, h3⟩ := h
    rcases lookup_set_some h2 with ⟨e, e2, hl⟩ | ⟨ne, h2⟩
    · subst e
      rw [List.getElem?_set_self (by rw [R.len]; exact hl)] at h3
      cases h3
      exact hl0
    · exact s.w a ⟨j, h1, ⟨x, h2⟩, by rw [← hσ j ne]; exact h3⟩
  · have ne : j ≠ i := fun e => by subst e; rw [ho] at h; cases h
    exact ⟨hσ j ne, (List.getElem?_set_ne (Ne.symm ne)).trans (p j h).2⟩
  · have ne : j ≠ i := fun e => by subst e; rw [ho] at n; cases n
    rcases lookup_set_some h with ⟨e, _⟩ | ⟨_, h⟩
    · exact absurd e ne
    · rw [hσ j ne]; exact R.fz j x h n
  · rcases lookup_set_some h with ⟨e, e2, hl⟩ | ⟨ne, h⟩
    · subst e e2
      rw [ho] at n; cases n
      exact ⟨l, by rw [List.getElem?_set_self (by rw [R.len]; exact hl)], hF, own⟩
    · rw [hσ j ne]; exact R.ow j x b h n
  · rcases lookup_set_some h3 with ⟨e, e2, hl⟩ | ⟨ne, h3'⟩
    · rcases lookup_set_some h4 with ⟨e', _⟩ | ⟨ne2, h4'⟩
      · rw [e, e']
      · subst e
        rw [List.getElem?_set_self (by rw [R.len]; exact hl)] at h5
        cases h5
        rw [hσ k ne2] at h6
        exact absurd ⟨k, c, h2, ⟨y, h4'⟩, h6⟩ hO
    · rcases lookup_set_some h4 with ⟨e', _, hl⟩ | ⟨ne2, h4'⟩
      · subst e'
        rw [List.getElem?_set_self (by rw [R.len]; exact hl)] at h6
        cases h6
        rw [hσ j ne] at h5
        exact absurd ⟨j, b, h1, ⟨x, h3'⟩, h5⟩ hO
      · rw [hσ j ne] at h5
        rw [hσ k ne2] at h6
        exact R.ne j k b c l' h1 h2 ⟨x, h3'⟩ ⟨y, h4'⟩ h5 h6
  · exact hσ j fun e => hio (e ▸ h)

/-! ### small statements -/
def mSet (i : Nat) (me : ME) : MS := fun ρ => match me ρ with
  | .ok d ρ1 => .nx (ρ1.set i (some d))
  | .exc c fs ρ1 => .exc c fs ρ1
  | .stuck => .stuck
theorem sim_setF {i : Nat} {pu : Bool} {te : TE} {me : ME} (h : SimE Z E os .fz pu te me) (ho : os.lookup i = none) (hio : i ∉ io) : SimS Z E os io rf (tAsg te (gName i)) (mSet i me) := by
  intro F H σ ρ K R q
  refine h F H σ ρ _ R ?_
  unfold mSet at q
  revert q
  cases me ρ with
  | stuck => exact fun z => z
  | exc c fs ρ' => exact fun q F' H' s p R' => q F' H' σ (.ofE s p R')
  | ok d ρ1 => exact fun q F' H' v s _ p R' r => q F' H' _ ((Go.ofE s p R').trans (Go.setF R' ho hio r))
theorem sim_setO {i : Nat} {pu : Bool} {te : TE} {me : ME} (h : SimE Z E os .nw pu te me) (ho : os.lookup i = some true) (hio : i ∉ io) : SimS Z E os io rf (tAsg te (gName i)) (mSet i me) := by
  intro F H σ ρ K R q
  refine h F H σ ρ _ R ?_
  unfold mSet at q
  revert q
  cases me ρ with
  | stuck => exact fun z => z
  | exc c fs ρ' => exact fun q F' H' s p R' => q F' H' σ (.ofE s p R')
  | ok d ρ1 => exact fun q F' H' v s _ p R' r => q F' H' _ (Go.setO s p R' ho hio r)
def mDrop (me : ME) : MS := fun ρ => match me ρ with
  | .ok _ ρ1 => .nx ρ1
  | .exc c fs ρ1 => .exc c fs ρ1
  | .stuck => .stuck
theorem sim_drop {fl : Fl} {pu : Bool} {te : TE} {me : ME} (h : SimE Z E os fl pu te me) : SimS Z E os io rf (tDrop te) (mDrop me) := by
  intro F H σ ρ K R q
  refine h F H σ ρ _ R ?_
  unfold mDrop at q
  revert q
  cases me ρ with
  | stuck => exact fun z => z
  | exc c fs ρ' => exact fun q F' H' s p R' => q F' H' σ (.ofE s p R')
  | ok d ρ1 => exact fun q F' H' v s _ p R' r => q F' H' σ (.ofE s p R')
def mRet (me : ME) : MS := fun ρ => match me ρ with
  | .ok d ρ1 => .rt d ρ1
  | .exc c fs ρ1 => .exc c fs ρ1
  | .stuck => .stuck
theorem sim_ret {pu : Bool} {te : TE} {me : ME} (h : SimE Z E os rf pu te me) : SimS Z E os io rf (tRet te) (mRet me) := by
  intro F H σ ρ K R q
  refine h F H σ ρ _ R ?_
  unfold mRet at q
  revert q
  cases me ρ with
  | stuck => exact fun z => z
  | exc c fs ρ' => exact fun q F' H' s p R' => q F' H' σ (.ofE s p R')
  | ok d ρ1 => exact fun q F' H' v s _ p R' r => q F' H' σ v (.ofE s p R') r
def mRetN : MS := fun ρ => .rt .non ρ
theorem Go.refl {F H : Hp} {σ : St} {ρ : Rho} (R : EnvR Z os F H σ ρ) : Go Z os io σ ρ F H σ ρ F H := .ofE Step.refl Pin.refl R
def mNext : MS := fun ρ => .nx ρ
def mBrk : MS := fun ρ => .bk ρ
def mCt : MS := fun ρ => .ct ρ
def mSeq (m n : MS) : MS := fun ρ => match m ρ with
  | .nx ρ1 => n ρ1
  | r => r
theorem sim_seq {t u : TS} {m n : MS} (h1 : SimS Z E os io rf t m) (h2 : SimS Z E os io rf u n) : SimS Z E os io rf (tSeq t u) (mSeq m n) := by
  intro F H σ ρ K R q
  refine h1 F H σ ρ _ R ?_
  unfold mSeq at q
  revert q
  cases m ρ with
  | nx ρ1 => exact fun q F' H' σ' g => h2 F' H' σ' ρ1 K g.e (q.rebase g)
  | rt d ρ1 => exact fun q => q
  | bk ρ1 => exact fun q => q
  | ct ρ1 => exact fun q => q
  | exc c fs ρ1 => exact fun q => q
  | stuck => exact fun q => q
def mIf (mt : Rho → ER Bool) (m n : MS) : MS := fun ρ => match mt ρ with
  | .ok true ρ1 => m ρ1
  | .ok false ρ1 => n ρ1
  | .exc c fs ρ1 => .exc c fs ρ1
  | .stuck => .stuck
theorem sim_if {pu : Bool} {tt : TT} {mt : Rho → ER Bool} {t u : TS} {m n : MS} (h : SimT Z E os pu tt mt) (h1 : SimS Z E os io rf t m) (h2 : SimS Z E os io rf u n) : SimS Z E os io rf (tIfS tt t u) (mIf mt m n) := by
  intro F H σ ρ K R q
  refine h F H σ ρ _ R ?_
  unfold mIf at q
  revert q
  cases mt ρ with
  | stuck => exact fun z => z
  | exc c fs ρ' => exact fun q F' H' s p R' => q F' H' σ (.ofE s p R')
  | ok b ρ1 =>
    cases b with
    | true => exact fun q F' H' s _ p R' => h1 F' H' σ ρ1 K R' (q.rebase (.ofE s p R'))
    | false => exact fun q F' H' s _ p R' => h2 F' H' σ ρ1 K R' (q.rebase (.ofE s p R'))
section
variable {e : Expr} {x : Str} {pos pos' : Pos} {pu : Bool} {fl : Fl} {me : ME}
theorem sm_set (i : Nat) (he : PEm X Z E os .fz pu e me) (hN : X.N.Nodup) (ho : os.lookup i = none := by rfl) (hio : i ∉ io := by decide) (hi : X.N[i]? = some x := by rfl) (hx : Loc X.env.scope x := by first | exact .inl rfl | exact .inr rfl)
    (hs : swapsWith e (some (.Name x pos')) pos.line X.env = pure false := by rfl) (hf : X.fn x = true ∨ X.env.scope.names.lookup x = some .local := by first | exact .inl rfl | exact .inr rfl) :
    PSm X Z E os io rf (.Assign [.Name x pos'] e pos) (mSet i me) := let ⟨_, a, b⟩ := he; ⟨_, ps_set hN hi hx a hs hf, sim_setF b ho hio⟩
theorem sm_setO (i : Nat) (he : PEm X Z E os .nw pu e me) (hN : X.N.Nodup) (ho : os.lookup i = some true := by rfl) (hio : i ∉ io := by decide) (hi : X.N[i]? = some x := by rfl) (hx : Loc X.env.scope x := by first | exact .inl rfl | exact .inr rfl)
    (hs : swapsWith e (some (.Name x pos')) pos.line X.env = pure false := by rfl) (hf : X.fn x = true ∨ X.env.scope.names.lookup x = some .local := by first | exact .inl rfl | exact .inr rfl) :
    PSm X Z E os io rf (.Assign [.Name x pos'] e pos) (mSet i me) := let ⟨_, a, b⟩ := he; ⟨_, ps_set hN hi hx a hs hf, sim_setO b ho hio⟩
theorem sm_expr (he : PEm X Z E os fl pu e me) (hs : swapsWith e none pos.line X.env = pure false := by rfl) : PSm X Z E os io rf (.Expr e pos) (mDrop me) := let ⟨_, a, b⟩ := he; ⟨_, ps_expr a hs, sim_drop b⟩
theorem sm_ret (he : PEm X Z E os rf pu e me) : PSm X Z E os io rf (.Return (some e) pos) (mRet me) := let ⟨_, a, b⟩ := he; ⟨_, ps_ret a, sim_ret b⟩
theorem sm_retN : PSm X Z E os io .fz (.Return none pos) mRetN := ⟨_, ps_retN, fun F H σ ρ K R q => q F H σ .non (Go.refl R) .non⟩
theorem sm_pass : PSm X Z E os io rf (.Pass pos) mNext := ⟨_, ps_pass, fun F H σ ρ K R q => q F H σ (Go.refl R)⟩
theorem sm_break : PSm X Z E os io rf (.Break pos) mBrk := ⟨_, ps_break, fun F H σ ρ K R q => q F H σ (Go.refl R)⟩
theorem sm_continue : PSm X Z E os io rf (.Continue pos) mCt := ⟨_, ps_continue, fun F H σ ρ K R q => q F H σ (Go.refl R)⟩
variable {s : Stmt} {rest : List Stmt} {m n : MS}
theorem ssm_nil : PSsm X Z E os io rf [] mNext := ⟨_, pss_nil, fun F H σ ρ K R q => q F H σ (Go.refl R)⟩
theorem ssm_cons (h1 : PSm X Z E os io rf s m) (h2 : PSsm X Z E os io rf rest n) : PSsm X Z E os io rf (s :: rest) (mSeq m n) := let ⟨_, a, b⟩ := h1; let ⟨_, c, d⟩ := h2; ⟨_, pss_cons a c, sim_seq b d⟩
theorem ssm_one (h1 : PSm X Z E os io rf s m) : PSsm X Z E os io rf [s] m := let ⟨_, a, b⟩ := h1; ⟨_, pss_one a, b⟩
theorem sm_if {a b : List Stmt} {mt : Rho → ER Bool} (ht : PTm X Z E os pu e mt) (h1 : PSsm X Z E os io rf a m) (h2 : PSsm X Z E os io rf b n) : PSm X Z E os io rf (.If e a b pos) (mIf mt m n) :=
  let ⟨_, t1, t2⟩ := ht; let ⟨_, a1, a2⟩ := h1; let ⟨_, b1, b2⟩ := h2; ⟨_, ps_if t1 a1 b1, sim_if t2 a2 b2⟩
end

/-! ### targets -/
def SimG (Z : Par) (os : Os) (io : List Nat) (g : TG) (mb : D → Rho → Option Rho) : Prop := ∀ (F H : Hp) (σ : St) (ρ : Rho) (d : D) (v : V) (Q : St → Hp → Prop), EnvR Z os F H σ ρ → Rp Z F d v →
  (match mb d ρ with
   | some ρ' => ∀ σ', Go Z os io σ ρ F H σ' ρ' F H → Q σ' H
   | none => False) → g v σ H Q
def SimGs (Z : Par) (os : Os) (io : List Nat) (g : TGs) (mb : List D → Rho → Option Rho) : Prop := ∀ (F H : Hp) (σ : St) (ρ : Rho) (ds : List D) (vs : List V) (Q : St → Hp → Prop), EnvR Z os F H σ ρ → RpL Z F ds vs →
  (match mb ds ρ with
   | some ρ' => ∀ σ', Go Z os io σ ρ F H σ' ρ' F H → Q σ' H
   | none => False) → g vs σ H Q
section
variable (X : Cx) (Z : Par) (os : Os) (io : List Nat)
def PGm (tg : Expr) (mb : D → Rho → Option Rho) : Prop := ∃ g, PG X tg g ∧ SimG Z os io g mb
def PGsm (tg : List Expr) (mb : List D → Rho → Option Rho) : Prop := ∃ g, PGs X tg g ∧ SimGs Z os io g mb
end
def bName (i : Nat) : D → Rho → Option Rho := fun d ρ => some (ρ.set i (some d))
def bNil : List D → Rho → Option Rho := fun ds ρ => match ds with
  | [] => some ρ
  | _ => none
def bCons (b : D → Rho → Option Rho) (bs : List D → Rho → Option Rho) : List D → Rho → Option Rho := fun ds ρ => match ds with
  | d :: r => (b d ρ).bind (bs r)
  | [] => none
def bTup (n : Nat) (bs : List D → Rho → Option Rho) : D → Rho → Option Rho := fun d ρ => match d with
  | .tup ds => if ds.length = n then bs ds ρ else none
  | _ => none
theorem gm_name {x : Str} {pos : Pos} (i : Nat) (hN : X.N.Nodup) (ho : os.lookup i = none := by rfl) (hio : i ∉ io := by decide) (hi : X.N[i]? = some x := by rfl) (hx : Loc X.env.scope x := by first | exact .inl rfl | exact .inr rfl) (hf : X.fn x = true ∨ X.env.scope.names.lookup x = some .local := by first | exact .inl rfl | exact .inr rfl) :
    PGm X Z os io (.Name x pos) (bName i) := ⟨_, pg_name hN hi hx hf, fun F H σ ρ d v Q R r q => q _ (Go.setF R ho hio r)⟩
theorem gsm_nil : PGsm X Z os io [] bNil := ⟨_, pgs_nil, fun F H σ ρ ds vs Q R r q => by
  cases r with
  | nil => exact ⟨rfl, q σ (Go.refl R)⟩
  | cons _ _ => exact q.elim⟩
theorem gsm_cons {e : Expr} {es : List Expr} {b : D → Rho → Option Rho} {bs : List D → Rho → Option Rho} (h1 : PGm X Z os io e b) (h2 : PGsm X Z os io es bs)
    (hs : (assignEach (e :: es) X.env).map (·.2) = assign e X.env :: (assignEach es X.env).map (·.2) := by rfl) : PGsm X Z os io (e :: es) (bCons b bs) := by
  obtain ⟨g1, a1, a2⟩ := h1
  obtain ⟨g2, b1, b2⟩ := h2
  refine ⟨_, pgs_cons a1 b1 hs, fun F H σ ρ ds vs Q R r q => ?_⟩
  cases r with
  | nil => exact q.elim
  | @cons d ds v vs r rr =>
    refine ⟨v, vs, rfl, a2 F H σ ρ d v _ R r ?_⟩
    have q : (match (b d ρ).bind (bs ds) with
      | some ρ' => ∀ σ', Go Z os io σ ρ F H σ' ρ' F H → Q σ' H
      | none => False) := q
    revert q
    cases b d ρ with
    | none => exact fun z => z
    | some ρ1 =>
      intro q σ1 g
      refine b2 F H σ1 ρ1 ds vs Q g.e rr ?_
      have q : (match bs ds ρ1 with
        | some ρ' => ∀ σ', Go Z os io σ ρ F H σ' ρ' F H → Q σ' H
        | none => False) := q
      revert q
      cases bs ds ρ1 with
      | none => exact fun z => z
      | some ρ2 => exact fun q σ2 g2 => q σ2 (g.trans g2)
theorem gm_tup {es : List Expr} {k n : Nat} {pos : Pos} {bs : List D → Rho → Option Rho} (hc : X.calm = true) (h : PGsm X Z os io es bs) (hn : (assignEach es X.env).length = n := by rfl) (hst : (assignEach es X.env).findIdx? (·.1) = none := by rfl) :
    PGm X Z os io (.Tuple es k pos) (bTup n bs) := by
  obtain ⟨g, a1, a2⟩ := h
  refine ⟨_, pg_tup hc a1 hn hst, fun F H σ ρ d v Q R r q => ?_⟩
  unfold bTup at q
  cases d with
  | tup ds =>
    dsimp only at q
    cases r with
    | @tup a vs _ h1 h2 =>
      by_cases hl : ds.length = n
      · rw [if_pos hl] at q
        exact ⟨a, vs, rfl, SqT.of (R.hk.tup h1), by rw [← h2.length]; exact hl, a2 F H σ ρ ds vs Q R h2 q⟩
      · rw [if_neg hl] at q; exact q.elim
  | _ => exact q.elim
/-- target = value -/
def mAsg (b : D → Rho → Option Rho) (me : ME) : MS := fun ρ => match me ρ with
  | .ok d ρ1 => (match b d ρ1 with
    | some ρ2 => .nx ρ2
    | none => .stuck)
  | .exc c fs ρ1 => .exc c fs ρ1
  | .stuck => .stuck
theorem sm_asg {tg e : Expr} {pos : Pos} {pu : Bool} {me : ME} {b : D → Rho → Option Rho} (he : PEm X Z E os .fz pu e me) (hg : PGm X Z os io tg b) (hs : swapsWithSole [tg] e pos.line X.env = pure false := by rfl) (hw : swappedStores [tg] e X.env = pure none := by rfl)
    (h1 : (assignEach [tg] X.env).map (·.2) = [assign tg X.env] := by rfl) : PSm X Z E os io rf (.Assign [tg] e pos) (mAsg b me) := by
  obtain ⟨te, a1, a2⟩ := he
  obtain ⟨g, b1, b2⟩ := hg
  refine ⟨_, ps_asg a1 b1 hs hw h1, fun F H σ ρ K R q => a2 F H σ ρ _ R ?_⟩
  unfold mAsg at q
  revert q
  cases me ρ with
  | stuck => exact fun z => z
  | exc c fs ρ' => exact fun q F' H' s p R' => q F' H' σ (.ofE s p R')
  | ok d ρ1 =>
    intro q F' H' v s _ p R' r
    refine b2 F' H' σ ρ1 d v _ R' r ?_
    dsimp only at q
    revert q
    cases b d ρ1 with
    | none => exact fun z => z
    | some ρ2 => exact fun q σ2 g2 => q F' H' σ2 ((Go.ofE s p R').trans g2)

/-! ### loops over what stands still -/
/-- J walks ds, whatever is made meanwhile -/
def Wk (Z : Par) (J : It) (F0 : Hp) (kc : List (Addr × HO)) (ds : List D) : Prop := ∀ (i : Nat) (F H : Hp), Same F0 F → Hk Z F H → (∀ p ∈ kc, H p.1 = some p.2) →
  (i < ds.length → J.go i H ∧ ∀ x H', J.yld i H x H' → ∃ F' d, PStep Z F H F' H' ∧ ds[i]? = some d ∧ Rp Z F' d x) ∧ (i = ds.length → J.stop i H)
/-- the iterable: what it walks, and what must stay as it is -/
def RunI (Z : Par) (E : St → XK) (os : Os) (pu : Bool) (F H : Hp) (σ : St) (ρ : Rho) (r : ER (List D)) (Q : It → Hp → Prop) : Prop := match r with
   | .ok ds ρ' => ∀ (F' H' : Hp) (J : It), Step (Ow os σ ρ) (Ow os σ ρ') F H F' H' → (pu = true → Same H H') → Pin os σ σ ρ ρ' → EnvR Z os F' H' σ ρ' → Wk Z J F' [] ds → Q J H'
   | .exc c fs ρ' => ∀ (F' H' : Hp), Step (Ow os σ ρ) (Ow os σ ρ') F H F' H' → Pin os σ σ ρ ρ' → EnvR Z os F' H' σ ρ' → ExcG Z (E σ) c fs F' H'
   | .stuck => False
def SimI (Z : Par) (E : St → XK) (os : Os) (pu : Bool) (wi : TI) (mi : Rho → ER (List D)) : Prop := ∀ (F H : Hp) (σ : St) (ρ : Rho) (Q : It → Hp → Prop), EnvR Z os F H σ ρ → RunI Z E os pu F H σ ρ (mi ρ) Q → wi σ H Q
def PIm (X : Cx) (Z : Par) (E : St → XK) (os : Os) (pu : Bool) (tg iter : Expr) (mi : Rho → ER (List D)) : Prop := ∃ wi, PI X tg iter wi ∧ SimI Z E os pu wi mi

def mLoop (b : D → Rho → Option Rho) (body : MS) : List D → MS
  | [], ρ => .nx ρ
  | d :: ds, ρ => match b d ρ with
    | none => .stuck
    | some ρ1 => match body ρ1 with
      | .nx ρ2 => mLoop b body ds ρ2
      | .ct ρ2 => mLoop b body ds ρ2
      | .bk ρ2 => .nx ρ2
      | r => r
def mFor (b : D → Rho → Option Rho) (mi : Rho → ER (List D)) (body : MS) : MS := fun ρ => match mi ρ with
  | .ok ds ρ1 => mLoop b body ds ρ1
  | .exc c fs ρ1 => .exc c fs ρ1
  | .stuck => .stuck
/-- the loop itself -/
theorem loop_go {J : It} {g : TG} {tb : TS} {b : D → Rho → Option Rho} {body : MS} {ds : List D} {F0 : Hp} {kc : List (Addr × HO)} {F H : Hp} {σ : St} {ρ : Rho} {K : Ends}
    (hg : SimG Z os io g b) (hb : SimS Z E os io rf tb body) (w : Wk Z J F0 kc ds) (f0 : Same F0 F) (R : EnvR Z os F H σ ρ) (hk : ∀ p ∈ kc, H p.1 = some p.2)
    (hkc : ∀ F' H' σ' ρ', Go Z os io σ ρ F H σ' ρ' F' H' → ∀ p ∈ kc, ¬ Ow os σ' ρ' p.1) (q : RunS Z E os io rf F H σ ρ (mLoop b body ds ρ) K) :
    ∃ W : Nat → Nat → St → Hp → Prop, (∃ m, W 0 m σ H) ∧ ∀ i m σ H, W i m σ H →
      (J.stop i H ∧ K.nx σ H) ∨ (J.go i H ∧ ∃ N : St → Hp → Prop, (∀ σ' H', N σ' H' → ∃ m', m' < m ∧ W (i + 1) m' σ' H') ∧ ∀ x H', J.yld i H x H' → g x σ H' fun σ2 H2 => tb { K with nx := N, ct := N, bk := K.nx } σ2 H2) := by
  refine ⟨fun i m σ' H' => m = ds.length - i ∧ i ≤ ds.length ∧ ∃ F' ρ', Go Z os io σ ρ F H σ' ρ' F' H' ∧ (∀ p ∈ kc, H' p.1 = some p.2) ∧ RunS Z E os io rf F' H' σ' ρ' (mLoop b body (ds.drop i) ρ') K, ⟨ds.length, by simp, Nat.zero_le _, F, ρ, Go.refl R, hk, by rw [List.drop_zero]; exact q⟩, ?_⟩
  rintro i m σ1 H1 ⟨rfl, hi, F1, ρ1, g1, hk1, q1⟩
  obtain ⟨w1, w2⟩ := w i F1 H1 (f0.trans g1.s.f) g1.e.hk hk1
  by_cases hlt : i < ds.length
  · obtain ⟨jg, jy⟩ := w1 hlt
    have hd : ds.drop i = ds[i] :: ds.drop (i + 1) := List.drop_eq_getElem_cons hlt
    refine .inr ⟨jg, fun σ' H' => ∃ F' ρ', Go Z os io σ ρ F H σ' ρ' F' H' ∧ (∀ p ∈ kc, H' p.1 = some p.2) ∧ RunS Z E os io rf F' H' σ' ρ' (mLoop b body (ds.drop (i + 1)) ρ') K, fun σ' H' n => ⟨ds.length - (i + 1), by omega, rfl, hlt, n⟩, fun x H2 y => ?_⟩
    obtain ⟨F2, d, ps, hd2, r⟩ := jy x H2 y
    have ed : d = ds[i] := by rw [List.getElem?_eq_getElem hlt] at hd2; exact (Option.some.inj hd2).symm
    subst ed
    have R2 := g1.e.pstep ps
    have g2 : Go Z os io σ1 ρ1 F1 H1 σ1 ρ1 F2 H2 := .ofE ps.step Pin.refl R2
    have hk2 : ∀ p ∈ kc, H2 p.1 = some p.2 := fun p hp => ps.h _ _ (hk1 p hp)
    refine hg F2 H2 σ1 ρ1 ds[i] x _ R2 r ?_
    rw [hd] at q1
    unfold mLoop at q1
    revert q1
    cases b ds[i] ρ1 with
    | none => exact fun z => z
    | some ρ3 =>
      intro q1 σ3 g3
      have q3 := RunS.rebase (g2.trans g3) q1
      refine hb F2 H2 σ3 ρ3 _ g3.e ?_
      dsimp only at q3
      have tot := (g1.trans g2).trans g3
      have nx : ∀ ρ4, RunS Z E os io rf F2 H2 σ3 ρ3 (mLoop b body (ds.drop (i + 1)) ρ4) K → ∀ F' H' σ', Go Z os io σ3 ρ3 F2 H2 σ' ρ4 F' H' →
          ∃ F'' ρ', Go Z os io σ ρ F H σ' ρ' F'' H' ∧ (∀ p ∈ kc, H' p.1 = some p.2) ∧ RunS Z E os io rf F'' H' σ' ρ' (mLoop b body (ds.drop (i + 1)) ρ') K := fun ρ4 q4 F' H' σ' g4 =>
        ⟨F', ρ4, tot.trans g4, fun p hp => g4.s.k _ _ (hk2 p hp) (hkc _ _ _ _ tot p hp), q4.rebase g4⟩
      revert q3
      cases body ρ3 with
      | nx ρ4 => exact fun q3 F' H' σ' g4 => nx ρ4 q3 F' H' σ' g4
      | ct ρ4 => exact fun q3 F' H' σ' g4 => nx ρ4 q3 F' H' σ' g4
      | bk ρ4 => exact fun q3 => q3
      | rt d ρ4 => exact fun q3 => q3
      | exc c fs ρ4 => exact fun q3 => q3
      | stuck => exact fun q3 => q3
  · have e : i = ds.length := by omega
    subst e
    rw [List.drop_length] at q1
    exact .inl ⟨w2 rfl, q1 F1 H1 σ1 (Go.refl g1.e)⟩
theorem sm_for {tg iter : Expr} {body : List Stmt} {pos : Pos} {pu : Bool} {b : D → Rho → Option Rho} {mi : Rho → ER (List D)} {m : MS} (hp : PassesOwn (model X.prog X.w) X.A X.env X.xe) (hc : X.calm = true) (hi : PIm X Z E os pu tg iter mi) (hg : PGm X Z os io tg b) (hb : PSsm X Z E os io rf body m) (hs : ∀ x, foldedSetIterable iter X.env x = pure x := by intro _; rfl) :
    PSm X Z E os io rf (.For tg iter body [] pos) (mFor b mi m) := by
  obtain ⟨wi, i1, i2⟩ := hi
  obtain ⟨g, g1, g2⟩ := hg
  obtain ⟨tb, b1, b2⟩ := hb
  refine ⟨_, ps_for hp hc i1 g1 b1 hs, fun F H σ ρ K R q => i2 F H σ ρ _ R ?_⟩
  unfold mFor at q
  revert q
  cases mi ρ with
  | stuck => exact fun z => z
  | exc c fs ρ' => exact fun q F' H' s p R' => q F' H' σ (.ofE s p R')
  | ok ds ρ1 =>
    intro q F' H' J s _ p R' w
    exact loop_go g2 b2 w (Same.refl F') R' (fun p hp => by cases hp) (fun _ _ _ _ _ p hp => by cases hp) (q.rebase (.ofE s p R'))

/-! ### what is walked -/
def iLst : D → Option (List D)
  | .lst ds => some ds
  | _ => none
def iTp : D → Option (List D)
  | .tup ds => some ds
  | _ => none
def iStrD : D → Option (List D)
  | .str s => some (s.cps.toList.map fun c => .str ⟨#[c]⟩)
  | _ => none
def mIt (f : D → Option (List D)) (me : ME) : Rho → ER (List D) := fun ρ => (me ρ).bind fun d ρ1 => ER.of (f d) ρ1
theorem wk_list {F : Hp} {a : Addr} {vs : List V} {ds : List D} (h : F a = some (.lst vs)) (r : RpL Z F ds vs) : Wk Z (Itl Z.K a) F [] ds := fun i F' H' f k _ => by
  have q : SqL Z.K H' a vs := SqL.of (k.lst (f _ _ h))
  refine ⟨fun hi => ?_, fun e => ⟨vs, q, by rw [← r.length, e]; exact Nat.le_refl _⟩⟩
  have hv : i < vs.length := by rw [← r.length]; exact hi
  refine ⟨⟨vs, vs[i], q, List.getElem?_eq_getElem hv⟩, fun x H2 ⟨e, y⟩ => ?_⟩
  subst e
  obtain ⟨v, h1, h2⟩ := r.get (List.getElem?_eq_getElem hi)
  have e2 : x = v := by have := y vs q; rw [h1] at this; exact (Option.some.inj this).symm
  subst e2
  exact ⟨F', ds[i], PStep.refl k, List.getElem?_eq_getElem hi, h2.mono f⟩
theorem wk_tup {F : Hp} {a : Addr} {vs : List V} {ds : List D} (h : F a = some (.tup vs)) (r : RpL Z F ds vs) : Wk Z (Itt Z.K a) F [] ds := fun i F' H' f k _ => by
  have q : SqT Z.K H' a vs := SqT.of (k.tup (f _ _ h))
  refine ⟨fun hi => ?_, fun e => ⟨vs, q, by rw [← r.length, e]; exact Nat.le_refl _⟩⟩
  have hv : i < vs.length := by rw [← r.length]; exact hi
  refine ⟨⟨vs, vs[i], q, List.getElem?_eq_getElem hv⟩, fun x H2 ⟨e, y⟩ => ?_⟩
  subst e
  obtain ⟨v, h1, h2⟩ := r.get (List.getElem?_eq_getElem hi)
  have e2 : x = v := by have := y vs q; rw [h1] at this; exact (Option.some.inj this).symm
  subst e2
  exact ⟨F', ds[i], PStep.refl k, List.getElem?_eq_getElem hi, h2.mono f⟩
theorem run_ofL {pu : Bool} {F H : Hp} {σ : St} {ρ : Rho} {o : Option (List D)} {Q : It → Hp → Prop} (h : RunI Z E os pu F H σ ρ (ER.of o ρ) Q) : ∃ e, o = some e ∧ RunI Z E os pu F H σ ρ (.ok e ρ) Q := by
  cases o with
  | none => exact h.elim
  | some e => exact ⟨e, rfl, h⟩
/-- from an expression to what it is walked as -/
theorem sim_it {pu : Bool} {te : TE} {me : ME} {f : D → Option (List D)} {wi : V → Hp → (It → Hp → Prop) → Prop} (h : SimE Z E os .fz pu te me)
    (hw : ∀ (F H : Hp) (d : D) (v : V) (ds : List D) (Q : It → Hp → Prop), Hk Z F H → Rp Z F d v → f d = some ds → (∀ J, Wk Z J F [] ds → Q J H) → wi v H Q) : SimI Z E os pu (fun σ H Q => te σ H fun v H1 => wi v H1 Q) (mIt f me) := by
  intro F H σ ρ Q R q
  refine h F H σ ρ _ R ?_
  unfold mIt at q
  revert q
  cases me ρ with
  | stuck => exact fun z => z
  | exc c fs ρ' => exact fun z => z
  | ok d ρ1 =>
    intro q F' H' v s hp p R' r
    have q : RunI Z E os pu F H σ ρ (ER.of (f d) ρ1) Q := q
    revert q
    cases ef : f d with
    | none => exact fun z => z.elim
    | some ds => exact fun q => hw F' H' d v ds _ R'.hk r ef fun J w => q F' H' J s hp p R' w
section
variable {e : Expr} {pu : Bool} {me : ME} {tg : Expr}
theorem im_list (h : PEm X Z E os .fz pu e me) (hK : X.K = Z.K := by rfl) : PIm X Z E os pu tg e (mIt iLst me) := by
  obtain ⟨te, a1, a2⟩ := h
  refine ⟨_, pi_list a1, ?_⟩
  rw [hK]
  exact sim_it (wi := fun x H1 R => ∃ a, x = .ref a ∧ (∃ xs, SqL Z.K H1 a xs) ∧ R (Itl Z.K a) H1) a2 fun F H d v ds Q k r ef q => by
    cases d with
    | lst l =>
      cases ef
      cases r with
      | lst h1 h2 => exact ⟨_, rfl, ⟨_, SqL.of (k.lst h1)⟩, q _ (wk_list h1 h2)⟩
    | _ => cases ef
theorem im_tup (h : PEm X Z E os .fz pu e me) (hK : X.K = Z.K := by rfl) : PIm X Z E os pu tg e (mIt iTp me) := by
  obtain ⟨te, a1, a2⟩ := h
  refine ⟨_, pi_tup a1, ?_⟩
  rw [hK]
  exact sim_it (wi := fun x H1 R => ∃ a, x = .ref a ∧ (∃ xs, SqT Z.K H1 a xs) ∧ R (Itt Z.K a) H1) a2 fun F H d v ds Q k r ef q => by
    cases d with
    | tup l =>
      cases ef
      cases r with
      | tup h1 h2 => exact ⟨_, rfl, ⟨_, SqT.of (k.tup h1)⟩, q _ (wk_tup h1 h2)⟩
    | _ => cases ef
theorem im_str (h : PEm X Z E os .fz pu e me) : PIm X Z E os pu tg e (mIt iStrD me) := by
  obtain ⟨te, a1, a2⟩ := h
  refine ⟨_, pi_str a1, ?_⟩
  exact sim_it (wi := fun v H1 R => ∃ x, v = .str x ∧ R (Its x) H1) a2 fun F H d v ds Q k r ef q => by
    cases d with
    | str s =>
      cases ef
      cases r
      refine ⟨s, rfl, q _ fun i F' H' f k' _ => ⟨fun hi => ?_, fun e => ?_⟩⟩
      · have hi' : i < s.cps.size := by simpa using hi
        refine ⟨hi', fun x H2 ⟨e, c, hc, ex⟩ => ?_⟩
        subst e ex
        exact ⟨F', .str ⟨#[c]⟩, PStep.refl k', by simp [hc], .str _⟩
      · show s.cps.size ≤ i
        simp at e
        omega
    | _ => cases ef
end
/-- range(n), range(a, b) -/
def rngD (lo hi : Int) : List D := (List.range (hi - lo).toNat).map fun k : Nat => .int (lo + (k : Int))
noncomputable def gRng1 : List D → Option (List D)
  | [.int n] => if shut (decide (-(2 ^ 62) ≤ n ∧ n < 2 ^ 62)) = true then some (rngD 0 n) else none
  | _ => none
noncomputable def gRng2 : List D → Option (List D)
  | [.int a, .int b] => if shut (decide ((-(2 ^ 62) ≤ a ∧ a < 2 ^ 62) ∧ (-(2 ^ 62) ≤ b ∧ b < 2 ^ 62))) = true then some (rngD a b) else none
  | _ => none
def mItA (f : List D → Option (List D)) (ma : Rho → ER (List D)) : Rho → ER (List D) := fun ρ => (ma ρ).bind fun ds ρ1 => ER.of (f ds) ρ1
theorem wk_rng {F : Hp} {lo hi : Int} {n : Nat} (hn : (hi - lo).toNat = n) : Wk Z (Itr lo n) F [] (rngD lo hi) := fun i F' H' f k _ => by
  have hl : (rngD lo hi).length = n := by unfold rngD; rw [List.length_map, List.length_range, hn]
  refine ⟨fun h => ⟨by rw [← hl]; exact h, fun x H2 ⟨e, ex⟩ => ?_⟩, fun e => by show n ≤ i; omega⟩
  subst e ex
  refine ⟨F', .int (lo + i), PStep.refl k, ?_, .int _⟩
  rw [hl] at h
  unfold rngD
  rw [List.getElem?_map, hn, List.getElem?_range h]
  rfl
theorem sim_itA {pu : Bool} {fls : List AF} {ta : TA} {ma : Rho → ER (List D)} {f : List D → Option (List D)} {wi : List V → Hp → (It → Hp → Prop) → Prop} (h : SimA Z E os fls pu ta ma) (hb : Bos fls = true)
    (hw : ∀ (F H : Hp) (d : List D) (v : List V) (ds : List D) (Q : It → Hp → Prop), Hk Z F H → BoL Z F H d v → f d = some ds → (∀ J, Wk Z J F [] ds → Q J H) → wi v H Q) :
    SimI Z E os pu (fun σ H Q => ta σ H fun v H1 => wi v H1 Q) (mItA f ma) := by
  intro F H σ ρ Q R q
  refine h F H σ ρ _ R ?_
  unfold mItA at q
  revert q
  cases ma ρ with
  | stuck => exact fun z => z
  | exc c fs ρ' => exact fun z => z
  | ok d ρ1 =>
    intro q F' H' v s hp p R' r
    have q : RunI Z E os pu F H σ ρ (ER.of (f d) ρ1) Q := q
    revert q
    cases ef : f d with
    | none => exact fun z => z.elim
    | some ds => exact fun q => hw F' H' d v ds _ R'.hk (r.boL hb) ef fun J w => q F' H' J s hp p R' w
theorem BoL.one {F H : Hp} {d : D} {v : List V} (h : BoL Z F H [d] v) : ∃ x, v = [x] ∧ Bo Z F H d x := by
  cases h with | cons h r => cases r; exact ⟨_, rfl, h⟩
theorem BoL.two {F H : Hp} {d e : D} {v : List V} (h : BoL Z F H [d, e] v) : ∃ x y, v = [x, y] ∧ Bo Z F H d x ∧ Bo Z F H e y := by
  cases h with | cons h r => obtain ⟨y, rfl, h2⟩ := r.one; exact ⟨_, _, rfl, h, h2⟩
theorem BoL.nil' {F H : Hp} {v : List V} (h : BoL Z F H [] v) : v = [] := by cases h; rfl
def Fzs : List AF → Bool
  | [] => true
  | .fz :: r => Fzs r
  | _ => false
theorem ArgsR.rpL {O0 : Addr → Prop} {H0 F H : Hp} {σ : St} {ρ : Rho} {fls : List AF} {ds : List D} {vs : List V} (h : ArgsR Z os O0 H0 F H σ ρ fls ds vs) (hb : Fzs fls = true) : RpL Z F ds vs := by
  induction h with
  | nil => exact .nil
  | @cons f d v fs ds vs h _ r ih =>
    cases f with
    | fz => exact .cons h (ih hb)
    | bo => cases hb
    | sl i => cases hb
    | tm => cases hb
theorem sim_itF {pu : Bool} {fls : List AF} {ta : TA} {ma : Rho → ER (List D)} {f : List D → Option (List D)} {wi : List V → Hp → (It → Hp → Prop) → Prop} (h : SimA Z E os fls pu ta ma) (hb : Fzs fls = true)
    (hw : ∀ (F H : Hp) (d : List D) (v : List V) (ds : List D) (Q : It → Hp → Prop), Hk Z F H → RpL Z F d v → f d = some ds → (∀ J, Wk Z J F [] ds → Q J H) → wi v H Q) :
    SimI Z E os pu (fun σ H Q => ta σ H fun v H1 => wi v H1 Q) (mItA f ma) := by
  intro F H σ ρ Q R q
  refine h F H σ ρ _ R ?_
  unfold mItA at q
  revert q
  cases ma ρ with
  | stuck => exact fun z => z
  | exc c fs ρ' => exact fun z => z
  | ok d ρ1 =>
    intro q F' H' v s hp p R' r
    have q : RunI Z E os pu F H σ ρ (ER.of (f d) ρ1) Q := q
    revert q
    cases ef : f d with
    | none => exact fun z => z.elim
    | some ds => exact fun q => hw F' H' d v ds _ R'.hk (r.rpL hb) ef fun J w => q F' H' J s hp p R' w
def enumD : Nat → List D → List D
  | _, [] => []
  | n, d :: r => .tup [.int (n : Nat), d] :: enumD (n + 1) r
theorem enumD_get : ∀ (l : List D) (n i : Nat) (d : D), l[i]? = some d → (enumD n l)[i]? = some (.tup [.int ((n + i : Nat) : Int), d])
  | [], _, _, _, h => by simp at h
  | x :: r, n, 0, d, h => by simp at h; subst h; simp [enumD]
  | x :: r, n, i + 1, d, h => by
    have h : r[i]? = some d := by simpa using h
    have q := enumD_get r (n + 1) i d h
    show (enumD (n + 1) r)[i]? = _
    rw [q, show n + 1 + i = n + (i + 1) by omega]
theorem enumD_length : ∀ (l : List D) (n : Nat), (enumD n l).length = l.length
  | [], _ => rfl
  | x :: r, n => by show (enumD (n + 1) r).length + 1 = r.length + 1; rw [enumD_length r (n + 1)]
def zipD : List D → List D → List D
  | x :: r, y :: s => .tup [x, y] :: zipD r s
  | _, _ => []
theorem zipD_get : ∀ (l m : List D) (i : Nat), i < (zipD l m).length → ∃ x y, l[i]? = some x ∧ m[i]? = some y ∧ (zipD l m)[i]? = some (.tup [x, y])
  | [], m, i, h => by cases m <;> simp [zipD] at h
  | x :: r, [], i, h => by simp [zipD] at h
  | x :: r, y :: s, 0, h => ⟨x, y, by simp, by simp, by simp [zipD]⟩
  | x :: r, y :: s, i + 1, h => by
    obtain ⟨a, b, h1, h2, h3⟩ := zipD_get r s i (by simpa [zipD] using h)
    exact ⟨a, b, by simpa using h1, by simpa using h2, by simpa [zipD] using h3⟩
theorem zipD_length : ∀ (l m : List D), (zipD l m).length = min l.length m.length
  | [], m => by cases m <;> simp [zipD]
  | x :: r, [] => by simp [zipD]
  | x :: r, y :: s => by simp [zipD, zipD_length r s]
/-- the same walks, of a list that stands still by itself -/
theorem wk_enum {F : Hp} {a : Addr} {vs : List V} {ds : List D} {kc : List (Addr × HO)} (r : RpL Z F ds vs) (hl : ∀ F' H', Same F F' → Hk Z F' H' → (∀ p ∈ kc, H' p.1 = some p.2) → SqL Z.K H' a vs) : Wk Z (Ite Z.K a) F kc (enumD 0 ds) := fun i F' H' f k hk => by
  have q : SqL Z.K H' a vs := hl F' H' f k hk
  rw [enumD_length]
  refine ⟨fun hi => ?_, fun e => ⟨vs, q, by rw [← r.length, e]; exact Nat.le_refl _⟩⟩
  have hv : i < vs.length := by rw [← r.length]; exact hi
  refine ⟨⟨vs, vs[i], q, List.getElem?_eq_getElem hv⟩, fun x H2 ⟨T, y, e, hT, e2, hy⟩ => ?_⟩
  subst e e2
  obtain ⟨v, h1, h2⟩ := r.get (List.getElem?_eq_getElem hi)
  have e2 : y = v := by have := hy vs q; rw [h1] at this; exact (Option.some.inj this).symm
  subst e2
  refine ⟨upd F' T _, .tup [.int (i : Nat), ds[i]], PStep.new k hT, ?_, .tup upd_same (.cons (.int _) (.one ?_))⟩
  · have := enumD_get ds 0 i ds[i] (List.getElem?_eq_getElem hi)
    rw [this, Nat.zero_add]
  · exact (h2.mono f).mono (same_upd (k.none hT))
theorem wk_zip {F : Hp} {a b : Addr} {vs ws : List V} {ds es : List D} (h : F a = some (.lst vs)) (r : RpL Z F ds vs) (h' : F b = some (.lst ws)) (r' : RpL Z F es ws) : Wk Z (Itz Z.K a b) F [] (zipD ds es) := fun i F' H' f k _ => by
  have q : SqL Z.K H' a vs := SqL.of (k.lst (f _ _ h))
  have q' : SqL Z.K H' b ws := SqL.of (k.lst (f _ _ h'))
  refine ⟨fun hi => ?_, fun e => ⟨vs, ws, q, q', ?_⟩⟩
  · obtain ⟨x, y, hx, hy, hz⟩ := zipD_get ds es i hi
    obtain ⟨v, v1, v2⟩ := r.get hx
    obtain ⟨w, w1, w2⟩ := r'.get hy
    refine ⟨⟨vs, ws, v, w, q, q', v1, w1⟩, fun x' H2 ⟨T, y1, y2, e, hT, e2, hy1, hy2⟩ => ?_⟩
    subst e e2
    have e1 : y1 = v := by have := hy1 vs q; rw [v1] at this; exact (Option.some.inj this).symm
    have e2 : y2 = w := by have := hy2 ws q'; rw [w1] at this; exact (Option.some.inj this).symm
    subst e1 e2
    exact ⟨upd F' T _, .tup [x, y], PStep.new k hT, hz, .tup upd_same (.cons ((v2.mono f).mono (same_upd (k.none hT))) (.one ((w2.mono f).mono (same_upd (k.none hT)))))⟩
  · rw [zipD_length, r.length, r'.length] at e
    omega
def gEnum : List D → Option (List D)
  | [.lst ds] => some (enumD 0 ds)
  | _ => none
def gZip : List D → Option (List D)
  | [.lst a, .lst b] => some (zipD a b)
  | _ => none
def gRev : List D → Option (List D)
  | [.lst ds] => some ds.reverse
  | _ => none
section
variable {a b : Expr} {pu : Bool} {ma : Rho → ER (List D)} {fls : List AF} {tg : Expr} {p pos tpos : Pos} {elts : List Expr} {kk : Nat}
theorem im_rng1 (hg : Gl X "range") (hm : X.mg "range" = none) (ha : PAm X Z E os fls pu [a] ma) (hb : Bos fls = true := by rfl) (hs : starEach [a] X.env = [(false, eval a X.env)] := by rfl) : PIm X Z E os pu tg (.Call (.Name "range" p) [a] [] pos) (mItA gRng1 ma) := by
  obtain ⟨ta, a1, a2⟩ := ha
  refine ⟨_, pi_range1 hg hm a1 hs, sim_itA (wi := fun vs H1 R => ∃ j : Int, vs = [.int j] ∧ -(2 ^ 62) ≤ j ∧ j < 2 ^ 62 ∧ R (Itr 0 j.toNat) H1) a2 hb fun F H d v ds Q k r ef q => ?_⟩
  unfold gRng1 at ef
  split at ef
  · rename_i n
    obtain ⟨x, rfl, h⟩ := r.one
    have := h.int
    subst this
    split at ef
    · rename_i hb; cases ef; rw [shut_eq, decide_eq_true_eq] at hb; exact ⟨n, rfl, hb.1, hb.2, q _ (wk_rng (by simp))⟩
    · cases ef
  · cases ef
theorem im_rng2 (hg : Gl X "range") (hm : X.mg "range" = none) (ha : PAm X Z E os fls pu [a, b] ma) (hb : Bos fls = true := by rfl) (hs : starEach [a, b] X.env = [(false, eval a X.env), (false, eval b X.env)] := by rfl) (hs2 : starEach [b] X.env = [(false, eval b X.env)] := by rfl) : PIm X Z E os pu tg (.Call (.Name "range" p) [a, b] [] pos) (mItA gRng2 ma) := by
  obtain ⟨ta, a1, a2⟩ := ha
  refine ⟨_, pi_range2 hg hm a1 hs hs2, sim_itA (wi := fun vs H1 R => ∃ i j : Int, vs = [.int i, .int j] ∧ (-(2 ^ 62) ≤ i ∧ i < 2 ^ 62 ∧ -(2 ^ 62) ≤ j ∧ j < 2 ^ 62) ∧ R (Itr i (j - i).toNat) H1) a2 hb fun F H d v ds Q k r ef q => ?_⟩
  unfold gRng2 at ef
  split at ef
  · rename_i n m
    obtain ⟨x, y, rfl, h, h'⟩ := r.two
    have := h.int
    subst this
    have := h'.int
    subst this
    split at ef
    · rename_i hb; cases ef; rw [shut_eq, decide_eq_true_eq] at hb; exact ⟨n, m, rfl, ⟨hb.1.1, hb.1.2, hb.2.1, hb.2.2⟩, q _ (wk_rng rfl)⟩
    · cases ef
  · cases ef
theorem im_enum (hg : Gl X "enumerate") (hm : X.mg "enumerate" = none) (ha : PAm X Z E os fls pu [a] ma) (hb : Fzs fls = true := by rfl) (hs : starEach [a] X.env = [(false, eval a X.env)] := by rfl) (hK : X.K = Z.K := by rfl) :
    PIm X Z E os pu (.Tuple elts kk tpos) (.Call (.Name "enumerate" p) [a] [] pos) (mItA gEnum ma) := by
  obtain ⟨ta, a1, a2⟩ := ha
  refine ⟨_, pi_enum hg hm a1 hs, ?_⟩
  rw [hK]
  refine sim_itF (wi := fun vs H1 R => ∃ a xs, vs = [.ref a] ∧ SqL Z.K H1 a xs ∧ R (Ite Z.K a) H1) a2 hb fun F H d v ds Q k r ef q => ?_
  unfold gEnum at ef
  split at ef
  · cases ef
    cases r with
    | cons h r =>
      cases r
      cases h with
      | lst h1 h2 => exact ⟨_, _, rfl, SqL.of (k.lst h1), q _ (wk_enum h2 fun F' H' f k' _ => SqL.of (k'.lst (f _ _ h1)))⟩
  · cases ef
theorem im_zip (hg : Gl X "zip") (hm : X.mg "zip" = none) (ha : PAm X Z E os fls pu [a, b] ma) (hb : Fzs fls = true := by rfl) (hs : starEach [a, b] X.env = (false, eval a X.env) :: starEach [b] X.env := by rfl) (hpl : (backTo pos (starEach [b] X.env)).any (·.1) = false := by rfl) (hK : X.K = Z.K := by rfl) :
    PIm X Z E os pu (.Tuple elts kk tpos) (.Call (.Name "zip" p) [a, b] [] pos) (mItA gZip ma) := by
  obtain ⟨ta, a1, a2⟩ := ha
  refine ⟨_, pi_zip hg hm a1 hs hpl, ?_⟩
  rw [hK]
  refine sim_itF (wi := fun vs H1 R => ∃ a b xs ys, vs = [.ref a, .ref b] ∧ SqL Z.K H1 a xs ∧ SqL Z.K H1 b ys ∧ R (Itz Z.K a b) H1) a2 hb fun F H d v ds Q k r ef q => ?_
  unfold gZip at ef
  split at ef
  · cases ef
    cases r with
    | cons h r =>
      cases r with
      | cons h' r =>
        cases r
        cases h with
        | lst h1 h2 =>
          cases h' with
          | lst h3 h4 => exact ⟨_, _, _, _, rfl, SqL.of (k.lst h1), SqL.of (k.lst h3), q _ (wk_zip h1 h2 h3 h4)⟩
  · cases ef
end

/-! ### while, with turns enough -/
def mWhile (mt : Rho → ER Bool) (body : MS) : Nat → MS
  | 0, _ => .stuck
  | n + 1, ρ => match mt ρ with
    | .ok true ρ1 => (match body ρ1 with
      | .nx ρ2 => mWhile mt body n ρ2
      | .ct ρ2 => mWhile mt body n ρ2
      | .bk ρ2 => .nx ρ2
      | r => r)
    | .ok false ρ1 => .nx ρ1
    | .exc c fs ρ1 => .exc c fs ρ1
    | .stuck => .stuck
theorem sim_while {pu : Bool} {tt : TT} {mt : Rho → ER Bool} {tb : TS} {body : MS} (n : Nat) (ht : SimT Z E os pu tt mt) (hb : SimS Z E os io rf tb body) : SimS Z E os io rf (tWhile tt tb) (mWhile mt body n) := by
  intro F H σ ρ K R q
  refine ⟨fun m σ' H' => ∃ F' ρ', Go Z os io σ ρ F H σ' ρ' F' H' ∧ RunS Z E os io rf F' H' σ' ρ' (mWhile mt body m ρ') K, ⟨n, F, ρ, Go.refl R, q⟩, ?_⟩
  rintro m σ1 H1 ⟨F1, ρ1, g1, q1⟩
  refine ht F1 H1 σ1 ρ1 _ g1.e ?_
  cases m with
  | zero => exact q1.elim
  | succ m =>
    unfold mWhile at q1
    revert q1
    cases mt ρ1 with
    | stuck => exact fun z => z
    | exc c fs ρ' => exact fun q1 F' H' s p R' => q1 F' H' σ1 (.ofE s p R')
    | ok b ρ2 =>
      cases b with
      | false =>
        intro q1 F2 H2 s _ p R2
        show K.nx σ1 H2
        exact q1 F2 H2 σ1 (.ofE s p R2)
      | true =>
        intro q1 F2 H2 s _ p R2
        have g2 : Go Z os io σ1 ρ1 F1 H1 σ1 ρ2 F2 H2 := .ofE s p R2
        rw [if_pos rfl]
        refine ⟨fun σ' H' => ∃ F' ρ', Go Z os io σ ρ F H σ' ρ' F' H' ∧ RunS Z E os io rf F' H' σ' ρ' (mWhile mt body m ρ') K, fun σ' H' w => ⟨m, Nat.lt_succ_self m, w⟩, ?_⟩
        refine hb F2 H2 σ1 ρ2 _ R2 ?_
        have q3 := RunS.rebase g2 q1
        dsimp only at q3
        have tot := g1.trans g2
        revert q3
        cases body ρ2 with
        | nx ρ4 => exact fun q3 F' H' σ' g4 => ⟨F', ρ4, tot.trans g4, q3.rebase g4⟩
        | ct ρ4 => exact fun q3 F' H' σ' g4 => ⟨F', ρ4, tot.trans g4, q3.rebase g4⟩
        | bk ρ4 => exact fun q3 => q3
        | rt d ρ4 => exact fun q3 => q3
        | exc c fs ρ4 => exact fun q3 => q3
        | stuck => exact fun q3 => q3
theorem sm_while {c : Expr} {body : List Stmt} {pos : Pos} {pu : Bool} {mt : Rho → ER Bool} {m : MS} (n : Nat) (hp : PassesOwn (model X.prog X.w) X.A X.env X.xe) (ht : PTm X Z E os pu c mt) (hb : PSsm X Z E os io rf body m) : PSm X Z E os io rf (.While c body [] pos) (mWhile mt m n) :=
  let ⟨_, t1, t2⟩ := ht; let ⟨_, b1, b2⟩ := hb; ⟨_, ps_while hp t1 b1, sim_while n t2 b2⟩
end Vm
/-! Vm4: what a def promises, calls. -/
namespace Vm
open PySem L2
variable {Z : Par} {E : St → XK} {os : Os} {X : Cx} {io : List Nat} {rf : Fl}

/-- a parameter: frozen data; an object that is handed over; one that is lent and handed back -/
inductive PM where
  | fz | mv | io
  deriving DecidableEq
inductive FR where
  | ret (d : D) (outs : Rho)
  | exc (c : Str) (fs : List (Str × D))
  | stuck
def PmR (Z : Par) (F H : Hp) : PM → D → V → Prop
  | .fz, d, v => Rp Z F d v
  | _, d, v => ∃ l, v = .ref l ∧ F l = none ∧ Own Z F H true l d
inductive PmsR (Z : Par) (F H : Hp) : List PM → List D → List V → Prop
  | nil : PmsR Z F H [] [] []
  | cons {p : PM} {d : D} {v : V} {ps : List PM} {ds : List D} {vs : List V} : PmR Z F H p d v → PmsR Z F H ps ds vs → PmsR Z F H (p :: ps) (d :: ds) (v :: vs)
def OwP (pm : List PM) (vs : List V) (a : Addr) : Prop := ∃ (j : Nat) (p : PM), pm[j]? = some p ∧ p ≠ .fz ∧ vs[j]? = some (.ref a)
def IoP (pm : List PM) (vs : List V) (a : Addr) : Prop := ∃ (j : Nat), pm[j]? = some .io ∧ vs[j]? = some (.ref a)
def Dist (pm : List PM) (vs : List V) : Prop := ∀ (i j : Nat) (p q : PM) (l : Addr), pm[i]? = some p → pm[j]? = some q → p ≠ .fz → q ≠ .fz → vs[i]? = some (.ref l) → vs[j]? = some (.ref l) → i = j
def OutsR (Z : Par) (F' H' : Hp) (pm : List PM) (vs : List V) (outs : Rho) : Prop := ∀ (j : Nat) (l : Addr), pm[j]? = some .io → vs[j]? = some (.ref l) → ∃ d, outs[j]? = some (some d) ∧ F' l = none ∧ Own Z F' H' true l d
/-- the promise: the mirror m tells what comes back -/
def SpM (Z : Par) (pm : List PM) (rf : Fl) (m : List D → FR) : Sp := fun vs H Q E => ∃ (F : Hp) (ds : List D), Hk Z F H ∧ PmsR Z F H pm ds vs ∧ Dist pm vs ∧
  match m ds with
  | .ret d outs => ∀ (F' H' : Hp) (v : V), Step (OwP pm vs) (OwP pm vs) F H F' H' → Hk Z F' H' → OutsR Z F' H' pm vs outs → ResR Z rf (OwP pm vs) (IoP pm vs) H F' H' d v → Q v H'
  | .exc c fs => ∀ (F' H' : Hp), Step (OwP pm vs) (OwP pm vs) F H F' H' → Hk Z F' H' → ExcG Z E c fs F' H'
  | .stuck => False
theorem PmsR.len {F H : Hp} {pm : List PM} {ds : List D} {vs : List V} (h : PmsR Z F H pm ds vs) : pm.length = vs.length ∧ ds.length = vs.length := by
  induction h with
  | nil => exact ⟨rfl, rfl⟩
  | cons _ _ ih => exact ⟨by rw [List.length_cons, List.length_cons, ih.1], by rw [List.length_cons, List.length_cons, ih.2]⟩
theorem PmsR.get {F H : Hp} {pm : List PM} {ds : List D} {vs : List V} (h : PmsR Z F H pm ds vs) : ∀ {j : Nat} {p : PM}, pm[j]? = some p → ∃ d v, ds[j]? = some d ∧ vs[j]? = some v ∧ PmR Z F H p d v := by
  induction h with
  | nil => intro j p e; simp at e
  | cons h _ ih =>
    intro j p e
    cases j with
    | zero => simp at e; subst e; exact ⟨_, _, by simp, by simp, h⟩
    | succ j => simp at e; obtain ⟨d, v, h1, h2, h3⟩ := ih e; exact ⟨d, v, by simpa using h1, by simpa using h2, h3⟩
theorem SpM.length {pm : List PM} {m : List D → FR} {vs : List V} {H : Hp} {Q : VK} {E : XK} (h : SpM Z pm rf m vs H Q E) : vs.length = pm.length := by
  obtain ⟨F, ds, _, h, _⟩ := h
  exact h.len.1.symm

/-! ### a body against its promise -/
/-- the slots at the start -/
def start0 (n : Nat) (ds : List D) : Rho := ds.map some ++ List.replicate (n - ds.length) none
def allIn (io : List Nat) (ρ : Rho) : Bool := io.all fun i => (ρ[i]?.join).isSome
def isFz : Fl → Bool
  | .fz => true
  | _ => false
def runF (n : Nat) (io : List Nat) (rf : Fl) (body : MS) (ds : List D) : FR := match body (start0 n ds) with
  | .nx ρ => if isFz rf && allIn io ρ then .ret .non ρ else .stuck
  | .rt d ρ => if allIn io ρ then .ret d ρ else .stuck
  | .exc c fs _ => .exc c fs
  | _ => .stuck
/-- a def that raises nothing -/
def FR.nox : FR → FR
  | .exc _ _ => .stuck
  | r => r
/-- of the slots at the end only those of lent objects are handed back -/
def cutP : List PM → Rho → Rho
  | [], _ => []
  | .io :: ps, r => r.headD none :: cutP ps r.tail
  | _ :: ps, r => none :: cutP ps r.tail
def FR.cut (pm : List PM) : FR → FR
  | .ret d outs => .ret d (cutP pm outs)
  | r => r
theorem cutP_io : ∀ {pm : List PM} {r : Rho} {j : Nat}, pm[j]? = some .io → ∀ {d : D}, r[j]? = some (some d) → (cutP pm r)[j]? = some (some d)
  | [], _, j, h, _, _ => by simp at h
  | p :: ps, [], j, _, _, e => by simp at e
  | p :: ps, o :: r, 0, h, d, e => by
    simp at h e
    subst h e
    simp [cutP]
  | p :: ps, o :: r, j + 1, h, d, e => by
    have h1 : ps[j]? = some .io := by simpa using h
    have e1 : r[j]? = some (some d) := by simpa using e
    have := cutP_io h1 e1
    cases p <;> simpa [cutP] using this
/-- the statuses fit the parameters -/
def okOs (pm : List PM) (os : Os) : Bool := (List.range pm.length).all fun j => match pm[j]? with
  | some .fz => (os.lookup j).isNone
  | some _ => os.lookup j == some true
  | none => true
def okIo (pm : List PM) (io : List Nat) : Bool := (List.range pm.length).all fun j => match pm[j]? with
  | some .io => io.contains j
  | _ => true
theorem okOs_fz {pm : List PM} {os : Os} (h : okOs pm os = true) {j : Nat} (e : pm[j]? = some .fz) : os.lookup j = none := by
  have hj : j < pm.length := by rcases Nat.lt_or_ge j pm.length with q | q; exact q; rw [List.getElem?_eq_none q] at e; cases e
  have := List.all_eq_true.mp h j (List.mem_range.mpr hj)
  rw [e] at this
  simpa using this
theorem okOs_ow {pm : List PM} {os : Os} (h : okOs pm os = true) {j : Nat} {p : PM} (e : pm[j]? = some p) (hp : p ≠ .fz) : os.lookup j = some true := by
  have hj : j < pm.length := by rcases Nat.lt_or_ge j pm.length with q | q; exact q; rw [List.getElem?_eq_none q] at e; cases e
  have := List.all_eq_true.mp h j (List.mem_range.mpr hj)
  rw [e] at this
  cases p with
  | fz => exact absurd rfl hp
  | mv => simpa using this
  | io => simpa using this
theorem okIo_io {pm : List PM} {io : List Nat} (h : okIo pm io = true) {j : Nat} (e : pm[j]? = some .io) : j ∈ io := by
  have hj : j < pm.length := by rcases Nat.lt_or_ge j pm.length with q | q; exact q; rw [List.getElem?_eq_none q] at e; cases e
  have := List.all_eq_true.mp h j (List.mem_range.mpr hj)
  rw [e] at this
  simpa using this
theorem start0_get {n : Nat} {ds : List D} {i : Nat} {d : D} (h : (start0 n ds)[i]? = some (some d)) : ds[i]? = some d := by
  unfold start0 at h
  by_cases hi : i < ds.length
  · rw [List.getElem?_append_left (by rw [List.length_map]; exact hi), List.getElem?_map] at h
    cases e : ds[i]? with
    | none => rw [e] at h; cases h
    | some x => rw [e] at h; cases h; rfl
  · rw [List.getElem?_append_right (by rw [List.length_map]; omega)] at h
    rw [List.getElem?_replicate] at h
    split at h <;> cases h
theorem start_get {N : List Str} {vs : List V} {i : Nat} {v : V} (h : vs[i]? = some v) : (L2.start N vs)[i]? = some (some v) := by
  unfold L2.start
  have hi : i < vs.length := (List.getElem?_eq_some_iff.mp h).1
  rw [List.getElem?_append_left (by rw [List.length_map]; exact hi), List.getElem?_map, h]
  rfl
theorem pms_own {F H : Hp} {pm : List PM} {ds : List D} {vs : List V} (h : PmsR Z F H pm ds vs) {j : Nat} {p : PM} (e : pm[j]? = some p) (hp : p ≠ .fz) : ∃ d l, ds[j]? = some d ∧ vs[j]? = some (.ref l) ∧ F l = none ∧ Own Z F H true l d := by
  obtain ⟨d, v, h1, h2, h3⟩ := h.get e
  cases p with
  | fz => exact absurd rfl hp
  | mv => obtain ⟨l, e2, h4, h5⟩ := h3; subst e2; exact ⟨d, l, h1, h2, h4, h5⟩
  | io => obtain ⟨l, e2, h4, h5⟩ := h3; subst e2; exact ⟨d, l, h1, h2, h4, h5⟩
theorem pm_of_ds {F H : Hp} {pm : List PM} {ds : List D} {vs : List V} (h : PmsR Z F H pm ds vs) {j : Nat} {d : D} (e : ds[j]? = some d) : ∃ p, pm[j]? = some p := by
  have hj : j < ds.length := (List.getElem?_eq_some_iff.mp e).1
  rw [h.len.2, ← h.len.1] at hj
  exact ⟨pm[j], List.getElem?_eq_getElem hj⟩
/-- what must hold behind a call -/
def WishF (Z : Par) (E : St → XK) (pm : List PM) (rf : Fl) (vs : List V) (F H : Hp) (Q : VK) : FR → Prop
  | .ret d outs => ∀ (F' H' : Hp) (v : V), Step (OwP pm vs) (OwP pm vs) F H F' H' → Hk Z F' H' → OutsR Z F' H' pm vs outs → ResR Z rf (OwP pm vs) (IoP pm vs) H F' H' d v → Q v H'
  | .exc c fs => ∀ (F' H' : Hp) (σ : St), Step (OwP pm vs) (OwP pm vs) F H F' H' → Hk Z F' H' → ExcG Z (E σ) c fs F' H'
  | .stuck => False
theorem body_ok {N : List Str} {pm : List PM} {t : TS} {m : MS} {vs : List V} {ds : List D} {F H : Hp} {Q : VK} (hZ : Z.e = none) (h : SimS Z E os io rf t m) (h1 : okOs pm os = true) (h2 : okIo pm io = true) (hN : pm.length ≤ N.length)
    (hk : Hk Z F H) (pr : PmsR Z F H pm ds vs) (di : Dist pm vs) (wi : WishF Z E pm rf vs F H Q (runF N.length io rf m ds)) : t { nx := fun _ H' => Q .non H', rt := Q } (L2.start N vs) H := by
  obtain ⟨l1, l2⟩ := pr.len
  have R : EnvR Z os F H (L2.start N vs) (start0 N.length ds) := by
    refine ⟨(fun x e => by rw [hZ] at e; cases e), hk, ?_, fun i d e n => ?_, fun i d b e n => ?_, fun i j b c l e1 e2 ⟨d, e3⟩ ⟨d', e4⟩ e5 e6 => ?_⟩
    · unfold L2.start start0
      rw [List.length_append, List.length_append, List.length_map, List.length_map, List.length_replicate, List.length_replicate, l2]
    · have e := start0_get e
      obtain ⟨p, hp⟩ := pm_of_ds pr e
      obtain ⟨d', v, q1, q2, q3⟩ := pr.get hp
      rw [e] at q1; cases q1
      cases p with
      | fz => exact ⟨v, start_get q2, q3⟩
      | mv => rw [okOs_ow h1 hp (by decide)] at n; cases n
      | io => rw [okOs_ow h1 hp (by decide)] at n; cases n
    · have e := start0_get e
      obtain ⟨p, hp⟩ := pm_of_ds pr e
      have np : p ≠ .fz := fun z => by subst z; rw [okOs_fz h1 hp] at n; cases n
      obtain ⟨d', l, q1, q2, q3, q4⟩ := pms_own pr hp np
      rw [e] at q1; cases q1
      rw [okOs_ow h1 hp np] at n; cases n
      exact ⟨l, start_get q2, q3, q4⟩
    · have e3 := start0_get e3
      have e4 := start0_get e4
      obtain ⟨p, hp⟩ := pm_of_ds pr e3
      obtain ⟨q, hq⟩ := pm_of_ds pr e4
      have np : p ≠ .fz := fun z => by subst z; rw [okOs_fz h1 hp] at e1; cases e1
      have nq : q ≠ .fz := fun z => by subst z; rw [okOs_fz h1 hq] at e2; cases e2
      obtain ⟨_, l', _, q2, _⟩ := pms_own pr hp np
      obtain ⟨_, l'', _, q2', _⟩ := pms_own pr hq nq
      rw [start_get q2] at e5; cases e5
      rw [start_get q2'] at e6; cases e6
      exact di i j p q _ hp hq np nq q2 q2'
  have ow1 : ∀ a, Ow os (L2.start N vs) (start0 N.length ds) a → OwP pm vs a := fun a ⟨i, e1, ⟨d, e2⟩, e3⟩ => by
    have e2 := start0_get e2
    obtain ⟨p, hp⟩ := pm_of_ds pr e2
    have np : p ≠ .fz := fun z => by subst z; rw [okOs_fz h1 hp] at e1; cases e1
    obtain ⟨_, l', _, q2, _⟩ := pms_own pr hp np
    rw [start_get q2] at e3; cases e3
    exact ⟨i, p, hp, np, q2⟩
  have stp : ∀ {σ' : St} {ρ' : Rho} {F' H' : Hp}, Go Z os io (L2.start N vs) (start0 N.length ds) F H σ' ρ' F' H' → Step (OwP pm vs) (OwP pm vs) F H F' H' := fun g =>
    ⟨g.s.f, fun a o e => (g.s.n a o e).imp id (Or.imp id (ow1 a)), fun a o e n => g.s.k a o e fun z => n (ow1 a z), fun a z => .inl z, g.s.d⟩
  have outs : ∀ {σ' : St} {ρ' : Rho} {F' H' : Hp}, allIn io ρ' = true → Go Z os io (L2.start N vs) (start0 N.length ds) F H σ' ρ' F' H' → OutsR Z F' H' pm vs ρ' := fun {σ' ρ' F' H'} ha g j l e1 e2 => by
    have hj := okIo_io h2 e1
    have hs : (ρ'[j]?.join).isSome = true := List.all_eq_true.mp ha j hj
    obtain ⟨d, hd⟩ : ∃ d, ρ'[j]? = some (some d) := by
      cases q : ρ'[j]? with
      | none => rw [q] at hs; cases hs
      | some o => cases o with
        | none => rw [q] at hs; cases hs
        | some d => exact ⟨d, rfl⟩
    obtain ⟨l', q1, q2, q3⟩ := g.e.ow j d true hd (okOs_ow h1 e1 (by decide))
    have := g.io j hj
    rw [start_get e2, q1] at this
    cases this
    exact ⟨d, hd, q2, q3⟩
  have iop : ∀ {σ' : St} {ρ' : Rho} {F' H' : Hp}, allIn io ρ' = true → Go Z os io (L2.start N vs) (start0 N.length ds) F H σ' ρ' F' H' → ∀ a, IoP pm vs a → Oa os σ' ρ' a := fun {σ' ρ' F' H'} ha g a ⟨j, e1, e2⟩ => by
    obtain ⟨d, hd, _, _⟩ := outs ha g j a e1 e2
    have := g.io j (okIo_io h2 e1)
    rw [start_get e2] at this
    exact ⟨j, true, okOs_ow h1 e1 (by decide), ⟨d, hd⟩, this⟩
  refine h F H (L2.start N vs) (start0 N.length ds) _ R ?_
  unfold runF at wi
  revert wi
  cases m (start0 N.length ds) with
  | nx ρ' =>
    intro wi F' H' σ' g
    dsimp only at wi
    by_cases hc : (isFz rf && allIn io ρ') = true
    · rw [if_pos hc] at wi
      rw [Bool.and_eq_true] at hc
      refine wi F' H' .non (stp g) g.e.hk (outs hc.2 g) ?_
      cases rf with
      | fz => exact .non
      | nw => cases hc.1
      | bo => cases hc.1
    · rw [if_neg hc] at wi; exact wi.elim
  | rt d ρ' =>
    intro wi F' H' σ' v g r
    dsimp only at wi
    by_cases hc : allIn io ρ' = true
    · rw [if_pos hc] at wi
      refine wi F' H' v (stp g) g.e.hk (outs hc g) ?_
      cases rf with
      | fz => exact r
      | bo => exact r
      | nw =>
        obtain ⟨l, r1, r2, r3, r4, r5⟩ := r
        exact ⟨l, r1, r2.imp (ow1 l) id, r3, fun z => r4 (iop hc g l z), r5⟩
    · rw [if_neg hc] at wi; exact wi.elim
  | exc c fs ρ' => exact fun wi F' H' σ' g => wi F' H' σ' (stp g) g.e.hk
  | bk ρ' => exact fun wi => wi.elim
  | ct ρ' => exact fun wi => wi.elim
  | stuck => exact fun wi => wi.elim

theorem WishF.uncut {F H : Hp} {pm : List PM} {vs : List V} {Q : VK} {r : FR} (h : WishF Z E pm rf vs F H Q (r.cut pm)) : WishF Z E pm rf vs F H Q r := by
  cases r with
  | ret d outs => exact fun F' H' v s k o => h F' H' v s k fun j l e1 e2 => let ⟨d', q1, q2⟩ := o j l e1 e2; ⟨d', cutP_io e1 q1, q2⟩
  | exc c fs => exact h
  | stuck => exact h
section
variable {P : Program} {w : World} {K : PySem.W.Frag} {mg : Str → Option Value} {base : Heap}
/-- a def that raises nothing keeps its promise -/
theorem fn_ok {x qual : Str} {st : Stmt} {f : Addr} {fd : FuncData} {N ps : List Str} {k : Nat} {pm : List PM} {m : MS} (hZ : Z.e = none) (F : Fun K x qual st f fd) (S : FnScope N ps (defScope st)) (h1 : okOs pm os = true) (h2 : okIo pm io = true) (hp : pm.length = ps.length) (hN : ps.length ≤ N.length)
    (hb : ∀ (cdv : Value) (A : Around) (outer : List Env) (s : Shared) (H : Hp) (E : XK), Room k (A.deeper (PyProof.Rows.envOfC qual (defScope st) s.heap.objs.size f cdv)) →
      PSsm (cxOf CX0 P w K mg base N qual (defScope st) f cdv A outer s H E).nox Z (fun _ => E0) os io rf (defBody st) m) :
    FnOk P w K mg base CX0 (k + 1) f fd ps (SpM Z pm rf fun ds => (runF N.length io rf m ds).nox.cut pm) := by
  refine F.ok S (fun vs H Q E h => by rw [h.length, hp]) fun cdv A outer s H vs Q E hr h => ?_
  obtain ⟨t, t1, t2⟩ := hb cdv A outer s H E hr
  refine ⟨t, t1, ?_⟩
  obtain ⟨F, ds, hk, pr, di, wi⟩ := h
  refine body_ok hZ t2 h1 h2 (by omega) hk pr di (WishF.uncut ?_)
  revert wi
  dsimp only
  cases runF N.length io rf m ds with
  | ret d outs => exact fun wi => wi
  | exc c fs => exact fun wi => wi.elim
  | stuck => exact fun wi => wi
/-- a def that may raise -/
theorem fn_okX {x qual : Str} {st : Stmt} {f : Addr} {fd : FuncData} {N ps : List Str} {k : Nat} {pm : List PM} {m : MS} (hZ : Z.e = none) (F : Fun K x qual st f fd) (S : FnScope N ps (defScope st)) (h1 : okOs pm os = true) (h2 : okIo pm io = true) (hp : pm.length = ps.length) (hN : ps.length ≤ N.length)
    (hb : ∀ (cdv : Value) (A : Around) (outer : List Env) (s : Shared) (H : Hp) (E : XK), Room k (A.deeper (PyProof.Rows.envOfC qual (defScope st) s.heap.objs.size f cdv)) →
      PSsm (cxOf (L2.CX P w) P w K mg base N qual (defScope st) f cdv A outer s H E) Z (fun _ => E) os io rf (defBody st) m) :
    FnOk P w K mg base (L2.CX P w) (k + 1) f fd ps (SpM Z pm rf fun ds => (runF N.length io rf m ds).cut pm) := by
  refine F.okX S (fun vs H Q E h => by rw [h.length, hp]) fun cdv A outer s H vs Q E hr h => ?_
  obtain ⟨t, t1, t2⟩ := hb cdv A outer s H E hr
  refine ⟨t, t1, ?_⟩
  obtain ⟨F, ds, hk, pr, di, wi⟩ := h
  refine body_ok hZ t2 h1 h2 (by omega) hk pr di (WishF.uncut ?_)
  revert wi
  dsimp only
  cases runF N.length io rf m ds with
  | ret d outs => exact fun wi => wi
  | exc c fs => exact fun wi F' H' _ => wi F' H'
  | stuck => exact fun wi => wi
end
end Vm
/-! Vm5: calls. -/
namespace Vm
open PySem L2
variable {Z : Par} {E : St → XK} {os : Os} {X : Cx} {io : List Nat} {rf : Fl}

/-- what is handed over: the slots' own data in place of their marks -/
def fill : List AF → List D → Rho → Option (List D)
  | [], [], _ => some []
  | .sl i :: fs, _ :: ds, ρ => match ρ[i]? with
    | some (some d) => (fill fs ds ρ).map (d :: ·)
    | _ => none
  | _ :: fs, d :: ds, ρ => (fill fs ds ρ).map (d :: ·)
  | _, _, _ => none
/-- what comes back into the slots -/
def back : List PM → List AF → Rho → Rho → Rho
  | .io :: ps, .sl i :: fs, r, ρ => back ps fs r.tail (ρ.set i (r.headD none))
  | _ :: ps, .sl i :: fs, r, ρ => back ps fs r.tail (ρ.set i none)
  | _ :: ps, _ :: fs, r, ρ => back ps fs r.tail ρ
  | _, _, _, ρ => ρ
def drops : List AF → Rho → Rho
  | [], ρ => ρ
  | .sl i :: fs, ρ => drops fs (ρ.set i none)
  | _ :: fs, ρ => drops fs ρ
def slots : List AF → List Nat
  | [] => []
  | .sl i :: fs => i :: slots fs
  | _ :: fs => slots fs
/-- the arguments fit the parameters -/
def fits (os : Os) : List PM → List AF → Bool
  | [], [] => true
  | .fz :: ps, .fz :: fs => fits os ps fs
  | .mv :: ps, .sl i :: fs => (os.lookup i == some true) && fits os ps fs
  | .io :: ps, .sl i :: fs => (os.lookup i == some true) && fits os ps fs
  | .mv :: ps, .tm :: fs => fits os ps fs
  | .io :: ps, .tm :: fs => fits os ps fs
  | _, _ => false
def tms : List AF → Nat
  | [] => 0
  | .tm :: fs => tms fs + 1
  | _ :: fs => tms fs

/-- one argument as the callee finds it -/
def ActR (Z : Par) (os : Os) (O0 : Addr → Prop) (H0 F H : Hp) (σ : St) (ρ : Rho) : PM → AF → D → V → Prop
  | .fz, .fz, d, v => Rp Z F d v
  | _, .sl i, d, v => os.lookup i = some true ∧ σ[i]? = some (some v) ∧ ρ[i]? = some (some d)
  | _, .tm, d, v => ResR Z .nw O0 (Oa os σ ρ) H0 F H d v
  | _, _, _, _ => False
inductive ActsR (Z : Par) (os : Os) (O0 : Addr → Prop) (H0 F H : Hp) (σ : St) (ρ : Rho) : List PM → List AF → List D → List V → Prop
  | nil : ActsR Z os O0 H0 F H σ ρ [] [] [] []
  | cons {p : PM} {f : AF} {d : D} {v : V} {ps : List PM} {fs : List AF} {ds : List D} {vs : List V} : ((p = .fz) ↔ (f = .fz)) → ActR Z os O0 H0 F H σ ρ p f d v → ActsR Z os O0 H0 F H σ ρ ps fs ds vs → ActsR Z os O0 H0 F H σ ρ (p :: ps) (f :: fs) (d :: ds) (v :: vs)
section
variable {O0 : Addr → Prop} {H0 F H : Hp} {σ : St} {ρ : Rho} {pm : List PM} {fls : List AF} {ds ds' : List D} {vs : List V}
theorem acts_of (h : ArgsR Z os O0 H0 F H σ ρ fls ds vs) : ∀ {pm : List PM} {ds' : List D}, fits os pm fls = true → fill fls ds ρ = some ds' → ActsR Z os O0 H0 F H σ ρ pm fls ds' vs := by
  induction h with
  | nil =>
    intro pm ds' h1 h2
    cases pm with
    | nil => cases h2; exact .nil
    | cons p ps => cases p <;> cases h1
  | @cons f d v fs ds vs h _ r ih =>
    intro pm ds' h1 h2
    cases pm with
    | nil => cases f <;> cases h1
    | cons p ps =>
      have go : ∀ x, fits os ps fs = true → ((p = .fz) ↔ (f = .fz)) → (fill fs ds ρ).map (x :: ·) = some ds' → ActR Z os O0 H0 F H σ ρ p f x v → ActsR Z os O0 H0 F H σ ρ (p :: ps) (f :: fs) ds' (v :: vs) := fun x hf hi hm ha => by
        cases e : fill fs ds ρ with
        | none => rw [e] at hm; cases hm
        | some l => rw [e] at hm; cases hm; exact .cons hi ha (ih hf e)
      have sl : ∀ i, f = .sl i → ((os.lookup i == some true) && fits os ps fs) = true → (p ≠ .fz) → ActsR Z os O0 H0 F H σ ρ (p :: ps) (f :: fs) ds' (v :: vs) := fun i ef hb hp => by
        subst ef
        rw [Bool.and_eq_true] at hb
        have ho : os.lookup i = some true := by simpa using hb.1
        have h2 : (match ρ[i]? with
          | some (some d) => (fill fs ds ρ).map (d :: ·)
          | _ => none) = some ds' := h2
        split at h2
        · rename_i d0 e0
          refine go d0 hb.2 ⟨fun z => absurd z hp, fun z => by cases z⟩ h2 ?_
          cases p with
          | fz => exact absurd rfl hp
          | mv => exact ⟨ho, h, e0⟩
          | io => exact ⟨ho, h, e0⟩
        · cases h2
      cases p with
      | fz =>
        cases f with
        | fz => exact go d h1 (by simp) h2 h
        | bo => cases h1
        | sl i => cases h1
        | tm => cases h1
      | mv =>
        cases f with
        | fz => cases h1
        | bo => cases h1
        | sl i => exact sl i rfl h1 (by decide)
        | tm => exact go d h1 (by simp) h2 h
      | io =>
        cases f with
        | fz => cases h1
        | bo => cases h1
        | sl i => exact sl i rfl h1 (by decide)
        | tm => exact go d h1 (by simp) h2 h
theorem ActsR.get (h : ActsR Z os O0 H0 F H σ ρ pm fls ds vs) : ∀ {j : Nat} {p : PM}, pm[j]? = some p → ∃ f d v, fls[j]? = some f ∧ ds[j]? = some d ∧ vs[j]? = some v ∧ ((p = .fz) ↔ (f = .fz)) ∧ ActR Z os O0 H0 F H σ ρ p f d v := by
  induction h with
  | nil => intro j p e; simp at e
  | cons hi h _ ih =>
    intro j p e
    cases j with
    | zero => simp at e; subst e; exact ⟨_, _, _, by simp, by simp, by simp, hi, h⟩
    | succ j => simp at e; obtain ⟨f, d, v, h1, h2, h3, h4⟩ := ih e; exact ⟨f, d, v, by simpa using h1, by simpa using h2, by simpa using h3, h4⟩
theorem ActsR.getF (h : ActsR Z os O0 H0 F H σ ρ pm fls ds vs) : ∀ {j : Nat} {f : AF}, fls[j]? = some f → ∃ p d v, pm[j]? = some p ∧ ds[j]? = some d ∧ vs[j]? = some v ∧ ((p = .fz) ↔ (f = .fz)) ∧ ActR Z os O0 H0 F H σ ρ p f d v := by
  induction h with
  | nil => intro j p e; simp at e
  | cons hi h _ ih =>
    intro j p e
    cases j with
    | zero => simp at e; subst e; exact ⟨_, _, _, by simp, by simp, by simp, hi, h⟩
    | succ j => simp at e; obtain ⟨f, d, v, h1, h2, h3, h4⟩ := ih e; exact ⟨f, d, v, by simpa using h1, by simpa using h2, by simpa using h3, h4⟩
theorem ActsR.pms (R : EnvR Z os F H σ ρ) (h : ActsR Z os O0 H0 F H σ ρ pm fls ds vs) : PmsR Z F H pm ds vs := by
  induction h with
  | nil => exact .nil
  | @cons p f d v ps fs ds vs hi h _ ih =>
    refine .cons ?_ ih
    have ow : ∀ i, (os.lookup i = some true ∧ σ[i]? = some (some v) ∧ ρ[i]? = some (some d)) → ∃ l, v = .ref l ∧ F l = none ∧ Own Z F H true l d := fun i ⟨h1, h2, h3⟩ => by
      obtain ⟨l, q1, q2, q3⟩ := R.ow i d true h3 h1
      rw [h2] at q1; cases q1
      exact ⟨l, rfl, q2, q3⟩
    have tm : ResR Z .nw O0 (Oa os σ ρ) H0 F H d v → ∃ l, v = .ref l ∧ F l = none ∧ Own Z F H true l d := fun ⟨l, h1, _, h3, _, h5⟩ => ⟨l, h1, h3, h5⟩
    cases p with
    | fz =>
      have : f = .fz := hi.mp rfl
      subst this
      exact h
    | mv =>
      cases f with
      | fz => exact absurd (hi.mpr rfl) (by decide)
      | bo => exact h.elim
      | sl i => exact ow i h
      | tm => exact tm h
    | io =>
      cases f with
      | fz => exact absurd (hi.mpr rfl) (by decide)
      | bo => exact h.elim
      | sl i => exact ow i h
      | tm => exact tm h
/-- how an owned argument is held -/
theorem ActsR.own (R : EnvR Z os F H σ ρ) (h : ActsR Z os O0 H0 F H σ ρ pm fls ds vs) {j : Nat} {p : PM} (e : pm[j]? = some p) (hp : p ≠ .fz) :
    ∃ l, vs[j]? = some (.ref l) ∧ ((∃ i d, fls[j]? = some (.sl i) ∧ os.lookup i = some true ∧ σ[i]? = some (some (.ref l)) ∧ ρ[i]? = some (some d)) ∨ (fls[j]? = some .tm ∧ (O0 l ∨ H0 l = none) ∧ ¬ Oa os σ ρ l)) ∧ ∃ u, H l = some u := by
  obtain ⟨f, d, v, h1, h2, h3, hi, h4⟩ := h.get e
  have nf : f ≠ .fz := fun z => hp (hi.mpr z)
  cases f with
  | fz => exact absurd rfl nf
  | bo => cases p <;> exact h4.elim
  | sl i =>
    have h4 : os.lookup i = some true ∧ σ[i]? = some (some v) ∧ ρ[i]? = some (some d) := by
      cases p with
      | fz => exact absurd rfl hp
      | mv => exact h4
      | io => exact h4
    obtain ⟨l, q1, q2, q3⟩ := R.ow i d true h4.2.2 h4.1
    rw [h4.2.1] at q1; cases q1
    exact ⟨l, h3, .inl ⟨i, d, h1, h4.1, h4.2.1, h4.2.2⟩, q3.some⟩
  | tm =>
    have h4 : ResR Z .nw O0 (Oa os σ ρ) H0 F H d v := by
      cases p with
      | fz => exact absurd rfl hp
      | mv => exact h4
      | io => exact h4
    obtain ⟨l, q1, q2, q3, q4, q5⟩ := h4
    subst q1
    exact ⟨l, h3, .inr ⟨h1, q2, q4⟩, q5.some⟩
theorem slots_get : ∀ {fls : List AF} {j j' i : Nat}, (slots fls).Nodup → fls[j]? = some (.sl i) → fls[j']? = some (.sl i) → j = j'
  | [], j, j', i, _, h, _ => by simp at h
  | f :: fs, j, j', i, n, h, h' => by
    have mem : ∀ {k : Nat}, fs[k]? = some (.sl i) → i ∈ slots fs := by
      intro k
      clear n h h'
      induction fs generalizing k with
      | nil => intro z; simp at z
      | cons g r ih =>
        intro z
        cases k with
        | zero => simp at z; subst z; simp [slots]
        | succ k =>
          have := ih (k := k) (by simpa using z)
          cases g <;> simp [slots, this]
    cases j with
    | zero =>
      cases j' with
      | zero => rfl
      | succ j' =>
        simp at h h'
        subst h
        have n : (i :: slots fs).Nodup := n
        exact absurd (mem h') (List.nodup_cons.mp n).1
    | succ j =>
      cases j' with
      | zero =>
        simp at h h'
        subst h'
        have n : (i :: slots fs).Nodup := n
        exact absurd (mem h) (List.nodup_cons.mp n).1
      | succ j' =>
        simp at h h'
        have n' : (slots fs).Nodup := by
          cases f with
          | sl k => exact (List.nodup_cons.mp n).2
          | fz => exact n
          | bo => exact n
          | tm => exact n
        rw [slots_get n' h h']
theorem tms_get : ∀ {fls : List AF} {j j' : Nat}, tms fls ≤ 1 → fls[j]? = some .tm → fls[j']? = some .tm → j = j'
  | [], j, j', _, h, _ => by simp at h
  | f :: fs, j, j', n, h, h' => by
    have pos : ∀ {k : Nat}, fs[k]? = some .tm → 1 ≤ tms fs := by
      intro k
      clear n h h'
      induction fs generalizing k with
      | nil => intro z; simp at z
      | cons g r ih =>
        intro z
        cases k with
        | zero => simp at z; subst z; simp [tms]
        | succ k =>
          have := ih (k := k) (by simpa using z)
          cases g <;> simp [tms] <;> omega
    cases j with
    | zero =>
      cases j' with
      | zero => rfl
      | succ j' =>
        simp at h h'
        subst h
        have n : tms fs + 1 ≤ 1 := n
        have := pos h'
        omega
    | succ j =>
      cases j' with
      | zero =>
        simp at h h'
        subst h'
        have n : tms fs + 1 ≤ 1 := n
        have := pos h
        omega
      | succ j' =>
        simp at h h'
        have n' : tms fs ≤ 1 := by
          cases f with
          | sl k => exact n
          | fz => exact n
          | bo => exact n
          | tm => have n : tms fs + 1 ≤ 1 := n; omega
        rw [tms_get n' h h']
theorem ActsR.dist (R : EnvR Z os F H σ ρ) (h : ActsR Z os O0 H0 F H σ ρ pm fls ds vs) (hs : (slots fls).Nodup) (ht : ∀ {j j' : Nat} {v : V}, fls[j]? = some .tm → fls[j']? = some .tm → vs[j]? = some v → vs[j']? = some v → j = j') : Dist pm vs := fun i j p q l hp hq np nq e1 e2 => by
  obtain ⟨l1, q1, c1, _⟩ := h.own R hp np
  obtain ⟨l2, q2, c2, _⟩ := h.own R hq nq
  rw [e1] at q1; cases q1
  rw [e2] at q2; cases q2
  rcases c1 with ⟨i1, d1, f1, o1, s1, r1⟩ | ⟨f1, _, n1⟩
  · rcases c2 with ⟨i2, d2, f2, o2, s2, r2⟩ | ⟨f2, _, n2⟩
    · have := R.ne i1 i2 true true l o1 o2 ⟨_, r1⟩ ⟨_, r2⟩ s1 s2
      subst this
      exact slots_get hs f1 f2
    · exact absurd ⟨i1, true, o1, ⟨_, r1⟩, s1⟩ n2
  · rcases c2 with ⟨i2, d2, f2, o2, s2, r2⟩ | ⟨f2, _, n2⟩
    · exact absurd ⟨i2, true, o2, ⟨_, r2⟩, s2⟩ n1
    · exact ht f1 f2 e1 e2
theorem back_length : ∀ (pm : List PM) (fls : List AF) (outs ρ : Rho), (back pm fls outs ρ).length = ρ.length
  | [], _, _, _ => by simp [back]
  | p :: ps, [], _, _ => by cases p <;> simp [back]
  | p :: ps, f :: fs, r, ρ => by
    cases p <;> cases f <;> simp only [back] <;> first | exact back_length ps fs _ ρ | (rw [back_length ps fs _ _, List.length_set])
theorem back_get : ∀ (pm : List PM) (fls : List AF) (outs ρ : Rho) (i : Nat), i ∉ slots fls → (back pm fls outs ρ)[i]? = ρ[i]?
  | [], _, _, _, _, _ => by simp [back]
  | p :: ps, [], _, _, _, _ => by cases p <;> simp [back]
  | p :: ps, f :: fs, r, ρ, i, hi => by
    have st : ∀ k x, f = .sl k → (back ps fs r.tail (ρ.set k x))[i]? = ρ[i]? := fun k x e => by
      subst e
      have hi : i ∉ k :: slots fs := hi
      rw [back_get ps fs r.tail _ i fun z => hi (List.mem_cons_of_mem _ z), List.getElem?_set_ne (fun z => hi (by rw [z]; exact List.mem_cons_self))]
    have ns : i ∉ slots fs := by
      cases f with
      | sl k => exact fun z => hi (List.mem_cons_of_mem _ z)
      | fz => exact hi
      | bo => exact hi
      | tm => exact hi
    cases p <;> cases f <;> simp only [back] <;> first | exact back_get ps fs r.tail ρ i ns | exact st _ _ rfl
theorem back_at : ∀ (pm : List PM) (fls : List AF) (outs ρ : Rho) (i j : Nat) (p : PM), (slots fls).Nodup → fls[j]? = some (.sl i) → pm[j]? = some p → i < ρ.length → (back pm fls outs ρ)[i]? = some (if p = .io then (outs[j]?).getD none else none)
  | [], _, _, _, _, _, _, _, _, h, _ => by simp at h
  | p :: ps, [], _, _, _, _, _, _, h, _, _ => by simp at h
  | p :: ps, f :: fs, r, ρ, i, j, p', hn, h1, h2, hl => by
    cases j with
    | zero =>
      simp at h1 h2
      subst h1 h2
      have ni : i ∉ slots fs := (List.nodup_cons.mp hn).1
      have e0 : (r[0]?).getD none = r.headD none := by cases r <;> rfl
      cases p with
      | io => simp only [back, if_true]; rw [back_get ps fs _ _ i ni, List.getElem?_set_self hl, e0]
      | fz => simp only [back]; rw [back_get ps fs _ _ i ni, List.getElem?_set_self hl, if_neg (by decide)]
      | mv => simp only [back]; rw [back_get ps fs _ _ i ni, List.getElem?_set_self hl, if_neg (by decide)]
    | succ j =>
      have h1 : fs[j]? = some (.sl i) := by simpa using h1
      have h2 : ps[j]? = some p' := by simpa using h2
      have e0 : r[j + 1]? = r.tail[j]? := by cases r <;> simp
      have n' : (slots fs).Nodup := by
        cases f with
        | sl k => exact (List.nodup_cons.mp hn).2
        | fz => exact hn
        | bo => exact hn
        | tm => exact hn
      rw [e0]
      cases p <;> cases f <;> simp only [back] <;> first | exact back_at ps fs r.tail ρ i j p' n' h1 h2 hl | exact back_at ps fs r.tail _ i j p' n' h1 h2 (by rw [List.length_set]; exact hl)
theorem mem_slots : ∀ {fls : List AF} {i : Nat}, i ∈ slots fls → ∃ j : Nat, fls[j]? = some (.sl i)
  | [], _, h => by cases h
  | f :: fs, i, h => by
    have rc : i ∈ slots fs → ∃ j : Nat, (f :: fs)[j]? = some (.sl i) := fun h => let ⟨j, e⟩ := mem_slots h; ⟨j + 1, by simpa using e⟩
    cases f with
    | sl k =>
      rcases List.mem_cons.mp h with e | h
      · subst e; exact ⟨0, rfl⟩
      · exact rc h
    | fz => exact rc h
    | bo => exact rc h
    | tm => exact rc h
/-- behind a call: everything fits again -/
theorem call_done {F1 H1 F' H' : Hp} {ρ1 outs : Rho} (S : Step (Ow os σ ρ) (Ow os σ ρ1) F H F1 H1) (pin : Pin os σ σ ρ ρ1) (R : EnvR Z os F1 H1 σ ρ1) (h : ActsR Z os (Ow os σ ρ) H F1 H1 σ ρ1 pm fls ds vs) (hs : (slots fls).Nodup)
    (C : Step (OwP pm vs) (OwP pm vs) F1 H1 F' H') (hk : Hk Z F' H') (ho : ∀ (j : Nat) (l : Addr) (d : D), pm[j]? = some .io → vs[j]? = some (.ref l) → outs[j]? = some (some d) → F' l = none ∧ Own Z F' H' true l d) :
    Step (Ow os σ ρ) (Ow os σ (back pm fls outs ρ1)) F H F' H' ∧ Pin os σ σ ρ (back pm fls outs ρ1) ∧ EnvR Z os F' H' σ (back pm fls outs ρ1) ∧
      (∀ (rf : Fl) (d : D) (v : V), ResR Z rf (OwP pm vs) (IoP pm vs) H1 F' H' d v → ResR Z rf (Ow os σ ρ) (Oa os σ (back pm fls outs ρ1)) H F' H' d v) ∧ ∀ a, Oa os σ (back pm fls outs ρ1) a → Oa os σ ρ1 a := by
  -- an owned argument is a slot's or new
  have arg : ∀ a, OwP pm vs a → Ow os σ ρ a ∨ H a = none := fun a ⟨j, p, e1, e2, e3⟩ => by
    obtain ⟨l, q1, c, _⟩ := h.own R e1 e2
    rw [e3] at q1; cases q1
    rcases c with ⟨i, d, _, o, s', r⟩ | ⟨_, c, _⟩
    · exact S.w a ⟨i, o, ⟨d, r⟩, s'⟩
    · exact c
  have slt : ∀ i, i ∈ slots fls → ∃ (j : Nat) (p : PM) (l : Addr) (d : D), fls[j]? = some (.sl i) ∧ pm[j]? = some p ∧ p ≠ .fz ∧ vs[j]? = some (.ref l) ∧ os.lookup i = some true ∧ σ[i]? = some (some (.ref l)) ∧ ρ1[i]? = some (some d) := fun i hi => by
    obtain ⟨j, e⟩ := mem_slots hi
    obtain ⟨p, d, v, e1, e2, e3, e4, e5⟩ := h.getF e
    have np : p ≠ .fz := fun z => by have := e4.mp z; cases this
    obtain ⟨l, q1, c, _⟩ := h.own R e1 np
    rcases c with ⟨i', d', f', o, s', r⟩ | ⟨f', _⟩
    · rw [e] at f'; cases f'
      exact ⟨j, p, l, d', e, e1, np, q1, o, s', r⟩
    · rw [e] at f'; cases f'
  -- which slots are what behind
  have ver : ∀ i d, (back pm fls outs ρ1)[i]? = some (some d) → (i ∉ slots fls ∧ ρ1[i]? = some (some d)) ∨ (∃ (j : Nat) (l : Addr), pm[j]? = some .io ∧ outs[j]? = some (some d) ∧ vs[j]? = some (.ref l) ∧ os.lookup i = some true ∧ σ[i]? = some (some (.ref l)) ∧ ∃ d', ρ1[i]? = some (some d')) := fun i d e => by
    by_cases hi : i ∈ slots fls
    · obtain ⟨j, p, l, d', e1, e2, np, e3, e4, e5, e6⟩ := slt i hi
      have hl : i < ρ1.length := (List.getElem?_eq_some_iff.mp e6).1
      rw [back_at pm fls outs ρ1 i j p hs e1 e2 hl] at e
      by_cases hp : p = .io
      · rw [if_pos hp] at e
        subst hp
        refine .inr ⟨j, l, e2, ?_, e3, e4, e5, d', e6⟩
        cases q : outs[j]? with
        | none => rw [q] at e; cases e
        | some o => rw [q] at e; rw [Option.getD_some] at e; rw [Option.some.inj e]
      · rw [if_neg hp] at e; cases e
    · rw [back_get pm fls outs ρ1 i hi] at e
      exact .inl ⟨hi, e⟩
  -- an address of a slot that is not handed over is not an argument's
  have napart : ∀ i b d l, i ∉ slots fls → os.lookup i = some b → ρ1[i]? = some (some d) → σ[i]? = some (some (.ref l)) → ¬ OwP pm vs l := fun i b d l hi e1 e2 e3 ⟨j, p, e4, e5, e6⟩ => by
    obtain ⟨l', q1, c, _⟩ := h.own R e4 e5
    rw [e6] at q1; cases q1
    rcases c with ⟨i', d', f', o, s', r⟩ | ⟨_, _, c⟩
    · have := R.ne i i' b true l e1 o ⟨d, e2⟩ ⟨d', r⟩ e3 s'
      subst this
      have mem : ∀ {fls : List AF} {j : Nat}, fls[j]? = some (.sl i) → i ∈ slots fls := by
        intro fls
        induction fls with
        | nil => intro j z; simp at z
        | cons g r ih =>
          intro j z
          cases j with
          | zero => simp at z; subst z; simp [slots]
          | succ k =>
            have := ih (j := k) (by simpa using z)
            cases g <;> simp [slots, this]
      exact hi (mem f')
    · exact c ⟨i, b, e1, ⟨d, e2⟩, e3⟩
  have Ow2 : ∀ a, Ow os σ (back pm fls outs ρ1) a → Ow os σ ρ1 a := fun a ⟨i, e1, ⟨d, e2⟩, e3⟩ => by
    rcases ver i d e2 with ⟨_, e2⟩ | ⟨j, l, _, _, _, _, _, d', q⟩
    · exact ⟨i, e1, ⟨d, e2⟩, e3⟩
    · exact ⟨i, e1, ⟨d', q⟩, e3⟩
  have stp : Step (Ow os σ ρ) (Ow os σ (back pm fls outs ρ1)) F H F' H' := by
    refine ⟨S.f.trans C.f, fun a o e => ?_, fun a o e n => ?_, fun a z => S.w a (Ow2 a z), fun a e => S.d a (C.d a e)⟩
    · rcases C.n a o e with z | z | z
      · exact S.n a o z
      · exact .inr (.inl (S.d a z))
      · rcases arg a z with z | z
        · exact .inr (.inr z)
        · exact .inr (.inl z)
    · refine C.k a o (S.k a o e n) fun z => ?_
      rcases arg a z with z | z
      · exact n z
      · rw [e] at z; cases z
  have pin2 : Pin os σ σ ρ (back pm fls outs ρ1) := fun i e => by
    refine ⟨rfl, ?_⟩
    have hi : i ∉ slots fls := fun z => by
      obtain ⟨j, p, l, d, _, _, _, _, q, _⟩ := slt i z
      rw [e] at q; cases q
    rw [back_get pm fls outs ρ1 i hi]
    exact (pin i e).2
  have R2 : EnvR Z os F' H' σ (back pm fls outs ρ1) := by
    refine ⟨R.ex.f C.f, hk, by rw [back_length]; exact R.len, fun i d e n => ?_, fun i d b e n => ?_, fun i j b c l e1 e2 ⟨d, e3⟩ ⟨d', e4⟩ e5 e6 => ?_⟩
    · rcases ver i d e with ⟨_, e⟩ | ⟨j, l, _, _, _, q, _⟩
      · obtain ⟨v, q1, q2⟩ := R.fz i d e n
        exact ⟨v, q1, q2.mono C.f⟩
      · rw [n] at q; cases q
    · rcases ver i d e with ⟨hi, e⟩ | ⟨j, l, q1, q2, q3, q4, q5, _⟩
      · obtain ⟨l, q1, q2, q3⟩ := R.ow i d b e n
        have na := napart i b d l hi n e q1
        obtain ⟨u, hu⟩ := q3.some
        refine ⟨l, q1, ?_, q3.keep C.f fun o e => C.k l o e na⟩
        cases z : F' l with
        | none => rfl
        | some o =>
          rcases C.n l o z with z | z | z
          · rw [q2] at z; cases z
          · rw [hu] at z; cases z
          · exact absurd z na
      · obtain ⟨o2, o3⟩ := ho j l d q1 q3 q2
        rw [q4] at n; cases n
        exact ⟨l, q5, o2, o3⟩
    · have back1 : ∀ i d, (back pm fls outs ρ1)[i]? = some (some d) → ∃ d', ρ1[i]? = some (some d') := fun i d e => by
        rcases ver i d e with ⟨_, e⟩ | ⟨_, _, _, _, _, _, _, q⟩
        · exact ⟨d, e⟩
        · exact q
      exact R.ne i j b c l e1 e2 (back1 i d e3) (back1 j d' e4) e5 e6
  refine ⟨stp, pin2, R2, fun rf d v r => ?_, fun a ⟨i, b, e1, ⟨d, e2⟩, e3⟩ => by
    rcases ver i d e2 with ⟨_, e2⟩ | ⟨_, _, _, _, _, _, _, d', q⟩
    · exact ⟨i, b, e1, ⟨d, e2⟩, e3⟩
    · exact ⟨i, b, e1, ⟨d', q⟩, e3⟩⟩
  cases rf with
  | fz => exact r
  | bo => exact r
  | nw =>
    obtain ⟨l, r1, r2, r3, r4, r5⟩ := r
    refine ⟨l, r1, ?_, r3, fun z => ?_, r5⟩
    · rcases r2 with z | z
      · exact arg l z
      · exact .inr (S.d l z)
    · obtain ⟨i, b, e1, ⟨d', e2⟩, e3⟩ := z
      rcases ver i d' e2 with ⟨hi, e2⟩ | ⟨j, l', q1, q2, q3, q4, q5, _⟩
      · have na := napart i b d' l hi e1 e2 e3
        obtain ⟨l2, s1, s2, s3⟩ := R.ow i d' b e2 e1
        rw [e3] at s1; cases s1
        obtain ⟨u, hu⟩ := s3.some
        rcases r2 with z | z
        · exact na z
        · rw [hu] at z; cases z
      · rw [e3] at q5; cases q5
        exact r4 ⟨j, q1, q3⟩
theorem OutsR.weak {F' H' : Hp} {outs : Rho} (o : OutsR Z F' H' pm vs outs) : ∀ (j : Nat) (l : Addr) (d : D), pm[j]? = some .io → vs[j]? = some (.ref l) → outs[j]? = some (some d) → F' l = none ∧ Own Z F' H' true l d := fun j l d h1 h2 h3 => by
  obtain ⟨d0, o1, o2, o3⟩ := o j l h1 h2
  rw [h3] at o1; cases o1
  exact ⟨o2, o3⟩
end

/-! ### calls of defs of the text -/
/-- the mirror of a call; x: whether what is raised is passed on -/
def mPost (x : Bool) (pm : List PM) (fls : List AF) (m : List D → FR) (ds : List D) (ρ1 : Rho) : ER D := match fill fls ds ρ1 with
  | none => .stuck
  | some ds' => match m ds' with
    | .ret d outs => .ok d (back pm fls outs ρ1)
    | .exc c fs => if x = true then .exc c fs (back pm fls [] ρ1) else .stuck
    | .stuck => .stuck
def mCall (x : Bool) (pm : List PM) (fls : List AF) (m : List D → FR) (ma : Rho → ER (List D)) : ME := fun ρ => (ma ρ).bind (mPost x pm fls m)
/-- from the arguments to behind the call -/
theorem call_core {O : Type} {x pu : Bool} {pm : List PM} {fls : List AF} {m : List D → FR} {ds : List D} {vs : List V} {F H F1 H1 : Hp} {σ : St} {ρ ρ1 : Rho} {Q : VK} {Ec : XK}
    (S : Step (Ow os σ ρ) (Ow os σ ρ1) F H F1 H1) (pin : Pin os σ σ ρ ρ1) (R : EnvR Z os F1 H1 σ ρ1) (ar : ArgsR Z os (Ow os σ ρ) H F1 H1 σ ρ1 fls ds vs) (hf : fits os pm fls = true) (hs : (slots fls).Nodup)
    (hE : x = true → Ec = E σ)
    (q : RunE Z E os rf false F H σ ρ (mPost x pm fls m ds ρ1) Q) : SpM Z pm rf m vs H1 Q Ec := by
  unfold mPost at q
  cases ef : fill fls ds ρ1 with
  | none => rw [ef] at q; exact q.elim
  | some ds' =>
    rw [ef] at q
    dsimp only at q
    have ac := acts_of ar hf ef
    refine ⟨F1, ds', R.hk, ac.pms R, ac.dist R hs ar.tmd, ?_⟩
    revert q
    cases m ds' with
    | stuck => exact fun q => q
    | ret d outs =>
      intro q F' H' v C hk ho r
      obtain ⟨c1, c2, c3, c4, _⟩ := call_done S pin R ac hs C hk ho.weak
      exact q F' H' v c1 (fun z => by cases z) c2 c3 (c4 rf d v r)
    | exc c fs =>
      intro q F' H' C hk
      dsimp only at q
      by_cases hx : x = true
      · rw [if_pos hx] at q
        obtain ⟨c1, c2, c3, _⟩ := call_done (outs := []) S pin R ac hs C hk (fun j l d _ _ z => by simp at z)
        rw [hE hx]
        exact q F' H' c1 c2 c3
      · rw [if_neg hx] at q; exact q.elim
theorem sim_call {x pu : Bool} {pm : List PM} {fls : List AF} {m : List D → FR} {ta : TA} {ma : Rho → ER (List D)} {Ec : St → XK} (ha : SimA Z E os fls pu ta ma) (hf : fits os pm fls = true) (hs : (slots fls).Nodup) (hE : x = true → ∀ σ, Ec σ = E σ) :
    SimE Z E os rf false (fun σ => tCall (SpM Z pm rf m) [] (Ec σ) ta σ) (mCall x pm fls m ma) := by
  intro F H σ ρ Q R q
  refine ha F H σ ρ _ R ?_
  unfold mCall at q
  revert q
  cases ma ρ with
  | stuck => exact fun z => z
  | exc c fs ρ' => exact fun z => z
  | ok ds ρ1 =>
    intro q F1 H1 vs S _ pin R1 ar
    rw [List.append_nil]
    exact call_core (O := Unit) (pu := false) S pin R1 ar hf hs (fun h => hE h σ) q
section
variable {CX : CXT} {k : Nat} {f C : Addr} {fd : FuncData} {ps : List Str} {x m : Str} {p pos apos : Pos} {e o : Expr} {es : List Expr} {pm : List PM} {fls : List AF} {mf : List D → FR} {ma : Rho → ER (List D)} {pu : Bool}
/-- f(..): nothing is raised -/
theorem em_call (F : FnOk X.prog X.w X.K X.mg X.base CX k f fd ps (SpM Z pm rf mf)) (hr : Room k X.A) (hm : X.mg x = some (.ref f)) (hk : PySem.W.keepIn X.K (.ref f) = true) (hb : Binds X.K fd ps []) (hx : Passes CX X E0) (ha : PAm X Z E os fls pu (e :: es) ma)
    (hg : Gl X x := by rfl) (hf : fits os pm fls = true := by rfl) (hs : (slots fls).Nodup := by decide)
    (hdb : (x == ("__debug__" : Str)) = false := by decide) (he : starEach (e :: es) X.env = (false, eval e X.env) :: starEach es X.env := by rfl) (hpl : (backTo pos (starEach es X.env)).any (·.1) = false := by rfl) :
    PEm X Z E os rf false (.Call (.Name x p) (e :: es) [] pos) (mCall false pm fls mf ma) := let ⟨_, a1, a2⟩ := ha; ⟨_, pe_call F hr hg hm hk hb .nil hx a1 hdb he hpl, sim_call (Ec := fun _ => E0) a2 hf hs (fun h => by cases h)⟩
/-- f(..): what is raised goes on -/
theorem em_callX {E1 : XK} (F : FnOk X.prog X.w X.K X.mg X.base CX k f fd ps (SpM Z pm rf mf)) (hr : Room k X.A) (hm : X.mg x = some (.ref f)) (hk : PySem.W.keepIn X.K (.ref f) = true) (hb : Binds X.K fd ps []) (hx : Passes CX X E1) (ha : PAm X Z (fun _ => E1) os fls pu (e :: es) ma)
    (hg : Gl X x := by rfl) (hf : fits os pm fls = true := by rfl) (hs : (slots fls).Nodup := by decide)
    (hdb : (x == ("__debug__" : Str)) = false := by decide) (he : starEach (e :: es) X.env = (false, eval e X.env) :: starEach es X.env := by rfl) (hpl : (backTo pos (starEach es X.env)).any (·.1) = false := by rfl) :
    PEm X Z (fun _ => E1) os rf false (.Call (.Name x p) (e :: es) [] pos) (mCall true pm fls mf ma) := let ⟨_, a1, a2⟩ := ha; ⟨_, pe_call F hr hg hm hk hb .nil hx a1 hdb he hpl, sim_call (Ec := fun _ => E1) a2 hf hs (fun _ _ => rfl)⟩
end

/-! ### methods -/
theorem rpS_lookup {F : Hp} {ds : List (Str × D)} {fs : List (Str × V)} (h : RpS Z F ds fs) (n : Str) : (ds.lookup n = none → fs.lookup n = none) ∧ ∀ d, ds.lookup n = some d → ∃ v, fs.lookup n = some v ∧ Rp Z F d v := by
  induction ds generalizing fs with
  | nil => cases h; exact ⟨fun _ => rfl, fun d z => by cases z⟩
  | cons p ds ih =>
    cases h with
    | @cons k d _ v vs r rr =>
      by_cases e : n = k
      · subst e
        refine ⟨fun z => by simp at z, fun d' z => ⟨v, by simp, ?_⟩⟩
        simp at z
        subst z
        exact r
      · have hb : (n == k) = false := beq_eq_false_iff_ne.mpr e
        have e1 : List.lookup n ((k, d) :: ds) = List.lookup n ds := by simp [List.lookup, hb]
        have e2 : List.lookup n ((k, v) :: vs) = List.lookup n vs := by simp [List.lookup, hb]
        rw [e1, e2]
        exact ih rr
/-- o.m(..), o frozen -/
def mMeth (x : Bool) (c m : Str) (pm : List PM) (fls : List AF) (mf : List D → FR) (mo : ME) (ma : Rho → ER (List D)) : ME := fun ρ => (mo ρ).bind fun o ρ1 => match o with
  | .obj c' fs => if c' = c ∧ fs.lookup m = none then (ma ρ1).bind fun ds ρ2 => mPost x (.fz :: pm) (.fz :: fls) mf (o :: ds) ρ2 else .stuck
  | _ => .stuck
theorem sim_meth {x pu pu1 : Bool} {c m : Str} {pm : List PM} {fls : List AF} {mf : List D → FR} {to : TE} {mo : ME} {ta : TA} {ma : Rho → ER (List D)} {Ec : St → XK} (ho : SimE Z E os .fz pu1 to mo) (ha : SimA Z E os fls pu ta ma) (hf : fits os pm fls = true) (hs : (slots fls).Nodup) (hE : x = true → ∀ σ, Ec σ = E σ) :
    SimE Z E os rf false (fun σ => tMeth (Z.z c) m (SpM Z (.fz :: pm) rf mf) [] (Ec σ) to ta σ) (mMeth x c m pm fls mf mo ma) := by
  intro F H σ ρ Q R q
  refine ho F H σ ρ _ R ?_
  unfold mMeth at q
  revert q
  cases mo ρ with
  | stuck => exact fun z => z
  | exc c fs ρ' => exact fun z => z
  | ok o ρ1 =>
    intro q' F1 H1 v S _ pin R1 r
    have r : Rp Z F1 o v := r
    cases o with
    | obj c' fs =>
      have q : RunE Z E os rf false F H σ ρ (if c' = c ∧ fs.lookup m = none then (ma ρ1).bind fun ds ρ2 => mPost x (.fz :: pm) (.fz :: fls) mf (.obj c' fs :: ds) ρ2 else .stuck) Q := q'
      clear q'
      by_cases hc : c' = c ∧ fs.lookup m = none
      · rw [if_pos hc] at q
        obtain ⟨e1, e2⟩ := hc
        subst e1
        have r0 := r
        cases r with
        | obj g1 g2 =>
          refine ⟨_, _, _, rfl, R1.hk.ins g1, (rpS_lookup g2 m).1 e2, ?_⟩
          refine ha F1 H1 σ ρ1 _ R1 ?_
          revert q
          cases ma ρ1 with
          | stuck => exact fun z => z
          | exc c fs ρ' => exact fun q F' H' s p R' => q F' H' (S.trans s) (pin.trans p) R'
          | ok ds ρ2 =>
            intro q F2 H2 vs S2 _ pin2 R2 ar
            rw [List.append_nil]
            exact call_core (O := Unit) (pu := false) (ds := .obj c' fs :: ds) (fls := .fz :: fls) (S.trans S2) (pin.trans pin2) R2 (.cons (f := .fz) (r0.mono S2.f) (fun z => by cases z) (ar.back S)) hf hs (fun h => hE h σ) q
      · rw [if_neg hc] at q; exact q.elim
    | _ => exact q'.elim
section
variable {CX : CXT} {k : Nat} {f : Addr} {c : Str} {fd : FuncData} {ps : List Str} {x m : Str} {p pos apos : Pos} {e o : Expr} {es : List Expr} {pm : List PM} {fls : List AF} {mf : List D → FR} {mo : ME} {ma : Rho → ER (List D)} {pu pu1 : Bool}
theorem em_meth {pl : Sem Bool} (c : Str) (he : PEm X Z E os .fz pu1 o mo) (cl : Cls X.K (Z.z c)) (hm : Meth X.K (Z.z c) m f) (F : FnOk X.prog X.w X.K X.mg X.base CX k f fd ps (SpM Z (.fz :: pm) rf mf)) (hr : Room k X.A) (hb : Binds X.K fd ps []) (hx : Passes CX X E0) (ha : PAm X Z E os fls pu (e :: es) ma)
    (hf : fits os pm fls = true := by rfl) (hs : (slots fls).Nodup := by decide)
    (hst : starEach (e :: es) X.env = (false, eval e X.env) :: starEach es X.env := by rfl) (hpl : (backTo pos (starEach es X.env)).any (·.1) = false := by rfl)
    (htr : eval (.Call (.Attribute o m apos) (e :: es) [] pos) X.env = (do
      let ov ← eval o X.env
      standAt apos.atName
      let (f, first) ← holding [ov] (getMethod ov m pl)
      callWith pos f first (backTo pos (starEach (e :: es) X.env)) (backToKw pos (keywordEach [] X.env))) := by rfl) :
    PEm X Z E os rf false (.Call (.Attribute o m apos) (e :: es) [] pos) (mMeth false c m pm fls mf mo ma) := let ⟨_, o1, o2⟩ := he; let ⟨_, a1, a2⟩ := ha; ⟨_, pe_meth (pl := pl) o1 cl hm F hr hb .nil hx a1 hst hpl htr, sim_meth (Ec := fun _ => E0) o2 a2 hf hs (fun h => by cases h)⟩
theorem em_meth0 {pl : Sem Bool} (c : Str) (he : PEm X Z E os .fz pu1 o mo) (cl : Cls X.K (Z.z c)) (hm : Meth X.K (Z.z c) m f) (F : FnOk X.prog X.w X.K X.mg X.base CX k f fd ps (SpM Z [.fz] rf mf)) (hr : Room k X.A) (hb : Binds X.K fd ps []) (hx : Passes CX X E0)
    (htr : eval (.Call (.Attribute o m apos) [] [] pos) X.env = (do
      let ov ← eval o X.env
      standAt apos.atName
      let (f, first) ← holding [ov] (getMethod ov m pl)
      callWith pos f first (backTo pos (starEach [] X.env)) (backToKw pos (keywordEach [] X.env))) := by rfl) :
    PEm X Z E os rf false (.Call (.Attribute o m apos) [] [] pos) (mMeth false c m [] [] mf mo mNil) := by
  obtain ⟨_, o1, o2⟩ := he
  obtain ⟨_, n1, n2⟩ := am_nil (X := X) (Z := Z) (E := E) (os := os)
  exact ⟨_, pe_meth0 (pl := pl) o1 cl hm F hr hb .nil hx htr, sim_meth (Ec := fun _ => E0) (ta := tNil) (pu := true) o2 (fun F H σ ρ Q R h => h F H [] (PStep.refl R.hk).step (fun _ => Same.refl H) Pin.refl R .nil) rfl (by decide) (fun h => by cases h)⟩
end

/-! ### a new instance -/
theorem ArgsR.pstep {O0 : Addr → Prop} {H0 F H F' H' : Hp} {σ : St} {ρ : Rho} {fls : List AF} {ds : List D} {vs : List V} (h : ArgsR Z os O0 H0 F H σ ρ fls ds vs) (p : PStep Z F H F' H') : ArgsR Z os O0 H0 F' H' σ ρ fls ds vs := by
  induction h with
  | nil => exact .nil
  | @cons f d v fs ds vs h n r ih =>
    refine .cons ?_ n ih
    cases f with
    | fz => exact h.mono p.f
    | bo => exact Bo.mono p.f p.h h
    | sl i => exact h
    | tm => exact nw_keep (p.step (O := Ow os σ ρ)) (fun _ _ => rfl) h
def mMakeP (x : Bool) (c : Str) (pm : List PM) (fls : List AF) (mf : List D → FR) (ds : List D) (ρ1 : Rho) : ER D := match fill fls ds ρ1 with
  | none => .stuck
  | some ds' => match mf (.obj c [] :: ds') with
    | .ret .non (some d :: outs) => .ok d (back pm fls outs ρ1)
    | .exc c fs => if x = true then .exc c fs (back pm fls [] ρ1) else .stuck
    | _ => .stuck
def mMake (x : Bool) (c : Str) (pm : List PM) (fls : List AF) (mf : List D → FR) (ma : Rho → ER (List D)) : ME := fun ρ => (ma ρ).bind (mMakeP x c pm fls mf)
theorem sim_make {x pu : Bool} {c : Str} {pm : List PM} {fls : List AF} {mf : List D → FR} {ta : TA} {ma : Rho → ER (List D)} {Ec : St → XK} (ha : SimA Z E os fls pu ta ma) (hf : fits os pm fls = true) (hs : (slots fls).Nodup) (hE : x = true → ∀ σ, Ec σ = E σ) :
    SimE Z E os .nw false (fun σ => tMake (Z.z c) (SpM Z (.io :: pm) .fz mf) [] (Ec σ) ta σ) (mMake x c pm fls mf ma) := by
  intro F H σ ρ Q R q
  refine ha F H σ ρ _ R ?_
  unfold mMake at q
  revert q
  cases ma ρ with
  | stuck => exact fun z => z
  | exc c fs ρ' => exact fun z => z
  | ok ds ρ1 =>
    intro q F1 H1 vs S _ pin R1 ar y dx hy hdx ne
    rw [List.append_nil]
    have q : RunE Z E os .nw false F H σ ρ (mMakeP x c pm fls mf ds ρ1) Q := q
    unfold mMakeP at q
    cases ef : fill fls ds ρ1 with
    | none => rw [ef] at q; exact q.elim
    | some ds' =>
      rw [ef] at q
      dsimp only at q
      have hy2 : (upd H1 dx (.own y)) y = none := by rw [upd_ne (Ne.symm ne)]; exact hy
      have ps : PStep Z F1 H1 F1 (upd (upd H1 dx (.own y)) y (.ins (Z.z c) dx [])) := (PStep.newH R1.hk hdx).trans (PStep.newH (R1.hk.same (same_upd hdx)) hy2)
      have R2 := R1.pstep ps
      have S2 := S.trans (ps.step (O := Ow os σ ρ1))
      have fy : F1 y = none := R1.hk.none hy
      have hyH : H y = none := S.d y hy
      have noy : ¬ Oa os σ ρ1 y := fun ⟨i, b, e1, ⟨d, e2⟩, e3⟩ => by
        obtain ⟨l, q1, _, q3⟩ := R1.ow i d b e2 e1
        rw [e3] at q1; cases q1
        obtain ⟨u, hu⟩ := q3.some
        rw [hy] at hu; cases hu
      have ac1 := acts_of ar hf ef
      have ac2 := acts_of (ar.pstep ps) hf ef
      have ow0 : Own Z F1 (upd (upd H1 dx (.own y)) y (.ins (Z.z c) dx [])) true y (.obj c []) := ⟨dx, [], upd_same, .nil⟩
      have ac3 : ActsR Z os (Ow os σ ρ) H F1 (upd (upd H1 dx (.own y)) y (.ins (Z.z c) dx [])) σ ρ1 (.io :: pm) (.tm :: fls) (.obj c [] :: ds') (.ref y :: vs) :=
        .cons (p := .io) (f := .tm) (by simp) ⟨y, rfl, .inr hyH, fy, noy, ow0⟩ ac2
      have di : Dist (.io :: pm) (.ref y :: vs) := fun i j p p' l e1 e2 n1 n2 e3 e4 => by
        have old : ∀ (k : Nat) (p : PM), pm[k]? = some p → p ≠ .fz → vs[k]? = some (.ref y) → False := fun k p f1 f2 f3 => by
          obtain ⟨l, g1, _, u, hu⟩ := ac1.own R1 f1 f2
          rw [f3] at g1; cases g1
          rw [hy] at hu; cases hu
        cases i with
        | zero =>
          cases j with
          | zero => rfl
          | succ j =>
            simp at e3 e4 e2
            subst e3
            exact (old j p' e2 n2 e4).elim
        | succ i =>
          cases j with
          | zero =>
            simp at e3 e4 e1
            subst e4
            exact (old i p e1 n1 e3).elim
          | succ j =>
            simp at e1 e2 e3 e4
            rw [ac1.dist R1 hs ar.tmd i j p p' l e1 e2 n1 n2 e3 e4]
      refine ⟨F1, .obj c [] :: ds', R2.hk, .cons (p := .io) ⟨y, rfl, fy, ow0⟩ (ac2.pms R2), di, ?_⟩
      revert q
      cases mf (.obj c [] :: ds') with
      | stuck => exact fun q => q.elim
      | exc c' fs =>
        intro q F' H' C hk
        dsimp only at q
        by_cases hx : x = true
        · rw [if_pos hx] at q
          obtain ⟨c1, c2, c3, _⟩ := call_done (outs := []) S2 pin R2 ac3 hs C hk (fun j l d _ _ z => by simp at z)
          rw [hE hx σ]
          exact q F' H' c1 c2 c3
        · rw [if_neg hx] at q; exact q.elim
      | ret d outs =>
        intro q F' H' v C hk ho r
        cases d with
        | non =>
          cases outs with
          | nil => exact q.elim
          | cons o outs =>
            cases o with
            | none => exact q.elim
            | some d0 =>
              obtain ⟨c1, c2, c3, _, c5⟩ := call_done S2 pin R2 ac3 hs C hk ho.weak
              obtain ⟨d1, o1, o2, o3⟩ := ho 0 y rfl rfl
              cases o1
              have rv : v = .non := by have r : Rp Z F' .non v := r; cases r; rfl
              exact ⟨rv, q F' H' (.ref y) c1 (fun z => by cases z) c2 c3 ⟨y, rfl, .inr hyH, o2, fun z => noy (c5 y z), o3⟩⟩
        | _ => exact q.elim
section
variable {CX : CXT} {k : Nat} {f : Addr} {c : Str} {fd : FuncData} {ps : List Str} {x : Str} {p pos : Pos} {e : Expr} {es : List Expr} {pm : List PM} {fls : List AF} {mf : List D → FR} {ma : Rho → ER (List D)} {pu : Bool}
theorem em_make (c : Str) (M : Mk X.K (Z.z c) f) (F : FnOk X.prog X.w X.K X.mg X.base CX k f fd ps (SpM Z (.io :: pm) .fz mf)) (hr : Room (k + 1) X.A) (hm : X.mg x = some (.ref (Z.z c))) (hb : Binds X.K fd ps []) (hx : Passes CX X E0) (ha : PAm X Z E os fls pu (e :: es) ma)
    (hg : Gl X x := by rfl) (hf : fits os pm fls = true := by rfl) (hs : (slots fls).Nodup := by decide)
    (hdb : (x == ("__debug__" : Str)) = false := by decide) (he : starEach (e :: es) X.env = (false, eval e X.env) :: starEach es X.env := by rfl) (hpl : (backTo pos (starEach es X.env)).any (·.1) = false := by rfl) :
    PEm X Z E os .nw false (.Call (.Name x p) (e :: es) [] pos) (mMake false c pm fls mf ma) := let ⟨_, a1, a2⟩ := ha; ⟨_, pe_make M F hr hg hm hb .nil hx a1 hdb he hpl, sim_make (Ec := fun _ => E0) a2 hf hs (fun h => by cases h)⟩
theorem em_makeX {E1 : XK} (c : Str) (M : Mk X.K (Z.z c) f) (F : FnOk X.prog X.w X.K X.mg X.base CX k f fd ps (SpM Z (.io :: pm) .fz mf)) (hr : Room (k + 1) X.A) (hm : X.mg x = some (.ref (Z.z c))) (hb : Binds X.K fd ps []) (hx : Passes CX X E1) (ha : PAm X Z (fun _ => E1) os fls pu (e :: es) ma)
    (hg : Gl X x := by rfl) (hf : fits os pm fls = true := by rfl) (hs : (slots fls).Nodup := by decide)
    (hdb : (x == ("__debug__" : Str)) = false := by decide) (he : starEach (e :: es) X.env = (false, eval e X.env) :: starEach es X.env := by rfl) (hpl : (backTo pos (starEach es X.env)).any (·.1) = false := by rfl) :
    PEm X Z (fun _ => E1) os .nw false (.Call (.Name x p) (e :: es) [] pos) (mMake true c pm fls mf ma) := let ⟨_, a1, a2⟩ := ha; ⟨_, pe_make M F hr hg hm hb .nil hx a1 hdb he hpl, sim_make (Ec := fun _ => E1) a2 hf hs (fun _ _ => rfl)⟩
end
end Vm
/-! Vm6: equality of data. -/
namespace Vm
open PySem L2
variable {Z : Par} {E : St → XK} {os : Os} {X : Cx} {io : List Nat} {rf : Fl}

def kget {α : Type} (b : List (Key × α)) (k : Key) : Option α := (b.find? fun p => decide (p.1 = k)).map (·.2)
mutual
def deq : D → D → Bool
  | .non, .non => true
  | .bl a, .bl b => a == b
  | .bl a, .int b => (if a then 1 else 0) == b
  | .int a, .bl b => a == (if b then 1 else 0)
  | .int a, .int b => a == b
  | .str a, .str b => a == b
  | .lst a, .lst b => a.length == b.length && deqL a b
  | .tup a, .tup b => a.length == b.length && deqL a b
  | .dct a, .dct b => a.length == b.length && deqK a b
  | _, _ => false
def deqL : List D → List D → Bool
  | a :: r, b :: s => deq a b && deqL r s
  | _, _ => true
def deqK : List (Key × D) → List (Key × D) → Bool
  | (k, d) :: r, b => (match kget b k with
    | some y => deq d y
    | none => false) && deqK r b
  | [], _ => true
end
mutual
/-- the comparison is covered; at most n deep -/
def okEq : D → D → Nat → Bool
  | .lst a, .lst b, n => decide (0 < n) && (a.length != b.length || okEqL a b (n - 1))
  | .tup a, .tup b, n => decide (0 < n) && okEqL a b (n - 1)
  | .dct a, .dct b, n => decide (0 < n) && okEqK a b (n - 1)
  | .dct _, _, _ => false
  | .obj _ _, _, _ => false
  | .scr _, _, _ => false
  | _, .dct _, _ => false
  | _, .obj _ _, _ => false
  | _, .scr _, _ => false
  | _, _, _ => true
def okEqL : List D → List D → Nat → Bool
  | a :: r, b :: s, n => okEq a b n && okEqL r s n
  | _, _, _ => true
def okEqK : List (Key × D) → List (Key × D) → Nat → Bool
  | (k, d) :: r, b, n => (match kget b k with
    | some y => okEq d y n
    | none => true) && okEqK r b n
  | [], _, _ => true
end

/-! ### small facts -/
def eAt (a b : List D) (j : Nat) : Bool := match a[j]?, b[j]? with
  | some x, some y => deq x y
  | _, _ => true
theorem range_all_succ (n : Nat) (e : Nat → Bool) : (List.range (n + 1)).all e = (e 0 && (List.range n).all fun j => e (j + 1)) := by
  rw [List.range_succ_eq_map, List.all_cons, List.all_map]; rfl
theorem deqL_range : ∀ (a b : List D), (List.range (min a.length b.length)).all (eAt a b) = deqL a b
  | [], b => by simp [deqL]
  | a :: r, [] => by simp [deqL]
  | a :: r, b :: s => by
    have e : min (a :: r).length (b :: s).length = min r.length s.length + 1 := by simp [Nat.succ_min_succ]
    rw [e, range_all_succ]
    have e2 : (fun j => eAt (a :: r) (b :: s) (j + 1)) = eAt r s := by funext j; simp [eAt]
    rw [e2, deqL_range r s]
    simp [eAt, deqL]
theorem okEqL_at : ∀ {a b : List D} {n j : Nat} {x y : D}, okEqL a b n = true → a[j]? = some x → b[j]? = some y → okEq x y n = true
  | [], b, n, j, x, y, _, h, _ => by simp at h
  | a :: r, [], n, j, x, y, _, _, h => by simp at h
  | a :: r, b :: s, n, j, x, y, h, h1, h2 => by
    simp only [okEqL, Bool.and_eq_true] at h
    cases j with
    | zero => simp at h1 h2; subst h1 h2; exact h.1
    | succ j => exact okEqL_at h.2 (by simpa using h1) (by simpa using h2)
theorem kget_cons {α : Type} (k j : Key) (d : α) (r : List (Key × α)) : kget ((k, d) :: r) j = if k = j then some d else kget r j := by
  unfold kget
  by_cases h : k = j
  · simp [List.find?_cons, h]
  · simp [List.find?_cons, h]
theorem RpK.get {F : Hp} : ∀ {ds : List (Key × D)} {kvs : List (Key × V)}, RpK Z F ds kvs → ∀ k, (kget ds k = none → valV kvs k = none) ∧ ∀ d, kget ds k = some d → ∃ v, valV kvs k = some v ∧ Rp Z F d v
  | [], _, .nil, k => ⟨fun _ => rfl, fun d h => by simp [kget] at h⟩
  | (k', d') :: ds, (_, v') :: kvs, .cons r rr, k => by
    by_cases e : k' = k
    · have q : kget ((k', d') :: ds) k = some d' := by rw [kget_cons, if_pos e]
      refine ⟨fun h => ?_, fun d h => ?_⟩
      · rw [q] at h; cases h
      · rw [q] at h; cases h; exact ⟨v', valV_pos e, r⟩
    · have q : kget ((k', d') :: ds) k = kget ds k := by rw [kget_cons, if_neg e]
      have q2 : valV ((k', v') :: kvs) k = valV kvs k := valV_neg (p := (k', v')) e
      rw [q, q2]
      exact RpK.get rr k
theorem RpK.getJ {F : Hp} : ∀ {ds : List (Key × D)} {kvs : List (Key × V)} {j : Nat} {k : Key} {d : D}, RpK Z F ds kvs → ds[j]? = some (k, d) → ∃ v, kvs[j]? = some (k, v) ∧ Rp Z F d v
  | _, _, _, _, _, .nil, h => by simp at h
  | _, _, 0, _, _, .cons r rr, h => by simp at h; obtain ⟨rfl, rfl⟩ := h; exact ⟨_, by simp, r⟩
  | _, _, j + 1, _, _, .cons r rr, h => by obtain ⟨v, h1, h2⟩ := RpK.getJ rr (by simpa using h); exact ⟨v, by simpa using h1, h2⟩
theorem RpK.keys {F : Hp} {ds : List (Key × D)} {kvs : List (Key × V)} (h : RpK Z F ds kvs) : ds.map (·.1) = kvs.map (·.1) := by
  induction ds generalizing kvs with
  | nil => cases h; rfl
  | cons p ds ih => cases h with | cons r rr => simp [ih rr]
theorem RpK.length {F : Hp} {ds : List (Key × D)} {kvs : List (Key × V)} (h : RpK Z F ds kvs) : ds.length = kvs.length := by
  have := congrArg List.length h.keys
  simpa using this
theorem kget_mem {α : Type} {ds : List (Key × α)} (n : (ds.map (·.1)).Nodup) {k : Key} {d : α} (h : (k, d) ∈ ds) : kget ds k = some d := by
  induction ds with
  | nil => cases h
  | cons p ds ih =>
    obtain ⟨k', d'⟩ := p
    rw [kget_cons]
    rw [List.map_cons, List.nodup_cons] at n
    rcases List.mem_cons.mp h with e | h
    · cases e; rw [if_pos rfl]
    · rw [if_neg fun e => n.1 (by subst e; exact List.mem_map.mpr ⟨_, h, rfl⟩)]
      exact ih n.2 h
theorem kget_of {α : Type} {ds : List (Key × α)} {k : Key} {d : α} (h : kget ds k = some d) : (k, d) ∈ ds := by
  induction ds with
  | nil => simp [kget] at h
  | cons p ds ih =>
    obtain ⟨k', d'⟩ := p
    rw [kget_cons] at h
    by_cases e : k' = k
    · rw [if_pos e] at h; cases h; subst e; exact List.mem_cons_self
    · rw [if_neg e] at h; exact List.mem_cons_of_mem _ (ih h)
def eKey (a b : List (Key × D)) (k : Key) : Bool := match kget a k, kget b k with
  | some x, some y => deq x y
  | _, _ => false
theorem deqK_all {b : List (Key × D)} : ∀ (a : List (Key × D)), deqK a b = a.all fun p => match kget b p.1 with
    | some y => deq p.2 y
    | none => false
  | [] => rfl
  | (k, d) :: r => by rw [deqK, List.all_cons, deqK_all r]
theorem okEqK_at {b : List (Key × D)} {n : Nat} : ∀ {a : List (Key × D)} {k : Key} {x y : D}, okEqK a b n = true → (k, x) ∈ a → kget b k = some y → okEq x y n = true
  | [], k, x, y, _, h, _ => by cases h
  | (k', d) :: r, k, x, y, h, h1, h2 => by
    simp only [okEqK, Bool.and_eq_true] at h
    rcases List.mem_cons.mp h1 with e | h1
    · cases e
      rw [h2] at h
      exact h.1
    · exact okEqK_at h.2 h1 h2
theorem deqK_keys {a b : List (Key × D)} (n : (a.map (·.1)).Nodup) : deqK a b = a.all fun p => (kget b p.1).isSome && eKey a b p.1 := by
  rw [deqK_all]
  have : ∀ p ∈ a, (match kget b p.1 with
    | some y => deq p.2 y
    | none => false) = ((kget b p.1).isSome && eKey a b p.1) := fun p hp => by
    unfold eKey
    rw [kget_mem n (k := p.1) (d := p.2) hp]
    cases kget b p.1 <;> simp
  clear n
  generalize hg : eKey a b = g at this ⊢
  clear hg
  induction a with
  | nil => rfl
  | cons p a ih =>
    rw [List.all_cons, List.all_cons, this p List.mem_cons_self, ih fun q hq => this q (List.mem_cons_of_mem _ hq)]


theorem valV_mem {vs : List (Key × V)} (nd : (vs.map (·.1)).Nodup) {k : Key} {v : V} (hm : (k, v) ∈ vs) : valV vs k = some v := by
  induction vs with
  | nil => cases hm
  | cons p ps ih =>
    rw [List.map_cons, List.nodup_cons] at nd
    rcases List.mem_cons.mp hm with z | z
    · subst z; exact valV_pos rfl
    · rw [valV_neg fun y => nd.1 (by rw [y]; exact List.mem_map.mpr ⟨_, z, rfl⟩)]
      exact ih nd.2 z

/-! ### one level of a datum -/
def Lv (Z : Par) (F H : Hp) : D → V → Prop
  | .non, v => v = .non
  | .bl b, v => v = .bl b
  | .int i, v => v = .int i
  | .str x, v => v = .str x
  | .lst ds, v => ∃ a vs, v = .ref a ∧ H a = some (.lst vs) ∧ RpL Z F ds vs
  | .tup ds, v => ∃ a vs, v = .ref a ∧ H a = some (.tup vs) ∧ RpL Z F ds vs
  | .dct ds, v => ∃ a vs, v = .ref a ∧ Rd H a (.dK vs) ∧ RpK Z F ds vs
  | .obj c ds, v => ∃ a dx vs, v = .ref a ∧ H a = some (.ins (Z.z c) dx vs) ∧ RpS Z F ds vs
  | .scr ns, v => ∃ a, v = .ref a ∧ SqL Z.K H a (ns.map V.int)
theorem Bo.lv {F H : Hp} {d : D} {v : V} (k : Hk Z F H) (b : Bo Z F H d v) : Lv Z F H d v := by
  cases d with
  | non => exact b.non
  | bl i => exact b.bl
  | int i => exact b.int
  | str i => exact b.str
  | lst ds => exact b.lst k
  | tup ds => exact b.tup k
  | dct ds => exact b.dct k
  | obj c ds => exact b.obj k
  | scr ns => exact b.scr k
theorem Rp.lv {F H : Hp} {d : D} {v : V} (k : Hk Z F H) (b : Rp Z F d v) : Lv Z F H d v := (Bo.of (H := H) b).lv k
theorem rd_inj {H : Hp} {a : Addr} {k k' : List (Key × V)} (h : Rd H a (.dK k)) (h' : Rd H a (.dK k')) : k = k' := by
  rcases h with h | ⟨o, h⟩ <;> rcases h' with h' | ⟨o', h'⟩ <;> rw [h] at h' <;> cases h' <;> rfl
theorem KV.keysEq {k : List (Key × V)} {vs : List (Key × Value)} (rk : KV k vs) : k.map (·.1) = vs.map (·.1) := by
  unfold KV at rk
  induction rk with
  | nil => rfl
  | cons h _ ih => rw [List.map_cons, List.map_cons, ih, h.1]
theorem Lv.nonE {F H : Hp} {e : D} (l : Lv Z F H e .non) : e = .non := by cases e <;> simp_all [Lv]
theorem Lv.blE {F H : Hp} {e : D} {b : Bool} (l : Lv Z F H e (.bl b)) : e = .bl b := by cases e <;> simp_all [Lv]
theorem Lv.intE {F H : Hp} {e : D} {b : Int} (l : Lv Z F H e (.int b)) : e = .int b := by cases e <;> simp_all [Lv]
theorem Lv.strE {F H : Hp} {e : D} {b : Str} (l : Lv Z F H e (.str b)) : e = .str b := by cases e <;> simp_all [Lv]
theorem rd_nodup {P : Program} {w : World} {H : Hp} {h : Heap} {a : Addr} {k : List (Key × V)} (r : Rd H a (.dK k)) (x : HOk P w H h) : (k.map (·.1)).Nodup := by
  obtain ⟨_, _, vs, rk, o, es, ep, _, _, _, _, _, n⟩ := r.ok x
  have : k.map (·.1) = vs.map (·.1) := by
    exact KV.keysEq rk
  rw [this]; exact n
section
variable {P : Program} {w : World} {F H : Hp} {h : Heap}
mutual
/-- two readings of one object say the same -/
theorem Rp.same (k : Hk Z F H) (x : HOk P w H h) : ∀ {d e : D} {v : V} {n : Nat}, Rp Z F d v → Lv Z F H e v → okEq d e n = true → deq d e = true
  | _, e, _, n, .non, l, o => by cases l.nonE; rfl
  | _, e, _, n, .bl b, l, o => by cases l.blE; simp [deq]
  | _, e, _, n, .int b, l, o => by cases l.intE; simp [deq]
  | _, e, _, n, .str b, l, o => by cases l.strE; simp [deq]
  | _, e, _, n, .lst hf r, l, o => by
    have hf := k.lst hf
    cases e with
    | lst es =>
      obtain ⟨a', vs', e1, e2, e3⟩ := l
      cases e1
      rw [hf] at e2
      cases e2
      have hl : _ = es.length := r.length.trans e3.length.symm
      have o := (Bool.and_eq_true _ _ ▸ o : _ ∧ _).2
      rw [hl, bne_self_eq_false, Bool.false_or] at o
      show (_ == _ && _) = true
      rw [hl, beq_self_eq_true, Bool.true_and]
      exact RpL.same k x r e3 o
    | tup es => obtain ⟨a', vs', e1, e2, e3⟩ := l; cases e1; rw [hf] at e2; cases e2
    | dct es => cases o
    | obj _ _ => cases o
    | scr _ => cases o
    | _ => cases l
  | _, e, _, n, .tup hf r, l, o => by
    have hf := k.tup hf
    cases e with
    | tup es =>
      obtain ⟨a', vs', e1, e2, e3⟩ := l
      cases e1
      rw [hf] at e2
      cases e2
      have hl : _ = es.length := r.length.trans e3.length.symm
      have o := (Bool.and_eq_true _ _ ▸ o : _ ∧ _).2
      show (_ == _ && _) = true
      rw [hl, beq_self_eq_true, Bool.true_and]
      exact RpL.same k x r e3 o
    | lst es => obtain ⟨a', vs', e1, e2, e3⟩ := l; cases e1; rw [hf] at e2; cases e2
    | dct es => cases o
    | obj _ _ => cases o
    | scr _ => cases o
    | _ => cases l
  | _, e, _, n, .dct hf r, l, o => by
    have hf := k.dK hf
    cases e with
    | dct es =>
      obtain ⟨a', vs', e1, e2, e3⟩ := l
      cases e1
      cases rd_inj hf e2
      have hl : _ = es.length := r.length.trans e3.length.symm
      have o := (Bool.and_eq_true _ _ ▸ o : _ ∧ _).2
      show (_ == _ && _) = true
      rw [hl, beq_self_eq_true, Bool.true_and]
      exact RpK.same k x r (fun k' v hm => by
        have nd := rd_nodup e2 x
        have q := e3.get k'
        have := valV_mem nd hm
        cases hg : kget es k' with
        | none => rw [q.1 hg] at this; cases this
        | some y =>
          obtain ⟨v', h1, h2⟩ := q.2 y hg
          rw [this] at h1; cases h1
          exact ⟨y, rfl, h2⟩) o
    | _ => cases o
  | _, e, _, n, .obj hf r, l, o => by cases e <;> cases o
  | _, e, _, n, .scr hf, l, o => by cases e <;> cases o
theorem RpL.same (k : Hk Z F H) (x : HOk P w H h) : ∀ {d e : List D} {vs : List V} {n : Nat}, RpL Z F d vs → RpL Z F e vs → okEqL d e n = true → deqL d e = true
  | _, _, _, n, .nil, .nil, o => rfl
  | _, _, _, n, .cons r rr, .cons s ss, o => by
    simp only [okEqL, Bool.and_eq_true] at o
    simp only [deqL, Bool.and_eq_true]
    exact ⟨Rp.same k x r (s.lv k) o.1, RpL.same k x rr ss o.2⟩
theorem RpK.same (k : Hk Z F H) (x : HOk P w H h) : ∀ {d e : List (Key × D)} {vs : List (Key × V)} {n : Nat}, RpK Z F d vs → (∀ k v, (k, v) ∈ vs → ∃ y, kget e k = some y ∧ Rp Z F y v) → okEqK d e n = true → deqK d e = true
  | _, _, _, n, .nil, q, o => rfl
  | _, _, _, n, .cons r rr, q, o => by
    obtain ⟨y, h1, h2⟩ := q _ _ List.mem_cons_self
    simp only [okEqK, Bool.and_eq_true, h1] at o
    simp only [deqK, Bool.and_eq_true, h1]
    exact ⟨Rp.same k x r (h2.lv k) o.1, RpK.same k x rr (fun k v hm => q k v (List.mem_cons_of_mem _ hm)) o.2⟩
end
end

/-! ### the comparison -/
section
variable {X : Cx} {pins : List (Addr × Obj)} {σ : St} {F H : Hp} {s : Shared}
open PySem.W
theorem Lv.lstI (I : Inv X pins σ H s) {ds : List D} {v : V} {u : Value} (l : Lv Z F H (.lst ds) v) (r : RelV v u) : ∃ a vs its, v = .ref a ∧ u = .ref a ∧ H a = some (.lst vs) ∧ RpL Z F ds vs ∧ Vals vs its ∧ s.heap.IsList a its.toArray := by
  obtain ⟨a, vs, e, h, rr⟩ := l
  subst e
  cases r
  obtain ⟨its, rv, p, _⟩ := I.list (SqL.of (K := X.K) h)
  exact ⟨a, vs, its, rfl, rfl, h, rr, rv, p.isList⟩
theorem Lv.tupI (I : Inv X pins σ H s) {ds : List D} {v : V} {u : Value} (l : Lv Z F H (.tup ds) v) (r : RelV v u) : ∃ a vs its, v = .ref a ∧ u = .ref a ∧ H a = some (.tup vs) ∧ RpL Z F ds vs ∧ Vals vs its ∧ s.heap.IsTuple a its.toArray := by
  obtain ⟨a, vs, e, h, rr⟩ := l
  subst e
  cases r
  obtain ⟨its, rv, p, _⟩ := I.tuple (SqT.of (K := X.K) h)
  exact ⟨a, vs, its, rfl, rfl, h, rr, rv, p⟩

theorem EqTree.ofAt {P : Program} {w : World} {n : Nat} {u v : Value} {b : Bool} (h : ∀ A : Around, A.units < cLine → SeqAt.EqAt A s u v b) : PySem.W.EqTree P w s n u v b := .leaf fun A hu => h A (by omega)
/-- two that are no dicts, and not both lists or both tuples -/
theorem eq_unlike (I : Inv X pins σ H s) {d e : D} {v1 v2 : V} {u1 u2 : Value} {n : Nat} (l1 : Lv Z F H d v1) (l2 : Lv Z F H e v2) (r1 : RelV v1 u1) (r2 : RelV v2 u2) (ok : okEq d e n = true) (h1 : ∀ a b, d = .lst a → e = .lst b → False) (h2 : ∀ a b, d = .tup a → e = .tup b → False) (h3 : ∀ a b, d = .dct a → e = .dct b → False) :
    ∀ A : Around, A.units < cLine → SeqAt.EqAt A s u1 u2 (deq d e) := by
  intro A hu
  cases d with
  | non =>
    cases e with
    | non => cases l1; cases r1; cases l2; cases r2; exact SeqAt.EqAt.same _
    | bl x2 => cases l1; cases r1; cases l2; cases r2; exact SeqAt.EqAt.none_bool _
    | int x2 => cases l1; cases r1; cases l2; obtain ⟨_, rfl⟩ := r2; exact SeqAt.EqAt.none_int _ _
    | str x2 => cases l1; cases r1; cases l2; obtain ⟨_, rfl⟩ := r2; exact SeqAt.EqAt.none_str _ _
    | lst x2 => cases l1; cases r1; obtain ⟨_, _, _, e_b, rfl, _, _, _, il_b⟩ := l2.lstI I r2; exact SeqAt.EqAt.none_list il_b hu
    | tup x2 => cases l1; cases r1; obtain ⟨_, _, _, e_b, rfl, _, _, _, il_b⟩ := l2.tupI I r2; exact SeqAt.EqAt.none_tuple il_b hu
    | dct x2 => simp [okEq] at ok
    | obj c2 x2 => simp [okEq] at ok
    | scr x2 => simp [okEq] at ok
  | bl x1 =>
    cases e with
    | non => cases l1; cases r1; cases l2; cases r2; exact SeqAt.EqAt.bool_none _
    | bl x2 => cases l1; cases r1; cases l2; cases r2; exact SeqAt.EqAt.bool_bool _ _
    | int x2 => cases l1; cases r1; cases l2; obtain ⟨_, rfl⟩ := r2; exact SeqAt.EqAt.bool_int _ _ _
    | str x2 => cases l1; cases r1; cases l2; obtain ⟨_, rfl⟩ := r2; exact SeqAt.EqAt.bool_str _ _ _
    | lst x2 => cases l1; cases r1; obtain ⟨_, _, _, e_b, rfl, _, _, _, il_b⟩ := l2.lstI I r2; exact SeqAt.EqAt.bool_list _ il_b hu
    | tup x2 => cases l1; cases r1; obtain ⟨_, _, _, e_b, rfl, _, _, _, il_b⟩ := l2.tupI I r2; exact SeqAt.EqAt.bool_tuple _ il_b hu
    | dct x2 => simp [okEq] at ok
    | obj c2 x2 => simp [okEq] at ok
    | scr x2 => simp [okEq] at ok
  | int x1 =>
    cases e with
    | non => cases l1; obtain ⟨_, rfl⟩ := r1; cases l2; cases r2; exact SeqAt.EqAt.int_none _ _
    | bl x2 => cases l1; obtain ⟨_, rfl⟩ := r1; cases l2; cases r2; exact SeqAt.EqAt.int_bool _ _ _
    | int x2 => cases l1; obtain ⟨_, rfl⟩ := r1; cases l2; obtain ⟨_, rfl⟩ := r2; exact SeqAt.EqAt.int_int _ _ _ _
    | str x2 => cases l1; obtain ⟨_, rfl⟩ := r1; cases l2; obtain ⟨_, rfl⟩ := r2; exact SeqAt.EqAt.int_str _ _ _ _
    | lst x2 => cases l1; obtain ⟨_, rfl⟩ := r1; obtain ⟨_, _, _, e_b, rfl, _, _, _, il_b⟩ := l2.lstI I r2; exact SeqAt.EqAt.int_list _ _ il_b hu
    | tup x2 => cases l1; obtain ⟨_, rfl⟩ := r1; obtain ⟨_, _, _, e_b, rfl, _, _, _, il_b⟩ := l2.tupI I r2; exact SeqAt.EqAt.int_tuple _ _ il_b hu
    | dct x2 => simp [okEq] at ok
    | obj c2 x2 => simp [okEq] at ok
    | scr x2 => simp [okEq] at ok
  | str x1 =>
    cases e with
    | non => cases l1; obtain ⟨_, rfl⟩ := r1; cases l2; cases r2; exact SeqAt.EqAt.str_none _ _
    | bl x2 => cases l1; obtain ⟨_, rfl⟩ := r1; cases l2; cases r2; exact SeqAt.EqAt.str_bool _ _ _
    | int x2 => cases l1; obtain ⟨_, rfl⟩ := r1; cases l2; obtain ⟨_, rfl⟩ := r2; exact SeqAt.EqAt.str_int _ _ _ _
    | str x2 => cases l1; obtain ⟨_, rfl⟩ := r1; cases l2; obtain ⟨_, rfl⟩ := r2; exact SeqAt.EqAt.str_str _ _ _ _
    | lst x2 => cases l1; obtain ⟨_, rfl⟩ := r1; obtain ⟨_, _, _, e_b, rfl, _, _, _, il_b⟩ := l2.lstI I r2; exact SeqAt.EqAt.str_list _ _ il_b hu
    | tup x2 => cases l1; obtain ⟨_, rfl⟩ := r1; obtain ⟨_, _, _, e_b, rfl, _, _, _, il_b⟩ := l2.tupI I r2; exact SeqAt.EqAt.str_tuple _ _ il_b hu
    | dct x2 => simp [okEq] at ok
    | obj c2 x2 => simp [okEq] at ok
    | scr x2 => simp [okEq] at ok
  | lst x1 =>
    cases e with
    | non => obtain ⟨_, _, _, e_a, rfl, _, _, _, il_a⟩ := l1.lstI I r1; cases l2; cases r2; exact SeqAt.EqAt.list_none il_a hu
    | bl x2 => obtain ⟨_, _, _, e_a, rfl, _, _, _, il_a⟩ := l1.lstI I r1; cases l2; cases r2; exact SeqAt.EqAt.list_bool _ il_a hu
    | int x2 => obtain ⟨_, _, _, e_a, rfl, _, _, _, il_a⟩ := l1.lstI I r1; cases l2; obtain ⟨_, rfl⟩ := r2; exact SeqAt.EqAt.list_int _ _ il_a hu
    | str x2 => obtain ⟨_, _, _, e_a, rfl, _, _, _, il_a⟩ := l1.lstI I r1; cases l2; obtain ⟨_, rfl⟩ := r2; exact SeqAt.EqAt.list_str _ _ il_a hu
    | lst x2 => exact (h1 _ _ rfl rfl).elim
    | tup x2 => obtain ⟨_, _, _, e_a, rfl, _, _, _, il_a⟩ := l1.lstI I r1; obtain ⟨_, _, _, e_b, rfl, _, _, _, il_b⟩ := l2.tupI I r2; exact SeqAt.EqAt.list_tuple il_a il_b hu
    | dct x2 => simp [okEq] at ok
    | obj c2 x2 => simp [okEq] at ok
    | scr x2 => simp [okEq] at ok
  | tup x1 =>
    cases e with
    | non => obtain ⟨_, _, _, e_a, rfl, _, _, _, il_a⟩ := l1.tupI I r1; cases l2; cases r2; exact SeqAt.EqAt.tuple_none il_a hu
    | bl x2 => obtain ⟨_, _, _, e_a, rfl, _, _, _, il_a⟩ := l1.tupI I r1; cases l2; cases r2; exact SeqAt.EqAt.tuple_bool _ il_a hu
    | int x2 => obtain ⟨_, _, _, e_a, rfl, _, _, _, il_a⟩ := l1.tupI I r1; cases l2; obtain ⟨_, rfl⟩ := r2; exact SeqAt.EqAt.tuple_int _ _ il_a hu
    | str x2 => obtain ⟨_, _, _, e_a, rfl, _, _, _, il_a⟩ := l1.tupI I r1; cases l2; obtain ⟨_, rfl⟩ := r2; exact SeqAt.EqAt.tuple_str _ _ il_a hu
    | lst x2 => obtain ⟨_, _, _, e_a, rfl, _, _, _, il_a⟩ := l1.tupI I r1; obtain ⟨_, _, _, e_b, rfl, _, _, _, il_b⟩ := l2.lstI I r2; exact SeqAt.EqAt.tuple_list il_a il_b hu
    | tup x2 => exact (h2 _ _ rfl rfl).elim
    | dct x2 => simp [okEq] at ok
    | obj c2 x2 => simp [okEq] at ok
    | scr x2 => simp [okEq] at ok
  | dct x1 =>
    cases e with
    | non => simp [okEq] at ok
    | bl x2 => simp [okEq] at ok
    | int x2 => simp [okEq] at ok
    | str x2 => simp [okEq] at ok
    | lst x2 => simp [okEq] at ok
    | tup x2 => simp [okEq] at ok
    | dct x2 => exact (h3 _ _ rfl rfl).elim
    | obj c2 x2 => simp [okEq] at ok
    | scr x2 => simp [okEq] at ok
  | obj c1 x1 =>
    cases e with
    | non => simp [okEq] at ok
    | bl x2 => simp [okEq] at ok
    | int x2 => simp [okEq] at ok
    | str x2 => simp [okEq] at ok
    | lst x2 => simp [okEq] at ok
    | tup x2 => simp [okEq] at ok
    | dct x2 => simp [okEq] at ok
    | obj c2 x2 => simp [okEq] at ok
    | scr x2 => simp [okEq] at ok
  | scr x1 =>
    cases e with
    | non => simp [okEq] at ok
    | bl x2 => simp [okEq] at ok
    | int x2 => simp [okEq] at ok
    | str x2 => simp [okEq] at ok
    | lst x2 => simp [okEq] at ok
    | tup x2 => simp [okEq] at ok
    | dct x2 => simp [okEq] at ok
    | obj c2 x2 => simp [okEq] at ok
    | scr x2 => simp [okEq] at ok

/-- two that are no dicts, and not both lists or both tuples -/
theorem rc_unlike (I : Inv X pins σ H s) {d e : D} {v1 v2 : V} {u1 u2 : Value} {n : Nat} (l1 : Lv Z F H d v1) (l2 : Lv Z F H e v2) (r1 : RelV v1 u1) (r2 : RelV v2 u2) (ok : okEq d e n = true) (h1 : ∀ a b, d = .lst a → e = .lst b → False) (h2 : ∀ a b, d = .tup a → e = .tup b → False) (h3 : ∀ a b, d = .dct a → e = .dct b → False) :
    ∀ A : Around, A.units < cLine → SeqAt.RcAt A s u1 u2 (deq d e) := by
  intro A hu
  cases d with
  | non =>
    cases e with
    | non => cases l1; cases r1; cases l2; cases r2; exact SeqAt.RcAt.none_none
    | bl x2 => cases l1; cases r1; cases l2; cases r2; exact SeqAt.RcAt.none_bool _
    | int x2 => cases l1; cases r1; cases l2; obtain ⟨_, rfl⟩ := r2; exact SeqAt.RcAt.none_int _ _
    | str x2 => cases l1; cases r1; cases l2; obtain ⟨_, rfl⟩ := r2; exact SeqAt.RcAt.none_str _ _
    | lst x2 => cases l1; cases r1; obtain ⟨_, _, _, e_b, rfl, _, _, _, il_b⟩ := l2.lstI I r2; exact SeqAt.RcAt.none_list il_b hu
    | tup x2 => cases l1; cases r1; obtain ⟨_, _, _, e_b, rfl, _, _, _, il_b⟩ := l2.tupI I r2; exact SeqAt.RcAt.none_tuple il_b hu
    | dct x2 => simp [okEq] at ok
    | obj c2 x2 => simp [okEq] at ok
    | scr x2 => simp [okEq] at ok
  | bl x1 =>
    cases e with
    | non => cases l1; cases r1; cases l2; cases r2; exact SeqAt.RcAt.bool_none _
    | bl x2 => cases l1; cases r1; cases l2; cases r2; exact SeqAt.RcAt.bool_bool _ _
    | int x2 => cases l1; cases r1; cases l2; obtain ⟨_, rfl⟩ := r2; exact SeqAt.RcAt.bool_int _ _ _
    | str x2 => cases l1; cases r1; cases l2; obtain ⟨_, rfl⟩ := r2; exact SeqAt.RcAt.bool_str _ _ _
    | lst x2 => cases l1; cases r1; obtain ⟨_, _, _, e_b, rfl, _, _, _, il_b⟩ := l2.lstI I r2; exact SeqAt.RcAt.bool_list _ il_b hu
    | tup x2 => cases l1; cases r1; obtain ⟨_, _, _, e_b, rfl, _, _, _, il_b⟩ := l2.tupI I r2; exact SeqAt.RcAt.bool_tuple _ il_b hu
    | dct x2 => simp [okEq] at ok
    | obj c2 x2 => simp [okEq] at ok
    | scr x2 => simp [okEq] at ok
  | int x1 =>
    cases e with
    | non => cases l1; obtain ⟨_, rfl⟩ := r1; cases l2; cases r2; exact SeqAt.RcAt.int_none _ _
    | bl x2 => cases l1; obtain ⟨_, rfl⟩ := r1; cases l2; cases r2; exact SeqAt.RcAt.int_bool _ _ _
    | int x2 => cases l1; obtain ⟨_, rfl⟩ := r1; cases l2; obtain ⟨_, rfl⟩ := r2; exact SeqAt.RcAt.int_int _ _ _ _
    | str x2 => cases l1; obtain ⟨_, rfl⟩ := r1; cases l2; obtain ⟨_, rfl⟩ := r2; exact SeqAt.RcAt.int_str _ _ _ _
    | lst x2 => cases l1; obtain ⟨_, rfl⟩ := r1; obtain ⟨_, _, _, e_b, rfl, _, _, _, il_b⟩ := l2.lstI I r2; exact SeqAt.RcAt.int_list _ _ il_b hu
    | tup x2 => cases l1; obtain ⟨_, rfl⟩ := r1; obtain ⟨_, _, _, e_b, rfl, _, _, _, il_b⟩ := l2.tupI I r2; exact SeqAt.RcAt.int_tuple _ _ il_b hu
    | dct x2 => simp [okEq] at ok
    | obj c2 x2 => simp [okEq] at ok
    | scr x2 => simp [okEq] at ok
  | str x1 =>
    cases e with
    | non => cases l1; obtain ⟨_, rfl⟩ := r1; cases l2; cases r2; exact SeqAt.RcAt.str_none _ _
    | bl x2 => cases l1; obtain ⟨_, rfl⟩ := r1; cases l2; cases r2; exact SeqAt.RcAt.str_bool _ _ _
    | int x2 => cases l1; obtain ⟨_, rfl⟩ := r1; cases l2; obtain ⟨_, rfl⟩ := r2; exact SeqAt.RcAt.str_int _ _ _ _
    | str x2 => cases l1; obtain ⟨_, rfl⟩ := r1; cases l2; obtain ⟨_, rfl⟩ := r2; exact SeqAt.RcAt.str_str _ _ _ _
    | lst x2 => cases l1; obtain ⟨_, rfl⟩ := r1; obtain ⟨_, _, _, e_b, rfl, _, _, _, il_b⟩ := l2.lstI I r2; exact SeqAt.RcAt.str_list _ _ il_b hu
    | tup x2 => cases l1; obtain ⟨_, rfl⟩ := r1; obtain ⟨_, _, _, e_b, rfl, _, _, _, il_b⟩ := l2.tupI I r2; exact SeqAt.RcAt.str_tuple _ _ il_b hu
    | dct x2 => simp [okEq] at ok
    | obj c2 x2 => simp [okEq] at ok
    | scr x2 => simp [okEq] at ok
  | lst x1 =>
    cases e with
    | non => obtain ⟨_, _, _, e_a, rfl, _, _, _, il_a⟩ := l1.lstI I r1; cases l2; cases r2; exact SeqAt.RcAt.list_none il_a hu
    | bl x2 => obtain ⟨_, _, _, e_a, rfl, _, _, _, il_a⟩ := l1.lstI I r1; cases l2; cases r2; exact SeqAt.RcAt.list_bool _ il_a hu
    | int x2 => obtain ⟨_, _, _, e_a, rfl, _, _, _, il_a⟩ := l1.lstI I r1; cases l2; obtain ⟨_, rfl⟩ := r2; exact SeqAt.RcAt.list_int _ _ il_a hu
    | str x2 => obtain ⟨_, _, _, e_a, rfl, _, _, _, il_a⟩ := l1.lstI I r1; cases l2; obtain ⟨_, rfl⟩ := r2; exact SeqAt.RcAt.list_str _ _ il_a hu
    | lst x2 => exact (h1 _ _ rfl rfl).elim
    | tup x2 => obtain ⟨_, _, _, e_a, rfl, _, _, _, il_a⟩ := l1.lstI I r1; obtain ⟨_, _, _, e_b, rfl, _, _, _, il_b⟩ := l2.tupI I r2; exact SeqAt.RcAt.list_tuple il_a il_b hu
    | dct x2 => simp [okEq] at ok
    | obj c2 x2 => simp [okEq] at ok
    | scr x2 => simp [okEq] at ok
  | tup x1 =>
    cases e with
    | non => obtain ⟨_, _, _, e_a, rfl, _, _, _, il_a⟩ := l1.tupI I r1; cases l2; cases r2; exact SeqAt.RcAt.tuple_none il_a hu
    | bl x2 => obtain ⟨_, _, _, e_a, rfl, _, _, _, il_a⟩ := l1.tupI I r1; cases l2; cases r2; exact SeqAt.RcAt.tuple_bool _ il_a hu
    | int x2 => obtain ⟨_, _, _, e_a, rfl, _, _, _, il_a⟩ := l1.tupI I r1; cases l2; obtain ⟨_, rfl⟩ := r2; exact SeqAt.RcAt.tuple_int _ _ il_a hu
    | str x2 => obtain ⟨_, _, _, e_a, rfl, _, _, _, il_a⟩ := l1.tupI I r1; cases l2; obtain ⟨_, rfl⟩ := r2; exact SeqAt.RcAt.tuple_str _ _ il_a hu
    | lst x2 => obtain ⟨_, _, _, e_a, rfl, _, _, _, il_a⟩ := l1.tupI I r1; obtain ⟨_, _, _, e_b, rfl, _, _, _, il_b⟩ := l2.lstI I r2; exact SeqAt.RcAt.tuple_list il_a il_b hu
    | tup x2 => exact (h2 _ _ rfl rfl).elim
    | dct x2 => simp [okEq] at ok
    | obj c2 x2 => simp [okEq] at ok
    | scr x2 => simp [okEq] at ok
  | dct x1 =>
    cases e with
    | non => simp [okEq] at ok
    | bl x2 => simp [okEq] at ok
    | int x2 => simp [okEq] at ok
    | str x2 => simp [okEq] at ok
    | lst x2 => simp [okEq] at ok
    | tup x2 => simp [okEq] at ok
    | dct x2 => exact (h3 _ _ rfl rfl).elim
    | obj c2 x2 => simp [okEq] at ok
    | scr x2 => simp [okEq] at ok
  | obj c1 x1 =>
    cases e with
    | non => simp [okEq] at ok
    | bl x2 => simp [okEq] at ok
    | int x2 => simp [okEq] at ok
    | str x2 => simp [okEq] at ok
    | lst x2 => simp [okEq] at ok
    | tup x2 => simp [okEq] at ok
    | dct x2 => simp [okEq] at ok
    | obj c2 x2 => simp [okEq] at ok
    | scr x2 => simp [okEq] at ok
  | scr x1 =>
    cases e with
    | non => simp [okEq] at ok
    | bl x2 => simp [okEq] at ok
    | int x2 => simp [okEq] at ok
    | str x2 => simp [okEq] at ok
    | lst x2 => simp [okEq] at ok
    | tup x2 => simp [okEq] at ok
    | dct x2 => simp [okEq] at ok
    | obj c2 x2 => simp [okEq] at ok
    | scr x2 => simp [okEq] at ok

/-- two that are no dicts, and not both lists or both tuples -/
theorem rn_unlike (I : Inv X pins σ H s) {d e : D} {v1 v2 : V} {u1 u2 : Value} {n : Nat} (l1 : Lv Z F H d v1) (l2 : Lv Z F H e v2) (r1 : RelV v1 u1) (r2 : RelV v2 u2) (ok : okEq d e n = true) (h1 : ∀ a b, d = .lst a → e = .lst b → False) (h2 : ∀ a b, d = .tup a → e = .tup b → False) (h3 : ∀ a b, d = .dct a → e = .dct b → False) :
    ∀ A : Around, A.units < cLine → SeqAt.RcNeAt A s u1 u2 (!deq d e) := by
  intro A hu
  cases d with
  | non =>
    cases e with
    | non => cases l1; cases r1; cases l2; cases r2; exact SeqAt.RcNeAt.none_none
    | bl x2 => cases l1; cases r1; cases l2; cases r2; exact SeqAt.RcNeAt.none_bool _
    | int x2 => cases l1; cases r1; cases l2; obtain ⟨_, rfl⟩ := r2; exact SeqAt.RcNeAt.none_int _ _
    | str x2 => cases l1; cases r1; cases l2; obtain ⟨_, rfl⟩ := r2; exact SeqAt.RcNeAt.none_str _ _
    | lst x2 => cases l1; cases r1; obtain ⟨_, _, _, e_b, rfl, _, _, _, il_b⟩ := l2.lstI I r2; exact SeqAt.RcNeAt.none_list il_b hu
    | tup x2 => cases l1; cases r1; obtain ⟨_, _, _, e_b, rfl, _, _, _, il_b⟩ := l2.tupI I r2; exact SeqAt.RcNeAt.none_tuple il_b hu
    | dct x2 => simp [okEq] at ok
    | obj c2 x2 => simp [okEq] at ok
    | scr x2 => simp [okEq] at ok
  | bl x1 =>
    cases e with
    | non => cases l1; cases r1; cases l2; cases r2; exact SeqAt.RcNeAt.bool_none _
    | bl x2 => cases l1; cases r1; cases l2; cases r2; exact SeqAt.RcNeAt.bool_bool _ _
    | int x2 => cases l1; cases r1; cases l2; obtain ⟨_, rfl⟩ := r2; exact SeqAt.RcNeAt.bool_int _ _ _
    | str x2 => cases l1; cases r1; cases l2; obtain ⟨_, rfl⟩ := r2; exact SeqAt.RcNeAt.bool_str _ _ _
    | lst x2 => cases l1; cases r1; obtain ⟨_, _, _, e_b, rfl, _, _, _, il_b⟩ := l2.lstI I r2; exact SeqAt.RcNeAt.bool_list _ il_b hu
    | tup x2 => cases l1; cases r1; obtain ⟨_, _, _, e_b, rfl, _, _, _, il_b⟩ := l2.tupI I r2; exact SeqAt.RcNeAt.bool_tuple _ il_b hu
    | dct x2 => simp [okEq] at ok
    | obj c2 x2 => simp [okEq] at ok
    | scr x2 => simp [okEq] at ok
  | int x1 =>
    cases e with
    | non => cases l1; obtain ⟨_, rfl⟩ := r1; cases l2; cases r2; exact SeqAt.RcNeAt.int_none _ _
    | bl x2 => cases l1; obtain ⟨_, rfl⟩ := r1; cases l2; cases r2; exact SeqAt.RcNeAt.int_bool _ _ _
    | int x2 => cases l1; obtain ⟨_, rfl⟩ := r1; cases l2; obtain ⟨_, rfl⟩ := r2; exact SeqAt.RcNeAt.int_int _ _ _ _
    | str x2 => cases l1; obtain ⟨_, rfl⟩ := r1; cases l2; obtain ⟨_, rfl⟩ := r2; exact SeqAt.RcNeAt.int_str _ _ _ _
    | lst x2 => cases l1; obtain ⟨_, rfl⟩ := r1; obtain ⟨_, _, _, e_b, rfl, _, _, _, il_b⟩ := l2.lstI I r2; exact SeqAt.RcNeAt.int_list _ _ il_b hu
    | tup x2 => cases l1; obtain ⟨_, rfl⟩ := r1; obtain ⟨_, _, _, e_b, rfl, _, _, _, il_b⟩ := l2.tupI I r2; exact SeqAt.RcNeAt.int_tuple _ _ il_b hu
    | dct x2 => simp [okEq] at ok
    | obj c2 x2 => simp [okEq] at ok
    | scr x2 => simp [okEq] at ok
  | str x1 =>
    cases e with
    | non => cases l1; obtain ⟨_, rfl⟩ := r1; cases l2; cases r2; exact SeqAt.RcNeAt.str_none _ _
    | bl x2 => cases l1; obtain ⟨_, rfl⟩ := r1; cases l2; cases r2; exact SeqAt.RcNeAt.str_bool _ _ _
    | int x2 => cases l1; obtain ⟨_, rfl⟩ := r1; cases l2; obtain ⟨_, rfl⟩ := r2; exact SeqAt.RcNeAt.str_int _ _ _ _
    | str x2 => cases l1; obtain ⟨_, rfl⟩ := r1; cases l2; obtain ⟨_, rfl⟩ := r2; exact SeqAt.RcNeAt.str_str _ _ _ _
    | lst x2 => cases l1; obtain ⟨_, rfl⟩ := r1; obtain ⟨_, _, _, e_b, rfl, _, _, _, il_b⟩ := l2.lstI I r2; exact SeqAt.RcNeAt.str_list _ _ il_b hu
    | tup x2 => cases l1; obtain ⟨_, rfl⟩ := r1; obtain ⟨_, _, _, e_b, rfl, _, _, _, il_b⟩ := l2.tupI I r2; exact SeqAt.RcNeAt.str_tuple _ _ il_b hu
    | dct x2 => simp [okEq] at ok
    | obj c2 x2 => simp [okEq] at ok
    | scr x2 => simp [okEq] at ok
  | lst x1 =>
    cases e with
    | non => obtain ⟨_, _, _, e_a, rfl, _, _, _, il_a⟩ := l1.lstI I r1; cases l2; cases r2; exact SeqAt.RcNeAt.list_none il_a hu
    | bl x2 => obtain ⟨_, _, _, e_a, rfl, _, _, _, il_a⟩ := l1.lstI I r1; cases l2; cases r2; exact SeqAt.RcNeAt.list_bool _ il_a hu
    | int x2 => obtain ⟨_, _, _, e_a, rfl, _, _, _, il_a⟩ := l1.lstI I r1; cases l2; obtain ⟨_, rfl⟩ := r2; exact SeqAt.RcNeAt.list_int _ _ il_a hu
    | str x2 => obtain ⟨_, _, _, e_a, rfl, _, _, _, il_a⟩ := l1.lstI I r1; cases l2; obtain ⟨_, rfl⟩ := r2; exact SeqAt.RcNeAt.list_str _ _ il_a hu
    | lst x2 => exact (h1 _ _ rfl rfl).elim
    | tup x2 => obtain ⟨_, _, _, e_a, rfl, _, _, _, il_a⟩ := l1.lstI I r1; obtain ⟨_, _, _, e_b, rfl, _, _, _, il_b⟩ := l2.tupI I r2; exact SeqAt.RcNeAt.list_tuple il_a il_b hu
    | dct x2 => simp [okEq] at ok
    | obj c2 x2 => simp [okEq] at ok
    | scr x2 => simp [okEq] at ok
  | tup x1 =>
    cases e with
    | non => obtain ⟨_, _, _, e_a, rfl, _, _, _, il_a⟩ := l1.tupI I r1; cases l2; cases r2; exact SeqAt.RcNeAt.tuple_none il_a hu
    | bl x2 => obtain ⟨_, _, _, e_a, rfl, _, _, _, il_a⟩ := l1.tupI I r1; cases l2; cases r2; exact SeqAt.RcNeAt.tuple_bool _ il_a hu
    | int x2 => obtain ⟨_, _, _, e_a, rfl, _, _, _, il_a⟩ := l1.tupI I r1; cases l2; obtain ⟨_, rfl⟩ := r2; exact SeqAt.RcNeAt.tuple_int _ _ il_a hu
    | str x2 => obtain ⟨_, _, _, e_a, rfl, _, _, _, il_a⟩ := l1.tupI I r1; cases l2; obtain ⟨_, rfl⟩ := r2; exact SeqAt.RcNeAt.tuple_str _ _ il_a hu
    | lst x2 => obtain ⟨_, _, _, e_a, rfl, _, _, _, il_a⟩ := l1.tupI I r1; obtain ⟨_, _, _, e_b, rfl, _, _, _, il_b⟩ := l2.lstI I r2; exact SeqAt.RcNeAt.tuple_list il_a il_b hu
    | tup x2 => exact (h2 _ _ rfl rfl).elim
    | dct x2 => simp [okEq] at ok
    | obj c2 x2 => simp [okEq] at ok
    | scr x2 => simp [okEq] at ok
  | dct x1 =>
    cases e with
    | non => simp [okEq] at ok
    | bl x2 => simp [okEq] at ok
    | int x2 => simp [okEq] at ok
    | str x2 => simp [okEq] at ok
    | lst x2 => simp [okEq] at ok
    | tup x2 => simp [okEq] at ok
    | dct x2 => exact (h3 _ _ rfl rfl).elim
    | obj c2 x2 => simp [okEq] at ok
    | scr x2 => simp [okEq] at ok
  | obj c1 x1 =>
    cases e with
    | non => simp [okEq] at ok
    | bl x2 => simp [okEq] at ok
    | int x2 => simp [okEq] at ok
    | str x2 => simp [okEq] at ok
    | lst x2 => simp [okEq] at ok
    | tup x2 => simp [okEq] at ok
    | dct x2 => simp [okEq] at ok
    | obj c2 x2 => simp [okEq] at ok
    | scr x2 => simp [okEq] at ok
  | scr x1 =>
    cases e with
    | non => simp [okEq] at ok
    | bl x2 => simp [okEq] at ok
    | int x2 => simp [okEq] at ok
    | str x2 => simp [okEq] at ok
    | lst x2 => simp [okEq] at ok
    | tup x2 => simp [okEq] at ok
    | dct x2 => simp [okEq] at ok
    | obj c2 x2 => simp [okEq] at ok
    | scr x2 => simp [okEq] at ok

theorem eq_listT {P : Program} {w : World} {n : Nat} {ds es : List D} {l l' : Addr} {vs ws : List Value} (hl : s.heap.IsList l vs.toArray) (hl' : s.heap.IsList l' ws.toArray) (h1 : ds.length = vs.length) (h2 : es.length = ws.length) (ne : l ≠ l')
    (h : ∀ (j : Nat) d e v w', ds[j]? = some d → es[j]? = some e → vs[j]? = some v → ws[j]? = some w' → PySem.W.EqTree P w s n v w' (deq d e)) : PySem.W.EqTree P w s (n + 1) (.ref l) (.ref l') (deq (.lst ds) (.lst es)) := by
  by_cases hlen : ds.length = es.length
  · have e : deq (.lst ds) (.lst es) = (List.range vs.toArray.size).all (eAt ds es) := by
      show (_ == _ && _) = _
      rw [hlen, beq_self_eq_true, Bool.true_and, ← deqL_range, hlen, Nat.min_self]
      simp only [List.size_toArray]
      rw [← h1, hlen]
    rw [e]
    refine .lists ne hl hl' (by simp only [List.size_toArray]; omega) fun j k1 k2 => ?_
    simp only [List.size_toArray] at k1 k2
    have e1 : ds[j]? = some (ds[j]'(by omega)) := List.getElem?_eq_getElem _
    have e2 : es[j]? = some (es[j]'(by omega)) := List.getElem?_eq_getElem _
    have := h j _ _ _ _ e1 e2 (List.getElem?_eq_getElem k1) (List.getElem?_eq_getElem k2)
    unfold eAt
    rw [e1, e2]
    simpa using this
  · have e : deq (.lst ds) (.lst es) = false := by
      show (_ == _ && _) = _
      rw [beq_eq_false_iff_ne.mpr hlen, Bool.false_and]
    rw [e]
    exact .listsLen ne hl hl' (by simp only [List.size_toArray, bne_iff_ne, ne_eq]; omega)
theorem eq_listLen {P : Program} {w : World} {n : Nat} {ds es : List D} {l l' : Addr} {vs ws : List Value} (hl : s.heap.IsList l vs.toArray) (hl' : s.heap.IsList l' ws.toArray) (h1 : ds.length = vs.length) (h2 : es.length = ws.length) (ne : l ≠ l') (hne : ds.length ≠ es.length) : PySem.W.EqTree P w s (n + 1) (.ref l) (.ref l') (deq (.lst ds) (.lst es)) := by
  have e : deq (.lst ds) (.lst es) = false := by
    show (_ == _ && _) = _
    rw [beq_eq_false_iff_ne.mpr hne, Bool.false_and]
  rw [e]
  exact .listsLen ne hl hl' (by simp only [List.size_toArray, bne_iff_ne, ne_eq]; omega)
theorem eq_tupT {P : Program} {w : World} {n : Nat} {ds es : List D} {l l' : Addr} {vs ws : List Value} (hl : s.heap.IsTuple l vs.toArray) (hl' : s.heap.IsTuple l' ws.toArray) (h1 : ds.length = vs.length) (h2 : es.length = ws.length) (ne : l ≠ l')
    (h : ∀ (j : Nat) d e v w', ds[j]? = some d → es[j]? = some e → vs[j]? = some v → ws[j]? = some w' → PySem.W.EqTree P w s n v w' (deq d e)) : PySem.W.EqTree P w s (n + 1) (.ref l) (.ref l') (deq (.tup ds) (.tup es)) := by
  have e : deq (.tup ds) (.tup es) = ((List.range (min vs.toArray.size ws.toArray.size)).all (eAt ds es) && vs.toArray.size == ws.toArray.size) := by
    show (_ == _ && _) = _
    rw [Bool.and_comm, ← deqL_range]
    simp only [List.size_toArray]
    rw [h1, h2]
  rw [e]
  refine .tuples ne hl hl' fun j k1 k2 => ?_
  simp only [List.size_toArray] at k1 k2
  have e1 : ds[j]? = some (ds[j]'(by omega)) := List.getElem?_eq_getElem _
  have e2 : es[j]? = some (es[j]'(by omega)) := List.getElem?_eq_getElem _
  have := h j _ _ _ _ e1 e2 (List.getElem?_eq_getElem k1) (List.getElem?_eq_getElem k2)
  unfold eAt
  rw [e1, e2]
  simpa using this
theorem valueAt_mem {vs : List (Key × Value)} (nd : (vs.map (·.1)).Nodup) {k : Key} {v : Value} (hm : (k, v) ∈ vs) : valueAt vs k = some v := by
  induction vs with
  | nil => cases hm
  | cons p ps ih =>
    rw [List.map_cons, List.nodup_cons] at nd
    rcases List.mem_cons.mp hm with z | z
    · subst z; simp [valueAt]
    · have ne : ¬ p.1 = k := fun y => nd.1 (by rw [y]; exact List.mem_map.mpr ⟨_, z, rfl⟩)
      have := ih nd.2 z
      simpa [valueAt, List.find?_cons, ne] using this
theorem eq_dctT {n : Nat} {ds es : List (Key × D)} {a b : Addr} {ks ls : List (Key × V)} (I : Inv X pins σ H s) (ha : Rd H a (.dK ks)) (hb : Rd H b (.dK ls)) (r1 : RpK Z F ds ks) (r2 : RpK Z F es ls) (ne : a ≠ b)
    (h : ∀ (j : Nat) k d e v w' v' w'', ds[j]? = some (k, d) → kget es k = some e → ks[j]? = some (k, v) → Rp Z F e w' → RelV v v' → RelV w' w'' → PySem.W.EqTree X.prog X.w s n v' w'' (deq d e)) : PySem.W.EqTree X.prog X.w s (n + 1) (.ref a) (.ref b) (deq (.dct ds) (.dct es)) := by
  have nd := rd_nodup ha I.hok
  rw [← r1.keys] at nd
  obtain ⟨_, ya, va, ra, da⟩ := (show ObjOk X.prog X.w H s.heap a (.dK ks) from ha.ok I.hok)
  obtain ⟨_, yb, vb, rb, db⟩ := (show ObjOk X.prog X.w H s.heap b (.dK ls) from hb.ok I.hok)
  have l1 : ds.length = va.length := r1.length.trans (Paired.length ra)
  have l2 : es.length = vb.length := r2.length.trans (Paired.length rb)
  have e : deq (.dct ds) (.dct es) = (va.length == vb.length && va.all fun p => (valueAt vb p.1).isSome && eKey ds es p.1) := by
    show (_ == _ && _) = _
    rw [l1, l2, deqK_keys nd]
    congr 1
    have hs : ∀ k, (kget es k).isSome = (valueAt vb k).isSome := fun k => by
      have q := r2.get k
      have q2 := KV.val rb k
      cases hg : kget es k with
      | none =>
        rw [q.1 hg] at q2
        rw [RelO.none_of q2]
        rfl
      | some d =>
        obtain ⟨v, h1, _⟩ := q.2 d hg
        rw [h1] at q2
        obtain ⟨w', hw, _⟩ := RelO.some_of q2
        rw [hw]
        rfl
    have hk : ds.map (·.1) = va.map (·.1) := r1.keys.trans (KV.keysEq ra)
    have : ds.all (fun p => (kget es p.1).isSome && eKey ds es p.1) = (ds.map (·.1)).all fun k => (valueAt vb k).isSome && eKey ds es k := by
      rw [List.all_map]
      congr 1
      funext p
      simp [hs]
    rw [this, hk, List.all_map]
    rfl
  rw [e]
  refine .dicts (knd := L2.mixKind X.prog X.w) ne ya yb da db fun k v y hm hv => ?_
  have hkm : k ∈ ds.map (·.1) := by
    rw [r1.keys.trans (KV.keysEq ra)]
    exact List.mem_map.mpr ⟨_, hm, rfl⟩
  obtain ⟨p, hp, hpk⟩ := List.mem_map.mp hkm
  obtain ⟨k', d⟩ := p
  have hpk : k = k' := hpk.symm
  subst hpk
  have g1 := kget_mem nd hp
  obtain ⟨j, hj⟩ := List.getElem?_of_mem hp
  obtain ⟨v0, hv0j, rv0⟩ := r1.getJ hj
  have hv0 : valV ks k = some v0 := valV_mem (rd_nodup ha I.hok) (List.mem_of_getElem? hv0j)
  have q1 := KV.val ra k
  rw [hv0] at q1
  obtain ⟨v1, hv1, rv1⟩ := RelO.some_of q1
  have hv1' : v1 = v := by
    obtain ⟨o, es', ep, _, _, _, _, _, nva⟩ := da
    have := valueAt_mem nva hm
    rw [this] at hv1; cases hv1; rfl
  subst hv1'
  have q2 := KV.val rb k
  rw [hv] at q2
  cases hg : kget es k with
  | none =>
    rw [(r2.get k).1 hg] at q2
    exact q2.elim
  | some e' =>
    obtain ⟨w0, hw0, rw0⟩ := (r2.get k).2 e' hg
    rw [hw0] at q2
    have ee : eKey ds es k = deq d e' := by unfold eKey; rw [g1, hg]
    rw [ee]
    exact h j k d e' v0 w0 _ _ hj hg hv0j rw0 rv1 q2

theorem RpL.pick {F : Hp} {ds : List D} {vs : List V} (h : RpL Z F ds vs) {j : Nat} {d : D} (e : ds[j]? = some d) : ∃ v, vs[j]? = some v ∧ Rp Z F d v := h.get e
theorem vals_pick {vs : List V} {us : List Value} (h : Vals vs us) {j : Nat} {v : V} {u : Value} (e : vs[j]? = some v) (e' : us[j]? = some u) : RelV v u := by
  obtain ⟨u', h1, h2⟩ := h.get e
  rw [e'] at h1; cases h1; exact h2
mutual
theorem Rp.eqT (I : Inv X pins σ H s) (k : Hk Z F H) : ∀ {d e : D} {v1 v2 : V} {u1 u2 : Value} {n : Nat}, Rp Z F d v1 → Lv Z F H e v2 → RelV v1 u1 → RelV v2 u2 → okEq d e n = true → PySem.W.EqTree X.prog X.w s n u1 u2 (deq d e)
  | _, e, _, _, _, _, n, .non, l, r1, r2, o => EqTree.ofAt <| eq_unlike I (Rp.lv k .non) l r1 r2 o (by simp) (by simp) (by simp)
  | _, e, _, _, _, _, n, .bl b, l, r1, r2, o => EqTree.ofAt <| eq_unlike I (Rp.lv k (.bl b)) l r1 r2 o (by simp) (by simp) (by simp)
  | _, e, _, _, _, _, n, .int b, l, r1, r2, o => EqTree.ofAt <| eq_unlike I (Rp.lv k (.int b)) l r1 r2 o (by simp) (by simp) (by simp)
  | _, e, _, _, _, _, n, .str b, l, r1, r2, o => EqTree.ofAt <| eq_unlike I (Rp.lv k (.str b)) l r1 r2 o (by simp) (by simp) (by simp)
  | .lst ds0, .lst es, _, v2, _, _, n, .lst (a := a0) (vs := vs0) hf r, l, r1, r2, o => by
    have l0 := Rp.lv k (.lst hf r)
    have sm : v2 = .ref a0 → deq _ (.lst es) = true := fun h => Rp.same k I.hok (.lst hf r) (h ▸ l) o
    obtain ⟨a, vs, its, e1, e2, e3, e4, e5, e6⟩ := l0.lstI I r1
    obtain ⟨a', vs', its', e1', e2', e3', e4', e5', e6'⟩ := l.lstI I r2
    cases e1
    subst e1' e2 e2'
    by_cases ne : a0 = a'
    · subst ne
      rw [sm rfl]
      exact .same
    · rw [k.lst hf] at e3; cases e3
      simp only [okEq, Bool.and_eq_true, decide_eq_true_eq] at o
      obtain ⟨m, rfl⟩ : ∃ m, n = m + 1 := ⟨n - 1, by omega⟩
      by_cases heq : List.length ds0 = es.length
      · have o2 := o.2
        rw [heq, bne_self_eq_false, Bool.false_or] at o2
        exact eq_listT e6 e6' (r.length.trans e5.length) (e4'.length.trans e5'.length) ne (RpL.eqT I k r e4' e5 e5' o2)
      · exact eq_listLen e6 e6' (r.length.trans e5.length) (e4'.length.trans e5'.length) ne heq
  | _, .tup es, _, v2, _, _, n, .tup (a := a0) (vs := vs0) hf r, l, r1, r2, o => by
    have l0 := Rp.lv k (.tup hf r)
    have sm : v2 = .ref a0 → deq _ (.tup es) = true := fun h => Rp.same k I.hok (.tup hf r) (h ▸ l) o
    obtain ⟨a, vs, its, e1, e2, e3, e4, e5, e6⟩ := l0.tupI I r1
    obtain ⟨a', vs', its', e1', e2', e3', e4', e5', e6'⟩ := l.tupI I r2
    cases e1
    subst e1' e2 e2'
    by_cases ne : a0 = a'
    · subst ne
      rw [sm rfl]
      exact .same
    · rw [k.tup hf] at e3; cases e3
      simp only [okEq, Bool.and_eq_true, decide_eq_true_eq] at o
      obtain ⟨m, rfl⟩ : ∃ m, n = m + 1 := ⟨n - 1, by omega⟩
      exact eq_tupT e6 e6' (r.length.trans e5.length) (e4'.length.trans e5'.length) ne (RpL.eqT I k r e4' e5 e5' o.2)
  | _, .dct es, _, v2, _, _, n, .dct (a := a0) (kvs := kvs0) hf r, l, r1, r2, o => by
    have sm : v2 = .ref a0 → deq _ (.dct es) = true := fun h => Rp.same k I.hok (.dct hf r) (h ▸ l) o
    obtain ⟨a', vs', e1', e3', e4'⟩ := l
    cases r1
    subst e1'
    cases r2
    by_cases ne : a0 = a'
    · subst ne
      rw [sm rfl]
      exact .same
    · simp only [okEq, Bool.and_eq_true, decide_eq_true_eq] at o
      obtain ⟨m, rfl⟩ : ∃ m, n = m + 1 := ⟨n - 1, by omega⟩
      exact eq_dctT I (k.dK hf) e3' r e4' ne fun j k' d e v w' v' w'' h1 h2 h3 h4 h5 h6 => RpK.eqT I k r h1 h3 (h4.lv k) h5 h6 (okEqK_at o.2 (List.mem_of_getElem? h1) h2)
  | _, .non, _, _, _, _, n, .lst hf r, l, r1, r2, o => EqTree.ofAt <| eq_unlike I (Rp.lv k (.lst hf r)) l r1 r2 o (by simp) (by simp) (by simp)
  | _, .bl _, _, _, _, _, n, .lst hf r, l, r1, r2, o => EqTree.ofAt <| eq_unlike I (Rp.lv k (.lst hf r)) l r1 r2 o (by simp) (by simp) (by simp)
  | _, .int _, _, _, _, _, n, .lst hf r, l, r1, r2, o => EqTree.ofAt <| eq_unlike I (Rp.lv k (.lst hf r)) l r1 r2 o (by simp) (by simp) (by simp)
  | _, .str _, _, _, _, _, n, .lst hf r, l, r1, r2, o => EqTree.ofAt <| eq_unlike I (Rp.lv k (.lst hf r)) l r1 r2 o (by simp) (by simp) (by simp)
  | _, .tup _, _, _, _, _, n, .lst hf r, l, r1, r2, o => EqTree.ofAt <| eq_unlike I (Rp.lv k (.lst hf r)) l r1 r2 o (by simp) (by simp) (by simp)
  | _, .dct _, _, _, _, _, n, .lst hf r, l, r1, r2, o => by cases o
  | _, .obj _ _, _, _, _, _, n, .lst hf r, l, r1, r2, o => by cases o
  | _, .scr _, _, _, _, _, n, .lst hf r, l, r1, r2, o => by cases o
  | _, .non, _, _, _, _, n, .tup hf r, l, r1, r2, o => EqTree.ofAt <| eq_unlike I (Rp.lv k (.tup hf r)) l r1 r2 o (by simp) (by simp) (by simp)
  | _, .bl _, _, _, _, _, n, .tup hf r, l, r1, r2, o => EqTree.ofAt <| eq_unlike I (Rp.lv k (.tup hf r)) l r1 r2 o (by simp) (by simp) (by simp)
  | _, .int _, _, _, _, _, n, .tup hf r, l, r1, r2, o => EqTree.ofAt <| eq_unlike I (Rp.lv k (.tup hf r)) l r1 r2 o (by simp) (by simp) (by simp)
  | _, .str _, _, _, _, _, n, .tup hf r, l, r1, r2, o => EqTree.ofAt <| eq_unlike I (Rp.lv k (.tup hf r)) l r1 r2 o (by simp) (by simp) (by simp)
  | _, .lst _, _, _, _, _, n, .tup hf r, l, r1, r2, o => EqTree.ofAt <| eq_unlike I (Rp.lv k (.tup hf r)) l r1 r2 o (by simp) (by simp) (by simp)
  | _, .dct _, _, _, _, _, n, .tup hf r, l, r1, r2, o => by cases o
  | _, .obj _ _, _, _, _, _, n, .tup hf r, l, r1, r2, o => by cases o
  | _, .scr _, _, _, _, _, n, .tup hf r, l, r1, r2, o => by cases o
  | _, .non, _, _, _, _, n, .dct hf r, l, r1, r2, o => by cases o
  | _, .bl _, _, _, _, _, n, .dct hf r, l, r1, r2, o => by cases o
  | _, .int _, _, _, _, _, n, .dct hf r, l, r1, r2, o => by cases o
  | _, .str _, _, _, _, _, n, .dct hf r, l, r1, r2, o => by cases o
  | _, .lst _, _, _, _, _, n, .dct hf r, l, r1, r2, o => by cases o
  | _, .tup _, _, _, _, _, n, .dct hf r, l, r1, r2, o => by cases o
  | _, .obj _ _, _, _, _, _, n, .dct hf r, l, r1, r2, o => by cases o
  | _, .scr _, _, _, _, _, n, .dct hf r, l, r1, r2, o => by cases o
  | _, e, _, _, _, _, n, .obj hf r, l, r1, r2, o => by cases e <;> cases o
  | _, e, _, _, _, _, n, .scr hf, l, r1, r2, o => by cases e <;> cases o
theorem RpL.eqT (I : Inv X pins σ H s) (k : Hk Z F H) : ∀ {ds es : List D} {vs ws : List V} {its its' : List Value} {n : Nat}, RpL Z F ds vs → RpL Z F es ws → Vals vs its → Vals ws its' → okEqL ds es n = true →
    ∀ (j : Nat) d e v w', ds[j]? = some d → es[j]? = some e → its[j]? = some v → its'[j]? = some w' → PySem.W.EqTree X.prog X.w s n v w' (deq d e)
  | _, _, _, _, _, _, n, .nil, _, _, _, _ => fun j d e v w' h1 => by simp at h1
  | _, _, _, _, _, _, n, .cons r rr, .nil, _, _, _ => fun j d e v w' _ h1 => by simp at h1
  | _, _, _, _, _, _, n, .cons r rr, .cons t tt, .cons q qq, .cons q' qq', o => fun j d e v w' h1 h2 h3 h4 => by
    simp only [okEqL, Bool.and_eq_true] at o
    cases j with
    | zero =>
      simp at h1 h2 h3 h4
      subst h1 h2 h3 h4
      exact Rp.eqT I k r (t.lv k) q q' o.1
    | succ j => exact RpL.eqT I k rr tt qq qq' o.2 j d e v w' (by simpa using h1) (by simpa using h2) (by simpa using h3) (by simpa using h4)
theorem RpK.eqT (I : Inv X pins σ H s) (k : Hk Z F H) : ∀ {ds : List (Key × D)} {kvs : List (Key × V)} {j : Nat} {k' : Key} {d e : D} {v w' : V} {v' w'' : Value} {n : Nat}, RpK Z F ds kvs → ds[j]? = some (k', d) → kvs[j]? = some (k', v) → Lv Z F H e w' → RelV v v' → RelV w' w'' → okEq d e n = true → PySem.W.EqTree X.prog X.w s n v' w'' (deq d e)
  | _, _, _, _, _, _, _, _, _, _, _, .nil, h, _, _, _, _, _ => by simp at h
  | _, _, 0, _, _, _, _, _, _, _, _, .cons r rr, h1, h2, re, q, q', o => by
    simp at h1 h2
    obtain ⟨rfl, rfl⟩ := h1
    obtain ⟨_, rfl⟩ := h2
    exact Rp.eqT I k r re q q' o
  | _, _, j + 1, _, _, _, _, _, _, _, _, .cons r rr, h1, h2, re, q, q', o => RpK.eqT I k rr (by simpa using h1) (by simpa using h2) re q q' o
end
end

/-! ### data without dicts -/
mutual
def noD : D → Bool
  | .lst a => noDL a
  | .tup a => noDL a
  | .dct _ => false
  | .obj _ _ => false
  | .scr _ => false
  | _ => true
def noDL : List D → Bool
  | [] => true
  | a :: r => noD a && noDL r
end

/-- comparisons in any program -/
structure EqA (s : Shared) (n : Nat) (u v : Value) (b : Bool) : Prop where
  h : ∀ A : Around, A.units + n < cLine → SeqAt.EqAt A s u v b
section
variable {X : Cx} {pins : List (Addr × Obj)} {σ : St} {F H : Hp} {s : Shared}
theorem eqA_list {n : Nat} {ds es : List D} {l l' : Addr} {vs ws : List Value} (hl : s.heap.IsList l vs.toArray) (hl' : s.heap.IsList l' ws.toArray) (h1 : ds.length = vs.length) (h2 : es.length = ws.length)
    (h : ds.length = es.length → ∀ (j : Nat) d e v w', ds[j]? = some d → es[j]? = some e → vs[j]? = some v → ws[j]? = some w' → EqA s n v w' (deq d e)) (A : Around) (hu : A.units + (n + 1) < cLine) : SeqAt.RcAt A s (.ref l) (.ref l') (deq (.lst ds) (.lst es)) ∧ SeqAt.RcNeAt A s (.ref l) (.ref l') (!deq (.lst ds) (.lst es)) := by
  by_cases hlen : ds.length = es.length
  · have e : deq (.lst ds) (.lst es) = (List.range vs.toArray.size).all (eAt ds es) := by
      show (_ == _ && _) = _
      rw [hlen, beq_self_eq_true, Bool.true_and, ← deqL_range, hlen, Nat.min_self]
      simp only [List.size_toArray]
      rw [← h1, hlen]
    rw [e]
    have he : ∀ j (k1 : j < vs.toArray.size) (k2 : j < ws.toArray.size), SeqAt.EqAt A.in1 s vs.toArray[j] ws.toArray[j] (eAt ds es j) := fun j k1 k2 => by
      simp only [List.size_toArray] at k1 k2
      have e1 : ds[j]? = some (ds[j]'(by omega)) := List.getElem?_eq_getElem _
      have e2 : es[j]? = some (es[j]'(by omega)) := List.getElem?_eq_getElem _
      have := (h hlen j _ _ _ _ e1 e2 (List.getElem?_eq_getElem k1) (List.getElem?_eq_getElem k2)).h A.in1 (by show A.units + 1 + n < cLine; omega)
      unfold eAt
      rw [e1, e2]
      simpa using this
    exact ⟨SeqAt.RcAt.lists hl hl' (by simp only [List.size_toArray]; omega) (by omega) he, SeqAt.RcNeAt.lists hl hl' (by simp only [List.size_toArray]; omega) (by omega) he⟩
  · have e : deq (.lst ds) (.lst es) = false := by
      show (_ == _ && _) = _
      rw [beq_eq_false_iff_ne.mpr hlen, Bool.false_and]
    rw [e]
    have hz : (vs.toArray.size != ws.toArray.size) = true := by simp only [List.size_toArray, bne_iff_ne, ne_eq]; omega
    exact ⟨SeqAt.RcAt.lists_lengths hl hl' hz (by omega), SeqAt.RcNeAt.lists_lengths hl hl' hz (by omega)⟩
theorem eqA_tup {n : Nat} {ds es : List D} {l l' : Addr} {vs ws : List Value} (hl : s.heap.IsTuple l vs.toArray) (hl' : s.heap.IsTuple l' ws.toArray) (h1 : ds.length = vs.length) (h2 : es.length = ws.length)
    (h : ∀ (j : Nat) d e v w', ds[j]? = some d → es[j]? = some e → vs[j]? = some v → ws[j]? = some w' → EqA s n v w' (deq d e)) (A : Around) (hu : A.units + (n + 1) < cLine) : SeqAt.RcAt A s (.ref l) (.ref l') (deq (.tup ds) (.tup es)) ∧ SeqAt.RcNeAt A s (.ref l) (.ref l') (!deq (.tup ds) (.tup es)) := by
  have e : deq (.tup ds) (.tup es) = ((List.range (min vs.toArray.size ws.toArray.size)).all (eAt ds es) && vs.toArray.size == ws.toArray.size) := by
    show (_ == _ && _) = _
    rw [Bool.and_comm, ← deqL_range]
    simp only [List.size_toArray]
    rw [h1, h2]
  rw [e]
  have he : ∀ j (k1 : j < vs.toArray.size) (k2 : j < ws.toArray.size), SeqAt.EqAt A.in1 s vs.toArray[j] ws.toArray[j] (eAt ds es j) := fun j k1 k2 => by
    simp only [List.size_toArray] at k1 k2
    have e1 : ds[j]? = some (ds[j]'(by omega)) := List.getElem?_eq_getElem _
    have e2 : es[j]? = some (es[j]'(by omega)) := List.getElem?_eq_getElem _
    have := (h j _ _ _ _ e1 e2 (List.getElem?_eq_getElem k1) (List.getElem?_eq_getElem k2)).h A.in1 (by show A.units + 1 + n < cLine; omega)
    unfold eAt
    rw [e1, e2]
    simpa using this
  exact ⟨SeqAt.RcAt.tuples hl hl' (by omega) he, SeqAt.RcNeAt.tuples hl hl' (by omega) he⟩
mutual
theorem Rp.eqA (I : Inv X pins σ H s) (k : Hk Z F H) : ∀ {d e : D} {v1 v2 : V} {u1 u2 : Value} {n : Nat}, Rp Z F d v1 → Lv Z F H e v2 → RelV v1 u1 → RelV v2 u2 → okEq d e n = true → noD d = true → EqA s n u1 u2 (deq d e)
  | _, e, _, _, _, _, n, .non, l, r1, r2, o, _ => ⟨fun A hu => eq_unlike I (Rp.lv k .non) l r1 r2 o (by simp) (by simp) (by simp) A (by omega)⟩
  | _, e, _, _, _, _, n, .bl b, l, r1, r2, o, _ => ⟨fun A hu => eq_unlike I (Rp.lv k (.bl b)) l r1 r2 o (by simp) (by simp) (by simp) A (by omega)⟩
  | _, e, _, _, _, _, n, .int b, l, r1, r2, o, _ => ⟨fun A hu => eq_unlike I (Rp.lv k (.int b)) l r1 r2 o (by simp) (by simp) (by simp) A (by omega)⟩
  | _, e, _, _, _, _, n, .str b, l, r1, r2, o, _ => ⟨fun A hu => eq_unlike I (Rp.lv k (.str b)) l r1 r2 o (by simp) (by simp) (by simp) A (by omega)⟩
  | .lst ds0, .lst es, _, v2, _, _, n, .lst (a := a0) (vs := vs0) hf r, l, r1, r2, o, nd => by
    have l0 := Rp.lv k (.lst hf r)
    have sm : v2 = .ref a0 → deq _ (.lst es) = true := fun h => Rp.same k I.hok (.lst hf r) (h ▸ l) o
    obtain ⟨a, vs, its, e1, e2, e3, e4, e5, e6⟩ := l0.lstI I r1
    obtain ⟨a', vs', its', e1', e2', e3', e4', e5', e6'⟩ := l.lstI I r2
    cases e1
    subst e1' e2 e2'
    by_cases ne : a0 = a'
    · subst ne
      rw [sm rfl]
      exact ⟨fun A _ => SeqAt.EqAt.same _⟩
    · rw [k.lst hf] at e3; cases e3
      simp only [okEq, Bool.and_eq_true, decide_eq_true_eq] at o
      obtain ⟨m, rfl⟩ : ∃ m, n = m + 1 := ⟨n - 1, by omega⟩
      refine ⟨fun A hu => SeqAt.EqAt.of_refs ne (eqA_list e6 e6' (r.length.trans e5.length) (e4'.length.trans e5'.length) (fun heq => ?_) A hu).1⟩
      have o2 := o.2
      rw [heq, bne_self_eq_false, Bool.false_or] at o2
      exact RpL.eqA I k r e4' e5 e5' o2 nd
  | .tup ds0, .tup es, _, v2, _, _, n, .tup (a := a0) (vs := vs0) hf r, l, r1, r2, o, nd => by
    have l0 := Rp.lv k (.tup hf r)
    have sm : v2 = .ref a0 → deq _ (.tup es) = true := fun h => Rp.same k I.hok (.tup hf r) (h ▸ l) o
    obtain ⟨a, vs, its, e1, e2, e3, e4, e5, e6⟩ := l0.tupI I r1
    obtain ⟨a', vs', its', e1', e2', e3', e4', e5', e6'⟩ := l.tupI I r2
    cases e1
    subst e1' e2 e2'
    by_cases ne : a0 = a'
    · subst ne
      rw [sm rfl]
      exact ⟨fun A _ => SeqAt.EqAt.same _⟩
    · rw [k.tup hf] at e3; cases e3
      simp only [okEq, Bool.and_eq_true, decide_eq_true_eq] at o
      obtain ⟨m, rfl⟩ : ∃ m, n = m + 1 := ⟨n - 1, by omega⟩
      exact ⟨fun A hu => SeqAt.EqAt.of_refs ne (eqA_tup e6 e6' (r.length.trans e5.length) (e4'.length.trans e5'.length) (RpL.eqA I k r e4' e5 e5' o.2 nd) A hu).1⟩
  | _, .non, _, _, _, _, n, .lst hf r, l, r1, r2, o, nd => ⟨fun A hu => eq_unlike I (Rp.lv k (.lst hf r)) l r1 r2 o (by simp) (by simp) (by simp) A (by omega)⟩
  | _, .bl _, _, _, _, _, n, .lst hf r, l, r1, r2, o, nd => ⟨fun A hu => eq_unlike I (Rp.lv k (.lst hf r)) l r1 r2 o (by simp) (by simp) (by simp) A (by omega)⟩
  | _, .int _, _, _, _, _, n, .lst hf r, l, r1, r2, o, nd => ⟨fun A hu => eq_unlike I (Rp.lv k (.lst hf r)) l r1 r2 o (by simp) (by simp) (by simp) A (by omega)⟩
  | _, .str _, _, _, _, _, n, .lst hf r, l, r1, r2, o, nd => ⟨fun A hu => eq_unlike I (Rp.lv k (.lst hf r)) l r1 r2 o (by simp) (by simp) (by simp) A (by omega)⟩
  | _, .tup _, _, _, _, _, n, .lst hf r, l, r1, r2, o, nd => ⟨fun A hu => eq_unlike I (Rp.lv k (.lst hf r)) l r1 r2 o (by simp) (by simp) (by simp) A (by omega)⟩
  | _, .dct _, _, _, _, _, n, .lst hf r, l, r1, r2, o, nd => by cases o
  | _, .obj _ _, _, _, _, _, n, .lst hf r, l, r1, r2, o, nd => by cases o
  | _, .scr _, _, _, _, _, n, .lst hf r, l, r1, r2, o, nd => by cases o
  | _, .non, _, _, _, _, n, .tup hf r, l, r1, r2, o, nd => ⟨fun A hu => eq_unlike I (Rp.lv k (.tup hf r)) l r1 r2 o (by simp) (by simp) (by simp) A (by omega)⟩
  | _, .bl _, _, _, _, _, n, .tup hf r, l, r1, r2, o, nd => ⟨fun A hu => eq_unlike I (Rp.lv k (.tup hf r)) l r1 r2 o (by simp) (by simp) (by simp) A (by omega)⟩
  | _, .int _, _, _, _, _, n, .tup hf r, l, r1, r2, o, nd => ⟨fun A hu => eq_unlike I (Rp.lv k (.tup hf r)) l r1 r2 o (by simp) (by simp) (by simp) A (by omega)⟩
  | _, .str _, _, _, _, _, n, .tup hf r, l, r1, r2, o, nd => ⟨fun A hu => eq_unlike I (Rp.lv k (.tup hf r)) l r1 r2 o (by simp) (by simp) (by simp) A (by omega)⟩
  | _, .lst _, _, _, _, _, n, .tup hf r, l, r1, r2, o, nd => ⟨fun A hu => eq_unlike I (Rp.lv k (.tup hf r)) l r1 r2 o (by simp) (by simp) (by simp) A (by omega)⟩
  | _, .dct _, _, _, _, _, n, .tup hf r, l, r1, r2, o, nd => by cases o
  | _, .obj _ _, _, _, _, _, n, .tup hf r, l, r1, r2, o, nd => by cases o
  | _, .scr _, _, _, _, _, n, .tup hf r, l, r1, r2, o, nd => by cases o
  | _, e, _, _, _, _, n, .dct hf r, l, r1, r2, o, nd => by cases nd
  | _, e, _, _, _, _, n, .obj hf r, l, r1, r2, o, nd => by cases nd
  | _, e, _, _, _, _, n, .scr hf, l, r1, r2, o, nd => by cases nd
theorem RpL.eqA (I : Inv X pins σ H s) (k : Hk Z F H) : ∀ {ds es : List D} {vs ws : List V} {its its' : List Value} {n : Nat}, RpL Z F ds vs → RpL Z F es ws → Vals vs its → Vals ws its' → okEqL ds es n = true → noDL ds = true →
    ∀ (j : Nat) d e v w', ds[j]? = some d → es[j]? = some e → its[j]? = some v → its'[j]? = some w' → EqA s n v w' (deq d e)
  | _, _, _, _, _, _, n, .nil, _, _, _, _, _ => fun j d e v w' h1 => by simp at h1
  | _, _, _, _, _, _, n, .cons r rr, .nil, _, _, _, _ => fun j d e v w' _ h1 => by simp at h1
  | _, _, _, _, _, _, n, .cons r rr, .cons t tt, .cons q qq, .cons q' qq', o, nd => fun j d e v w' h1 h2 h3 h4 => by
    simp only [okEqL, Bool.and_eq_true] at o
    simp only [noDL, Bool.and_eq_true] at nd
    cases j with
    | zero =>
      simp at h1 h2 h3 h4
      subst h1 h2 h3 h4
      exact Rp.eqA I k r (t.lv k) q q' o.1 nd.1
    | succ j => exact RpL.eqA I k rr tt qq qq' o.2 nd.2 j d e v w' (by simpa using h1) (by simpa using h2) (by simpa using h3) (by simpa using h4)
end

/-! ### == and != -/
theorem rc_list {P : Program} {w : World} {A : Around} {Ex : Value → Shared → Prop} {Q : Value → Shared → Prop} {n : Nat} {ds es : List D} {l l' : Addr} {vs ws : List Value} (hl : s.heap.IsList l vs.toArray) (hl' : s.heap.IsList l' ws.toArray) (h1 : ds.length = vs.length) (h2 : es.length = ws.length)
    (h : ds.length = es.length → ∀ (j : Nat) d e v w', ds[j]? = some d → es[j]? = some e → vs[j]? = some v → ws[j]? = some w' → PySem.W.EqTree P w s n v w' (deq d e)) (hu : A.units + (n + 1) < cLine) (q : Q (.bool (deq (.lst ds) (.lst es))) s) : wpAny (model P w) A (compareOp .Eq (.ref l) (.ref l')) Q Ex s := by
  by_cases hlen : ds.length = es.length
  · have e : deq (.lst ds) (.lst es) = (List.range vs.toArray.size).all (eAt ds es) := by
      show (_ == _ && _) = _
      rw [hlen, beq_self_eq_true, Bool.true_and, ← deqL_range, hlen, Nat.min_self]
      simp only [List.size_toArray]
      rw [← h1, hlen]
    rw [e] at q
    refine PySem.W.eq_listsT (n := n) (e := eAt ds es) hl hl' (by simp only [List.size_toArray]; omega) (fun j k1 k2 => ?_) hu q
    simp only [List.size_toArray] at k1 k2
    have e1 : ds[j]? = some (ds[j]'(by omega)) := List.getElem?_eq_getElem _
    have e2 : es[j]? = some (es[j]'(by omega)) := List.getElem?_eq_getElem _
    have := h hlen j _ _ _ _ e1 e2 (List.getElem?_eq_getElem k1) (List.getElem?_eq_getElem k2)
    unfold eAt
    rw [e1, e2]
    simpa using this
  · have e : deq (.lst ds) (.lst es) = false := by
      show (_ == _ && _) = _
      rw [beq_eq_false_iff_ne.mpr hlen, Bool.false_and]
    rw [e] at q
    exact SeqAt.RcAt.lists_lengths hl hl' (by simp only [List.size_toArray, bne_iff_ne, ne_eq]; omega) (by omega) P w Ex Q q
theorem rc_tup {P : Program} {w : World} {A : Around} {Ex : Value → Shared → Prop} {Q : Value → Shared → Prop} {n : Nat} {ds es : List D} {l l' : Addr} {vs ws : List Value} (hl : s.heap.IsTuple l vs.toArray) (hl' : s.heap.IsTuple l' ws.toArray) (h1 : ds.length = vs.length) (h2 : es.length = ws.length)
    (h : ∀ (j : Nat) d e v w', ds[j]? = some d → es[j]? = some e → vs[j]? = some v → ws[j]? = some w' → PySem.W.EqTree P w s n v w' (deq d e)) (hu : A.units + (n + 1) < cLine) (q : Q (.bool (deq (.tup ds) (.tup es))) s) : wpAny (model P w) A (compareOp .Eq (.ref l) (.ref l')) Q Ex s := by
  have e : deq (.tup ds) (.tup es) = ((List.range (min vs.toArray.size ws.toArray.size)).all (eAt ds es) && vs.toArray.size == ws.toArray.size) := by
    show (_ == _ && _) = _
    rw [Bool.and_comm, ← deqL_range]
    simp only [List.size_toArray]
    rw [h1, h2]
  rw [e] at q
  refine PySem.W.eq_tuplesT (n := n) (e := eAt ds es) hl hl' (fun j k1 k2 => ?_) hu q
  simp only [List.size_toArray] at k1 k2
  have e1 : ds[j]? = some (ds[j]'(by omega)) := List.getElem?_eq_getElem _
  have e2 : es[j]? = some (es[j]'(by omega)) := List.getElem?_eq_getElem _
  have := h j _ _ _ _ e1 e2 (List.getElem?_eq_getElem k1) (List.getElem?_eq_getElem k2)
  unfold eAt
  rw [e1, e2]
  simpa using this
/-- what is known of two dicts that are compared -/
theorem dct_pairs (I : Inv X pins σ H s) {ds es : List (Key × D)} {a b : Addr} {ks ls : List (Key × V)} (ha : Rd H a (.dK ks)) (hb : Rd H b (.dK ls)) (r1 : RpK Z F ds ks) (r2 : RpK Z F es ls) :
    ∃ va vb, (a == sysModules) = false ∧ (b == sysModules) = false ∧ s.heap.DictOf (mixKind X.prog X.w) a va ∧ s.heap.DictOf (mixKind X.prog X.w) b vb ∧ deq (.dct ds) (.dct es) = (va.length == vb.length && va.all fun p => (valueAt vb p.1).isSome && eKey ds es p.1) ∧
      ∀ k v y, (k, v) ∈ va → valueAt vb k = some y → ∃ (j : Nat) (d e : D) (v0 w0 : V), ds[j]? = some (k, d) ∧ kget es k = some e ∧ ks[j]? = some (k, v0) ∧ Rp Z F e w0 ∧ RelV v0 v ∧ RelV w0 y ∧ eKey ds es k = deq d e := by
  have nd := rd_nodup ha I.hok
  rw [← r1.keys] at nd
  obtain ⟨_, ya, va, ra, da⟩ := (show ObjOk X.prog X.w H s.heap a (.dK ks) from ha.ok I.hok)
  obtain ⟨_, yb, vb, rb, db⟩ := (show ObjOk X.prog X.w H s.heap b (.dK ls) from hb.ok I.hok)
  have l1 : ds.length = va.length := r1.length.trans (Paired.length ra)
  have l2 : es.length = vb.length := r2.length.trans (Paired.length rb)
  refine ⟨va, vb, ya, yb, da, db, ?_, fun k v y hm hv => ?_⟩
  · show (_ == _ && _) = _
    rw [l1, l2, deqK_keys nd]
    congr 1
    have hs : ∀ k, (kget es k).isSome = (valueAt vb k).isSome := fun k => by
      have q := r2.get k
      have q2 := KV.val rb k
      cases hg : kget es k with
      | none =>
        rw [q.1 hg] at q2
        rw [RelO.none_of q2]
        rfl
      | some d =>
        obtain ⟨v, h1, _⟩ := q.2 d hg
        rw [h1] at q2
        obtain ⟨w', hw, _⟩ := RelO.some_of q2
        rw [hw]
        rfl
    have hk : ds.map (·.1) = va.map (·.1) := r1.keys.trans (KV.keysEq ra)
    have : ds.all (fun p => (kget es p.1).isSome && eKey ds es p.1) = (ds.map (·.1)).all fun k => (valueAt vb k).isSome && eKey ds es k := by
      rw [List.all_map]
      congr 1
      funext p
      simp [hs]
    rw [this, hk, List.all_map]
    rfl
  · have hkm : k ∈ ds.map (·.1) := by
      rw [r1.keys.trans (KV.keysEq ra)]
      exact List.mem_map.mpr ⟨_, hm, rfl⟩
    obtain ⟨p, hp, hpk⟩ := List.mem_map.mp hkm
    obtain ⟨k', d⟩ := p
    have hpk : k = k' := hpk.symm
    subst hpk
    have g1 := kget_mem nd hp
    obtain ⟨j, hj⟩ := List.getElem?_of_mem hp
    obtain ⟨v0, hv0j, rv0⟩ := r1.getJ hj
    have hv0 : valV ks k = some v0 := valV_mem (rd_nodup ha I.hok) (List.mem_of_getElem? hv0j)
    have q1 := KV.val ra k
    rw [hv0] at q1
    obtain ⟨v1, hv1, rv1⟩ := RelO.some_of q1
    have hv1' : v1 = v := by
      obtain ⟨o, es', ep, _, _, _, _, _, nva⟩ := da
      have := valueAt_mem nva hm
      rw [this] at hv1; cases hv1; rfl
    subst hv1'
    have q2 := KV.val rb k
    rw [hv] at q2
    cases hg : kget es k with
    | none =>
      rw [(r2.get k).1 hg] at q2
      exact q2.elim
    | some e' =>
      obtain ⟨w0, hw0, rw0⟩ := (r2.get k).2 e' hg
      rw [hw0] at q2
      have ee : eKey ds es k = deq d e' := by unfold eKey; rw [g1, hg]
      exact ⟨j, d, e', v0, w0, hj, rfl, hv0j, rw0, rv1, q2, ee⟩
def rVEq (Z : Par) : R2 := fun x y H Q => ∃ F d e, Hk Z F H ∧ Lv Z F H d x ∧ Lv Z F H e y ∧ okEq d e 64 = true ∧ Q (.bl (deq d e)) H
theorem op_veq (Z : Par) (hu : X.A.units + 64 < cLine) : OpR X (compareOp .Eq) (rVEq Z) := by
  intro pins s σ H x y v u Q I rx ry h
  obtain ⟨F, d, e, hk, l1, l2, ok, q⟩ := h
  have fin : ∀ b, b = deq d e → EP X pins σ Q (.bool b) s := fun b hb => ⟨.bl b, H, I, rfl, by rw [hb]; exact q⟩
  by_cases c1 : ∃ a b, d = .lst a ∧ e = .lst b
  · obtain ⟨ds, es, e1, e2⟩ := c1
    subst e1 e2
    obtain ⟨a, vs, its, e1, e2, e3, e4, e5, e6⟩ := l1.lstI I rx
    obtain ⟨a', vs', its', e1', e2', e3', e4', e5', e6'⟩ := l2.lstI I ry
    subst e2 e2'
    simp only [okEq, Bool.and_eq_true, decide_eq_true_eq] at ok
    refine rc_list (n := 63) e6 e6' (e4.length.trans e5.length) (e4'.length.trans e5'.length) (fun heq => ?_) (by omega) (fin _ rfl)
    have o2 := ok.2
    rw [heq, bne_self_eq_false, Bool.false_or] at o2
    exact RpL.eqT I hk e4 e4' e5 e5' o2
  by_cases c2 : ∃ a b, d = .tup a ∧ e = .tup b
  · obtain ⟨ds, es, e1, e2⟩ := c2
    subst e1 e2
    obtain ⟨a, vs, its, e1, e2, e3, e4, e5, e6⟩ := l1.tupI I rx
    obtain ⟨a', vs', its', e1', e2', e3', e4', e5', e6'⟩ := l2.tupI I ry
    subst e2 e2'
    simp only [okEq, Bool.and_eq_true, decide_eq_true_eq] at ok
    exact rc_tup (n := 63) e6 e6' (e4.length.trans e5.length) (e4'.length.trans e5'.length) (RpL.eqT I hk e4 e4' e5 e5' ok.2) (by omega) (fin _ rfl)
  by_cases c3 : ∃ a b, d = .dct a ∧ e = .dct b
  · obtain ⟨ds, es, e1, e2⟩ := c3
    subst e1 e2
    obtain ⟨a, ks, e1, e3, e4⟩ := l1
    obtain ⟨a', ks', e1', e3', e4'⟩ := l2
    subst e1 e1'
    cases rx
    cases ry
    simp only [okEq, Bool.and_eq_true, decide_eq_true_eq] at ok
    obtain ⟨va, vb, ya, yb, da, db, he, hp⟩ := dct_pairs I e3 e3' e4 e4'
    refine PySem.W.eq_dictsT (n := 63) (e := eKey ds es) ya yb da db (fun k v y hm hv => ?_) (by omega) (fin _ he.symm)
    obtain ⟨j, d', e', v0, w0, h1, h2, h3, h4, h5, h6, h7⟩ := hp k v y hm hv
    rw [h7]
    exact RpK.eqT I hk e4 h1 h3 (h4.lv hk) h5 h6 (okEqK_at ok.2 (List.mem_of_getElem? h1) h2)
  · exact rc_unlike I l1 l2 rx ry ok (fun a b z z' => c1 ⟨a, b, z, z'⟩) (fun a b z z' => c2 ⟨a, b, z, z'⟩) (fun a b z z' => c3 ⟨a, b, z, z'⟩) X.A (by omega) X.prog X.w _ _ (fin _ rfl)
def noDK : List (Key × D) → Bool
  | [] => true
  | p :: r => noD p.2 && noDK r
/-- != is covered: no dicts but at the outside -/
def noDo : D → Bool
  | .dct a => noDK a
  | d => noD d
theorem noDK_at : ∀ {a : List (Key × D)} {p : Key × D}, noDK a = true → p ∈ a → noD p.2 = true
  | q :: r, p, h, hm => by
    simp only [noDK, Bool.and_eq_true] at h
    rcases List.mem_cons.mp hm with z | z
    · subst z; exact h.1
    · exact noDK_at h.2 z
theorem RpK.eqA (I : Inv X pins σ H s) (k : Hk Z F H) : ∀ {ds : List (Key × D)} {kvs : List (Key × V)} {j : Nat} {k' : Key} {d e : D} {v w' : V} {v' w'' : Value} {n : Nat}, RpK Z F ds kvs → ds[j]? = some (k', d) → kvs[j]? = some (k', v) → Lv Z F H e w' → RelV v v' → RelV w' w'' → okEq d e n = true → noD d = true → EqA s n v' w'' (deq d e)
  | _, _, _, _, _, _, _, _, _, _, _, .nil, h, _, _, _, _, _, _ => by simp at h
  | _, _, 0, _, _, _, _, _, _, _, _, .cons r rr, h1, h2, re, q, q', o, nd => by
    simp at h1 h2
    obtain ⟨rfl, rfl⟩ := h1
    obtain ⟨_, rfl⟩ := h2
    exact Rp.eqA I k r re q q' o nd
  | _, _, j + 1, _, _, _, _, _, _, _, _, .cons r rr, h1, h2, re, q, q', o, nd => RpK.eqA I k rr (by simpa using h1) (by simpa using h2) re q q' o nd
theorem hits_of {A : Around} {kb : List (Key × Value)} {g : Key → Bool} : ∀ (r : List (Key × Value)), (∀ k v y, (k, v) ∈ r → valueAt kb k = some y → SeqAt.EqAt A s v y (g k)) → PySem.W.KeqHits A s kb r (r.all fun p => (valueAt kb p.1).isSome && g p.1)
  | [], _ => .nil
  | (k, v) :: r, h => by
    cases hv : valueAt kb k with
    | none =>
      have q : (((k, v) :: r).all fun p => (valueAt kb p.1).isSome && g p.1) = false := by simp [hv]
      rw [q]
      exact .miss hv
    | some y =>
      have q : (((k, v) :: r).all fun p => (valueAt kb p.1).isSome && g p.1) = (g k && r.all fun p => (valueAt kb p.1).isSome && g p.1) := by simp [hv]
      rw [q]
      exact .hit hv (h k v y List.mem_cons_self hv) (hits_of r fun k' v' y' hm hv' => h k' v' y' (List.mem_cons_of_mem _ hm) hv')
def rVNe (Z : Par) : R2 := fun x y H Q => ∃ F d e, Hk Z F H ∧ Lv Z F H d x ∧ Lv Z F H e y ∧ okEq d e 64 = true ∧ noDo d = true ∧ Q (.bl (!deq d e)) H
theorem op_vne (Z : Par) (hu : X.A.units + 64 < cLine) : OpR X (compareOp .NotEq) (rVNe Z) := by
  intro pins s σ H x y v u Q I rx ry h
  obtain ⟨F, d, e, hk, l1, l2, ok, nd, q⟩ := h
  have fin : ∀ b, b = !deq d e → EP X pins σ Q (.bool b) s := fun b hb => ⟨.bl b, H, I, rfl, by rw [hb]; exact q⟩
  by_cases c1 : ∃ a b, d = .lst a ∧ e = .lst b
  · obtain ⟨ds, es, e1, e2⟩ := c1
    subst e1 e2
    obtain ⟨a, vs, its, e1, e2, e3, e4, e5, e6⟩ := l1.lstI I rx
    obtain ⟨a', vs', its', e1', e2', e3', e4', e5', e6'⟩ := l2.lstI I ry
    subst e2 e2'
    simp only [okEq, Bool.and_eq_true, decide_eq_true_eq] at ok
    refine (eqA_list (n := 63) e6 e6' (e4.length.trans e5.length) (e4'.length.trans e5'.length) (fun heq => ?_) X.A (by omega)).2 X.prog X.w _ _ (fin _ rfl)
    have o2 := ok.2
    rw [heq, bne_self_eq_false, Bool.false_or] at o2
    exact RpL.eqA I hk e4 e4' e5 e5' o2 nd
  by_cases c2 : ∃ a b, d = .tup a ∧ e = .tup b
  · obtain ⟨ds, es, e1, e2⟩ := c2
    subst e1 e2
    obtain ⟨a, vs, its, e1, e2, e3, e4, e5, e6⟩ := l1.tupI I rx
    obtain ⟨a', vs', its', e1', e2', e3', e4', e5', e6'⟩ := l2.tupI I ry
    subst e2 e2'
    simp only [okEq, Bool.and_eq_true, decide_eq_true_eq] at ok
    exact (eqA_tup (n := 63) e6 e6' (e4.length.trans e5.length) (e4'.length.trans e5'.length) (RpL.eqA I hk e4 e4' e5 e5' ok.2 nd) X.A (by omega)).2 X.prog X.w _ _ (fin _ rfl)
  by_cases c3 : ∃ a b, d = .dct a ∧ e = .dct b
  · obtain ⟨ds, es, e1, e2⟩ := c3
    subst e1 e2
    obtain ⟨a, ks, e1, e3, e4⟩ := l1
    obtain ⟨a', ks', e1', e3', e4'⟩ := l2
    subst e1 e1'
    cases rx
    cases ry
    simp only [okEq, Bool.and_eq_true, decide_eq_true_eq] at ok
    obtain ⟨va, vb, ya, yb, da, db, he, hp⟩ := dct_pairs I e3 e3' e4 e4'
    refine PySem.W.keq_ne (knd := mixKind X.prog X.w) ya yb da db (by omega) (fun _ => hits_of (g := eKey ds es) va fun k v y hm hv => ?_) (fin _ (by rw [he]))
    obtain ⟨j, d', e', v0, w0, h1, h2, h3, h4, h5, h6, h7⟩ := hp k v y hm hv
    rw [h7]
    exact (RpK.eqA I hk e4 h1 h3 (h4.lv hk) h5 h6 (okEqK_at ok.2 (List.mem_of_getElem? h1) h2) (noDK_at nd (List.mem_of_getElem? h1))).h X.A.in1 (by show X.A.units + 1 + 63 < cLine; omega)
  · exact rn_unlike I l1 l2 rx ry ok (fun a b z z' => c1 ⟨a, b, z, z'⟩) (fun a b z z' => c2 ⟨a, b, z, z'⟩) (fun a b z z' => c3 ⟨a, b, z, z'⟩) X.A (by omega) X.prog X.w _ _ (fin _ rfl)
end

/-- == and != as rules by values -/
def gEq (d e : D) : Option D := if okEq d e 64 = true then some (.bl (deq d e)) else none
def gNe (d e : D) : Option D := if (okEq d e 64 && noDo d) = true then some (.bl (!deq d e)) else none
theorem o2_eq : Op2 Z (rVEq Z) .fz gEq := fun F H d1 d2 v1 v2 Q e k b1 b2 hg q => by
  unfold gEq at hg
  by_cases c : okEq d1 d2 64 = true
  · rw [if_pos c] at hg; cases hg
    exact ⟨F, d1, d2, k, b1.lv k, b2.lv k, c, q F H _ (PStep.refl k) (.bl _)⟩
  · rw [if_neg c] at hg; cases hg
theorem o2_ne : Op2 Z (rVNe Z) .fz gNe := fun F H d1 d2 v1 v2 Q e k b1 b2 hg q => by
  unfold gNe at hg
  by_cases c : (okEq d1 d2 64 && noDo d1) = true
  · rw [if_pos c] at hg; cases hg
    rw [Bool.and_eq_true] at c
    exact ⟨F, d1, d2, k, b1.lv k, b2.lv k, c.1, c.2, q F H _ (PStep.refl k) (.bl _)⟩
  · rw [if_neg c] at hg; cases hg
end Vm
/-! Vm7: operators, containment, indexing, slices. -/
namespace Vm
open PySem L2
variable {Z : Par} {E : St → XK} {os : Os} {X : Cx} {io : List Nat} {rf : Fl}

/-! ### what is new -/
section
variable {F H : Hp} {Q : VK}
theorem q_lst {fl : Fl} (hf : fl = .fz ∨ fl = .nw) (k : Hk Z F H) {ds : List D} {vs : List V} (r : RpL Z F ds vs) (q : ∀ (F' H' : Hp) (w : V), PStep Z F H F' H' → NewR Z fl H F' H' (.lst ds) w → Q w H') (p : Addr) (hp : H p = none) : Q (.ref p) (upd H p (.lst vs)) := by
  rcases hf with e | e
  · subst e
    exact q (upd F p (.lst vs)) _ _ (PStep.new k hp) (.lst upd_same (r.mono (same_upd (k.none hp))))
  · subst e
    exact q F _ _ (PStep.newH k hp) ⟨p, rfl, hp, k.none hp, vs, upd_same, r⟩
theorem q_dct {fl : Fl} (hf : fl = .fz ∨ fl = .nw) (k : Hk Z F H) {ds : List (Key × D)} {vs : List (Key × V)} (r : RpK Z F ds vs) (q : ∀ (F' H' : Hp) (w : V), PStep Z F H F' H' → NewR Z fl H F' H' (.dct ds) w → Q w H') (p : Addr) (hp : H p = none) : Q (.ref p) (upd H p (.dK vs)) := by
  rcases hf with e | e
  · subst e
    exact q (upd F p (.dK vs)) _ _ (PStep.new k hp) (.dct upd_same (r.mono (same_upd (k.none hp))))
  · subst e
    exact q F _ _ (PStep.newH k hp) ⟨p, rfl, hp, k.none hp, vs, .inl upd_same, r⟩
theorem q_tup (k : Hk Z F H) {ds : List D} {vs : List V} (r : RpL Z F ds vs) (q : ∀ (F' H' : Hp) (w : V), PStep Z F H F' H' → NewR Z .fz H F' H' (.tup ds) w → Q w H') (p : Addr) (hp : H p = none) : Q (.ref p) (upd H p (.tup vs)) :=
  q (upd F p (.tup vs)) _ _ (PStep.new k hp) (.tup upd_same (r.mono (same_upd (k.none hp))))
/-- a frozen thing that is there -/
theorem q_fz (k : Hk Z F H) {d : D} {v : V} (r : Rp Z F d v) (q : ∀ (F' H' : Hp) (w : V), PStep Z F H F' H' → NewR Z .fz H F' H' d w → Q w H') : Q v H := q F H v (PStep.refl k) r
end

/-! ### by cases -/
def gOr {α : Type} (a b : Option α) : Option α := match a with
  | some x => some x
  | none => b
theorem o2_or {r r' : R2} {fl : Fl} {g g' : D → D → Option D} (h : Op2 Z r fl g) (h' : Op2 Z r' fl g') : Op2 Z (fun x y H Q => r x y H Q ∨ r' x y H Q) fl (fun d e => gOr (g d e) (g' d e)) := fun F H d1 d2 v1 v2 Q e k b1 b2 hg q => by
  cases hd : g d1 d2 with
  | some x => simp only [gOr, hd] at hg; exact .inl (h F H d1 d2 v1 v2 Q e k b1 b2 (by rw [hd]; exact hg) q)
  | none => simp only [gOr, hd] at hg; exact .inr (h' F H d1 d2 v1 v2 Q e k b1 b2 hg q)
theorem oN_or {r r' : List V → Hp → VK → Prop} {fl : Fl} {g g' : List D → Option D} (h : OpN Z r fl g) (h' : OpN Z r' fl g') : OpN Z (fun x H Q => r x H Q ∨ r' x H Q) fl (fun d => gOr (g d) (g' d)) := fun F H d1 v1 Q e k b1 hg q => by
  cases hd : g d1 with
  | some x => simp only [gOr, hd] at hg; exact .inl (h F H d1 v1 Q e k b1 (by rw [hd]; exact hg) q)
  | none => simp only [gOr, hd] at hg; exact .inr (h' F H d1 v1 Q e k b1 hg q)

/-! ### ints -/
def gI (f : Int → Int → Option D) (d e : D) : Option D := match d, e with
  | .int i, .int j => f i j
  | _, _ => none
theorem o2_i {C : Int → Int → Prop} {g : Int → Int → V} {f : Int → Int → Option D} (hf : ∀ F i j x, f i j = some x → C i j ∧ Rp Z F x (g i j)) : Op2 Z (rI C g) .fz (gI f) := fun F H d1 d2 v1 v2 Q e k b1 b2 hg q => by
  cases d1 with
  | int i =>
    cases d2 with
    | int j =>
      obtain ⟨h1, h2⟩ := hf F i j e hg
      exact ⟨i, j, b1.int, b2.int, h1, q_fz k h2 q⟩
    | _ => cases hg
  | _ => cases hg
theorem o2_i0 {g : Int → Int → V} {f : Int → Int → D} (hf : ∀ F i j, Rp Z F (f i j) (g i j)) : Op2 Z (rI0 g) .fz (gI fun i j => some (f i j)) := fun F H d1 d2 v1 v2 Q e k b1 b2 hg q => by
  cases d1 with
  | int i =>
    cases d2 with
    | int j => cases hg; exact ⟨i, j, b1.int, b2.int, q_fz k (hf F i j) q⟩
    | _ => cases hg
  | _ => cases hg
def gSub : D → D → Option D := gI fun i j => some (.int (i - j))
theorem o2_sub : Op2 Z (rI0 fun i j => .int (i - j)) .fz gSub := o2_i0 fun _ _ _ => .int _
noncomputable def cMul (i j : Int) : Bool := shut ((decide (-(2 ^ 64) < i) && decide (i < 2 ^ 64)) || (decide (-(2 ^ 64) < j) && decide (j < 2 ^ 64)))
noncomputable def gMulI : D → D → Option D := gI fun i j => if cMul i j = true then some (.int (i * j)) else none
theorem o2_mulI : Op2 Z (rI CMul fun i j => .int (i * j)) .fz gMulI := o2_i fun F i j x h => by
  by_cases c : cMul i j = true
  · rw [if_pos c] at h; cases h
    refine ⟨?_, .int _⟩
    unfold cMul at c
    rw [shut_eq] at c
    simp only [Bool.or_eq_true, Bool.and_eq_true, decide_eq_true_eq] at c
    exact c
  · rw [if_neg c] at h; cases h
def gDiv : D → D → Option D := gI fun i j => if (decide (0 < j) && decide (j < 1073741824)) = true then some (.int (i / j)) else none
theorem o2_div : Op2 Z (rI CDiv fun i j => .int (i / j)) .fz gDiv := o2_i fun F i j x h => by
  by_cases c : (decide (0 < j) && decide (j < 1073741824)) = true
  · rw [if_pos c] at h; cases h
    simp only [Bool.and_eq_true, decide_eq_true_eq] at c
    exact ⟨c, .int _⟩
  · rw [if_neg c] at h; cases h
def gMod : D → D → Option D := gI fun i j => if 0 < j then some (.int (i % j)) else none
theorem o2_mod : Op2 Z (rI (fun _ j => 0 < j) fun i j => .int (i % j)) .fz gMod := o2_i fun F i j x h => by
  by_cases c : 0 < j
  · rw [if_pos c] at h; cases h
    exact ⟨c, .int _⟩
  · rw [if_neg c] at h; cases h
noncomputable def gPow : D → D → Option D := gI fun i j => if shut (decide (0 ≤ j) && decide (j ≤ 1000000) && decide (i.natAbs < 2 ^ 64)) = true then some (.int (i ^ j.toNat)) else none
theorem o2_pow : Op2 Z (rI CPow fun i j => .int (i ^ j.toNat)) .fz gPow := o2_i fun F i j x h => by
  rw [shut_eq] at h
  by_cases c : (decide (0 ≤ j) && decide (j ≤ 1000000) && decide (i.natAbs < 2 ^ 64)) = true
  · rw [if_pos c] at h; cases h
    simp only [Bool.and_eq_true, decide_eq_true_eq] at c
    exact ⟨⟨c.1.1, c.1.2, c.2⟩, .int _⟩
  · rw [if_neg c] at h; cases h
def gXor : D → D → Option D := gI fun i j => some (.int (Builtin.bitXor i j))
theorem o2_xor : Op2 Z (rI0 fun i j => .int (Builtin.bitXor i j)) .fz gXor := o2_i0 fun _ _ _ => .int _
def gLtI : D → D → Option D := gI fun i j => some (.bl (decide (i < j)))
theorem o2_ltI : Op2 Z (rI0 fun i j => .bl (decide (i < j))) .fz gLtI := o2_i0 fun _ _ _ => .bl _
def gLe : D → D → Option D := gI fun i j => some (.bl (decide (i ≤ j)))
theorem o2_le : Op2 Z (rI0 fun i j => .bl (decide (i ≤ j))) .fz gLe := o2_i0 fun _ _ _ => .bl _
def gGt : D → D → Option D := gI fun i j => some (.bl (decide (j < i)))
theorem o2_gt : Op2 Z (rI0 fun i j => .bl (decide (j < i))) .fz gGt := o2_i0 fun _ _ _ => .bl _
def gGe : D → D → Option D := gI fun i j => some (.bl (decide (j ≤ i)))
theorem o2_ge : Op2 Z (rI0 fun i j => .bl (decide (j ≤ i))) .fz gGe := o2_i0 fun _ _ _ => .bl _
/-- < of ints or texts -/
def gLtS (d e : D) : Option D := match d, e with
  | .str i, .str j => some (.bl (decide (i.cps.toList < j.cps.toList)))
  | _, _ => none
def rLtS : R2 := fun x y H Q => ∃ i j, x = .str i ∧ y = .str j ∧ Q (.bl (decide (i.cps.toList < j.cps.toList))) H
theorem o2_ltS : Op2 Z rLtS .fz gLtS := fun F H d1 d2 v1 v2 Q e k b1 b2 hg q => by
  cases d1 with
  | str i =>
    cases d2 with
    | str j => cases hg; exact ⟨i, j, b1.str, b2.str, q_fz k (.bl _) q⟩
    | _ => cases hg
  | _ => cases hg
def gLt (d e : D) : Option D := gOr (gLtI d e) (gLtS d e)
theorem p_lt : OpR X (compareOp .Lt) (fun x y H Q => rI0 (fun i j => .bl (decide (i < j))) x y H Q ∨ rLtS x y H Q) := op_lt.or op_lt_str
theorem o2_lt : Op2 Z (fun x y H Q => rI0 (fun i j => .bl (decide (i < j))) x y H Q ∨ rLtS x y H Q) .fz gLt := o2_or o2_ltI o2_ltS

/-! ### + -/
def gAddI : D → D → Option D := gI fun i j => some (.int (i + j))
theorem o2_addI : Op2 Z (rI0 fun i j => .int (i + j)) .fz gAddI := o2_i0 fun _ _ _ => .int _
def gAddS (d e : D) : Option D := match d, e with
  | .str i, .str j => if i.length + j.length ≤ sizeLine then some (.str (i ++ j)) else none
  | _, _ => none
def rAddS : R2 := fun x y H Q => ∃ i j, x = .str i ∧ y = .str j ∧ i.length + j.length ≤ sizeLine ∧ Q (.str (i ++ j)) H
theorem o2_addS : Op2 Z rAddS .fz gAddS := fun F H d1 d2 v1 v2 Q e k b1 b2 hg q => by
  cases d1 with
  | str i =>
    cases d2 with
    | str j =>
      simp only [gAddS] at hg
      by_cases c : i.length + j.length ≤ sizeLine
      · rw [if_pos c] at hg; cases hg; exact ⟨i, j, b1.str, b2.str, c, q_fz k (.str _) q⟩
      · rw [if_neg c] at hg; cases hg
    | _ => cases hg
  | _ => cases hg
/-- [..] + [..] -/
def gCat (d e : D) : Option D := match d, e with
  | .lst i, .lst j => if i.length + j.length ≤ sizeLine then some (.lst (i ++ j)) else none
  | _, _ => none
theorem o2_cat {fl : Fl} (hf : fl = .fz ∨ fl = .nw) : Op2 Z rCat fl gCat := fun F H d1 d2 v1 v2 Q e k b1 b2 hg q => by
  cases d1 with
  | lst i =>
    cases d2 with
    | lst j =>
      simp only [gCat] at hg
      by_cases c : i.length + j.length ≤ sizeLine
      · rw [if_pos c] at hg; cases hg
        obtain ⟨a, vs, e1, e2, e3⟩ := b1.lst k
        obtain ⟨a', vs', e1', e2', e3'⟩ := b2.lst k
        exact ⟨a, a', vs, vs', e1, e1', e2, e2', by rw [← e3.length, ← e3'.length]; exact c, q_lst hf k (e3.append e3') q⟩
      · rw [if_neg c] at hg; cases hg
    | _ => cases hg
  | _ => cases hg
/-- (..) + (..) -/
def gCatT (d e : D) : Option D := match d, e with
  | .tup i, .tup j => if i.length + j.length ≤ sizeLine then some (.tup (i ++ j)) else none
  | _, _ => none
theorem o2_catT {K : PySem.W.Frag} : Op2 Z (rCatA K) .fz gCatT := fun F H d1 d2 v1 v2 Q e k b1 b2 hg q => by
  cases d1 with
  | tup i =>
    cases d2 with
    | tup j =>
      simp only [gCatT] at hg
      by_cases c : i.length + j.length ≤ sizeLine
      · rw [if_pos c] at hg; cases hg
        obtain ⟨a, vs, e1, e2, e3⟩ := b1.tup k
        obtain ⟨a', vs', e1', e2', e3'⟩ := b2.tup k
        refine ⟨a, a', vs, vs', e1, e1', SqT.of e2, SqT.of e2', by rw [← e3.length, ← e3'.length]; exact c, fun h => ?_, fun h h' => ?_, fun h h' => q_tup k (e3.append e3') q⟩
        · subst h
          cases e3
          rw [List.nil_append] at q
          rw [← e1']
          exact q_fz k b2.tupF q
        · subst h'
          cases e3'
          rw [List.append_nil] at q
          rw [← e1]
          exact q_fz k b1.tupF q
      · rw [if_neg c] at hg; cases hg
    | _ => cases hg
  | _ => cases hg
def rAddV (K : PySem.W.Frag) : R2 := fun x y H Q => rI0 (fun i j => .int (i + j)) x y H Q ∨ (rAddS x y H Q ∨ (rCat x y H Q ∨ rCatA K x y H Q))
theorem p_add : OpR X (binaryOp .Add) (rAddV X.K) := op_add.or (op_add_str.or (op_cat.or op_catA))
def gAdd (d e : D) : Option D := gOr (gAddI d e) (gOr (gAddS d e) (gOr (gCat d e) (gCatT d e)))
theorem o2_add {K : PySem.W.Frag} : Op2 Z (rAddV K) .fz gAdd := o2_or o2_addI (o2_or o2_addS (o2_or (o2_cat (.inl rfl)) o2_catT))
/-- [..] * n -/
noncomputable def gRep (d e : D) : Option D := match d, e with
  | .lst xs, .int k => if shut (decide (-(2 ^ 63) ≤ k) && decide (k < 2 ^ 63) && decide (xs.length * k.toNat ≤ sizeLine)) = true then some (.lst (List.replicate k.toNat xs).flatten) else none
  | _, _ => none
theorem RpL.rep {F : Hp} {ds : List D} {vs : List V} (r : RpL Z F ds vs) (n : Nat) : RpL Z F (List.replicate n ds).flatten (List.replicate n vs).flatten := by
  induction n with
  | zero => exact .nil
  | succ n ih => rw [List.replicate_succ, List.replicate_succ, List.flatten_cons, List.flatten_cons]; exact r.append ih
theorem o2_rep {fl : Fl} (hf : fl = .fz ∨ fl = .nw) : Op2 Z rRep fl gRep := fun F H d1 d2 v1 v2 Q e k b1 b2 hg q => by
  cases d1 with
  | lst i =>
    cases d2 with
    | int j =>
      simp only [gRep, shut_eq] at hg
      by_cases c : (decide (-(2 ^ 63) ≤ j) && decide (j < 2 ^ 63) && decide (i.length * j.toNat ≤ sizeLine)) = true
      · rw [if_pos c] at hg; cases hg
        simp only [Bool.and_eq_true, decide_eq_true_eq] at c
        obtain ⟨a, vs, e1, e2, e3⟩ := b1.lst k
        exact ⟨a, j, vs, e1, b2.int, e2, c.1.1, c.1.2, by rw [← e3.length]; exact c.2, q_lst hf k (e3.rep _) q⟩
      · rw [if_neg c] at hg; cases hg
    | _ => cases hg
  | _ => cases hg
def rMulV : R2 := fun x y H Q => rI CMul (fun i j => .int (i * j)) x y H Q ∨ rRep x y H Q
theorem p_mul : OpR X (binaryOp .Mult) rMulV := op_mul.or op_rep
noncomputable def gMul (d e : D) : Option D := gOr (gMulI d e) (gRep d e)
theorem o2_mul : Op2 Z rMulV .fz gMul := o2_or o2_mulI (o2_rep (.inl rfl))
/-- -x -/
def gNeg (d : D) : Option D := match d with
  | .int i => some (.int (-i))
  | _ => none
theorem o1_neg : Op1 Z (rU fun i => .int (-i)) .fz gNeg := fun F H d v Q e k b hg q => by
  cases d with
  | int i => cases hg; exact ⟨i, b.int, q_fz k (.int _) q⟩
  | _ => cases hg

/-! ### is None -/
def isNon : D → Bool
  | .non => true
  | _ => false
theorem isNon_eq {F H : Hp} {d : D} {v : V} (k : Hk Z F H) (b : Bo Z F H d v) : decide (v = .non) = isNon d := by
  cases d with
  | non => rw [b.non]; rfl
  | bl i => rw [b.bl]; rfl
  | int i => rw [b.int]; rfl
  | str i => rw [b.str]; rfl
  | lst i => obtain ⟨_, _, e, _⟩ := b.lst k; rw [e]; rfl
  | tup i => obtain ⟨_, _, e, _⟩ := b.tup k; rw [e]; rfl
  | dct i => obtain ⟨_, _, e, _⟩ := b.dct k; rw [e]; rfl
  | obj c i => obtain ⟨_, _, _, e, _⟩ := b.obj k; rw [e]; rfl
  | scr i => obtain ⟨_, e, _⟩ := b.scr k; rw [e]; rfl
def gIsN (d e : D) : Option D := match e with
  | .non => some (.bl (isNon d))
  | _ => none
def gNotN (d e : D) : Option D := match e with
  | .non => some (.bl (!isNon d))
  | _ => none
def rIsN : R2 := fun x y H Q => y = .non ∧ Q (.bl (decide (x = .non))) H
def rNotN : R2 := fun x y H Q => y = .non ∧ Q (.bl (!decide (x = .non))) H
theorem o2_isN : Op2 Z rIsN .fz gIsN := fun F H d1 d2 v1 v2 Q e k b1 b2 hg q => by
  cases d2 with
  | non => cases hg; exact ⟨b2.non, by rw [isNon_eq k b1]; exact q_fz k (.bl _) q⟩
  | _ => cases hg
theorem o2_notN : Op2 Z rNotN .fz gNotN := fun F H d1 d2 v1 v2 Q e k b1 b2 hg q => by
  cases d2 with
  | non => cases hg; exact ⟨b2.non, by rw [isNon_eq k b1]; exact q_fz k (.bl _) q⟩
  | _ => cases hg

/-! ### in, not in -/
mutual
theorem Rp.uniq {F : Hp} : ∀ {d e : D} {v : V}, Rp Z F d v → Rp Z F e v → noD d = true → noD e = true → d = e
  | _, _, _, .non, h, _, _ => by cases h; rfl
  | _, _, _, .bl b, h, _, _ => by cases h; rfl
  | _, _, _, .int b, h, _, _ => by cases h; rfl
  | _, _, _, .str b, h, _, _ => by cases h; rfl
  | _, _, _, .lst hf r, .lst hf' r', n, n' => by
    rw [hf] at hf'; cases hf'
    rw [RpL.uniq r r' n n']
  | _, _, _, .lst hf r, .tup hf' r', n, n' => by rw [hf] at hf'; cases hf'
  | _, _, _, .tup hf r, .lst hf' r', n, n' => by rw [hf] at hf'; cases hf'
  | _, _, _, .tup hf r, .tup hf' r', n, n' => by
    rw [hf] at hf'; cases hf'
    rw [RpL.uniq r r' n n']
  | _, _, _, .lst hf r, .dct hf' r', n, n' => by cases n'
  | _, _, _, .lst hf r, .obj hf' r', n, n' => by cases n'
  | _, _, _, .lst hf r, .scr hf', n, n' => by cases n'
  | _, _, _, .tup hf r, .dct hf' r', n, n' => by cases n'
  | _, _, _, .tup hf r, .obj hf' r', n, n' => by cases n'
  | _, _, _, .tup hf r, .scr hf', n, n' => by cases n'
  | _, _, _, .dct _ _, _, n, _ => by cases n
  | _, _, _, .obj _ _, _, n, _ => by cases n
  | _, _, _, .scr _, _, n, _ => by cases n
theorem RpL.uniq {F : Hp} : ∀ {d e : List D} {v : List V}, RpL Z F d v → RpL Z F e v → noDL d = true → noDL e = true → d = e
  | _, _, _, .nil, .nil, _, _ => rfl
  | _, _, _, .cons r rr, .cons s ss, n, n' => by
    simp only [noDL, Bool.and_eq_true] at n n'
    rw [Rp.uniq r s n.1 n'.1, RpL.uniq rr ss n.2 n'.2]
end
theorem noDL_at : ∀ {ds : List D} {d : D}, noDL ds = true → d ∈ ds → noD d = true
  | a :: r, d, h, hm => by
    simp only [noDL, Bool.and_eq_true] at h
    rcases List.mem_cons.mp hm with z | z
    · subst z; exact h.1
    · exact noDL_at h.2 z
section
variable {pins : List (Addr × Obj)} {σ : St} {F H : Hp} {s : Shared}
open Classical in
/-- the answer of each item -/
noncomputable def hit (its : List Value) (ds : List D) (x : D) (u : Value) : Bool := if ∃ (i : Nat) (d : D), its[i]? = some u ∧ ds[i]? = some d ∧ deq d x = true then true else false
theorem hit_at (I : Inv X pins σ H s) {ds : List D} {vs : List V} {its : List Value} (r : RpL Z F ds vs) (rv : Vals vs its) (nd : noDL ds = true) {x : D} {j : Nat} {u : Value} {d : D} (h1 : its[j]? = some u) (h2 : ds[j]? = some d) : hit its ds x u = deq d x := by
  unfold hit
  by_cases c : ∃ (i : Nat) (d : D), its[i]? = some u ∧ ds[i]? = some d ∧ deq d x = true
  · rw [if_pos c]
    obtain ⟨i, d', e1, e2, e3⟩ := c
    obtain ⟨v, f1, f2⟩ := r.get h2
    obtain ⟨v', f1', f2'⟩ := r.get e2
    have q1 := vals_pick rv f1 h1
    have q2 := vals_pick rv f1' e1
    cases q1.inj q2
    rw [f2.uniq f2' (noDL_at nd (List.mem_of_getElem? h2)) (noDL_at nd (List.mem_of_getElem? e2)), e3]
  · rw [if_neg c]
    cases hd : deq d x with
    | false => rfl
    | true => exact absurd ⟨j, d, h1, h2, hd⟩ c
theorem hit_any (I : Inv X pins σ H s) {ds : List D} {vs : List V} {its : List Value} (r : RpL Z F ds vs) (rv : Vals vs its) (nd : noDL ds = true) {x : D} : its.toArray.any (hit its ds x) = ds.any fun d => deq d x := by
  have hl : ds.length = its.length := r.length.trans rv.length
  rw [show its.toArray.any (hit its ds x) = its.any (hit its ds x) by simp]
  rw [Bool.eq_iff_iff, List.any_eq_true, List.any_eq_true]
  constructor
  · rintro ⟨u, hu, hh⟩
    obtain ⟨j, hj⟩ := List.getElem?_of_mem hu
    have hjl : j < ds.length := by rw [hl]; exact (List.getElem?_eq_some_iff.mp hj).1
    rw [hit_at I r rv nd hj (List.getElem?_eq_getElem hjl)] at hh
    exact ⟨_, List.getElem_mem hjl, hh⟩
  · rintro ⟨d, hd, hh⟩
    obtain ⟨j, hj⟩ := List.getElem?_of_mem hd
    have hjl : j < its.length := by rw [← hl]; exact (List.getElem?_eq_some_iff.mp hj).1
    refine ⟨_, List.getElem_mem hjl, ?_⟩
    rw [hit_at I r rv nd (List.getElem?_eq_getElem hjl) hj]
    exact hh
def okIn (ds : List D) (x : D) : Bool := noDL ds && ds.all fun d => okEq d x 63
theorem hit_eq (I : Inv X pins σ H s) (k : Hk Z F H) {ds : List D} {vs : List V} {its : List Value} {x : D} {v : V} {u : Value} (r : RpL Z F ds vs) (rv : Vals vs its) (l : Lv Z F H x v) (rx : RelV v u) (ok : okIn ds x = true) (A : Around) (hu : A.units + 63 < cLine) : ∀ w ∈ its.toArray, SeqAt.EqAt A s w u (hit its ds x w) := fun w hw => by
  unfold okIn at ok
  rw [Bool.and_eq_true] at ok
  obtain ⟨j, hj⟩ := List.getElem?_of_mem (show w ∈ its by simpa using hw)
  have hl : ds.length = its.length := r.length.trans rv.length
  have hjl : j < ds.length := by rw [hl]; exact (List.getElem?_eq_some_iff.mp hj).1
  have hd : ds[j]? = some ds[j] := List.getElem?_eq_getElem hjl
  obtain ⟨v', f1, f2⟩ := r.get hd
  rw [hit_at I r rv ok.1 hj hd]
  have hm := List.getElem_mem hjl
  exact (Rp.eqA I k f2 l (vals_pick rv f1 hj) rx (List.all_eq_true.mp ok.2 _ hm) (noDL_at ok.1 hm)).h A hu
def keyD : D → Option Key
  | .int i => some (.inl i)
  | .str x => some (.inr x)
  | _ => none
theorem keyD_kV {F H : Hp} {d : D} {v : V} {k : Key} (h : keyD d = some k) (l : Lv Z F H d v) : v = kV k := by
  cases d with
  | int i => cases h; exact l
  | str i => cases h; exact l
  | _ => cases h
/-- in: a list, a tuple, a dict, a text -/
def rVIn (Z : Par) (neg : Bool) : R2 := fun x y H Q => ∃ F d e, Hk Z F H ∧ Lv Z F H d x ∧ Lv Z F H e y ∧ match e with
  | .lst ds => okIn ds d = true ∧ Q (.bl (if neg then !ds.any fun z => deq z d else ds.any fun z => deq z d)) H
  | .tup ds => okIn ds d = true ∧ Q (.bl (if neg then !ds.any fun z => deq z d else ds.any fun z => deq z d)) H
  | .dct ds => (∃ k, keyD d = some k ∧ Q (.bl (if neg then !(kget ds k).isSome else (kget ds k).isSome)) H) ∨ (d = .non ∧ Q (.bl neg) H)
  | .str z => ∃ i, d = .str i ∧ Q (.bl (if neg then !(!(Builtin.Str.occurrences z i 0 z.length 1).isEmpty) else !(Builtin.Str.occurrences z i 0 z.length 1).isEmpty)) H
  | _ => False
theorem RpK.isSome {F : Hp} {ds : List (Key × D)} {kvs : List (Key × V)} (r : RpK Z F ds kvs) (k : Key) : (valV kvs k).isSome = (kget ds k).isSome := by
  cases h : kget ds k with
  | none => rw [(r.get k).1 h]; rfl
  | some d => obtain ⟨v, h1, _⟩ := (r.get k).2 d h; rw [h1]; rfl
theorem p_in (Z : Par) (hu : X.A.units + 66 < cLine) : OpR X (compareOp .In) (rVIn Z false) := by
  intro pins s σ H x y v u Q I rx ry h
  obtain ⟨F, d, e, k, l1, l2, m⟩ := h
  cases e with
  | lst ds =>
    obtain ⟨ok, q⟩ := m
    obtain ⟨a, vs, its, e1, e2, e3, e4, e5, e6⟩ := l2.lstI I ry
    subst e2
    refine SeqAt.in_listAt (hit its ds d) e6 (hit_eq I k e4 e5 l1 rx ok X.A.in1 (by show X.A.units + 1 + 63 < cLine; omega)) ⟨.bl _, H, I, rfl, ?_⟩
    rw [hit_any I e4 e5 (by unfold okIn at ok; rw [Bool.and_eq_true] at ok; exact ok.1)]
    exact q
  | tup ds =>
    obtain ⟨ok, q⟩ := m
    obtain ⟨a, vs, its, e1, e2, e3, e4, e5, e6⟩ := l2.tupI I ry
    subst e2
    refine SeqAt.in_tupleAt (hit its ds d) e6 (hit_eq I k e4 e5 l1 rx ok X.A.in1 (by show X.A.units + 1 + 63 < cLine; omega)) ⟨.bl _, H, I, rfl, ?_⟩
    rw [hit_any I e4 e5 (by unfold okIn at ok; rw [Bool.and_eq_true] at ok; exact ok.1)]
    exact q
  | dct ds =>
    obtain ⟨a, kvs, e1, e2, e3⟩ := l2
    subst e1
    cases ry
    rcases m with ⟨k', hk, q⟩ | ⟨hd, q⟩
    · have hx := keyD_kV hk l1
      refine d_in (by omega) I (show DGet H a x (valV kvs k') from .inl ⟨kvs, k', e2, hx, rfl⟩) rx fun s' I' => ⟨.bl _, H, I', rfl, ?_⟩
      rw [e3.isSome]
      exact q
    · subst hd
      cases l1
      cases rx
      exact d_inNone I e2 fun s' I' => ⟨.bl _, H, I', rfl, q⟩
  | str z =>
    obtain ⟨i, hd, q⟩ := m
    subst hd
    exact op_in_str pins s σ H x y v u Q I rx ry ⟨i, z, l1, l2, q⟩
  | _ => exact m.elim
theorem p_notIn (Z : Par) (hu : X.A.units + 66 < cLine) : OpR X (compareOp .NotIn) (rVIn Z true) := by
  intro pins s σ H x y v u Q I rx ry h
  obtain ⟨F, d, e, k, l1, l2, m⟩ := h
  cases e with
  | lst ds =>
    obtain ⟨ok, q⟩ := m
    obtain ⟨a, vs, its, e1, e2, e3, e4, e5, e6⟩ := l2.lstI I ry
    subst e2
    refine SeqAt.notIn_listAt (hit its ds d) e6 (hit_eq I k e4 e5 l1 rx ok X.A.in1 (by show X.A.units + 1 + 63 < cLine; omega)) ⟨.bl _, H, I, rfl, ?_⟩
    rw [hit_any I e4 e5 (by unfold okIn at ok; rw [Bool.and_eq_true] at ok; exact ok.1)]
    exact q
  | tup ds =>
    obtain ⟨ok, q⟩ := m
    obtain ⟨a, vs, its, e1, e2, e3, e4, e5, e6⟩ := l2.tupI I ry
    subst e2
    refine SeqAt.notIn_tupleAt (hit its ds d) e6 (hit_eq I k e4 e5 l1 rx ok X.A.in1 (by show X.A.units + 1 + 63 < cLine; omega)) ⟨.bl _, H, I, rfl, ?_⟩
    rw [hit_any I e4 e5 (by unfold okIn at ok; rw [Bool.and_eq_true] at ok; exact ok.1)]
    exact q
  | dct ds =>
    obtain ⟨a, kvs, e1, e2, e3⟩ := l2
    subst e1
    cases ry
    rcases m with ⟨k', hk, q⟩ | ⟨hd, q⟩
    · have hx := keyD_kV hk l1
      refine d_notIn (by omega) I (show DGet H a x (valV kvs k') from .inl ⟨kvs, k', e2, hx, rfl⟩) rx fun s' I' => ⟨.bl _, H, I', rfl, ?_⟩
      rw [e3.isSome]
      exact q
    · subst hd
      cases l1
      cases rx
      exact d_notInNone I e2 fun s' I' => ⟨.bl _, H, I', rfl, q⟩
  | str z =>
    obtain ⟨i, hd, q⟩ := m
    subst hd
    exact op_notin_str pins s σ H x y v u Q I rx ry ⟨i, z, l1, l2, q⟩
  | _ => exact m.elim
end
def strIn (i z : Str) : Bool := !(Builtin.Str.occurrences z i 0 z.length 1).isEmpty
theorem strIn_one (c : Nat) (z : Str) : strIn ⟨#[c]⟩ z = decide (c ∈ z.cps.toList) := PySem.StrLaws.found_one z c
def inD (d e : D) : Option Bool := match e with
  | .lst ds => if okIn ds d = true then some (ds.any fun z => deq z d) else none
  | .tup ds => if okIn ds d = true then some (ds.any fun z => deq z d) else none
  | .dct ds => match keyD d with
    | some k => some (kget ds k).isSome
    | none => match d with
      | .non => some false
      | _ => none
  | .str z => match d with
    | .str i => some (strIn i z)
    | _ => none
  | _ => none
def gIn (d e : D) : Option D := (inD d e).map .bl
def gNotIn (d e : D) : Option D := (inD d e).map fun b => .bl (!b)
theorem rVIn_of {F H : Hp} {neg : Bool} {d e : D} {x y : V} {b : Bool} {Q : VK} (k : Hk Z F H) (l1 : Lv Z F H d x) (l2 : Lv Z F H e y) (h : inD d e = some b) (q : Q (.bl (if neg then !b else b)) H) : rVIn Z neg x y H Q := by
  refine ⟨F, d, e, k, l1, l2, ?_⟩
  cases e with
  | lst ds =>
    simp only [inD] at h
    by_cases c : okIn ds d = true
    · rw [if_pos c] at h; cases h; exact ⟨c, q⟩
    · rw [if_neg c] at h; cases h
  | tup ds =>
    simp only [inD] at h
    by_cases c : okIn ds d = true
    · rw [if_pos c] at h; cases h; exact ⟨c, q⟩
    · rw [if_neg c] at h; cases h
  | dct ds =>
    simp only [inD] at h
    cases hk : keyD d with
    | some k' => rw [hk] at h; cases h; exact .inl ⟨k', rfl, q⟩
    | none =>
      rw [hk] at h
      cases d with
      | non => cases h; refine .inr ⟨rfl, ?_⟩; cases neg <;> exact q
      | _ => cases h
  | str z =>
    cases d with
    | str i => cases h; exact ⟨i, rfl, q⟩
    | _ => cases h
  | _ => cases h
theorem o2_in : Op2 Z (rVIn Z false) .fz gIn := fun F H d1 d2 v1 v2 Q e k b1 b2 hg q => by
  unfold gIn at hg
  cases h : inD d1 d2 with
  | none => rw [h] at hg; cases hg
  | some b => rw [h] at hg; cases hg; exact rVIn_of k (b1.lv k) (b2.lv k) h (q_fz k (.bl _) q)
theorem o2_notIn : Op2 Z (rVIn Z true) .fz gNotIn := fun F H d1 d2 v1 v2 Q e k b1 b2 hg q => by
  unfold gNotIn at hg
  cases h : inD d1 d2 with
  | none => rw [h] at hg; cases hg
  | some b => rw [h] at hg; cases hg; exact rVIn_of k (b1.lv k) (b2.lv k) h (q_fz k (.bl _) q)
end Vm
/-! Vm8: indexing, slices, attributes, displays. -/
namespace Vm
open PySem L2
variable {Z : Par} {E : St → XK} {os : Os} {X : Cx} {io : List Nat} {rf : Fl}

/-! ### a[b] -/
theorem RpL.atI {F : Hp} {ds : List D} {vs : List V} (r : RpL Z F ds vs) {i : Int} {d : D} (h : L2.atI ds i = some d) : ∃ v, L2.atI vs i = some v ∧ Rp Z F d v := by
  unfold L2.atI at h ⊢
  rw [← r.length]
  cases e : ixN ds.length i with
  | none => rw [e] at h; cases h
  | some j => rw [e] at h; exact r.get h
theorem atI_map {α β : Type} (f : α → β) (xs : List α) (i : Int) : L2.atI (xs.map f) i = (L2.atI xs i).map f := by
  unfold L2.atI
  rw [List.length_map]
  cases ixN xs.length i with
  | none => rfl
  | some j => simp
def gIx (d e : D) : Option D := match d with
  | .lst ds => match e with
    | .int i => L2.atI ds i
    | _ => none
  | .tup ds => match e with
    | .int i => L2.atI ds i
    | _ => none
  | .str z => match e with
    | .int i => if z.length ≤ sizeLine then (L2.atI z.cps.toList i).map fun c => .str ⟨#[c]⟩ else none
    | _ => none
  | .scr ns => match e with
    | .int i => (L2.atI ns i).map .int
    | _ => none
  | .dct ds => (keyD e).bind (kget ds)
  | _ => none
def rDIx : R2 := fun x y H Q => ∃ a v, x = .ref a ∧ DGet H a y (some v) ∧ Q v H
theorem ix_dict (hu : X.A.units + 1 < cLine) : IxR X rDIx := by
  intro value slice pins s σ H x y v u Q I rx ry h hs
  obtain ⟨a, w, ex, g, q⟩ := h
  subst ex
  obtain rfl : v = Value.ref a := rx
  exact PyProof.Rows.tail_any (dict_typeIs I g) PySem.F.slot_dict_getitem.lookup (d_getItem hu I g ry fun w' s' I' rw' => ⟨w, H, I', rw', q⟩) hs
def rVIx (K : PySem.W.Frag) : R2 := fun x y H Q => rIx K x y H Q ∨ rDIx x y H Q
theorem p_ix (hu : X.A.units + 1 < cLine) : IxR X (rVIx X.K) := ix_seq.or (ix_dict hu)
theorem o2_ix : Op2 Z (rVIx Z.K) .fz gIx := fun F H d1 d2 v1 v2 Q e k b1 b2 hg q => by
  cases d1 with
  | lst ds =>
    cases d2 with
    | int i =>
      obtain ⟨a, vs, e1, e2, e3⟩ := b1.lst k
      obtain ⟨v, h1, h2⟩ := e3.atI hg
      exact .inl (.inl ⟨a, vs, i, v, e1, b2.int, SqL.of e2, h1, q_fz k h2 q⟩)
    | _ => cases hg
  | tup ds =>
    cases d2 with
    | int i =>
      obtain ⟨a, vs, e1, e2, e3⟩ := b1.tup k
      obtain ⟨v, h1, h2⟩ := e3.atI hg
      exact .inl (.inr (.inl ⟨a, vs, i, v, e1, b2.int, SqT.of e2, h1, q_fz k h2 q⟩))
    | _ => cases hg
  | str z =>
    cases d2 with
    | int i =>
      simp only [gIx] at hg
      by_cases c : z.length ≤ sizeLine
      · rw [if_pos c] at hg
        cases h : L2.atI z.cps.toList i with
        | none => rw [h] at hg; cases hg
        | some c' => rw [h] at hg; cases hg; exact .inl (.inr (.inr ⟨z, i, c', b1.str, b2.int, c, h, q_fz k (.str _) q⟩))
      · rw [if_neg c] at hg; cases hg
    | _ => cases hg
  | scr ns =>
    cases d2 with
    | int i =>
      obtain ⟨a, e1, e2⟩ := b1.scr k
      simp only [gIx] at hg
      cases h : L2.atI ns i with
      | none => rw [h] at hg; cases hg
      | some n => rw [h] at hg; cases hg; exact .inl (.inl ⟨a, _, i, .int n, e1, b2.int, e2, by rw [atI_map, h]; rfl, q_fz k (.int _) q⟩)
    | _ => cases hg
  | dct ds =>
    obtain ⟨a, kvs, e1, e2, e3⟩ := b1.dct k
    simp only [gIx] at hg
    cases hk : keyD d2 with
    | none => rw [hk] at hg; cases hg
    | some k' =>
      rw [hk] at hg
      obtain ⟨v, h1, h2⟩ := (e3.get k').2 e hg
      exact .inr ⟨a, v, e1, .inl ⟨kvs, k', e2, keyD_kV hk (b2.lv k), h1.symm⟩, q_fz k h2 q⟩
  | _ => cases hg
section
variable {a b : Expr} {pos : Pos} {fl fl1 fl2 : Fl} {pu pu1 pu2 : Bool} {ma mb : ME}
theorem em_ix (hu : X.A.units + 1 < cLine) (hK : X.K = Z.K) (ha : PEm X Z E os fl1 pu1 a ma) (hb : PEm X Z E os fl2 pu2 b mb) (hs : PlainIx b := by intro _ _; rfl) (hst : Still fl1 pu2 := by first | exact Or.inl rfl | exact Or.inr rfl) :
    PEm X Z E os .fz (pu1 && pu2) (.Subscript a b pos) (mOp2 gIx ma mb) := let ⟨_, a1, a2⟩ := ha; let ⟨_, b1, b2⟩ := hb; ⟨_, pe_ix (hK ▸ p_ix hu) a1 b1 hs, sim_op2 o2_ix a2 b2 hst⟩
end

/-! ### a[b:c] -/
def cutD (ds : List D) (lo hi : Option Int) : List D := (ds.drop (HT.sIx ds.length 0 lo)).take (HT.sIx ds.length ds.length hi - HT.sIx ds.length 0 lo)
theorem RpL.cut {F : Hp} {ds : List D} {vs : List V} (r : RpL Z F ds vs) (lo hi : Option Int) : RpL Z F (cutD ds lo hi) (cutV vs lo hi) := by
  unfold cutD cutV
  rw [r.length]
  exact (r.drop _).take _
def gSl (fl : Fl) (d : D) (lo hi : Option Int) : Option D := match d with
  | .lst ds => some (.lst (cutD ds lo hi))
  | .scr ns => some (.lst (cutD (ns.map .int) lo hi))
  | .tup ds => match fl with
    | .fz => some (.tup (cutD ds lo hi))
    | _ => none
  | .str z => match fl with
    | .fz => if z.length ≤ sizeLine then some (.str (cutS z lo hi)) else none
    | _ => none
  | _ => none
def rVSl (K : PySem.W.Frag) : V → Option Int → Option Int → Hp → VK → Prop := fun x lo hi H Q => rSlL K x lo hi H Q ∨ (rSlA K x lo hi H Q ∨ rSlS x lo hi H Q)
theorem p_sl : SlR X (rVSl X.K) := sl_list.or (sl_tupA.or sl_str)
theorem rpInts {F : Hp} : ∀ ns : List Int, RpL Z F (ns.map .int) (ns.map V.int)
  | [] => .nil
  | n :: ns => .cons (.int n) (rpInts ns)
theorem oS_sl {fl : Fl} (hf : fl = .fz ∨ fl = .nw) (F H : Hp) (d : D) (lo hi : Option Int) (v : V) (Q : VK) (e : D) (k : Hk Z F H) (b : Bo Z F H d v) (hg : gSl fl d lo hi = some e)
    (q : ∀ (F' H' : Hp) (w : V), PStep Z F H F' H' → NewR Z fl H F' H' e w → Q w H') : rVSl Z.K v lo hi H Q := by
  cases d with
  | lst ds =>
    cases hg
    obtain ⟨a, vs, e1, e2, e3⟩ := b.lst k
    exact .inl ⟨a, vs, e1, SqL.of e2, q_lst hf k (e3.cut lo hi) q⟩
  | scr ns =>
    cases hg
    obtain ⟨a, e1, e2⟩ := b.scr k
    exact .inl ⟨a, _, e1, e2, q_lst hf k ((rpInts ns).cut lo hi) q⟩
  | tup ds =>
    cases fl with
    | fz =>
      cases hg
      obtain ⟨a, vs, e1, e2, e3⟩ := b.tup k
      refine .inr (.inl ⟨a, vs, e1, SqT.of e2, fun ⟨h1, h2⟩ => ?_, fun _ => q_tup k (e3.cut lo hi) q⟩)
      rw [← e3.length] at h1 h2
      have : cutD ds lo hi = ds := by
        unfold cutD
        rw [h1, h2, List.drop_zero, Nat.sub_zero, List.take_length]
      rw [this] at q
      rw [← e1]
      exact q_fz k b.tupF q
    | _ => cases hg
  | str z =>
    cases fl with
    | fz =>
      simp only [gSl] at hg
      by_cases c : z.length ≤ sizeLine
      · rw [if_pos c] at hg; cases hg
        exact .inr (.inr ⟨z, b.str, c, q_fz k (.str _) q⟩)
      · rw [if_neg c] at hg; cases hg
    | _ => cases hg
  | _ => cases hg
/-- a slice's bound -/
def SimO (Z : Par) (E : St → XK) (os : Os) (pu : Bool) (t : TO) (m : Rho → ER (Option Int)) : Prop := ∀ (F H : Hp) (σ : St) (ρ : Rho) (Q : Option Int → Hp → Prop), EnvR Z os F H σ ρ → RunB Z E os pu F H σ ρ (m ρ) Q → t σ H Q
def POm (X : Cx) (Z : Par) (E : St → XK) (os : Os) (pu : Bool) (e : Option Expr) (m : Rho → ER (Option Int)) : Prop := ∃ t, PO X e t ∧ SimO Z E os pu t m
def mNoPart : Rho → ER (Option Int) := fun ρ => .ok none ρ
def mPart (me : ME) : Rho → ER (Option Int) := fun ρ => (me ρ).bind fun d ρ1 => match d with
  | .int i => .ok (some i) ρ1
  | _ => .stuck
theorem om_none : POm X Z E os true none mNoPart := ⟨_, po_none, fun F H σ ρ Q R h => h F H (PStep.refl R.hk).step (fun _ => Same.refl H) Pin.refl R⟩
theorem om_some {pu : Bool} {fl : Fl} {e : Expr} {me : ME} (h : PEm X Z E os fl pu e me) : POm X Z E os pu (some e) (mPart me) := by
  obtain ⟨_, a1, a2⟩ := h
  refine ⟨_, po_some a1, fun F H σ ρ Q R h => ?_⟩
  refine a2 F H σ ρ _ R ?_
  unfold mPart at h
  revert h
  cases me ρ with
  | stuck => exact fun z => z
  | exc c fs ρ' => exact fun z => z
  | ok x ρ1 =>
    intro h F1 H1 v s hp p R1 r1
    cases x with
    | int i => exact ⟨i, r1.bo.int, h F1 H1 s hp p R1⟩
    | _ => exact h.elim
def mSl3 (fl : Fl) (ma : ME) (ml mh : Rho → ER (Option Int)) : ME := fun ρ => (ma ρ).bind fun x ρ1 => (ml ρ1).bind fun l ρ2 => (mh ρ2).bind fun h ρ3 => ER.of (gSl fl x l h) ρ3
theorem em_slice {a : Expr} {lo hi : Option Expr} {p2 pos : Pos} {fl1 : Fl} {pu1 pu2 pu3 : Bool} {ma : ME} {ml mh : Rho → ER (Option Int)} (fl : Fl) (hK : X.K = Z.K) (ha : PEm X Z E os fl1 pu1 a ma) (hl : POm X Z E os pu2 lo ml) (hh : POm X Z E os pu3 hi mh)
    (hf : fl = .fz ∨ fl = .nw := by first | exact Or.inl rfl | exact Or.inr rfl) (hst : Still fl1 (pu2 && pu3) := by first | exact Or.inl rfl | exact Or.inr rfl) :
    PEm X Z E os fl (pu1 && (pu2 && pu3)) (.Subscript a (.Slice lo hi none p2) pos) (mSl3 fl ma ml mh) := by
  obtain ⟨_, a1, a2⟩ := ha
  obtain ⟨_, l1, l2⟩ := hl
  obtain ⟨_, h1, h2⟩ := hh
  refine ⟨_, pe_slice (hK ▸ p_sl) a1 l1 h1, ?_⟩
  intro F H σ ρ Q R h
  refine a2 F H σ ρ _ R ?_
  unfold mSl3 at h
  revert h
  cases e1 : ma ρ with
  | stuck => exact fun z => z
  | exc c fs ρ' => exact fun z => z
  | ok x ρ1 =>
    intro h F1 H1 v s hp p R1 r1
    have h := RunE.rebase (pu1 := pu1) (pu2 := pu2 && pu3) s hp (fun e => by simpa using e) p h
    change RunE Z E os fl _ F1 H1 σ ρ1 ((ml ρ1).bind fun l ρ2 => (mh ρ2).bind fun h ρ3 => ER.of (gSl fl x l h) ρ3) Q at h
    refine l2 F1 H1 σ ρ1 _ R1 ?_
    revert h
    cases e2 : ml ρ1 with
    | stuck => exact fun z => z
    | exc c fs ρ' => exact fun z => z
    | ok l ρ2 =>
      intro h F2 H2 s2 hp2 p2 R2
      have h := RunE.rebase (pu1 := pu2) (pu2 := pu3) s2 hp2 (fun e => by simpa using e) p2 h
      change RunE Z E os fl _ F2 H2 σ ρ2 ((mh ρ2).bind fun h ρ3 => ER.of (gSl fl x l h) ρ3) Q at h
      refine h2 F2 H2 σ ρ2 _ R2 ?_
      revert h
      cases e3 : mh ρ2 with
      | stuck => exact fun z => z
      | exc c fs ρ' => exact fun z => z
      | ok u ρ3 =>
        intro h F3 H3 s3 hp3 p3 R3
        obtain ⟨e, he, h3⟩ := run_of (RunE.rebase (pu1 := pu3) (pu2 := true) s3 hp3 (fun e => ⟨e, rfl⟩) p3 h)
        have hb : Bo Z F3 H3 x v := still_bo hst r1 (s2.f.trans s3.f) (fun e => by rw [Bool.and_eq_true] at e; exact (hp2 e.1).trans (hp3 e.2))
        exact hK ▸ oS_sl hf F3 H3 x l u v Q e R3.hk hb he fun F' H' w ps nr => RunE.fin R3 h3 ps nr

/-! ### a[::-1] -/
def gRevL (d : D) : Option D := match d with
  | .lst ds => some (.lst ds.reverse)
  | _ => none
def rRev (K : PySem.W.Frag) : V → Hp → VK → Prop := fun x H Q => ∃ a xs, x = .ref a ∧ SqL K H a xs ∧ ∀ p, H p = none → Q (.ref p) (upd H p (.lst xs.reverse))
theorem o1_rev {K : PySem.W.Frag} {fl : Fl} (hf : fl = .fz ∨ fl = .nw) : Op1 Z (rRev K) fl gRevL := fun F H d v Q e k b hg q => by
  cases d with
  | lst ds =>
    cases hg
    obtain ⟨a, vs, e1, e2, e3⟩ := b.lst k
    exact ⟨a, vs, e1, SqL.of e2, q_lst hf k e3.reverse q⟩
  | _ => cases hg
theorem em_revL {a : Expr} {k : Nat} {p1 p2 p3 pos : Pos} {fl1 : Fl} {pu : Bool} {ma : ME} (fl : Fl) (ha : PEm X Z E os fl1 pu a ma) (hf : fl = .fz ∨ fl = .nw := by first | exact Or.inl rfl | exact Or.inr rfl) :
    PEm X Z E os fl pu (.Subscript a (.Slice none none (some (.UnaryOp .USub (.Constant (.int 1) k p1) p2)) p3) pos) (mOp1 gRevL ma) := let ⟨_, a1, a2⟩ := ha; ⟨_, pe_revL a1, sim_op1 (r := rRev X.K) (o1_rev hf) a2⟩

/-! ### displays -/
/-- the length of a display, as written -/
def mLst (ma : Rho → ER (List D)) : ME := fun ρ => (ma ρ).bind fun xs ρ1 => .ok (.lst xs) ρ1
def mTup (ma : Rho → ER (List D)) : ME := fun ρ => (ma ρ).bind fun xs ρ1 => .ok (.tup xs) ρ1
theorem ArgsR.length {O0 : Addr → Prop} {H0 F H : Hp} {σ : St} {ρ : Rho} {fls : List AF} {ds : List D} {vs : List V} (h : ArgsR Z os O0 H0 F H σ ρ fls ds vs) : vs.length = fls.length := by
  induction h with
  | nil => rfl
  | cons _ _ _ ih => rw [List.length_cons, List.length_cons, ih]
theorem sim_lst {fl : Fl} (hf : fl = .fz ∨ fl = .nw) {fls : List AF} {pu : Bool} {ta : TA} {ma : Rho → ER (List D)} (h : SimA Z E os fls pu ta ma) (hb : Fzs fls = true) (hz : fls.length ≤ sizeLine) : SimE Z E os fl pu (tLst ta) (mLst ma) := by
  intro F H σ ρ Q R q
  refine h F H σ ρ _ R ?_
  unfold mLst at q
  revert q
  cases e1 : ma ρ with
  | stuck => exact fun z => z
  | exc c fs ρ' => exact fun z => z
  | ok x ρ1 =>
    intro q F1 H1 vs s hp p R1 r1
    have q := RunE.rebase (pu1 := pu) (pu2 := true) s hp (fun e => ⟨e, rfl⟩) p q
    exact ⟨by rw [r1.length]; exact hz, q_lst hf R1.hk (r1.rpL hb) fun F' H' w ps nr => RunE.fin R1 q ps nr⟩
theorem sim_tup {fls : List AF} {pu : Bool} {ta : TA} {ma : Rho → ER (List D)} (h : SimA Z E os fls pu ta ma) (hb : Fzs fls = true) (hz : fls.length ≤ sizeLine) : SimE Z E os .fz pu (tTup ta) (mTup ma) := by
  intro F H σ ρ Q R q
  refine h F H σ ρ _ R ?_
  unfold mTup at q
  revert q
  cases e1 : ma ρ with
  | stuck => exact fun z => z
  | exc c fs ρ' => exact fun z => z
  | ok x ρ1 =>
    intro q F1 H1 vs s hp p R1 r1
    have q := RunE.rebase (pu1 := pu) (pu2 := true) s hp (fun e => ⟨e, rfl⟩) p q
    exact ⟨by rw [r1.length]; exact hz, q_tup R1.hk (r1.rpL hb) fun F' H' w ps nr => RunE.fin R1 q ps nr⟩
section
variable {es : List Expr} {pos : Pos} {pu : Bool} {fls : List AF} {ma : Rho → ER (List D)} {x1 : ExprContext}
theorem em_lst {pos : Pos} (fl : Fl) (ha : PAm X Z E os fls pu es ma) (hf : fl = .fz ∨ fl = .nw := by first | exact Or.inl rfl | exact Or.inr rfl) (hb : Fzs fls = true := by rfl) (hz : fls.length ≤ sizeLine := by decide) : PEm X Z E os fl pu (.List es pos) (mLst ma) := let ⟨_, a1, a2⟩ := ha; ⟨_, pe_lst a1, sim_lst hf a2 hb hz⟩
theorem em_tup {pos : Pos} {x1} (ha : PAm X Z E os fls pu es ma) (hb : Fzs fls = true := by rfl) (hz : fls.length ≤ sizeLine := by decide) : PEm X Z E os .fz pu (.Tuple es x1 pos) (mTup ma) := let ⟨_, a1, a2⟩ := ha; ⟨_, pe_tup a1, sim_tup a2 hb hz⟩
/-- {} -/
theorem em_dct0 (fl : Fl) (hf : fl = .fz ∨ fl = .nw := by first | exact Or.inl rfl | exact Or.inr rfl) : PEm X Z E os fl true (.Dict [] [] pos) (mC (.dct [])) :=
  ⟨_, pe_dnewK, fun F H σ ρ Q R h => q_dct hf R.hk .nil fun F' H' w ps nr => RunE.fin R h ps nr⟩
end

/-! ### o.f -/
def gFld (f : Str) (d : D) : Option D := match d with
  | .obj _ fs => fs.lookup f
  | _ => none
/-- the class c has no attribute f of its own -/
def mFld (c f : Str) (mo : ME) : ME := fun ρ => (mo ρ).bind fun o ρ1 => match o with
  | .obj c' fs => if c' = c then ER.of (fs.lookup f) ρ1 else .stuck
  | _ => .stuck
theorem em_fld {o : Expr} {f : Str} {pos : Pos} {fl1 : Fl} {pu : Bool} {mo : ME} (c : Str) (cl : Cls X.K (Z.z c)) (hn : NoAttr X.K (Z.z c) f) (ho : PEm X Z E os fl1 pu o mo) (hb : attributeBase o f X.env (eval o X.env) = eval o X.env := by rfl) : PEm X Z E os .fz pu (.Attribute o f pos) (mFld c f mo) := by
  obtain ⟨_, a1, a2⟩ := ho
  refine ⟨_, pe_fld a1 hb, ?_⟩
  intro F H σ ρ Q R h
  refine a2 F H σ ρ _ R ?_
  unfold mFld at h
  revert h
  cases e1 : mo ρ with
  | stuck => exact fun z => z
  | exc c fs ρ' => exact fun z => z
  | ok x ρ1 =>
    intro h F1 H1 v s hp p R1 r1
    have h := RunE.rebase (pu1 := pu) (pu2 := true) s hp (fun e => ⟨e, rfl⟩) p h
    cases x with
    | obj c' fs =>
      have h0 : RunE Z E os .fz true F1 H1 σ ρ1 (if c' = c then ER.of (fs.lookup f) ρ1 else .stuck) Q := h
      clear h
      by_cases hc : c' = c
      · rw [if_pos hc] at h0
        subst hc
        obtain ⟨e, he, h⟩ := run_of h0
        obtain ⟨a, dx, vs, e1, e2, e3⟩ := r1.bo.obj R1.hk
        obtain ⟨v', g1, g2⟩ := (rpS_lookup e3 f).2 e he
        exact ⟨a, _, dx, vs, v', e1, e2, cl, hn, g1, RunE.fin R1 h (PStep.refl R1.hk) g2⟩
      · rw [if_neg hc] at h0; exact h0.elim
    | _ => exact h.elim
end Vm
/-! Vm9: sorting. -/
namespace Vm
open PySem L2

/-! ### an order's one sorted list -/
section
variable {α : Type} (lt : α → α → Bool)
def insBy (x : α) : List α → List α
  | [] => [x]
  | y :: r => if lt y x = true then y :: insBy x r else x :: y :: r
def sortBy : List α → List α
  | [] => []
  | x :: r => insBy lt x (sortBy r)
structure Ord : Prop where
  asym : ∀ x y, lt x y = true → lt y x = false
  tr : ∀ x y z, lt y x = false → lt z y = false → lt z x = false
  eq : ∀ x y, lt x y = false → lt y x = false → x = y
variable {lt}
theorem ins_perm (x : α) : ∀ l : List α, (insBy lt x l).Perm (x :: l)
  | [] => .refl _
  | y :: r => by
    unfold insBy
    by_cases h : lt y x = true
    · rw [if_pos h]; exact ((ins_perm x r).cons y).trans (.swap x y r)
    · rw [if_neg h]
theorem sort_perm : ∀ l : List α, (sortBy lt l).Perm l
  | [] => .refl _
  | x :: r => (ins_perm x _).trans ((sort_perm r).cons x)
theorem ins_pw (O : Ord lt) (x : α) : ∀ l : List α, l.Pairwise (fun a b => lt b a = false) → (insBy lt x l).Pairwise fun a b => lt b a = false
  | [], _ => List.pairwise_singleton _ _
  | y :: r, h => by
    obtain ⟨h1, h2⟩ := List.pairwise_cons.mp h
    unfold insBy
    by_cases c : lt y x = true
    · rw [if_pos c]
      refine List.pairwise_cons.mpr ⟨fun z hz => ?_, ins_pw O x r h2⟩
      rcases List.mem_cons.mp ((ins_perm x r).mem_iff.mp hz) with e | e
      · subst e; exact O.asym _ _ c
      · exact h1 z e
    · rw [if_neg c]
      have c : lt y x = false := by simpa using c
      refine List.pairwise_cons.mpr ⟨fun z hz => ?_, h⟩
      rcases List.mem_cons.mp hz with e | e
      · subst e; exact c
      · exact O.tr _ _ _ c (h1 z e)
theorem sort_pw (O : Ord lt) : ∀ l : List α, (sortBy lt l).Pairwise fun a b => lt b a = false
  | [] => .nil
  | x :: r => ins_pw O x _ (sort_pw O r)
theorem pw_uniq (O : Ord lt) : ∀ {l m : List α}, l.Pairwise (fun a b => lt b a = false) → m.Pairwise (fun a b => lt b a = false) → l.Perm m → l = m
  | [], m, _, _, p => (List.Perm.eq_nil p.symm).symm
  | x :: l, [], _, _, p => absurd p.length_eq (by simp)
  | x :: l, y :: m, h1, h2, p => by
    obtain ⟨a1, a2⟩ := List.pairwise_cons.mp h1
    obtain ⟨b1, b2⟩ := List.pairwise_cons.mp h2
    have irr : ∀ z, lt z z = false := fun z => by
      cases c : lt z z with
      | false => rfl
      | true => exact (O.asym z z c).symm.trans c |>.symm ▸ rfl
    have e : x = y := by
      refine O.eq x y ?_ ?_
      · rcases List.mem_cons.mp (p.mem_iff.mp (List.mem_cons_self (a := x) (l := l))) with e | e
        · rw [e]; exact irr y
        · exact b1 x e
      · rcases List.mem_cons.mp (p.mem_iff.mpr (List.mem_cons_self (a := y) (l := m))) with e | e
        · rw [e]; exact irr x
        · exact a1 y e
    subst e
    rw [pw_uniq O a2 b2 p.cons_inv]
theorem sort_uniq (O : Ord lt) {l m : List α} (h : m.Pairwise fun a b => lt b a = false) (p : m.Perm l) : m = sortBy lt l := pw_uniq O h (sort_pw O l) (p.trans (sort_perm l).symm)
end
def ltI (x y : Int) : Bool := decide (x < y)
def ltS (x y : Str) : Bool := decide (x.cps.toList < y.cps.toList)
theorem ord_int : Ord ltI := ⟨fun x y h => by unfold ltI at *; simp only [decide_eq_true_eq, decide_eq_false_iff_not] at *; omega, fun x y z h1 h2 => by unfold ltI at *; simp only [decide_eq_false_iff_not] at *; omega, fun x y h1 h2 => by unfold ltI at *; simp only [decide_eq_false_iff_not] at *; omega⟩
theorem str_ext {x y : Str} (h : x.cps.toList = y.cps.toList) : x = y := by
  cases x with
  | mk a =>
    cases y with
    | mk b =>
      have : a = b := by
        cases a; cases b; exact congrArg Array.mk h
      rw [this]
theorem ord_str : Ord ltS := ⟨fun x y h => by unfold ltS at *; simp only [decide_eq_true_eq, decide_eq_false_iff_not] at *; exact fun h' => List.lt_irrefl _ (List.lt_trans h h'),
  fun x y z h1 h2 => by
    unfold ltS at *; simp only [decide_eq_false_iff_not] at *
    exact fun h => absurd (List.lt_of_le_of_lt (List.not_lt.mp h2) h) h1,
  fun x y h1 h2 => by
    unfold ltS at *; simp only [decide_eq_false_iff_not] at *
    exact str_ext (List.le_antisymm (List.not_lt.mp h2) (List.not_lt.mp h1))⟩

/-! ### sorted(x) of any list or tuple -/
end Vm
namespace SrtO
open PySem PyProof.Rows Srt
section
variable {prog : Program} {w : World} {A : Around} {E : Value → Shared → Prop} {s : Shared}
theorem sort_seq {T : String} (hT : T = "list" ∨ T = "tuple") {l : Addr} {o : Obj} {vs : List Value} {n : Nat} {ltv : Value → Value → Bool} {Q : Value → Shared → Prop} (O : Swo ltv) (ho : s.heap.get? l = some o) (hc : o.cls = .type T) (hd : o.data = .seq vs.toArray n) (hz : vs.length ≤ sizeLine)
    (hS : 2 ≤ vs.length → ∀ (h₁ : Heap) (a : Addr), SortableO prog w A.in1.in1 { s with heap := h₁ } a vs ltv)
    (h : ∀ (out : List Value) (h₁ h' : Heap) (ep : Nat), Srtd ltv out → Stb ltv out vs → (∀ b o, s.heap.get? b = some o → h₁.get? b = some o) → (∀ b o, h₁.get? b = some o → h'.get? b = some o) → h'.get? h₁.objs.size = some (seqObj "list" out.toArray ep) → Q (.ref h₁.objs.size) { s with heap := h' }) :
    wpAny (model prog w) A (call (.builtin "sorted") [.ref l]) Q E s := by
  refine Calls.call_function_entry kind_sorted plain_sorted entry_sorted (args_sorted1 _) ?_
  unfold Builtin.«sorted»
  refine wpAny_bind (m := checkCount "sorted" 1 1 _) (wpAny_pure ?_)
  refine wpAny_bind (wpAny_collect_seq l hT ho hc hd (fun h' hk => ?_) (by rw [List.size_toArray]; exact hz))
  refine wpAny_bind (wpAny_newList ?_ (by simpa using hz))
  have hoL : (h'.push (seqObj "list" vs.toArray 0)).get? h'.objs.size = some (seqObj "list" vs.toArray 0) := Heap.get?_push_size _ rfl
  show wpAny _ _ _ _ _ { s with heap := h'.push (seqObj "list" vs.toArray 0) }
  refine wpAny_bind (wpAny_holding (wpAny_call_entry slot_list_sort ⟨_, hoL, rfl⟩ entry_list_sort (list_sort_ord (s := { s with heap := h'.push (seqObj "list" vs.toArray 0) }) O hoL hz (fun h2 => hS h2 _ _) fun out hs hb => ⟨_, rfl, ?_⟩) (args_list_sort _)))
  obtain ⟨ep, he⟩ := sortedHeap_at (vs := vs) (out := out.toArray) hoL
  refine wpAny_pure ⟨_, rfl, h out _ _ ep hs hb hk (fun b ob hbo => ?_) he⟩
  have hb' : b < h'.objs.size := Heap.lt_size hbo
  rw [sortedHeap_old (Nat.ne_of_lt hb') (by rw [size_push']; exact Nat.lt_succ_of_lt hb')]
  exact Heap.get?_push_of_some _ hbo

/-! ### texts -/
def sv : Value → PySem.Str
  | .str x _ => x
  | _ => ⟨#[]⟩
def ltSv (v u : Value) : Bool := Vm.ltS (sv v) (sv u)
theorem swo_str : Swo ltSv := ⟨fun x y => Vm.ord_str.asym _ _, fun x y z => Vm.ord_str.tr _ _ _⟩
theorem strs_mem : ∀ {vs : List Value} {ns : List PySem.Str}, StrsAre vs ns → ∀ v ∈ vs, ∃ i t, v = Value.str i t
  | _, _, .nil, v, h => absurd h (by simp)
  | _, _, .cons n t r, v, h => by
    rcases List.mem_cons.mp h with e | h
    · exact ⟨n, t, e⟩
    · exact strs_mem r v h
theorem strs_sv : ∀ {vs : List Value}, (∀ v ∈ vs, ∃ i t, v = Value.str i t) → StrsAre vs (vs.map sv)
  | [], _ => .nil
  | v :: vs, h => by
    obtain ⟨i, t, e⟩ := h v List.mem_cons_self
    subst e
    exact .cons i t (strs_sv fun u hu => h u (List.mem_cons_of_mem _ hu))
theorem sv_strs : ∀ {vs : List Value} {ns : List PySem.Str}, StrsAre vs ns → vs.map sv = ns
  | _, _, .nil => rfl
  | _, _, .cons n t r => congrArg (n :: ·) (sv_strs r)
theorem str_cmp {vs : List Value} {ns : List PySem.Str} (hI : StrsAre vs ns) : Cmp prog w A s oneType' (fun p => p.1 ∈ vs) (lt2 ltSv) := by
  intro p q hm hm'
  obtain ⟨a, t, e⟩ := strs_mem hI _ hm
  obtain ⟨b, u, e'⟩ := strs_mem hI _ hm'
  show wpAny (model prog w) A (keyLt' oneType' p.1 q.1) (fun r s' => s' = s ∧ r = ltSv p.1 q.1) (fun _ _ => False) s
  rw [e, e', keyLt'_oneType]
  exact oneLt_str ⟨rfl, rfl⟩
theorem strs_sortable {a : Addr} {vs : List Value} {ns : List PySem.Str} (hI : StrsAre vs ns) (h2 : 2 ≤ vs.length) : SortableO prog w A s a vs ltSv := by
  intro h' _
  refine ⟨oneType', fun Q E hq => ?_, str_cmp hI⟩
  match vs, hI, h2 with
  | v1 :: v2 :: rest, hI, _ =>
    rw [keyKind_strs hI]
    exact wpAny_pure hq
  | [], _, h => exact absurd h (by decide)
  | [v], _, h => exact absurd h (by simp)
theorem strs_out {vs out : List Value} {ns : List PySem.Str} (hI : StrsAre vs ns) (hs : Srtd ltSv out) (hb : Stb ltSv out vs) : StrsAre out (Vm.sortBy Vm.ltS ns) := by
  have h1 : StrsAre out (out.map sv) := strs_sv fun v hv => strs_mem hI v (hb.perm.mem_iff.mp hv)
  have h2 : (out.map sv).Perm ns := by
    have q := hb.perm.map sv
    rw [sv_strs hI] at q
    exact q
  have h3 : (out.map sv).Pairwise fun a b => Vm.ltS b a = false := List.pairwise_map.mpr (hs.imp fun {x y} h => h)
  rw [Vm.sort_uniq Vm.ord_str h3 h2] at h1
  exact h1
theorem ints_out' {vs out : List Value} {ns : List Int} (hI : IntsAre vs ns) (hs : Srtd ltIv out) (hb : Stb ltIv out vs) : IntsAre out (Vm.sortBy Vm.ltI ns) := by
  have h1 : IntsAre out (out.map iv) := ints_iv fun v hv => ints_mem hI v (hb.perm.mem_iff.mp hv)
  have h2 : (out.map iv).Perm ns := by
    have q := hb.perm.map iv
    rw [iv_ints hI] at q
    exact q
  have h3 : (out.map iv).Pairwise fun a b => Vm.ltI b a = false := List.pairwise_map.mpr (hs.imp fun {x y} h => h)
  rw [Vm.sort_uniq Vm.ord_int h3 h2] at h1
  exact h1
end
end SrtO
namespace Vm
open PySem L2
open PyProof.Rows (seqObj)
variable {Z : Par} {E : St → XK} {os : Os} {X : Cx} {io : List Nat} {rf : Fl}
/-- sorted(x), x a list or tuple of texts or of ints -/
def rVSort (K : PySem.W.Frag) : List V → Hp → VK → Prop := fun vs H Q => ∃ (a : Addr) (ys : List V) (zs : List V), vs = [V.ref a] ∧ (SqL K H a ys ∨ SqT K H a ys) ∧
  ((∃ ns : List Int, ys = ns.map V.int ∧ zs = (sortBy ltI ns).map V.int) ∨ ∃ ns : List Str, ys = ns.map V.str ∧ zs = (sortBy ltS ns).map V.str) ∧ ∀ p, H p = none → Q (.ref p) (upd H p (.lst zs))
theorem p_sort : CallR X (.builtin "sorted") (rVSort X.K) := by
  intro pins s σ H vs us Q I r h
  obtain ⟨a, ys, zs, rfl, hq, hy, q⟩ := h
  rw [Vals.ref1 r]
  obtain ⟨T, its, o, n, hT, ho, hc, hd, rv, hz⟩ : ∃ (T : String) (its : List Value) (o : Obj) (n : Nat), (T = "list" ∨ T = "tuple") ∧ s.heap.get? a = some o ∧ o.cls = .type T ∧ o.data = .seq its.toArray n ∧ Vals ys its ∧ ys.length ≤ sizeLine := by
    rcases hq with hq | hq
    · obtain ⟨its, rv, pl, hz⟩ := I.list hq
      obtain ⟨o, ho, hc, n, hd⟩ := pl.isList
      exact ⟨"list", its, o, n, .inl rfl, ho, hc, hd, rv, hz⟩
    · obtain ⟨its, rv, ⟨o, ho, hc, n, hd⟩, hz⟩ := I.tuple hq
      exact ⟨"tuple", its, o, n, .inr rfl, ho, hc, hd, rv, hz⟩
  have hl := rv.length
  have fin : ∀ (out : List Value) (h₁ h' : Heap) (ep : Nat), Vals zs out → zs.length ≤ sizeLine → (∀ b o, s.heap.get? b = some o → h₁.get? b = some o) → (∀ b o, h₁.get? b = some o → h'.get? b = some o) → h'.get? h₁.objs.size = some (seqObj "list" out.toArray ep) → EP X pins σ Q (.ref h₁.objs.size) { s with heap := h' } := fun out h₁ h' ep hv hz hk hk' he => by
    have I1 : Inv X pins σ H { s with heap := h₁ } := I.kept (t' := s.toks) hk
    exact ⟨.ref _, upd H h₁.objs.size (.lst zs), I1.laid (t' := s.toks) hk' (Nat.le_refl _) ⟨hz, out, ep, hv, he⟩, rfl, q _ (I1.hok.fresh (Nat.le_refl _))⟩
  rcases hy with ⟨ns, e1, e2⟩ | ⟨ns, e1, e2⟩
  · subst e1 e2
    have hi := rv.ints
    refine SrtO.sort_seq hT SrtO.swo_int ho hc hd (by omega) (fun h2 h₁ a' => SrtO.ints_sortable hi h2) fun out h₁ h' ep hs hb hk hk' he => ?_
    refine fin out h₁ h' ep (vals_of_ints (SrtO.ints_out' hi hs hb)) ?_ hk hk' he
    rw [List.length_map, (sort_perm ns).length_eq]
    simpa using hz
  · subst e1 e2
    have hi := rv.strs
    refine SrtO.sort_seq hT SrtO.swo_str ho hc hd (by omega) (fun h2 h₁ a' => SrtO.strs_sortable hi h2) fun out h₁ h' ep hs hb hk hk' he => ?_
    refine fin out h₁ h' ep (vals_of_strs (SrtO.strs_out hi hs hb)) ?_ hk hk' he
    rw [List.length_map, (sort_perm ns).length_eq]
    simpa using hz
/-- all ints, all texts -/
def intsOf : List D → Option (List Int)
  | [] => some []
  | .int i :: r => (intsOf r).map (i :: ·)
  | _ => none
def strsOf : List D → Option (List Str)
  | [] => some []
  | .str i :: r => (strsOf r).map (i :: ·)
  | _ => none
theorem intsOf_map : ∀ ns : List Int, intsOf (ns.map .int) = some ns
  | [] => rfl
  | n :: ns => by simp [intsOf, intsOf_map ns]
theorem strsOf_map : ∀ ns : List Str, strsOf (ns.map .str) = some ns
  | [] => rfl
  | n :: ns => by simp [strsOf, strsOf_map ns]
theorem intsOf_eq : ∀ {ds : List D} {ns : List Int}, intsOf ds = some ns → ds = ns.map .int
  | [], ns, h => by cases h; rfl
  | .int i :: r, ns, h => by
    simp only [intsOf] at h
    cases e : intsOf r with
    | none => rw [e] at h; cases h
    | some m => rw [e] at h; cases h; rw [intsOf_eq e]; rfl
  | .non :: r, ns, h => by cases h
  | .bl _ :: r, ns, h => by cases h
  | .str _ :: r, ns, h => by cases h
  | .lst _ :: r, ns, h => by cases h
  | .tup _ :: r, ns, h => by cases h
  | .dct _ :: r, ns, h => by cases h
  | .obj _ _ :: r, ns, h => by cases h
  | .scr _ :: r, ns, h => by cases h
theorem strsOf_eq : ∀ {ds : List D} {ns : List Str}, strsOf ds = some ns → ds = ns.map .str
  | [], ns, h => by cases h; rfl
  | .str i :: r, ns, h => by
    simp only [strsOf] at h
    cases e : strsOf r with
    | none => rw [e] at h; cases h
    | some m => rw [e] at h; cases h; rw [strsOf_eq e]; rfl
  | .non :: r, ns, h => by cases h
  | .bl _ :: r, ns, h => by cases h
  | .int _ :: r, ns, h => by cases h
  | .lst _ :: r, ns, h => by cases h
  | .tup _ :: r, ns, h => by cases h
  | .dct _ :: r, ns, h => by cases h
  | .obj _ _ :: r, ns, h => by cases h
  | .scr _ :: r, ns, h => by cases h
theorem rp_ints {F : Hp} : ∀ {ns : List Int} {vs : List V}, RpL Z F (ns.map .int) vs → vs = ns.map V.int
  | [], _, .nil => rfl
  | n :: ns, _, .cons (.int _) r => by rw [rp_ints r]; rfl
theorem rp_strs {F : Hp} : ∀ {ns : List Str} {vs : List V}, RpL Z F (ns.map .str) vs → vs = ns.map V.str
  | [], _, .nil => rfl
  | n :: ns, _, .cons (.str _) r => by rw [rp_strs r]; rfl
theorem rpStrs {F : Hp} : ∀ ns : List Str, RpL Z F (ns.map .str) (ns.map V.str)
  | [] => .nil
  | n :: ns => .cons (.str n) (rpStrs ns)
def sortD (ds : List D) : Option (List D) := match strsOf ds with
  | some ns => some ((sortBy ltS ns).map .str)
  | none => (intsOf ds).map fun ns => (sortBy ltI ns).map .int
def gSorted (ds : List D) : Option D := match ds with
  | [.lst xs] => (sortD xs).map .lst
  | [.tup xs] => (sortD xs).map .lst
  | _ => none
theorem sortD_eq {F : Hp} {ds es : List D} {vs : List V} (h : sortD ds = some es) (r : RpL Z F ds vs) : ∃ zs, RpL Z F es zs ∧ ((∃ ns : List Int, vs = ns.map V.int ∧ zs = (sortBy ltI ns).map V.int) ∨ ∃ ns : List Str, vs = ns.map V.str ∧ zs = (sortBy ltS ns).map V.str) := by
  unfold sortD at h
  cases e : strsOf ds with
  | some ns =>
    rw [e] at h
    cases h
    rw [strsOf_eq e] at r
    exact ⟨_, rpStrs _, .inr ⟨ns, rp_strs r, rfl⟩⟩
  | none =>
    rw [e] at h
    cases e' : intsOf ds with
    | none => simp only [e'] at h; cases h
    | some ns =>
      simp only [e'] at h
      cases h
      rw [intsOf_eq e'] at r
      exact ⟨_, rpInts _, .inl ⟨ns, rp_ints r, rfl⟩⟩
theorem oN_sorted {K : PySem.W.Frag} {fl : Fl} (hf : fl = .fz ∨ fl = .nw) : OpN Z (rVSort K) fl gSorted := fun F H ds vs Q e k b hg q => by
  match ds, hg with
  | [.lst xs], hg =>
    obtain ⟨v, ev, b1⟩ := b.one
    subst ev
    obtain ⟨a, ws, e1, e2, e3⟩ := b1.lst k
    simp only [gSorted] at hg
    cases hs : sortD xs with
    | none => rw [hs] at hg; cases hg
    | some es =>
      rw [hs] at hg; cases hg
      obtain ⟨zs, r, hz⟩ := sortD_eq hs e3
      exact ⟨a, ws, zs, by rw [e1], .inl (SqL.of e2), hz, q_lst hf k r q⟩
  | [.tup xs], hg =>
    obtain ⟨v, ev, b1⟩ := b.one
    subst ev
    obtain ⟨a, ws, e1, e2, e3⟩ := b1.tup k
    simp only [gSorted] at hg
    cases hs : sortD xs with
    | none => rw [hs] at hg; cases hg
    | some es =>
      rw [hs] at hg; cases hg
      obtain ⟨zs, r, hz⟩ := sortD_eq hs e3
      exact ⟨a, ws, zs, by rw [e1], .inr (SqT.of e2), hz, q_lst hf k r q⟩
end Vm
/-! Vm10: one's own objects are changed. -/
namespace Vm
open PySem L2
variable {Z : Par} {E : St → XK} {os : Os} {X : Cx} {io : List Nat} {rf : Fl}

/-! ### the cell of one's own object is rewritten -/
theorem hk_upd {F H : Hp} (k : Hk Z F H) {l : Addr} {ob : HO} (hF : F l = none) : Hk Z F (upd H l ob) :=
  ⟨fun a o e => by rw [upd_ne (fun z => by subst z; rw [hF] at e; cases e)]; exact k.le a o e, k.sc⟩
theorem own_ne {F H : Hp} {b : Bool} {l l' : Addr} {ob : HO} {d : D} (h : l' ≠ l) (o : Own Z F H b l' d) : Own Z F (upd H l ob) b l' d := o.keep (Same.refl F) fun u e => by rw [upd_ne h]; exact e
theorem rho_set {ρ : Rho} {i j : Nat} {d x : D} (hd : ρ[i]? = some (some d)) {o' : D} (h : (ρ.set i (some o'))[j]? = some (some x)) : (j = i ∧ x = o') ∨ (j ≠ i ∧ ρ[j]? = some (some x)) := by
  by_cases e : j = i
  · subst e
    have hl : j < ρ.length := (List.getElem?_eq_some_iff.mp hd).1
    rw [List.getElem?_set_self hl] at h; cases h; exact .inl ⟨rfl, rfl⟩
  · rw [List.getElem?_set_ne (Ne.symm e)] at h
    exact .inr ⟨e, h⟩
theorem own_upd {F H : Hp} {σ : St} {ρ : Rho} {i : Nat} {l : Addr} {d o' : D} {ob : HO} (R : EnvR Z os F H σ ρ) (ho : os.lookup i = some true) (hd : ρ[i]? = some (some d)) (hs : σ[i]? = some (some (.ref l))) (hF : F l = none) (own : Own Z F H true l d) (new : Own Z F (upd H l ob) true l o') :
    Step (Ow os σ ρ) (Ow os σ (ρ.set i (some o'))) F H F (upd H l ob) ∧ Pin os σ σ ρ (ρ.set i (some o')) ∧ EnvR Z os F (upd H l ob) σ (ρ.set i (some o')) := by
  have hO : Ow os σ ρ l := ⟨i, ho, ⟨d, hd⟩, hs⟩
  have back : ∀ (j : Nat), (∃ x : D, (ρ.set i (some o'))[j]? = some (some x)) → ∃ x : D, ρ[j]? = some (some x) := fun j ⟨x, h⟩ => by
    rcases rho_set hd h with ⟨e, _⟩ | ⟨_, h⟩
    · subst e; exact ⟨d, hd⟩
    · exact ⟨x, h⟩
  refine ⟨⟨Same.refl F, fun a o h => .inl h, fun a o h n => ?_, fun a ⟨j, h1, h2, h3⟩ => .inl ⟨j, h1, back j h2, h3⟩, fun a h => ?_⟩, fun j h => ⟨rfl, ?_⟩, ⟨R.ex, hk_upd R.hk hF, by rw [List.length_set]; exact R.len, fun j x h n => ?_, fun j x b h n => ?_, fun j k b c l' h1 h2 h3 h4 => R.ne j k b c l' h1 h2 (back j h3) (back k h4)⟩⟩
  · rw [upd_ne (fun z => n (by rw [z]; exact hO))]; exact h
  · by_cases e : a = l
    · subst e; rw [upd_same] at h; cases h
    · rw [upd_ne e] at h; exact h
  · rw [List.getElem?_set_ne]; rintro rfl; rw [ho] at h; cases h
  · rcases rho_set hd h with ⟨e, _⟩ | ⟨_, h⟩
    · subst e; rw [ho] at n; cases n
    · exact R.fz j x h n
  · rcases rho_set hd h with ⟨e, e2⟩ | ⟨ne, h⟩
    · subst e e2
      rw [ho] at n; cases n
      exact ⟨l, hs, hF, new⟩
    · obtain ⟨l', q1, q2, q3⟩ := R.ow j x b h n
      refine ⟨l', q1, q2, own_ne (fun z => ne ?_) q3⟩
      subst z
      exact R.ne j i b true l' n ho ⟨x, h⟩ ⟨d, hd⟩ q1 hs

/-! ### x.m(..) of one's own list, dict -/
/-- what a method does with one's own object: the object behind it, the result -/
def OpO (Z : Par) (r : V → List V → Hp → VK → Prop) (g : D → List D → Option (D × D)) : Prop := ∀ (F H : Hp) (l : Addr) (d : D) (ds : List D) (vs : List V) (Q : VK) (o' e : D), Hk Z F H → Own Z F H true l d → RpL Z F ds vs → g d ds = some (o', e) →
  (∀ (ob : HO) (w : V), Own Z F (upd H l ob) true l o' → Rp Z F e w → Q w (upd H l ob)) → r (.ref l) vs H Q
def kindT (T : String) : D → Bool
  | .lst _ => T == "list"
  | .dct _ => T == "dict"
  | _ => false
theorem kindT_ty {T : String} {F H : Hp} {l : Addr} {d : D} (o : Own Z F H true l d) (h : kindT T d = true) : tyV Z.K T (.ref l) H := by
  cases d with
  | lst ds =>
    obtain ⟨vs, h1, _⟩ := o
    have : T = "list" := by simpa [kindT] using h
    exact .inl ⟨this, vs, SqL.of h1⟩
  | dct ds =>
    obtain ⟨vs, h1, _⟩ := o
    have : T = "dict" := by simpa [kindT] using h
    rcases h1 with h1 | ⟨z, _⟩
    · exact .inr (.inr (.inl ⟨this, .inl ⟨vs, h1⟩⟩))
    · cases z
  | _ => cases h
def mOM (T : String) (g : D → List D → Option (D × D)) (i : Nat) (ma : Rho → ER (List D)) : ME := fun ρ => match ρ[i]? with
  | some (some d0) => if kindT T d0 = true then (ma ρ).bind fun xs ρ1 => match ρ1[i]? with
      | some (some d) => match g d xs with
        | some (o', e) => .ok e (ρ1.set i (some o'))
        | none => .stuck
      | _ => .stuck
    else .stuck
  | _ => .stuck
theorem sim_om {T : String} {r : V → List V → Hp → VK → Prop} {g : D → List D → Option (D × D)} {i : Nat} {fls : List AF} {pu : Bool} {ta : TA} {ma : Rho → ER (List D)} (ho : os.lookup i = some true) (hr : OpO Z r g) (ha : SimA Z E os fls pu ta ma) (hf : Fzs fls = true) :
    SimE Z E os .fz false (tBM Z.K T r (tVar i) ta) (mOM T g i ma) := by
  intro F H σ ρ Q R h
  unfold mOM at h
  split at h
  · rename_i d0 hd0
    by_cases hk : kindT T d0 = true
    · rw [if_pos hk] at h
      obtain ⟨l, h1, h2, h3⟩ := R.ow i d0 true hd0 ho
      refine ⟨.ref l, h1, kindT_ty h3 hk, ?_⟩
      refine ha F H σ ρ _ R ?_
      revert h
      cases e1 : ma ρ with
      | stuck => exact fun z => z
      | exc c fs ρ' => exact fun z => z
      | ok xs ρ1 =>
        intro h F1 H1 vs s hp p R1 ar
        have h := RunE.rebase (pu1 := pu) (pu2 := false) s hp (fun e => by cases e) p h
        change RunE Z E os .fz false F1 H1 σ ρ1 (match ρ1[i]? with
          | some (some d) => match g d xs with
            | some (o', e) => .ok e (ρ1.set i (some o'))
            | none => .stuck
          | _ => .stuck) Q at h
        split at h
        · rename_i d hd
          obtain ⟨l', q1, q2, q3⟩ := R1.ow i d true hd ho
          rw [h1] at q1; cases q1
          cases eg : g d xs with
          | none => rw [eg] at h; exact h.elim
          | some p =>
            obtain ⟨o', e⟩ := p
            rw [eg] at h
            refine hr F1 H1 l d xs vs Q o' e R1.hk q3 (ar.rpL hf) eg fun ob w new rw' => ?_
            obtain ⟨a, b, c⟩ := own_upd R1 ho hd h1 q2 q3 new
            exact h F1 _ w a (fun z => by cases z) b c rw'
        · exact h.elim
    · rw [if_neg hk] at h; exact h.elim
  · exact h.elim
/-- .. of a new object that nobody else holds -/
def mTM (T : String) (g : D → List D → Option (D × D)) (mo : ME) (ma : Rho → ER (List D)) : ME := fun ρ => (mo ρ).bind fun d ρ1 => if kindT T d = true then (ma ρ1).bind fun xs ρ2 => match g d xs with
    | some (_, e) => .ok e ρ2
    | none => .stuck
  else .stuck
theorem sim_tm {T : String} {r : V → List V → Hp → VK → Prop} {g : D → List D → Option (D × D)} {fls : List AF} {pu pu1 : Bool} {to : TE} {mo : ME} {ta : TA} {ma : Rho → ER (List D)} (hr : OpO Z r g) (hs : SimE Z E os .nw pu1 to mo) (ha : SimA Z E os fls pu ta ma) (hf : Fzs fls = true) :
    SimE Z E os .fz false (tBM Z.K T r to ta) (mTM T g mo ma) := by
  intro F H σ ρ Q R h
  refine hs F H σ ρ _ R ?_
  unfold mTM at h
  revert h
  cases e0 : mo ρ with
  | stuck => exact fun z => z
  | exc c fs ρ' => exact fun z => z
  | ok d ρ1 =>
    intro h F1 H1 v s hp p R1 r1
    obtain ⟨l, g1, g2, g3, g4, g5⟩ := r1
    subst g1
    change RunE Z E os .fz false F H σ ρ (if kindT T d = true then (ma ρ1).bind fun xs ρ2 => match g d xs with
        | some (_, e) => .ok e ρ2
        | none => .stuck
      else .stuck) Q at h
    by_cases hk : kindT T d = true
    · rw [if_pos hk] at h
      refine ⟨kindT_ty g5 hk, ?_⟩
      refine ha F1 H1 σ ρ1 _ R1 ?_
      revert h
      cases e1 : ma ρ1 with
      | stuck => exact fun z => z
      | exc c fs ρ' => exact fun h F' H' s' p' R' => h F' H' (s.trans s') (p.trans p') R'
      | ok xs ρ2 =>
        intro h F2 H2 vs s2 hp2 p2 R2 ar
        obtain ⟨l', k1, k2, k3, k4, k5⟩ := nw_keep (O0 := Ow os σ ρ) (H0 := H) s2 (fun i hi => (p2 i hi).2) ⟨l, rfl, g2, g3, g4, g5⟩
        cases k1
        change RunE Z E os .fz false F H σ ρ (match g d xs with
          | some (_, e) => .ok e ρ2
          | none => .stuck) Q at h
        cases eg : g d xs with
        | none => rw [eg] at h; exact h.elim
        | some q =>
          obtain ⟨o', e⟩ := q
          rw [eg] at h
          refine hr F2 H2 l d xs vs Q o' e R2.hk k5 (ar.rpL hf) eg fun ob w new rw' => ?_
          have S := s.trans s2
          refine h F2 _ w ⟨S.f, S.n, fun a o e n => ?_, S.w, fun a hz => ?_⟩ (fun z => by cases z) (p.trans p2) ⟨R2.ex, hk_upd R2.hk k3, R2.len, R2.fz, fun j x b hj nj => ?_, R2.ne⟩ rw'
          · rw [upd_ne (fun z => ?_)]
            · exact S.k a o e n
            · subst z
              rcases k2 with z | z
              · exact n z
              · rw [e] at z; cases z
          · by_cases ea : a = l
            · subst ea; rw [upd_same] at hz; cases hz
            · rw [upd_ne ea] at hz; exact S.d a hz
          · obtain ⟨l', q1, q2, q3⟩ := R2.ow j x b hj nj
            exact ⟨l', q1, q2, own_ne (fun z => k4 ⟨j, b, nj, ⟨x, hj⟩, by rw [q1, z]⟩) q3⟩
    · rw [if_neg hk] at h; exact h.elim
section
variable {x : Str} {p apos cpos : Pos} {o e : Expr} {es : List Expr} {T id : String} {name : Str} {r : V → List V → Hp → VK → Prop} {g : D → List D → Option (D × D)} {fls : List AF} {pu pu1 : Bool} {ma : Rho → ER (List D)} {mo : ME}
theorem em_om (i : Nat) (pa : PlainAttrs T) (slot : Slot T name id) (hty : typeOf (.builtin id) = pure (.type "method_descriptor")) (hm : MtR X id r) (hr : OpO Z r g) (hK : X.K = Z.K) (ha : PAm X Z E os fls pu (e :: es) ma) (hf : Fzs fls = true := by rfl)
    (ho : os.lookup i = some true := by rfl) (hN : X.N[i]? = some x := by rfl) (hv : Vis X.env.scope x := by first | exact Or.inl rfl | exact Or.inr (Or.inl rfl) | exact Or.inr (Or.inr rfl)) (hd : (x == ("__debug__" : Str)) = false := by decide)
    (hcd : (x == ("__classdict__" : Str)) = false := by decide)
    (hbase : attributeBase (.Name x p) name X.env (eval (.Name x p) X.env) = eval (.Name x p) X.env := by rfl)
    (hfew : ((backTo cpos (starEach (e :: es) X.env)).all (fun x => !x.1) && (backToKw cpos (keywordEach [] X.env)).all (fun x => x.1.isSome)
      && decide ((e :: es).length + ([] : List Keyword).length + (if ([] : List Keyword).isEmpty then 0 else 1) < 30)) = true := by rfl)
    (hline : (apos.endLine == cpos.line) = true := by rfl) (hs : starEach (e :: es) X.env = (false, eval e X.env) :: starEach es X.env := by rfl) (hplain : (backTo cpos (starEach es X.env)).any (·.1) = false := by rfl) :
    PEm X Z E os .fz false (.Call (.Attribute (.Name x p) name apos) (e :: es) [] cpos) (mOM T g i ma) := by
  obtain ⟨_, a1, a2⟩ := ha
  have q := pe_bm (cpos := cpos) (apos := apos) pa slot hty hm (pe_var (pos := p) hN hv hd hcd) a1 hbase hfew hline hs hplain
  rw [hK] at q
  exact ⟨_, q, sim_om ho hr a2 hf⟩
theorem em_om0 (i : Nat) (pa : PlainAttrs T) (slot : Slot T name id) (hty : typeOf (.builtin id) = pure (.type "method_descriptor")) (hm : MtR X id r) (hr : OpO Z r g) (hK : X.K = Z.K)
    (ho : os.lookup i = some true := by rfl) (hN : X.N[i]? = some x := by rfl) (hv : Vis X.env.scope x := by first | exact Or.inl rfl | exact Or.inr (Or.inl rfl) | exact Or.inr (Or.inr rfl)) (hd : (x == ("__debug__" : Str)) = false := by decide)
    (hcd : (x == ("__classdict__" : Str)) = false := by decide)
    (hbase : attributeBase (.Name x p) name X.env (eval (.Name x p) X.env) = eval (.Name x p) X.env := by rfl) (hline : (apos.endLine == cpos.line) = true := by rfl) :
    PEm X Z E os .fz false (.Call (.Attribute (.Name x p) name apos) [] [] cpos) (mOM T g i mNil) := by
  have q := pe_bm0 (cpos := cpos) (apos := apos) pa slot hty hm (pe_var (pos := p) hN hv hd hcd) hbase hline
  rw [hK] at q
  exact ⟨_, q, sim_om (ta := tNil) (pu := true) (fls := []) ho hr (fun F H σ ρ Q R h => h F H [] (PStep.refl R.hk).step (fun _ => Same.refl H) Pin.refl R .nil) rfl⟩
theorem em_tmm (pa : PlainAttrs T) (slot : Slot T name id) (hty : typeOf (.builtin id) = pure (.type "method_descriptor")) (hm : MtR X id r) (hr : OpO Z r g) (hK : X.K = Z.K) (hoE : PEm X Z E os .nw pu1 o mo) (ha : PAm X Z E os fls pu (e :: es) ma) (hf : Fzs fls = true := by rfl)
    (hbase : attributeBase o name X.env (eval o X.env) = eval o X.env := by rfl)
    (hfew : ((backTo cpos (starEach (e :: es) X.env)).all (fun x => !x.1) && (backToKw cpos (keywordEach [] X.env)).all (fun x => x.1.isSome)
      && decide ((e :: es).length + ([] : List Keyword).length + (if ([] : List Keyword).isEmpty then 0 else 1) < 30)) = true := by rfl)
    (hline : (apos.endLine == cpos.line) = true := by rfl) (hs : starEach (e :: es) X.env = (false, eval e X.env) :: starEach es X.env := by rfl) (hplain : (backTo cpos (starEach es X.env)).any (·.1) = false := by rfl) :
    PEm X Z E os .fz false (.Call (.Attribute o name apos) (e :: es) [] cpos) (mTM T g mo ma) := by
  obtain ⟨_, o1, o2⟩ := hoE
  obtain ⟨_, a1, a2⟩ := ha
  have q := pe_bm (cpos := cpos) (apos := apos) pa slot hty hm o1 a1 hbase hfew hline hs hplain
  rw [hK] at q
  exact ⟨_, q, sim_tm hr o2 a2 hf⟩
theorem em_tmm0 (pa : PlainAttrs T) (slot : Slot T name id) (hty : typeOf (.builtin id) = pure (.type "method_descriptor")) (hm : MtR X id r) (hr : OpO Z r g) (hK : X.K = Z.K) (hoE : PEm X Z E os .nw pu1 o mo)
    (hbase : attributeBase o name X.env (eval o X.env) = eval o X.env := by rfl) (hline : (apos.endLine == cpos.line) = true := by rfl) :
    PEm X Z E os .fz false (.Call (.Attribute o name apos) [] [] cpos) (mTM T g mo mNil) := by
  obtain ⟨_, o1, o2⟩ := hoE
  have q := pe_bm0 (cpos := cpos) (apos := apos) pa slot hty hm o1 hbase hline
  rw [hK] at q
  exact ⟨_, q, sim_tm (ta := tNil) (pu := true) (fls := []) hr o2 (fun F H σ ρ Q R h => h F H [] (PStep.refl R.hk).step (fun _ => Same.refl H) Pin.refl R .nil) rfl⟩
end

/-! ### the methods -/
def gApp (d : D) (as : List D) : Option (D × D) := match d, as with
  | .lst xs, [x] => if xs.length < sizeLine then some (.lst (xs ++ [x]), .non) else none
  | _, _ => none
theorem oO_app : OpO Z rAppend gApp := fun F H l d ds vs Q o' e k own ar hg q => by
  match d, ds, hg with
  | .lst xs, [x], hg =>
    simp only [gApp] at hg
    by_cases c : xs.length < sizeLine
    · rw [if_pos c] at hg; cases hg
      obtain ⟨ws, h1, h2⟩ := own
      cases ar with
      | cons r rr =>
        cases rr
        exact ⟨l, ws, _, rfl, rfl, h1, by rw [← h2.length]; exact c, q (.lst (ws ++ [_])) .non ⟨_, upd_same, h2.append (.one r)⟩ .non⟩
    · rw [if_neg c] at hg; cases hg
def gClearL (d : D) (as : List D) : Option (D × D) := match d, as with
  | .lst _, [] => some (.lst [], .non)
  | _, _ => none
theorem oO_clearL : OpO Z rClear gClearL := fun F H l d ds vs Q o' e k own ar hg q => by
  match d, ds, hg with
  | .lst xs, [], hg =>
    cases hg
    obtain ⟨ws, h1, h2⟩ := own
    cases ar
    exact ⟨l, ws, rfl, rfl, h1, q (.lst []) .non ⟨_, upd_same, .nil⟩ .non⟩
def gPop (d : D) (as : List D) : Option (D × D) := match d, as with
  | .lst xs, [] => (xs[xs.length - 1]?).map fun y => (.lst xs.dropLast, y)
  | _, _ => none
theorem RpL.dropLast {F : Hp} {ds : List D} {vs : List V} (h : RpL Z F ds vs) : RpL Z F ds.dropLast vs.dropLast := by
  rw [List.dropLast_eq_take, List.dropLast_eq_take, h.length]
  exact h.take _
theorem oO_pop : OpO Z rPop gPop := fun F H l d ds vs Q o' e k own ar hg q => by
  match d, ds, hg with
  | .lst xs, [], hg =>
    simp only [gPop] at hg
    cases hx : xs[xs.length - 1]? with
    | none => rw [hx] at hg; cases hg
    | some y =>
      rw [hx] at hg; cases hg
      obtain ⟨ws, h1, h2⟩ := own
      cases ar
      obtain ⟨w, g1, g2⟩ := h2.get hx
      exact ⟨l, ws, w, rfl, rfl, h1, by rw [← h2.length]; exact g1, q (.lst ws.dropLast) w ⟨_, upd_same, h2.dropLast⟩ g2⟩
noncomputable def gPopAt (d : D) (as : List D) : Option (D × D) := match d, as with
  | .lst xs, [.int i] => if shut (decide (-(2 ^ 63) ≤ i) && decide (i < 2 ^ 63)) = true then (seqIndex? i xs.length).bind fun k => (xs[k]?).map fun y => (.lst (xs.eraseIdx k), y) else none
  | _, _ => none
theorem oO_popAt : OpO Z rPopAt gPopAt := fun F H l d ds vs Q o' e k own ar hg q => by
  match d, ds, hg with
  | .lst xs, [.int i], hg =>
    simp only [gPopAt, shut_eq] at hg
    by_cases c : (decide (-(2 ^ 63) ≤ i) && decide (i < 2 ^ 63)) = true
    · rw [if_pos c] at hg
      simp only [Bool.and_eq_true, decide_eq_true_eq] at c
      cases hk : seqIndex? i xs.length with
      | none => rw [hk] at hg; cases hg
      | some j =>
        rw [hk] at hg
        change (xs[j]?).map _ = _ at hg
        cases hx : xs[j]? with
        | none => rw [hx] at hg; cases hg
        | some y =>
          rw [hx] at hg; cases hg
          obtain ⟨ws, h1, h2⟩ := own
          cases ar with
          | cons r rr =>
            cases rr
            cases r
            obtain ⟨w, g1, g2⟩ := h2.get hx
            exact ⟨l, ws, i, j, w, rfl, rfl, h1, c.1, c.2, by rw [← h2.length]; exact hk, g1, q (.lst (ws.eraseIdx j)) w ⟨_, upd_same, h2.eraseIdx j⟩ g2⟩
    · rw [if_neg c] at hg; cases hg
/-- dicts -/
def putD (ds : List (Key × D)) (k : Key) (v : D) : List (Key × D) := if (ds.any fun kv => decide (kv.1 = k)) = true then ds.map (fun kv => if kv.1 = k then (kv.1, v) else kv) else ds ++ [(k, v)]
def dropD (ds : List (Key × D)) (k : Key) : List (Key × D) := ds.filter fun kv => decide (kv.1 ≠ k)
theorem RpK.any {F : Hp} {ds : List (Key × D)} {kvs : List (Key × V)} (r : RpK Z F ds kvs) (k : Key) : (ds.any fun kv => decide (kv.1 = k)) = kvs.any fun kv => decide (kv.1 = k) := by
  induction ds generalizing kvs with
  | nil => cases r; rfl
  | cons p ds ih => cases r with | cons r rr => simp [ih rr]
theorem RpK.append {F : Hp} {ds es : List (Key × D)} {vs ws : List (Key × V)} (h : RpK Z F ds vs) (g : RpK Z F es ws) : RpK Z F (ds ++ es) (vs ++ ws) := by
  induction ds generalizing vs with
  | nil => cases h; exact g
  | cons d ds ih => cases h with | cons h r => exact .cons h (ih r)
theorem RpK.put {F : Hp} {ds : List (Key × D)} {kvs : List (Key × V)} (r : RpK Z F ds kvs) (k : Key) {d : D} {v : V} (rv : Rp Z F d v) : RpK Z F (putD ds k d) (putK kvs k v) := by
  unfold putD putK
  rw [r.any k]
  by_cases c : (kvs.any fun kv => decide (kv.1 = k)) = true
  · rw [if_pos c, if_pos c]
    clear c
    induction ds generalizing kvs with
    | nil => cases r; exact .nil
    | cons p ds ih =>
      cases r with
      | @cons k' d' _ v' vs r rr =>
        rw [List.map_cons, List.map_cons]
        by_cases e : k' = k
        · subst e
          rw [if_pos rfl, if_pos rfl]
          exact .cons rv (ih rr)
        · rw [if_neg e, if_neg e]
          exact .cons r (ih rr)
  · rw [if_neg c, if_neg c]
    exact r.append (.cons rv .nil)
theorem RpK.drop {F : Hp} {ds : List (Key × D)} {kvs : List (Key × V)} (r : RpK Z F ds kvs) (k : Key) : RpK Z F (dropD ds k) (dropK kvs k) := by
  unfold dropD dropK
  induction ds generalizing kvs with
  | nil => cases r; exact .nil
  | cons p ds ih =>
    cases r with
    | @cons k' d' _ v' vs r rr =>
      by_cases e : k' = k
      · subst e
        rw [List.filter_cons_of_neg (by simp), List.filter_cons_of_neg (by simp)]
        exact ih rr
      · rw [List.filter_cons_of_pos (by simpa using e), List.filter_cons_of_pos (by simpa using e)]
        exact .cons r (ih rr)
def rDClear : V → List V → Hp → VK → Prop := fun x vs H Q => ∃ a kvs, x = .ref a ∧ vs = [] ∧ H a = some (.dK kvs) ∧ Q .non (upd H a (.dK []))
theorem mt_dclear : MtR X "dict.clear" rDClear := by
  intro pins s σ H x xs v us Q I rx rs h
  obtain ⟨a, kvs, rfl, rfl, hH, q⟩ := h
  cases rx
  cases rs
  exact d_clear I hH fun s' I' => ⟨.non, _, I', rfl, q⟩
theorem own_dT {F H : Hp} {l : Addr} {ds : List (Key × D)} (o : Own Z F H true l (.dct ds)) : ∃ kvs, H l = some (.dK kvs) ∧ RpK Z F ds kvs := by
  obtain ⟨vs, h1, h2⟩ := o
  rcases h1 with h1 | ⟨z, _⟩
  · exact ⟨vs, h1, h2⟩
  · cases z
def gDClear (d : D) (as : List D) : Option (D × D) := match d, as with
  | .dct _, [] => some (.dct [], .non)
  | _, _ => none
theorem oO_dclear : OpO Z rDClear gDClear := fun F H l d ds vs Q o' e k own ar hg q => by
  match d, ds, hg with
  | .dct xs, [], hg =>
    cases hg
    obtain ⟨ws, h1, h2⟩ := (own_dT own)
    cases ar
    exact ⟨l, ws, rfl, rfl, h1, q (.dK []) .non ⟨_, .inl upd_same, .nil⟩ .non⟩
def rDPop : V → List V → Hp → VK → Prop := fun x vs H Q => ∃ a kvs k v more, x = .ref a ∧ vs = kV k :: more ∧ (more = [] ∨ ∃ y, more = [y]) ∧ H a = some (.dK kvs) ∧ valV kvs k = some v ∧ Q v (upd H a (.dK (dropK kvs k)))
theorem mt_dpop : MtR X "dict.pop" rDPop := by
  intro pins s σ H x xs v us Q I rx rs h
  obtain ⟨a, kvs, k, w, more, rfl, rfl, hm, hH, hv, q⟩ := h
  cases rx
  cases rs with
  | cons r1 rr =>
    refine d_pop I hH r1 hv ?_ fun w' s' I' rw' => ⟨w, _, I', rw', q⟩
    rcases hm with e | ⟨y, e⟩
    · subst e; cases rr; exact .inl rfl
    · subst e; cases rr with | cons r2 rr => cases rr; exact .inr ⟨_, rfl⟩
def gDPop (d : D) (as : List D) : Option (D × D) := match d, as with
  | .dct kvs, k :: more => if more.length ≤ 1 then (keyD k).bind fun k => (kget kvs k).map fun v => (.dct (dropD kvs k), v) else none
  | _, _ => none
theorem oO_dpop : OpO Z rDPop gDPop := fun F H l d ds vs Q o' e k own ar hg q => by
  match d, ds, hg with
  | .dct xs, y :: more, hg =>
    simp only [gDPop] at hg
    by_cases c : more.length ≤ 1
    · rw [if_pos c] at hg
      cases hk : keyD y with
      | none => rw [hk] at hg; cases hg
      | some k' =>
        rw [hk] at hg
        change (kget xs k').map _ = _ at hg
        cases hx : kget xs k' with
        | none => rw [hx] at hg; cases hg
        | some z =>
          rw [hx] at hg; cases hg
          obtain ⟨ws, h1, h2⟩ := (own_dT own)
          cases ar with
          | @cons _ _ yv mv r rr =>
            obtain ⟨w, g1, g2⟩ := (h2.get k').2 _ hx
            have ek : yv = kV k' := keyD_kV hk (r.lv k)
            refine ⟨l, ws, k', w, mv, rfl, by rw [ek], ?_, h1, g1, q (.dK (dropK ws k')) w ⟨_, .inl upd_same, h2.drop k'⟩ g2⟩
            have hl := rr.length
            match mv, hl with
            | [], _ => exact .inl rfl
            | [z], _ => exact .inr ⟨z, rfl⟩
            | _ :: _ :: _, hl => simp at hl; omega
    · rw [if_neg c] at hg; cases hg

/-! ### o[i] = v -/
def rVSet : V → V → V → Hp → (Hp → Prop) → Prop := fun o i v H Q => rSetL o i v H Q ∨ rSetD o i v H Q
theorem p_set (hu : X.A.units + 1 < cLine) : PSet X rVSet := by
  intro pins s σ H o i v ov iv u Q I ro ri rv h
  rcases h with h | h
  · exact set_list pins s σ H o i v ov iv u Q I ro ri rv h
  · exact set_dict hu pins s σ H o i v ov iv u Q I ro ri rv h
def gPut (o i v : D) : Option D := match o with
  | .lst ds => match i with
    | .int k => (ixN ds.length k).map fun j => .lst (ds.set j v)
    | _ => none
  | .dct ds => if ds.length < sizeLine then (keyD i).map fun k => .dct (putD ds k v) else none
  | _ => none
theorem put_ok {F H : Hp} {l : Addr} {o i v o' : D} {iv vv : V} {Q : Hp → Prop} (k : Hk Z F H) (own : Own Z F H true l o) (li : Lv Z F H i iv) (rv : Rp Z F v vv) (hg : gPut o i v = some o') (q : ∀ ob, Own Z F (upd H l ob) true l o' → Q (upd H l ob)) : rVSet (.ref l) iv vv H Q := by
  cases o with
  | lst ds =>
    cases i with
    | int n =>
      simp only [gPut] at hg
      cases hj : ixN ds.length n with
      | none => rw [hj] at hg; cases hg
      | some j =>
        rw [hj] at hg; cases hg
        obtain ⟨ws, h1, h2⟩ := own
        exact .inl ⟨l, ws, n, j, rfl, li, h1, by rw [← h2.length]; exact hj, q (.lst (ws.set j vv)) ⟨_, upd_same, h2.set rv j⟩⟩
    | _ => cases hg
  | dct ds =>
    simp only [gPut] at hg
    by_cases c : ds.length < sizeLine
    · rw [if_pos c] at hg
      cases hk : keyD i with
      | none => rw [hk] at hg; cases hg
      | some k' =>
        rw [hk] at hg; cases hg
        obtain ⟨ws, h1, h2⟩ := (own_dT own)
        exact .inr ⟨l, _, rfl, .inl ⟨ws, k', h1, keyD_kV hk li, by rw [← h2.length]; exact c, rfl⟩, q (.dK (putK ws k' vv)) ⟨_, .inl upd_same, h2.put k' rv⟩⟩
    · rw [if_neg c] at hg; cases hg
  | _ => cases hg
def mPut (i : Nat) (me mx : ME) : MS := fun ρ => match me ρ with
  | .ok v ρ1 => match ρ1[i]? with
    | some (some _) => match mx ρ1 with
      | .ok x ρ2 => match ρ2[i]? with
        | some (some o) => match gPut o x v with
          | some o' => .nx (ρ2.set i (some o'))
          | none => .stuck
        | _ => .stuck
      | .exc c fs ρ' => .exc c fs ρ'
      | .stuck => .stuck
    | _ => .stuck
  | .exc c fs ρ' => .exc c fs ρ'
  | .stuck => .stuck
theorem sm_put {x : Str} {p p2 pos : Pos} {e ix : Expr} {me mx : ME} {fl2 : Fl} {pu pu2 : Bool} (i : Nat) (hu : X.A.units + 1 < cLine) (he : PEm X Z E os .fz pu e me) (hx : PEm X Z E os fl2 pu2 ix mx)
    (ho : os.lookup i = some true := by rfl) (hN : X.N[i]? = some x := by rfl) (hv : Vis X.env.scope x := by first | exact Or.inl rfl | exact Or.inr (Or.inl rfl) | exact Or.inr (Or.inr rfl)) (hd : (x == ("__debug__" : Str)) = false := by decide)
    (hcd : (x == ("__classdict__" : Str)) = false := by decide)
    (ha : ∀ v, assign (.Subscript (.Name x p) ix p2) X.env v = (do
      let ov ← holding [v] (eval (.Name x p) X.env)
      let iv ← holding [v, ov] (eval ix X.env)
      standAt p2
      holding [v, ov, iv] (setItem ov iv v)
      release [v, ov, iv] []) := by intro _; rfl) (hs : swapsWithSole [.Subscript (.Name x p) ix p2] e pos.line X.env = pure false := by rfl) (hw : swappedStores [.Subscript (.Name x p) ix p2] e X.env = pure none := by rfl)
    (h1 : (assignEach [.Subscript (.Name x p) ix p2] X.env).map (·.2) = [assign (.Subscript (.Name x p) ix p2) X.env] := by rfl) :
    PSm X Z E os io rf (.Assign [.Subscript (.Name x p) ix p2] e pos) (mPut i me mx) := by
  obtain ⟨_, a1, a2⟩ := he
  obtain ⟨_, b1, b2⟩ := hx
  refine ⟨_, ps_asg a1 (pg_sub (pe_var hN hv hd hcd) b1 (p_set hu) ha) hs hw h1, ?_⟩
  intro F H σ ρ K R q
  refine a2 F H σ ρ _ R ?_
  unfold mPut at q
  revert q
  cases me ρ with
  | stuck => exact fun z => z
  | exc c fs ρ' => exact fun q F' H' s p R' => q F' H' σ (.ofE s p R')
  | ok v ρ1 =>
    intro q F1 H1 vv s1 _ pn1 R1 r1
    dsimp only at q
    split at q
    · rename_i d0 hd0
      obtain ⟨l, g1, g2, g3⟩ := R1.ow i d0 true hd0 ho
      have go1 := Go.ofE (io := io) s1 pn1 R1
      refine ⟨.ref l, g1, ?_⟩
      refine b2 F1 H1 σ ρ1 _ R1 ?_
      revert q
      cases mx ρ1 with
      | stuck => exact fun z => z
      | exc c fs ρ' => exact fun q F' H' s p R' => q F' H' σ (go1.trans (.ofE s p R'))
      | ok xi ρ2 =>
        intro q F2 H2 iv s2 _ pn2 R2 r2
        dsimp only at q
        split at q
        · rename_i o hd
          obtain ⟨l', q1, q2, q3⟩ := R2.ow i o true hd ho
          rw [g1] at q1; cases q1
          split at q
          · rename_i o' hg
            have go2 := go1.trans (Go.ofE (io := io) s2 pn2 R2)
            refine put_ok R2.hk q3 (r2.bo.lv R2.hk) (show Rp Z F2 v vv from Rp.mono s2.f r1) hg fun ob new => ?_
            obtain ⟨a, b, c⟩ := own_upd R2 ho hd g1 q2 q3 new
            exact q F2 _ σ (go2.trans (.ofE a b c))
          · exact q.elim
        · exact q.elim
    · exact q.elim
end Vm
/-! Vm11: built-in functions, isinstance, attributes stored. -/
namespace Vm
open PySem L2
variable {Z : Par} {E : St → XK} {os : Os} {X : Cx} {io : List Nat} {rf : Fl}

/-! ### len -/
def gLen (ds : List D) : Option D := match ds with
  | [.lst xs] => some (.int xs.length)
  | [.tup xs] => some (.int xs.length)
  | [.dct xs] => some (.int xs.length)
  | [.scr xs] => some (.int xs.length)
  | [.str z] => if z.length ≤ sizeLine then some (.int z.length) else none
  | _ => none
def rLenD : List V → Hp → VK → Prop := fun xs H Q => ∃ a kvs, xs = [.ref a] ∧ Rd H a (.dK kvs) ∧ Q (.int kvs.length) H
theorem call_lenRd : CallR X (.builtin "len") rLenD := by
  intro pins s σ H xs us Q I r h
  obtain ⟨a, kvs, rfl, hd, q⟩ := h
  obtain ⟨u, rfl, rx⟩ := vals1 r
  cases rx
  exact d_len I hd fun t s' I' => ⟨.int kvs.length, H, I', ⟨t, rfl⟩, q⟩
def rVLen (K : PySem.W.Frag) : List V → Hp → VK → Prop := fun xs H Q => (∃ p ys, xs = [.ref p] ∧ (SqL K H p ys ∨ SqT K H p ys) ∧ Q (.int ys.length) H) ∨ ((∃ z, xs = [.str z] ∧ z.length ≤ sizeLine ∧ Q (.int z.length) H) ∨ rLenD xs H Q)
theorem p_len : CallR X (.builtin "len") (rVLen X.K) := call_len_seq.or (call_len_str.or call_lenRd)
theorem oN_len : OpN Z (rVLen Z.K) .fz gLen := fun F H ds vs Q e k bL hg q => by
  match ds, hg with
  | [.lst xs], hg =>
    obtain ⟨v, rfl, b⟩ := bL.one
    obtain ⟨a, ws, rfl, h2, h3⟩ := Bo.lst k b
    cases hg
    exact .inl ⟨a, ws, rfl, .inl (SqL.of h2), by rw [← h3.length]; exact q_fz k (.int _) q⟩
  | [.tup xs], hg =>
    obtain ⟨v, rfl, b⟩ := bL.one
    obtain ⟨a, ws, rfl, h2, h3⟩ := Bo.tup k b
    cases hg
    exact .inl ⟨a, ws, rfl, .inr (SqT.of h2), by rw [← h3.length]; exact q_fz k (.int _) q⟩
  | [.scr xs], hg =>
    obtain ⟨v, rfl, b⟩ := bL.one
    obtain ⟨a, rfl, h2⟩ := Bo.scr k b
    cases hg
    exact .inl ⟨a, _, rfl, .inl h2, by rw [List.length_map]; exact q_fz k (.int _) q⟩
  | [.dct xs], hg =>
    obtain ⟨v, rfl, b⟩ := bL.one
    obtain ⟨a, ws, rfl, h2, h3⟩ := Bo.dct k b
    cases hg
    exact .inr (.inr ⟨a, ws, rfl, h2, by rw [← h3.length]; exact q_fz k (.int _) q⟩)
  | [.str z], hg =>
    obtain ⟨v, rfl, b⟩ := bL.one
    simp only [gLen] at hg
    by_cases c : z.length ≤ sizeLine
    · rw [if_pos c] at hg; cases hg
      exact .inr (.inl ⟨z, by rw [Bo.str b], c, q_fz k (.int _) q⟩)
    · rw [if_neg c] at hg; cases hg

/-! ### list(x), tuple(x), dict(x) -/
def kvD : Key → D
  | .inl i => .int i
  | .inr x => .str x
theorem rp_kv {F : Hp} (k : Key) : Rp Z F (kvD k) (kV k) := by
  cases k with
  | inl i => exact .int i
  | inr x => exact .str x
theorem RpK.keysD {F : Hp} {ds : List (Key × D)} {kvs : List (Key × V)} (r : RpK Z F ds kvs) : RpL Z F (ds.map fun p => kvD p.1) (kvs.map fun kv => kV kv.1) := by
  induction ds generalizing kvs with
  | nil => cases r; exact .nil
  | cons p ds ih => cases r with | cons r rr => exact .cons (rp_kv _) (ih rr)
def gList (ds : List D) : Option D := match ds with
  | [.lst xs] => some (.lst xs)
  | [.tup xs] => some (.lst xs)
  | [.scr xs] => some (.lst (xs.map .int))
  | [.dct xs] => some (.lst (xs.map fun p => kvD p.1))
  | _ => none
def rVList (K : PySem.W.Frag) : List V → Hp → VK → Prop := fun xs H Q => (∃ p ys, xs = [.ref p] ∧ (SqL K H p ys ∨ SqT K H p ys) ∧ ∀ l, H l = none → Q (.ref l) (upd H l (.lst ys))) ∨
  ∃ (a : Addr) (kvs : List (Key × V)), xs = [.ref a] ∧ Rd H a (.dK kvs) ∧ ∀ p, H p = none → Q (.ref p) (upd H p (.lst (kvs.map fun kv => kV kv.1)))
theorem p_list (hc : X.calm = true) : CallR X (.type "list") (rVList X.K) := call_list_of.or (call_listD hc)
theorem oN_list {fl : Fl} (hf : fl = .fz ∨ fl = .nw) : OpN Z (rVList Z.K) fl gList := fun F H ds vs Q e k bL hg q => by
  match ds, hg with
  | [.lst xs], hg =>
    obtain ⟨v, rfl, b⟩ := bL.one
    obtain ⟨a, ws, rfl, h2, h3⟩ := Bo.lst k b
    cases hg
    exact .inl ⟨a, ws, rfl, .inl (SqL.of h2), q_lst hf k h3 q⟩
  | [.tup xs], hg =>
    obtain ⟨v, rfl, b⟩ := bL.one
    obtain ⟨a, ws, rfl, h2, h3⟩ := Bo.tup k b
    cases hg
    exact .inl ⟨a, ws, rfl, .inr (SqT.of h2), q_lst hf k h3 q⟩
  | [.scr xs], hg =>
    obtain ⟨v, rfl, b⟩ := bL.one
    obtain ⟨a, rfl, h2⟩ := Bo.scr k b
    cases hg
    exact .inl ⟨a, _, rfl, .inl h2, q_lst hf k (rpInts xs) q⟩
  | [.dct xs], hg =>
    obtain ⟨v, rfl, b⟩ := bL.one
    obtain ⟨a, ws, rfl, h2, h3⟩ := Bo.dct k b
    cases hg
    exact .inr ⟨a, ws, rfl, h2, q_lst hf k h3.keysD q⟩
def gTuple (ds : List D) : Option D := match ds with
  | [.lst xs] => some (.tup xs)
  | [.tup xs] => some (.tup xs)
  | [.scr xs] => some (.tup (xs.map .int))
  | _ => none
def rVTuple (K : PySem.W.Frag) : List V → Hp → VK → Prop := fun xs H Q => ∃ p ys, xs = [.ref p] ∧ ((SqL K H p ys ∧ ∀ l, H l = none → Q (.ref l) (upd H l (.tup ys))) ∨ (SqT K H p ys ∧ Q (.ref p) H))
theorem p_tuple : CallR X (.type "tuple") (rVTuple X.K) := call_tuple_of
theorem oN_tuple : OpN Z (rVTuple Z.K) .fz gTuple := fun F H ds vs Q e k bL hg q => by
  match ds, hg with
  | [.lst xs], hg =>
    obtain ⟨v, rfl, b⟩ := bL.one
    obtain ⟨a, ws, rfl, h2, h3⟩ := Bo.lst k b
    cases hg
    exact ⟨a, ws, rfl, .inl ⟨SqL.of h2, q_tup k h3 q⟩⟩
  | [.tup xs], hg =>
    obtain ⟨v, rfl, b⟩ := bL.one
    have b2 := b.tupF
    obtain ⟨a, ws, rfl, h2, h3⟩ := Bo.tup k b
    cases hg
    exact ⟨a, ws, rfl, .inr ⟨SqT.of h2, q_fz k b2 q⟩⟩
  | [.scr xs], hg =>
    obtain ⟨v, rfl, b⟩ := bL.one
    obtain ⟨a, rfl, h2⟩ := Bo.scr k b
    cases hg
    exact ⟨a, _, rfl, .inl ⟨h2, q_tup k (rpInts xs) q⟩⟩
/-- the pairs of a list of pairs -/
def pairsD : List D → Option (List (Key × D))
  | [] => some []
  | .tup [k, v] :: r => match keyD k, pairsD r with
    | some k, some l => some ((k, v) :: l)
    | _, _ => none
  | _ => none
def mergeD (kvs more : List (Key × D)) : List (Key × D) := more.foldl (fun acc kv => putD acc kv.1 kv.2) kvs
theorem RpK.merge {F : Hp} : ∀ {more kvs : List (Key × D)} {ms vs : List (Key × V)}, RpK Z F kvs vs → RpK Z F more ms → RpK Z F (mergeD kvs more) (mergeK vs ms)
  | [], _, _, _, r, .nil => r
  | (k, d) :: more, kvs, _, vs, r, .cons (v := v) (vs := ms) q qq => (RpK.merge (r.put k q) qq : RpK Z F (mergeD (putD kvs k d) more) (mergeK (putK vs k v) ms))
theorem pairs_ok {F H : Hp} {K : PySem.W.Frag} (k : Hk Z F H) : ∀ {xs : List D} {l : List (Key × D)} {vs : List V}, pairsD xs = some l → RpL Z F xs vs → ∃ (ps : List Addr) (kvs : List (Key × V)), vs = ps.map V.ref ∧ Paired (fun p kv => SqT K H p [kV kv.1, kv.2]) ps kvs ∧ RpK Z F l kvs
  | [], l, _, h, .nil => by cases h; exact ⟨[], [], rfl, .nil, .nil⟩
  | .tup [a, b] :: r, l, _, h, .cons q qq => by
    simp only [pairsD] at h
    cases hk : keyD a with
    | none => rw [hk] at h; cases h
    | some k' =>
      rw [hk] at h
      cases hr : pairsD r with
      | none => rw [hr] at h; cases h
      | some l' =>
        rw [hr] at h; cases h
        obtain ⟨ps, kvs, e1, e2, e3⟩ := pairs_ok (K := K) k hr qq
        cases q with
        | tup hf r2 =>
          cases r2 with
          | cons ra r2 =>
            cases r2 with
            | cons rb r2 =>
              cases r2
              refine ⟨_ :: ps, (k', _) :: kvs, by rw [e1]; rfl, .cons (SqT.of ?_) e2, .cons rb e3⟩
              rw [k.tup hf, keyD_kV hk (ra.lv k)]
  | .non :: r, l, _, h, _ => by cases h
  | .bl _ :: r, l, _, h, _ => by cases h
  | .int _ :: r, l, _, h, _ => by cases h
  | .str _ :: r, l, _, h, _ => by cases h
  | .lst _ :: r, l, _, h, _ => by cases h
  | .dct _ :: r, l, _, h, _ => by cases h
  | .obj _ _ :: r, l, _, h, _ => by cases h
  | .scr _ :: r, l, _, h, _ => by cases h
  | .tup [] :: r, l, _, h, _ => by cases h
  | .tup [_] :: r, l, _, h, _ => by cases h
  | .tup (_ :: _ :: _ :: _) :: r, l, _, h, _ => by cases h
def gDict (ds : List D) : Option D := match ds with
  | [.dct xs] => some (.dct xs)
  | [.lst xs] => (pairsD xs).map fun l => .dct (mergeD [] l)
  | _ => none
def rVDict (K : PySem.W.Frag) : List V → Hp → VK → Prop := fun xs H Q => (∃ (a : Addr) (kvs : List (Key × V)), xs = [.ref a] ∧ Rd H a (.dK kvs) ∧ ∀ p, H p = none → Q (.ref p) (upd H p (.dK kvs))) ∨
  ∃ (a : Addr) (ps : List Addr) (kvs : List (Key × V)), xs = [.ref a] ∧ SqL K H a (ps.map V.ref) ∧ Paired (fun p kv => SqT K H p [kV kv.1, kv.2]) ps kvs ∧ ∀ p, H p = none → Q (.ref p) (upd H p (.dK (mergeK [] kvs)))
theorem p_dict (hc : X.calm = true) : CallR X (.type "dict") (rVDict X.K) := call_dictD.or (call_dictP hc)
theorem oN_dict {fl : Fl} (hf : fl = .fz ∨ fl = .nw) : OpN Z (rVDict Z.K) fl gDict := fun F H ds vs Q e k bL hg q => by
  match ds, hg with
  | [.dct xs], hg =>
    obtain ⟨v, rfl, b⟩ := bL.one
    obtain ⟨a, ws, rfl, h2, h3⟩ := Bo.dct k b
    cases hg
    exact .inl ⟨a, ws, rfl, h2, q_dct hf k h3 q⟩
  | [.lst xs], hg =>
    obtain ⟨v, rfl, b⟩ := bL.one
    obtain ⟨a, ws, rfl, h2, h3⟩ := Bo.lst k b
    simp only [gDict] at hg
    cases hp : pairsD xs with
    | none => rw [hp] at hg; cases hg
    | some l =>
      rw [hp] at hg; cases hg
      obtain ⟨ps, kvs, e1, e2, e3⟩ := pairs_ok (K := Z.K) k hp h3
      exact .inr ⟨a, ps, kvs, rfl, by rw [← e1]; exact SqL.of h2, e2, q_dct hf k (RpK.merge .nil e3) q⟩

/-! ### sorted of a dict -/
def keysS : List (Key × D) → Option (List Str)
  | [] => some []
  | (.inr x, _) :: r => (keysS r).map (x :: ·)
  | _ => none
def keysI : List (Key × D) → Option (List Int)
  | [] => some []
  | (.inl x, _) :: r => (keysI r).map (x :: ·)
  | _ => none
theorem keysS_eq : ∀ {ds : List (Key × D)} {ks : List Str}, keysS ds = some ks → ds.map (·.1) = ks.map Sum.inr
  | [], ks, h => by cases h; rfl
  | (.inr x, _) :: r, ks, h => by
    simp only [keysS] at h
    cases e : keysS r with
    | none => rw [e] at h; cases h
    | some l => rw [e] at h; cases h; simp [keysS_eq e]
  | (.inl x, _) :: r, ks, h => by cases h
theorem keysI_eq : ∀ {ds : List (Key × D)} {ks : List Int}, keysI ds = some ks → ds.map (·.1) = ks.map Sum.inl
  | [], ks, h => by cases h; rfl
  | (.inl x, _) :: r, ks, h => by
    simp only [keysI] at h
    cases e : keysI r with
    | none => rw [e] at h; cases h
    | some l => rw [e] at h; cases h; simp [keysI_eq e]
  | (.inr x, _) :: r, ks, h => by cases h
def gSortDS (ds : List D) : Option D := match ds with
  | [.dct xs] => match keysS xs with
    | some ks => if ks.length < 64 then some (.lst ((sortBy ltS ks).map .str)) else none
    | none => none
  | _ => none
def gSortDI (ds : List D) : Option D := match ds with
  | [.dct xs] => match keysI xs with
    | some ks => if ks.length < 64 then some (.lst ((sortBy ltI ks).map .int)) else none
    | none => none
  | _ => none
def rSortDS : List V → Hp → VK → Prop := fun xs H Q => ∃ (a : Addr) (kvs : List (Key × V)) (ks : List Str), xs = [.ref a] ∧ Rd H a (.dK kvs) ∧ kvs.map (·.1) = ks.map Sum.inr ∧ ks.length < 64 ∧
    ∀ ys p, ys.Perm ks → PyProof.Rows.sortedS ys = true → H p = none → Q (.ref p) (upd H p (.lst (ys.map V.str)))
def rSortDI : List V → Hp → VK → Prop := fun xs H Q => ∃ (a : Addr) (kvs : List (Key × V)) (ks : List Int), xs = [.ref a] ∧ Rd H a (.dK kvs) ∧ kvs.map (·.1) = ks.map Sum.inl ∧ ks.length < 64 ∧
    ∀ (ys : List Int) (p : Addr), ys.Perm ks → ys.Pairwise (· ≤ ·) → H p = none → Q (.ref p) (upd H p (.lst (ys.map V.int)))
theorem rising_pw : ∀ {l : List Str} {x : Str}, PyProof.Rows.risingS x l = true → (x :: l).Pairwise fun a b => ltS b a = false
  | [], x, _ => List.pairwise_singleton _ _
  | y :: r, x, h => by
    simp only [PyProof.Rows.risingS, Bool.and_eq_true, Bool.not_eq_true'] at h
    have h0 : ltS y x = false := by
      have := h.1
      rw [PyProof.Rows.ltCps_eq] at this
      exact this
    have hp := rising_pw h.2
    refine List.pairwise_cons.mpr ⟨fun z hz => ?_, hp⟩
    rcases List.mem_cons.mp hz with e | e
    · subst e; exact h0
    · exact ord_str.tr _ _ _ h0 ((List.pairwise_cons.mp hp).1 z e)
theorem sortedS_pw {l : List Str} (h : PyProof.Rows.sortedS l = true) : l.Pairwise fun a b => ltS b a = false := by
  cases l with
  | nil => exact .nil
  | cons x r => exact rising_pw h
theorem oN_sortDS {fl : Fl} (hf : fl = .fz ∨ fl = .nw) : OpN Z rSortDS fl gSortDS := fun F H ds vs Q e k bL hg q => by
  match ds, hg with
  | [.dct xs], hg =>
    obtain ⟨v, rfl, b⟩ := bL.one
    obtain ⟨a, ws, rfl, h2, h3⟩ := Bo.dct k b
    simp only [gSortDS] at hg
    cases hk : keysS xs with
    | none => rw [hk] at hg; cases hg
    | some ks =>
      rw [hk] at hg
      dsimp only at hg
      by_cases c : ks.length < 64
      · rw [if_pos c] at hg; cases hg
        refine ⟨a, ws, ks, rfl, h2, by rw [← h3.keys]; exact keysS_eq hk, c, fun ys p hp hs hn => ?_⟩
        rw [sort_uniq ord_str (sortedS_pw hs) hp]
        exact q_lst hf k (rpStrs _) q p hn
      · rw [if_neg c] at hg; cases hg
theorem oN_sortDI {fl : Fl} (hf : fl = .fz ∨ fl = .nw) : OpN Z rSortDI fl gSortDI := fun F H ds vs Q e k bL hg q => by
  match ds, hg with
  | [.dct xs], hg =>
    obtain ⟨v, rfl, b⟩ := bL.one
    obtain ⟨a, ws, rfl, h2, h3⟩ := Bo.dct k b
    simp only [gSortDI] at hg
    cases hk : keysI xs with
    | none => rw [hk] at hg; cases hg
    | some ks =>
      rw [hk] at hg
      dsimp only at hg
      by_cases c : ks.length < 64
      · rw [if_pos c] at hg; cases hg
        refine ⟨a, ws, ks, rfl, h2, by rw [← h3.keys]; exact keysI_eq hk, c, fun ys p hp hs hn => ?_⟩
        have hs' : ys.Pairwise fun a b => ltI b a = false := hs.imp fun {x y} h => by unfold ltI; exact decide_eq_false (by omega)
        rw [sort_uniq ord_int hs' hp]
        exact q_lst hf k (rpInts _) q p hn
      · rw [if_neg c] at hg; cases hg
def gSort (ds : List D) : Option D := gOr (gSorted ds) (gOr (gSortDS ds) (gSortDI ds))
def rVSorted (K : PySem.W.Frag) : List V → Hp → VK → Prop := fun xs H Q => rVSort K xs H Q ∨ (rSortDS xs H Q ∨ rSortDI xs H Q)
theorem p_sorted (hc : X.calm = true) : CallR X (.builtin "sorted") (rVSorted X.K) := p_sort.or ((call_sortedD hc).or (call_sortedDI hc))
theorem oN_sort {fl : Fl} (hf : fl = .fz ∨ fl = .nw) : OpN Z (rVSorted Z.K) fl gSort := oN_or (oN_sorted hf) (oN_or (oN_sortDS hf) (oN_sortDI hf))

/-! ### ints, truths -/
def gInt (ds : List D) : Option D := match ds with
  | [.int i] => some (.int i)
  | [.bl b] => some (.int (if b then 1 else 0))
  | _ => none
def rVInt : List V → Hp → VK → Prop := fun xs H Q => (∃ i, xs = [.int i] ∧ Q (.int i) H) ∨ ∃ k, xs = [.bl k] ∧ Q (.int (if k then 1 else 0)) H
theorem p_int : CallR X (.type "int") rVInt := call_int1
theorem oN_int : OpN Z rVInt .fz gInt := fun F H ds vs Q e k bL hg q => by
  match ds, hg with
  | [.int i], hg =>
    obtain ⟨v, rfl, b⟩ := bL.one
    cases hg
    exact .inl ⟨i, by rw [Bo.int b], q_fz k (.int _) q⟩
  | [.bl i], hg =>
    obtain ⟨v, rfl, b⟩ := bL.one
    cases hg
    exact .inr ⟨i, by rw [Bo.bl b], q_fz k (.int _) q⟩
def gAbs (ds : List D) : Option D := match ds with
  | [.int i] => some (.int (if i < 0 then -i else i))
  | _ => none
def rVAbs : List V → Hp → VK → Prop := fun xs H Q => ∃ i, xs = [.int i] ∧ Q (.int (if i < 0 then -i else i)) H
theorem oN_abs : OpN Z rVAbs .fz gAbs := fun F H ds vs Q e k bL hg q => by
  match ds, hg with
  | [.int i], hg =>
    obtain ⟨v, rfl, b⟩ := bL.one
    cases hg
    exact ⟨i, by rw [Bo.int b], q_fz k (.int _) q⟩
def gMin2 (ds : List D) : Option D := match ds with
  | [.int i, .int j] => some (.int (if j < i then j else i))
  | _ => none
def gMax2 (ds : List D) : Option D := match ds with
  | [.int i, .int j] => some (.int (if j > i then j else i))
  | _ => none
def rVMin2 : List V → Hp → VK → Prop := fun xs H Q => ∃ i j, xs = [.int i, .int j] ∧ Q (.int (if j < i then j else i)) H
def rVMax2 : List V → Hp → VK → Prop := fun xs H Q => ∃ i j, xs = [.int i, .int j] ∧ Q (.int (if j > i then j else i)) H
theorem oN_min2 : OpN Z rVMin2 .fz gMin2 := fun F H ds vs Q e k bL hg q => by
  match ds, hg with
  | [.int i, .int j], hg =>
    obtain ⟨v, w, rfl, b1, b2⟩ := bL.two
    cases hg
    exact ⟨i, j, by rw [Bo.int b1, Bo.int b2], q_fz k (.int _) q⟩
theorem oN_max2 : OpN Z rVMax2 .fz gMax2 := fun F H ds vs Q e k bL hg q => by
  match ds, hg with
  | [.int i, .int j], hg =>
    obtain ⟨v, w, rfl, b1, b2⟩ := bL.two
    cases hg
    exact ⟨i, j, by rw [Bo.int b1, Bo.int b2], q_fz k (.int _) q⟩
/-- sum, all, any of a list -/
def gSum (ds : List D) : Option D := match ds with
  | [.lst xs] => (intsOf xs).map fun ns => .int ns.sum
  | _ => none
theorem oN_sum : OpN Z (rSum Z.K) .fz gSum := fun F H ds vs Q e k bL hg q => by
  match ds, hg with
  | [.lst xs], hg =>
    obtain ⟨v, rfl, b⟩ := bL.one
    obtain ⟨a, ws, rfl, h2, h3⟩ := Bo.lst k b
    simp only [gSum] at hg
    cases hn : intsOf xs with
    | none => rw [hn] at hg; cases hg
    | some ns =>
      rw [hn] at hg; cases hg
      rw [intsOf_eq hn] at h3
      rw [rp_ints h3] at h2
      exact ⟨a, ns, rfl, SqL.of h2, q_fz k (.int _) q⟩
def blsOf : List D → Option (List Bool)
  | [] => some []
  | .bl i :: r => (blsOf r).map (i :: ·)
  | _ => none
theorem blsOf_map : ∀ ns : List Bool, blsOf (ns.map .bl) = some ns
  | [] => rfl
  | n :: ns => by simp [blsOf, blsOf_map ns]
theorem blsOf_eq : ∀ {ds : List D} {ns : List Bool}, blsOf ds = some ns → ds = ns.map .bl
  | [], ns, h => by cases h; rfl
  | .bl i :: r, ns, h => by
    simp only [blsOf] at h
    cases e : blsOf r with
    | none => rw [e] at h; cases h
    | some m => rw [e] at h; cases h; rw [blsOf_eq e]; rfl
  | .non :: r, ns, h => by cases h
  | .int _ :: r, ns, h => by cases h
  | .str _ :: r, ns, h => by cases h
  | .lst _ :: r, ns, h => by cases h
  | .tup _ :: r, ns, h => by cases h
  | .dct _ :: r, ns, h => by cases h
  | .obj _ _ :: r, ns, h => by cases h
  | .scr _ :: r, ns, h => by cases h
theorem rp_bls {F : Hp} : ∀ {ns : List Bool} {vs : List V}, RpL Z F (ns.map .bl) vs → vs = ns.map V.bl
  | [], _, .nil => rfl
  | n :: ns, _, .cons (.bl _) r => by rw [rp_bls r]; rfl
def gAll (ds : List D) : Option D := match ds with
  | [.lst xs] => (blsOf xs).map fun ns => .bl (ns.all id)
  | _ => none
def gAny (ds : List D) : Option D := match ds with
  | [.lst xs] => (blsOf xs).map fun ns => .bl (ns.any id)
  | _ => none
theorem oN_all : OpN Z (rAll Z.K) .fz gAll := fun F H ds vs Q e k bL hg q => by
  match ds, hg with
  | [.lst xs], hg =>
    obtain ⟨v, rfl, b⟩ := bL.one
    obtain ⟨a, ws, rfl, h2, h3⟩ := Bo.lst k b
    simp only [gAll] at hg
    cases hn : blsOf xs with
    | none => rw [hn] at hg; cases hg
    | some ns =>
      rw [hn] at hg; cases hg
      rw [blsOf_eq hn] at h3
      rw [rp_bls h3] at h2
      exact ⟨a, ns, rfl, SqL.of h2, q_fz k (.bl _) q⟩
theorem oN_any : OpN Z (rAny Z.K) .fz gAny := fun F H ds vs Q e k bL hg q => by
  match ds, hg with
  | [.lst xs], hg =>
    obtain ⟨v, rfl, b⟩ := bL.one
    obtain ⟨a, ws, rfl, h2, h3⟩ := Bo.lst k b
    simp only [gAny] at hg
    cases hn : blsOf xs with
    | none => rw [hn] at hg; cases hg
    | some ns =>
      rw [hn] at hg; cases hg
      rw [blsOf_eq hn] at h3
      rw [rp_bls h3] at h2
      exact ⟨a, ns, rfl, SqL.of h2, q_fz k (.bl _) q⟩
end Vm
/-! Vm12: isinstance, attributes stored, texts joined. -/
namespace Vm
open PySem L2
variable {Z : Par} {E : St → XK} {os : Os} {X : Cx} {io : List Nat} {rf : Fl}

/-! ### isinstance -/
def tyN : D → String
  | .non => "NoneType"
  | .bl _ => "bool"
  | .int _ => "int"
  | .str _ => "str"
  | .lst _ => "list"
  | .tup _ => "tuple"
  | .dct _ => "dict"
  | .obj _ _ => "object"
  | .scr _ => "list"
def tyNames : List String := ["NoneType", "bool", "int", "str", "list", "tuple", "dict"]
/-- what isinstance asks of an own class -/
structure InsF (K : PySem.W.Frag) (C : Addr) : Prop where
  cl : Cls K C
  ha : PySem.W.findIn K (.ref C) "__class__" = some (some (.builtin "object.__class__"))
  hn : PySem.W.specialIn K (.builtin "object.__class__") "__get__" = some (some (.builtin "getset_descriptor.__get__"))
  htk : PySem.W.takesIn K (.builtin "object.__class__") = some true
  hm : PySem.W.mroIn K C (.type "object") = some true
def gIsi (fB : String → Bool) (fO : Str → Option Bool) (d : D) : Option D := match d with
  | .obj c _ => (fO c).map .bl
  | d => some (.bl (fB (tyN d)))
def rVIsi (K : PySem.W.Frag) (c : V) : V → Hp → VK → Prop := fun x H Q => rIsi K [x, c] H Q
theorem o1_isi {K : PySem.W.Frag} {c : V} {u : Value} {fB : String → Bool} {fO : Str → Option Bool} (hK : K = Z.K) (hc : ClsV c u) (hB : ∀ t ∈ tyNames, PySem.W.kitOne K (.type t) u = some (fB t)) (hO : ∀ n b, fO n = some b → InsF K (Z.z n) ∧ PySem.W.kitOne K (.ref (Z.z n)) u = some b) :
    Op1 Z (rVIsi K c) .fz (gIsi fB fO) := fun F H d v Q e k bo hg q => by
  have mk : ∀ (t : Value) (b : Bool), TyX K H v t → PySem.W.kitOne K t u = some b → e = .bl b → rVIsi K c v H Q := fun t b ty hk he => by
    subst he
    exact ⟨v, c, t, u, b, rfl, hc, ty, hk, q_fz k (.bl _) q⟩
  cases d with
  | non => cases hg; cases bo.non; exact mk _ _ (.base .non) (hB _ (by decide)) rfl
  | bl i => cases hg; cases bo.bl; exact mk _ _ (.base (.bl i)) (hB _ (by decide)) rfl
  | int i => cases hg; cases bo.int; exact mk _ _ (.base (.int i)) (hB _ (by decide)) rfl
  | str i => cases hg; cases bo.str; exact mk _ _ (.base (.str i)) (hB _ (by decide)) rfl
  | lst i => cases hg; obtain ⟨a, vs, e1, h, _⟩ := bo.lst k; subst e1; exact mk _ _ (.base (.lst h)) (hB _ (by decide)) rfl
  | tup i => cases hg; obtain ⟨a, vs, e1, h, _⟩ := bo.tup k; subst e1; exact mk _ _ (.base (.tup h)) (hB _ (by decide)) rfl
  | dct i =>
    cases hg
    obtain ⟨a, vs, e1, h, _⟩ := bo.dct k
    subst e1
    rcases h with h | ⟨o, h⟩
    · exact mk _ _ (.base (.dK h)) (hB _ (by decide)) rfl
    · exact mk _ _ (.fDict h) (hB _ (by decide)) rfl
  | obj n i =>
    obtain ⟨a, dx, vs, e1, h, _⟩ := bo.obj k
    subst e1
    simp only [gIsi] at hg
    cases hf : fO n with
    | none => rw [hf] at hg; cases hg
    | some b =>
      rw [hf] at hg; cases hg
      obtain ⟨i1, i2⟩ := hO n b hf
      exact mk _ b (.base (.ins h i1.cl i1.ha i1.hn i1.htk i1.hm)) i2 rfl
  | scr i =>
    cases hg
    obtain ⟨a, e1, h⟩ := bo.scr k
    subst e1
    rcases h with (h | ⟨o, h⟩) | ⟨o, its, n, hk, hc, _⟩
    · exact mk _ _ (.base (.lst h)) (hB _ (by decide)) rfl
    · exact mk _ _ (.base (.frz h)) (hB _ (by decide)) rfl
    · exact mk _ _ (.kList (by rw [hK]; exact hk) hc) (hB _ (by decide)) rfl
theorem em_isi {e ce : Expr} {x : Str} {p pos : Pos} {fl : Fl} {pu : Bool} {me : ME} {c : V} {u : Value} {fB : String → Bool} {fO : Str → Option Bool} (hK : X.K = Z.K) (hc : ClsV c u) (hB : ∀ t ∈ tyNames, PySem.W.kitOne X.K (.type t) u = some (fB t)) (hO : ∀ n b, fO n = some b → InsF X.K (Z.z n) ∧ PySem.W.kitOne X.K (.ref (Z.z n)) u = some b)
    (he : PEm X Z E os fl pu e me) (hce : PE X ce (tC c)) (hm : X.mg "isinstance" = none) (hg : Gl X "isinstance" := by rfl) (hv : bootBuiltins "isinstance" = some (.builtin "isinstance") := by decide +kernel)
    (h1 : starEach (e :: [ce]) X.env = (false, eval e X.env) :: starEach [ce] X.env := by rfl) (h2 : starEach (ce :: []) X.env = (false, eval ce X.env) :: starEach [] X.env := by rfl) (hpl : (backTo pos (starEach [ce] X.env)).any (·.1) = false := by rfl) :
    PEm X Z E os .fz pu (.Call (.Name "isinstance" p) [e, ce] [] pos) (mOp1 (gIsi fB fO) me) := by
  obtain ⟨_, a1, a2⟩ := he
  exact ⟨_, pe_callB call_isi hg hm hv (pa_cons a1 (pa_cons hce pa_nil h2) h1) (by decide) (by decide) h1 hpl, sim_op1 (r := rVIsi X.K c) (o1_isi hK hc hB hO) a2⟩
/-- of a built-in type -/
def subT (T t : String) : Bool := T == t || (T == "int" && t == "bool") || T == "object"
theorem kitB_all (T : String) (h : tyNames.all (fun t => kitB t T == some (subT T t)) = true) {K : PySem.W.Frag} : ∀ t ∈ tyNames, PySem.W.kitOne K (.type t) (.type T) = some (subT T t) := fun t ht => kit_ty (by
  have := List.all_eq_true.mp h t ht
  simpa using this)
theorem k_str : tyNames.all (fun t => kitB t "str" == some (subT "str" t)) = true := by decide +kernel
theorem k_int : tyNames.all (fun t => kitB t "int" == some (subT "int" t)) = true := by decide +kernel
theorem k_bool : tyNames.all (fun t => kitB t "bool" == some (subT "bool" t)) = true := by decide +kernel
theorem k_list : tyNames.all (fun t => kitB t "list" == some (subT "list" t)) = true := by decide +kernel
theorem k_tuple : tyNames.all (fun t => kitB t "tuple" == some (subT "tuple" t)) = true := by decide +kernel
theorem k_dict : tyNames.all (fun t => kitB t "dict" == some (subT "dict" t)) = true := by decide +kernel
/-- isinstance(e, T), T built-in, e no object of one's own class -/
theorem em_isiB {e : Expr} {p p2 pos : Pos} {fl : Fl} {pu : Bool} {me : ME} {x : Str} (T : String) (hT : tyNames.all (fun t => kitB t T == some (subT T t)) = true) (hK : X.K = Z.K) (he : PEm X Z E os fl pu e me)
    (hgT : Gl X x) (hmT : X.mg x = none) (hvT : bootBuiltins x = some (.type T)) (hm : X.mg "isinstance" = none) (hg : Gl X "isinstance" := by rfl) (hv : bootBuiltins "isinstance" = some (.builtin "isinstance") := by decide +kernel) (hn : x ≠ "__name__" := by decide) (hd : (x == ("__debug__" : Str)) = false := by decide)
    (h1 : starEach (e :: [.Name x p2]) X.env = (false, eval e X.env) :: starEach [.Name x p2] X.env := by rfl) (h2 : starEach (.Name x p2 :: []) X.env = (false, eval (.Name x p2) X.env) :: starEach [] X.env := by rfl) (hpl : (backTo pos (starEach [.Name x p2] X.env)).any (·.1) = false := by rfl) :
    PEm X Z E os .fz pu (.Call (.Name "isinstance" p) [e, .Name x p2] [] pos) (mOp1 (gIsi (subT T) fun _ => none) me) :=
  em_isi (c := .ty T) (x := x) hK (.ty T) (kitB_all T hT) (fun n b h => by cases h) he (pe_bltn hgT hmT hvT rfl hn hd) hm hg hv h1 h2 hpl

/-! ### o.f = v of one's own object -/
def putS (f : Str) (v : D) : List (Str × D) → List (Str × D)
  | [] => [(f, v)]
  | (g, x) :: r => if g = f then (g, v) :: r else (g, x) :: putS f v r
theorem RpS.put {F : Hp} {f : Str} {d : D} {v : V} (rv : Rp Z F d v) : ∀ {ds : List (Str × D)} {fs : List (Str × V)}, RpS Z F ds fs → RpS Z F (putS f d ds) (putF f v fs)
  | [], _, .nil => .cons rv .nil
  | (g, x) :: ds, _, .cons r rr => by
    unfold putS putF
    by_cases e : g = f
    · rw [if_pos e, if_pos e]; exact .cons rv rr
    · rw [if_neg e, if_neg e]; exact .cons r (RpS.put rv rr)
theorem RpS.length {F : Hp} {ds : List (Str × D)} {fs : List (Str × V)} (h : RpS Z F ds fs) : ds.length = fs.length := by
  induction ds generalizing fs with
  | nil => cases h; rfl
  | cons d ds ih => cases h with | cons h r => rw [List.length_cons, List.length_cons, ih r]
def mFldS (c f : Str) (i : Nat) (me : ME) : MS := fun ρ => match me ρ with
  | .ok v ρ1 => match ρ1[i]? with
    | some (some (.obj c' fs)) => if c' = c ∧ fs.length < 1000 then .nx (ρ1.set i (some (.obj c (putS f v fs)))) else .stuck
    | _ => .stuck
  | .exc c fs ρ' => .exc c fs ρ'
  | .stuck => .stuck
theorem sm_fld {x f : Str} {p p2 pos : Pos} {e : Expr} {me : ME} {pu : Bool} (c : Str) (i : Nat) (cl : Cls X.K (Z.z c)) (hn : NoAttr X.K (Z.z c) f) (he : PEm X Z E os .fz pu e me)
    (ho : os.lookup i = some true := by rfl) (hN : X.N[i]? = some x := by rfl) (hv : Vis X.env.scope x := by first | exact Or.inl rfl | exact Or.inr (Or.inl rfl) | exact Or.inr (Or.inr rfl)) (hd : (x == ("__debug__" : Str)) = false := by decide)
    (hcd : (x == ("__classdict__" : Str)) = false := by decide) (hs : swapsWith e (some (.Attribute (.Name x p) f p2)) pos.line X.env = pure false := by rfl) :
    PSm X Z E os io rf (.Assign [.Attribute (.Name x p) f p2] e pos) (mFldS c f i me) := by
  obtain ⟨_, a1, a2⟩ := he
  refine ⟨_, ps_fld (pe_var hN hv hd hcd) a1 hs, ?_⟩
  intro F H σ ρ K R q
  refine a2 F H σ ρ _ R ?_
  unfold mFldS at q
  revert q
  cases me ρ with
  | stuck => exact fun z => z
  | exc c fs ρ' => exact fun q F' H' s p R' => q F' H' σ (.ofE s p R')
  | ok v ρ1 =>
    intro q F1 H1 vv s1 _ pn1 R1 r1
    dsimp only at q
    split at q
    · rename_i c' fs hd0
      by_cases hc : c' = c ∧ fs.length < 1000
      · rw [if_pos hc] at q
        obtain ⟨e1, hl⟩ := hc
        subst e1
        obtain ⟨l, g1, g2, g3⟩ := R1.ow i _ true hd0 ho
        have own := g3
        obtain ⟨dx, vs, h1, h2⟩ := g3
        refine ⟨.ref l, g1, l, _, dx, vs, rfl, h1, cl, hn, by rw [← h2.length]; exact hl, ?_⟩
        obtain ⟨a, b, c⟩ := own_upd (ob := .ins (Z.z c') dx (putF f vv vs)) (o' := .obj c' (putS f v fs)) R1 ho hd0 g1 g2 own ⟨dx, _, upd_same, h2.put r1⟩
        exact q F1 _ σ ((Go.ofE (io := io) s1 pn1 R1).trans (.ofE a b c))
      · rw [if_neg hc] at q; exact q.elim
    · exact q.elim

/-! ### ''.join(..) -/
def gJoin (d e : D) : Option D := match d with
  | .str a => match e with
    | .lst xs => (strsOf xs).bind fun ys => if (ys.map (·.length)).sum + ys.length * a.length ≤ 16777216 then some (.str (Txt.join a ys)) else none
    | .tup xs => (strsOf xs).bind fun ys => if (ys.map (·.length)).sum + ys.length * a.length ≤ 16777216 then some (.str (Txt.join a ys)) else none
    | _ => none
  | _ => none
def mJoin (mo me : ME) : ME := fun ρ => (mo ρ).bind fun o ρ1 => match o with
  | .str a => (me ρ1).bind fun e ρ2 => ER.of (gJoin (.str a) e) ρ2
  | _ => .stuck
theorem em_join {o e : Expr} {apos pos : Pos} {fl2 : Fl} {pu1 pu2 : Bool} {mo me : ME} (hK : X.K = Z.K) (hoE : PEm X Z E os .fz pu1 o mo) (he : PEm X Z E os fl2 pu2 e me) (hs : starEach [e] X.env = [(false, eval e X.env)] := by rfl) (hbase : attributeBase o "join" X.env (eval o X.env) = eval o X.env := by rfl) (hline : (apos.endLine == pos.line) = true := by rfl) :
    PEm X Z E os .fz (pu1 && pu2) (.Call (.Attribute o "join" apos) [e] [] pos) (mJoin mo me) := by
  obtain ⟨_, a1, a2⟩ := hoE
  obtain ⟨_, b1, b2⟩ := he
  refine ⟨_, pe_join a1 b1 hs hbase hline, ?_⟩
  intro F H σ ρ Q R h
  refine a2 F H σ ρ _ R ?_
  unfold mJoin at h
  revert h
  cases e1 : mo ρ with
  | stuck => exact fun z => z
  | exc c fs ρ' => exact fun z => z
  | ok x ρ1 =>
    intro h F1 H1 v s hp p R1 r1
    have h := RunE.rebase (pu1 := pu1) (pu2 := pu2) s hp (fun e => by simpa using e) p h
    cases x with
    | str a =>
      have ev : v = .str a := by have r : Rp Z F1 (.str a) v := r1; cases r; rfl
      refine ⟨⟨a, ev⟩, ?_⟩
      change RunE Z E os .fz pu2 F1 H1 σ ρ1 ((me ρ1).bind fun e ρ2 => ER.of (gJoin (.str a) e) ρ2) Q at h
      refine b2 F1 H1 σ ρ1 _ R1 ?_
      revert h
      cases e2 : me ρ1 with
      | stuck => exact fun z => z
      | exc c fs ρ' => exact fun z => z
      | ok y ρ2 =>
        intro h F2 H2 u s2 hp2 p2 R2 r2
        obtain ⟨e, he, h3⟩ := run_of (RunE.rebase (pu1 := pu2) (pu2 := true) s2 hp2 (fun e => ⟨e, rfl⟩) p2 h)
        have key : ∀ xs : List D, (∃ b ws, u = .ref b ∧ (SqL X.K H2 b ws ∨ SqT X.K H2 b ws) ∧ RpL Z F2 xs ws) → ((strsOf xs).bind fun ys => if (ys.map (·.length)).sum + ys.length * a.length ≤ 16777216 then some (D.str (Txt.join a ys)) else none) = some e →
            ∃ a_1 p, ∃ ys : List Str, v = .str a_1 ∧ [u] = [.ref p] ∧ (SqL X.K H2 p (ys.map V.str) ∨ SqT X.K H2 p (ys.map V.str)) ∧ (ys.map (·.length)).sum + ys.length * a_1.length ≤ 16777216 ∧ Q (.str (Txt.join a_1 ys)) H2 := fun xs ⟨b, ws, e1, e2, e3⟩ hx => by
          cases hy : strsOf xs with
          | none => rw [hy] at hx; cases hx
          | some ys =>
            rw [hy] at hx
            change (if _ then _ else _) = _ at hx
            by_cases c : (ys.map (·.length)).sum + ys.length * a.length ≤ 16777216
            · rw [if_pos c] at hx; cases hx
              rw [strsOf_eq hy] at e3
              rw [rp_strs e3] at e2
              exact ⟨a, b, ys, ev, by rw [e1], e2, c, RunE.fin R2 h3 (PStep.refl R2.hk) (.str _)⟩
            · rw [if_neg c] at hx; cases hx
        cases y with
        | lst xs => obtain ⟨b, ws, e1, e2, e3⟩ := r2.bo.lst R2.hk; exact key xs ⟨b, ws, e1, .inl (SqL.of e2), e3⟩ he
        | tup xs => obtain ⟨b, ws, e1, e2, e3⟩ := r2.bo.tup R2.hk; exact key xs ⟨b, ws, e1, .inr (SqT.of e2), e3⟩ he
        | _ => cases he
    | _ => exact h.elim
end Vm
/-! Vm13: list comprehensions. -/
namespace Vm
open PySem L2
variable {Z : Par} {E : St → XK} {os : Os} {X : Cx} {io : List Nat} {rf : Fl}

/-! ### one reading for all contexts -/
section
variable {α : Type} {Y : α → Cx} {fl : Fl} {pu : Bool}
theorem all_e {e : Expr} {me : ME} (h : ∀ a, PEm (Y a) Z E os fl pu e me) : ∃ te, (∀ a, PE (Y a) e te) ∧ SimE Z E os fl pu te me :=
  ⟨fun σ H Q => ∀ a, (h a).choose σ H Q, fun a => ⟨fun pins s σ H Q I q => (h a).choose_spec.1.run pins s σ H Q I (q a)⟩, fun F H σ ρ Q R q a => (h a).choose_spec.2 F H σ ρ Q R q⟩
theorem all_t {e : Expr} {mt : Rho → ER Bool} (h : ∀ a, PTm (Y a) Z E os pu e mt) : ∃ tt, (∀ a, PT (Y a) e tt) ∧ SimT Z E os pu tt mt :=
  ⟨fun σ H Q => ∀ a, (h a).choose σ H Q, fun a => ⟨fun pins s σ H Q I q => (h a).choose_spec.1.run pins s σ H Q I (q a)⟩, fun F H σ ρ Q R q a => (h a).choose_spec.2 F H σ ρ Q R q⟩
theorem all_g {tg : Expr} {b : D → Rho → Option Rho} (h : ∀ a, PGm (Y a) Z os io tg b) : ∃ g, (∀ a, PG (Y a) tg g) ∧ SimG Z os io g b :=
  ⟨fun v σ H Q => ∀ a, (h a).choose v σ H Q, fun a => ⟨fun pins s σ H v u Q I r q => (h a).choose_spec.1.run pins s σ H v u Q I r (q a)⟩, fun F H σ ρ d v Q R r q a => (h a).choose_spec.2 F H σ ρ d v Q R r q⟩
end

/-! ### the block's own slots -/
def wipeR (ρ : Rho) : List Nat → Rho
  | [] => ρ
  | v :: vs => (wipeR ρ vs).set v none
/-- behind the block: the names it used stand as they stood -/
def backR (ρ0 ρe : Rho) : List Nat → Rho
  | [] => ρe
  | v :: vs => (backR ρ0 ρe vs).set v (ρ0[v]?.join)
theorem wipeR_length (ρ : Rho) : ∀ vs, (wipeR ρ vs).length = ρ.length
  | [] => rfl
  | v :: vs => by rw [wipeR, List.length_set, wipeR_length ρ vs]
theorem backR_length (ρ0 ρe : Rho) : ∀ vs, (backR ρ0 ρe vs).length = ρe.length
  | [] => rfl
  | v :: vs => by rw [backR, List.length_set, backR_length ρ0 ρe vs]
theorem wipeR_out {ρ : Rho} {i : Nat} : ∀ {vs : List Nat}, i ∉ vs → (wipeR ρ vs)[i]? = ρ[i]?
  | [], _ => rfl
  | v :: vs, h => by
    rw [wipeR, List.getElem?_set_ne (fun z => h (by subst z; exact List.mem_cons_self)), wipeR_out fun z => h (List.mem_cons_of_mem _ z)]
theorem wipeR_some {ρ : Rho} {i : Nat} {d : D} : ∀ {vs : List Nat}, (wipeR ρ vs)[i]? = some (some d) → ρ[i]? = some (some d) ∧ i ∉ vs
  | [], h => ⟨h, by simp⟩
  | v :: vs, h => by
    obtain ⟨h1, h2⟩ := lookup_set_none h
    obtain ⟨h3, h4⟩ := wipeR_some h1
    exact ⟨h3, fun z => by rcases List.mem_cons.mp z with e | e; exact h2 e; exact h4 e⟩
theorem backR_out {ρ0 ρe : Rho} {i : Nat} : ∀ {vs : List Nat}, i ∉ vs → (backR ρ0 ρe vs)[i]? = ρe[i]?
  | [], _ => rfl
  | v :: vs, h => by
    rw [backR, List.getElem?_set_ne (fun z => h (by subst z; exact List.mem_cons_self)), backR_out fun z => h (List.mem_cons_of_mem _ z)]
theorem backR_in {ρ0 ρe : Rho} {i : Nat} {d : D} : ∀ {vs : List Nat}, i ∈ vs → (backR ρ0 ρe vs)[i]? = some (some d) → ρ0[i]? = some (some d)
  | v :: vs, hm, h => by
    rw [backR] at h
    by_cases e : v = i
    · subst e
      by_cases hl : v < (backR ρ0 ρe vs).length
      · rw [List.getElem?_set_self hl] at h
        cases hj : ρ0[v]? with
        | none => rw [hj] at h; cases h
        | some o => rw [hj] at h; exact h
      · rw [List.getElem?_eq_none (by rw [List.length_set]; omega)] at h; cases h
    · rw [List.getElem?_set_ne e] at h
      rcases List.mem_cons.mp hm with z | z
      · exact absurd z.symm e
      · exact backR_in z h
/-- no slot of the block is one's own -/
def offOs (os : Os) (vs : List Nat) : Bool := vs.all fun v => (os.lookup v).isNone
theorem off_none {vs : List Nat} (h : offOs os vs = true) {v : Nat} (hv : v ∈ vs) : os.lookup v = none := by
  have := List.all_eq_true.mp h v hv
  simpa using this
theorem off_not {vs : List Nat} (h : offOs os vs = true) {i : Nat} {b : Bool} (hi : os.lookup i = some b) : i ∉ vs := fun hv => by rw [off_none h hv] at hi; cases hi
section
variable {F H : Hp} {σ σ2 : St} {ρ ρ2 : Rho} {vs : List Nat}
theorem ow_wipe (off : offOs os vs = true) {a : Addr} (hs : ∀ j, j ∉ vs → σ2[j]? = σ[j]?) : Ow os σ2 (wipeR ρ vs) a ↔ Ow os σ ρ a := by
  constructor
  · rintro ⟨i, h1, ⟨d, h2⟩, h3⟩
    obtain ⟨h4, h5⟩ := wipeR_some h2
    exact ⟨i, h1, ⟨d, h4⟩, by rw [← hs i h5]; exact h3⟩
  · rintro ⟨i, h1, ⟨d, h2⟩, h3⟩
    have ni := off_not off h1
    exact ⟨i, h1, ⟨d, by rw [wipeR_out ni]; exact h2⟩, by rw [hs i ni]; exact h3⟩
theorem oa_wipe (off : offOs os vs = true) {a : Addr} (hs : ∀ j, j ∉ vs → σ2[j]? = σ[j]?) : Oa os σ2 (wipeR ρ vs) a ↔ Oa os σ ρ a := by
  constructor
  · rintro ⟨i, b, h1, ⟨d, h2⟩, h3⟩
    obtain ⟨h4, h5⟩ := wipeR_some h2
    exact ⟨i, b, h1, ⟨d, h4⟩, by rw [← hs i h5]; exact h3⟩
  · rintro ⟨i, b, h1, ⟨d, h2⟩, h3⟩
    have ni := off_not off h1
    exact ⟨i, b, h1, ⟨d, by rw [wipeR_out ni]; exact h2⟩, by rw [hs i ni]; exact h3⟩
theorem EnvR.wipe (R : EnvR Z os F H σ ρ) (off : offOs os vs = true) (hl : σ2.length = σ.length) (hs : ∀ j, j ∉ vs → σ2[j]? = σ[j]?) : EnvR Z os F H σ2 (wipeR ρ vs) where
  ex := R.ex.to (Same.refl F) (fun _ h => h) fun i h => hs i (off_not off h)
  hk := R.hk
  len := by rw [wipeR_length, hl]; exact R.len
  fz := fun i d h n => by
    obtain ⟨h4, h5⟩ := wipeR_some h
    rw [hs i h5]
    exact R.fz i d h4 n
  ow := fun i d b h n => by
    obtain ⟨h4, h5⟩ := wipeR_some h
    rw [hs i h5]
    exact R.ow i d b h4 n
  ne := fun i j b c l h1 h2 ⟨x, h3⟩ ⟨y, h4⟩ h5 h6 => by
    obtain ⟨k3, n3⟩ := wipeR_some h3
    obtain ⟨k4, n4⟩ := wipeR_some h4
    rw [hs i n3] at h5
    rw [hs j n4] at h6
    exact R.ne i j b c l h1 h2 ⟨x, k3⟩ ⟨y, k4⟩ h5 h6
/-- behind the block -/
theorem EnvR.back {F' H' : Hp} {ρe : Rho} (R0 : EnvR Z os F H σ ρ) (f : Same F F') (R : EnvR Z os F' H' (L2.wipe σ vs) ρe) (off : offOs os vs = true) : EnvR Z os F' H' σ (backR ρ ρe vs) where
  ex := R.ex.to (Same.refl F') (fun _ h => h) fun i h => (L2.wipe_out (off_not off h)).symm
  hk := R.hk
  len := by rw [backR_length, ← R.len, L2.wipe_length]
  fz := fun i d h n => by
    by_cases hv : i ∈ vs
    · obtain ⟨v, h1, h2⟩ := R0.fz i d (backR_in hv h) n
      exact ⟨v, h1, h2.mono f⟩
    · rw [backR_out hv] at h
      rw [← L2.wipe_out hv]
      exact R.fz i d h n
  ow := fun i d b h n => by
    have hv := off_not off n
    rw [backR_out hv] at h
    rw [← L2.wipe_out hv]
    exact R.ow i d b h n
  ne := fun i j b c l h1 h2 ⟨x, h3⟩ ⟨y, h4⟩ h5 h6 => by
    have n3 := off_not off h1
    have n4 := off_not off h2
    rw [backR_out n3] at h3
    rw [backR_out n4] at h4
    rw [← L2.wipe_out n3] at h5
    rw [← L2.wipe_out n4] at h6
    exact R.ne i j b c l h1 h2 ⟨x, h3⟩ ⟨y, h4⟩ h5 h6
theorem ow_back {ρe : Rho} (off : offOs os vs = true) {a : Addr} : Ow os σ (backR ρ ρe vs) a ↔ Ow os (L2.wipe σ vs) ρe a := by
  constructor
  · rintro ⟨i, h1, ⟨d, h2⟩, h3⟩
    have ni := off_not off h1
    exact ⟨i, h1, ⟨d, by rw [← backR_out ni]; exact h2⟩, by rw [L2.wipe_out ni]; exact h3⟩
  · rintro ⟨i, h1, ⟨d, h2⟩, h3⟩
    have ni := off_not off h1
    exact ⟨i, h1, ⟨d, by rw [backR_out ni]; exact h2⟩, by rw [← L2.wipe_out ni]; exact h3⟩
theorem oa_back {ρe : Rho} (off : offOs os vs = true) {a : Addr} : Oa os σ (backR ρ ρe vs) a ↔ Oa os (L2.wipe σ vs) ρe a := by
  constructor
  · rintro ⟨i, b, h1, ⟨d, h2⟩, h3⟩
    have ni := off_not off h1
    exact ⟨i, b, h1, ⟨d, by rw [← backR_out ni]; exact h2⟩, by rw [L2.wipe_out ni]; exact h3⟩
  · rintro ⟨i, b, h1, ⟨d, h2⟩, h3⟩
    have ni := off_not off h1
    exact ⟨i, b, h1, ⟨d, by rw [backR_out ni]; exact h2⟩, by rw [← L2.wipe_out ni]; exact h3⟩
theorem wipe_eq (hl : σ2.length = σ.length) (hs : ∀ j, j ∉ vs → σ2[j]? = σ[j]?) : L2.wipe σ2 vs = L2.wipe σ vs := by
  have gen : ∀ ws : List Nat, (∀ w ∈ ws, w ∈ vs) → (∀ j, j ∉ vs ∨ j ∈ ws → (L2.wipe σ2 ws)[j]? = (L2.wipe σ ws)[j]?) := by
    intro ws
    induction ws with
    | nil => intro _ j hj; rcases hj with h | h; exact hs j h; cases h
    | cons w ws ih =>
      intro hw j hj
      show ((L2.wipe σ2 ws).set w none)[j]? = ((L2.wipe σ ws).set w none)[j]?
      by_cases e : w = j
      · subst e
        by_cases hl2 : w < (L2.wipe σ2 ws).length
        · have hl3 : w < (L2.wipe σ ws).length := by rw [L2.wipe_length] at hl2 ⊢; omega
          rw [List.getElem?_set_self hl2, List.getElem?_set_self hl3]
        · rw [List.getElem?_eq_none (by rw [List.length_set]; omega), List.getElem?_eq_none (by rw [List.length_set]; rw [L2.wipe_length] at hl2 ⊢; omega)]
      · rw [List.getElem?_set_ne e, List.getElem?_set_ne e]
        refine ih (fun w hw' => hw w (List.mem_cons_of_mem _ hw')) j ?_
        rcases hj with h | h
        · exact .inl h
        · rcases List.mem_cons.mp h with z | z
          · exact absurd z.symm e
          · exact .inr z
  refine List.ext_getElem? fun j => ?_
  by_cases h : j ∈ vs
  · exact gen vs (fun w h => h) j (.inr h)
  · exact gen vs (fun w h => h) j (.inl h)
end

/-! ### the block's loop -/
def LenB (b : D → Rho → Option Rho) : Prop := ∀ d ρ ρ', b d ρ = some ρ' → ρ'.length = ρ.length
theorem lenB_name (i : Nat) : LenB (bName i) := fun d ρ ρ' h => by cases h; rw [List.length_set]
def LenBs (b : List D → Rho → Option Rho) : Prop := ∀ d ρ ρ', b d ρ = some ρ' → ρ'.length = ρ.length
theorem lenB_nil : LenBs bNil := fun d ρ ρ' h => by
  cases d with
  | nil => cases h; rfl
  | cons _ _ => cases h
theorem lenB_cons {b : D → Rho → Option Rho} {bs : List D → Rho → Option Rho} (h1 : LenB b) (h2 : LenBs bs) : LenBs (bCons b bs) := fun d ρ ρ' h => by
  cases d with
  | nil => cases h
  | cons d r =>
    have h : (b d ρ).bind (bs r) = some ρ' := h
    cases e : b d ρ with
    | none => rw [e] at h; cases h
    | some ρ1 => rw [e] at h; exact (h2 _ _ _ h).trans (h1 _ _ _ e)
theorem lenB_tup {n : Nat} {bs : List D → Rho → Option Rho} (h : LenBs bs) : LenB (bTup n bs) := fun d ρ ρ' e => by
  cases d with
  | tup ds =>
    simp only [bTup] at e
    by_cases c : ds.length = n
    · rw [if_pos c] at e; exact h _ _ _ e
    · rw [if_neg c] at e; cases e
  | _ => cases e
def mLcL (vs : List Nat) (b : D → Rho → Option Rho) (mt : Rho → ER Bool) (me : ME) : List D → List D → Rho → ER (List D)
  | [], acc, ρ => .ok acc ρ
  | d :: ds, acc, ρ => match b d ρ with
    | none => .stuck
    | some ρ1 => match mt ρ1 with
      | .ok true ρ2 => match me ρ2 with
        | .ok y ρ3 => mLcL vs b mt me ds (acc ++ [y]) (wipeR ρ3 vs)
        | _ => .stuck
      | .ok false ρ2 => mLcL vs b mt me ds acc (wipeR ρ2 vs)
      | _ => .stuck
def LcFin (Z : Par) (os : Os) (σw : St) (ρw : Rho) (F H : Hp) (D0 : Addr) (kc : List (Addr × HO)) (Qd : Hp → Prop) : ER (List D) → Prop
  | .ok acc ρe => ∀ (F' H' : Hp), Step (Ow os σw ρw) (Ow os σw ρe) F H F' H' → Pin os σw σw ρw ρe → EnvR Z os F' H' σw ρe → (∃ ws, H' D0 = some (.lst ws) ∧ RpL Z F' acc ws) → F' D0 = none → ¬ Oa os σw ρe D0 → (∀ p ∈ kc, H' p.1 = some p.2) → Qd H'
  | _ => False
/-- the other slots -/
def others (n : Nat) (vs : List Nat) : List Nat := (List.range n).filter fun j => !vs.contains j
theorem mem_others {n j : Nat} {vs : List Nat} (h : j < n) (hv : j ∉ vs) : j ∈ others n vs := by
  unfold others
  rw [List.mem_filter]
  refine ⟨List.mem_range.mpr h, ?_⟩
  simpa using hv
theorem not_others {n v : Nat} {vs : List Nat} (h : v ∈ vs) : v ∉ others n vs := fun z => by
  unfold others at z
  rw [List.mem_filter] at z
  simp [h] at z
/-- a target that leaves the other slots alone -/
def SimGw (Z : Par) (os : Os) (vs : List Nat) (g : TG) (mb : D → Rho → Option Rho) : Prop := ∀ (F H : Hp) (σ : St) (ρ : Rho) (d : D) (v : V) (Q : St → Hp → Prop), EnvR Z os F H σ ρ → Rp Z F d v →
  (match mb d ρ with
   | some ρ' => ∀ σ', Go Z os (others σ.length vs) σ ρ F H σ' ρ' F H → Q σ' H
   | none => False) → g v σ H Q
theorem all_gw {α : Type} {Y : α → Cx} {vs : List Nat} {tg : Expr} {b : D → Rho → Option Rho} (h : ∀ (a : α) (n : Nat), PGm (Y a) Z os (others n vs) tg b) : ∃ g, (∀ a, PG (Y a) tg g) ∧ SimGw Z os vs g b :=
  ⟨fun v σ H Q => ∀ a, (h a σ.length).choose v σ H Q, fun a => ⟨fun pins s σ H v u Q I r q => (h a σ.length).choose_spec.1.run pins s σ H v u Q I r (q a)⟩, fun F H σ ρ d v Q R r q a => (h a σ.length).choose_spec.2 F H σ ρ d v Q R r q⟩
theorem env_updX {F H : Hp} {σ : St} {ρ : Rho} {l : Addr} {ob : HO} (R : EnvR Z os F H σ ρ) (hF : F l = none) (hO : ¬ Oa os σ ρ l) : EnvR Z os F (upd H l ob) σ ρ where
  ex := R.ex
  hk := hk_upd R.hk hF
  len := R.len
  fz := R.fz
  ow := fun i d b h n => by
    obtain ⟨l', q1, q2, q3⟩ := R.ow i d b h n
    exact ⟨l', q1, q2, own_ne (fun z => hO ⟨i, b, n, ⟨d, h⟩, by rw [q1, z]⟩) q3⟩
  ne := R.ne
theorem lc_go {J : It} {g : TG} {tt : TT} {te : TE} {b : D → Rho → Option Rho} {mt : Rho → ER Bool} {me : ME} {pu1 pu2 : Bool} {ds : List D} {F0 : Hp} {kc : List (Addr × HO)} {vs : List Nat} {F H : Hp} {σ : St} {ρw : Rho} {D0 : Addr} {Qd : Hp → Prop} {n : Nat}
    (hb : LenB b) (hg : SimGw Z os vs g b) (ht : SimT Z (fun _ => E0) os pu1 tt mt) (he : SimE Z (fun _ => E0) os .fz pu2 te me) (hn : σ.length = n) (off : offOs os vs = true)
    (w : Wk Z J F0 kc ds) (f0 : Same F0 F) (R : EnvR Z os F H (L2.wipe σ vs) ρw) (hk : ∀ p ∈ kc, H p.1 = some p.2) (hkc : ∀ a ρ', (∃ F' H', Step (Ow os (L2.wipe σ vs) ρw) (Ow os (L2.wipe σ vs) ρ') F H F' H' ∧ Pin os (L2.wipe σ vs) (L2.wipe σ vs) ρw ρ' ∧ EnvR Z os F' H' (L2.wipe σ vs) ρ') → a ∈ kc → ¬ Ow os (L2.wipe σ vs) ρ' a.1)
    (hD : H D0 = none) (hz : ds.length ≤ sizeLine) (q : LcFin Z os (L2.wipe σ vs) ρw F H D0 kc Qd (mLcL vs b mt me ds [] ρw)) :
    ∃ W : Nat → Nat → Hp → Prop, (∃ m, W 0 m (upd H D0 (.lst []))) ∧ ∀ i m H, W i m H →
      (J.stop i H ∧ Qd H) ∨ (J.go i H ∧ ∃ Nx : Hp → Prop, (∀ H', Nx H' → ∃ m', m' < m ∧ W (i + 1) m' H') ∧ ∀ x H', J.yld i H x H' → g x (L2.wipe σ vs) H' fun σ2 H2 => L2.wipe σ2 vs = L2.wipe σ vs ∧ tt σ2 H2 fun b H3 =>
        if b = true then te σ2 H3 fun y H4 => ∃ acc, H4 D0 = some (.lst acc) ∧ acc.length < sizeLine ∧ Nx (upd H4 D0 (.lst (acc ++ [y]))) else Nx H3) := by
  generalize hσ : L2.wipe σ vs = σw at *
  have hσl : σw.length = n := by rw [← hσ, L2.wipe_length, hn]
  have nkD : ∀ p ∈ kc, p.1 ≠ D0 := fun p hp z => by have := hk p hp; rw [z, hD] at this; cases this
  -- what holds at each turn
  let Inv := fun (i : Nat) (H' : Hp) => ∃ F' ρ' acc ws, Step (Ow os σw ρw) (Ow os σw ρ') F H F' H' ∧ Pin os σw σw ρw ρ' ∧ EnvR Z os F' H' σw ρ' ∧ (H' D0 = some (.lst ws) ∧ RpL Z F' acc ws) ∧ F' D0 = none ∧ ¬ Oa os σw ρ' D0 ∧ (∀ p ∈ kc, H' p.1 = some p.2) ∧ acc.length ≤ i ∧
    LcFin Z os σw ρw F H D0 kc Qd (mLcL vs b mt me (ds.drop i) acc ρ')
  refine ⟨fun i m H' => m = ds.length - i ∧ i ≤ ds.length ∧ Inv i H', ⟨ds.length, by simp, Nat.zero_le _, F, ρw, [], [], ?_, Pin.refl, ?_, ⟨upd_same, .nil⟩, R.hk.none hD, ?_, fun p hp => by rw [upd_ne (nkD p hp)]; exact hk p hp, Nat.le_refl _, by rw [List.drop_zero]; exact q⟩, ?_⟩
  · exact (PStep.newH R.hk hD).step
  · exact R.pstep (PStep.newH R.hk hD)
  · rintro ⟨i, b, h1, ⟨d, h2⟩, h3⟩
    obtain ⟨l, q1, _, q3⟩ := R.ow i d b h2 h1
    rw [h3] at q1; cases q1
    obtain ⟨u, hu⟩ := q3.some
    rw [hD] at hu; cases hu
  rintro i m H1 ⟨rfl, hi, F1, ρ1, acc, ws, S1, pn1, R1, ⟨hD1, ra1⟩, FD1, OD1, hk1, hal, q1⟩
  obtain ⟨w1, w2⟩ := w i F1 H1 (f0.trans S1.f) R1.hk hk1
  by_cases hlt : i < ds.length
  · obtain ⟨jg, jy⟩ := w1 hlt
    have hd : ds.drop i = ds[i] :: ds.drop (i + 1) := List.drop_eq_getElem_cons hlt
    refine .inr ⟨jg, fun H' => Inv (i + 1) H', fun H' h => ⟨ds.length - (i + 1), by omega, rfl, hlt, h⟩, fun x H2 y => ?_⟩
    obtain ⟨F2, d, ps, hd2, r⟩ := jy x H2 y
    have ed : d = ds[i] := by rw [List.getElem?_eq_getElem hlt] at hd2; exact (Option.some.inj hd2).symm
    subst ed
    have R2 := R1.pstep ps
    refine hg F2 H2 σw ρ1 ds[i] x _ R2 r ?_
    rw [hd] at q1
    unfold mLcL at q1
    revert q1
    cases eb : b ds[i] ρ1 with
    | none => exact fun z => z
    | some ρ3 =>
      intro q1 σ3 g3
      dsimp only at q1
      have l3 : σ3.length = σw.length := by rw [g3.e.len, hb _ _ _ eb, R1.len]
      have s3 : ∀ j, j ∉ vs → σw[j]? = σ3[j]? := fun j hj => by
        by_cases hjl : j < n
        · exact (g3.io j (mem_others (by omega) hj)).symm
        · rw [List.getElem?_eq_none (by omega), List.getElem?_eq_none (by omega)]
      have hw3 : L2.wipe σ3 vs = σw := by
        rw [← hσ]
        refine wipe_eq (by rw [l3, ← hσ, L2.wipe_length]) fun j hj => ?_
        rw [← s3 j hj, ← hσ, L2.wipe_out hj]
      refine ⟨hw3, ?_⟩
      refine ht F2 H2 σ3 ρ3 _ g3.e ?_
      have D2 : H2 D0 = some (.lst ws) := ps.h _ _ hD1
      have F2D : F2 D0 = none := by
        cases e : F2 D0 with
        | none => rfl
        | some u =>
          rcases ps.n D0 u e with z | z
          · rw [FD1] at z; cases z
          · rw [hD1] at z; cases z
      have O3 : ¬ Oa os σ3 ρ3 D0 := fun z => by
        obtain ⟨j, c, h1, ⟨e, h2⟩, h3⟩ := z
        have : Ow os σ3 ρ3 D0 ∨ c = false := by
          cases c with
          | true => exact .inl ⟨j, h1, ⟨e, h2⟩, h3⟩
          | false => exact .inr rfl
        rcases this with t | t
        · rcases g3.s.w D0 t with z | z
          · exact OD1 z.oa
          · rw [D2] at z; cases z
        · subst t
          obtain ⟨p1, p2⟩ := g3.p j h1
          rw [p1] at h3
          rw [p2] at h2
          exact OD1 ⟨j, false, h1, ⟨e, h2⟩, h3⟩
      -- the turn's end
      have fin : ∀ (F4 H4 : Hp) (ρ4 : Rho) (acc' : List D) (ws' : List V) (ob : Bool), Step (Ow os σ3 ρ3) (Ow os σ3 ρ4) F2 H2 F4 H4 → Pin os σ3 σ3 ρ3 ρ4 → EnvR Z os F4 H4 σ3 ρ4 → RpL Z F4 acc' ws' → acc'.length ≤ i + 1 →
          LcFin Z os σw ρw F H D0 kc Qd (mLcL vs b mt me (ds.drop (i + 1)) acc' (wipeR ρ4 vs)) → Inv (i + 1) (upd H4 D0 (.lst ws')) := fun F4 H4 ρ4 acc' ws' _ S4 pn4 R4 ra hl q4 => by
        obtain ⟨D4, F4D, O4⟩ : H4 D0 = some (.lst ws) ∧ F4 D0 = none ∧ ¬ Oa os σ3 ρ4 D0 := by
          have nO : ¬ Ow os σ3 ρ3 D0 := fun z => O3 z.oa
          refine ⟨S4.k _ _ D2 nO, ?_, fun z => ?_⟩
          · cases e : F4 D0 with
            | none => rfl
            | some u =>
              rcases S4.n D0 u e with z | z | z
              · rw [F2D] at z; cases z
              · rw [D2] at z; cases z
              · exact absurd z nO
          · rcases Oa.back S4 (fun j hj => (pn4 j hj).2) z with z | z
            · exact O3 z
            · rw [D2] at z; cases z
        have Sw : Step (Ow os σw ρ1) (Ow os σw (wipeR ρ4 vs)) F1 H1 F4 H4 := by
          have t := (ps.step (O := Ow os σw ρ1)).trans (g3.s.trans S4)
          exact ⟨t.f, t.n, t.k, fun a h => t.w a ((ow_wipe off s3).mp h), t.d⟩
        have St := S1.trans Sw
        have Rw : EnvR Z os F4 H4 σw (wipeR ρ4 vs) := R4.wipe off l3.symm s3
        have Ow' : ¬ Oa os σw (wipeR ρ4 vs) D0 := fun z => O4 ((oa_wipe off s3).mp z)
        refine ⟨F4, wipeR ρ4 vs, acc', ws', ⟨St.f, St.n, fun a o e n => ?_, St.w, fun a z => ?_⟩, pn1.trans fun j hj => ?_, env_updX Rw F4D Ow', ⟨upd_same, ra⟩, F4D, Ow', fun p hp => ?_, hl, q4⟩
        · rw [upd_ne (fun z => by subst z; rw [hD] at e; cases e)]; exact St.k a o e n
        · by_cases ea : a = D0
          · subst ea; exact hD
          · rw [upd_ne ea] at z; exact St.d a z
        · have nj := off_not off hj
          refine ⟨rfl, ?_⟩
          rw [wipeR_out nj, (pn4 j hj).2, (g3.p j hj).2]
        · rw [upd_ne (nkD p hp)]
          have e1 := hk1 p hp
          exact Sw.k _ _ e1 (hkc p ρ1 ⟨F1, H1, S1, pn1, R1⟩ hp)
      revert q1
      cases mt ρ3 with
      | stuck => exact fun z => z.elim
      | exc c fs ρ' => exact fun z => z.elim
      | ok bv ρ4 =>
        cases bv with
        | false =>
          intro q1 F3 H3 S3 _ pn3 R3
          rw [if_neg Bool.false_ne_true]
          have e3 : H3 D0 = some (.lst ws) := S3.k _ _ D2 (fun z => O3 z.oa)
          have := fin F3 H3 ρ4 acc ws true S3 pn3 R3 (ra1.mono (ps.f.trans S3.f)) (by omega) q1
          have eH : upd H3 D0 (.lst ws) = H3 := by
            funext a
            by_cases ea : a = D0
            · subst ea; rw [upd_same, e3]
            · rw [upd_ne ea]
          rw [eH] at this
          exact this
        | true =>
          intro q1 F3 H3 S3 _ pn3 R3
          rw [if_pos rfl]
          refine he F3 H3 σ3 ρ4 _ R3 ?_
          dsimp only at q1
          revert q1
          cases me ρ4 with
          | stuck => exact fun z => z.elim
          | exc c fs ρ' => exact fun z => z.elim
          | ok yd ρ5 =>
            intro q1 F4 H4 yv S4 _ pn4 R4 r4
            have nO : ¬ Ow os σ3 ρ3 D0 := fun z => O3 z.oa
            have S34 := S3.trans S4
            have e4 : H4 D0 = some (.lst ws) := S34.k _ _ D2 nO
            refine ⟨ws, e4, by rw [← ra1.length]; omega, ?_⟩
            exact fin F4 H4 ρ5 (acc ++ [yd]) (ws ++ [yv]) true S34 (pn3.trans pn4) R4 ((ra1.mono (ps.f.trans S34.f)).append (.one r4)) (by rw [List.length_append, List.length_singleton]; omega) q1
  · have e : i = ds.length := by omega
    subst e
    rw [List.drop_length] at q1
    exact .inl ⟨w2 rfl, q1 F1 H1 S1 pn1 R1 ⟨ws, hD1, ra1⟩ FD1 OD1 hk1⟩
end Vm
/-! Vm14: comprehensions; one's own things held still; walks over dicts. -/
namespace Vm
open PySem L2
variable {Z : Par} {E : St → XK} {os : Os} {X : Cx} {io : List Nat} {rf : Fl}

/-! ### [e for x in l if t], l standing still -/
def mYes : Rho → ER Bool := fun ρ => .ok true ρ
theorem sim_yes : SimT Z E os true tYes mYes := fun F H σ ρ Q R h => h F H Step.refl (fun _ => Same.refl H) Pin.refl R
/-- the tests of a block -/
def PIfs {α : Type} (Y : α → Cx) (Z : Par) (E : St → XK) (os : Os) (ifs : List Expr) (mt : Rho → ER Bool) : Prop := ∃ (pu : Bool) (tt : TT), (∀ a, PTs (Y a) ifs tt) ∧ SimT Z E os pu tt mt
theorem ifs_nil {α : Type} {Y : α → Cx} : PIfs Y Z E os [] mYes := ⟨true, tYes, fun _ => pts_nil, sim_yes⟩
theorem ifs_one {α : Type} {Y : α → Cx} {pu : Bool} {c : Expr} {mt : Rho → ER Bool} (h : ∀ a, PTm (Y a) Z E os pu c mt) : PIfs Y Z E os [c] mt := let ⟨tt, h1, h2⟩ := all_t h; ⟨pu, tt, fun a => pts_one (h1 a), h2⟩
/-- where a block may stand -/
structure Blk where
  s : Shared
  H : Hp
  C : Addr
  cl : List (Str × Addr)
  fp : List Addr
abbrev blkAt (X : Cx) (scope : Scope) (a : Blk) : Cx := X.blk a.s a.H scope (compEnvC scope a.cl a.C X.env) a.fp
def mLcEnd (vs : List Nat) (ρ1 : Rho) : ER (List D) → ER D
  | .ok acc ρe => .ok (.lst acc) (backR ρ1 ρe vs)
  | _ => .stuck
def mLc (vs : List Nat) (b : D → Rho → Option Rho) (mt : Rho → ER Bool) (me : ME) (mi : Rho → ER (List D)) : ME := fun ρ => match mi ρ with
  | .ok ds ρ1 => if ds.length ≤ sizeLine then mLcEnd vs ρ1 (mLcL vs b mt me ds [] (wipeR ρ1 vs)) else .stuck
  | .exc c fs ρ' => .exc c fs ρ'
  | .stuck => .stuck
/-- from the loop's end to the value -/
theorem lc_end {vs : List Nat} {F H F1 H1 : Hp} {σ : St} {ρ ρ1 : Rho} {r : ER (List D)} {D0 : Addr} {Q : VK} (off : offOs os vs = true) (s : Step (Ow os σ ρ) (Ow os σ ρ1) F H F1 H1) (p : Pin os σ σ ρ ρ1) (R : EnvR Z os F1 H1 σ ρ1) (hD : H1 D0 = none)
    (q : RunE Z E os .nw false F H σ ρ (mLcEnd vs ρ1 r) Q) : LcFin Z os (L2.wipe σ vs) (wipeR ρ1 vs) F1 H1 D0 [] (fun H' => Q (.ref D0) H') r := by
  have hsw : ∀ j, j ∉ vs → (L2.wipe σ vs)[j]? = σ[j]? := fun j hj => L2.wipe_out hj
  cases r with
  | stuck => exact q.elim
  | exc c fs ρ' => exact q.elim
  | ok acc ρe =>
    intro F' H' S pn Re ⟨ws, h1, h2⟩ hF hO _
    have S' : Step (Ow os σ ρ1) (Ow os σ (backR ρ1 ρe vs)) F1 H1 F' H' :=
      ⟨S.f, fun a o e => (S.n a o e).imp id (Or.imp id (ow_wipe off hsw).mp), fun a o e n => S.k a o e fun z => n ((ow_wipe off hsw).mp z), fun a z => (S.w a ((ow_back off).mp z)).imp (ow_wipe off hsw).mp id, S.d⟩
    refine q F' H' (.ref D0) (s.trans S') (fun z => by cases z) (p.trans fun j hj => ?_) (R.back S.f Re off) ⟨D0, rfl, .inr (s.d _ hD), hF, fun z => hO ((oa_back off).mp z), ws, h1, h2⟩
    have nj := off_not off hj
    refine ⟨rfl, ?_⟩
    rw [backR_out nj, (pn j hj).2, wipeR_out nj]
/-- a comprehension: as a value, and where it is given to a local name at once -/
def PEs (X : Cx) (e : Expr) (te : TE) : Prop := PE X e te ∧ ∀ (i : Nat) (y : Str) (py spos : Pos), X.N[i]? = some y → X.env.scope.names.lookup y = some .local → swapsWith e (some (.Name y py)) spos.line X.env = pure true → PS X (.Assign [.Name y py] e spos) (tAsg te (gName i))
def PCm (X : Cx) (Z : Par) (E : St → XK) (os : Os) (fl : Fl) (pu : Bool) (e : Expr) (me : ME) : Prop := ∃ te, PEs X e te ∧ SimE Z E os fl pu te me
theorem PCm.pe {fl : Fl} {pu : Bool} {e : Expr} {me : ME} (h : PCm X Z E os fl pu e me) : PEm X Z E os fl pu e me := let ⟨te, a, b⟩ := h; ⟨te, a.1, b⟩
theorem sm_setC {e : Expr} {x : Str} {pos pos' : Pos} {pu : Bool} {me : ME} (i : Nat) (he : PCm X Z E os .nw pu e me) (ho : os.lookup i = none := by rfl) (hio : i ∉ io := by decide) (hi : X.N[i]? = some x := by rfl) (hl : X.env.scope.names.lookup x = some .local := by rfl)
    (hs : swapsWith e (some (.Name x pos')) pos.line X.env = pure true := by rfl) : PSm X Z E os io rf (.Assign [.Name x pos'] e pos) (mSet i me) := let ⟨_, a, b⟩ := he; ⟨_, a.2 i x pos' pos hi hl hs, sim_setF b.fr ho hio⟩
theorem sm_setCO {e : Expr} {x : Str} {pos pos' : Pos} {pu : Bool} {me : ME} (i : Nat) (he : PCm X Z E os .nw pu e me) (ho : os.lookup i = some true := by rfl) (hio : i ∉ io := by decide) (hi : X.N[i]? = some x := by rfl) (hl : X.env.scope.names.lookup x = some .local := by rfl)
    (hs : swapsWith e (some (.Name x pos')) pos.line X.env = pure true := by rfl) : PSm X Z E os io rf (.Assign [.Name x pos'] e pos) (mSet i me) := let ⟨_, a, b⟩ := he; ⟨_, a.2 i x pos' pos hi hl hs, sim_setO b ho hio⟩
theorem pes_lc {elt tg iter : Expr} {ifs : List Expr} {scope : Scope} {own : List (Str × Nat)} {pos : Pos} {wi : TI} {g : TG} {tt : TT} {te : TE} (hc : X.calm = true) (hN : X.N.Nodup) (hi : PI X tg iter wi) (ok : BlkOk X.N X.env.scope scope own)
    (hg : ∀ (s : Shared) (H : Hp) (C : Addr) (cl : List (Str × Addr)) (fp : List Addr), PG (X.blk s H scope (compEnvC scope cl C X.env) fp) tg g) (ht : ∀ (s : Shared) (H : Hp) (C : Addr) (cl : List (Str × Addr)) (fp : List Addr), PTs (X.blk s H scope (compEnvC scope cl C X.env) fp) ifs tt)
    (he : ∀ (s : Shared) (H : Hp) (C : Addr) (cl : List (Str × Addr)) (fp : List Addr), PE (X.blk s H scope (compEnvC scope cl C X.env) fp) elt te) (hs : ∀ x, foldedSetIterable iter X.env x = pure x) :
    PEs X (.ListComp elt [⟨tg, iter, ifs, 0⟩] scope pos) (tLc wi g tt te (own.map (·.2))) :=
  ⟨pe_lc hc hN hi ok hg ht he hs, fun i y py spos hy hl hsw => ps_setLc hc hN hy hl hsw hi ok hg ht he hs⟩
section
variable {elt tg iter : Expr} {ifs : List Expr} {scope : Scope} {own : List (Str × Nat)} {pos : Pos} {pu pu2 : Bool} {b : D → Rho → Option Rho} {mt : Rho → ER Bool} {me : ME} {mi : Rho → ER (List D)}
theorem ec_lc (own : List (Str × Nat)) (hc : X.calm = true) (hN : X.N.Nodup) (hi : PIm X Z E os pu tg iter mi) (ok : BlkOk X.N X.env.scope scope own)
    (hg : ∀ (a : Blk) (n : Nat), PGm (blkAt X scope a) Z os (others n (own.map (·.2))) tg b) (hb : LenB b) (ht : PIfs (blkAt X scope) Z (fun _ => E0) os ifs mt) (he : ∀ a : Blk, PEm (blkAt X scope a) Z (fun _ => E0) os .fz pu2 elt me)
    (off : offOs os (own.map (·.2)) = true := by rfl) (hs : ∀ x, foldedSetIterable iter X.env x = pure x := by intro _; rfl) :
    PCm X Z E os .nw false (.ListComp elt [⟨tg, iter, ifs, 0⟩] scope pos) (mLc (own.map (·.2)) b mt me mi) := by
  obtain ⟨wi, i1, i2⟩ := hi
  obtain ⟨g, g1, g2⟩ := all_gw hg
  obtain ⟨pu1, tt, t1, t2⟩ := ht
  obtain ⟨te, e1, e2⟩ := all_e he
  refine ⟨_, pes_lc hc hN i1 ok (fun s H C cl fp => g1 ⟨s, H, C, cl, fp⟩) (fun s H C cl fp => t1 ⟨s, H, C, cl, fp⟩) (fun s H C cl fp => e1 ⟨s, H, C, cl, fp⟩) hs, ?_⟩
  intro F H σ ρ Q R q
  refine i2 F H σ ρ _ R ?_
  unfold mLc at q
  revert q
  cases mi ρ with
  | stuck => exact fun z => z
  | exc c fs ρ' => exact fun z => z
  | ok ds ρ1 =>
    intro q F1 H1 J s _ p R1 w D0 hD
    by_cases hz : ds.length ≤ sizeLine
    · dsimp only at q
      rw [if_pos hz] at q
      exact lc_go hb g2 t2 e2 rfl off w (Same.refl F1) (R1.wipe off (L2.wipe_length _ _) fun j hj => L2.wipe_out hj) (fun p hp => by cases hp) (fun _ _ _ hp => by cases hp) hD hz (lc_end off s p R1 hD q)
    · dsimp only at q
      rw [if_neg hz] at q
      exact q.elim
end

/-! ### one's own thing, held still for an expression, a statement -/
def hold (i : Nat) (os : Os) : Os := (i, false) :: os
theorem hold_at {i : Nat} : (hold i os).lookup i = some false := by simp [hold]
theorem hold_ne {i j : Nat} (h : j ≠ i) : (hold i os).lookup j = os.lookup j := by
  have : (j == i) = false := beq_eq_false_iff_ne.mpr h
  simp [hold, List.lookup, this]
section
variable {i : Nat} {F H F' H' : Hp} {σ σ' : St} {ρ ρ' : Rho}
theorem ow_hold {a : Addr} (h : Ow (hold i os) σ ρ a) : Ow os σ ρ a := by
  obtain ⟨j, h1, h2, h3⟩ := h
  have ne : j ≠ i := fun z => by subst z; rw [hold_at] at h1; cases h1
  rw [hold_ne ne] at h1
  exact ⟨j, h1, h2, h3⟩
theorem oa_hold (ho : os.lookup i = some true) {a : Addr} : Oa (hold i os) σ ρ a ↔ Oa os σ ρ a := by
  constructor
  · rintro ⟨j, b, h1, h2, h3⟩
    by_cases e : j = i
    · subst e; exact ⟨j, true, ho, h2, h3⟩
    · rw [hold_ne e] at h1; exact ⟨j, b, h1, h2, h3⟩
  · rintro ⟨j, b, h1, h2, h3⟩
    by_cases e : j = i
    · subst e; exact ⟨j, false, hold_at, h2, h3⟩
    · exact ⟨j, b, by rw [hold_ne e]; exact h1, h2, h3⟩
theorem EnvR.hold (R : EnvR Z os F H σ ρ) (ho : os.lookup i = some true) : EnvR Z (hold i os) F H σ ρ where
  ex := R.ex.to (Same.refl F) (fun j h => by
    by_cases e : j = i
    · subst e; exact hold_at
    · rw [hold_ne e]; exact h) fun _ _ => rfl
  hk := R.hk
  len := R.len
  fz := fun j d h n => R.fz j d h (by
    by_cases e : j = i
    · subst e; rw [hold_at] at n; cases n
    · rw [hold_ne e] at n; exact n)
  ow := fun j d b h n => by
    by_cases e : j = i
    · subst e
      rw [hold_at] at n; cases n
      obtain ⟨l, q1, q2, q3⟩ := R.ow j d true h ho
      refine ⟨l, q1, q2, ?_⟩
      cases d with
      | lst ds => exact q3
      | dct ds => obtain ⟨vs, h1, h2⟩ := q3; rcases h1 with h1 | ⟨z, _⟩; exact ⟨vs, .inl h1, h2⟩; cases z
      | obj c ds => exact q3
      | _ => exact q3.elim
    · rw [hold_ne e] at n; exact R.ow j d b h n
  ne := fun j k b c l h1 h2 h3 h4 h5 h6 => by
    have g : ∀ j b, (Vm.hold i os).lookup j = some b → ∃ b, os.lookup j = some b := fun j b h => by
      by_cases e : j = i
      · subst e; exact ⟨true, ho⟩
      · rw [hold_ne e] at h; exact ⟨b, h⟩
    obtain ⟨b', g1⟩ := g j b h1
    obtain ⟨c', g2⟩ := g k c h2
    exact R.ne j k b' c' l g1 g2 h3 h4 h5 h6
theorem step_unhold (ho : os.lookup i = some true) (S : Step (Ow (hold i os) σ ρ) (Ow (hold i os) σ' ρ') F H F' H') (p : Pin (hold i os) σ σ' ρ ρ') : Step (Ow os σ ρ) (Ow os σ' ρ') F H F' H' where
  f := S.f
  n := fun a o e => (S.n a o e).imp id (Or.imp id ow_hold)
  k := fun a o e n => S.k a o e fun z => n (ow_hold z)
  w := fun a ⟨j, h1, h2, h3⟩ => by
    by_cases e : j = i
    · subst e
      obtain ⟨p1, p2⟩ := p j hold_at
      rw [p1] at h3
      rw [p2] at h2
      exact .inl ⟨j, ho, h2, h3⟩
    · exact (S.w a ⟨j, by rw [hold_ne e]; exact h1, h2, h3⟩).imp ow_hold id
  d := S.d
theorem pin_unhold (ho : os.lookup i = some true) (p : Pin (hold i os) σ σ' ρ ρ') : Pin os σ σ' ρ ρ' := fun j hj => p j (by
  have ne : j ≠ i := fun z => by subst z; rw [ho] at hj; cases hj
  rw [hold_ne ne]; exact hj)
/-- the thing held still is what it was -/
theorem EnvR.unhold (R : EnvR Z os F H σ ρ) (ho : os.lookup i = some true) (S : Step (Ow (Vm.hold i os) σ ρ) (Ow (Vm.hold i os) σ' ρ') F H F' H') (p : Pin (Vm.hold i os) σ σ' ρ ρ') (R' : EnvR Z (Vm.hold i os) F' H' σ' ρ') : EnvR Z os F' H' σ' ρ' where
  ex := R.ex.to S.f (fun _ h => h) fun j h => (p j (by
    have ne : j ≠ i := fun z => by subst z; rw [ho] at h; cases h
    rw [hold_ne ne]; exact h)).1
  hk := R'.hk
  len := R'.len
  fz := fun j d h n => R'.fz j d h (by
    have ne : j ≠ i := fun z => by subst z; rw [ho] at n; cases n
    rw [hold_ne ne]; exact n)
  ow := fun j d b h n => by
    by_cases e : j = i
    · subst e
      rw [ho] at n; cases n
      obtain ⟨p1, p2⟩ := p j hold_at
      obtain ⟨l', g1, g2, _⟩ := R'.ow j d false h hold_at
      rw [p2] at h
      obtain ⟨l, q1, q2, q3⟩ := R.ow j d true h ho
      have el : l' = l := by rw [p1, q1] at g1; cases g1; rfl
      subst el
      have nO : ¬ Ow (Vm.hold j os) σ ρ l' := fun ⟨k, k1, k2, k3⟩ => by
        have ne : k ≠ j := fun z => by subst z; rw [hold_at] at k1; cases k1
        rw [hold_ne ne] at k1
        exact ne (R.ne k j true true l' k1 ho k2 ⟨d, h⟩ k3 q1)
      exact ⟨l', by rw [p1]; exact q1, g2, q3.keep S.f fun o e => S.k l' o e nO⟩
    · exact R'.ow j d b h (by rw [hold_ne e]; exact n)
  ne := fun j k b c l h1 h2 h3 h4 h5 h6 => by
    have g : ∀ j b, os.lookup j = some b → ∃ b, (Vm.hold i os).lookup j = some b := fun j b h => by
      by_cases e : j = i
      · subst e; exact ⟨false, hold_at⟩
      · exact ⟨b, by rw [hold_ne e]; exact h⟩
    obtain ⟨b', g1⟩ := g j b h1
    obtain ⟨c', g2⟩ := g k c h2
    exact R'.ne j k b' c' l g1 g2 h3 h4 h5 h6
theorem res_unhold {fl : Fl} {d : D} {v : V} (ho : os.lookup i = some true) (r : ResR Z fl (Ow (hold i os) σ ρ) (Oa (hold i os) σ' ρ') H F' H' d v) : ResR Z fl (Ow os σ ρ) (Oa os σ' ρ') H F' H' d v := by
  cases fl with
  | fz => exact r
  | bo => exact r
  | nw =>
    obtain ⟨l, r1, r2, r3, r4, r5⟩ := r
    exact ⟨l, r1, r2.imp ow_hold id, r3, fun z => r4 ((oa_hold ho).mpr z), r5⟩
end
theorem em_hold {fl : Fl} {pu : Bool} {e : Expr} {me : ME} (i : Nat) (h : PEm X Z E (hold i os) fl pu e me) (ho : os.lookup i = some true := by rfl) : PEm X Z E os fl pu e me := by
  obtain ⟨te, h1, h2⟩ := h
  refine ⟨te, h1, fun F H σ ρ Q R q => h2 F H σ ρ Q (R.hold ho) ?_⟩
  revert q
  cases me ρ with
  | stuck => exact fun z => z
  | exc c fs ρ' => exact fun q F' H' S p R' => q F' H' (step_unhold ho S p) (pin_unhold ho p) (R.unhold ho S p R')
  | ok d ρ' => exact fun q F' H' v S hp p R' r => q F' H' v (step_unhold ho S p) hp (pin_unhold ho p) (R.unhold ho S p R') (res_unhold ho r)
theorem ec_hold {fl : Fl} {pu : Bool} {e : Expr} {me : ME} (i : Nat) (h : PCm X Z E (hold i os) fl pu e me) (ho : os.lookup i = some true := by rfl) : PCm X Z E os fl pu e me := by
  obtain ⟨te, h1, h2⟩ := h
  refine ⟨te, h1, fun F H σ ρ Q R q => h2 F H σ ρ Q (R.hold ho) ?_⟩
  revert q
  cases me ρ with
  | stuck => exact fun z => z
  | exc c fs ρ' => exact fun q F' H' S p R' => q F' H' (step_unhold ho S p) (pin_unhold ho p) (R.unhold ho S p R')
  | ok d ρ' => exact fun q F' H' v S hp p R' r => q F' H' v (step_unhold ho S p) hp (pin_unhold ho p) (R.unhold ho S p R') (res_unhold ho r)
theorem tm_hold {pu : Bool} {e : Expr} {mt : Rho → ER Bool} (i : Nat) (h : PTm X Z E (hold i os) pu e mt) (ho : os.lookup i = some true := by rfl) : PTm X Z E os pu e mt := by
  obtain ⟨te, h1, h2⟩ := h
  refine ⟨te, h1, fun F H σ ρ Q R q => h2 F H σ ρ Q (R.hold ho) ?_⟩
  revert q
  cases mt ρ with
  | stuck => exact fun z => z
  | exc c fs ρ' => exact fun q F' H' S p R' => q F' H' (step_unhold ho S p) (pin_unhold ho p) (R.unhold ho S p R')
  | ok d ρ' => exact fun q F' H' S hp p R' => q F' H' (step_unhold ho S p) hp (pin_unhold ho p) (R.unhold ho S p R')
theorem go_unhold {i : Nat} {F H F' H' : Hp} {σ σ' : St} {ρ ρ' : Rho} (R : EnvR Z os F H σ ρ) (ho : os.lookup i = some true) (g : Go Z (hold i os) io σ ρ F H σ' ρ' F' H') : Go Z os io σ ρ F H σ' ρ' F' H' :=
  ⟨step_unhold ho g.s g.p, pin_unhold ho g.p, R.unhold ho g.s g.p g.e, g.io⟩
theorem sm_hold {s : Stmt} {m : MS} (i : Nat) (h : PSm X Z E (hold i os) io rf s m) (ho : os.lookup i = some true := by rfl) : PSm X Z E os io rf s m := by
  obtain ⟨ts, h1, h2⟩ := h
  refine ⟨ts, h1, fun F H σ ρ K R q => h2 F H σ ρ K (R.hold ho) ?_⟩
  revert q
  cases m ρ with
  | nx ρ' => exact fun q F' H' σ' g => q F' H' σ' (go_unhold R ho g)
  | bk ρ' => exact fun q F' H' σ' g => q F' H' σ' (go_unhold R ho g)
  | ct ρ' => exact fun q F' H' σ' g => q F' H' σ' (go_unhold R ho g)
  | exc c fs ρ' => exact fun q F' H' σ' g => q F' H' σ' (go_unhold R ho g)
  | rt d ρ' => exact fun q F' H' σ' v g r => q F' H' σ' v (go_unhold R ho g) (res_unhold ho r)
  | stuck => exact fun q => q

/-! ### walks over one's own list, held still -/
/-- what stands still at a slot is no thing that may change -/
theorem held_no {i : Nat} {F' H' : Hp} {σ σ' : St} {ρ ρ' : Rho} {l : Addr} {d : D} (ho : os.lookup i = some false) (hd : ρ[i]? = some (some d)) (hs : σ[i]? = some (some (.ref l))) (p : Pin os σ σ' ρ ρ') (R' : EnvR Z os F' H' σ' ρ') : ¬ Ow os σ' ρ' l := fun ⟨j, j1, j2, j3⟩ => by
  obtain ⟨p1, p2⟩ := p i ho
  have := R'.ne j i true false l j1 ho j2 ⟨d, by rw [p2]; exact hd⟩ j3 (by rw [p1]; exact hs)
  subst this
  rw [ho] at j1; cases j1
def mHeld (i : Nat) (f : D → Option (List D)) : Rho → ER (List D) := fun ρ => match ρ[i]? with
  | some (some d) => ER.of (f d) ρ
  | _ => .stuck
/-- an iterable over what is held at slot i: it walks ds while the cell stays -/
def SimH (Z : Par) (os : Os) (i : Nat) (wi : TI) (f : D → Option (List D)) : Prop := ∀ (F H : Hp) (σ : St) (ρ : Rho) (d : D) (ds : List D) (l : Addr) (Q : It → Hp → Prop), EnvR Z os F H σ ρ → ρ[i]? = some (some d) → σ[i]? = some (some (.ref l)) → Own Z F H false l d → f d = some ds →
  (∀ (J : It) (ob : HO), H l = some ob → Wk Z J F [(l, ob)] ds → Q J H) → wi σ H Q
def PHm (X : Cx) (Z : Par) (os : Os) (i : Nat) (tg iter : Expr) (f : D → Option (List D)) : Prop := ∃ wi, PI X tg iter wi ∧ SimH Z os i wi f
theorem sm_forH {tg iter : Expr} {body : List Stmt} {pos : Pos} {b : D → Rho → Option Rho} {f : D → Option (List D)} {m : MS} (i : Nat) (hp : PassesOwn (model X.prog X.w) X.A X.env X.xe) (hc : X.calm = true) (hi : PHm X Z os i tg iter f) (hg : PGm X Z os io tg b) (hb : PSsm X Z E os io rf body m) (ho : os.lookup i = some false := by rfl) (hs : ∀ x, foldedSetIterable iter X.env x = pure x := by intro _; rfl) :
    PSm X Z E os io rf (.For tg iter body [] pos) (mFor b (mHeld i f) m) := by
  obtain ⟨wi, i1, i2⟩ := hi
  obtain ⟨g, g1, g2⟩ := hg
  obtain ⟨tb, b1, b2⟩ := hb
  refine ⟨_, ps_for hp hc i1 g1 b1 hs, fun F H σ ρ K R q => ?_⟩
  unfold mFor mHeld at q
  cases hd : ρ[i]? with
  | none => rw [hd] at q; exact q.elim
  | some o =>
    cases o with
    | none => rw [hd] at q; exact q.elim
    | some d =>
      rw [hd] at q
      dsimp only at q
      cases hf : f d with
      | none => rw [hf] at q; exact q.elim
      | some ds =>
        rw [hf] at q
        obtain ⟨l, h1, h2, h3⟩ := R.ow i d false hd ho
        refine i2 F H σ ρ d ds l _ R hd h1 h3 hf fun J ob hob w => ?_
        exact loop_go g2 b2 w (Same.refl F) R (fun p hp => by rw [List.mem_singleton.mp hp]; exact hob) (fun F' H' σ' ρ' g p hp => by rw [List.mem_singleton.mp hp]; exact held_no ho hd h1 g.p g.e) q
section
variable {elt tg iter : Expr} {ifs : List Expr} {scope : Scope} {own : List (Str × Nat)} {pos : Pos} {pu pu2 : Bool} {b : D → Rho → Option Rho} {mt : Rho → ER Bool} {me : ME}
/-- the block's end where a cell was held -/
theorem LcFin.kc {vs : List Nat} {σ : St} {ρw : Rho} {F H : Hp} {D0 : Addr} {kc : List (Addr × HO)} {Qd : Hp → Prop} {r : ER (List D)} (h : LcFin Z os (L2.wipe σ vs) ρw F H D0 [] Qd r) : LcFin Z os (L2.wipe σ vs) ρw F H D0 kc Qd r := by
  cases r with
  | ok acc ρe => exact fun F' H' S p R a b c _ => h F' H' S p R a b c (fun p hp => by cases hp)
  | exc c fs ρ' => exact h
  | stuck => exact h
theorem ec_lcH (i : Nat) (own : List (Str × Nat)) {f : D → Option (List D)} (hc : X.calm = true) (hN : X.N.Nodup) (hi : PHm X Z os i tg iter f) (ok : BlkOk X.N X.env.scope scope own)
    (hg : ∀ (a : Blk) (n : Nat), PGm (blkAt X scope a) Z os (others n (own.map (·.2))) tg b) (hb : LenB b) (ht : PIfs (blkAt X scope) Z (fun _ => E0) os ifs mt) (he : ∀ a : Blk, PEm (blkAt X scope a) Z (fun _ => E0) os .fz pu2 elt me)
    (ho : os.lookup i = some false := by rfl) (off : offOs os (own.map (·.2)) = true := by rfl) (hs : ∀ x, foldedSetIterable iter X.env x = pure x := by intro _; rfl) :
    PCm X Z E os .nw false (.ListComp elt [⟨tg, iter, ifs, 0⟩] scope pos) (mLc (own.map (·.2)) b mt me (mHeld i f)) := by
  obtain ⟨wi, i1, i2⟩ := hi
  obtain ⟨g, g1, g2⟩ := all_gw hg
  obtain ⟨pu1, tt, t1, t2⟩ := ht
  obtain ⟨te, e1, e2⟩ := all_e he
  refine ⟨_, pes_lc hc hN i1 ok (fun s H C cl fp => g1 ⟨s, H, C, cl, fp⟩) (fun s H C cl fp => t1 ⟨s, H, C, cl, fp⟩) (fun s H C cl fp => e1 ⟨s, H, C, cl, fp⟩) hs, ?_⟩
  intro F H σ ρ Q R q
  unfold mLc mHeld at q
  cases hd : ρ[i]? with
  | none => rw [hd] at q; exact q.elim
  | some o =>
    cases o with
    | none => rw [hd] at q; exact q.elim
    | some d =>
      rw [hd] at q
      dsimp only at q
      cases hf : f d with
      | none => rw [hf] at q; exact q.elim
      | some ds =>
        rw [hf] at q
        obtain ⟨l, h1, h2, h3⟩ := R.ow i d false hd ho
        refine i2 F H σ ρ d ds l _ R hd h1 h3 hf fun J ob hob w D0 hD => ?_
        change RunE Z E os .nw false F H σ ρ (if ds.length ≤ sizeLine then _ else _) Q at q
        by_cases hz : ds.length ≤ sizeLine
        · rw [if_pos hz] at q
          have ni := off_not off ho
          exact lc_go hb g2 t2 e2 rfl off w (Same.refl F) (R.wipe off (L2.wipe_length _ _) fun j hj => L2.wipe_out hj) (fun p hp => by rw [List.mem_singleton.mp hp]; exact hob)
            (fun p ρ' ⟨F', H', S, pn, R'⟩ hp => by rw [List.mem_singleton.mp hp]; exact held_no ho (by rw [wipeR_out ni]; exact hd) (by rw [L2.wipe_out ni]; exact h1) pn R') hD hz (lc_end off Step.refl Pin.refl R hD q).kc
        · rw [if_neg hz] at q; exact q.elim
end
end Vm
/-! Vm15: walks over held lists and over dicts. -/
namespace Vm
open PySem L2
variable {Z : Par} {E : St → XK} {os : Os} {X : Cx} {io : List Nat} {rf : Fl}

/-! ### held lists -/
theorem wk_listK {F : Hp} {a : Addr} {vs : List V} {ds : List D} {kc : List (Addr × HO)} (r : RpL Z F ds vs) (hl : ∀ F' H', Same F F' → Hk Z F' H' → (∀ p ∈ kc, H' p.1 = some p.2) → SqL Z.K H' a vs) : Wk Z (Itl Z.K a) F kc ds := fun i F' H' f k hk => by
  have q : SqL Z.K H' a vs := hl F' H' f k hk
  refine ⟨fun hi => ?_, fun e => ⟨vs, q, by rw [← r.length, e]; exact Nat.le_refl _⟩⟩
  have hv : i < vs.length := by rw [← r.length]; exact hi
  refine ⟨⟨vs, vs[i], q, List.getElem?_eq_getElem hv⟩, fun x H2 ⟨e, y⟩ => ?_⟩
  subst e
  obtain ⟨v, h1, h2⟩ := r.get (List.getElem?_eq_getElem hi)
  have e2 : x = v := by have := y vs q; rw [h1] at this; exact (Option.some.inj this).symm
  subst e2
  exact ⟨F', ds[i], PStep.refl k, List.getElem?_eq_getElem hi, h2.mono f⟩
section
variable {x : Str} {p p2 pos tpos : Pos} {tg : Expr} {elts : List Expr} {kk : Nat}
theorem hm_list (i : Nat) (hK : X.K = Z.K := by rfl) (hN : X.N[i]? = some x := by rfl) (hv : Vis X.env.scope x := by first | exact Or.inl rfl | exact Or.inr (Or.inl rfl) | exact Or.inr (Or.inr rfl)) (hd : (x == ("__debug__" : Str)) = false := by decide)
    (hcd : (x == ("__classdict__" : Str)) = false := by decide) : PHm X Z os i tg (.Name x p) iLst := by
  refine ⟨_, pi_list (pe_var hN hv hd hcd), ?_⟩
  rw [hK]
  intro F H σ ρ d ds l Q R h1 h2 own hf q
  cases d with
  | lst xs =>
    cases hf
    obtain ⟨vs, h3, h4⟩ := own
    exact ⟨.ref l, h2, l, rfl, ⟨vs, SqL.of h3⟩, q _ _ h3 (wk_listK h4 fun F' H' f k hk => SqL.of (hk (l, .lst vs) (by simp)))⟩
  | _ => cases hf
def fEnum : D → Option (List D)
  | .lst xs => some (enumD 0 xs)
  | _ => none
theorem hm_enum (i : Nat) (hg : Gl X "enumerate") (hm : X.mg "enumerate" = none) (hK : X.K = Z.K := by rfl) (hN : X.N[i]? = some x := by rfl) (hv : Vis X.env.scope x := by first | exact Or.inl rfl | exact Or.inr (Or.inl rfl) | exact Or.inr (Or.inr rfl)) (hd : (x == ("__debug__" : Str)) = false := by decide)
    (hcd : (x == ("__classdict__" : Str)) = false := by decide) (hs : starEach [.Name x p2] X.env = [(false, eval (.Name x p2) X.env)] := by rfl) :
    PHm X Z os i (.Tuple elts kk tpos) (.Call (.Name "enumerate" p) [.Name x p2] [] pos) fEnum := by
  refine ⟨_, pi_enum hg hm (pa_cons (pe_var hN hv hd hcd) pa_nil hs) hs, ?_⟩
  rw [hK]
  intro F H σ ρ d ds l Q R h1 h2 own hf q
  cases d with
  | lst xs =>
    cases hf
    obtain ⟨vs, h3, h4⟩ := own
    exact ⟨.ref l, h2, l, vs, rfl, SqL.of h3, q _ _ h3 (wk_enum h4 fun F' H' f k hk => SqL.of (hk (l, .lst vs) (by simp)))⟩
  | _ => cases hf
end

/-! ### a dict that is locked -/
/-- the same but for locks -/
def Lk (H H1 : Hp) : Prop := ∀ a o, H a = some o → H1 a = some o ∨ ∃ od kvs, o = .dK kvs ∧ H1 a = some (.frz od o)
theorem Lk.refl (H : Hp) : Lk H H := fun a o h => .inl h
theorem Lk.one {H : Hp} {l : Addr} {kvs : List (Key × V)} {od : Obj} (h : H l = some (.dK kvs)) : Lk H (upd H l (.frz od (.dK kvs))) := fun a o e => by
  by_cases ea : a = l
  · subst ea
    rw [h] at e; cases e
    exact .inr ⟨od, kvs, rfl, upd_same⟩
  · rw [upd_ne ea]; exact .inl e
/-- an expression that tells where a dict stands, whatever is locked -/
def SimP (Z : Par) (os : Os) (td : TE) (md : Rho → Option (List (Key × D))) : Prop := ∀ (F H : Hp) (σ : St) (ρ : Rho) (ds : List (Key × D)), EnvR Z os F H σ ρ → md ρ = some ds → ∃ l kvs, Rd H l (.dK kvs) ∧ RpK Z F ds kvs ∧
  (F l = some (.dK kvs) ∨ (F l = none ∧ ∀ σ' ρ' F' H', Pin os σ σ' ρ ρ' → EnvR Z os F' H' σ' ρ' → ¬ Ow os σ' ρ' l)) ∧ ∀ (H1 : Hp) (Q : VK), Lk H H1 → Q (.ref l) H1 → td σ H1 Q
def PPm (X : Cx) (Z : Par) (os : Os) (e : Expr) (md : Rho → Option (List (Key × D))) : Prop := ∃ td, PE X e td ∧ SimP Z os td md
def mdVar (i : Nat) : Rho → Option (List (Key × D)) := fun ρ => match ρ[i]? with
  | some (some (.dct ds)) => some ds
  | _ => none
section
variable {x : Str} {p : Pos}
theorem dm_var (i : Nat) (ho : os.lookup i = none := by rfl) (hN : X.N[i]? = some x := by rfl) (hv : Vis X.env.scope x := by first | exact Or.inl rfl | exact Or.inr (Or.inl rfl) | exact Or.inr (Or.inr rfl)) (hd : (x == ("__debug__" : Str)) = false := by decide)
    (hcd : (x == ("__classdict__" : Str)) = false := by decide) : PPm X Z os (.Name x p) (mdVar i) := by
  refine ⟨_, pe_var hN hv hd hcd, fun F H σ ρ ds R h => ?_⟩
  unfold mdVar at h
  split at h
  · rename_i ds' e
    cases h
    obtain ⟨v, h1, h2⟩ := R.fz i _ e ho
    cases h2 with
    | @dct a kvs _ h3 h4 => exact ⟨a, kvs, R.hk.dK h3, h4, .inl h3, fun H1 Q _ q => ⟨_, h1, q⟩⟩
  · cases h
theorem dm_held (i : Nat) (ho : os.lookup i = some false := by rfl) (hN : X.N[i]? = some x := by rfl) (hv : Vis X.env.scope x := by first | exact Or.inl rfl | exact Or.inr (Or.inl rfl) | exact Or.inr (Or.inr rfl)) (hd : (x == ("__debug__" : Str)) = false := by decide)
    (hcd : (x == ("__classdict__" : Str)) = false := by decide) : PPm X Z os (.Name x p) (mdVar i) := by
  refine ⟨_, pe_var hN hv hd hcd, fun F H σ ρ ds R h => ?_⟩
  unfold mdVar at h
  split at h
  · rename_i ds' e
    cases h
    obtain ⟨l, h1, h2, h3⟩ := R.ow i _ false e ho
    obtain ⟨kvs, h4, h5⟩ := h3.dK
    exact ⟨l, kvs, h4, h5, .inr ⟨h2, fun σ' ρ' F' H' p R' => held_no ho e h1 p R'⟩, fun H1 Q _ q => ⟨_, h1, q⟩⟩
  · cases h
/-- o.f, o a frozen object of the class c at slot i -/
def mdFld (c f : Str) (i : Nat) : Rho → Option (List (Key × D)) := fun ρ => match ρ[i]? with
  | some (some (.obj c' fs)) => if c' = c then (match fs.lookup f with
      | some (.dct ds) => some ds
      | _ => none) else none
  | _ => none
theorem dm_fld {f : Str} {p2 : Pos} (c : Str) (i : Nat) (cl : Cls X.K (Z.z c)) (hn : NoAttr X.K (Z.z c) f) (ho : os.lookup i = none := by rfl) (hN : X.N[i]? = some x := by rfl) (hv : Vis X.env.scope x := by first | exact Or.inl rfl | exact Or.inr (Or.inl rfl) | exact Or.inr (Or.inr rfl)) (hd : (x == ("__debug__" : Str)) = false := by decide)
    (hcd : (x == ("__classdict__" : Str)) = false := by decide) (hb : attributeBase (.Name x p) f X.env (eval (.Name x p) X.env) = eval (.Name x p) X.env := by rfl) : PPm X Z os (.Attribute (.Name x p) f p2) (mdFld c f i) := by
  refine ⟨_, pe_fld (pe_var hN hv hd hcd) hb, fun F H σ ρ ds R h => ?_⟩
  unfold mdFld at h
  split at h
  · rename_i c' fs e
    by_cases hc : c' = c
    · rw [if_pos hc] at h
      subst hc
      split at h
      · rename_i ds' el
        cases h
        obtain ⟨v, h1, h2⟩ := R.fz i _ e ho
        cases h2 with
        | @obj a dx _ vs _ h3 h4 =>
          obtain ⟨w, g1, g2⟩ := (rpS_lookup h4 f).2 _ el
          cases g2 with
          | @dct b kvs _ h5 h6 =>
            refine ⟨b, kvs, R.hk.dK h5, h6, .inl h5, fun H1 Q lk q => ⟨_, h1, a, _, dx, vs, _, rfl, ?_, cl, hn, g1, q⟩⟩
            rcases lk a _ (R.hk.ins h3) with z | ⟨_, _, z, _⟩
            · exact z
            · cases z
      · cases h
    · rw [if_neg hc] at h; cases h
  · cases h
end
section
variable {F H F' H' : Hp} {σ σ' : St} {ρ ρ' : Rho} {l : Addr} {kvs : List (Key × V)} {od : Obj}
theorem env_lock (R : EnvR Z os F H σ ρ) (hl : H l = some (.dK kvs)) (hf : F l = some (.dK kvs) ∨ F l = none) (no : ¬ Ow os σ ρ l) : EnvR Z os F (upd H l (.frz od (.dK kvs))) σ ρ where
  ex := R.ex
  hk := ⟨fun a o e => by
    by_cases ea : a = l
    · subst ea
      rcases hf with z | z
      · rw [z] at e; cases e; exact .inr ⟨od, kvs, rfl, upd_same⟩
      · rw [z] at e; cases e
    · rw [upd_ne ea]; exact R.hk.le a o e, R.hk.sc⟩
  len := R.len
  fz := R.fz
  ow := fun i d b h n => by
    obtain ⟨l', q1, q2, q3⟩ := R.ow i d b h n
    refine ⟨l', q1, q2, ?_⟩
    by_cases e : l' = l
    · subst e
      cases b with
      | true => exact absurd ⟨i, n, ⟨d, h⟩, q1⟩ no
      | false =>
        cases d with
        | dct ds =>
          obtain ⟨kvs', h1, h2⟩ := q3
          rcases h1 with h1 | ⟨_, ob, h1⟩
          · rw [hl] at h1; cases h1
            exact ⟨kvs, .inr ⟨rfl, od, upd_same⟩, h2⟩
          · rw [hl] at h1; cases h1
        | lst ds => obtain ⟨vs, h1, _⟩ := q3; rw [hl] at h1; cases h1
        | obj c ds => obtain ⟨dx, vs, h1, _⟩ := q3; rw [hl] at h1; cases h1
        | _ => exact q3.elim
    · exact own_ne e q3
  ne := R.ne
theorem env_unlock (R : EnvR Z os F H σ ρ) (hl : H l = some (.frz od (.dK kvs))) (hf : F l = some (.dK kvs) ∨ F l = none) : EnvR Z os F (upd H l (.dK kvs)) σ ρ where
  ex := R.ex
  hk := ⟨fun a o e => by
    by_cases ea : a = l
    · subst ea
      rcases hf with z | z
      · rw [z] at e; cases e; exact .inl upd_same
      · rw [z] at e; cases e
    · rw [upd_ne ea]; exact R.hk.le a o e, R.hk.sc⟩
  len := R.len
  fz := R.fz
  ow := fun i d b h n => by
    obtain ⟨l', q1, q2, q3⟩ := R.ow i d b h n
    refine ⟨l', q1, q2, ?_⟩
    by_cases e : l' = l
    · subst e
      cases d with
      | dct ds =>
        obtain ⟨kvs', h1, h2⟩ := q3
        rcases h1 with h1 | ⟨_, ob, h1⟩
        · rw [hl] at h1; cases h1
        · rw [hl] at h1; cases h1
          exact ⟨kvs, .inl upd_same, h2⟩
      | lst ds => obtain ⟨vs, h1, _⟩ := q3; rw [hl] at h1; cases h1
      | obj c ds => obtain ⟨dx, vs, h1, _⟩ := q3; rw [hl] at h1; cases h1
      | _ => exact q3.elim
    · exact own_ne e q3
  ne := R.ne
theorem step_unlock {O O' : Addr → Prop} (hl : H l = some (.dK kvs)) (S : Step O O' F (upd H l (.frz od (.dK kvs))) F' H') : Step O O' F H F' (upd H' l (.dK kvs)) where
  f := S.f
  n := fun a o e => by
    rcases S.n a o e with z | z | z
    · exact .inl z
    · by_cases ea : a = l
      · subst ea; rw [upd_same] at z; cases z
      · rw [upd_ne ea] at z; exact .inr (.inl z)
    · exact .inr (.inr z)
  k := fun a o e n => by
    by_cases ea : a = l
    · subst ea; rw [hl] at e; cases e; exact upd_same
    · rw [upd_ne ea]; exact S.k a o (by rw [upd_ne ea]; exact e) n
  w := fun a z => by
    rcases S.w a z with z | z
    · exact .inl z
    · by_cases ea : a = l
      · subst ea; rw [upd_same] at z; cases z
      · rw [upd_ne ea] at z; exact .inr z
  d := fun a z => by
    by_cases ea : a = l
    · subst ea; rw [upd_same] at z; cases z
    · rw [upd_ne ea] at z
      have := S.d a z
      rw [upd_ne ea] at this
      exact this
/-- the frozen part at l stays as it is -/
theorem fz_stay {O O' : Addr → Prop} {H1 : Hp} (hf : F l = some (.dK kvs) ∨ F l = none) (no : ¬ O l) (hl : ∃ u, H1 l = some u) (S : Step O O' F H1 F' H') : F' l = some (.dK kvs) ∨ F' l = none := by
  rcases hf with z | z
  · exact .inl (S.f _ _ z)
  · cases e : F' l with
    | none => exact .inr rfl
    | some o =>
      rcases S.n l o e with w | w | w
      · rw [z] at w; cases w
      · obtain ⟨u, hu⟩ := hl; rw [hu] at w; cases w
      · exact absurd w no
theorem wk_keys {ds : List (Key × D)} (r : RpK Z F ds kvs) : Wk Z (Itk l od kvs) F [(l, .frz od (.dK kvs))] (ds.map fun p => kvD p.1) := fun i F' H' f k hk => by
  have q : H' l = some (.frz od (.dK kvs)) := hk (l, _) (by simp)
  have hlen : ds.length = kvs.length := r.length
  rw [List.length_map]
  refine ⟨fun hi => ⟨⟨q, by omega⟩, fun x H2 ⟨e, kk, v, h1, h2⟩ => ?_⟩, fun e => ⟨q, by omega⟩⟩
  subst e h2
  have hd : ds[i]? = some ds[i] := List.getElem?_eq_getElem hi
  have : (ds.map (·.1))[i]? = (kvs.map (·.1))[i]? := by rw [r.keys]
  rw [List.getElem?_map, List.getElem?_map, hd, h1] at this
  have e1 : ds[i].1 = kk := Option.some.inj this
  refine ⟨F', kvD kk, PStep.refl k, ?_, rp_kv kk⟩
  rw [List.getElem?_map, hd]
  exact congrArg (fun z => some (kvD z)) e1
end

/-! ### [e for k in d if t] -/
theorem PE.or {e : Expr} {t u : TE} (h1 : PE X e t) (h2 : PE X e u) : PE X e (fun σ H Q => t σ H Q ∨ u σ H Q) := ⟨fun pins s σ H Q I q => by
  rcases q with q | q
  · exact h1.run pins s σ H Q I q
  · exact h2.run pins s σ H Q I q⟩
theorem PS.or {s : Stmt} {t u : TS} (h1 : PS X s t) (h2 : PS X s u) : PS X s (fun D σ H => t D σ H ∨ u D σ H) := ⟨fun pins s σ H D I q => by
  rcases q with q | q
  · exact h1.run pins s σ H D I q
  · exact h2.run pins s σ H D I q⟩
theorem PEs.or {e : Expr} {t u : TE} (h1 : PEs X e t) (h2 : PEs X e u) : PEs X e (fun σ H Q => t σ H Q ∨ u σ H Q) := ⟨PE.or h1.1 h2.1, fun i y py spos a b c => PS.or (h1.2 i y py spos a b c) (h2.2 i y py spos a b c)⟩
theorem PEs.lock {e : Expr} {t : TE} (h : PEs X e t) : PEs X e (tLockE t) := ⟨pe_lock h.1, fun i y py spos a b c => ps_lock (h.2 i y py spos a b c)⟩
def mKeys (md : Rho → Option (List (Key × D))) : Rho → ER (List D) := fun ρ => match md ρ with
  | some ds => .ok (ds.map fun p => kvD p.1) ρ
  | none => .stuck
/-- the end of a block that walked a dict that was locked for it -/
theorem lc_endD {vs : List Nat} {F H : Hp} {σ : St} {ρ : Rho} {r : ER (List D)} {D0 l : Addr} {kvs : List (Key × V)} {od : Obj} {Q : VK} (off : offOs os vs = true) (R : EnvR Z os F H σ ρ) (hl : H l = some (.dK kvs)) (hf : F l = some (.dK kvs) ∨ F l = none) (no : ¬ Ow os σ ρ l) (hD : (upd H l (.frz od (.dK kvs))) D0 = none)
    (q : RunE Z E os .nw false F H σ ρ (mLcEnd vs ρ r) Q) : LcFin Z os (L2.wipe σ vs) (wipeR ρ vs) F (upd H l (.frz od (.dK kvs))) D0 [(l, .frz od (.dK kvs))] (fun H' => H' l = some (.frz od (.dK kvs)) ∧ Q (.ref D0) (upd H' l (.dK kvs))) r := by
  have hsw : ∀ j, j ∉ vs → (L2.wipe σ vs)[j]? = σ[j]? := fun j hj => L2.wipe_out hj
  have nel : D0 ≠ l := fun z => by subst z; rw [upd_same] at hD; cases hD
  cases r with
  | stuck => exact q.elim
  | exc c fs ρ' => exact q.elim
  | ok acc ρe =>
    intro F' H' S pn Re ⟨ws, h1, h2⟩ hF hO hk
    have hk : H' l = some (.frz od (.dK kvs)) := hk (l, _) (by simp)
    refine ⟨hk, ?_⟩
    have noW : ¬ Ow os (L2.wipe σ vs) (wipeR ρ vs) l := fun z => no ((ow_wipe off hsw).mp z)
    have hf' := fz_stay hf noW ⟨_, upd_same⟩ S
    have S' : Step (Ow os σ ρ) (Ow os σ (backR ρ ρe vs)) F (upd H l (.frz od (.dK kvs))) F' H' :=
      ⟨S.f, fun a o e => (S.n a o e).imp id (Or.imp id (ow_wipe off hsw).mp), fun a o e n => S.k a o e fun z => n ((ow_wipe off hsw).mp z), fun a z => (S.w a ((ow_back off).mp z)).imp (ow_wipe off hsw).mp id, S.d⟩
    have hHD : H D0 = none := by rw [upd_ne nel] at hD; exact hD
    refine q F' _ (.ref D0) (step_unlock hl S') (fun z => by cases z) (fun j hj => ?_) (R.back S.f (env_unlock Re hk hf') off) ⟨D0, rfl, .inr hHD, hF, fun z => hO ((oa_back off).mp z), ws, by rw [upd_ne nel]; exact h1, h2⟩
    have nj := off_not off hj
    refine ⟨rfl, ?_⟩
    rw [backR_out nj, (pn j hj).2, wipeR_out nj]
section
variable {elt tg iter : Expr} {ifs : List Expr} {scope : Scope} {own : List (Str × Nat)} {pos : Pos} {pu pu2 : Bool} {b : D → Rho → Option Rho} {mt : Rho → ER Bool} {me : ME}
theorem ec_lcD (own : List (Str × Nat)) {md : Rho → Option (List (Key × D))} (hc : X.calm = true) (hN : X.N.Nodup) (hi : PPm X Z os iter md) (ok : BlkOk X.N X.env.scope scope own)
    (hg : ∀ (a : Blk) (n : Nat), PGm (blkAt X scope a) Z os (others n (own.map (·.2))) tg b) (hb : LenB b) (ht : PIfs (blkAt X scope) Z (fun _ => E0) os ifs mt) (he : ∀ a : Blk, PEm (blkAt X scope a) Z (fun _ => E0) os .fz pu2 elt me)
    (off : offOs os (own.map (·.2)) = true := by rfl) (hs : ∀ x, foldedSetIterable iter X.env x = pure x := by intro _; rfl) :
    PCm X Z E os .nw false (.ListComp elt [⟨tg, iter, ifs, 0⟩] scope pos) (mLc (own.map (·.2)) b mt me (mKeys md)) := by
  obtain ⟨td, i1, i2⟩ := hi
  obtain ⟨g, g1, g2⟩ := all_gw hg
  obtain ⟨pu1, tt, t1, t2⟩ := ht
  obtain ⟨te, e1, e2⟩ := all_e he
  have pe := pes_lc (pos := pos) hc hN (pi_keys (tg := tg) i1) ok (fun s H C cl fp => g1 ⟨s, H, C, cl, fp⟩) (fun s H C cl fp => t1 ⟨s, H, C, cl, fp⟩) (fun s H C cl fp => e1 ⟨s, H, C, cl, fp⟩) hs
  refine ⟨_, PEs.or pe.lock pe, ?_⟩
  intro F H σ ρ Q R q
  unfold mLc mKeys at q
  cases hd : md ρ with
  | none => rw [hd] at q; exact q.elim
  | some ds =>
    rw [hd] at q
    change RunE Z E os .nw false F H σ ρ (if (ds.map fun p => kvD p.1).length ≤ sizeLine then _ else _) Q at q
    by_cases hz : (ds.map fun p => kvD p.1).length ≤ sizeLine
    · rw [if_pos hz] at q
      obtain ⟨l, kvs, hl, rk, hf, ev⟩ := i2 F H σ ρ ds R hd
      have no : ¬ Ow os σ ρ l := by
        rcases hf with z | ⟨_, z⟩
        · rintro ⟨j, h1, ⟨d, h2⟩, h3⟩
          obtain ⟨l', q1, q2, _⟩ := R.ow j d true h2 h1
          rw [h3] at q1; cases q1
          rw [z] at q2; cases q2
        · exact z σ ρ F H Pin.refl R
      have hf0 : F l = some (.dK kvs) ∨ F l = none := hf.imp id (·.1)
      have hkc : ∀ (H1 : Hp), (∃ u, H1 l = some u) → ∀ (a : Addr × HO) (ρ' : Rho) (ob : HO), (∃ F' H', Step (Ow os (L2.wipe σ (own.map (·.2))) (wipeR ρ (own.map (·.2)))) (Ow os (L2.wipe σ (own.map (·.2))) ρ') F H1 F' H' ∧ Pin os (L2.wipe σ (own.map (·.2))) (L2.wipe σ (own.map (·.2))) (wipeR ρ (own.map (·.2))) ρ' ∧ EnvR Z os F' H' (L2.wipe σ (own.map (·.2))) ρ') → a ∈ [(l, ob)] → ¬ Ow os (L2.wipe σ (own.map (·.2))) ρ' a.1 := fun H1 hu a ρ' ob ⟨F', H', S, pn, R'⟩ hp => by
        rw [List.mem_singleton.mp hp]
        intro z
        rcases S.w _ z with w | w
        · exact no ((ow_wipe off fun j hj => L2.wipe_out hj).mp w)
        · obtain ⟨u, hu⟩ := hu; rw [hu] at w; cases w
      have Rw := R.wipe off (L2.wipe_length σ (own.map (·.2))) fun j hj => L2.wipe_out hj
      rcases hl with hl | ⟨od, hl⟩
      · refine .inl ⟨l, .dK kvs, hl, trivial, fun od => ?_⟩
        refine ev _ _ (Lk.one hl) ⟨l, od, rfl, .inl ⟨kvs, upd_same, fun D0 hD => ?_⟩⟩
        have R1 := env_lock (od := od) R hl hf0 no
        exact lc_go hb g2 t2 e2 rfl off (wk_keys rk) (Same.refl F) (R1.wipe off (L2.wipe_length _ _) fun j hj => L2.wipe_out hj) (fun p hp => by rw [List.mem_singleton.mp hp]; exact upd_same) (fun a ρ' h hp => hkc _ ⟨_, upd_same⟩ a ρ' _ h hp) hD hz (lc_endD off R hl hf0 no hD q)
      · refine .inr (ev H _ (Lk.refl H) ⟨l, od, rfl, .inl ⟨kvs, hl, fun D0 hD => ?_⟩⟩)
        exact lc_go hb g2 t2 e2 rfl off (wk_keys rk) (Same.refl F) Rw (fun p hp => by rw [List.mem_singleton.mp hp]; exact hl) (fun a ρ' h hp => hkc _ ⟨_, hl⟩ a ρ' _ h hp) hD hz (lc_end off Step.refl Pin.refl R hD q).kc
    · rw [if_neg hz] at q; exact q.elim
end

/-! ### for k in d: .. (the body raises nothing) -/
def noX : SR → SR
  | .exc _ _ _ => .stuck
  | r => r
def mForD (b : D → Rho → Option Rho) (md : Rho → Option (List (Key × D))) (body : MS) : MS := fun ρ => match md ρ with
  | some ds => noX (mLoop b body (ds.map fun p => kvD p.1) ρ)
  | none => .stuck
theorem sm_forD {tg iter : Expr} {body : List Stmt} {pos : Pos} {b : D → Rho → Option Rho} {md : Rho → Option (List (Key × D))} {m : MS} (hp : PassesOwn (model X.prog X.w) X.A X.env X.xe) (hc : X.calm = true) (hi : PPm X Z os iter md) (hg : PGm X Z os io tg b) (hb : PSsm X Z E os io rf body m) (hrf : rf ≠ .bo := by intro h; cases h) (hs : ∀ x, foldedSetIterable iter X.env x = pure x := by intro _; rfl) :
    PSm X Z E os io rf (.For tg iter body [] pos) (mForD b md m) := by
  obtain ⟨td, i1, i2⟩ := hi
  obtain ⟨g, g1, g2⟩ := hg
  obtain ⟨tb, b1, b2⟩ := hb
  have pf := ps_for (pos := pos) hp hc (pi_keys (tg := tg) i1) g1 b1 hs
  refine ⟨_, PS.or (ps_lock pf) pf, fun F H σ ρ K R q => ?_⟩
  unfold mForD at q
  cases hd : md ρ with
  | none => rw [hd] at q; exact q.elim
  | some ds =>
    rw [hd] at q
    dsimp only at q
    obtain ⟨l, kvs, hl, rk, hf, ev⟩ := i2 F H σ ρ ds R hd
    have no : ¬ Ow os σ ρ l := by
      rcases hf with z | ⟨_, z⟩
      · rintro ⟨j, h1, ⟨d, h2⟩, h3⟩
        obtain ⟨l', q1, q2, _⟩ := R.ow j d true h2 h1
        rw [h3] at q1; cases q1
        rw [z] at q2; cases q2
      · exact z σ ρ F H Pin.refl R
    have hf0 : F l = some (.dK kvs) ∨ F l = none := hf.imp id (·.1)
    have hkc : ∀ (H1 : Hp), (∃ u, H1 l = some u) → ∀ F' H' σ' ρ', Go Z os io σ ρ F H1 σ' ρ' F' H' → ¬ Ow os σ' ρ' l := fun H1 hu F' H' σ' ρ' g z => by
      rcases g.s.w _ z with w | w
      · exact no w
      · obtain ⟨u, hu⟩ := hu; rw [hu] at w; cases w
    rcases hl with hl | ⟨od, hl⟩
    · refine .inl ⟨l, .dK kvs, hl, trivial, fun od => ?_⟩
      refine ev _ _ (Lk.one hl) ⟨l, od, rfl, .inl ⟨kvs, upd_same, ?_⟩⟩
      have R1 := env_lock (od := od) R hl hf0 no
      have un : ∀ {F' H' σ' ρ'}, Go Z os io σ ρ F (upd H l (.frz od (.dK kvs))) σ' ρ' F' H' → H' l = some (.frz od (.dK kvs)) ∧ Go Z os io σ ρ F H σ' ρ' F' (upd H' l (.dK kvs)) := fun {F' H' σ' ρ'} g => by
        have hk := g.s.k l _ upd_same no
        exact ⟨hk, step_unlock hl g.s, g.p, env_unlock g.e hk (fz_stay hf0 no ⟨_, upd_same⟩ g.s), g.io⟩
      refine loop_go g2 b2 (wk_keys rk) (Same.refl F) R1 (fun p hp => by rw [List.mem_singleton.mp hp]; exact upd_same) (fun F' H' σ' ρ' g p hp => by rw [List.mem_singleton.mp hp]; exact hkc _ ⟨_, upd_same⟩ _ _ _ _ g) ?_
      revert q
      cases mLoop b m (ds.map fun p => kvD p.1) ρ with
      | nx ρ' => exact fun q F' H' σ' g => ⟨(un g).1, q F' _ σ' (un g).2⟩
      | bk ρ' => exact fun q F' H' σ' g => ⟨(un g).1, q F' _ σ' (un g).2⟩
      | ct ρ' => exact fun q F' H' σ' g => ⟨(un g).1, q F' _ σ' (un g).2⟩
      | rt d ρ' =>
        intro q F' H' σ' v g r
        refine ⟨(un g).1, q F' _ σ' v (un g).2 ?_⟩
        cases rf with
        | fz => exact r
        | nw =>
          obtain ⟨l', r1, r2, r3, r4, r5⟩ := r
          have ne : l' ≠ l := fun z => by
            subst z
            rcases r2 with w | w
            · exact no w
            · rw [upd_same] at w; cases w
          exact ⟨l', r1, r2.imp id fun w => by rw [upd_ne ne] at w; exact w, r3, r4, own_ne ne r5⟩
        | bo => exact absurd rfl hrf
      | exc c fs ρ' => exact fun q => q.elim
      | stuck => exact fun q => q.elim
    · refine .inr (ev H _ (Lk.refl H) ⟨l, od, rfl, .inl ⟨kvs, hl, ?_⟩⟩)
      refine loop_go g2 b2 (wk_keys rk) (Same.refl F) R (fun p hp => by rw [List.mem_singleton.mp hp]; exact hl) (fun F' H' σ' ρ' g p hp => by rw [List.mem_singleton.mp hp]; exact hkc _ ⟨_, hl⟩ _ _ _ _ g) ?_
      revert q
      cases mLoop b m (ds.map fun p => kvD p.1) ρ with
      | exc c fs ρ' => exact fun q => q.elim
      | _ => exact fun q => q
end Vm
/-! Vm16: dict comprehensions. -/
namespace Vm
open PySem L2
variable {Z : Par} {E : St → XK} {os : Os} {X : Cx} {io : List Nat} {rf : Fl}
theorem length_putD (kvs : List (Key × D)) (k : Key) (v : D) : (putD kvs k v).length ≤ kvs.length + 1 := by
  unfold putD
  split
  · rw [List.length_map]; omega
  · rw [List.length_append, List.length_singleton]; omega
def mDcL (vs : List Nat) (b : D → Rho → Option Rho) (mt : Rho → ER Bool) (mk me : ME) : List D → List (Key × D) → Rho → ER (List (Key × D))
  | [], acc, ρ => .ok acc ρ
  | d :: ds, acc, ρ => match b d ρ with
    | none => .stuck
    | some ρ1 => match mt ρ1 with
      | .ok true ρ2 => match mk ρ2 with
        | .ok kd ρ3 => match keyD kd with
          | some k => match me ρ3 with
            | .ok y ρ4 => mDcL vs b mt mk me ds (putD acc k y) (wipeR ρ4 vs)
            | _ => .stuck
          | none => .stuck
        | _ => .stuck
      | .ok false ρ2 => mDcL vs b mt mk me ds acc (wipeR ρ2 vs)
      | _ => .stuck
def DcFin (Z : Par) (os : Os) (σw : St) (ρw : Rho) (F H : Hp) (D0 : Addr) (kc : List (Addr × HO)) (Qd : Hp → Prop) : ER (List (Key × D)) → Prop
  | .ok acc ρe => ∀ (F' H' : Hp), Step (Ow os σw ρw) (Ow os σw ρe) F H F' H' → Pin os σw σw ρw ρe → EnvR Z os F' H' σw ρe → (∃ ws, H' D0 = some (.dK ws) ∧ RpK Z F' acc ws) → F' D0 = none → ¬ Oa os σw ρe D0 → (∀ p ∈ kc, H' p.1 = some p.2) → Qd H'
  | _ => False
theorem dc_go {J : It} {g : TG} {tt : TT} {tk te : TE} {b : D → Rho → Option Rho} {mt : Rho → ER Bool} {mk me : ME} {pu1 pu2 pu3 : Bool} {ds : List D} {F0 : Hp} {kc : List (Addr × HO)} {vs : List Nat} {F H : Hp} {σ : St} {ρw : Rho} {D0 : Addr} {Qd : Hp → Prop} {n : Nat}
    (hb : LenB b) (hg : SimGw Z os vs g b) (ht : SimT Z (fun _ => E0) os pu1 tt mt) (hkk : SimE Z (fun _ => E0) os .fz pu3 tk mk) (he : SimE Z (fun _ => E0) os .fz pu2 te me) (hn : σ.length = n) (off : offOs os vs = true)
    (w : Wk Z J F0 kc ds) (f0 : Same F0 F) (R : EnvR Z os F H (L2.wipe σ vs) ρw) (hk : ∀ p ∈ kc, H p.1 = some p.2) (hkc : ∀ a ρ', (∃ F' H', Step (Ow os (L2.wipe σ vs) ρw) (Ow os (L2.wipe σ vs) ρ') F H F' H' ∧ Pin os (L2.wipe σ vs) (L2.wipe σ vs) ρw ρ' ∧ EnvR Z os F' H' (L2.wipe σ vs) ρ') → a ∈ kc → ¬ Ow os (L2.wipe σ vs) ρ' a.1)
    (hD : H D0 = none) (hz : ds.length ≤ sizeLine) (q : DcFin Z os (L2.wipe σ vs) ρw F H D0 kc Qd (mDcL vs b mt mk me ds [] ρw)) :
    ∃ W : Nat → Nat → Hp → Prop, (∃ m, W 0 m (upd H D0 (.dK []))) ∧ ∀ i m H, W i m H →
      (J.stop i H ∧ Qd H) ∨ (J.go i H ∧ ∃ Nx : Hp → Prop, (∀ H', Nx H' → ∃ m', m' < m ∧ W (i + 1) m' H') ∧ ∀ x H', J.yld i H x H' → g x (L2.wipe σ vs) H' fun σ2 H2 => L2.wipe σ2 vs = L2.wipe σ vs ∧ tt σ2 H2 fun b H3 =>
        if b = true then tk σ2 H3 fun y H4 => te σ2 H4 fun z H5 => ∃ kvs k, y = kV k ∧ H5 D0 = some (.dK kvs) ∧ kvs.length < sizeLine ∧ Nx (upd H5 D0 (.dK (putK kvs k z))) else Nx H3) := by
  generalize hσ : L2.wipe σ vs = σw at *
  have hσl : σw.length = n := by rw [← hσ, L2.wipe_length, hn]
  have nkD : ∀ p ∈ kc, p.1 ≠ D0 := fun p hp z => by have := hk p hp; rw [z, hD] at this; cases this
  -- what holds at each turn
  let Inv := fun (i : Nat) (H' : Hp) => ∃ F' ρ' acc ws, Step (Ow os σw ρw) (Ow os σw ρ') F H F' H' ∧ Pin os σw σw ρw ρ' ∧ EnvR Z os F' H' σw ρ' ∧ (H' D0 = some (.dK ws) ∧ RpK Z F' acc ws) ∧ F' D0 = none ∧ ¬ Oa os σw ρ' D0 ∧ (∀ p ∈ kc, H' p.1 = some p.2) ∧ acc.length ≤ i ∧
    DcFin Z os σw ρw F H D0 kc Qd (mDcL vs b mt mk me (ds.drop i) acc ρ')
  refine ⟨fun i m H' => m = ds.length - i ∧ i ≤ ds.length ∧ Inv i H', ⟨ds.length, by simp, Nat.zero_le _, F, ρw, [], [], ?_, Pin.refl, ?_, ⟨upd_same, .nil⟩, R.hk.none hD, ?_, fun p hp => by rw [upd_ne (nkD p hp)]; exact hk p hp, Nat.le_refl _, by rw [List.drop_zero]; exact q⟩, ?_⟩
  · exact (PStep.newH R.hk hD).step
  · exact R.pstep (PStep.newH R.hk hD)
  · rintro ⟨i, b, h1, ⟨d, h2⟩, h3⟩
    obtain ⟨l, q1, _, q3⟩ := R.ow i d b h2 h1
    rw [h3] at q1; cases q1
    obtain ⟨u, hu⟩ := q3.some
    rw [hD] at hu; cases hu
  rintro i m H1 ⟨rfl, hi, F1, ρ1, acc, ws, S1, pn1, R1, ⟨hD1, ra1⟩, FD1, OD1, hk1, hal, q1⟩
  obtain ⟨w1, w2⟩ := w i F1 H1 (f0.trans S1.f) R1.hk hk1
  by_cases hlt : i < ds.length
  · obtain ⟨jg, jy⟩ := w1 hlt
    have hd : ds.drop i = ds[i] :: ds.drop (i + 1) := List.drop_eq_getElem_cons hlt
    refine .inr ⟨jg, fun H' => Inv (i + 1) H', fun H' h => ⟨ds.length - (i + 1), by omega, rfl, hlt, h⟩, fun x H2 y => ?_⟩
    obtain ⟨F2, d, ps, hd2, r⟩ := jy x H2 y
    have ed : d = ds[i] := by rw [List.getElem?_eq_getElem hlt] at hd2; exact (Option.some.inj hd2).symm
    subst ed
    have R2 := R1.pstep ps
    refine hg F2 H2 σw ρ1 ds[i] x _ R2 r ?_
    rw [hd] at q1
    unfold mDcL at q1
    revert q1
    cases eb : b ds[i] ρ1 with
    | none => exact fun z => z
    | some ρ3 =>
      intro q1 σ3 g3
      dsimp only at q1
      have l3 : σ3.length = σw.length := by rw [g3.e.len, hb _ _ _ eb, R1.len]
      have s3 : ∀ j, j ∉ vs → σw[j]? = σ3[j]? := fun j hj => by
        by_cases hjl : j < n
        · exact (g3.io j (mem_others (by omega) hj)).symm
        · rw [List.getElem?_eq_none (by omega), List.getElem?_eq_none (by omega)]
      have hw3 : L2.wipe σ3 vs = σw := by
        rw [← hσ]
        refine wipe_eq (by rw [l3, ← hσ, L2.wipe_length]) fun j hj => ?_
        rw [← s3 j hj, ← hσ, L2.wipe_out hj]
      refine ⟨hw3, ?_⟩
      refine ht F2 H2 σ3 ρ3 _ g3.e ?_
      have D2 : H2 D0 = some (.dK ws) := ps.h _ _ hD1
      have F2D : F2 D0 = none := by
        cases e : F2 D0 with
        | none => rfl
        | some u =>
          rcases ps.n D0 u e with z | z
          · rw [FD1] at z; cases z
          · rw [hD1] at z; cases z
      have O3 : ¬ Oa os σ3 ρ3 D0 := fun z => by
        obtain ⟨j, c, h1, ⟨e, h2⟩, h3⟩ := z
        have : Ow os σ3 ρ3 D0 ∨ c = false := by
          cases c with
          | true => exact .inl ⟨j, h1, ⟨e, h2⟩, h3⟩
          | false => exact .inr rfl
        rcases this with t | t
        · rcases g3.s.w D0 t with z | z
          · exact OD1 z.oa
          · rw [D2] at z; cases z
        · subst t
          obtain ⟨p1, p2⟩ := g3.p j h1
          rw [p1] at h3
          rw [p2] at h2
          exact OD1 ⟨j, false, h1, ⟨e, h2⟩, h3⟩
      -- the turn's end
      have fin : ∀ (F4 H4 : Hp) (ρ4 : Rho) (acc' : List (Key × D)) (ws' : List (Key × V)) (ob : Bool), Step (Ow os σ3 ρ3) (Ow os σ3 ρ4) F2 H2 F4 H4 → Pin os σ3 σ3 ρ3 ρ4 → EnvR Z os F4 H4 σ3 ρ4 → RpK Z F4 acc' ws' → acc'.length ≤ i + 1 →
          DcFin Z os σw ρw F H D0 kc Qd (mDcL vs b mt mk me (ds.drop (i + 1)) acc' (wipeR ρ4 vs)) → Inv (i + 1) (upd H4 D0 (.dK ws')) := fun F4 H4 ρ4 acc' ws' _ S4 pn4 R4 ra hl q4 => by
        obtain ⟨D4, F4D, O4⟩ : H4 D0 = some (.dK ws) ∧ F4 D0 = none ∧ ¬ Oa os σ3 ρ4 D0 := by
          have nO : ¬ Ow os σ3 ρ3 D0 := fun z => O3 z.oa
          refine ⟨S4.k _ _ D2 nO, ?_, fun z => ?_⟩
          · cases e : F4 D0 with
            | none => rfl
            | some u =>
              rcases S4.n D0 u e with z | z | z
              · rw [F2D] at z; cases z
              · rw [D2] at z; cases z
              · exact absurd z nO
          · rcases Oa.back S4 (fun j hj => (pn4 j hj).2) z with z | z
            · exact O3 z
            · rw [D2] at z; cases z
        have Sw : Step (Ow os σw ρ1) (Ow os σw (wipeR ρ4 vs)) F1 H1 F4 H4 := by
          have t := (ps.step (O := Ow os σw ρ1)).trans (g3.s.trans S4)
          exact ⟨t.f, t.n, t.k, fun a h => t.w a ((ow_wipe off s3).mp h), t.d⟩
        have St := S1.trans Sw
        have Rw : EnvR Z os F4 H4 σw (wipeR ρ4 vs) := R4.wipe off l3.symm s3
        have Ow' : ¬ Oa os σw (wipeR ρ4 vs) D0 := fun z => O4 ((oa_wipe off s3).mp z)
        refine ⟨F4, wipeR ρ4 vs, acc', ws', ⟨St.f, St.n, fun a o e n => ?_, St.w, fun a z => ?_⟩, pn1.trans fun j hj => ?_, env_updX Rw F4D Ow', ⟨upd_same, ra⟩, F4D, Ow', fun p hp => ?_, hl, q4⟩
        · rw [upd_ne (fun z => by subst z; rw [hD] at e; cases e)]; exact St.k a o e n
        · by_cases ea : a = D0
          · subst ea; exact hD
          · rw [upd_ne ea] at z; exact St.d a z
        · have nj := off_not off hj
          refine ⟨rfl, ?_⟩
          rw [wipeR_out nj, (pn4 j hj).2, (g3.p j hj).2]
        · rw [upd_ne (nkD p hp)]
          have e1 := hk1 p hp
          exact Sw.k _ _ e1 (hkc p ρ1 ⟨F1, H1, S1, pn1, R1⟩ hp)
      revert q1
      cases mt ρ3 with
      | stuck => exact fun z => z.elim
      | exc c fs ρ' => exact fun z => z.elim
      | ok bv ρ4 =>
        cases bv with
        | false =>
          intro q1 F3 H3 S3 _ pn3 R3
          rw [if_neg Bool.false_ne_true]
          have e3 : H3 D0 = some (.dK ws) := S3.k _ _ D2 (fun z => O3 z.oa)
          have := fin F3 H3 ρ4 acc ws true S3 pn3 R3 (ra1.mono (ps.f.trans S3.f)) (by omega) q1
          have eH : upd H3 D0 (.dK ws) = H3 := by
            funext a
            by_cases ea : a = D0
            · subst ea; rw [upd_same, e3]
            · rw [upd_ne ea]
          rw [eH] at this
          exact this
        | true =>
          intro q1 F3 H3 S3 _ pn3 R3
          rw [if_pos rfl]
          refine hkk F3 H3 σ3 ρ4 _ R3 ?_
          dsimp only at q1
          revert q1
          cases mk ρ4 with
          | stuck => exact fun z => z.elim
          | exc c fs ρ' => exact fun z => z.elim
          | ok yd ρ5 =>
            intro q1 F4 H4 kv S4 _ pn4 R4 r4
            dsimp only at q1
            revert q1
            cases ek : keyD yd with
            | none => exact fun z => z.elim
            | some k' =>
              intro q1
              dsimp only at q1
              refine he F4 H4 σ3 ρ5 _ R4 ?_
              revert q1
              cases me ρ5 with
              | stuck => exact fun z => z.elim
              | exc c fs ρ' => exact fun z => z.elim
              | ok vd ρ6 =>
                intro q1 F5 H5 vv S5 _ pn5 R5 r5
                have nO : ¬ Ow os σ3 ρ3 D0 := fun z => O3 z.oa
                have S35 := (S3.trans S4).trans S5
                have e5 : H5 D0 = some (.dK ws) := S35.k _ _ D2 nO
                have hl5 := ra1.length
                refine ⟨ws, k', keyD_kV ek (Rp.lv R4.hk r4), e5, by omega, ?_⟩
                exact fin F5 H5 ρ6 (putD acc k' vd) (putK ws k' vv) true S35 ((pn3.trans pn4).trans pn5) R5 ((ra1.mono (ps.f.trans S35.f)).put k' r5) (by have := length_putD acc k' vd; omega) q1
  · have e : i = ds.length := by omega
    subst e
    rw [List.drop_length] at q1
    exact .inl ⟨w2 rfl, q1 F1 H1 S1 pn1 R1 ⟨ws, hD1, ra1⟩ FD1 OD1 hk1⟩

def mDcEnd (vs : List Nat) (ρ1 : Rho) : ER (List (Key × D)) → ER D
  | .ok acc ρe => .ok (.dct acc) (backR ρ1 ρe vs)
  | _ => .stuck
def mDc (vs : List Nat) (b : D → Rho → Option Rho) (mt : Rho → ER Bool) (mk me : ME) (mi : Rho → ER (List D)) : ME := fun ρ => match mi ρ with
  | .ok ds ρ1 => if ds.length ≤ sizeLine then mDcEnd vs ρ1 (mDcL vs b mt mk me ds [] (wipeR ρ1 vs)) else .stuck
  | .exc c fs ρ' => .exc c fs ρ'
  | .stuck => .stuck
theorem dc_end {vs : List Nat} {F H F1 H1 : Hp} {σ : St} {ρ ρ1 : Rho} {r : ER (List (Key × D))} {D0 : Addr} {Q : VK} (off : offOs os vs = true) (s : Step (Ow os σ ρ) (Ow os σ ρ1) F H F1 H1) (p : Pin os σ σ ρ ρ1) (R : EnvR Z os F1 H1 σ ρ1) (hD : H1 D0 = none)
    (q : RunE Z E os .nw false F H σ ρ (mDcEnd vs ρ1 r) Q) : DcFin Z os (L2.wipe σ vs) (wipeR ρ1 vs) F1 H1 D0 [] (fun H' => Q (.ref D0) H') r := by
  have hsw : ∀ j, j ∉ vs → (L2.wipe σ vs)[j]? = σ[j]? := fun j hj => L2.wipe_out hj
  cases r with
  | stuck => exact q.elim
  | exc c fs ρ' => exact q.elim
  | ok acc ρe =>
    intro F' H' S pn Re ⟨ws, h1, h2⟩ hF hO _
    have S' : Step (Ow os σ ρ1) (Ow os σ (backR ρ1 ρe vs)) F1 H1 F' H' :=
      ⟨S.f, fun a o e => (S.n a o e).imp id (Or.imp id (ow_wipe off hsw).mp), fun a o e n => S.k a o e fun z => n ((ow_wipe off hsw).mp z), fun a z => (S.w a ((ow_back off).mp z)).imp (ow_wipe off hsw).mp id, S.d⟩
    refine q F' H' (.ref D0) (s.trans S') (fun z => by cases z) (p.trans fun j hj => ?_) (R.back S.f Re off) ⟨D0, rfl, .inr (s.d _ hD), hF, fun z => hO ((oa_back off).mp z), ws, .inl h1, h2⟩
    have nj := off_not off hj
    refine ⟨rfl, ?_⟩
    rw [backR_out nj, (pn j hj).2, wipeR_out nj]
section
variable {kx vx tg iter : Expr} {ifs : List Expr} {scope : Scope} {own : List (Str × Nat)} {pos : Pos} {pu pu2 pu3 : Bool} {b : D → Rho → Option Rho} {mt : Rho → ER Bool} {mk me : ME} {mi : Rho → ER (List D)}
/-- name = {..} on one line, the name a local -/
theorem ps_setDc {i : Nat} {y : Str} {py : Pos} {kx vx tg iter : Expr} {ifs : List Expr} {scope : Scope} {own : List (Str × Nat)} {pos spos : Pos} {wi : TI} {g : TG} {tt : TT} {tk tv : TE} (hc : X.calm = true) (hN : X.N.Nodup) (hy : X.N[i]? = some y) (hyl : X.env.scope.names.lookup y = some .local)
    (hsw : swapsWith (.DictComp kx vx [⟨tg, iter, ifs, 0⟩] scope pos) (some (.Name y py)) spos.line X.env = pure true) (hi : PI X tg iter wi) (ok : BlkOk X.N X.env.scope scope own)
    (hg : ∀ (s : Shared) (H : Hp) (C : Addr) (cl : List (Str × Addr)) (fp : List Addr), PG (X.blk s H scope (compEnvC scope cl C X.env) fp) tg g) (ht : ∀ (s : Shared) (H : Hp) (C : Addr) (cl : List (Str × Addr)) (fp : List Addr), PTs (X.blk s H scope (compEnvC scope cl C X.env) fp) ifs tt)
    (hk : ∀ (s : Shared) (H : Hp) (C : Addr) (cl : List (Str × Addr)) (fp : List Addr), PE (X.blk s H scope (compEnvC scope cl C X.env) fp) kx tk)
    (he : ∀ (s : Shared) (H : Hp) (C : Addr) (cl : List (Str × Addr)) (fp : List Addr), PE (X.blk s H scope (compEnvC scope cl C X.env) fp) vx tv) (hs : ∀ x, foldedSetIterable iter X.env x = pure x) :
    PS X (.Assign [.Name y py] (.DictComp kx vx [⟨tg, iter, ifs, 0⟩] scope pos) spos) (tAsg (tDc wi g tt tk tv (own.map (·.2))) (gName i)) := by
  refine ⟨fun pins s σ H D I h => ?_⟩
  rw [exec_Assign_Name_used _ _ _ _ hsw]
  refine wpAny_bind (wpAny_standAt (wpAny_bind ?_))
  show wpAny _ X.A (do let _ ← comprehension (.DictComp kx vx [⟨tg, iter, ifs, 0⟩] scope pos) scope X.env (firstIterPos [⟨tg, iter, ifs, 0⟩] pos) newDict false (eval iter X.env) (some (assign (.Name y py) X.env))) _ _ s
  have h : tDc wi g tt tk tv (own.map (·.2)) σ H (fun x H1 => gName i x σ H1 D.nx) := h
  refine wpAny_bind (thn (dc_core (Qf := fun _ s' => SP X pins D .next s') hc hN I hi ok hg ht hk he hs h fun L C s' m H' I' q hn f => ?_) fun _ s' hq => wpAny_pure (wpAny_pure hq))
  show wpAny _ _ (assign (.Name y py) X.env (.ref L)) _ _ _
  refine wpAny_assign_Name (store_ok2 (v := V.ref L) I' hN hy (.inl hyl) rfl (fun s2 I2 ⟨a, sb, ha⟩ => ?_) (.inr hyl))
  obtain ⟨f0, f1, f2, f3, f4, f5⟩ := f
  have haC : C ≠ a := by
    rcases ha with z | z
    · rw [z]; exact f1
    · exact fun e => f4 y a z e.symm
  refine ⟨m, hn.sameBut sb haC, fun h3 sb3 => ?_⟩
  exact ⟨_, H', I2.turned (t' := s2.toks) (fun b o hb e => (sb3.2 b hb).trans e) f0 f1 f3 f4 f5, q⟩
theorem pes_dc {kx vx tg iter : Expr} {ifs : List Expr} {scope : Scope} {own : List (Str × Nat)} {pos : Pos} {wi : TI} {g : TG} {tt : TT} {tk tv : TE} (hc : X.calm = true) (hN : X.N.Nodup) (hi : PI X tg iter wi) (ok : BlkOk X.N X.env.scope scope own)
    (hg : ∀ (s : Shared) (H : Hp) (C : Addr) (cl : List (Str × Addr)) (fp : List Addr), PG (X.blk s H scope (compEnvC scope cl C X.env) fp) tg g) (ht : ∀ (s : Shared) (H : Hp) (C : Addr) (cl : List (Str × Addr)) (fp : List Addr), PTs (X.blk s H scope (compEnvC scope cl C X.env) fp) ifs tt)
    (hk : ∀ (s : Shared) (H : Hp) (C : Addr) (cl : List (Str × Addr)) (fp : List Addr), PE (X.blk s H scope (compEnvC scope cl C X.env) fp) kx tk)
    (he : ∀ (s : Shared) (H : Hp) (C : Addr) (cl : List (Str × Addr)) (fp : List Addr), PE (X.blk s H scope (compEnvC scope cl C X.env) fp) vx tv) (hs : ∀ x, foldedSetIterable iter X.env x = pure x) :
    PEs X (.DictComp kx vx [⟨tg, iter, ifs, 0⟩] scope pos) (tDc wi g tt tk tv (own.map (·.2))) :=
  ⟨pe_dc hc hN hi ok hg ht hk he hs, fun i y py spos hy hl hsw => ps_setDc hc hN hy hl hsw hi ok hg ht hk he hs⟩
theorem ec_dc (own : List (Str × Nat)) (hc : X.calm = true) (hN : X.N.Nodup) (hi : PIm X Z E os pu tg iter mi) (ok : BlkOk X.N X.env.scope scope own)
    (hg : ∀ (a : Blk) (n : Nat), PGm (blkAt X scope a) Z os (others n (own.map (·.2))) tg b) (hb : LenB b) (ht : PIfs (blkAt X scope) Z (fun _ => E0) os ifs mt) (hk : ∀ a : Blk, PEm (blkAt X scope a) Z (fun _ => E0) os .fz pu3 kx mk) (he : ∀ a : Blk, PEm (blkAt X scope a) Z (fun _ => E0) os .fz pu2 vx me)
    (off : offOs os (own.map (·.2)) = true := by rfl) (hs : ∀ x, foldedSetIterable iter X.env x = pure x := by intro _; rfl) :
    PCm X Z E os .nw false (.DictComp kx vx [⟨tg, iter, ifs, 0⟩] scope pos) (mDc (own.map (·.2)) b mt mk me mi) := by
  obtain ⟨wi, i1, i2⟩ := hi
  obtain ⟨g, g1, g2⟩ := all_gw hg
  obtain ⟨pu1, tt, t1, t2⟩ := ht
  obtain ⟨tk, k1, k2⟩ := all_e hk
  obtain ⟨te, e1, e2⟩ := all_e he
  refine ⟨_, pes_dc hc hN i1 ok (fun s H C cl fp => g1 ⟨s, H, C, cl, fp⟩) (fun s H C cl fp => t1 ⟨s, H, C, cl, fp⟩) (fun s H C cl fp => k1 ⟨s, H, C, cl, fp⟩) (fun s H C cl fp => e1 ⟨s, H, C, cl, fp⟩) hs, ?_⟩
  intro F H σ ρ Q R q
  refine i2 F H σ ρ _ R ?_
  unfold mDc at q
  revert q
  cases mi ρ with
  | stuck => exact fun z => z
  | exc c fs ρ' => exact fun z => z
  | ok ds ρ1 =>
    intro q F1 H1 J s _ p R1 w D0 hD
    by_cases hz : ds.length ≤ sizeLine
    · dsimp only at q
      rw [if_pos hz] at q
      exact dc_go hb g2 t2 k2 e2 rfl off w (Same.refl F1) (R1.wipe off (L2.wipe_length _ _) fun j hj => L2.wipe_out hj) (fun p hp => by cases hp) (fun _ _ _ hp => by cases hp) hD hz (dc_end off s p R1 hD q)
    · dsimp only at q
      rw [if_neg hz] at q
      exact q.elim
end
end Vm
/-! Vm17: exceptions. -/
namespace Vm
open PySem L2
variable {Z : Par} {E : St → XK} {os : Os} {X : Cx} {io : List Nat} {rf : Fl}

/-! ### several except clauses, with and without a name -/
abbrev TSu := Addr → Value → Option Addr → TS
def endsAs (i : Nat) (D : Ends) : Ends := { nx := fun σ' H' => D.nx (σ'.set i none) H', rt := D.rt, bk := fun σ' H' => D.bk (σ'.set i none) H', ct := fun σ' H' => D.ct (σ'.set i none) H' }
def wN (K : PySem.W.Frag) (Wout : WX) (D : Ends) : List (Value × Option Nat × TSu) → WX
  | [] => Wout
  | (c, none, ts) :: r => fun cls d σ H => ∃ b, PySem.W.exmOne K cls c = some b ∧ (b = true → ∀ a, H a = none → ts a cls d D σ H) ∧ (b = false → wN K Wout D r cls d σ H)
  | (c, some i, ts) :: r => fun cls d σ H => ∃ b, PySem.W.exmOne K cls c = some b ∧ (b = true → ∀ a, H a = none → ts a cls d (endsAs i D) (σ.set i (some (.ref a))) H) ∧ (b = false → wN K Wout D r cls d σ H)
inductive HdsN (X : Cx) : List ExceptHandler → List (Value × Option Nat × TSu) → Prop
  | nil : HdsN X [] []
  | bare {x : Str} {c : Value} {ts : TSu} {b₀ : Stmt} {suite : List Stmt} {np pos' : Pos} {hds : List ExceptHandler} {l : List (Value × Option Nat × TSu)} (hc : Names X x c)
      (hsu : ∀ (a : Addr) (oe : Obj) (cls : Value) (d : Option Addr) (pn : List (Addr × Obj)), Zc cls d oe → (∃ vs, oe.data = .fields vs) → PSs (X.suite a ((a, oe) :: pn)) (b₀ :: suite) (ts a cls d)) (r : HdsN X hds l) :
      HdsN X (.ExceptHandler (some (.Name x np)) none (b₀ :: suite) pos' :: hds) ((c, none, ts) :: l)
  | named {x n : Str} {c : Value} {ts : TSu} {b₀ : Stmt} {suite : List Stmt} {np pos' : Pos} {hds : List ExceptHandler} {l : List (Value × Option Nat × TSu)} {i : Nat} (hc : Names X x c) (hi : X.N[i]? = some n) (hln : X.env.kindOf n = some .local)
      (hsu : ∀ (a : Addr) (oe : Obj) (cls : Value) (d : Option Addr) (pn : List (Addr × Obj)), Zc cls d oe → (∃ vs, oe.data = .fields vs) → PSs (X.suite a ((a, oe) :: pn)) (b₀ :: suite) (ts a cls d)) (r : HdsN X hds l) :
      HdsN X (.ExceptHandler (some (.Name x np)) (some n) (b₀ :: suite) pos' :: hds) ((c, some i, ts) :: l)
end Vm
namespace L2
open PySem PySem.Spec PyProof.Rows Vm
section
variable {X : Cx} {body : List Stmt} {h₀ : ExceptHandler} {hds : List ExceptHandler} {l : List (Value × Option Nat × TSu)} {pos : Pos} {tb : WX → TS} {Wout : WX}
theorem vm_try (hs : X.stack = X.env :: X.outer) (hf : X.env.frame = some X.env.locals) (hN : X.N.Nodup) (tk : Takes X Wout)
    (hb : ∀ (W : WX) (pn : List (Addr × Obj)) (xe : Value → Shared → Prop), Takes (X.tr pn xe) W → PassesOwn (model X.prog X.w) X.A X.env xe → PSs (X.tr pn xe) body (tb W))
    (hh : HdsN X (h₀ :: hds) l) : PS X (.Try body (h₀ :: hds) [] [] pos) (fun D σ H => tb (wN X.K Wout D l) D σ H) := by
  refine ⟨fun pins s σ H D I h => ?_⟩
  have ok := I.ok
  have hfr : X.A.frames = some (X.env :: X.outer) := by rw [ok.frames, hs]
  refine wpAny_Try_except ?_
  refine wpAny_mono ((hb (wN X.K Wout D l) (X.pn ++ pins) (fun e s₁ => wpAny (model X.prog X.w) X.A (noteFrame e X.env) (fun _ s₂ => wpAny (model X.prog X.w) X.A (setFlight e none) (fun _ s₃ =>
    wpAny (model X.prog X.w) X.A (handleBy e X.env (h₀ :: hds)) (SP X pins D) X.xe s₃) X.xe s₂) X.xe s₁) (fun u s' xx => ?_) PassesOwn.looking).run [] s σ H D (I.toTry _) h) (fun f s1 hsp => ?_) (fun e s1 he => he)
  · obtain ⟨a, B, sI, pins', σ', H', cls, d, rfl, J', nb, up, sky, na, os, ag, w⟩ := xx
    have J : Inv X pins σ' H' sI := J'.ofTry ok
    have sky' : Sky B (X.env :: X.outer) a (Zc cls d) X.env.locals s'.heap := by rw [← hs]; exact sky
    show wpAny (model X.prog X.w) X.A (noteFrame (.ref a) X.env) _ _ _
    refine Sky.land Zc.steady hfr hf sky' fun h3 fl3 up3 => ?_
    have J3 : Inv X pins σ' H' { s' with heap := h3 } := J.landed nb fl3.1 (up.trans up3) os ag
    obtain ⟨oe3, vs3, he3, hz3, hd3⟩ := fl3.there
    have notFr : ∀ {h : Heap} {o : Obj} {vs : Array Value}, h.FunFrames B (X.env :: X.outer) → h.get? a = some o → o.data = .fields vs → a ∉ frs (X.env :: X.outer) := fun {h o vs} ff e dd hm => by
      obtain ⟨_, o', e', hnf⟩ := ff.mem hm
      rw [e] at e'; cases e'
      exact hnf _ dd
    have nfr := notFr fl3.2.2.1 he3 hd3
    have nL : a ≠ X.env.locals := fun z => nfr (List.mem_filterMap.mpr ⟨X.env, List.mem_cons_self, by rw [hf, z]⟩)
    have nF : a ∉ X.fs := fun hm => by
      obtain ⟨e, he, q⟩ := List.mem_filterMap.mp hm
      exact nfr (List.mem_filterMap.mpr ⟨e, List.mem_cons_of_mem _ he, q⟩)
    have S3 := J3.suite he3 hd3 na nL nF
    have tst : ∀ {x : Str} {c : Value} {np : Pos}, Names X x c → ∀ {Q : Value → Shared → Prop} {E : Value → Shared → Prop}, Q c { s' with heap := h3 } → wpAny (model X.prog X.w) (X.A.mark (some (.ref a))) (eval (.Name x np) X.env) Q E { s' with heap := h3 } := fun {x c np} hc {Q E} q => by
      obtain ⟨hg, hdbg, hm | ⟨hm, hv, hnn⟩⟩ := hc
      · exact ld_glob (X := X.suite a ((a, oe3) :: (X.pn ++ pins))) S3 hg hm q hdbg
      · exact ld_blt (X := X.suite a ((a, oe3) :: (X.pn ++ pins))) S3 hg hm hv q hnn hdbg
    have LT : PySem.W.Looks (model X.prog X.w) h3 (typeOf (.ref a)) cls := fun A Q E s k q => wpAny_typeOf_ref (k _ _ he3) (by rw [hz3.1]; exact q)
    have go : ∀ {hds' : List ExceptHandler} {l' : List (Value × Option Nat × TSu)}, HdsN X hds' l' → wN X.K Wout D l' cls d σ' H' →
        wpAny (model X.prog X.w) X.A (handleBy (.ref a) X.env hds') (SP X pins D) X.xe { s' with heap := h3 } := by
      intro hds' l' hk
      induction hk with
      | nil =>
        intro w
        refine wpAny_handleBy_nil ?_
        obtain ⟨k1, k2, k3, oe, vs, T, oT, ts', he, hz, hd, h1, hr⟩ := id fl3
        unfold PySem.passOn
        refine wpAny_bind (wpAny_field he hd h1 ?_)
        rw [if_neg (show ¬ ((Value.ref T == Value.none) = true) from by simp)]
        have fin : wpAny (model X.prog X.w) X.A (setFlight (.ref a) X.env.frame) (fun _ s4 => wpAny (model X.prog X.w) X.A (throw (.ref a) : Sem Flow) (SP X pins D) X.xe s4) X.xe { s' with heap := h3 } := by
          rw [hf]
          refine HandSPX.setFlight_upZ fl3 fun h4 hh4 up4 => wpAny_throw (tk _ _ ?_)
          exact ⟨a, B, sI, pins, σ', H', cls, d, rfl, J, nb, (up.trans up3).trans up4, .inr (.inr (by rw [hs]; exact hh4)), na, os, ag, w⟩
        first
          | exact wpAny_bind (wpAny_pure (wpAny_bind fin))
          | exact wpAny_bind fin
      | @bare x c ts b₀ suite np pos' hds2 l2 hc hsu r ih =>
        intro w
        obtain ⟨b, hb1, hyes, hno⟩ := w
        refine wpAny_handleBy_cons (codeAny_handlers_test ?_) (by intro q; cases q)
        refine tst hc ((PySem.W.exm_one (M := model X.prog X.w) (J3.kIn) LT hb1).here ?_)
        cases b with
        | true =>
          refine codeAny_handlers_suite ?_
          refine HandSPX.lands_againZ fl3 fun h4 fl4 up4 => ?_
          have J4 : Inv X pins σ' H' { s' with heap := h4 } := J.landed nb fl4.1 ((up.trans up3).trans up4) os ag
          obtain ⟨oe4, vs4, he4, hz4, hd4⟩ := fl4.there
          have S4 := J4.suite he4 hd4 na nL nF
          refine wpAny_mono ((hsu a oe4 cls d (X.pn ++ pins) hz4 ⟨_, hd4⟩).run [] _ _ H' _ S4 (hyes rfl a na)) (fun f s6 hsp => ?_) (fun _ _ z => False.elim z)
          cases f with
          | next => obtain ⟨σ6, H6, S6, q6⟩ := hsp; exact ⟨_, _, S6.unsuite ok, q6⟩
          | brk => obtain ⟨σ6, H6, S6, q6⟩ := hsp; exact ⟨_, _, S6.unsuite ok, q6⟩
          | cont => obtain ⟨σ6, H6, S6, q6⟩ := hsp; exact ⟨_, _, S6.unsuite ok, q6⟩
          | ret u => obtain ⟨v6, σ6, H6, S6, r6, q6⟩ := hsp; exact ⟨_, _, _, S6.unsuite ok, r6, q6⟩
        | false =>
          show wpAny _ X.A (handleBy (.ref a) X.env hds2) _ _ _
          exact ih (hno rfl)
      | @named x n c ts b₀ suite np pos' hds2 l2 i hc hi hln hsu r ih =>
        intro w
        obtain ⟨b, hb1, hyes, hno⟩ := w
        refine wpAny_handleBy_cons (codeAny_handlers_test ?_) (by intro q; cases q)
        refine tst hc ((PySem.W.exm_one (M := model X.prog X.w) (J3.kIn) LT hb1).here ?_)
        cases b with
        | true =>
          refine codeAny_handlers_suite_as ?_
          refine HandSPX.lands_againZ fl3 fun h4 fl4 up4 => ?_
          have J4 : Inv X pins σ' H' { s' with heap := h4 } := J.landed nb fl4.1 ((up.trans up3).trans up4) os ag
          obtain ⟨oe4, vs4, he4, hz4, hd4⟩ := fl4.there
          have S4 := J4.suite he4 hd4 na nL nF
          have hloc : Loc X.env.scope n := .inl hln
          refine store_ok (X := X.suite a ((a, oe4) :: (X.pn ++ pins))) (v := .ref a) S4 hN hi hloc rfl (fun s5 S5 => ?_) (.inr hln)
          refine wpAny_mono ((hsu a oe4 cls d (X.pn ++ pins) hz4 ⟨_, hd4⟩).run [] s5 _ H' _ S5 (hyes rfl a na)) (fun f s6 hsp => ?_) (fun _ _ z => False.elim z)
          have end_ : ∀ {σ6 : St} {H6 : Hp} {Q : Shared → Prop}, Inv (X.suite a ((a, oe4) :: (X.pn ++ pins))) [] σ6 H6 s6 → (∀ s7, Inv X pins (σ6.set i none) H6 s7 → Q s7) →
              wpAny (model X.prog X.w) X.A (do bindName X.env n .none; unbindBehindTheSuite X.env n pos') (fun _ s7 => Q s7) X.xe s6 := fun {σ6 H6 Q} S6 hq => gone_ok (S6.unsuite ok) hN hi hln hq
          cases f with
          | next => obtain ⟨σ6, H6, S6, q6⟩ := hsp; exact end_ S6 fun s7 J7 => ⟨_, _, J7, q6⟩
          | brk => obtain ⟨σ6, H6, S6, q6⟩ := hsp; exact end_ S6 fun s7 J7 => ⟨_, _, J7, q6⟩
          | cont => obtain ⟨σ6, H6, S6, q6⟩ := hsp; exact end_ S6 fun s7 J7 => ⟨_, _, J7, q6⟩
          | ret u => obtain ⟨v6, σ6, H6, S6, r6, q6⟩ := hsp; exact end_ S6 fun s7 J7 => ⟨_, _, _, J7, r6, q6⟩
        | false =>
          show wpAny _ X.A (handleBy (.ref a) X.env hds2) _ _ _
          exact ih (hno rfl)
    exact go hh w
  · cases f with
    | next => obtain ⟨σ', H', J', q⟩ := hsp; exact wpAny_execs_nil ⟨σ', H', J'.ofTry ok, q⟩
    | brk => obtain ⟨σ', H', J', q⟩ := hsp; exact ⟨σ', H', J'.ofTry ok, q⟩
    | cont => obtain ⟨σ', H', J', q⟩ := hsp; exact ⟨σ', H', J'.ofTry ok, q⟩
    | ret u => obtain ⟨v, σ', H', J', r, q⟩ := hsp; exact ⟨v, σ', H', J'.ofTry ok, r, q⟩
end
end L2
/-! Vm18: calls that may raise, at the caller's slots. -/
namespace Vm
open PySem L2
variable {Z : Par} {E : St → XK} {os : Os} {X : Cx} {io : List Nat} {rf : Fl}
section
variable {CX : CXT} {k : Nat} {f C : Addr} {fd : FuncData} {ps : List Str} {sp : Sp} {x m : Str} {p pos apos : Pos} {e o : Expr} {es : List Expr} {ta : TE} {t : TA}
theorem run_makeS {pins : List (Addr × Obj)} {σ : St} {H : Hp} {s : Shared} {Q : VK} {us ds : List Value} {vs dvs : List V} (M : Mk X.K C f) (F : FnOk X.prog X.w X.K X.mg X.base CX k f fd ps sp) (hr : Room (k + 1) X.A) (hb : Binds X.K fd ps ds) (hd : Vals dvs ds)
    (hx : PassesAt CX X σ (E σ)) (I : Inv X pins σ H s) (r : Vals vs us)
    (h : ∀ x dx, H x = none → H dx = none → dx ≠ x → sp (.ref x :: (vs ++ dvs)) (upd (upd H dx (.own x)) x (.ins C dx [])) (fun v H2 => v = .non ∧ Q (.ref x) H2) (E σ)) :
    wpAny (model X.prog X.w) X.A (call (.ref C) us) (EP X pins σ Q) X.xe s := by
  have hq := h (s.heap.objs.size + 1) s.heap.objs.size (I.hok.fresh (Nat.le_succ _)) (I.hok.fresh (Nat.le_refl _)) (Nat.ne_of_lt (Nat.lt_succ_self _))
  have I2 := Inv.made (C := C) I
  have r2 : Vals (V.ref (s.heap.objs.size + 1) :: (vs ++ dvs)) (Value.ref (s.heap.objs.size + 1) :: (us ++ ds)) := .cons rfl (r.append hd)
  have hl : (Value.ref (s.heap.objs.size + 1) :: us ++ ds).length = ps.length := by
    have e := r2.length
    rw [F.len _ _ _ _ hq] at e
    exact e.symm
  refine wpAny_call (make_map (f := f) I.kIn M.makes M.init (beq_iff_eq.mp M.fn) (codeAny_mono (F.run _ X.stack _ _ ⟨Value.ref (s.heap.objs.size + 1) :: us, []⟩ (Value.ref (s.heap.objs.size + 1) :: (us ++ ds)) _ _ (E σ) (hr.make C us [])
    (I2.env0.make C us []) (hb _ (Value.ref (s.heap.objs.size + 1) :: us) I2.kIn hl) r2 hq) fun r s' hq' => ?_))
  cases r with
  | error e => exact hx pins _ _ e s' I2 hq'
  | ok fl =>
    cases fl with
    | ret u =>
      obtain ⟨v, H', I3, rv, ev, q3⟩ := I2.after hq'
      subst ev
      exact ⟨rv, ⟨V.ref (s.heap.objs.size + 1), H', I3, rfl, q3⟩⟩
    | next => exact False.elim hq'
    | brk => exact False.elim hq'
    | cont => exact False.elim hq'
theorem pe_makeS (M : Mk X.K C f) (F : FnOk X.prog X.w X.K X.mg X.base CX k f fd ps sp) (hr : Room (k + 1) X.A) (hg : Gl X x) (hm : X.mg x = some (.ref C)) (hb : Binds X.K fd ps []) (hx : ∀ σ, PassesAt CX X σ (E σ))
    (ha : PA X (e :: es) t) (hdb : (x == ("__debug__" : Str)) = false := by decide) (he : starEach (e :: es) X.env = (false, eval e X.env) :: starEach es X.env := by rfl) (hpl : (backTo pos (starEach es X.env)).any (·.1) = false := by rfl) :
    PE X (.Call (.Name x p) (e :: es) [] pos) (fun σ => tMake C sp [] (E σ) t σ) := by
  refine ⟨fun pins s σ H Q I h => ?_⟩
  refine wpAny_Call_Name_kw (ld_glob I hg hm ?_ hdb)
  refine PySem.W.callWith_K (h₀ := X.base) I.ok.mod.kin M.kp (thn (ha.run pos pins s σ H _ I h) fun us s1 ⟨vs, H1, I1, r, q⟩ => ⟨I1.kIn, ?_⟩) he hpl
  exact run_makeS M F hr hb .nil (hx σ) I1 r q
theorem pe_methE {pl : Sem Bool} (he : PE X o ta) (c : Cls X.K C) (hm : Meth X.K C m f) (F : FnOk X.prog X.w X.K X.mg X.base CX k f fd ps sp) (hr : Room k X.A) (hb : Binds X.K fd ps []) (hx : ∀ σ, PassesAt CX X σ (E σ)) (ha : PA X (e :: es) t)
    (hst : starEach (e :: es) X.env = (false, eval e X.env) :: starEach es X.env := by rfl) (hpl : (backTo pos (starEach es X.env)).any (·.1) = false := by rfl)
    (ht : eval (.Call (.Attribute o m apos) (e :: es) [] pos) X.env = (do
      let ov ← eval o X.env
      standAt apos.atName
      let (f, first) ← holding [ov] (getMethod ov m pl)
      callWith pos f first (backTo pos (starEach (e :: es) X.env)) (backToKw pos (keywordEach [] X.env))) := by rfl) :
    PE X (.Call (.Attribute o m apos) (e :: es) [] pos) (fun σ => tMeth C m sp [] (E σ) ta t σ) := by
  refine ⟨fun pins s σ H Q I h => ?_⟩
  refine PySem.W.methodCall_KW (pl := pl) (thn (he.run pins s σ H _ I h) fun u s1 ⟨x, H1, I1, rx, a, dx, fs, ex, ea, l, q⟩ => ?_) ht
  subst ex
  obtain rfl : u = Value.ref a := rx
  refine getmeth_ok I1 ea c hm l ?_
  refine PySem.W.callWith_K (first := [.ref a]) (h₀ := X.base) I.ok.mod.kin hm.kp (thn (ha.run pos pins s1 σ H1 _ I1 q) fun us s2 ⟨vs, H2, I2, r, q2⟩ => ⟨I2.kIn, ?_⟩) hst hpl
  have q2 : sp (.ref a :: (vs ++ [])) H2 Q (E σ) := q2
  rw [List.append_nil] at q2
  exact run_fnS (us := .ref a :: us) (vs := .ref a :: vs) F hr hb (hx σ) I2 (.cons rfl r) q2
theorem pe_methE0 {pl : Sem Bool} (he : PE X o ta) (c : Cls X.K C) (hm : Meth X.K C m f) (F : FnOk X.prog X.w X.K X.mg X.base CX k f fd ps sp) (hr : Room k X.A) (hb : Binds X.K fd ps []) (hx : ∀ σ, PassesAt CX X σ (E σ))
    (ht : eval (.Call (.Attribute o m apos) [] [] pos) X.env = (do
      let ov ← eval o X.env
      standAt apos.atName
      let (f, first) ← holding [ov] (getMethod ov m pl)
      callWith pos f first (backTo pos (starEach [] X.env)) (backToKw pos (keywordEach [] X.env))) := by rfl) :
    PE X (.Call (.Attribute o m apos) [] [] pos) (fun σ => tMeth C m sp [] (E σ) ta tNil σ) := by
  refine ⟨fun pins s σ H Q I h => ?_⟩
  refine PySem.W.methodCall_KW (pl := pl) (thn (he.run pins s σ H _ I h) fun u s1 ⟨x, H1, I1, rx, a, dx, fs, ex, ea, l, q⟩ => ?_) ht
  subst ex
  obtain rfl : u = Value.ref a := rx
  refine getmeth_ok I1 ea c hm l ?_
  exact PySem.W.callWith_K0 (first := [.ref a]) I1.kIn hm.kp (run_fnS (us := [.ref a]) (vs := [.ref a]) F hr hb (hx σ) I1 (.cons rfl .nil) q)
end
section
variable {CX : CXT} {k : Nat} {f : Addr} {fd : FuncData} {ps : List Str} {x m : Str} {p pos apos : Pos} {e o : Expr} {es : List Expr} {pm : List PM} {fls : List AF} {mf : List D → FR} {mo : ME} {ma : Rho → ER (List D)} {pu pu1 : Bool}
/-- calls whose exceptions go on -/
theorem em_callS (F : FnOk X.prog X.w X.K X.mg X.base CX k f fd ps (SpM Z pm rf mf)) (hr : Room k X.A) (hm : X.mg x = some (.ref f)) (hk : PySem.W.keepIn X.K (.ref f) = true) (hb : Binds X.K fd ps []) (hx : ∀ σ, PassesAt CX X σ (E σ)) (ha : PAm X Z E os fls pu (e :: es) ma)
    (hg : Gl X x := by rfl) (hf : fits os pm fls = true := by rfl) (hs : (slots fls).Nodup := by decide)
    (hdb : (x == ("__debug__" : Str)) = false := by decide) (he : starEach (e :: es) X.env = (false, eval e X.env) :: starEach es X.env := by rfl) (hpl : (backTo pos (starEach es X.env)).any (·.1) = false := by rfl) :
    PEm X Z E os rf false (.Call (.Name x p) (e :: es) [] pos) (mCall true pm fls mf ma) := by
  obtain ⟨_, a1, a2⟩ := ha
  have s := sim_call (rf := rf) (x := true) (m := mf) (Ec := E) a2 hf hs (fun _ _ => rfl)
  refine ⟨_, pe_callS F hr hg hm hk hb hx a1 hdb he hpl, fun F H σ ρ Q R q => ?_⟩
  have q2 : SimA Z E os fls pu _ ma := a2
  have := s F H σ ρ Q R q
  simp only [tCall, List.append_nil] at this
  exact this
theorem em_makeS (c : Str) (M : Mk X.K (Z.z c) f) (F : FnOk X.prog X.w X.K X.mg X.base CX k f fd ps (SpM Z (.io :: pm) .fz mf)) (hr : Room (k + 1) X.A) (hm : X.mg x = some (.ref (Z.z c))) (hb : Binds X.K fd ps []) (hx : ∀ σ, PassesAt CX X σ (E σ)) (ha : PAm X Z E os fls pu (e :: es) ma)
    (hg : Gl X x := by rfl) (hf : fits os pm fls = true := by rfl) (hs : (slots fls).Nodup := by decide)
    (hdb : (x == ("__debug__" : Str)) = false := by decide) (he : starEach (e :: es) X.env = (false, eval e X.env) :: starEach es X.env := by rfl) (hpl : (backTo pos (starEach es X.env)).any (·.1) = false := by rfl) :
    PEm X Z E os .nw false (.Call (.Name x p) (e :: es) [] pos) (mMake true c pm fls mf ma) := let ⟨_, a1, a2⟩ := ha; ⟨_, pe_makeS M F hr hg hm hb hx a1 hdb he hpl, sim_make (Ec := E) a2 hf hs (fun _ _ => rfl)⟩
theorem em_methS {pl : Sem Bool} (c : Str) (he : PEm X Z E os .fz pu1 o mo) (cl : Cls X.K (Z.z c)) (hm : Meth X.K (Z.z c) m f) (F : FnOk X.prog X.w X.K X.mg X.base CX k f fd ps (SpM Z (.fz :: pm) rf mf)) (hr : Room k X.A) (hb : Binds X.K fd ps []) (hx : ∀ σ, PassesAt CX X σ (E σ)) (ha : PAm X Z E os fls pu (e :: es) ma)
    (hf : fits os pm fls = true := by rfl) (hs : (slots fls).Nodup := by decide)
    (hst : starEach (e :: es) X.env = (false, eval e X.env) :: starEach es X.env := by rfl) (hpl : (backTo pos (starEach es X.env)).any (·.1) = false := by rfl)
    (htr : eval (.Call (.Attribute o m apos) (e :: es) [] pos) X.env = (do
      let ov ← eval o X.env
      standAt apos.atName
      let (f, first) ← holding [ov] (getMethod ov m pl)
      callWith pos f first (backTo pos (starEach (e :: es) X.env)) (backToKw pos (keywordEach [] X.env))) := by rfl) :
    PEm X Z E os rf false (.Call (.Attribute o m apos) (e :: es) [] pos) (mMeth true c m pm fls mf mo ma) := let ⟨_, o1, o2⟩ := he; let ⟨_, a1, a2⟩ := ha; ⟨_, pe_methE (pl := pl) o1 cl hm F hr hb hx a1 hst hpl htr, sim_meth (Ec := E) o2 a2 hf hs (fun _ _ => rfl)⟩
theorem em_methS0 {pl : Sem Bool} (c : Str) (he : PEm X Z E os .fz pu1 o mo) (cl : Cls X.K (Z.z c)) (hm : Meth X.K (Z.z c) m f) (F : FnOk X.prog X.w X.K X.mg X.base CX k f fd ps (SpM Z [.fz] rf mf)) (hr : Room k X.A) (hb : Binds X.K fd ps []) (hx : ∀ σ, PassesAt CX X σ (E σ))
    (htr : eval (.Call (.Attribute o m apos) [] [] pos) X.env = (do
      let ov ← eval o X.env
      standAt apos.atName
      let (f, first) ← holding [ov] (getMethod ov m pl)
      callWith pos f first (backTo pos (starEach [] X.env)) (backToKw pos (keywordEach [] X.env))) := by rfl) :
    PEm X Z E os rf false (.Call (.Attribute o m apos) [] [] pos) (mMeth true c m [] [] mf mo mNil) := by
  obtain ⟨_, o1, o2⟩ := he
  exact ⟨_, pe_methE0 (pl := pl) o1 cl hm F hr hb hx htr, sim_meth (Ec := E) (ta := tNil) (pu := true) o2 (fun F H σ ρ Q R h => h F H [] (PStep.refl R.hk).step (fun _ => Same.refl H) Pin.refl R .nil) rfl (by decide) (fun _ _ => rfl)⟩
end

/-! ### raise C(..) -/
/-- the promise of an exception's __init__ that stores its parameters -/
def SpX (Z : Par) (c : Str) (names : List Str) : Sp := fun vs H Q _ => ∃ (a : Addr) (xs : List V), vs = .ref a :: xs ∧ xs.length = names.length ∧ H a = some (exo a (Z.z c) none) ∧
  ∀ (dx : Addr) (H' : Hp), H dx = none → dx ≠ a → H' a = some (exo a (Z.z c) (some dx)) → H' dx = some (exd dx (names.zip xs).reverse) → (∀ b, b ≠ a → b ≠ dx → H' b = H b) → Q .non H'
def mRaise (c : Str) (names : List Str) (ma : Rho → ER (List D)) : MS := fun ρ => match ma ρ with
  | .ok ds ρ1 => if ds.length = names.length then .exc c (names.zip ds).reverse ρ1 else .stuck
  | .exc c fs ρ1 => .exc c fs ρ1
  | .stuck => .stuck
theorem rpS_app {F : Hp} {a b : List (Str × D)} {c d : List (Str × V)} (h1 : RpS Z F a c) (h2 : RpS Z F b d) : RpS Z F (a ++ b) (c ++ d) := by
  induction a generalizing c with
  | nil => cases h1; exact h2
  | cons p a ih => cases h1 with | cons h r => exact .cons h (ih r)
theorem rpS_zip {F : Hp} : ∀ {names : List Str} {ds : List D} {vs : List V}, RpL Z F ds vs → RpS Z F (names.zip ds).reverse (names.zip vs).reverse
  | [], _, _, _ => .nil
  | n :: names, _, _, .nil => .nil
  | n :: names, _, _, .cons r rr => by
    rw [List.zip_cons_cons, List.zip_cons_cons, List.reverse_cons, List.reverse_cons]
    exact rpS_app (rpS_zip rr) (.cons r .nil)
theorem sm_raise {CX : CXT} {W : WX} {x : Str} {p pos pos' : Pos} {e : Expr} {es : List Expr} {fI : Addr} {k : Nat} {fd : FuncData} {ps : List Str} {fls : List AF} {pu : Bool} {ma : Rho → ER (List D)} (c : Str) (names : List Str) (hc : X.calm = true) (tk : Takes X W) (T : OexC X.K (Z.z c)) (iC : PySem.W.findIn X.K (.ref (Z.z c)) "__init__" = some (some (.ref fI))) (tI : PySem.W.typeIn X.K (.ref fI) = some (.type "function"))
    (F1 : FnOk X.prog X.w X.K X.mg X.base CX k fI fd ps (SpX Z c names)) (hr : Room (k + 1) X.A) (hb : Binds X.K fd ps []) (hx : Passes CX X (fun _ _ _ => False)) (hm : X.mg x = some (.ref (Z.z c))) (ha : PAm X Z (fun σ cls d H => W cls d σ H) os fls pu (e :: es) ma)
    (hn : names ≠ []) (hg : Gl X x := by rfl) (hf : Fzs fls = true := by rfl) (hz : fls.length ≤ 1000 := by decide)
    (hdb : (x == ("__debug__" : Str)) = false := by decide) (he : starEach (e :: es) X.env = (false, eval e X.env) :: starEach es X.env := by rfl) (hpl : (backTo pos (starEach es X.env)).any (·.1) = false := by rfl) :
    PSm X Z (fun σ cls d H => W cls d σ H) os io rf (.Raise (some (.Call (.Name x p) (e :: es) [] pos)) none pos') (mRaise c names ma) := by
  obtain ⟨ta, a1, a2⟩ := ha
  refine ⟨_, ps_raise hc tk (pmk_oex T iC tI F1 hr hb .nil hx hg hm a1 hdb he hpl), fun F H σ ρ K R q => ?_⟩
  refine a2 F H σ ρ _ R ?_
  unfold mRaise at q
  revert q
  cases ma ρ with
  | stuck => exact fun z => z
  | exc c fs ρ' => exact fun q F' H' s p R' => q F' H' σ (.ofE s p R')
  | ok ds ρ1 =>
    intro q F1' H1 vs s _ pn R1 ar
    refine ⟨by rw [ar.length]; exact hz, fun a hna => ?_⟩
    dsimp only at q
    by_cases hl : ds.length = names.length
    · rw [if_pos hl] at q
      have rl := ar.rpL hf
      refine ⟨a, vs, by rw [List.append_nil], by rw [← rl.length]; exact hl, upd_same, fun dx H2 hdx hda h2a h2d h2o => ⟨rfl, dx, _, h2a, h2d, ?_, ?_⟩⟩
      · rw [upd_ne hda] at hdx; exact hdx
      · have hH1d : H1 dx = none := by rw [upd_ne hda] at hdx; exact hdx
        have eH : upd (del H2 a) dx (.xd (names.zip vs).reverse) = upd H1 dx (.xd (names.zip vs).reverse) := by
          funext b
          by_cases e1 : b = dx
          · subst e1; rw [upd_same, upd_same]
          · rw [upd_ne e1, upd_ne e1]
            by_cases e2 : b = a
            · subst e2; rw [del_same, hna]
            · rw [del_ne e2, h2o b e2 e1, upd_ne e2]
        rw [eH]
        have ps := PStep.new (o := .xd (names.zip vs).reverse) R1.hk hH1d
        have g : Go Z os io σ ρ F H σ ρ1 (upd F1' dx (.xd (names.zip vs).reverse)) (upd H1 dx (.xd (names.zip vs).reverse)) := .ofE (s.trans ps.step) pn (R1.pstep ps)
        have := q _ _ σ g
        have ne : (names.zip ds).reverse ≠ [] := fun z => by
          have := congrArg List.length z
          rw [List.length_reverse, List.length_zip, hl, Nat.min_self] at this
          exact hn (List.eq_nil_of_length_eq_zero this)
        unfold ExcG at this
        split at this
        · rename_i z; exact absurd z ne
        · exact this dx _ upd_same ((rpS_zip rl).mono ps.f)
    · rw [if_neg hl] at q; exact q.elim
end Vm
/-! Vm19: try. -/
namespace Vm
open PySem L2
variable {Z Z' : Par} {E : St → XK} {os : Os} {X : Cx} {io : List Nat} {rf : Fl}

/-! ### what does not look at the caught exception -/
section
variable {F H : Hp}
mutual
theorem Rp.cast (h1 : Z'.z = Z.z) (h2 : Z'.s = Z.s) : ∀ {d : D} {v : V}, Rp Z F d v → Rp Z' F d v
  | _, _, .non => .non
  | _, _, .bl b => .bl b
  | _, _, .int i => .int i
  | _, _, .str s => .str s
  | _, _, .lst h r => .lst h (RpL.cast h1 h2 r)
  | _, _, .tup h r => .tup h (RpL.cast h1 h2 r)
  | _, _, .dct h r => .dct h (RpK.cast h1 h2 r)
  | _, _, .obj h r => .obj (by rw [h1]; exact h) (RpS.cast h1 h2 r)
  | _, _, .scr h => .scr (by rw [h2]; exact h)
theorem RpL.cast (h1 : Z'.z = Z.z) (h2 : Z'.s = Z.s) : ∀ {d : List D} {v : List V}, RpL Z F d v → RpL Z' F d v
  | _, _, .nil => .nil
  | _, _, .cons h r => .cons (Rp.cast h1 h2 h) (RpL.cast h1 h2 r)
theorem RpK.cast (h1 : Z'.z = Z.z) (h2 : Z'.s = Z.s) : ∀ {d : List (Key × D)} {v : List (Key × V)}, RpK Z F d v → RpK Z' F d v
  | _, _, .nil => .nil
  | _, _, .cons h r => .cons (Rp.cast h1 h2 h) (RpK.cast h1 h2 r)
theorem RpS.cast (h1 : Z'.z = Z.z) (h2 : Z'.s = Z.s) : ∀ {d : List (Str × D)} {v : List (Str × V)}, RpS Z F d v → RpS Z' F d v
  | _, _, .nil => .nil
  | _, _, .cons h r => .cons (Rp.cast h1 h2 h) (RpS.cast h1 h2 r)
end
theorem own_cast (h1 : Z'.z = Z.z) (h2 : Z'.s = Z.s) {b : Bool} {l : Addr} {d : D} (o : Own Z F H b l d) : Own Z' F H b l d := by
  cases d with
  | lst ds => obtain ⟨vs, q1, q3⟩ := o; exact ⟨vs, q1, q3.cast h1 h2⟩
  | dct ds => obtain ⟨vs, q1, q3⟩ := o; exact ⟨vs, q1, q3.cast h1 h2⟩
  | obj c ds => obtain ⟨dx, vs, q1, q3⟩ := o; exact ⟨dx, vs, by rw [h1]; exact q1, q3.cast h1 h2⟩
  | _ => exact o.elim
theorem hk_cast (h1 : Z'.z = Z.z) (h2 : Z'.s = Z.s) (h3 : Z'.K = Z.K) (k : Hk Z F H) : Hk Z' F H := ⟨k.le, fun a ns h => by rw [h3]; exact k.sc a ns (by rw [← h2]; exact h)⟩
end
/-- with a caught exception -/
abbrev Par.exc (Z : Par) (x : ExcP) : Par := { Z with e := some x }

section
variable {x : ExcP} {F H : Hp}
theorem rp_to {d : D} {v : V} (r : Rp Z F d v) : Rp (Z.exc x) F d v := Rp.cast (Z := Z) (Z' := Z.exc x) rfl rfl r
theorem rp_of {d : D} {v : V} (r : Rp (Z.exc x) F d v) : Rp Z F d v := Rp.cast (Z := Z.exc x) (Z' := Z) rfl rfl r
theorem rps_to {d : List (Str × D)} {v : List (Str × V)} (r : RpS Z F d v) : RpS (Z.exc x) F d v := RpS.cast (Z := Z) (Z' := Z.exc x) rfl rfl r
theorem own_to {b : Bool} {l : Addr} {d : D} (o : Own Z F H b l d) : Own (Z.exc x) F H b l d := own_cast (Z := Z) (Z' := Z.exc x) rfl rfl o
theorem own_of {b : Bool} {l : Addr} {d : D} (o : Own (Z.exc x) F H b l d) : Own Z F H b l d := own_cast (Z := Z.exc x) (Z' := Z) rfl rfl o
theorem hk_to (k : Hk Z F H) : Hk (Z.exc x) F H := hk_cast (Z := Z) (Z' := Z.exc x) rfl rfl rfl k
theorem hk_of (k : Hk (Z.exc x) F H) : Hk Z F H := hk_cast (Z := Z.exc x) (Z' := Z) rfl rfl rfl k
end
/-! ### from a suite back -/
section
variable {F H Fe He : Hp} {σ σe : St} {ρ ρe : Rho} {i : Nat} {x : ExcP}
theorem ow_suite (hi : os.lookup i = none) {v : Option V} {a : Addr} : Ow ((i, false) :: os) (σ.set i v) (ρ.set i none) a → Ow os σ ρ a := fun ⟨j, h1, ⟨d, h2⟩, h3⟩ => by
  have ne : j ≠ i := fun z => by subst z; simp at h1
  have h1' : os.lookup j = some true := by
    have : (j == i) = false := beq_eq_false_iff_ne.mpr ne
    simpa [List.lookup, this] using h1
  rw [List.getElem?_set_ne (Ne.symm ne)] at h2 h3
  exact ⟨j, h1', ⟨d, h2⟩, h3⟩
theorem lk_ne {j : Nat} (ne : j ≠ i) : ((i, false) :: os).lookup j = os.lookup j := by
  have : (j == i) = false := beq_eq_false_iff_ne.mpr ne
  simp [List.lookup, this]
theorem ow_unsuite (hi : os.lookup i = none) {a : Addr} (h : Ow os (σe.set i none) ρe a) : Ow ((i, false) :: os) σe ρe a := by
  obtain ⟨j, h1, h2, h3⟩ := h
  have ne : j ≠ i := fun z => by subst z; rw [hi] at h1; cases h1
  rw [List.getElem?_set_ne (Ne.symm ne)] at h3
  exact ⟨j, by rw [lk_ne ne]; exact h1, h2, h3⟩
theorem oa_unsuite (hi : os.lookup i = none) {a : Addr} (h : Oa os (σe.set i none) ρe a) : Oa ((i, false) :: os) σe ρe a := by
  obtain ⟨j, b, h1, h2, h3⟩ := h
  have ne : j ≠ i := fun z => by subst z; rw [hi] at h1; cases h1
  rw [List.getElem?_set_ne (Ne.symm ne)] at h3
  exact ⟨j, b, by rw [lk_ne ne]; exact h1, h2, h3⟩
theorem set_get_none {i : Nat} : ∀ d : D, (ρ.set i none)[i]? ≠ some (some d) := fun d h => by
  by_cases hl : i < ρ.length
  · rw [List.getElem?_set_self hl] at h; cases h
  · rw [List.getElem?_eq_none (by rw [List.length_set]; omega)] at h; cases h
theorem env_suite (R : EnvR Z os F H σ ρ) (hZ : Z.e = none) (hi : os.lookup i = none) (hx : x.i = i) (hl : i < σ.length) (hf : x.fs ≠ [] → ∃ vs, F x.d = some (.xd vs) ∧ RpS Z F x.fs vs) : EnvR (Z.exc x) ((i, false) :: os) F H (σ.set i (some (.ref x.a))) (ρ.set i none) where
  ex := fun y e => by
    cases e
    subst hx
    exact ⟨by simp, by rw [List.getElem?_set_self hl], fun n => let ⟨vs, q1, q2⟩ := hf n; ⟨vs, q1, rps_to q2⟩⟩
  hk := hk_to R.hk
  len := by rw [List.length_set, List.length_set]; exact R.len
  fz := fun j d h n => by
    have ne : j ≠ i := fun z => by subst z; simp at n
    rw [lk_ne ne] at n
    rw [List.getElem?_set_ne (Ne.symm ne)] at h ⊢
    obtain ⟨v, q1, q2⟩ := R.fz j d h n
    exact ⟨v, q1, rp_to q2⟩
  ow := fun j d b h n => by
    by_cases ne : j = i
    · subst ne; exact absurd h (set_get_none d)
    · rw [lk_ne ne] at n
      rw [List.getElem?_set_ne (Ne.symm ne)] at h ⊢
      obtain ⟨l, q1, q2, q3⟩ := R.ow j d b h n
      exact ⟨l, q1, q2, own_to q3⟩
  ne := fun j k b c l e1 e2 ⟨d, e3⟩ ⟨d', e4⟩ e5 e6 => by
    have nj : j ≠ i := fun z => by subst z; exact absurd e3 (set_get_none d)
    have nk : k ≠ i := fun z => by subst z; exact absurd e4 (set_get_none d')
    rw [lk_ne nj] at e1
    rw [lk_ne nk] at e2
    rw [List.getElem?_set_ne (Ne.symm nj)] at e3 e5
    rw [List.getElem?_set_ne (Ne.symm nk)] at e4 e6
    exact R.ne j k b c l e1 e2 ⟨d, e3⟩ ⟨d', e4⟩ e5 e6
theorem go_suite (hZ : Z.e = none) (hi : os.lookup i = none) (hio : i ∉ io) {v : Option V} (g : Go (Z.exc x) ((i, false) :: os) io (σ.set i v) (ρ.set i none) F H σe ρe Fe He) : Go Z os io σ ρ F H (σe.set i none) ρe Fe He := by
  have pi := g.p i (by simp)
  have ni : ∀ d : D, ρe[i]? ≠ some (some d) := fun d h => by rw [pi.2] at h; exact set_get_none d h
  refine ⟨⟨g.s.f, fun a o e => (g.s.n a o e).imp id (Or.imp id (ow_suite hi)), fun a o e n => g.s.k a o e fun z => n (ow_suite hi z), fun a z => (g.s.w a (ow_unsuite hi z)).imp (ow_suite hi) id, g.s.d⟩, fun j hj => ?_, ?_, fun j hj => ?_⟩
  · have ne : j ≠ i := fun z => by subst z; rw [hi] at hj; cases hj
    obtain ⟨p1, p2⟩ := g.p j (by rw [lk_ne ne]; exact hj)
    rw [List.getElem?_set_ne (Ne.symm ne)] at p1 p2 ⊢
    exact ⟨p1, p2⟩
  · have R := g.e
    refine ⟨fun y e => (by rw [hZ] at e; cases e), hk_of R.hk, by rw [List.length_set]; exact R.len, fun j d h n => ?_, fun j d b h n => ?_, fun j k b c l e1 e2 ⟨d, e3⟩ ⟨d', e4⟩ e5 e6 => ?_⟩
    · have ne : j ≠ i := fun z => by subst z; exact ni d h
      rw [List.getElem?_set_ne (Ne.symm ne)]
      obtain ⟨w, q1, q2⟩ := R.fz j d h (by rw [lk_ne ne]; exact n)
      exact ⟨w, q1, rp_of q2⟩
    · have ne : j ≠ i := fun z => by subst z; exact ni d h
      rw [List.getElem?_set_ne (Ne.symm ne)]
      obtain ⟨l, q1, q2, q3⟩ := R.ow j d b h (by rw [lk_ne ne]; exact n)
      exact ⟨l, q1, q2, own_of q3⟩
    · have nj : j ≠ i := fun z => by subst z; exact ni d e3
      have nk : k ≠ i := fun z => by subst z; exact ni d' e4
      rw [List.getElem?_set_ne (Ne.symm nj)] at e5
      rw [List.getElem?_set_ne (Ne.symm nk)] at e6
      exact R.ne j k b c l (by rw [lk_ne nj]; exact e1) (by rw [lk_ne nk]; exact e2) ⟨d, e3⟩ ⟨d', e4⟩ e5 e6
  · have ne : j ≠ i := fun z => hio (z ▸ hj)
    have := g.io j hj
    rw [List.getElem?_set_ne (Ne.symm ne)] at this ⊢
    exact this
theorem res_suite (hi : os.lookup i = none) {v : Option V} {d : D} {w : V} (r : ResR (Z.exc x) rf (Ow ((i, false) :: os) (σ.set i v) (ρ.set i none)) (Oa ((i, false) :: os) σe ρe) H Fe He d w) : ResR Z rf (Ow os σ ρ) (Oa os (σe.set i none) ρe) H Fe He d w := by
  cases rf with
  | fz => exact rp_of r
  | bo =>
    rcases r with r | ⟨l, b, r1, r2⟩
    · exact .inl (rp_of r)
    · exact .inr ⟨l, b, r1, own_of r2⟩
  | nw =>
    obtain ⟨l, r1, r2, r3, r4, r5⟩ := r
    exact ⟨l, r1, r2.imp (ow_suite hi) id, r3, fun z => r4 (oa_unsuite hi z), own_of r5⟩
end
end Vm
/-! Vm20: the try statement. -/
namespace Vm
open PySem L2
variable {Z : Par} {E : St → XK} {os : Os} {X : Cx} {io : List Nat} {rf : Fl}

/-- an except clause: which classes it takes, its name's slot, its suite -/
structure HdM where
  tst : Str → Option Bool
  i : Option Nat
  m : Str → List (Str × D) → MS
def mHandle : List HdM → Str → List (Str × D) → MS
  | [], c, fs, ρ => .exc c fs ρ
  | h :: r, c, fs, ρ => match h.tst c with
    | some true => match h.i with
      | none => noX (h.m c fs ρ)
      | some i => if i < ρ.length then noX (h.m c fs (ρ.set i none)) else .stuck
    | some false => mHandle r c fs ρ
    | none => .stuck
def mTry (mb : MS) (hs : List HdM) : MS := fun ρ => match mb ρ with
  | .exc c fs ρ1 => mHandle hs c fs ρ1
  | r => r
inductive PHds (X : Cx) (Z : Par) (os : Os) (io : List Nat) (rf : Fl) : List ExceptHandler → List HdM → Prop
  | nil : PHds X Z os io rf [] []
  | bare {x : Str} {cv : Value} {b₀ : Stmt} {suite : List Stmt} {np pos' : Pos} {hds : List ExceptHandler} {hs : List HdM} {tst : Str → Option Bool} {m : Str → List (Str × D) → MS} (hc : Names X x cv)
      (ht : ∀ c b, tst c = some b → PySem.W.exmOne X.K (.ref (Z.z c)) cv = some b)
      (hb : ∀ (c : Str) (fs : List (Str × D)) (a : Addr) (oe : Obj) (cls : Value) (d : Option Addr) (pn : List (Addr × Obj)), tst c = some true → Zc cls d oe → (∃ vs, oe.data = .fields vs) → PSsm (X.suite a ((a, oe) :: pn)) Z (fun _ => E0) os io rf (b₀ :: suite) (m c fs))
      (r : PHds X Z os io rf hds hs) : PHds X Z os io rf (.ExceptHandler (some (.Name x np)) none (b₀ :: suite) pos' :: hds) (⟨tst, none, m⟩ :: hs)
  | named {x n : Str} {cv : Value} {b₀ : Stmt} {suite : List Stmt} {np pos' : Pos} {hds : List ExceptHandler} {hs : List HdM} {tst : Str → Option Bool} {m : Str → List (Str × D) → MS} (i : Nat) (hc : Names X x cv)
      (ht : ∀ c b, tst c = some b → PySem.W.exmOne X.K (.ref (Z.z c)) cv = some b) (hi : X.N[i]? = some n) (hln : X.env.kindOf n = some .local) (ho : os.lookup i = none) (hio : i ∉ io)
      (hb : ∀ (c : Str) (fs : List (Str × D)) (a d0 : Addr) (oe : Obj) (cls : Value) (d : Option Addr) (pn : List (Addr × Obj)), tst c = some true → cls = .ref (Z.z c) → (fs ≠ [] → d = some d0) → Zc cls d oe → (∃ vs, oe.data = .fields vs) →
        PSsm (X.suite a ((a, oe) :: pn)) (Z.exc ⟨i, a, d0, c, fs⟩) (fun _ => E0) ((i, false) :: os) io rf (b₀ :: suite) (m c fs))
      (r : PHds X Z os io rf hds hs) : PHds X Z os io rf (.ExceptHandler (some (.Name x np)) (some n) (b₀ :: suite) pos' :: hds) (⟨tst, some i, m⟩ :: hs)
inductive HOkL (X : Cx) (Z : Par) (os : Os) (io : List Nat) (rf : Fl) : List (Value × Option Nat × TSu) → List HdM → Prop
  | nil : HOkL X Z os io rf [] []
  | bare {cv : Value} {ts : TSu} {tst : Str → Option Bool} {m : Str → List (Str × D) → MS} {l : List (Value × Option Nat × TSu)} {hs : List HdM} (ht : ∀ c b, tst c = some b → PySem.W.exmOne X.K (.ref (Z.z c)) cv = some b)
      (hS : ∀ (a : Addr) (c : Str) (fs : List (Str × D)) (d : Option Addr), tst c = some true → SimS Z (fun _ => E0) os io rf (ts a (.ref (Z.z c)) d) (m c fs)) (r : HOkL X Z os io rf l hs) : HOkL X Z os io rf ((cv, none, ts) :: l) (⟨tst, none, m⟩ :: hs)
  | named {cv : Value} {ts : TSu} {tst : Str → Option Bool} {m : Str → List (Str × D) → MS} {l : List (Value × Option Nat × TSu)} {hs : List HdM} {i : Nat} (ht : ∀ c b, tst c = some b → PySem.W.exmOne X.K (.ref (Z.z c)) cv = some b) (ho : os.lookup i = none) (hio : i ∉ io)
      (hS : ∀ (a d0 : Addr) (c : Str) (fs : List (Str × D)) (d : Option Addr), tst c = some true → (fs ≠ [] → d = some d0) → SimS (Z.exc ⟨i, a, d0, c, fs⟩) (fun _ => E0) ((i, false) :: os) io rf (ts a (.ref (Z.z c)) d) (m c fs)) (r : HOkL X Z os io rf l hs) : HOkL X Z os io rf ((cv, some i, ts) :: l) (⟨tst, some i, m⟩ :: hs)
theorem hds_build {hds : List ExceptHandler} {hs : List HdM} (h : PHds X Z os io rf hds hs) : ∃ l, HdsN X hds l ∧ HOkL X Z os io rf l hs := by
  induction h with
  | nil => exact ⟨[], .nil, .nil⟩
  | @bare x cv b₀ suite np pos' hds hs tst m hc ht hb r ih =>
    obtain ⟨l, i1, i2⟩ := ih
    refine ⟨(cv, none, fun a cls d K σ H => ∃ (c : Str) (fs : List (Str × D)) (h1 : tst c = some true), ∀ (oe : Obj) (pn : List (Addr × Obj)) (hz : Zc cls d oe) (hf : ∃ vs, oe.data = .fields vs), (hb c fs a oe cls d pn h1 hz hf).choose K σ H) :: l, .bare hc (fun a oe cls d pn hz hf => ⟨fun pins s σ H K I q => ?_⟩) i1, .bare ht (fun a c fs d h1 F H σ ρ K R q => ?_) i2⟩
    · obtain ⟨c, fs, h1, q⟩ := q
      exact (hb c fs a oe cls d pn h1 hz hf).choose_spec.1.run pins s σ H K I (q oe pn hz hf)
    · exact ⟨c, fs, h1, fun oe pn hz hf => (hb c fs a oe _ d pn h1 hz hf).choose_spec.2 F H σ ρ K R q⟩
  | @named x n cv b₀ suite np pos' hds hs tst m i hc ht hi hln ho hio hb r ih =>
    obtain ⟨l, i1, i2⟩ := ih
    refine ⟨(cv, some i, fun a cls d K σ H => ∃ (c : Str) (fs : List (Str × D)) (d0 : Addr) (h1 : tst c = some true) (h2 : cls = .ref (Z.z c)) (h3 : fs ≠ [] → d = some d0), ∀ (oe : Obj) (pn : List (Addr × Obj)) (hz : Zc cls d oe) (hf : ∃ vs, oe.data = .fields vs), (hb c fs a d0 oe cls d pn h1 h2 h3 hz hf).choose K σ H) :: l, .named hc hi hln (fun a oe cls d pn hz hf => ⟨fun pins s σ H K I q => ?_⟩) i1, .named ht ho hio (fun a d0 c fs d h1 h3 F H σ ρ K R q => ?_) i2⟩
    · obtain ⟨c, fs, d0, h1, h2, h3, q⟩ := q
      exact (hb c fs a d0 oe cls d pn h1 h2 h3 hz hf).choose_spec.1.run pins s σ H K I (q oe pn hz hf)
    · exact ⟨c, fs, d0, h1, rfl, h3, fun oe pn hz hf => (hb c fs a d0 oe _ d pn h1 rfl h3 hz hf).choose_spec.2 F H σ ρ K R q⟩
theorem run_noX {F H : Hp} {σ : St} {ρ : Rho} {r : SR} {K : Ends} (q : RunS Z E os io rf F H σ ρ (noX r) K) : RunS Z (fun _ => E0) os io rf F H σ ρ r K := by
  cases r with
  | nx ρ' => exact q
  | rt d ρ' => exact q
  | bk ρ' => exact q
  | ct ρ' => exact q
  | exc c fs ρ' => exact q.elim
  | stuck => exact q.elim
theorem handle_ok {Wout : WX} (hZ : Z.e = none) {K : Ends} {l : List (Value × Option Nat × TSu)} {hs : List HdM} (h : HOkL X Z os io rf l hs) : ∀ {F H : Hp} {σ : St} {ρ : Rho} {c : Str} {fs : List (Str × D)} {dopt : Option Addr}, EnvR Z os F H σ ρ →
    (fs ≠ [] → ∃ d fs', dopt = some d ∧ F d = some (.xd fs') ∧ RpS Z F fs fs') → (fs = [] → dopt = none) → RunS Z (fun σ cls d H => Wout cls d σ H) os io rf F H σ ρ (mHandle hs c fs ρ) K → wN X.K Wout K l (.ref (Z.z c)) dopt σ H := by
  induction h with
  | nil =>
    intro F H σ ρ c fs dopt R hd hn q
    have := q F H σ (Go.refl R)
    cases fs with
    | nil =>
      rw [hn rfl]
      exact this
    | cons p fs =>
      obtain ⟨d, fs', e1, e2, e3⟩ := hd (by simp)
      rw [e1]
      exact this d fs' e2 e3
  | @bare cv ts tst m l hs ht hS r ih =>
    intro F H σ ρ c fs dopt R hd hn q
    unfold mHandle at q
    dsimp only at q
    cases e : tst c with
    | none => rw [e] at q; exact q.elim
    | some b =>
      rw [e] at q
      refine ⟨b, ht c b e, fun hb a na => ?_, fun hb => ?_⟩
      · subst hb
        exact hS a c fs dopt e F H σ ρ K R (run_noX q)
      · subst hb
        exact ih R hd hn q
  | @named cv ts tst m l hs i ht ho hio hS r ih =>
    intro F H σ ρ c fs dopt R hd hn q
    unfold mHandle at q
    dsimp only at q
    cases e : tst c with
    | none => rw [e] at q; exact q.elim
    | some b =>
      rw [e] at q
      refine ⟨b, ht c b e, fun hb a na => ?_, fun hb => ?_⟩
      · subst hb
        dsimp only at q
        by_cases hl : i < ρ.length
        · rw [if_pos hl] at q
          obtain ⟨d0, hd0⟩ : ∃ d0 : Addr, fs ≠ [] → dopt = some d0 ∧ ∃ vs, F d0 = some (.xd vs) ∧ RpS Z F fs vs := by
            by_cases hf : fs = []
            · exact ⟨0, fun z => absurd hf z⟩
            · obtain ⟨d, fs', e1, e2, e3⟩ := hd hf
              exact ⟨d, fun _ => ⟨e1, fs', e2, e3⟩⟩
          have R2 := env_suite (x := ⟨i, a, d0, c, fs⟩) R hZ ho rfl (by rw [R.len]; exact hl) (fun z => (hd0 z).2)
          refine hS a d0 c fs dopt e (fun z => (hd0 z).1) F H _ _ _ R2 ?_
          revert q
          cases m c fs (ρ.set i none) with
          | nx ρ' => exact fun q F' H' σ' g => q F' H' _ (go_suite hZ ho hio g)
          | bk ρ' => exact fun q F' H' σ' g => q F' H' _ (go_suite hZ ho hio g)
          | ct ρ' => exact fun q F' H' σ' g => q F' H' _ (go_suite hZ ho hio g)
          | rt d ρ' => exact fun q F' H' σ' v g r => q F' H' _ v (go_suite hZ ho hio g) (res_suite ho r)
          | exc c fs ρ' => exact fun q => q.elim
          | stuck => exact fun q => q.elim
        · rw [if_neg hl] at q; exact q.elim
      · subst hb
        exact ih R hd hn q
/-- one reading of a body, whatever stands ahead -/
theorem sm_try {Wout : WX} {body : List Stmt} {h₀ : ExceptHandler} {hds : List ExceptHandler} {pos : Pos} {mb : MS} {hs : List HdM} (hZ : Z.e = none) (hst : X.stack = X.env :: X.outer) (hf : X.env.frame = some X.env.locals) (hN : X.N.Nodup) (tk : Takes X Wout)
    (hb : ∀ (W : WX) (pn : List (Addr × Obj)) (xe : Value → Shared → Prop), Takes (X.tr pn xe) W → PassesOwn (model X.prog X.w) X.A X.env xe → PSsm (X.tr pn xe) Z (fun σ cls d H => W cls d σ H) os io rf body mb)
    (hh : PHds X Z os io rf (h₀ :: hds) hs) : PSm X Z (fun σ cls d H => Wout cls d σ H) os io rf (.Try body (h₀ :: hds) [] [] pos) (mTry mb hs) := by
  obtain ⟨l, l1, l2⟩ := hds_build hh
  refine ⟨_, vm_try hst hf hN tk (tb := fun W K σ H => ∀ (pn : List (Addr × Obj)) (xe : Value → Shared → Prop) (t : Takes (X.tr pn xe) W) (p : PassesOwn (model X.prog X.w) X.A X.env xe), (hb W pn xe t p).choose K σ H)
    (fun W pn xe t p => ⟨fun pins s σ H K I q => (hb W pn xe t p).choose_spec.1.run pins s σ H K I (q pn xe t p)⟩) l1, fun F H σ ρ K R q => ?_⟩
  intro pn xe t p
  refine (hb _ pn xe t p).choose_spec.2 F H σ ρ K R ?_
  unfold mTry at q
  revert q
  cases mb ρ with
  | nx ρ' => exact fun q => q
  | bk ρ' => exact fun q => q
  | ct ρ' => exact fun q => q
  | rt d ρ' => exact fun q => q
  | stuck => exact fun q => q
  | exc c fs ρ1 =>
    intro q F' H' σ' g
    have q2 := q.rebase g
    cases fs with
    | nil => exact handle_ok hZ l2 (dopt := none) g.e (fun z => absurd rfl z) (fun _ => rfl) q2
    | cons p fs => exact fun d fs' e1 e2 => handle_ok hZ l2 (dopt := some d) g.e (fun _ => ⟨d, fs', rfl, e1, e2⟩) (fun z => by cases z) q2

/-! ### e.f of the caught exception -/
def mXf (c : Str) (fs : List (Str × D)) (cs : List Str) (f : Str) : ME := fun ρ => if cs.contains c = true then ER.of (fs.lookup f) ρ else .stuck
theorem em_xf {a d0 : Addr} {oe : Obj} {cls : Value} {d : Option Addr} {pn : List (Addr × Obj)} {n f : Str} {p pos : Pos} {c : Str} {fs : List (Str × D)} {i : Nat} {os0 : Os} {E' : St → XK} (cs : List Str) (hT : ∀ c ∈ cs, XfC X.K (Z.z c) ∧ PySem.W.findIn X.K (.ref (Z.z c)) f = some none)
    (hcls : cls = .ref (Z.z c)) (hd : fs ≠ [] → d = some d0) (hz : Zc cls d oe) (hf : ∃ vs, oe.data = .fields vs)
    (hN : X.N[i]? = some n := by rfl) (hv : Vis X.env.scope n := by first | exact Or.inl rfl | exact Or.inr (Or.inl rfl) | exact Or.inr (Or.inr rfl)) (hdb : (n == ("__debug__" : Str)) = false := by decide) (hcd : (n == ("__classdict__" : Str)) = false := by decide)
    (hb : attributeBase (.Name n p) f X.env (eval (.Name n p) X.env) = eval (.Name n p) X.env := by rfl) :
    PEm (X.suite a ((a, oe) :: pn)) (Z.exc ⟨i, a, d0, c, fs⟩) E' ((i, false) :: os0) .fz true (.Attribute (.Name n p) f pos) (mXf c fs cs f) := by
  by_cases hc : cs.contains c = true
  · obtain ⟨T, hno⟩ := hT c (by simpa using hc)
    refine ⟨_, pe_xf T hno hz hf (pe_var (X := X.suite a ((a, oe) :: pn)) (i := i) hN hv hdb hcd) hb, fun F H σ ρ Q R h => ?_⟩
    unfold mXf at h
    rw [if_pos hc] at h
    obtain ⟨v, hv', h⟩ := run_of h
    obtain ⟨_, h2, h3⟩ := R.ex _ rfl
    have ne : fs ≠ [] := fun z => by subst z; cases hv'
    obtain ⟨vs, g1, g2⟩ := h3 ne
    obtain ⟨w, k1, k2⟩ := (rpS_lookup g2 f).2 _ hv'
    refine ⟨.ref a, h2, rfl, hcls, d0, vs, w, hd ne, ?_, k1, RunE.fin R h (PStep.refl R.hk) k2⟩
    rcases R.hk.le _ _ g1 with z | ⟨_, _, z, _⟩
    · exact z
    · cases z
  · refine ⟨fun _ _ _ => False, ⟨fun pins s σ H Q I q => q.elim⟩, fun F H σ ρ Q R h => ?_⟩
    unfold mXf at h
    rw [if_neg hc] at h
    exact h.elim
end Vm
/-! Vm21: a, b = x, y; what is walked, of any kind; small helps for the printed texts. -/
namespace Vm
open PySem L2
variable {Z : Par} {E : St → XK} {os : Os} {X : Cx} {io : List Nat} {rf : Fl}

theorem Go.setO2 {F H F0 H0 : Hp} {σ σ0 : St} {ρ ρ0 : Rho} {i : Nat} {d : D} {v : V} (g : Go Z os io σ0 ρ0 F0 H0 σ ρ F H) (ho : os.lookup i = some true) (hio : i ∉ io) (r : ResR Z .nw (Ow os σ0 ρ0) (Oa os σ ρ) H0 F H d v) :
    Go Z os io σ0 ρ0 F0 H0 (σ.set i (some v)) (ρ.set i (some d)) F H := by
  obtain ⟨l, e0, hl0, hF, hO, own⟩ := r
  subst e0
  obtain ⟨s, p, R, gio⟩ := g
  have hσ : ∀ j, j ≠ i → (σ.set i (some (.ref l)))[j]? = σ[j]? := fun j h => get_set_ne h
  refine ⟨⟨s.f, s.n, s.k, fun a h => ?_, s.d⟩, fun j h => ?_, ⟨R.ex.to (Same.refl F) (fun _ h => h) fun j h => hσ j (fun e => by subst e; rw [ho] at h; cases h), R.hk, by rw [List.length_set, List.length_set]; exact R.len, fun j x h n => ?_, fun j x b h n => ?_, fun j k b c l' h1 h2 ⟨x, h3⟩ ⟨y, h4⟩ h5 h6 => ?_⟩, fun j h => ?_⟩
  · obtain ⟨j, h1, ⟨x, h2⟩, h3⟩ := h
    rcases lookup_set_some h2 with ⟨e, e2, hl⟩ | ⟨ne, h2⟩
    · subst e
      rw [List.getElem?_set_self (by rw [R.len]; exact hl)] at h3
      cases h3
      exact hl0
    · exact s.w a ⟨j, h1, ⟨x, h2⟩, by rw [← hσ j ne]; exact h3⟩
  · have ne : j ≠ i := fun e => by subst e; rw [ho] at h; cases h
    exact ⟨(hσ j ne).trans (p j h).1, (List.getElem?_set_ne (Ne.symm ne)).trans (p j h).2⟩
  · have ne : j ≠ i := fun e => by subst e; rw [ho] at n; cases n
    rcases lookup_set_some h with ⟨e, _⟩ | ⟨_, h⟩
    · exact absurd e ne
    · rw [hσ j ne]; exact R.fz j x h n
  · rcases lookup_set_some h with ⟨e, e2, hl⟩ | ⟨ne, h⟩
    · subst e e2
      rw [ho] at n; cases n
      exact ⟨l, by rw [List.getElem?_set_self (by rw [R.len]; exact hl)], hF, own⟩
    · rw [hσ j ne]; exact R.ow j x b h n
  · rcases lookup_set_some h3 with ⟨e, e2, hl⟩ | ⟨ne, h3'⟩
    · rcases lookup_set_some h4 with ⟨e', _⟩ | ⟨ne2, h4'⟩
      · rw [e, e']
      · subst e
        rw [List.getElem?_set_self (by rw [R.len]; exact hl)] at h5
        cases h5
        rw [hσ k ne2] at h6
        exact absurd ⟨k, c, h2, ⟨y, h4'⟩, h6⟩ hO
    · rcases lookup_set_some h4 with ⟨e', _, hl⟩ | ⟨ne2, h4'⟩
      · subst e'
        rw [List.getElem?_set_self (by rw [R.len]; exact hl)] at h6
        cases h6
        rw [hσ j ne] at h5
        exact absurd ⟨j, b, h1, ⟨x, h3'⟩, h5⟩ hO
      · rw [hσ j ne] at h5
        rw [hσ k ne2] at h6
        exact R.ne j k b c l' h1 h2 ⟨x, h3'⟩ ⟨y, h4'⟩ h5 h6
  · exact (hσ j fun e => hio (e ▸ h)).trans (gio j h)
/-- what fits a slot -/
def Got (os : Os) (i : Nat) (fl : Fl) : Prop := (fl = .fz ∧ os.lookup i = none) ∨ (fl = .nw ∧ os.lookup i = some true)
theorem Go.put2 {fl : Fl} {F H F0 H0 : Hp} {σ σ0 : St} {ρ ρ0 : Rho} {i : Nat} {d : D} {v : V} (g : Go Z os io σ0 ρ0 F0 H0 σ ρ F H) (hg : Got os i fl) (hio : i ∉ io) (r : ResR Z fl (Ow os σ0 ρ0) (Oa os σ ρ) H0 F H d v) :
    Go Z os io σ0 ρ0 F0 H0 (σ.set i (some v)) (ρ.set i (some d)) F H := by
  rcases hg with ⟨e, ho⟩ | ⟨e, ho⟩
  · subst e; exact g.trans (Go.setF g.e ho hio r)
  · subst e; exact g.setO2 ho hio r
def mPar (i j : Nat) (ma mb : ME) : MS := fun ρ => match ma ρ with
  | .ok x ρ1 => match mb ρ1 with
    | .ok y ρ2 => .nx ((ρ2.set i (some x)).set j (some y))
    | .exc c fs ρ2 => .exc c fs ρ2
    | .stuck => .stuck
  | .exc c fs ρ1 => .exc c fs ρ1
  | .stuck => .stuck
theorem sim_par {fl1 fl2 : Fl} {pu1 pu2 : Bool} {i j : Nat} {ta tb : TE} {ma mb : ME} (ha : SimE Z E os fl1 pu1 ta ma) (hb : SimE Z E os fl2 pu2 tb mb) (hi : Got os i fl1) (hj : Got os j fl2) (hii : i ∉ io) (hjj : j ∉ io) (hij : i ≠ j) :
    SimS Z E os io rf (tPar i j (tCons ta (tCons tb tNil))) (mPar i j ma mb) := by
  intro F H σ ρ K R q
  refine ha F H σ ρ _ R ?_
  unfold mPar at q
  revert q
  cases ma ρ with
  | stuck => exact fun z => z
  | exc c fs ρ' => exact fun q F' H' s p R' => q F' H' σ (.ofE s p R')
  | ok x ρ1 =>
    intro q F1 H1 v s _ p R1 r1
    refine hb F1 H1 σ ρ1 _ R1 ?_
    revert q
    dsimp only
    cases mb ρ1 with
    | stuck => exact fun z => z
    | exc c fs ρ' => exact fun q F' H' s2 p2 R' => q F' H' σ (.ofE (s.trans s2) (p.trans p2) R')
    | ok y ρ2 =>
      intro q F2 H2 w s2 _ p2 R2 r2
      refine ⟨v, w, rfl, q F2 H2 _ ?_⟩
      have g0 : Go Z os io σ ρ F H σ ρ2 F2 H2 := .ofE (s.trans s2) (p.trans p2) R2
      have r1' : ResR Z fl1 (Ow os σ ρ) (Oa os σ ρ2) H F2 H2 x v := by
        rcases hi with ⟨e, _⟩ | ⟨e, _⟩
        · subst e; exact Rp.mono s2.f r1
        · subst e; exact nw_keep s2 (fun i h => (p2 i h).2) r1
      refine (g0.put2 hi hii r1').put2 hj hjj ?_
      rcases hj with ⟨e, _⟩ | ⟨e, hj2⟩
      · subst e; exact r2
      · subst e
        obtain ⟨l2, e2, f2, g2, h2, k2⟩ := r2
        refine ⟨l2, e2, ?_, g2, fun z => ?_, k2⟩
        · rcases f2 with z | z
          · exact s.w l2 z
          · exact .inr (s.d l2 z)
        · obtain ⟨k, b, q1, ⟨d, q2⟩, q3⟩ := z
          rcases lookup_set_some q2 with ⟨e, e4, hl⟩ | ⟨ne, q2⟩
          · subst e
            rw [List.getElem?_set_self (by rw [R2.len]; exact hl)] at q3
            rcases hi with ⟨e, n⟩ | ⟨e, n⟩
            · rw [n] at q1; cases q1
            · subst e
              obtain ⟨l1, e1, f1, g1, h1, k1⟩ := r1
              subst e1
              cases q3
              rcases f2 with z | z
              · exact h1 z.oa
              · obtain ⟨u, hu⟩ := k1.some
                rw [z] at hu; cases hu
          · rw [get_set_ne ne] at q3
            exact h2 ⟨k, b, q1, ⟨d, q2⟩, q3⟩
section
variable {x y : Str} {a b : Expr} {px py pt pos pt2 : Pos} {kt k2 : Nat} {pu1 pu2 : Bool} {ma mb : ME}
theorem sm_par {fl1 fl2 : Fl} (i j : Nat) (ha : PEm X Z E os fl1 pu1 a ma) (hb : PEm X Z E os fl2 pu2 b mb) (hc : X.calm = true) (hN : X.N.Nodup) (hi : Got os i fl1 := by first | exact .inl ⟨rfl, rfl⟩ | exact .inr ⟨rfl, rfl⟩) (hj : Got os j fl2 := by first | exact .inl ⟨rfl, rfl⟩ | exact .inr ⟨rfl, rfl⟩)
    (hii : i ∉ io := by decide) (hjj : j ∉ io := by decide) (hij : i ≠ j := by decide) (h1 : X.N[i]? = some x := by rfl) (h2 : X.N[j]? = some y := by rfl) (hx : X.env.scope.names.lookup x = some .local := by rfl) (hy : X.env.scope.names.lookup y = some .local := by rfl)
    (hw : swappedStores [.Tuple [.Name x px, .Name y py] kt pt] (.Tuple [a, b] k2 pt2) X.env = pure (some [x, y]) := by rfl) (hs : swapsWithSole [.Tuple [.Name x px, .Name y py] kt pt] (.Tuple [a, b] k2 pt2) pos.line X.env = pure false := by rfl)
    (hst : starEach (a :: [b]) X.env = (false, eval a X.env) :: starEach [b] X.env := by rfl) (hst2 : starEach (b :: []) X.env = (false, eval b X.env) :: starEach [] X.env := by rfl) :
    PSm X Z E os io rf (.Assign [.Tuple [.Name x px, .Name y py] kt pt] (.Tuple [a, b] k2 pt2) pos) (mPar i j ma mb) := by
  obtain ⟨_, a1, a2⟩ := ha
  obtain ⟨_, b1, b2⟩ := hb
  exact ⟨_, ps_par hc hN h1 h2 hij hx hy (pa_cons a1 (pa_cons b1 pa_nil hst2) hst) hw hs, sim_par a2 b2 hi hj hii hjj hij⟩
end

/-! ### walks over what stands still, whatever it is -/
theorem pi_or {tg e : Expr} {w1 w2 : TI} (h1 : PI X tg e w1) (h2 : PI X tg e w2) : PI X tg e (fun σ H Q => w1 σ H Q ∨ w2 σ H Q) := ⟨fun pins s σ H R I h => by
  rcases h with h | h
  · exact h1.run pins s σ H R I h
  · exact h2.run pins s σ H R I h⟩
def iOr (f g : D → Option (List D)) : D → Option (List D) := fun d => match f d with
  | some ds => some ds
  | none => g d
theorem sim_iOr {pu : Bool} {me : ME} {f g : D → Option (List D)} {w1 w2 : TI} (h1 : SimI Z E os pu w1 (mIt f me)) (h2 : SimI Z E os pu w2 (mIt g me)) : SimI Z E os pu (fun σ H Q => w1 σ H Q ∨ w2 σ H Q) (mIt (iOr f g) me) := by
  intro F H σ ρ Q R q
  have q1 := h1 F H σ ρ Q R
  have q2 := h2 F H σ ρ Q R
  unfold mIt at q q1 q2
  revert q q1 q2
  cases me ρ with
  | stuck => exact fun z _ _ => z.elim
  | exc c fs ρ' => exact fun q q1 _ => .inl (q1 q)
  | ok d ρ1 =>
    unfold iOr
    dsimp only [ER.bind]
    cases f d with
    | some ds => exact fun q q1 _ => .inl (q1 q)
    | none => exact fun q _ q2 => .inr (q2 q)
section
variable {e : Expr} {pu : Bool} {me : ME} {tg : Expr}
theorem im_or {f g : D → Option (List D)} (h1 : PIm X Z E os pu tg e (mIt f me)) (h2 : PIm X Z E os pu tg e (mIt g me)) : PIm X Z E os pu tg e (mIt (iOr f g) me) :=
  let ⟨_, a, b⟩ := h1; let ⟨_, c, d⟩ := h2; ⟨_, pi_or a c, sim_iOr b d⟩
def iScr : D → Option (List D)
  | .scr ns => some (ns.map .int)
  | _ => none
theorem wk_scr {F : Hp} {a : Addr} {ns : List Int} (h : Z.s a ns) : Wk Z (Itl Z.K a) F [] (ns.map D.int) := fun i F' H' f k _ => by
  have q : SqL Z.K H' a (ns.map V.int) := k.scH h
  refine ⟨fun hi => ?_, fun e => ⟨_, q, by rw [e]; simp⟩⟩
  rw [List.length_map] at hi
  refine ⟨⟨_, V.int ns[i], q, by rw [List.getElem?_map, List.getElem?_eq_getElem hi]; rfl⟩, fun x H2 ⟨e, y⟩ => ?_⟩
  subst e
  have e2 := y _ q
  rw [List.getElem?_map, List.getElem?_eq_getElem hi] at e2
  have e2 : x = V.int ns[i] := (Option.some.inj e2).symm
  subst e2
  exact ⟨F', .int ns[i], PStep.refl k, by rw [List.getElem?_map, List.getElem?_eq_getElem hi]; rfl, .int _⟩
theorem im_scr (h : PEm X Z E os .fz pu e me) (hK : X.K = Z.K := by rfl) : PIm X Z E os pu tg e (mIt iScr me) := by
  obtain ⟨te, a1, a2⟩ := h
  refine ⟨_, pi_list a1, ?_⟩
  rw [hK]
  exact sim_it (wi := fun x H1 R => ∃ a, x = .ref a ∧ (∃ xs, SqL Z.K H1 a xs) ∧ R (Itl Z.K a) H1) a2 fun F H d v ds Q k r ef q => by
    cases d with
    | scr l =>
      cases ef
      cases r with
      | scr h1 => exact ⟨_, rfl, ⟨_, k.scH h1⟩, q _ (wk_scr h1)⟩
    | _ => cases ef
def iAny (d : D) : Option (List D) := match d with
  | .lst ds => some ds
  | .tup ds => some ds
  | .str s => some (s.cps.toList.map fun c => .str ⟨#[c]⟩)
  | .scr ns => some (ns.map .int)
  | _ => none
theorem iAny_eq : iOr (iOr iLst iTp) (iOr iStrD iScr) = iAny := by
  funext d
  cases d <;> rfl
theorem im_any (h : PEm X Z E os .fz pu e me) (hK : X.K = Z.K := by rfl) : PIm X Z E os pu tg e (mIt iAny me) := by
  rw [← iAny_eq]
  exact im_or (im_or (im_list h hK) (im_tup h hK)) (im_or (im_str h) (im_scr h hK))
end

/-! ### small helps -/
theorem hu66 {A : Around} {k : Nat} (hr : Room k A) : A.units + 66 < cLine := by have := hr.un; omega
theorem tk0 {X : Cx} : Takes X (fun _ _ _ _ => False) := fun u s' ⟨_, _, _, _, _, _, _, _, _, _, _, _, _, _, _, _, w⟩ => w.elim
def mSlot (i : Nat) (ms : Rho → ER (List D)) : Rho → ER (List D) := fun ρ => match ρ[i]? with
  | some (some _) => mSl ms ρ
  | _ => .stuck
theorem am_slot {es : List Expr} {pu2 : Bool} {fls : List AF} {ms : Rho → ER (List D)} {x : Str} {p : Pos} (i : Nat) (hs : PAm X Z E os fls pu2 es ms) (hN : X.N[i]? = some x := by rfl) (hv : Vis X.env.scope x := by first | exact Or.inl rfl | exact Or.inr (Or.inl rfl) | exact Or.inr (Or.inr rfl)) (hd : (x == ("__debug__" : Str)) = false := by decide)
    (hcd : (x == ("__classdict__" : Str)) = false := by decide) (hst : starEach (.Name x p :: es) X.env = (false, eval (.Name x p) X.env) :: starEach es X.env := by rfl) (ho : os.lookup i = some true := by rfl) : PAm X Z E os (.sl i :: fls) pu2 (.Name x p :: es) (mSlot i ms) := am_sl i hs hN hv hd hcd hst ho
end Vm
/-! Vm22: t[::-1] of a tuple. -/
namespace Vm
open PySem PySem.Spec PyProof.Rows HT L2
section
variable {prog : Program} {w : World} {A : Around} {E : Value → Shared → Prop} {s : Shared}
theorem applied_rev {sl : Addr} {vl vu vk : Value} {n : Nat} {Q : Int × Int × Nat → Shared → Prop} (hs : s.heap.IsSliceOf sl vl vu vk) (pl : IsPart vl none) (pu : IsPart vu none) (pk : IsPart vk (some (-1)))
    (h : Q ((n : Int) - 1, -1, n) s) : wpAny (model prog w) A (Builtin.Slice.sliceApplied (.ref sl) (pure (n : Int))) Q E s := by
  obtain ⟨os, hos, hcs, hds⟩ := id hs
  unfold Builtin.Slice.sliceApplied Builtin.Slice.sliceFields
  refine wpAny_bind (wpAny_bind (wpAny_field hos hds (x := vl) rfl (wpAny_bind (wpAny_field hos hds (x := vu) rfl (wpAny_bind (wpAny_field hos hds (x := vk) rfl (wpAny_pure ?_)))))))
  refine wpAny_bind (slicePart_ pk ?_)
  show wpAny _ _ (if ((-1 : Int) == 0) = true then _ else _) _ _ s
  rw [if_neg (by decide)]
  refine wpAny_bind (slicePart_ pl (wpAny_bind (slicePart_ pu (wpAny_bind (wpAny_pure ?_)))))
  show wpAny _ _ (pure ((n : Int) - 1, (-1 : Int), Builtin.Slice.slicePlaces ((n : Int) - 1) (-1) (-1))) _ _ s
  have e : Builtin.Slice.slicePlaces ((n : Int) - 1) (-1) (-1) = n := by
    unfold Builtin.Slice.slicePlaces
    rw [if_neg (by decide)]
    by_cases hn : ((n : Int) - 1) > -1
    · rw [if_pos hn, show (-(-1) : Int) = 1 by decide, Int.ediv_one]; omega
    · rw [if_neg hn]; omega
  rw [e]
  exact wpAny_pure h
theorem fm_some {α β : Type} {f : α → Option β} {g : α → β} : ∀ {l : List α}, (∀ m ∈ l, f m = some (g m)) → l.filterMap f = l.map g
  | [], _ => rfl
  | m :: l, h => by rw [List.filterMap_cons, h m List.mem_cons_self, List.map_cons, fm_some fun k hk => h k (List.mem_cons_of_mem _ hk)]
theorem pick_rev (xs : List Value) : ((List.range xs.length).filterMap fun (m : Nat) => xs.toArray[(((xs.length : Int) - 1) + (m : Int) * -1).toNat]?) = xs.reverse := by
  apply List.ext_getElem?
  intro i
  have e : (fun (m : Nat) => xs.toArray[(((xs.length : Int) - 1) + (m : Int) * -1).toNat]?) = fun (m : Nat) => xs[(((xs.length : Int) - 1) + (m : Int) * -1).toNat]? := by
    funext m; simp
  rw [e]
  have e2 : (List.range xs.length).filterMap (fun (m : Nat) => xs[(((xs.length : Int) - 1) + (m : Int) * -1).toNat]?) = (List.range xs.length).map (fun m => xs.getD (xs.length - 1 - m) .none) := by
    refine fm_some fun m hm => ?_
    have hm := List.mem_range.mp hm
    have q : (((xs.length : Int) - 1) + (m : Int) * -1).toNat = xs.length - 1 - m := by omega
    rw [q]
    have hl : xs.length - 1 - m < xs.length := by omega
    rw [List.getElem?_eq_getElem hl]
    simp [List.getD, List.getElem?_eq_getElem hl]
  rw [e2, List.getElem?_map]
  by_cases hi : i < xs.length
  · rw [List.getElem?_range hi, List.getElem?_reverse hi]
    have hl : xs.length - 1 - i < xs.length := by omega
    simp [List.getD, List.getElem?_eq_getElem hl]
  · rw [List.getElem?_eq_none (by rw [List.length_range]; omega), List.getElem?_eq_none (by rw [List.length_reverse]; omega)]
    rfl
theorem getItem_tuple_rev {t sl : Addr} {items : List Value} {vl vu vk : Value} {Q : Value → Shared → Prop} (ht : IsTup s.heap t items.toArray) (hs : s.heap.IsSliceOf sl vl vu vk) (pl : IsPart vl none) (pu : IsPart vu none) (pk : IsPart vk (some (-1)))
    (h : Q (.ref s.heap.objs.size) { s with heap := s.heap.push { cls := .type "tuple", data := .seq items.reverse.toArray } })
    (hsz : items.length ≤ sizeLine) : wpAny (model prog w) A (getItem (.ref t) (.ref sl)) Q E s := by
  have htake : sizeOk (.seq items.reverse.toArray) := by
    show items.reverse.toArray.size ≤ sizeLine
    rw [List.size_toArray, List.length_reverse]
    exact hsz
  obtain ⟨os, hos, hcs, hds⟩ := id hs
  have hTs : s.TypeIs (.ref sl) "slice" := ⟨os, hos, hcs⟩
  unfold getItem
  try with_reducible refine wpAny_holding ?_
  first | refine wpAny_bind (wpAny_pure ?_) | skip
  refine wpAny_bind (wpAny_sequenceKey ht.typeIs (by decide) ?_)
  refine wpAny_bind (wpAny_callSpecial?_slot (name := Str.ofString "__getitem__") ht.typeIs PyProof.Rows.slot_tuple_getitem
    (wpAny_call_entry PyProof.Rows.slot_tuple_getitem ht.typeIs entry_tuple_getitem ?_ (args_tuple_getitem _ _)))
  show wpAny _ _ (Builtin.Tuple.tupleItemsOf (.ref t) >>= _) _ _ s
  refine wpAny_bind (tupleItemsOf_ ht ?_)
  refine wpAny_bind (wpAny_typeOf hTs ?_)
  rw [if_pos (by decide)]
  refine wpAny_bind (applied_rev (n := items.toArray.size) hs pl pu pk ?_)
  have hno : ¬ ((((items.toArray.size : Int) - 1) == 0 && (-1 : Int) == 1 && items.toArray.size == items.toArray.size) = true) := by
    intro q
    rw [Bool.and_eq_true, Bool.and_eq_true] at q
    exact absurd q.1.2 (by decide)
  show wpAny _ _ (if ((((items.toArray.size : Int) - 1) == 0 && (-1 : Int) == 1 && items.toArray.size == items.toArray.size) = true) then _ else _) _ _ s
  rw [if_neg hno]
  rw [List.size_toArray, pick_rev]
  first
    | exact wpAny_bind (m := Builtin.Tuple.tupleExact _) (wpAny_newObj_type (wpAny_pure ⟨_, rfl, wpAny_pure h⟩) htake)
    | exact wpAny_bind (m := Builtin.Tuple.tupleExact _) (wpAny_newObj_type (wpAny_bind (wpAny_pure (wpAny_pure ⟨_, rfl, wpAny_pure h⟩))) htake)
    | exact wpAny_bind (wpAny_bind (m := Builtin.Tuple.tupleExact _) (wpAny_newObj_type (wpAny_pure (wpAny_pure ⟨_, rfl, wpAny_pure h⟩)) htake))
    | exact wpAny_bind (wpAny_bind (m := Builtin.Tuple.tupleExact _) (wpAny_newObj_type (wpAny_pure ⟨_, rfl, wpAny_pure h⟩) htake))
end
end Vm
namespace Vm
open PySem PySem.Spec PyProof.Rows L2
variable {X : Cx}
def tRevT (K : PySem.W.Frag) (te : TE) : TE := fun σ H Q => te σ H fun x H1 => ∃ a xs, x = .ref a ∧ SqT K H1 a xs ∧ ∀ p, H1 p = none → Q (.ref p) (upd H1 p (.tup xs.reverse))
theorem pe_revT {e : Expr} {te : TE} {k : Nat} {p1 p2 p3 pos : Pos} (he : PE X e te) : PE X (.Subscript e (.Slice none none (some (.UnaryOp .USub (.Constant (.int 1) k p1) p2)) p3) pos) (tRevT X.K te) := by
  refine ⟨fun pins s σ H Q I h => ?_⟩
  refine Subscript_ (thn (he.run pins s σ H _ I h) fun v s1 ⟨x, H1, I1, r1, q1⟩ => ?_)
  obtain ⟨a, xs, ex, hx, q⟩ := q1
  subst ex
  cases r1
  have hst : PO X (some (.UnaryOp .USub (.Constant (.int 1) k p1) p2)) (tPart (tUn (rU fun i => .int (-i)) (tC (.int 1)))) := po_some (pe_un un_neg pe_int)
  refine wpAny_Slice (thn (po_none.run pins s1 σ H1 (fun o H2 => o = none ∧ H2 = H1) I1 ⟨rfl, rfl⟩) fun vl s2 ⟨l, H2, I2, pl, el, e2⟩ => ?_)
  subst el e2
  refine thn (po_none.run pins s2 σ H2 (fun o H3 => o = none ∧ H3 = H2) I2 ⟨rfl, rfl⟩) fun vu s3 ⟨u, H3, I3, pu, eu, e3⟩ => ?_
  subst eu e3
  refine thn (hst.run pins s3 σ H3 (fun o H4 => o = some (-1) ∧ H4 = H3) I3 ⟨1, rfl, -1, rfl, rfl, rfl⟩) fun vs s4 ⟨o, H4, I4, ps, eo, e4⟩ => ?_
  subst eo e4
  have I5 : Inv X pins σ H4 { s4 with heap := s4.heap.push { cls := .type "slice", data := .fields #[vl, vu, vs] } } := I4.kept (t' := s4.toks) fun b ob q => Heap.get?_push_of_some _ q
  obtain ⟨its, r, ht, hz⟩ := I5.tuple hx
  have hlen := r.length
  show wpAny (model X.prog X.w) X.A (subscriptTail e (.Slice none none (some (.UnaryOp .USub (.Constant (.int 1) k p1) p2)) p3) (.ref a) (.ref s4.heap.objs.size)) (EP X pins σ Q) X.xe { s4 with heap := s4.heap.push { cls := .type "slice", data := .fields #[vl, vu, vs] } }
  refine tail_any (ops := [.ref a, .ref s4.heap.objs.size]) ht.typeIs (PyProof.Rows.slot_tuple_getitem.lookup) ?_ (by with_unfolding_all rfl)
  refine getItem_tuple_rev ht (Heap.IsSliceOf.new _ vl vu vs) pl pu ps ?_ (by rw [← hlen]; exact hz)
  refine ⟨.ref _, _, I5.laid (t' := s4.toks) (o := .tup xs.reverse) (fun b ob q => Heap.get?_push_of_some _ q) (Nat.le_refl _) ?_, rfl, q _ (I5.hok.fresh (Nat.le_refl _))⟩
  exact ⟨by rw [List.length_reverse]; exact hz, _, r.reverse, IsTup.new _ _⟩
end Vm
namespace Vm
open PySem L2
variable {Z : Par} {E : St → XK} {os : Os} {X : Cx} {io : List Nat} {rf : Fl}
theorem pe_or' {e : Expr} {t1 t2 : TE} (h1 : PE X e t1) (h2 : PE X e t2) : PE X e (fun σ H Q => t1 σ H Q ∨ t2 σ H Q) := ⟨fun pins s σ H R I h => by
  rcases h with h | h
  · exact h1.run pins s σ H R I h
  · exact h2.run pins s σ H R I h⟩
theorem sim_op1or {fl : Fl} {pu : Bool} {me : ME} {f g : D → Option D} {t1 t2 : TE} (h1 : SimE Z E os fl pu t1 (mOp1 f me)) (h2 : SimE Z E os fl pu t2 (mOp1 g me)) : SimE Z E os fl pu (fun σ H Q => t1 σ H Q ∨ t2 σ H Q) (mOp1 (fun d => gOr (f d) (g d)) me) := by
  intro F H σ ρ Q R q
  have q1 := h1 F H σ ρ Q R
  have q2 := h2 F H σ ρ Q R
  unfold mOp1 at q q1 q2
  revert q q1 q2
  cases me ρ with
  | stuck => exact fun z _ _ => z.elim
  | exc c fs ρ' => exact fun q q1 _ => .inl (q1 q)
  | ok d ρ1 =>
    dsimp only [ER.bind]
    cases f d with
    | some ds => exact fun q q1 _ => .inl (q1 q)
    | none => exact fun q _ q2 => .inr (q2 q)
def gRevT (d : D) : Option D := match d with
  | .tup ds => some (.tup ds.reverse)
  | _ => none
def rRevT (K : PySem.W.Frag) : V → Hp → VK → Prop := fun x H Q => ∃ a xs, x = .ref a ∧ SqT K H a xs ∧ ∀ p, H p = none → Q (.ref p) (upd H p (.tup xs.reverse))
theorem o1_revT {K : PySem.W.Frag} : Op1 Z (rRevT K) .fz gRevT := fun F H d v Q e k b hg q => by
  cases d with
  | tup ds =>
    cases hg
    obtain ⟨a, vs, e1, e2, e3⟩ := b.tup k
    exact ⟨a, vs, e1, SqT.of e2, q_tup k e3.reverse q⟩
  | _ => cases hg
/-- a[::-1] of a list or a tuple -/
def gRevA (d : D) : Option D := gOr (gRevL d) (gRevT d)
theorem em_revA {a : Expr} {k : Nat} {p1 p2 p3 pos : Pos} {fl1 : Fl} {pu : Bool} {ma : ME} (ha : PEm X Z E os fl1 pu a ma) :
    PEm X Z E os .fz pu (.Subscript a (.Slice none none (some (.UnaryOp .USub (.Constant (.int 1) k p1) p2)) p3) pos) (mOp1 gRevA ma) := by
  obtain ⟨_, a1, a2⟩ := ha
  exact ⟨_, pe_or' (pe_revL a1) (pe_revT a1), sim_op1or (sim_op1 (r := rRev X.K) (o1_rev (.inl rfl)) a2) (sim_op1 (r := rRevT X.K) o1_revT a2)⟩
end Vm
/-! Vm23: == by an own __eq__, with either answer. -/
namespace Vm
open PySem PySem.Spec PyProof.Rows L2
variable {X : Cx}
def rOwnEq (C : Addr) (sp : Sp) (E : XK) : R2 := fun x y H Q => ∃ a b dx dy fs gs, x = .ref a ∧ y = .ref b ∧ H a = some (.ins C dx fs) ∧ H b = some (.ins C dy gs) ∧ sp [.ref a, .ref b] H (fun v H' => (∃ k, v = .bl k) ∧ Q v H') E
theorem op_own {CX : CXT} {n : Nat} {C f : Addr} {fd : FuncData} {ps : List Str} {sp : Sp} {E : XK} (F : FnOk X.prog X.w X.K X.mg X.base CX n f fd ps sp)
    (hs : PySem.W.findIn X.K (.ref C) "__eq__" = some (some (.ref f))) (hf : PySem.W.isFn X.K (.ref f) = true) (hb : Binds X.K fd ps []) (hx : Passes CX X E) (hr : Room n X.A) : OpR X (compareOp .Eq) (rOwnEq C sp E) := by
  intro pins s σ H x y u v Q I rx ry d
  obtain ⟨a, b, dx, dy, fs, gs, rfl, rfl, ha, hb', hsp⟩ := d
  cases rx
  cases ry
  obtain ⟨mA, J, _⟩ := ins_get I.hok ha
  obtain ⟨mB, J', _⟩ := ins_get I.hok hb'
  obtain ⟨od, J, _⟩ := J.look
  obtain ⟨od', J', _⟩ := J'.look
  obtain ⟨m, hF⟩ := I.fr
  show wpAny (model X.prog X.w) X.A (richCompare .Eq (.ref a) (.ref b)) (EP X pins σ Q) X.xe s
  refine PySem.W.cmp_K (op := .Eq) (tb := .ref C) hr.units0 hF I.ok.mod.kin J J'.type (by simp [PySem.W.notFirst]) hs hf ?_
  have e0 : Env0 X.prog X.w X.K X.mg X.base X.A X.stack s H := I.env0
  have hl := F.len _ _ _ _ hsp
  have r2 : Vals [V.ref a, V.ref b] [Value.ref a, Value.ref b] := .cons rfl (.cons rfl .nil)
  refine wpAny_call (codeAny_mono (F.run X.A X.stack s H ⟨[.ref a, .ref b], []⟩ [.ref a, .ref b] [.ref a, .ref b] _ E hr e0 (by
    have := hb s [.ref a, .ref b] I.kIn (by simpa using hl)
    simpa using this) r2 hsp) fun r s' hq => ?_)
  cases r with
  | error e => exact hx pins σ H s e s' I hq
  | ok fl =>
    cases fl with
    | ret w =>
      obtain ⟨z, H', I', rz, ⟨k, ek⟩, q⟩ := I.after hq
      subst ek
      cases rz
      exact ⟨.bl k, H', I', rfl, q⟩
    | next => exact False.elim hq
    | brk => exact False.elim hq
    | cont => exact False.elim hq
end Vm
namespace Vm
open PySem L2
variable {X : Cx} {Z : Par} {E : St → XK} {os : Os} {io : List Nat} {rf : Fl}
/-- a rule by frozen values -/
def Op2F (Z : Par) (r : R2) (g : D → D → Option D) : Prop := ∀ (F H : Hp) (d1 d2 : D) (v1 v2 : V) (Q : VK) (e : D), Hk Z F H → Rp Z F d1 v1 → Rp Z F d2 v2 → g d1 d2 = some e →
  (∀ (F' H' : Hp) (w : V), PStep Z F H F' H' → NewR Z .fz H F' H' e w → Q w H') → r v1 v2 H Q
theorem sim_op2F {pu1 pu2 : Bool} {r : R2} {g : D → D → Option D} {ta tb : TE} {ma mb : ME} (hr : Op2F Z r g) (ha : SimE Z E os .fz pu1 ta ma) (hb : SimE Z E os .fz pu2 tb mb) :
    SimE Z E os .fz (pu1 && pu2) (tOp r ta tb) (mOp2 g ma mb) := by
  intro F H σ ρ Q R h
  refine ha F H σ ρ _ R ?_
  unfold mOp2 at h
  revert h
  cases e1 : ma ρ with
  | stuck => exact fun z => z
  | exc c fs ρ' => exact fun z => z
  | ok x ρ1 =>
    intro h F1 H1 v s hp p R1 r1
    have h1 : RunE Z E os .fz pu2 F1 H1 σ ρ1 ((mb ρ1).bind fun y ρ2 => ER.of (g x y) ρ2) Q := RunE.rebase (pu1 := pu1) (pu2 := pu2) s hp (fun e => by simpa using e) p h
    refine hb F1 H1 σ ρ1 _ R1 ?_
    revert h1
    cases e2 : mb ρ1 with
    | stuck => exact fun z => z
    | exc c fs ρ' => exact fun z => z
    | ok y ρ2 =>
      intro h1 F2 H2 u s2 hp2 p2 R2 r2
      obtain ⟨e, he, h3⟩ := run_of (RunE.rebase (pu1 := pu2) (pu2 := true) s2 hp2 (fun e => ⟨e, rfl⟩) p2 h1)
      exact hr F2 H2 x y v u Q e R2.hk (Rp.mono s2.f r1) r2 he fun F' H' w ps nr => RunE.fin R2 h3 ps nr
/-- what an own == tells of two instances -/
def gOwnEq (c : Str) (mf : List D → FR) (d e : D) : Option D := match d, e with
  | .obj c1 fs, .obj c2 gs => if c1 = c ∧ c2 = c then (match mf [.obj c1 fs, .obj c2 gs] with
    | .ret (.bl k) _ => some (.bl k)
    | _ => none) else none
  | _, _ => none
theorem o2_own {c : Str} {mf : List D → FR} {E : XK} : Op2F Z (rOwnEq (Z.z c) (SpM Z [.fz, .fz] .fz mf) E) (gOwnEq c mf) := by
  intro F H d1 d2 v1 v2 Q e k r1 r2 hg q
  unfold gOwnEq at hg
  split at hg
  · rename_i c1 fs c2 gs
    by_cases hc : c1 = c ∧ c2 = c
    · rw [if_pos hc] at hg
      obtain ⟨e1, e2⟩ := hc
      subst e1 e2
      have r1' := r1
      have r2' := r2
      cases r1 with
      | obj a1 a2 =>
        cases r2 with
        | obj b1 b2 =>
          refine ⟨_, _, _, _, _, _, rfl, rfl, k.ins a1, k.ins b1, F, [.obj _ fs, .obj _ gs], k, .cons r1' (.cons r2' .nil), fun i j p p' l h1 h2 n1 n2 => ?_, ?_⟩
          · exfalso
            rcases i with _ | _ | i
            · simp at h1; exact n1 h1.symm
            · simp at h1; exact n1 h1.symm
            · simp at h1
          · split at hg
            · rename_i kk outs em
              cases hg
              rw [em]
              intro F' H' v st hk' _ rr
              have no : ∀ (vs : List V) a, ¬ OwP [.fz, .fz] vs a := fun vs a ⟨j, p, h1, h2, _⟩ => by
                rcases j with _ | _ | j
                · simp at h1; exact h2 h1.symm
                · simp at h1; exact h2 h1.symm
                · simp at h1
              have rr : Rp Z F' (.bl kk) v := rr
              cases rr
              refine ⟨⟨kk, rfl⟩, q F' H' _ ⟨st.f, fun a o h => ?_, fun a o h => st.k a o h (no _ _), hk'⟩ (.bl kk)⟩
              rcases st.n a o h with h | h | h
              · exact .inl h
              · exact .inr h
              · exact absurd h (no _ _)
            · cases hg
    · rw [if_neg hc] at hg; cases hg
  · cases hg
section
variable {a b : Expr} {pos : Pos} {pu1 pu2 : Bool} {ma mb : ME} {CX : CXT} {n : Nat} {f : Addr} {fd : FuncData} {ps : List Str} {mf : List D → FR}
theorem em_oeq (c : Str) (hm : Meth X.K (Z.z c) "__eq__" f) (F : FnOk X.prog X.w X.K X.mg X.base CX n f fd ps (SpM Z [.fz, .fz] .fz mf)) (hr : Room n X.A) (hb : Binds X.K fd ps []) (hx : Passes CX X E0) (ha : PEm X Z E os .fz pu1 a ma) (hbb : PEm X Z E os .fz pu2 b mb)
    (hmk : behindInMarks .Eq b = false := by first | rfl | exact nobehind _ (by decide) (by decide)) : PEm X Z E os .fz (pu1 && pu2) (.Compare a [.Eq] [b] pos) (mOp2 (gOwnEq c mf) ma mb) := by
  obtain ⟨_, a1, a2⟩ := ha
  obtain ⟨_, b1, b2⟩ := hbb
  exact ⟨_, pe_cmpR (op_own (E := E0) F hm.at_ hm.fn hb hx hr) a1 b1 hmk, sim_op2F o2_own a2 b2⟩
theorem tm_oeq (c : Str) (hm : Meth X.K (Z.z c) "__eq__" f) (F : FnOk X.prog X.w X.K X.mg X.base CX n f fd ps (SpM Z [.fz, .fz] .fz mf)) (hr : Room n X.A) (hb : Binds X.K fd ps []) (hx : Passes CX X E0) (ha : PEm X Z E os .fz pu1 a ma) (hbb : PEm X Z E os .fz pu2 b mb)
    (hmk : behindInMarks .Eq b = false := by first | rfl | exact nobehind _ (by decide) (by decide)) : PTm X Z E os (pu1 && pu2) (.Compare a [.Eq] [b] pos) (mT (mOp2 (gOwnEq c mf) ma mb)) := by
  obtain ⟨_, a1, a2⟩ := ha
  obtain ⟨_, b1, b2⟩ := hbb
  exact ⟨_, pt_cmpR (op_own (E := E0) F hm.at_ hm.fn hb hx hr) a1 b1 hmk, sim_tB (sim_op2F o2_own a2 b2)⟩
end
end Vm
/-! Vm24: != by an own __eq__. -/
namespace Vm
open PySem PySem.Spec PyProof.Rows PySem.SeqAt
section
variable {M : Model} {prog : Program} {w : World} {A : Around} {E : Value → Shared → Prop} {s : Shared} {K : PySem.W.Frag} {x C f L : Addr} {ox : Obj} {od : Option Obj} {h₀ : Heap} {m : Str → Option Value}
theorem ifBound_objNe {args : List Value} {Q : Option Value → Shared → Prop} (X : K.In s.heap) (I : PySem.W.InstAt s.heap x ox C od) (hs : PySem.W.findIn K (.ref C) "__ne__" = some (some (.builtin "object.__ne__")))
    (h : wpAny M A (call (.builtin "object.__ne__") (.ref x :: args)) (fun v => Q (some v)) E s) : wpAny M A (callSpecialIfBound? (.ref x) "__ne__" args) Q E s := by
  simp only [callSpecialIfBound?, bindSpecialIfBound?]
  refine wpAny_holding (wpAny_bind (wpAny_bind (wpAny_bind (I.type.here ((PySem.W.looks_findIn X hs).here ?_)))))
  refine wpAny_bind (wpAny_askSetting (wpAny_ite ?_))
  have fin : wpAny M A (call (.builtin "object.__ne__") ([.ref x] ++ args) >>= fun v => pure (some v)) Q E s := wpAny_bind (wpAny_mono h (fun v s' h' => wpAny_pure h') fun _ _ h' => h')
  split
  · exact wpAny_bind (wpAny_of_eq (F.cmp_object.ne.bind _) (wpAny_pure (by exact fin)))
  · exact wpAny_tryCatch (wpAny_bind (wpAny_of_eq (F.cmp_object.ne.bind _) (wpAny_pure (by exact fin))))
/-- what an own == gives back, turned -/
def NotBack (Q : Value → Shared → Prop) (v : Value) (s' : Shared) : Prop := match v with
  | .bool k => Q (.bool (!k)) s'
  | _ => False
theorem call_objNe {b : Value} {Q : Value → Shared → Prop} (hu : A.units + 1 < cLine) (X : K.In s.heap) (I : PySem.W.InstAt s.heap x ox C od) (hm : PySem.W.mroIn K C (.type "object") = some true)
    (hs : PySem.W.findIn K (.ref C) "__eq__" = some (some (.ref f))) (hf : PySem.W.isFn K (.ref f) = true)
    (h : wpAny (model prog w) A.in1 (call (.ref f) [.ref x, b]) (NotBack Q) E s) :
    wpAny (model prog w) A (call (.builtin "object.__ne__") [.ref x, b]) Q E s := by
  refine wpAny_call (codeAny_call_builtin F.cmp_object.ne.plain F.cmpEntry_ne (PySem.W.check_slot F.cmpKind_ne F.cmpSplit_ne (I.type.andThen (PySem.W.looks_mroIn X hm)) (F.cmpArgs_ne _ _) ?_))
  unfold Builtin.«object.__ne__»
  refine wpAny_bind ?_
  show wpAny _ _ (pure (Value.ref x, [b])) _ _ _
  refine wpAny_pure ?_
  refine wpAny_bind (wpAny_cRoomFor hu (wpAny_bind (PySem.W.ifBound_K X I hs hf (wpAny_mono h (fun v s' hv => ?_) fun _ _ e => e))))
  cases v with
  | bool k => exact wpAny_bind (wpAny_truthy_bool (wpAny_pure hv))
  | _ => exact hv.elim
theorem cmp_ne {b : Value} {tb : Value} {Q : Value → Shared → Prop} (hu : A.units + 1 < cLine) (F : Fr h₀ L s.heap m) (X₀ : K.In h₀) (I : PySem.W.InstAt s.heap x ox C od) (hb : PySem.W.Looks (model prog w) s.heap (typeOf b) tb) (hn : PySem.W.notFirst K C tb = true)
    (hm : PySem.W.mroIn K C (.type "object") = some true) (hsn : PySem.W.findIn K (.ref C) "__ne__" = some (some (.builtin "object.__ne__")))
    (hs : PySem.W.findIn K (.ref C) "__eq__" = some (some (.ref f))) (hf : PySem.W.isFn K (.ref f) = true)
    (h : wpAny (model prog w) A.in1 (call (.ref f) [.ref x, b]) (NotBack fun v s' => (∃ k, v = .bool k) ∧ Q v s') E s) : wpAny (model prog w) A (richCompare .NotEq (.ref x) b) Q E s := by
  have X := X₀.keeps F.keep
  have one : wpAny (model prog w) A (tryCompare (.ref x) (cmpInfo .NotEq).2.1 b) (fun r s' => ∃ v, r = some v ∧ Q v s') E s := by
    unfold tryCompare
    refine wpAny_bind (ifBound_objNe X I hsn (call_objNe hu X I hm hs hf (wpAny_mono h (fun v s' hv => ?_) fun _ _ e => e)))
    cases v with
    | bool k => exact wpAny_pure ⟨_, rfl, hv.2⟩
    | _ => exact hv.elim
  unfold richCompare
  simp only [oneThing_ref]
  refine wpAny_holding (wpAny_bind (wpAny_cRoomFor (Nat.lt_of_succ_lt hu) ?_))
  refine wpAny_bind (I.type.here (wpAny_bind (hb.here ?_)))
  split
  · rename_i q
    have e : PySem.W.subIn K tb (.ref C) = some false := by
      rcases Bool.or_eq_true_iff.mp hn with e | e
      · rw [beq_iff_eq.mp e] at q; simp at q
      · exact beq_iff_eq.mp e
    refine wpAny_bind ((PySem.W.looks_subIn X e).here ?_)
    simp only [Bool.false_eq_true, if_false]
    refine wpAny_bind (wpAny_mono one (fun r s' z => ?_) fun _ _ e => e)
    obtain ⟨v, rfl, hq⟩ := z
    exact wpAny_pure hq
  · refine wpAny_bind (wpAny_pure ?_)
    simp only [Bool.false_eq_true, if_false]
    refine wpAny_bind (wpAny_mono one (fun r s' z => ?_) fun _ _ e => e)
    obtain ⟨v, rfl, hq⟩ := z
    exact wpAny_pure hq
end
end Vm
namespace Vm
open PySem PySem.Spec PyProof.Rows L2
variable {X : Cx}
def rOwnNe (C : Addr) (sp : Sp) (E : XK) : R2 := fun x y H Q => ∃ a b dx dy fs gs, x = .ref a ∧ y = .ref b ∧ H a = some (.ins C dx fs) ∧ H b = some (.ins C dy gs) ∧ sp [.ref a, .ref b] H (fun v H' => ∃ k, v = .bl k ∧ Q (.bl (!k)) H') E
theorem op_ownNe {CX : CXT} {n : Nat} {C f : Addr} {fd : FuncData} {ps : List Str} {sp : Sp} {E : XK} (F : FnOk X.prog X.w X.K X.mg X.base CX n f fd ps sp) (hm : PySem.W.mroIn X.K C (.type "object") = some true) (hsn : PySem.W.findIn X.K (.ref C) "__ne__" = some (some (.builtin "object.__ne__")))
    (hs : PySem.W.findIn X.K (.ref C) "__eq__" = some (some (.ref f))) (hf : PySem.W.isFn X.K (.ref f) = true) (hb : Binds X.K fd ps []) (hx : Passes CX X E) (hr : Room (n + 1) X.A) : OpR X (compareOp .NotEq) (rOwnNe C sp E) := by
  intro pins s σ H x y u v Q I rx ry d
  obtain ⟨a, b, dx, dy, fs, gs, rfl, rfl, ha, hb', hsp⟩ := d
  cases rx
  cases ry
  obtain ⟨mA, J, _⟩ := ins_get I.hok ha
  obtain ⟨mB, J', _⟩ := ins_get I.hok hb'
  obtain ⟨od, J, _⟩ := J.look
  obtain ⟨od', J', _⟩ := J'.look
  obtain ⟨m, hF⟩ := I.fr
  show wpAny (model X.prog X.w) X.A (richCompare .NotEq (.ref a) (.ref b)) (EP X pins σ Q) X.xe s
  refine cmp_ne (tb := .ref C) (hu_of hr) hF I.ok.mod.kin J J'.type (by simp [PySem.W.notFirst]) hm hsn hs hf ?_
  have e0 : Env0 X.prog X.w X.K X.mg X.base X.A.in1 X.stack s H := by
    have e := I.env0
    exact ⟨e.frames, e.mod, e.bs, e.bsz, e.funs, e.frf, e.hok, e.bare⟩
  have hl := F.len _ _ _ _ hsp
  have r2 : Vals [V.ref a, V.ref b] [Value.ref a, Value.ref b] := .cons rfl (.cons rfl .nil)
  refine wpAny_call (codeAny_mono (F.run X.A.in1 X.stack s H ⟨[.ref a, .ref b], []⟩ [.ref a, .ref b] [.ref a, .ref b] _ E hr.in1 e0 (by
    have := hb s [.ref a, .ref b] I.kIn (by simpa using hl)
    simpa using this) r2 hsp) fun r s' hq => ?_)
  cases r with
  | error e => exact hx pins σ H s e s' I hq
  | ok fl =>
    cases fl with
    | ret w =>
      obtain ⟨z, H', I', rz, k, ek, q⟩ := I.after hq
      subst ek
      cases rz
      exact ⟨⟨_, rfl⟩, .bl (!k), H', I', rfl, q⟩
    | next => exact False.elim hq
    | brk => exact False.elim hq
    | cont => exact False.elim hq
end Vm
namespace Vm
open PySem L2
variable {X : Cx} {Z : Par} {E : St → XK} {os : Os} {io : List Nat} {rf : Fl}
def gOwnNe (c : Str) (mf : List D → FR) (d e : D) : Option D := match gOwnEq c mf d e with
  | some (.bl k) => some (.bl (!k))
  | _ => none
theorem o2_ownNe {c : Str} {mf : List D → FR} {E : XK} : Op2F Z (rOwnNe (Z.z c) (SpM Z [.fz, .fz] .fz mf) E) (gOwnNe c mf) := by
  intro F H d1 d2 v1 v2 Q e k r1 r2 hg q
  unfold gOwnNe at hg
  split at hg
  · rename_i kk hh
    cases hg
    obtain ⟨a, b, dx, dy, fs, gs, e1, e2, h1, h2, F0, ds, hsp⟩ := o2_own (E := E) F H d1 d2 v1 v2 (fun v H' => v = .bl kk ∧ Q (.bl (!kk)) H') (.bl kk) k r1 r2 hh fun F' H' w ps nr => ⟨by cases nr; rfl, q F' H' _ ps (.bl _)⟩
    refine ⟨a, b, dx, dy, fs, gs, e1, e2, h1, h2, F0, ds, ?_⟩
    obtain ⟨p1, p2, p3, p4⟩ := hsp
    refine ⟨p1, p2, p3, ?_⟩
    revert p4
    cases mf ds with
    | stuck => exact fun z => z
    | exc c fs => exact fun z => z
    | ret d outs => exact fun z F' H' v a1 a2 a3 a4 => let ⟨_, b1, b2⟩ := z F' H' v a1 a2 a3 a4; ⟨kk, b1, b2⟩
  · cases hg
section
variable {a b : Expr} {pos : Pos} {pu1 pu2 : Bool} {ma mb : ME} {CX : CXT} {n : Nat} {f : Addr} {fd : FuncData} {ps : List Str} {mf : List D → FR}
theorem em_one (c : Str) (ho : PySem.W.mroIn X.K (Z.z c) (.type "object") = some true) (hsn : PySem.W.findIn X.K (.ref (Z.z c)) "__ne__" = some (some (.builtin "object.__ne__"))) (hm : Meth X.K (Z.z c) "__eq__" f) (F : FnOk X.prog X.w X.K X.mg X.base CX n f fd ps (SpM Z [.fz, .fz] .fz mf)) (hr : Room (n + 1) X.A) (hb : Binds X.K fd ps []) (hx : Passes CX X E0) (ha : PEm X Z E os .fz pu1 a ma) (hbb : PEm X Z E os .fz pu2 b mb)
    (hmk : behindInMarks .NotEq b = false := by first | rfl | exact nobehind _ (by decide) (by decide)) : PEm X Z E os .fz (pu1 && pu2) (.Compare a [.NotEq] [b] pos) (mOp2 (gOwnNe c mf) ma mb) := by
  obtain ⟨_, a1, a2⟩ := ha
  obtain ⟨_, b1, b2⟩ := hbb
  exact ⟨_, pe_cmpR (op_ownNe (E := E0) F ho hsn hm.at_ hm.fn hb hx hr) a1 b1 hmk, sim_op2F o2_ownNe a2 b2⟩
theorem tm_one (c : Str) (ho : PySem.W.mroIn X.K (Z.z c) (.type "object") = some true) (hsn : PySem.W.findIn X.K (.ref (Z.z c)) "__ne__" = some (some (.builtin "object.__ne__"))) (hm : Meth X.K (Z.z c) "__eq__" f) (F : FnOk X.prog X.w X.K X.mg X.base CX n f fd ps (SpM Z [.fz, .fz] .fz mf)) (hr : Room (n + 1) X.A) (hb : Binds X.K fd ps []) (hx : Passes CX X E0) (ha : PEm X Z E os .fz pu1 a ma) (hbb : PEm X Z E os .fz pu2 b mb)
    (hmk : behindInMarks .NotEq b = false := by first | rfl | exact nobehind _ (by decide) (by decide)) : PTm X Z E os (pu1 && pu2) (.Compare a [.NotEq] [b] pos) (mT (mOp2 (gOwnNe c mf) ma mb)) := by
  obtain ⟨_, a1, a2⟩ := ha
  obtain ⟨_, b1, b2⟩ := hbb
  exact ⟨_, pt_cmpR (op_ownNe (E := E0) F ho hsn hm.at_ hm.fn hb hx hr) a1 b1 hmk, sim_tB (sim_op2F o2_ownNe a2 b2)⟩
end
end Vm
/-! Vm25: is True, zip of tuples, extend, x[i] += v, a dict at a place of a tuple. -/
namespace Vm
open PySem L2
variable {Z : Par} {E : St → XK} {os : Os} {X : Cx} {io : List Nat} {rf : Fl}

/-! ### is, is not: None and truths -/
def gIsB (d e : D) : Option D := match e with
  | .bl b => match d with
    | .bl a => some (.bl (decide (a = b)))
    | _ => none
  | _ => none
def gNotB (d e : D) : Option D := match e with
  | .bl b => match d with
    | .bl a => some (.bl (!decide (a = b)))
    | _ => none
  | _ => none
theorem o2_isB : Op2 Z rIsB .fz gIsB := fun F H d1 d2 v1 v2 Q e k b1 b2 hg q => by
  cases d2 with
  | bl b => cases d1 with
    | bl a => cases hg; exact ⟨a, b, b1.bl, b2.bl, q_fz k (.bl _) q⟩
    | _ => cases hg
  | _ => cases hg
theorem o2_notB : Op2 Z rNotB .fz gNotB := fun F H d1 d2 v1 v2 Q e k b1 b2 hg q => by
  cases d2 with
  | bl b => cases d1 with
    | bl a => cases hg; exact ⟨a, b, b1.bl, b2.bl, q_fz k (.bl _) q⟩
    | _ => cases hg
  | _ => cases hg

/-! ### zip of two lists or of two tuples -/
theorem wk_zipT {F : Hp} {a b : Addr} {vs ws : List V} {ds es : List D} (h : F a = some (.tup vs)) (r : RpL Z F ds vs) (h' : F b = some (.tup ws)) (r' : RpL Z F es ws) : Wk Z (RZ.ItzT Z.K a b) F [] (zipD ds es) := fun i F' H' f k _ => by
  have q : SqT Z.K H' a vs := SqT.of (k.tup (f _ _ h))
  have q' : SqT Z.K H' b ws := SqT.of (k.tup (f _ _ h'))
  refine ⟨fun hi => ?_, fun e => ⟨vs, ws, q, q', ?_⟩⟩
  · obtain ⟨x, y, hx, hy, hz⟩ := zipD_get ds es i hi
    obtain ⟨v, v1, v2⟩ := r.get hx
    obtain ⟨w, w1, w2⟩ := r'.get hy
    refine ⟨⟨vs, ws, v, w, q, q', v1, w1⟩, fun x' H2 ⟨T, y1, y2, e, hT, e2, hy1, hy2⟩ => ?_⟩
    subst e e2
    have e1 : y1 = v := by have := hy1 vs q; rw [v1] at this; exact (Option.some.inj this).symm
    have e2 : y2 = w := by have := hy2 ws q'; rw [w1] at this; exact (Option.some.inj this).symm
    subst e1 e2
    exact ⟨upd F' T _, .tup [x, y], PStep.new k hT, hz, .tup upd_same (.cons ((v2.mono f).mono (same_upd (k.none hT))) (.one ((w2.mono f).mono (same_upd (k.none hT)))))⟩
  · rw [zipD_length, r.length, r'.length] at e
    omega
def gZipA : List D → Option (List D)
  | [.lst a, .lst b] => some (zipD a b)
  | [.tup a, .tup b] => some (zipD a b)
  | _ => none
section
variable {a b : Expr} {pu : Bool} {ma : Rho → ER (List D)} {fls : List AF} {p pos tpos : Pos} {elts : List Expr} {kk : Nat}
theorem im_zipA (hg : Gl X "zip") (hm : X.mg "zip" = none) (ha : PAm X Z E os fls pu [a, b] ma) (hb : Fzs fls = true := by rfl) (hs : starEach [a, b] X.env = (false, eval a X.env) :: starEach [b] X.env := by rfl) (hpl : (backTo pos (starEach [b] X.env)).any (·.1) = false := by rfl) (hK : X.K = Z.K := by rfl) :
    PIm X Z E os pu (.Tuple elts kk tpos) (.Call (.Name "zip" p) [a, b] [] pos) (mItA gZipA ma) := by
  obtain ⟨ta, a1, a2⟩ := ha
  refine ⟨_, RZ.pi_zipA hg hm a1 hs hpl, ?_⟩
  rw [hK]
  refine sim_itF (wi := fun vs H1 R => ∃ a b xs ys, vs = [.ref a, .ref b] ∧ ((SqL Z.K H1 a xs ∧ SqL Z.K H1 b ys ∧ R (Itz Z.K a b) H1) ∨ (SqT Z.K H1 a xs ∧ SqT Z.K H1 b ys ∧ R (RZ.ItzT Z.K a b) H1))) a2 hb fun F H d v ds Q k r ef q => ?_
  unfold gZipA at ef
  split at ef
  · cases ef
    obtain ⟨x, y, rfl, h, h'⟩ := (show ∃ x y, v = [x, y] ∧ Rp Z F _ x ∧ Rp Z F _ y by
      cases r with | cons h r => cases r with | cons h' r => cases r; exact ⟨_, _, rfl, h, h'⟩)
    cases h with
    | lst h1 h2 => cases h' with | lst h3 h4 => exact ⟨_, _, _, _, rfl, .inl ⟨SqL.of (k.lst h1), SqL.of (k.lst h3), q _ (wk_zip h1 h2 h3 h4)⟩⟩
  · cases ef
    obtain ⟨x, y, rfl, h, h'⟩ := (show ∃ x y, v = [x, y] ∧ Rp Z F _ x ∧ Rp Z F _ y by
      cases r with | cons h r => cases r with | cons h' r => cases r; exact ⟨_, _, rfl, h, h'⟩)
    cases h with
    | tup h1 h2 => cases h' with | tup h3 h4 => exact ⟨_, _, _, _, rfl, .inr ⟨SqT.of (k.tup h1), SqT.of (k.tup h3), q _ (wk_zipT h1 h2 h3 h4)⟩⟩
  · cases ef
end

/-! ### x.extend(l), l a frozen list -/
def gExt (d : D) (as : List D) : Option (D × D) := match d, as with
  | .lst xs, [.lst ys] => if xs.length + ys.length ≤ sizeLine then some (.lst (xs ++ ys), .non) else none
  | _, _ => none
theorem oO_ext : OpO Z rExtend gExt := fun F H l d ds vs Q o' e k own ar hg q => by
  match d, ds, hg with
  | .lst xs, [.lst ys], hg =>
    simp only [gExt] at hg
    by_cases c : xs.length + ys.length ≤ sizeLine
    · rw [if_pos c] at hg; cases hg
      obtain ⟨ws, h1, h2⟩ := own
      cases ar with
      | cons r rr =>
        cases rr
        cases r with
        | @lst b zs _ h3 h4 =>
          exact ⟨l, b, ws, zs, rfl, rfl, h1, k.lst h3, by rw [← h2.length, ← h4.length]; exact c, q (.lst (ws ++ zs)) .non ⟨_, upd_same, h2.append h4⟩ .non⟩
    · rw [if_neg c] at hg; cases hg

/-! ### x[i] op= v, x an own list or dict -/
def gDIx (d e : D) : Option D := match d with
  | .dct ds => (keyD e).bind (kget ds)
  | _ => none
theorem o2_dix : Op2 Z rDIx .fz gDIx := fun F H d1 d2 v1 v2 Q e k b1 b2 hg q => by
  cases d1 with
  | dct ds =>
    obtain ⟨a, kvs, e1, e2, e3⟩ := b1.dct k
    simp only [gDIx] at hg
    cases hk : keyD d2 with
    | none => rw [hk] at hg; cases hg
    | some k' =>
      rw [hk] at hg
      obtain ⟨v, h1, h2⟩ := (e3.get k').2 e hg
      exact ⟨a, v, e1, .inl ⟨kvs, k', e2, keyD_kV hk (b2.lv k), h1.symm⟩, q_fz k h2 q⟩
  | _ => cases hg
theorem pget_dict (hu : X.A.units + 1 < cLine) : PGet X rDIx := by
  intro pins s σ H o i ov iv Q I ro ri h
  obtain ⟨a, v, ex, g, q⟩ := h
  subst ex
  obtain rfl : ov = Value.ref a := ro
  exact d_getItem hu I g ri fun w' s' I' rw' => ⟨v, H, I', rw', q⟩
theorem o2_ipI {f : Int → Int → Int} : Op2 Z (ipI f) .fz (gI fun i j => some (.int (f i j))) := o2_i0 fun _ _ _ => .int _
def mAugS (i : Nat) (gG g : D → D → Option D) (mx me : ME) : MS := fun ρ => match ρ[i]? with
  | some (some _) => match mx ρ with
    | .ok x ρ1 => match ρ1[i]? with
      | some (some o) => match gG o x with
        | some old => match me ρ1 with
          | .ok v ρ2 => match g old v with
            | some z => match ρ2[i]? with
              | some (some o2) => match gPut o2 x z with
                | some o' => .nx (ρ2.set i (some o'))
                | none => .stuck
              | _ => .stuck
            | none => .stuck
          | .exc c fs ρ' => .exc c fs ρ'
          | .stuck => .stuck
        | none => .stuck
      | _ => .stuck
    | .exc c fs ρ' => .exc c fs ρ'
    | .stuck => .stuck
  | _ => .stuck
theorem sm_augS {x : Str} {p tpos pos : Pos} {e ix : Expr} {op : Operator} {me mx : ME} {pu pu2 : Bool} {tip : TIp} {g : D → D → Option D} (i : Nat) (hu : X.A.units + 1 < cLine) {tg : V → V → Hp → VK → Prop} {gG : D → D → Option D} (hget : PGet X tg) (hgo : Op2 Z tg .fz gG) (hip : PIp X op tip) (ho2 : Op2 Z tip .fz g)
    (hx : PEm X Z E os .fz pu2 ix mx) (he : PEm X Z E os .fz pu e me)
    (ho : os.lookup i = some true := by rfl) (hN : X.N[i]? = some x := by rfl) (hv : Vis X.env.scope x := by first | exact Or.inl rfl | exact Or.inr (Or.inl rfl) | exact Or.inr (Or.inr rfl)) (hd : (x == ("__debug__" : Str)) = false := by decide)
    (hcd : (x == ("__classdict__" : Str)) = false := by decide)
    (ha : ∀ ov iv new, augStore ix ov iv new = (do holding [new, ov, iv] (setItem ov iv new); release [new, ov, iv] []; pure .next) := by intros; rfl) :
    PSm X Z E os io rf (.AugAssign (.Subscript (.Name x p) ix tpos) op e pos) (mAugS i gG g mx me) := by
  obtain ⟨_, a1, a2⟩ := he
  obtain ⟨_, b1, b2⟩ := hx
  refine ⟨_, ps_augS (pe_var hN hv hd hcd) b1 hget a1 hip (p_set hu) ha, ?_⟩
  intro F H σ ρ K R q
  unfold mAugS at q
  split at q
  · rename_i d0 hd0
    obtain ⟨l, g1, g2, g3⟩ := R.ow i d0 true hd0 ho
    refine ⟨.ref l, g1, ?_⟩
    refine b2 F H σ ρ _ R ?_
    revert q
    cases mx ρ with
    | stuck => exact fun z => z
    | exc c fs ρ' => exact fun q F' H' s p R' => q F' H' σ (.ofE s p R')
    | ok xi ρ1 =>
      intro q F1 H1 iv s1 _ pn1 R1 r1
      dsimp only at q
      split at q
      · rename_i o hd1
        obtain ⟨l', q1, q2, q3⟩ := R1.ow i o true hd1 ho
        rw [g1] at q1; cases q1
        split at q
        · rename_i old hold
          have go1 := Go.ofE (io := io) s1 pn1 R1
          refine hgo F1 H1 o xi (.ref l) iv _ old R1.hk (.inr ⟨l, true, rfl, q3⟩) (.inl r1) hold fun F2 H2 ov ps2 n2 => ?_
          have R2 := R1.pstep ps2
          have ro : Rp Z F2 old ov := n2
          have s2 : Step (Ow os σ ρ1) (Ow os σ ρ1) F1 H1 F2 H2 := ps2.step
          have go2 := go1.trans (Go.ofE (io := io) s2 Pin.refl R2)
          refine a2 F2 H2 σ ρ1 _ R2 ?_
          revert q
          cases me ρ1 with
          | stuck => exact fun z => z
          | exc c fs ρ' => exact fun q F' H' s p R' => q F' H' σ (go2.trans (.ofE s p R'))
          | ok v ρ2 =>
            intro q F3 H3 vv s3 _ pn3 R3 r3
            dsimp only at q
            split at q
            · rename_i z hz
              have go3 := go2.trans (Go.ofE (io := io) s3 pn3 R3)
              refine ho2 F3 H3 old v ov vv _ z R3.hk (.inl (ro.mono s3.f)) (.inl r3) hz fun F4 H4 zv ps4 n4 => ?_
              have R4 := R3.pstep ps4
              have go4 := go3.trans (Go.ofE (io := io) (ps4.step (O := Ow os σ ρ2)) Pin.refl R4)
              split at q
              · rename_i o2 hd4
                obtain ⟨l4, w1, w2, w3⟩ := R4.ow i o2 true hd4 ho
                rw [g1] at w1; cases w1
                split at q
                · rename_i o' hg
                  have rx : Rp Z F4 xi iv := ((r1.mono ps2.f).mono s3.f).mono ps4.f
                  refine put_ok R4.hk w3 (Rp.lv R4.hk rx) (show Rp Z F4 z zv from n4) hg fun ob new => ?_
                  obtain ⟨a, b, c⟩ := own_upd R4 ho hd4 g1 w2 w3 new
                  exact q F4 _ σ (go4.trans (.ofE a b c))
                · exact q.elim
              · exact q.elim
            · exact q.elim
        · exact q.elim
      · exact q.elim
  · exact q.elim

/-! ### a dict that stands in a frozen tuple or list -/
def mdIx (i : Nat) (k : Int) : Rho → Option (List (Key × D)) := fun ρ => match ρ[i]? with
  | some (some (.lst xs)) => (match L2.atI xs k with
    | some (.dct ds) => some ds
    | _ => none)
  | some (some (.tup xs)) => (match L2.atI xs k with
    | some (.dct ds) => some ds
    | _ => none)
  | _ => none
/-! ### {k: e for k in d if t} over a dict -/
theorem dc_endD {vs : List Nat} {F H : Hp} {σ : St} {ρ : Rho} {r : ER (List (Key × D))} {D0 l : Addr} {kvs : List (Key × V)} {od : Obj} {Q : VK} (off : offOs os vs = true) (R : EnvR Z os F H σ ρ) (hl : H l = some (.dK kvs)) (hf : F l = some (.dK kvs) ∨ F l = none) (no : ¬ Ow os σ ρ l) (hD : (upd H l (.frz od (.dK kvs))) D0 = none)
    (q : RunE Z E os .nw false F H σ ρ (mDcEnd vs ρ r) Q) : DcFin Z os (L2.wipe σ vs) (wipeR ρ vs) F (upd H l (.frz od (.dK kvs))) D0 [(l, .frz od (.dK kvs))] (fun H' => H' l = some (.frz od (.dK kvs)) ∧ Q (.ref D0) (upd H' l (.dK kvs))) r := by
  have hsw : ∀ j, j ∉ vs → (L2.wipe σ vs)[j]? = σ[j]? := fun j hj => L2.wipe_out hj
  have nel : D0 ≠ l := fun z => by subst z; rw [upd_same] at hD; cases hD
  cases r with
  | stuck => exact q.elim
  | exc c fs ρ' => exact q.elim
  | ok acc ρe =>
    intro F' H' S pn Re ⟨ws, h1, h2⟩ hF hO hk
    have hk : H' l = some (.frz od (.dK kvs)) := hk (l, _) (by simp)
    refine ⟨hk, ?_⟩
    have noW : ¬ Ow os (L2.wipe σ vs) (wipeR ρ vs) l := fun z => no ((ow_wipe off hsw).mp z)
    have hf' := fz_stay hf noW ⟨_, upd_same⟩ S
    have S' : Step (Ow os σ ρ) (Ow os σ (backR ρ ρe vs)) F (upd H l (.frz od (.dK kvs))) F' H' :=
      ⟨S.f, fun a o e => (S.n a o e).imp id (Or.imp id (ow_wipe off hsw).mp), fun a o e n => S.k a o e fun z => n ((ow_wipe off hsw).mp z), fun a z => (S.w a ((ow_back off).mp z)).imp (ow_wipe off hsw).mp id, S.d⟩
    have hHD : H D0 = none := by rw [upd_ne nel] at hD; exact hD
    refine q F' _ (.ref D0) (step_unlock hl S') (fun z => by cases z) (fun j hj => ?_) (R.back S.f (env_unlock Re hk hf') off) ⟨D0, rfl, .inr hHD, hF, fun z => hO ((oa_back off).mp z), ws, .inl (by rw [upd_ne nel]; exact h1), h2⟩
    have nj := off_not off hj
    refine ⟨rfl, ?_⟩
    rw [backR_out nj, (pn j hj).2, wipeR_out nj]
theorem DcFin.kc {vs : List Nat} {σ : St} {ρw : Rho} {F H : Hp} {D0 : Addr} {kc : List (Addr × HO)} {Qd : Hp → Prop} {r : ER (List (Key × D))} (h : DcFin Z os (L2.wipe σ vs) ρw F H D0 [] Qd r) : DcFin Z os (L2.wipe σ vs) ρw F H D0 kc Qd r := by
  cases r with
  | ok acc ρe => exact fun F' H' S p R w d o _ => h F' H' S p R w d o fun _ hp => by cases hp
  | exc c fs ρ' => exact h
  | stuck => exact h
section
variable {kx vx tg iter : Expr} {ifs : List Expr} {scope : Scope} {own : List (Str × Nat)} {pos : Pos} {pu pu2 pu3 : Bool} {b : D → Rho → Option Rho} {mt : Rho → ER Bool} {mk me : ME}
theorem ec_dcD (own : List (Str × Nat)) {md : Rho → Option (List (Key × D))} (hc : X.calm = true) (hN : X.N.Nodup) (hi : PPm X Z os iter md) (ok : BlkOk X.N X.env.scope scope own)
    (hg : ∀ (a : Blk) (n : Nat), PGm (blkAt X scope a) Z os (others n (own.map (·.2))) tg b) (hb : LenB b) (ht : PIfs (blkAt X scope) Z (fun _ => E0) os ifs mt) (hk : ∀ a : Blk, PEm (blkAt X scope a) Z (fun _ => E0) os .fz pu3 kx mk) (he : ∀ a : Blk, PEm (blkAt X scope a) Z (fun _ => E0) os .fz pu2 vx me)
    (off : offOs os (own.map (·.2)) = true := by rfl) (hs : ∀ x, foldedSetIterable iter X.env x = pure x := by intro _; rfl) :
    PCm X Z E os .nw false (.DictComp kx vx [⟨tg, iter, ifs, 0⟩] scope pos) (mDc (own.map (·.2)) b mt mk me (mKeys md)) := by
  obtain ⟨td, i1, i2⟩ := hi
  obtain ⟨g, g1, g2⟩ := all_gw hg
  obtain ⟨pu1, tt, t1, t2⟩ := ht
  obtain ⟨tk, k1, k2⟩ := all_e hk
  obtain ⟨te, e1, e2⟩ := all_e he
  have pe := pes_dc (pos := pos) hc hN (pi_keys (tg := tg) i1) ok (fun s H C cl fp => g1 ⟨s, H, C, cl, fp⟩) (fun s H C cl fp => t1 ⟨s, H, C, cl, fp⟩) (fun s H C cl fp => k1 ⟨s, H, C, cl, fp⟩) (fun s H C cl fp => e1 ⟨s, H, C, cl, fp⟩) hs
  refine ⟨_, PEs.or pe.lock pe, ?_⟩
  intro F H σ ρ Q R q
  unfold mDc mKeys at q
  cases hd : md ρ with
  | none => rw [hd] at q; exact q.elim
  | some ds =>
    rw [hd] at q
    change RunE Z E os .nw false F H σ ρ (if (ds.map fun p => kvD p.1).length ≤ sizeLine then _ else _) Q at q
    by_cases hz : (ds.map fun p => kvD p.1).length ≤ sizeLine
    · rw [if_pos hz] at q
      obtain ⟨l, kvs, hl, rk, hf, ev⟩ := i2 F H σ ρ ds R hd
      have no : ¬ Ow os σ ρ l := by
        rcases hf with z | ⟨_, z⟩
        · rintro ⟨j, h1, ⟨d, h2⟩, h3⟩
          obtain ⟨l', q1, q2, _⟩ := R.ow j d true h2 h1
          rw [h3] at q1; cases q1
          rw [z] at q2; cases q2
        · exact z σ ρ F H Pin.refl R
      have hf0 : F l = some (.dK kvs) ∨ F l = none := hf.imp id (·.1)
      have hkc : ∀ (H1 : Hp), (∃ u, H1 l = some u) → ∀ (a : Addr × HO) (ρ' : Rho) (ob : HO), (∃ F' H', Step (Ow os (L2.wipe σ (own.map (·.2))) (wipeR ρ (own.map (·.2)))) (Ow os (L2.wipe σ (own.map (·.2))) ρ') F H1 F' H' ∧ Pin os (L2.wipe σ (own.map (·.2))) (L2.wipe σ (own.map (·.2))) (wipeR ρ (own.map (·.2))) ρ' ∧ EnvR Z os F' H' (L2.wipe σ (own.map (·.2))) ρ') →
          a ∈ [(l, ob)] → ¬ Ow os (L2.wipe σ (own.map (·.2))) ρ' a.1 := fun H1 hu a ρ' ob ⟨F', H', S, _, _⟩ hp => by
        rw [List.mem_singleton.mp hp]
        intro z
        rcases S.w _ z with w | w
        · exact no ((ow_wipe off fun j hj => L2.wipe_out hj).mp w)
        · obtain ⟨u, hu⟩ := hu; rw [hu] at w; cases w
      have Rw := R.wipe off (L2.wipe_length σ (own.map (·.2))) fun j hj => L2.wipe_out hj
      rcases hl with hl | ⟨od, hl⟩
      · refine .inl ⟨l, .dK kvs, hl, trivial, fun od => ?_⟩
        refine ev _ _ (Lk.one hl) ⟨l, od, rfl, .inl ⟨kvs, upd_same, fun D0 hD => ?_⟩⟩
        have R1 := env_lock (od := od) R hl hf0 no
        exact dc_go hb g2 t2 k2 e2 rfl off (wk_keys rk) (Same.refl F) (R1.wipe off (L2.wipe_length _ _) fun j hj => L2.wipe_out hj) (fun p hp => by rw [List.mem_singleton.mp hp]; exact upd_same) (fun a ρ' h hp => hkc _ ⟨_, upd_same⟩ a ρ' _ h hp) hD hz (dc_endD off R hl hf0 no hD q)
      · refine .inr (ev H _ (Lk.refl H) ⟨l, od, rfl, .inl ⟨kvs, hl, fun D0 hD => ?_⟩⟩)
        exact dc_go hb g2 t2 k2 e2 rfl off (wk_keys rk) (Same.refl F) Rw (fun p hp => by rw [List.mem_singleton.mp hp]; exact hl) (fun a ρ' h hp => hkc _ ⟨_, hl⟩ a ρ' _ h hp) hD hz (dc_end off Step.refl Pin.refl R hD q).kc
    · rw [if_neg hz] at q; exact q.elim
end
section
variable {x : Str} {p p2 p3 : Pos} {kt : Tok}
theorem dm_ix (i : Nat) (k : Int) {e : Expr} (hK : X.K = Z.K) (hu : X.A.units + 1 < cLine) (hk : PE X e (tC (.int k))) (ho : os.lookup i = none := by rfl) (hN : X.N[i]? = some x := by rfl) (hv : Vis X.env.scope x := by first | exact Or.inl rfl | exact Or.inr (Or.inl rfl) | exact Or.inr (Or.inr rfl)) (hd : (x == ("__debug__" : Str)) = false := by decide)
    (hcd : (x == ("__classdict__" : Str)) = false := by decide) (hs : PlainIx e := by intro _ _; rfl) : PPm X Z os (.Subscript (.Name x p) e p2) (mdIx i k) := by
  refine ⟨_, pe_ix (p_ix hu) (pe_var hN hv hd hcd) hk hs, fun F H σ ρ ds R h => ?_⟩
  unfold mdIx at h
  split at h
  · rename_i xs hd'
    obtain ⟨v, h1, h2⟩ := R.fz i _ hd' ho
    split at h
    · rename_i ds' hg
      cases h
      cases h2 with
      | @lst a vs _ h3 h4 =>
        obtain ⟨w, w1, w2⟩ := h4.atI hg
        cases w2 with
        | @dct b kvs _ h5 h6 =>
          refine ⟨b, kvs, R.hk.dK h5, h6, .inl h5, fun H1 Q lk q => ⟨_, h1, ?_⟩⟩
          rcases lk _ _ (R.hk.lst h3) with z | ⟨_, _, z, _⟩
          · exact .inl (.inl ⟨a, vs, k, _, rfl, rfl, SqL.of z, w1, q⟩)
          · cases z
    · cases h
  · rename_i xs hd'
    obtain ⟨v, h1, h2⟩ := R.fz i _ hd' ho
    split at h
    · rename_i ds' hg
      cases h
      cases h2 with
      | @tup a vs _ h3 h4 =>
        obtain ⟨w, w1, w2⟩ := h4.atI hg
        cases w2 with
        | @dct b kvs _ h5 h6 =>
          refine ⟨b, kvs, R.hk.dK h5, h6, .inl h5, fun H1 Q lk q => ⟨_, h1, ?_⟩⟩
          rcases lk _ _ (R.hk.tup h3) with z | ⟨_, _, z, _⟩
          · exact .inl (.inr (.inl ⟨a, vs, k, _, rfl, rfl, SqT.of z, w1, q⟩))
          · cases z
    · cases h
  · cases h
end

/-! ### isinstance(x, (T1, T2)), built-in types -/
def subA (Ts : List String) (t : String) : Bool := Ts.any fun T => subT T t
def gIsiA (fB : String → Bool) (d : D) : Option D := match d with
  | .obj _ _ => none
  | d => some (.bl (fB (tyN d)))
theorem kitAny_B {K : PySem.W.Frag} {t : String} (ht : t ∈ tyNames) : ∀ {Ts : List String}, (∀ T ∈ Ts, tyNames.all (fun t => kitB t T == some (subT T t)) = true) → PySem.W.kitAny K (.type t) (Ts.map .type) = some (subA Ts t)
  | [], _ => kitAny_nil
  | T :: Ts, h => by
    refine kitAny_cons (kitB_all T (h T (List.mem_cons_self ..)) t ht) (fun e => ?_) (fun e => ?_)
    · rw [kitAny_B ht fun T' hT => h T' (List.mem_cons_of_mem _ hT)]
      unfold subA; rw [List.any_cons, e, Bool.false_or]
    · unfold subA; rw [List.any_cons, e, Bool.true_or]
def rVIsiA (K : PySem.W.Frag) (a b : String) : V → Hp → VK → Prop := fun x H Q => 2 ≤ sizeLine ∧ ∀ p, H p = none → rIsiT K [x, .ref p] (upd H p (.tup [.ty a, .ty b])) Q
theorem o1_isiA {K : PySem.W.Frag} {T1 T2 : String} (hK : K = Z.K) (h1 : tyNames.all (fun t => kitB t T1 == some (subT T1 t)) = true) (h2 : tyNames.all (fun t => kitB t T2 == some (subT T2 t)) = true) :
    Op1 Z (rVIsiA K T1 T2) .fz (gIsiA (subA [T1, T2])) := fun F H d v Q e k bo hg q => by
  refine ⟨by decide, fun p hp => ?_⟩
  have ps : PStep Z F H F (upd H p (.tup [.ty T1, .ty T2])) := PStep.newH k hp
  have k' := ps.hk
  have bo' : Bo Z F (upd H p (.tup [.ty T1, .ty T2])) d v := bo.imp id fun ⟨l, b, e, o⟩ => ⟨l, b, e, o.mono (Same.refl F) ps.h⟩
  have hT : ∀ T ∈ [T1, T2], tyNames.all (fun t => kitB t T == some (subT T t)) = true := fun T hT => by
    simp only [List.mem_cons, List.mem_nil_iff, or_false] at hT
    rcases hT with rfl | rfl
    · exact h1
    · exact h2
  have mk : ∀ (t : String), t ∈ tyNames → TyX K (upd H p (.tup [.ty T1, .ty T2])) v (.type t) → e = .bl (subA [T1, T2] t) → rIsiT K [v, .ref p] (upd H p (.tup [.ty T1, .ty T2])) Q := fun t ht ty he => by
    subst he
    exact ⟨v, p, [.ty T1, .ty T2], .type t, [.type T1, .type T2], _, rfl, upd_same, .cons (.ty T1) (.cons (.ty T2) .nil), ty, kitAny_B ht hT, q F _ _ ps (.bl _)⟩
  cases d with
  | non => cases hg; cases bo'.non; exact mk _ (by decide) (.base .non) rfl
  | bl i => cases hg; cases bo'.bl; exact mk _ (by decide) (.base (.bl i)) rfl
  | int i => cases hg; cases bo'.int; exact mk _ (by decide) (.base (.int i)) rfl
  | str i => cases hg; cases bo'.str; exact mk _ (by decide) (.base (.str i)) rfl
  | lst i => cases hg; obtain ⟨a, vs, e1, h, _⟩ := bo'.lst k'; subst e1; exact mk _ (by decide) (.base (.lst h)) rfl
  | tup i => cases hg; obtain ⟨a, vs, e1, h, _⟩ := bo'.tup k'; subst e1; exact mk _ (by decide) (.base (.tup h)) rfl
  | dct i =>
    cases hg
    obtain ⟨a, vs, e1, h, _⟩ := bo'.dct k'
    subst e1
    rcases h with h | ⟨o, h⟩
    · exact mk _ (by decide) (.base (.dK h)) rfl
    · exact mk _ (by decide) (.fDict h) rfl
  | obj n i => cases hg
  | scr i =>
    cases hg
    obtain ⟨a, e1, h⟩ := bo'.scr k'
    subst e1
    rcases h with (h | ⟨o, h⟩) | ⟨o, its, n, hk, hc, _⟩
    · exact mk "list" (by decide) (.base (.lst h)) rfl
    · exact mk "list" (by decide) (.base (.frz h)) rfl
    · exact mk "list" (by decide) (.kList (by rw [hK]; exact hk) hc) rfl
theorem em_isiA {e : Expr} {p p1 p2 pt pos : Pos} {kt : Nat} {fl : Fl} {pu : Bool} {me : ME} {x y : Str} (T1 T2 : String) (h1 : tyNames.all (fun t => kitB t T1 == some (subT T1 t)) = true) (h2 : tyNames.all (fun t => kitB t T2 == some (subT T2 t)) = true) (hK : X.K = Z.K) (he : PEm X Z E os fl pu e me)
    (g1 : Gl X x) (m1 : X.mg x = none) (v1 : bootBuiltins x = some (.type T1)) (g2 : Gl X y) (m2 : X.mg y = none) (v2 : bootBuiltins y = some (.type T2)) (hm : X.mg "isinstance" = none)
    (hg : Gl X "isinstance" := by rfl) (hv : bootBuiltins "isinstance" = some (.builtin "isinstance") := by decide +kernel) (n1 : x ≠ "__name__" := by decide) (n2 : y ≠ "__name__" := by decide) (d1 : (x == ("__debug__" : Str)) = false := by decide) (d2 : (y == ("__debug__" : Str)) = false := by decide)
    (s1 : starEach (e :: [.Tuple [.Name x p1, .Name y p2] kt pt]) X.env = (false, eval e X.env) :: starEach [.Tuple [.Name x p1, .Name y p2] kt pt] X.env := by rfl) (s2 : starEach (.Tuple [.Name x p1, .Name y p2] kt pt :: []) X.env = (false, eval (.Tuple [.Name x p1, .Name y p2] kt pt) X.env) :: starEach [] X.env := by rfl)
    (s3 : starEach (.Name x p1 :: [.Name y p2]) X.env = (false, eval (.Name x p1) X.env) :: starEach [.Name y p2] X.env := by rfl) (s4 : starEach (.Name y p2 :: []) X.env = (false, eval (.Name y p2) X.env) :: starEach [] X.env := by rfl)
    (hpl : (backTo pos (starEach [.Tuple [.Name x p1, .Name y p2] kt pt] X.env)).any (·.1) = false := by rfl) :
    PEm X Z E os .fz pu (.Call (.Name "isinstance" p) [e, .Tuple [.Name x p1, .Name y p2] kt pt] [] pos) (mOp1 (gIsiA (subA [T1, T2])) me) := by
  obtain ⟨_, a1, a2⟩ := he
  have pt := pe_tup (x1 := kt) (pos := pt) (pa_cons (pe_bltn g1 m1 v1 (v := .ty T1) rfl n1 d1) (pa_cons (pe_bltn g2 m2 v2 (v := .ty T2) rfl n2 d2) pa_nil s4) s3)
  exact ⟨_, pe_callB call_isiT hg hm hv (pa_cons a1 (pa_cons pt pa_nil s2) s1) (by decide) (by decide) s1 hpl, sim_op1 (r := rVIsiA X.K T1 T2) (o1_isiA hK h1 h2) a2⟩
end Vm
/-! Vm26: list(zip(a, b)) of two lists. -/
namespace Lz
open PySem PySem.Spec PyProof.Rows L2

/-- the zip at z while a list is filled at S -/
def KzSt (h : Heap) (z TI TO i1 i2 l1 l2 S : Addr) (xs ys : Array Value) (i : Nat) : Prop :=
  IsPair h TI (.ref i1) (.ref i2) ∧ h.IsListIter i1 l1 i ∧ h.IsListIter i2 l2 i ∧ h.IsList l1 xs ∧ h.IsList l2 ys ∧
    ((IsZip h z TI TO .none ∧ ∃ a b, IsPair h TO a b) ∨ ∃ T f oT, IsZipHeld h z TI TO T f ∧ h.get? T = some oT ∧ T ≠ z ∧ T ≠ i1 ∧ T ≠ i2 ∧ T ≠ S)
structure Apart (z TI TO i1 i2 l1 l2 S : Addr) : Prop where
  D : ZipApart z TI TO i1 i2 l1 l2
  z : z < S
  TI : TI < S
  TO : TO < S
  i1 : i1 < S
  i2 : i2 < S
  l1 : l1 < S
  l2 : l2 < S
theorem KzSt.keep {h h' : Heap} {z TI TO i1 i2 l1 l2 S : Addr} {xs ys : Array Value} {i : Nat} (A : Apart z TI TO i1 i2 l1 l2 S) (x : KzSt h z TI TO i1 i2 l1 l2 S xs ys i) (hk : ∀ b o, b ≠ S → h.get? b = some o → h'.get? b = some o) : KzSt h' z TI TO i1 i2 l1 l2 S xs ys i := by
  obtain ⟨hTI, h1, h2, hl1, hl2, hz⟩ := x
  refine ⟨hk _ _ (Nat.ne_of_lt A.TI) hTI, h1.at fun o e => hk _ o (Nat.ne_of_lt A.i1) e, h2.at fun o e => hk _ o (Nat.ne_of_lt A.i2) e, hl1.at fun o e => hk _ o (Nat.ne_of_lt A.l1) e, hl2.at fun o e => hk _ o (Nat.ne_of_lt A.l2) e, ?_⟩
  rcases hz with ⟨hz, a, b, hTO⟩ | ⟨T, f, oT, hz, hT, r1, r2, r3, r4⟩
  · exact .inl ⟨hk _ _ (Nat.ne_of_lt A.z) hz, a, b, hk _ _ (Nat.ne_of_lt A.TO) hTO⟩
  · exact .inr ⟨T, f, oT, hk _ _ (Nat.ne_of_lt A.z) hz, hk _ _ r4 hT, r1, r2, r3, r4⟩
section
variable {prog : Program} {w : World} {A : Around} {E : Value → Shared → Prop} {s : Shared} {z TI TO i1 i2 l1 l2 S : Addr} {xs ys : Array Value} {i : Nat}
theorem kz_item {x y : Value} {Q : Option Value → Shared → Prop} (P : Apart z TI TO i1 i2 l1 l2 S) (st : KzSt s.heap z TI TO i1 i2 l1 l2 S xs ys i) (hS : S < s.heap.objs.size) (ex : xs[i]? = some x) (ey : ys[i]? = some y)
    (hQ : ∀ h', KzSt h' z TI TO i1 i2 l1 l2 S xs ys (i + 1) → IsPair h' s.heap.objs.size x y → (∀ b o, b ∉ [z, TO, i1, i2] → s.heap.get? b = some o → h'.get? b = some o) → Q (some (.ref s.heap.objs.size)) { s with heap := h' }) :
    wpAny (model prog w) A (pyNext (.ref z)) Q E s := by
  have D := P.D
  obtain ⟨hTI, h1, h2, hl1, hl2, hz⟩ := st
  have lt : ∀ {c o}, s.heap.get? c = some o → s.heap.objs.size ≠ c := fun e => Nat.ne_of_gt (Heap.lt_size e)
  have n1 : s.heap.objs.size ≠ i1 := let ⟨_, e, _⟩ := h1; lt e
  have n2 : s.heap.objs.size ≠ i2 := let ⟨_, e, _⟩ := h2; lt e
  rcases hz with ⟨hz, a, b, hTO⟩ | ⟨T, f, oT, hz, hT, r1, r2, r3, r4⟩
  · refine wpAny_pyNext_zip_item D hz hTI hTO h1 h2 hl1 hl2 ex ey fun h' a1 a2 a3 a4 a5 a6 hk => ?_
    exact hQ h' ⟨hk _ _ D.TIz D.TITO D.TIi1 D.TIi2 hTI, a3, a4, hl1.at fun o e => hk _ o D.l1z D.l1TO D.l1i1 D.l1i2 e, hl2.at fun o e => hk _ o D.l2z D.l2TO D.l2i1 D.l2i2 e,
        .inr ⟨s.heap.objs.size, false, _, a1, a5, lt hz, n1, n2, Nat.ne_of_gt hS⟩⟩ a5
      fun c o hc e => hk c o (fun x => hc (by simp [x])) (fun x => hc (by simp [x])) (fun x => hc (by simp [x])) (fun x => hc (by simp [x])) e
  · refine wpAny_pyNext_zip_item_held D hz hT hTI h1 h2 hl1 hl2 ex ey fun h' a1 a3 a4 a5 a6 hk => ?_
    exact hQ h' ⟨hk _ _ D.TIz D.TIi1 D.TIi2 hTI, a3, a4, hl1.at fun o e => hk _ o D.l1z D.l1i1 D.l1i2 e, hl2.at fun o e => hk _ o D.l2z D.l2i1 D.l2i2 e,
        .inr ⟨T, true, oT, a1, hk _ _ r1 r2 r3 hT, r1, r2, r3, r4⟩⟩ a5
      fun c o hc e => hk c o (fun x => hc (by simp [x])) (fun x => hc (by simp [x])) (fun x => hc (by simp [x])) e
theorem kz_done {Q : Option Value → Shared → Prop} (hh : A.handled = none) (P : Apart z TI TO i1 i2 l1 l2 S) (st : KzSt s.heap z TI TO i1 i2 l1 l2 S xs ys i) (hend : xs[i]? = none ∨ ys[i]? = none)
    (hQ : ∀ h', (∀ b o, b ∉ [z, TO, i1, i2] → s.heap.get? b = some o → h'.get? b = some o) → Q none { s with heap := h' }) : wpAny (model prog w) A (pyNext (.ref z)) Q E s := by
  have D := P.D
  obtain ⟨hTI, h1, h2, hl1, hl2, hz⟩ := st
  rcases hz with ⟨hz, a, b, hTO⟩ | ⟨T, f, oT, hz, hT, r1, r2, r3, r4⟩
  · exact wpAny_pyNext_zip_end hh D hz hTI hTO h1 h2 hl1 hl2 hend fun h' hk => hQ h' fun c o hc e => hk c o (fun x => hc (by simp [x])) (fun x => hc (by simp [x])) (fun x => hc (by simp [x])) (fun x => hc (by simp [x])) e
  · exact wpAny_pyNext_zip_end_held hh D hz hT hTI h1 h2 hl1 hl2 hend fun h' hk => hQ h' fun c o hc e => hk c o (fun x => hc (by simp [x])) (fun x => hc (by simp [x])) (fun x => hc (by simp [x])) e

/-- the tuples that were made -/
structure KzG (xs ys : Array Value) (lo : Addr) (h : Heap) (as : List Addr) : Prop where
  rise : as.Pairwise (· < ·)
  above : ∀ a ∈ as, lo < a
  pairs : ∀ (j : Nat) (a : Addr), as[j]? = some a → ∃ x y, xs[j]? = some x ∧ ys[j]? = some y ∧ IsPair h a x y
theorem KzG.there {lo : Addr} {h : Heap} {as : List Addr} (g : KzG xs ys lo h as) {a : Addr} (ha : a ∈ as) : a < h.objs.size := by
  obtain ⟨j, hj⟩ := List.mem_iff_getElem?.mp ha
  obtain ⟨_, _, _, _, e⟩ := g.pairs j a hj
  exact Heap.lt_size e
theorem off_of {b : Addr} (P : Apart z TI TO i1 i2 l1 l2 S) (hb : S ≤ b) : b ∉ [z, TO, i1, i2] := fun h => by
  simp only [List.mem_cons, List.mem_nil_iff, or_false] at h
  rcases h with e | e | e | e
  · exact absurd (e ▸ P.z) (Nat.not_lt.mpr hb)
  · exact absurd (e ▸ P.TO) (Nat.not_lt.mpr hb)
  · exact absurd (e ▸ P.i1) (Nat.not_lt.mpr hb)
  · exact absurd (e ▸ P.i2) (Nat.not_lt.mpr hb)
theorem kz_loop {R : Result → Shared → Prop} (hh : A.handled = none) (P : Apart z TI TO i1 i2 l1 l2 S) (hn : min xs.size ys.size ≤ sizeLine) (res : Value) {h₁ : Heap}
    (hR : ∀ h' tk acc c as, (∀ b o, b ≠ S → b ∉ [z, TO, i1, i2] → h₁.get? b = some o → h'.get? b = some o) → h'.get? S = some { cls := .type "list", dict := none, data := .seq acc c, slots := #[] } → as.length = min xs.size ys.size → KzG xs ys S h' as →
      acc.toList = as.map Value.ref → R (.ok (.ret res)) { s with heap := h', toks := tk }) :
    ∀ (k i : Nat) (h : Heap) (tk c : Nat) (acc : Array Value) (as : List Addr), min xs.size ys.size - i = k → i ≤ min xs.size ys.size → KzSt h z TI TO i1 i2 l1 l2 S xs ys i → (∀ b o, b ≠ S → b ∉ [z, TO, i1, i2] → h₁.get? b = some o → h.get? b = some o) →
      h.get? S = some { cls := .type "list", dict := none, data := .seq acc c, slots := #[] } → acc.toList = as.map Value.ref → as.length = i → KzG xs ys S h as →
      codeAny (model prog w) A (.builtin "list.extend.loop" ⟨[.ref S, .ref z, res], []⟩) R { s with heap := h, toks := tk } := by
  have offS := off_of P (Nat.le_refl S)
  intro k
  induction k with
  | zero =>
    intro i h tk c acc as hk hi hst hkeep hS hacc hal hG
    have hin : i = min xs.size ys.size := by omega
    refine codeAny_builtin PySem.F.entry_extend_loop ?_
    rw [Around.under_plainId PySem.F.plain_extend_loop _]
    show wpAny _ A.in1 (pyNext (.ref z) >>= _) _ _ _
    have hend : xs[i]? = none ∨ ys[i]? = none := by
      rcases Nat.le_total xs.size ys.size with h | h
      · exact .inl (Array.getElem?_eq_none (by omega))
      · exact .inr (Array.getElem?_eq_none (by omega))
    refine wpAny_bind (kz_done (s := { s with heap := h, toks := tk }) (A := A.in1) hh P hst hend fun h' he => ?_)
    refine wpAny_pure (hR h' tk acc c as (fun b o h1 h2 e => he b o h2 (hkeep b o h1 h2 e)) (he S _ offS hS) (by omega) ⟨hG.rise, hG.above, fun j a hj => ?_⟩ hacc)
    obtain ⟨x, y, e1, e2, e3⟩ := hG.pairs j a hj
    exact ⟨x, y, e1, e2, he a _ (off_of P (Nat.le_of_lt (hG.above a (List.mem_of_getElem? hj)))) e3⟩
  | succ k ih =>
    intro i h tk c acc as hk hi hst hkeep hS hacc hal hG
    have hlx : i < xs.size := by omega
    have hly : i < ys.size := by omega
    have ex := Array.getElem?_eq_getElem hlx
    have ey := Array.getElem?_eq_getElem hly
    have hsz : acc.size = i := by rw [← Array.length_toList, hacc, List.length_map, hal]
    refine codeAny_builtin PySem.F.entry_extend_loop ?_
    rw [Around.under_plainId PySem.F.plain_extend_loop _]
    show wpAny _ A.in1 (pyNext (.ref z) >>= _) _ _ _
    refine wpAny_bind (kz_item (s := { s with heap := h, toks := tk }) P hst (Heap.lt_size hS) ex ey fun h' hst' ht hkp => ?_)
    dsimp only at ht hkp ⊢
    have hS' := hkp S _ offS hS
    have up : ∀ b o, b ≠ S → h'.get? b = some o → (h'.update S (Obj.mapSeq (·.push (Value.ref h.objs.size)))).get? b = some o := fun b o hb e => (Heap.get?_update_other _ _ (Ne.symm hb)).trans e
    have hSl : S < h.objs.size := Heap.lt_size hS
    show wpAny _ A.in1 (updateSeq S (·.push (Value.ref h.objs.size)) >>= _) _ _ _
    refine wpAny_bind ?_
    refine wpAny_updateSeq hS' rfl (wpAny_pure ⟨plainId_quiet PySem.F.plain_extend_loop _, ih (i + 1) _ tk _ (acc.push (Value.ref h.objs.size)) (as ++ [h.objs.size]) (by omega) (by omega) (hst'.keep P up)
      (fun b o h1 h2 e => up b o h1 (hkp b o h2 (hkeep b o h1 h2 e))) (Heap.get?_update_self _ hS' rfl) (by rw [Array.toList_push, hacc, List.map_append]; rfl) (by rw [List.length_append, hal]; rfl) ⟨?_, ?_, ?_⟩⟩) (by rw [hsz]; omega) (by show (acc.push (Value.ref h.objs.size)).size ≤ sizeLine + 1; rw [Array.size_push, hsz]; omega)
    · refine List.pairwise_append.mpr ⟨hG.rise, List.pairwise_singleton _ _, fun a ha b hb => ?_⟩
      rw [List.mem_singleton.mp hb]
      exact hG.there ha
    · intro a ha
      rcases List.mem_append.mp ha with ha | ha
      · exact hG.above a ha
      · rw [List.mem_singleton.mp ha]; exact hSl
    · intro j b hj
      rcases Nat.lt_trichotomy j as.length with h1 | h1 | h1
      · rw [List.getElem?_append_left h1] at hj
        obtain ⟨x, y, e1, e2, e3⟩ := hG.pairs j b hj
        have hb := hG.above b (List.mem_of_getElem? hj)
        exact ⟨x, y, e1, e2, up b _ (Nat.ne_of_gt hb) (hkp b _ (off_of P (Nat.le_of_lt hb)) e3)⟩
      · subst h1
        have hb : h.objs.size = b := by simpa using hj
        subst hb
        exact ⟨_, _, by rw [hal]; exact ex, by rw [hal]; exact ey, up _ _ (Nat.ne_of_gt hSl) ht⟩
      · have hnone : (as ++ [h.objs.size])[j]? = none := List.getElem?_eq_none (by rw [List.length_append, List.length_singleton]; omega)
        rw [hnone] at hj; cases hj
end
theorem zip_no_len : typeLookup (.type "zip") "__len__" = pure none := am_miss_of_fast (by decide +kernel)
theorem zip_no_hint : typeLookup (.type "zip") "__length_hint__" = pure none := am_miss_of_fast (by decide +kernel)
section
variable {prog : Program} {w : World} {A : Around} {E : Value → Shared → Prop} {s : Shared} {z : Addr}
theorem kz_hint (hT : s.TypeIs (.ref z) "zip") {Q : Bool → Shared → Prop} (h : Q true s) : wpAny (model prog w) A (Builtin.List.listLengthHint (.ref z)) Q E s := by
  unfold Builtin.List.listLengthHint
  refine wpAny_bind (wpAny_specialOf hT zip_no_len ?_)
  show wpAny _ _ (specialOf (.ref z) "__length_hint__" >>= _) _ _ _
  refine wpAny_bind (wpAny_specialOf hT zip_no_hint ?_)
  exact wpAny_pure h
end
section
variable {prog : Program} {w : World} {A : Around} {E : Value → Shared → Prop} {s : Shared} {z TI TO i1 i2 l1 l2 : Addr} {xs ys : Array Value}
theorem KzSt.ty {S : Addr} (x : KzSt s.heap z TI TO i1 i2 l1 l2 S xs ys i) : s.TypeIs (.ref z) "zip" := by
  obtain ⟨_, _, _, _, _, hz⟩ := x
  rcases hz with ⟨hz, _⟩ | ⟨T, f, oT, hz, _⟩
  · exact ⟨_, hz, rfl⟩
  · exact ⟨_, hz, rfl⟩
theorem kz_extend {S : Addr} {R : Result → Shared → Prop} (hh : A.handled = none) (P : Apart z TI TO i1 i2 l1 l2 S) (hn : min xs.size ys.size ≤ sizeLine) (res : Value) (c₀ : Nat)
    (hz : IsZip s.heap z TI TO .none) (st : KzSt s.heap z TI TO i1 i2 l1 l2 S xs ys 0) (hS : s.heap.get? S = some { cls := .type "list", data := .seq #[] c₀ })
    (hR : ∀ h' tk acc c as, (∀ b o, b ≠ S → b ∉ [z, TO, i1, i2] → s.heap.get? b = some o → h'.get? b = some o) → h'.get? S = some { cls := .type "list", dict := none, data := .seq acc c, slots := #[] } → as.length = min xs.size ys.size → KzG xs ys S h' as →
      acc.toList = as.map Value.ref → R (.ok (.ret res)) { s with heap := h', toks := tk }) :
    wpAny (model prog w) A.in1 (Builtin.List.listExtendWith (.ref S) (.ref z) res)
      (fun fin s' => match fin with | .done f => R (.ok f) s' | .again c' => c'.quiet = true ∧ codeAny (model prog w) A c' R s') (fun e s' => R (.error e) s') s := by
  have hSz : S ≠ z := Nat.ne_of_gt P.z
  unfold Builtin.List.listExtendWith
  refine wpAny_bind (wpAny_typeOf (T := "zip") st.ty ?_)
  have h1 : Builtin.List.listSameRef (.ref S) (.ref z) = false := by simp [Builtin.List.listSameRef, hSz]
  have h2 : (Value.type "zip" == Value.type "list") = false := by decide
  have h3 : (Value.type "zip" == Value.type "tuple") = false := by decide
  simp only [h1, h2, h3, Bool.or_false, Bool.false_eq_true, if_false]
  refine wpAny_bind (wpAny_pyIter_zip hz ?_)
  refine wpAny_bind (wpAny_holding (kz_hint st.ty ?_))
  simp only [Bool.true_or, if_true]
  refine wpAny_bind (wpAny_rule ?_)
  refine wpAny_bind ?_
  show wpAny _ _ (updateSeq S (·.push .none) >>= fun _ => updateSeq S (·.pop)) _ _ _
  refine wpAny_bind (wpAny_updateSeq hS rfl ?_)
  have hS₂ := Heap.get?_update_self (Obj.mapSeq (·.push Value.none)) hS rfl
  refine wpAny_updateSeq (hz := by seq_fits) hS₂ rfl ?_
  have hS₃ := Heap.get?_update_self (Obj.mapSeq (·.pop)) hS₂ rfl
  have up : ∀ b o, b ≠ S → s.heap.get? b = some o → ((s.heap.update S (Obj.mapSeq (·.push Value.none))).update S (Obj.mapSeq (·.pop))).get? b = some o := fun b o hb e => (Heap.get?_update_other _ _ (Ne.symm hb)).trans ((Heap.get?_update_other _ _ (Ne.symm hb)).trans e)
  refine wpAny_pure ⟨plainId_quiet PySem.F.plain_extend_loop _, ?_⟩
  exact kz_loop (s := s) (h₁ := s.heap) hh P hn res hR (min xs.size ys.size) 0 _ _ _ #[] [] (Nat.sub_zero _) (Nat.zero_le _) (st.keep P up) (fun b o hb _ e => up b o hb e) hS₃ rfl rfl
    ⟨List.Pairwise.nil, (fun _ ha => nomatch ha), (fun j a hj => by simp at hj)⟩
theorem kz_init {S : Addr} {R : Result → Shared → Prop} (hh : A.handled = none) (P : Apart z TI TO i1 i2 l1 l2 S) (hn : min xs.size ys.size ≤ sizeLine)
    (hz : IsZip s.heap z TI TO .none) (st : KzSt s.heap z TI TO i1 i2 l1 l2 S xs ys 0) (hS : s.heap.get? S = some { cls := .type "list", data := .seq #[] })
    (hR : ∀ h' tk acc c as, (∀ b o, b ≠ S → b ∉ [z, TO, i1, i2] → s.heap.get? b = some o → h'.get? b = some o) → h'.get? S = some { cls := .type "list", dict := none, data := .seq acc c, slots := #[] } → as.length = min xs.size ys.size → KzG xs ys S h' as →
      acc.toList = as.map Value.ref → R (.ok (.ret .none)) { s with heap := h', toks := tk }) :
    wpAny (model prog w) A.in1 (Builtin.«list.__init__» ⟨[.ref S, .ref z], []⟩)
      (fun fin s' => match fin with | .done f => R (.ok f) s' | .again c' => c'.quiet = true ∧ codeAny (model prog w) A c' R s') (fun e s' => R (.error e) s') s := by
  show wpAny _ _ (do let old ← Builtin.List.listItems (.ref S); Builtin.List.listUpdate (.ref S) (fun _ => #[]); letGo old.toList.reverse; Builtin.List.listExtendWith (.ref S) (.ref z) .none) _ _ s
  refine wpAny_bind ?_
  unfold Builtin.List.listItems
  refine wpAny_bind (wpAny_seqItems hS rfl (wpAny_pure ?_))
  show wpAny _ _ (updateSeq S (fun _ => #[]) >>= fun _ => letGo (#[] : Array Value).toList.reverse >>= fun _ => Builtin.List.listExtendWith (.ref S) (.ref z) .none) _ _ s
  refine wpAny_bind (wpAny_updateSeq hS rfl ?_)
  have hS₂ := Heap.get?_update_self (Obj.mapSeq (fun _ => (#[] : Array Value))) hS rfl
  have oth : ∀ b o, b ≠ S → s.heap.get? b = some o → (s.heap.update S (Obj.mapSeq (fun _ => (#[] : Array Value)))).get? b = some o :=
    fun b o hb e => (Heap.get?_update_other _ _ (Ne.symm hb)).trans e
  refine wpAny_bind (wpAny_letGo ?_)
  exact kz_extend (S := S) hh P hn .none _ (oth _ _ (Nat.ne_of_lt P.z) hz) (st.keep P oth) hS₂ fun h' tk acc c as hk hS' hl hG hacc =>
    hR h' tk acc c as (fun b o hb h2 e => hk b o hb h2 (oth b o hb e)) hS' hl hG hacc
theorem kz_call {Q : Value → Shared → Prop} (hh : A.handled = none) (P : Apart z TI TO i1 i2 l1 l2 s.heap.objs.size) (hn : min xs.size ys.size ≤ sizeLine)
    (hz : IsZip s.heap z TI TO .none) (st : KzSt s.heap z TI TO i1 i2 l1 l2 s.heap.objs.size xs ys 0)
    (hQ : ∀ h' tk acc c as, (∀ b o, b ∉ [z, TO, i1, i2] → s.heap.get? b = some o → h'.get? b = some o) → h'.get? s.heap.objs.size = some { cls := .type "list", dict := none, data := .seq acc c, slots := #[] } → as.length = min xs.size ys.size → KzG xs ys s.heap.objs.size h' as →
      acc.toList = as.map Value.ref → Q (.ref s.heap.objs.size) { s with heap := h', toks := tk }) :
    wpAny (model prog w) A (call (.type "list") [.ref z]) Q E s := by
  refine callType_codes (Q₁ := fun obj s₁ => obj = .ref s.heap.objs.size ∧ s₁ = { s with heap := s.heap.push { cls := .type "list", data := .seq #[] } }) PySem.F.called_list (PySem.F.typeCall_list_1 _) PySem.F.entry_list_init
    (code_list_new _ ⟨rfl, rfl⟩) fun obj s₁ h₁ => ?_
  obtain ⟨rfl, rfl⟩ := h₁
  have hS : (s.heap.push { cls := .type "list", data := .seq #[] }).get? s.heap.objs.size = some { cls := .type "list", data := .seq #[] } := Heap.get?_push_size _ rfl
  refine ⟨⟨_, hS, rfl⟩, PySem.F.args_list_init_2 _ _, kz_init (A := A.in1) hh P hn (Heap.get?_push_of_some _ hz) (st.keep P fun b o _ e => Heap.get?_push_of_some _ e) hS (fun h' tk acc c as hk hS' hl hG hacc => ?_)⟩
  exact ⟨rfl, hQ h' tk acc c as (fun b o h2 e => hk b o (Nat.ne_of_lt (Heap.lt_size e)) h2 (Heap.get?_push_of_some _ e)) hS' hl hG hacc⟩
end
end Lz
namespace Lz
open PySem PySem.Spec PyProof.Rows L2
def putZ : Hp → List Addr → List (V × V) → Hp
  | H, a :: as, p :: kvs => putZ (upd H a (.tup [p.1, p.2])) as kvs
  | H, _, _ => H
theorem putZ_off {b : Addr} : ∀ (as : List Addr) (kvs : List (V × V)) (H : Hp), b ∉ as → putZ H as kvs b = H b
  | [], _, _, _ => rfl
  | _ :: _, [], _, _ => rfl
  | a :: as, p :: kvs, H, h => by
    show putZ (upd H a (.tup [p.1, p.2])) as kvs b = H b
    rw [putZ_off as kvs _ (fun z => h (List.mem_cons_of_mem _ z)), upd_ne (fun z => h (by rw [z]; exact List.mem_cons_self))]
theorem putZ_at : ∀ (as : List Addr) (kvs : List (V × V)) (H : Hp), as.length = kvs.length → as.Nodup → Paired (fun (t : Addr) (p : V × V) => putZ H as kvs t = some (.tup [p.1, p.2])) as kvs
  | [], [], _, _, _ => .nil
  | [], _ :: _, _, h, _ => by cases h
  | _ :: _, [], _, h, _ => by cases h
  | a :: as, p :: kvs, H, h, hn => by
    have hn' := List.nodup_cons.mp hn
    have ih := putZ_at as kvs (upd H a (.tup [p.1, p.2])) (Nat.succ.inj h) hn'.2
    refine .cons ?_ ih
    show putZ (upd H a (.tup [p.1, p.2])) as kvs a = some (.tup [p.1, p.2])
    rw [putZ_off as kvs _ hn'.1, upd_same]
theorem nl {a b : Nat} (h : a < b) : (show Addr from a) < (show Addr from b) := h
theorem zip_get {xs ys : List V} {j : Nat} {p : V × V} (h : (xs.zip ys)[j]? = some p) : xs[j]? = some p.1 ∧ ys[j]? = some p.2 := by
  rw [List.getElem?_zip_eq_some] at h; exact h
def rListZip (K : PySem.W.Frag) : List V → Hp → VK → Prop := fun vs H Q => ∃ (a b : Addr) (xs ys : List V), vs = [.ref a, .ref b] ∧ SqL K H a xs ∧ SqL K H b ys ∧
  ∀ (H' : Hp) (p : Addr) (ts : List Addr), (∀ b o, H b = some o → H' b = some o) → H p = none → (∀ t ∈ ts, H t = none) → p ∉ ts → ts.Nodup → H' p = some (.lst (ts.map V.ref)) →
    (∀ b, b ∉ ts → b ≠ p → H' b = H b) → Paired (fun (t : Addr) (q : V × V) => H' t = some (.tup [q.1, q.2])) ts (xs.zip ys) → Q (.ref p) H'
section
variable {X : Cx} {a b : Expr} {ta : TA} {p p2 cpos pos : Pos}
theorem zip_laid {pins : List (Addr × Obj)} {σ : L2.St} {H : Hp} {s : Shared} {h' : Heap} {tk : Nat} {xs ys : List V} {us ws : List Value} {acc : Array Value} {c : Nat} {as : List Addr} {S : Addr} (I : Inv X pins σ H s) (hSge : s.heap.objs.size ≤ S)
    (hz : xs.length ≤ sizeLine) (kv : Vals xs us) (kw : Vals ys ws)
    (hk : ∀ b o, s.heap.get? b = some o → h'.get? b = some o) (hS : h'.get? S = some { cls := .type "list", dict := none, data := .seq acc c, slots := #[] }) (hl : as.length = min us.length ws.length) (hG : KzG us.toArray ws.toArray S h' as) (hacc : acc.toList = as.map Value.ref) :
    ∃ H' : Hp, (∀ b o, H b = some o → H' b = some o) ∧ H S = none ∧ (∀ t ∈ as, H t = none) ∧ S ∉ as ∧ as.Nodup ∧ H' S = some (.lst (as.map V.ref)) ∧ (∀ b, b ∉ as → b ≠ S → H' b = H b) ∧ Paired (fun (t : Addr) (q : V × V) => H' t = some (.tup [q.1, q.2])) as (xs.zip ys) ∧ Inv X pins σ H' { s with heap := h', toks := tk } := by
  have l1 : xs.length = us.length := Paired.length kv
  have l2 : ys.length = ws.length := Paired.length kw
  have lz : as.length = (xs.zip ys).length := by rw [List.length_zip, hl]; omega
  have hSn : S ∉ as := fun z => Nat.lt_irrefl _ (hG.above _ z)
  have nd : as.Nodup := List.Pairwise.imp (fun {a b} (h : a < b) => Nat.ne_of_lt h) hG.rise
  have new : ∀ t ∈ as, H t = none := fun t ht => I.hok.fresh (Nat.le_trans hSge (Nat.le_of_lt (hG.above t ht)))
  have newS : H S = none := I.hok.fresh hSge
  have atP := putZ_at as (xs.zip ys) (upd H S (.lst (as.map V.ref))) lz nd
  have off : ∀ b, b ∉ as → b ≠ S → putZ (upd H S (.lst (as.map V.ref))) as (xs.zip ys) b = H b := fun b h1 h2 => by rw [putZ_off as _ _ h1, upd_ne h2]
  have low : ∀ b o, s.heap.get? b = some o → b ∉ as ∧ b ≠ S := fun b o e => ⟨fun z => absurd (Heap.lt_size e) (Nat.not_lt.mpr (Nat.le_trans hSge (Nat.le_of_lt (hG.above b z)))), Nat.ne_of_lt (Nat.lt_of_lt_of_le (Heap.lt_size e) hSge)⟩
  have kp : ∀ b u, H b = some u → (putZ (upd H S (.lst (as.map V.ref))) as (xs.zip ys)) b = some u := fun b u e => by
    rw [off b (fun z => by rw [new b z] at e; cases e) (fun z => by rw [z, newS] at e; cases e)]
    exact e
  have eS : putZ (upd H S (.lst (as.map V.ref))) as (xs.zip ys) S = some (.lst (as.map V.ref)) := by rw [putZ_off as _ _ hSn, upd_same]
  refine ⟨putZ (upd H S (.lst (as.map V.ref))) as (xs.zip ys), kp, newS, new, hSn, nd, eS, off, atP, ?_⟩
  refine I.call' (ch := []) rfl ⟨fun b o q _ _ _ => hk b o q, fun b o q _ _ _ => ⟨o.slots, hk b o q⟩, fun b o q n _ => ?_, fun b o q _ => ⟨o, hk b o q⟩, fun b xs q => kp b _ q, fun b o u q => kp b _ q, fun b ps q => ⟨#[], by rw [kp b _ q]; simp⟩⟩ (fun b u q => ?_) I.bare fun b z => by simp at z
  · obtain ⟨z1, z2⟩ := low b o q
    rw [off b z1 z2]
    exact n
  · by_cases hb : b ∈ as
    · obtain ⟨j, pk, e1, e2, e3⟩ := LiI.paired_ix atP hb
      rw [e3] at q
      cases q
      obtain ⟨x, y, f1, f2, f3⟩ := hG.pairs j b e1
      obtain ⟨g1, g2⟩ := zip_get e2
      obtain ⟨u, g3, g4⟩ := LiI.paired_get kv g1
      obtain ⟨u', g5, g6⟩ := LiI.paired_get kw g2
      have e4 : x = u := by have h := f1; rw [List.getElem?_toArray, g3] at h; exact (Option.some.inj h).symm
      have e5 : y = u' := by have h := f2; rw [List.getElem?_toArray, g5] at h; exact (Option.some.inj h).symm
      subst e4 e5
      exact ⟨by show 2 ≤ sizeLine; decide, [x, y], .cons g4 (.cons g6 .nil), ⟨_, f3, rfl, _, rfl⟩⟩
    · by_cases hb2 : b = S
      · rw [hb2] at q ⊢
        rw [eS] at q
        cases q
        refine ⟨by rw [List.length_map]; omega, acc.toList, c, by rw [hacc]; exact LiI.vals_refs as, ?_⟩
        rw [Array.toArray_toList]
        exact hS
      · rw [off b hb hb2] at q
        exact (I.hok b u q).stay (fun d v _ y => hk d v y) (fun d y => kp d _ y) fun d xs y => kp d _ y
/-- list(zip(a, b)) -/
theorem pe_listZip (hc : X.calm = true) (hgl : Gl X "list") (hml : X.mg "list" = none) (hg : Gl X "zip") (hm : X.mg "zip" = none) (ha : PA X [a, b] ta)
    (hs0 : starEach [.Call (.Name "zip" p2) [a, b] [] cpos] X.env = (false, eval (.Call (.Name "zip" p2) [a, b] [] cpos) X.env) :: starEach [] X.env := by rfl)
    (hs : starEach [a, b] X.env = (false, eval a X.env) :: starEach [b] X.env := by rfl) (hpl : (backTo cpos (starEach [b] X.env)).any (·.1) = false := by rfl) :
    PE X (.Call (.Name "list" p) [.Call (.Name "zip" p2) [a, b] [] cpos] [] pos) (fun σ H Q => ta σ H fun vs H1 => rListZip X.K vs H1 Q) := by
  have hv : bootBuiltins "list" = some (.type "list") := by rfl
  refine ⟨fun pins s σ H Q I hq => ?_⟩
  refine wpAny_Call_Name_kw (ld_blt I hgl hml hv ?_)
  refine PyProof.Rows.callWith_type1 ?_ hs0 rfl
  rw [hs0]
  show wpAny _ _ (spliced ((false, eval (.Call (.Name "zip" p2) [a, b] [] cpos) X.env) :: backTo pos (starEach [] X.env))) _ _ s
  refine Calls.spliced_cons ?_
  refine Call_ (ld_blt I hg hm PyProof.Rows.boot_zip (PyProof.Rows.callWith_type1 (thn (ha.run cpos pins s σ H _ I hq) fun us s1 ⟨vs, H1, I1, r1, q1⟩ => ?_) hs hpl))
  obtain ⟨a, b, xs, ys, ex, hqx, hqy, q⟩ := q1
  subst ex
  cases r1 with
  | cons r rr =>
    cases rr with
    | cons r' rr =>
      cases rr
      cases r
      cases r'
      obtain ⟨its, rv, p1, z1⟩ := I1.list hqx
      obtain ⟨its2, rv2, p2, z2⟩ := I1.list hqy
      have la : a < s1.heap.objs.size := p1.lt
      have lb : b < s1.heap.objs.size := p2.lt
      refine call_zip_2 p1.isList p2.isList fun h' hz hTI hTO h1 h2 hsz hk => ?_
      refine Calls.spliced_nil ?_
      have lr1 : xs.length = its.length := Paired.length rv
      have P : Apart (s1.heap.objs.size + 4) (s1.heap.objs.size + 2) (s1.heap.objs.size + 3) s1.heap.objs.size (s1.heap.objs.size + 1) a b ({ s1 with heap := h' } : Shared).heap.objs.size := by
        show Apart _ _ _ _ _ _ _ h'.objs.size
        rw [hsz]
        exact ⟨PySem.W.ktu_apart s1.heap.objs.size a b la lb, nl (by omega), nl (by omega), nl (by omega), nl (by omega), nl (by omega), Nat.lt_of_lt_of_le la (Nat.le_add_right _ _), Nat.lt_of_lt_of_le lb (Nat.le_add_right _ _)⟩
      refine kz_call (I1.ok.hd hc) P (by simp only [List.size_toArray]; omega) hz ⟨hTI, h1, h2, p1.isList.at fun o e => hk _ o e, p2.isList.at fun o e => hk _ o e, .inl ⟨hz, _, _, hTO⟩⟩ fun h'' tk acc c as hk' hS hl hG hacc => ?_
      have hkk : ∀ b o, s1.heap.get? b = some o → h''.get? b = some o := fun b o e => hk' b o (fun hm => by
        have hlt : b < s1.heap.objs.size := Heap.lt_size e
        simp only [List.mem_cons, List.mem_nil_iff, or_false] at hm
        rcases hm with e | e | e | e <;> rw [e] at hlt
        · exact absurd hlt (Nat.not_lt.mpr (Nat.le_add_right _ _))
        · exact absurd hlt (Nat.not_lt.mpr (Nat.le_add_right _ _))
        · exact absurd hlt (Nat.lt_irrefl _)
        · exact absurd hlt (Nat.not_lt.mpr (Nat.le_add_right _ _))) (hk b o e)
      obtain ⟨H', k1, k2, k3, k4, k5, k6, k7, k8, J⟩ := zip_laid (tk := tk) (S := h'.objs.size) I1 (by omega) z1 rv rv2 hkk hS (by simpa using hl) hG hacc
      exact ⟨.ref _, H', J, rfl, q H' _ as k1 k2 k3 k4 k5 k6 k7 k8⟩
end
end Lz
namespace Vm
open PySem L2
variable {Z : Par} {E : St → XK} {os : Os} {X : Cx}
theorem RpL.len {F : Hp} {ds : List D} {vs : List V} (r : RpL Z F ds vs) : ds.length = vs.length := r.length.symm ▸ rfl
theorem pz_step : ∀ (ts : List Addr) (ds es : List D) (vs ws : List V) (F H : Hp), Hk Z F H → ts.length = (vs.zip ws).length → ts.Nodup → (∀ t ∈ ts, H t = none) → RpL Z F ds vs → RpL Z F es ws →
    PStep Z F H (Lz.putZ F ts (vs.zip ws)) (Lz.putZ H ts (vs.zip ws)) ∧ RpL Z (Lz.putZ F ts (vs.zip ws)) (zipD ds es) (ts.map V.ref)
  | [], ds, es, vs, ws, F, H, k, hl, hn, hf, r, r' => by
    have e : vs.zip ws = [] := List.eq_nil_of_length_eq_zero hl.symm
    have e2 : zipD ds es = [] := by
      apply List.eq_nil_of_length_eq_zero
      rw [zipD_length]
      rw [List.length_zip] at hl
      rw [← r.length, ← r'.length] at hl
      exact hl.symm
    rw [e, e2]
    exact ⟨PStep.refl k, .nil⟩
  | t :: ts, ds, es, vs, ws, F, H, k, hl, hn, hf, r, r' => by
    cases r with
    | nil => simp at hl
    | @cons d ds' v vs' q qq =>
      cases r' with
      | nil => simp at hl
      | @cons d' es' w ws' q' qq' =>
        have hn' := List.nodup_cons.mp hn
        have ht := hf t (List.mem_cons_self)
        have p1 : PStep Z F H (upd F t (.tup [v, w])) (upd H t (.tup [v, w])) := PStep.new k ht
        have sm := same_upd (o := .tup [v, w]) (k.none ht)
        obtain ⟨a1, a2⟩ := pz_step ts ds' es' vs' ws' _ _ p1.hk (by simpa using hl) hn'.2 (fun x hx => (upd_ne (fun z => hn'.1 (by rw [← z]; exact hx))).trans (hf x (List.mem_cons_of_mem _ hx))) (qq.mono sm) (qq'.mono sm)
        refine ⟨p1.trans a1, ?_⟩
        show RpL Z (Lz.putZ (upd F t (.tup [v, w])) ts (vs'.zip ws')) (.tup [d, d'] :: zipD ds' es') (.ref t :: ts.map V.ref)
        refine .cons (.tup (a1.f _ _ upd_same) ?_) a2
        exact .cons ((q.mono sm).mono a1.f) (.cons ((q'.mono sm).mono a1.f) .nil)
def gListZip : List D → Option D
  | [.lst a, .lst b] => some (.lst (zipD a b))
  | _ => none
theorem oN_listZip {fl : Fl} (hf : fl = .fz ∨ fl = .nw) : OpN Z (Lz.rListZip Z.K) fl gListZip := fun F H ds vs Q e k bL hg q => by
  unfold gListZip at hg
  split at hg
  · rename_i xs ys
    cases hg
    obtain ⟨x, y, rfl, b1, b2⟩ := (show ∃ x y, vs = [x, y] ∧ Bo Z F H (.lst xs) x ∧ Bo Z F H (.lst ys) y by
      cases bL with | cons h r => cases r with | cons h' r => cases r; exact ⟨_, _, rfl, h, h'⟩)
    obtain ⟨a, v1, rfl, h1, r1⟩ := b1.lst k
    obtain ⟨b, v2, rfl, h2, r2⟩ := b2.lst k
    refine ⟨a, b, v1, v2, rfl, SqL.of h1, SqL.of h2, fun H' p ts k1 k2 k3 k4 k5 k6 k7 k8 => ?_⟩
    obtain ⟨a1, a2⟩ := pz_step ts xs ys v1 v2 F H k (Paired.length k8) k5 k3 r1 r2
    have hp : Lz.putZ H ts (v1.zip v2) p = none := by rw [Lz.putZ_off _ _ _ k4]; exact k2
    have e : H' = upd (Lz.putZ H ts (v1.zip v2)) p (.lst (ts.map V.ref)) := by
      funext c
      by_cases c1 : c = p
      · rw [c1, k6, upd_same]
      · rw [upd_ne c1]
        by_cases c2 : c ∈ ts
        · obtain ⟨j, pk, e1, e2, e3⟩ := LiI.paired_ix k8 c2
          obtain ⟨qk, f1, f2⟩ := LiI.paired_get (Lz.putZ_at ts (v1.zip v2) H (Paired.length k8) k5) e1
          rw [e2] at f1
          cases f1
          rw [e3, f2]
        · rw [k7 c c2 c1, Lz.putZ_off _ _ _ c2]
    rw [e]
    exact q_lst hf a1.hk a2 (fun F2 H2 w p2 n2 => q F2 H2 w (a1.trans p2) (by
      cases fl with
      | fz => exact n2
      | nw => obtain ⟨l, e1, e2, e3, e4⟩ := n2; exact ⟨l, e1, a1.h.free e2, e3, e4⟩
      | bo => rcases hf with h | h <;> cases h)) p hp
  · cases hg
section
variable {fl : Fl} {pu : Bool} {a b : Expr} {ma : Rho → ER (List D)} {fls : List AF} {p p2 cpos pos : Pos}
theorem em_listZip (hc : X.calm = true) (hf : fl = .fz ∨ fl = .nw) (hgl : Gl X "list") (hml : X.mg "list" = none) (hg : Gl X "zip") (hm : X.mg "zip" = none) (ha : PAm X Z E os fls pu [a, b] ma) (hb : Bos fls = true := by rfl)
    (hs0 : starEach [.Call (.Name "zip" p2) [a, b] [] cpos] X.env = (false, eval (.Call (.Name "zip" p2) [a, b] [] cpos) X.env) :: starEach [] X.env := by rfl)
    (hs : starEach [a, b] X.env = (false, eval a X.env) :: starEach [b] X.env := by rfl) (hpl : (backTo cpos (starEach [b] X.env)).any (·.1) = false := by rfl) (hK : X.K = Z.K := by rfl) :
    PEm X Z E os fl pu (.Call (.Name "list" p) [.Call (.Name "zip" p2) [a, b] [] cpos] [] pos) (mOpN gListZip ma) := by
  obtain ⟨ta, a1, a2⟩ := ha
  refine ⟨_, Lz.pe_listZip hc hgl hml hg hm a1 hs0 hs hpl, ?_⟩
  rw [hK]
  exact sim_opN (oN_listZip hf) a2 hb
end
end Vm
namespace Vm
open PySem L2
section
variable {P : Program} {w : World} {K : PySem.W.Frag} {mg : Str → Option Value} {base : Heap} {Z : Par} {rf : Fl}
/-- a def of which nothing is promised -/
theorem fn_stuck {x qual : Str} {st : Stmt} {f : Addr} {fd : FuncData} {N ps : List Str} {k : Nat} {pm : List PM} (F : Fun K x qual st f fd) (S : FnScope N ps (defScope st)) (hp : pm.length = ps.length) :
    FnOk P w K mg base CX0 (k + 1) f fd ps (SpM Z pm rf fun _ => .stuck) := by
  refine F.ok S (fun vs H Q E h => by rw [h.length, hp]) fun cdv A outer s H vs Q E hr h => ?_
  obtain ⟨_, _, _, _, _, wi⟩ := h
  exact wi.elim
end
end Vm
/-! Vm30: mirrors reckoned by simp. -/
namespace Vm
open PySem L2

def SR.seq (r : SR) (n : MS) : SR := match r with
  | .nx ρ => n ρ
  | r => r
def SR.ofE {α : Type} (r : ER α) (f : α → Rho → SR) : SR := match r with
  | .ok a ρ => f a ρ
  | .exc c fs ρ => .exc c fs ρ
  | .stuck => .stuck
def SR.ofO {α : Type} (r : Option α) (f : α → SR) : SR := match r with
  | some a => f a
  | none => .stuck
def ER.ofO {α β : Type} (r : Option α) (f : α → ER β) : ER β := match r with
  | some a => f a
  | none => .stuck
/-- what stands at a slot -/
def slotO (ρ : Rho) (i : Nat) : Option D := ρ[i]?.join
def blO : D → Option Bool
  | .bl b => some b
  | _ => none
def intO : D → Option Int
  | .int b => some b
  | _ => none
section
variable {α β : Type}
@[simp] theorem ERb_ok (a : α) (ρ : Rho) (f : α → Rho → ER β) : ER.bind (.ok a ρ) f = f a ρ := (rfl)
@[simp] theorem ERb_exc (c : Str) (fs : List (Str × D)) (ρ : Rho) (f : α → Rho → ER β) : ER.bind (.exc c fs ρ) f = .exc c fs ρ := (rfl)
@[simp] theorem ERb_stuck (f : α → Rho → ER β) : ER.bind .stuck f = .stuck := (rfl)
@[simp] theorem ERb_ite (p : Prop) [Decidable p] (x y : ER α) (f : α → Rho → ER β) : ER.bind (if p then x else y) f = if p then ER.bind x f else ER.bind y f := by split <;> rfl
@[simp] theorem ERof_some (a : α) (ρ : Rho) : ER.of (some a) ρ = .ok a ρ := (rfl)
@[simp] theorem ERof_none (ρ : Rho) : ER.of (none : Option α) ρ = .stuck := (rfl)
@[simp] theorem ERof_ite (p : Prop) [Decidable p] (x y : Option α) (ρ : Rho) : ER.of (if p then x else y) ρ = if p then ER.of x ρ else ER.of y ρ := by split <;> rfl
@[simp] theorem ERo_some (a : α) (f : α → ER β) : ER.ofO (some a) f = f a := (rfl)
theorem ERo_some' (a : α) (f : α → ER β) : ER.ofO (some a) f = f a := rfl
@[simp] theorem ERo_none (f : α → ER β) : ER.ofO none f = .stuck := (rfl)
@[simp] theorem ERo_ite (p : Prop) [Decidable p] (x y : Option α) (f : α → ER β) : ER.ofO (if p then x else y) f = if p then ER.ofO x f else ER.ofO y f := by split <;> rfl
@[simp] theorem SRs_nx (ρ : Rho) (n : MS) : SR.seq (.nx ρ) n = n ρ := (rfl)
@[simp] theorem SRs_rt (d : D) (ρ : Rho) (n : MS) : SR.seq (.rt d ρ) n = .rt d ρ := (rfl)
@[simp] theorem SRs_bk (ρ : Rho) (n : MS) : SR.seq (.bk ρ) n = .bk ρ := (rfl)
@[simp] theorem SRs_ct (ρ : Rho) (n : MS) : SR.seq (.ct ρ) n = .ct ρ := (rfl)
@[simp] theorem SRs_exc (c : Str) (fs : List (Str × D)) (ρ : Rho) (n : MS) : SR.seq (.exc c fs ρ) n = .exc c fs ρ := (rfl)
@[simp] theorem SRs_stuck (n : MS) : SR.seq .stuck n = .stuck := (rfl)
@[simp] theorem SRs_ite (p : Prop) [Decidable p] (x y : SR) (n : MS) : SR.seq (if p then x else y) n = if p then SR.seq x n else SR.seq y n := by split <;> rfl
@[simp] theorem SRe_ok (a : α) (ρ : Rho) (f : α → Rho → SR) : SR.ofE (.ok a ρ) f = f a ρ := (rfl)
theorem SRe_ok' (a : α) (ρ : Rho) (f : α → Rho → SR) : SR.ofE (.ok a ρ) f = f a ρ := rfl
@[simp] theorem SRe_exc (c : Str) (fs : List (Str × D)) (ρ : Rho) (f : α → Rho → SR) : SR.ofE (.exc c fs ρ : ER α) f = .exc c fs ρ := (rfl)
@[simp] theorem SRe_stuck (f : α → Rho → SR) : SR.ofE .stuck f = .stuck := (rfl)
@[simp] theorem SRe_ite (p : Prop) [Decidable p] (x y : ER α) (f : α → Rho → SR) : SR.ofE (if p then x else y) f = if p then SR.ofE x f else SR.ofE y f := by split <;> rfl
@[simp] theorem SRo_some (a : α) (f : α → SR) : SR.ofO (some a) f = f a := (rfl)
theorem SRo_some' (a : α) (f : α → SR) : SR.ofO (some a) f = f a := rfl
@[simp] theorem SRo_none (f : α → SR) : SR.ofO none f = .stuck := (rfl)
@[simp] theorem SRo_ite (p : Prop) [Decidable p] (x y : Option α) (f : α → SR) : SR.ofO (if p then x else y) f = if p then SR.ofO x f else SR.ofO y f := by split <;> rfl
end
@[simp] theorem blO_bl (b : Bool) : blO (.bl b) = some b := (rfl)
@[simp] theorem intO_int (b : Int) : intO (.int b) = some b := (rfl)
@[simp] theorem slotO_zero (a : Option D) (ρ : Rho) : slotO (a :: ρ) 0 = a := (rfl)
@[simp] theorem slotO_succ (a : Option D) (ρ : Rho) (i : Nat) : slotO (a :: ρ) (i + 1) = slotO ρ i := (rfl)
theorem slotO_def (ρ : Rho) (i : Nat) : slotO ρ i = ρ[i]?.join := rfl

section
variable (ρ : Rho)
@[simp] theorem mVar_ap (i : Nat) : mVar i ρ = ER.of (slotO ρ i) ρ := by
  unfold mVar slotO
  rcases ρ[i]? with _ | _ | d <;> rfl
@[simp] theorem mMv_ap (i : Nat) : mMv i ρ = ER.ofO (slotO ρ i) fun d => .ok d (ρ.set i none) := by
  unfold mMv slotO
  rcases ρ[i]? with _ | _ | d <;> rfl
@[simp] theorem mC_ap (d : D) : mC d ρ = .ok d ρ := (rfl)
@[simp] theorem mOp1_ap (g : D → Option D) (ma : ME) : mOp1 g ma ρ = (ma ρ).bind fun x ρ1 => ER.of (g x) ρ1 := (rfl)
@[simp] theorem mOp2_ap (g : D → D → Option D) (ma mb : ME) : mOp2 g ma mb ρ = (ma ρ).bind fun x ρ1 => (mb ρ1).bind fun y ρ2 => ER.of (g x y) ρ2 := (rfl)
@[simp] theorem mT_ap (me : ME) : mT me ρ = (me ρ).bind fun d ρ1 => ER.of (blO d) ρ1 := by
  unfold mT
  congr 1
  funext d ρ1
  cases d <;> rfl
@[simp] theorem mNotT_ap (mt : Rho → ER Bool) : mNotT mt ρ = (mt ρ).bind fun b ρ1 => .ok (!b) ρ1 := (rfl)
@[simp] theorem mAndT_ap (mt mu : Rho → ER Bool) : mAndT mt mu ρ = (mt ρ).bind fun b ρ1 => if b = true then mu ρ1 else .ok false ρ1 := (rfl)
@[simp] theorem mOrT_ap (mt mu : Rho → ER Bool) : mOrT mt mu ρ = (mt ρ).bind fun b ρ1 => if b = true then .ok true ρ1 else mu ρ1 := (rfl)
@[simp] theorem mAndV_ap (ma mb : ME) : mAndV ma mb ρ = (ma ρ).bind fun d ρ1 => ER.ofO (blO d) fun b => if b = true then mb ρ1 else .ok (.bl false) ρ1 := by
  unfold mAndV
  congr 1
  funext d ρ1
  cases d with
  | bl b => cases b <;> rfl
  | _ => rfl
@[simp] theorem mOrV_ap (ma mb : ME) : mOrV ma mb ρ = (ma ρ).bind fun d ρ1 => ER.ofO (blO d) fun b => if b = true then .ok (.bl true) ρ1 else mb ρ1 := by
  unfold mOrV
  congr 1
  funext d ρ1
  cases d with
  | bl b => cases b <;> rfl
  | _ => rfl
@[simp] theorem mIfE_ap (mt : Rho → ER Bool) (ma mb : ME) : mIfE mt ma mb ρ = (mt ρ).bind fun b ρ1 => if b = true then ma ρ1 else mb ρ1 := (rfl)
@[simp] theorem mChain_ap (g g' : D → D → Option D) (ma mb mc : ME) : mChain g g' ma mb mc ρ = (ma ρ).bind fun x ρ1 => (mb ρ1).bind fun y ρ2 => ER.ofO ((g x y).bind blO) fun b => if b = true then (mc ρ2).bind fun z ρ3 => ER.of (g' y z) ρ3 else .ok (.bl false) ρ2 := by
  unfold mChain
  congr 1
  funext x ρ1
  congr 1
  funext y ρ2
  rcases g x y with _ | d
  · rfl
  · cases d with
    | bl b => cases b <;> rfl
    | _ => rfl
@[simp] theorem mNil_ap : mNil ρ = .ok [] ρ := (rfl)
@[simp] theorem mCons_ap (ma : ME) (ms : Rho → ER (List D)) : mCons ma ms ρ = (ma ρ).bind fun x ρ1 => (ms ρ1).bind fun xs ρ2 => .ok (x :: xs) ρ2 := (rfl)
@[simp] theorem mSl_ap (ms : Rho → ER (List D)) : mSl ms ρ = (ms ρ).bind fun xs ρ1 => .ok (.non :: xs) ρ1 := (rfl)
@[simp] theorem mSlot_ap (i : Nat) (ms : Rho → ER (List D)) : mSlot i ms ρ = ER.ofO (slotO ρ i) fun _ => (ms ρ).bind fun xs ρ1 => .ok (.non :: xs) ρ1 := by
  unfold mSlot slotO
  rcases ρ[i]? with _ | _ | d <;> rfl
@[simp] theorem mOpN_ap (g : List D → Option D) (ma : Rho → ER (List D)) : mOpN g ma ρ = (ma ρ).bind fun x ρ1 => ER.of (g x) ρ1 := (rfl)
@[simp] theorem mSet_ap (i : Nat) (me : ME) : mSet i me ρ = SR.ofE (me ρ) fun d ρ1 => .nx (ρ1.set i (some d)) := by
  unfold mSet; cases me ρ <;> rfl
@[simp] theorem mDrop_ap (me : ME) : mDrop me ρ = SR.ofE (me ρ) fun _ ρ1 => .nx ρ1 := by
  unfold mDrop; cases me ρ <;> rfl
@[simp] theorem mRet_ap (me : ME) : mRet me ρ = SR.ofE (me ρ) fun d ρ1 => .rt d ρ1 := by
  unfold mRet; cases me ρ <;> rfl
@[simp] theorem mRetN_ap : mRetN ρ = .rt .non ρ := (rfl)
@[simp] theorem mNext_ap : mNext ρ = .nx ρ := (rfl)
@[simp] theorem mBrk_ap : mBrk ρ = .bk ρ := (rfl)
@[simp] theorem mCt_ap : mCt ρ = .ct ρ := (rfl)
@[simp] theorem mSeq_ap (m n : MS) : mSeq m n ρ = SR.seq (m ρ) n := by
  unfold mSeq; cases m ρ <;> rfl
@[simp] theorem mIf_ap (mt : Rho → ER Bool) (m n : MS) : mIf mt m n ρ = SR.ofE (mt ρ) fun b ρ1 => if b = true then m ρ1 else n ρ1 := by
  unfold mIf
  cases mt ρ with
  | ok b ρ1 => cases b <;> rfl
  | exc c fs ρ1 => rfl
  | stuck => rfl
@[simp] theorem bName_ap (i : Nat) (d : D) : bName i d ρ = some (ρ.set i (some d)) := (rfl)
@[simp] theorem bNil_ap : bNil [] ρ = some ρ := (rfl)
@[simp] theorem bCons_ap (b : D → Rho → Option Rho) (bs : List D → Rho → Option Rho) (d : D) (r : List D) : bCons b bs (d :: r) ρ = (b d ρ).bind (bs r) := (rfl)
@[simp] theorem bTup_ap (n : Nat) (bs : List D → Rho → Option Rho) (ds : List D) : bTup n bs (.tup ds) ρ = if ds.length = n then bs ds ρ else none := (rfl)
@[simp] theorem mAsg_ap (b : D → Rho → Option Rho) (me : ME) : mAsg b me ρ = SR.ofE (me ρ) fun d ρ1 => SR.ofO (b d ρ1) fun ρ2 => .nx ρ2 := by
  unfold mAsg
  cases me ρ with
  | ok d ρ1 => dsimp only; unfold SR.ofE; dsimp only; cases b d ρ1 <;> rfl
  | _ => rfl
@[simp] theorem mFor_ap (b : D → Rho → Option Rho) (mi : Rho → ER (List D)) (body : MS) : mFor b mi body ρ = SR.ofE (mi ρ) fun ds ρ1 => mLoop b body ds ρ1 := by
  unfold mFor; cases mi ρ <;> rfl
@[simp] theorem mIt_ap (f : D → Option (List D)) (me : ME) : mIt f me ρ = (me ρ).bind fun d ρ1 => ER.of (f d) ρ1 := (rfl)
@[simp] theorem mItA_ap (f : List D → Option (List D)) (ma : Rho → ER (List D)) : mItA f ma ρ = (ma ρ).bind fun ds ρ1 => ER.of (f ds) ρ1 := (rfl)
@[simp] theorem mHeld_ap (i : Nat) (f : D → Option (List D)) : mHeld i f ρ = ER.ofO (slotO ρ i) fun d => ER.of (f d) ρ := by
  unfold mHeld slotO
  rcases ρ[i]? with _ | _ | d <;> rfl
@[simp] theorem mKeys_ap (md : Rho → Option (List (Key × D))) : mKeys md ρ = ER.ofO (md ρ) fun ds => .ok (ds.map fun p => kvD p.1) ρ := by
  unfold mKeys; cases md ρ <;> rfl
@[simp] theorem mForD_ap (b : D → Rho → Option Rho) (md : Rho → Option (List (Key × D))) (body : MS) : mForD b md body ρ = SR.ofO (md ρ) fun ds => noX (mLoop b body (ds.map fun p => kvD p.1) ρ) := by
  unfold mForD; cases md ρ <;> rfl
def dctO : D → Option (List (Key × D))
  | .dct ds => some ds
  | _ => none
@[simp] theorem dctO_dct (ds : List (Key × D)) : dctO (.dct ds) = some ds := (rfl)
def objO (c : Str) : D → Option (List (Str × D))
  | .obj c' fs => if c' = c then some fs else none
  | _ => none
@[simp] theorem objO_obj (c c' : Str) (fs : List (Str × D)) : objO c (.obj c' fs) = if c' = c then some fs else none := (rfl)
theorem objO_obj' (c c' : Str) (fs : List (Str × D)) : objO c (.obj c' fs) = if c' = c then some fs else none := rfl
@[simp] theorem mdVar_ap (i : Nat) : mdVar i ρ = (slotO ρ i).bind dctO := by
  unfold mdVar slotO
  rcases ρ[i]? with _ | _ | d
  · rfl
  · rfl
  · cases d <;> rfl
@[simp] theorem mdFld_ap (c f : Str) (i : Nat) : mdFld c f i ρ = (slotO ρ i).bind fun d => (objO c d).bind fun fs => (fs.lookup f).bind dctO := by
  unfold mdFld slotO
  rcases ρ[i]? with _ | _ | d
  · rfl
  · rfl
  · cases d with
    | obj c' fs =>
      show (if c' = c then _ else _) = (objO c (.obj c' fs)).bind _
      rw [objO_obj]
      by_cases h : c' = c
      · rw [if_pos h, if_pos h, Option.bind_some]
        rcases fs.lookup f with _ | d
        · rfl
        · cases d <;> rfl
      · rw [if_neg h, if_neg h]; rfl
    | _ => rfl
@[simp] theorem mFld_ap (c f : Str) (mo : ME) : mFld c f mo ρ = (mo ρ).bind fun o ρ1 => ER.of ((objO c o).bind fun fs => fs.lookup f) ρ1 := by
  unfold mFld
  congr 1
  funext o ρ1
  cases o with
  | obj c' fs =>
    dsimp only [objO_obj']
    by_cases h : c' = c
    · simp only [h, if_true]; rfl
    · simp only [h, if_false]; rfl
  | _ => rfl
@[simp] theorem mFldS_ap (c f : Str) (i : Nat) (me : ME) : mFldS c f i me ρ = SR.ofE (me ρ) fun v ρ1 => SR.ofO ((slotO ρ1 i).bind (objO c)) fun fs => if fs.length < 1000 then .nx (ρ1.set i (some (.obj c (putS f v fs)))) else .stuck := by
  unfold mFldS
  cases me ρ with
  | ok v ρ1 =>
    dsimp only [SRe_ok']
    unfold slotO
    rcases ρ1[i]? with _ | _ | d
    · rfl
    · rfl
    · cases d with
      | obj c' fs =>
        dsimp only [Option.join, objO_obj', Option.bind_some]
        by_cases h : c' = c
        · simp [h]
        · simp [h]
      | _ => rfl
  | _ => rfl
@[simp] theorem mLst_ap (ma : Rho → ER (List D)) : mLst ma ρ = (ma ρ).bind fun xs ρ1 => .ok (.lst xs) ρ1 := (rfl)
@[simp] theorem mTup_ap (ma : Rho → ER (List D)) : mTup ma ρ = (ma ρ).bind fun xs ρ1 => .ok (.tup xs) ρ1 := (rfl)
@[simp] theorem mNoPart_ap : mNoPart ρ = .ok none ρ := (rfl)
@[simp] theorem mPart_ap (me : ME) : mPart me ρ = (me ρ).bind fun d ρ1 => ER.ofO (intO d) fun i => .ok (some i) ρ1 := by
  unfold mPart
  congr 1
  funext d ρ1
  cases d <;> rfl
@[simp] theorem mSl3_ap (fl : Fl) (ma : ME) (ml mh : Rho → ER (Option Int)) : mSl3 fl ma ml mh ρ = (ma ρ).bind fun x ρ1 => (ml ρ1).bind fun l ρ2 => (mh ρ2).bind fun h ρ3 => ER.of (gSl fl x l h) ρ3 := (rfl)
@[simp] theorem mJoin_ap (mo me : ME) : mJoin mo me ρ = (mo ρ).bind fun o ρ1 => match o with
  | .str a => (me ρ1).bind fun e ρ2 => ER.of (gJoin (.str a) e) ρ2
  | _ => .stuck := rfl
@[simp] theorem mOM_ap (T : String) (g : D → List D → Option (D × D)) (i : Nat) (ma : Rho → ER (List D)) : mOM T g i ma ρ = ER.ofO (slotO ρ i) fun d0 => if kindT T d0 = true then (ma ρ).bind fun xs ρ1 => ER.ofO ((slotO ρ1 i).bind fun d => g d xs) fun p => .ok p.2 (ρ1.set i (some p.1)) else .stuck := by
  unfold mOM slotO
  rcases ρ[i]? with _ | _ | d
  · rfl
  · rfl
  · dsimp only [Option.join, Option.bind_some, ERo_some', id]
    split
    · congr 1
      funext xs ρ1
      rcases ρ1[i]? with _ | _ | d
      · rfl
      · rfl
      · dsimp only [Option.join, Option.bind_some, id]
        cases g d xs <;> rfl
    · rfl
@[simp] theorem mTM_ap (T : String) (g : D → List D → Option (D × D)) (mo : ME) (ma : Rho → ER (List D)) : mTM T g mo ma ρ = (mo ρ).bind fun d ρ1 => if kindT T d = true then (ma ρ1).bind fun xs ρ2 => ER.ofO (g d xs) fun p => .ok p.2 ρ2 else .stuck := by
  unfold mTM
  congr 1
  funext d ρ1
  split
  · congr 1
    funext xs ρ2
    cases g d xs <;> rfl
  · rfl
@[simp] theorem mPut_ap (i : Nat) (me mx : ME) : mPut i me mx ρ = SR.ofE (me ρ) fun v ρ1 => SR.ofO (slotO ρ1 i) fun _ => SR.ofE (mx ρ1) fun x ρ2 => SR.ofO ((slotO ρ2 i).bind fun o => gPut o x v) fun o' => .nx (ρ2.set i (some o')) := by
  unfold mPut
  cases me ρ with
  | ok v ρ1 =>
    dsimp only [SRe_ok']
    unfold slotO
    rcases ρ1[i]? with _ | _ | d
    · rfl
    · rfl
    · dsimp only [Option.join, Option.bind_some, SRo_some', id]
      cases mx ρ1 with
      | ok x ρ2 =>
        dsimp only [SRe_ok']
        rcases ρ2[i]? with _ | _ | o
        · rfl
        · rfl
        · dsimp only [Option.join, Option.bind_some, SRo_some', id]
          cases gPut o x v <;> rfl
      | _ => rfl
  | _ => rfl
@[simp] theorem mLc_ap (vs : List Nat) (b : D → Rho → Option Rho) (mt : Rho → ER Bool) (me : ME) (mi : Rho → ER (List D)) : mLc vs b mt me mi ρ = (mi ρ).bind fun ds ρ1 => if ds.length ≤ sizeLine then mLcEnd vs ρ1 (mLcL vs b mt me ds [] (wipeR ρ1 vs)) else .stuck := by
  unfold mLc; cases mi ρ <;> rfl
@[simp] theorem mDc_ap (vs : List Nat) (b : D → Rho → Option Rho) (mt : Rho → ER Bool) (mk me : ME) (mi : Rho → ER (List D)) : mDc vs b mt mk me mi ρ = (mi ρ).bind fun ds ρ1 => if ds.length ≤ sizeLine then mDcEnd vs ρ1 (mDcL vs b mt mk me ds [] (wipeR ρ1 vs)) else .stuck := by
  unfold mDc; cases mi ρ <;> rfl
@[simp] theorem mLcEnd_ok (vs : List Nat) (ρ1 : Rho) (acc : List D) (ρe : Rho) : mLcEnd vs ρ1 (.ok acc ρe) = .ok (.lst acc) (backR ρ1 ρe vs) := (rfl)
@[simp] theorem mDcEnd_ok (vs : List Nat) (ρ1 : Rho) (acc : List (Key × D)) (ρe : Rho) : mDcEnd vs ρ1 (.ok acc ρe) = .ok (.dct acc) (backR ρ1 ρe vs) := (rfl)
@[simp] theorem mYes_ap : mYes ρ = .ok true ρ := (rfl)
@[simp] theorem mRaise_ap (c : Str) (names : List Str) (ma : Rho → ER (List D)) : mRaise c names ma ρ = SR.ofE (ma ρ) fun ds ρ1 => if ds.length = names.length then .exc c (names.zip ds).reverse ρ1 else .stuck := by
  unfold mRaise; cases ma ρ <;> rfl
def SR.try (r : SR) (hs : List HdM) : SR := match r with
  | .exc c fs ρ => mHandle hs c fs ρ
  | r => r
@[simp] theorem SRt_nx (hs : List HdM) : SR.try (.nx ρ) hs = .nx ρ := (rfl)
@[simp] theorem SRt_rt (d : D) (hs : List HdM) : SR.try (.rt d ρ) hs = .rt d ρ := (rfl)
@[simp] theorem SRt_bk (hs : List HdM) : SR.try (.bk ρ) hs = .bk ρ := (rfl)
@[simp] theorem SRt_ct (hs : List HdM) : SR.try (.ct ρ) hs = .ct ρ := (rfl)
@[simp] theorem SRt_exc (c : Str) (fs : List (Str × D)) (hs : List HdM) : SR.try (.exc c fs ρ) hs = mHandle hs c fs ρ := (rfl)
@[simp] theorem SRt_stuck (hs : List HdM) : SR.try .stuck hs = .stuck := (rfl)
@[simp] theorem SRt_ite (p : Prop) [Decidable p] (x y : SR) (hs : List HdM) : SR.try (if p then x else y) hs = if p then SR.try x hs else SR.try y hs := by split <;> rfl
@[simp] theorem mTry_ap (mb : MS) (hs : List HdM) : mTry mb hs ρ = SR.try (mb ρ) hs := by
  unfold mTry; cases mb ρ <;> rfl
@[simp] theorem mXf_ap (c : Str) (fs : List (Str × D)) (cs : List Str) (f : Str) : mXf c fs cs f ρ = if cs.contains c = true then ER.of (fs.lookup f) ρ else .stuck := (rfl)
@[simp] theorem mPar_ap (i j : Nat) (ma mb : ME) : mPar i j ma mb ρ = SR.ofE (ma ρ) fun x ρ1 => SR.ofE (mb ρ1) fun y ρ2 => .nx ((ρ2.set i (some x)).set j (some y)) := by
  unfold mPar
  cases ma ρ with
  | ok x ρ1 => dsimp only [SRe_ok']; cases mb ρ1 <;> rfl
  | _ => rfl
def ER.ofF (x : Bool) (r : FR) (f : D → Rho → ER D) (ρx : Rho) : ER D := match r with
  | .ret d outs => f d outs
  | .exc c fs => if x = true then .exc c fs ρx else .stuck
  | .stuck => .stuck
@[simp] theorem EF_ret (x : Bool) (d : D) (outs : Rho) (f : D → Rho → ER D) (ρx : Rho) : ER.ofF x (.ret d outs) f ρx = f d outs := (rfl)
@[simp] theorem EF_exc (x : Bool) (c : Str) (fs : List (Str × D)) (f : D → Rho → ER D) (ρx : Rho) : ER.ofF x (.exc c fs) f ρx = if x = true then .exc c fs ρx else .stuck := (rfl)
@[simp] theorem EF_stuck (x : Bool) (f : D → Rho → ER D) (ρx : Rho) : ER.ofF x .stuck f ρx = .stuck := (rfl)
@[simp] theorem EF_ite (x : Bool) (p : Prop) [Decidable p] (a b : FR) (f : D → Rho → ER D) (ρx : Rho) : ER.ofF x (if p then a else b) f ρx = if p then ER.ofF x a f ρx else ER.ofF x b f ρx := by split <;> rfl
@[simp] theorem mPost_ap (x : Bool) (pm : List PM) (fls : List AF) (m : List D → FR) (ds : List D) : mPost x pm fls m ds ρ = ER.ofO (fill fls ds ρ) fun ds' => ER.ofF x (m ds') (fun d outs => .ok d (back pm fls outs ρ)) (back pm fls [] ρ) := by
  unfold mPost
  cases fill fls ds ρ with
  | none => rfl
  | some ds' => dsimp only [ERo_some']; unfold ER.ofF; cases m ds' <;> rfl
@[simp] theorem mCall_ap (x : Bool) (pm : List PM) (fls : List AF) (m : List D → FR) (ma : Rho → ER (List D)) : mCall x pm fls m ma ρ = (ma ρ).bind fun ds ρ1 => mPost x pm fls m ds ρ1 := (rfl)
@[simp] theorem mMeth_ap (x : Bool) (c m : Str) (pm : List PM) (fls : List AF) (mf : List D → FR) (mo : ME) (ma : Rho → ER (List D)) : mMeth x c m pm fls mf mo ma ρ = (mo ρ).bind fun o ρ1 => ER.ofO (objO c o) fun fs => if fs.lookup m = none then (ma ρ1).bind fun ds ρ2 => mPost x (.fz :: pm) (.fz :: fls) mf (o :: ds) ρ2 else .stuck := by
  unfold mMeth
  congr 1
  funext o ρ1
  cases o with
  | obj c' fs =>
    dsimp only [objO_obj']
    by_cases h : c' = c
    · subst h
      rw [if_pos rfl, ERo_some]
      by_cases h2 : fs.lookup m = none
      · rw [if_pos ⟨rfl, h2⟩, if_pos h2]
      · rw [if_neg (fun z => h2 z.2), if_neg h2]
    · rw [if_neg h, if_neg (fun z => h z.1)]; rfl
  | _ => rfl
def nonO : D → Option Unit
  | .non => some ()
  | _ => none
@[simp] theorem nonO_non : nonO .non = some () := (rfl)
@[simp] theorem mMake_ap (x : Bool) (c : Str) (pm : List PM) (fls : List AF) (mf : List D → FR) (ma : Rho → ER (List D)) : mMake x c pm fls mf ma ρ = (ma ρ).bind fun ds ρ1 => ER.ofO (fill fls ds ρ1) fun ds' => ER.ofF x (mf (.obj c [] :: ds')) (fun d outs => ER.ofO (nonO d) fun _ => ER.ofO (slotO outs 0) fun o => .ok o (back pm fls outs.tail ρ1)) (back pm fls [] ρ1) := by
  unfold mMake
  congr 1
  funext ds ρ1
  unfold mMakeP
  cases fill fls ds ρ1 with
  | none => rfl
  | some ds' =>
    dsimp only [ERo_some']
    unfold ER.ofF
    cases mf (.obj c [] :: ds') with
    | ret d outs =>
      dsimp only
      cases d with
      | non => rcases outs with _ | ⟨_ | o, outs⟩ <;> rfl
      | _ => rfl
    | _ => rfl
end
@[simp] theorem fill_nil (ρ : Rho) : fill [] [] ρ = some [] := (rfl)
@[simp] theorem fill_fz (fs : List AF) (d : D) (ds : List D) (ρ : Rho) : fill (.fz :: fs) (d :: ds) ρ = (fill fs ds ρ).map (d :: ·) := (rfl)
@[simp] theorem fill_tm (fs : List AF) (d : D) (ds : List D) (ρ : Rho) : fill (.tm :: fs) (d :: ds) ρ = (fill fs ds ρ).map (d :: ·) := (rfl)
@[simp] theorem fill_sl (i : Nat) (fs : List AF) (d : D) (ds : List D) (ρ : Rho) : fill (.sl i :: fs) (d :: ds) ρ = (slotO ρ i).bind fun e => (fill fs ds ρ).map (e :: ·) := by
  rw [fill]
  unfold slotO
  rcases ρ[i]? with _ | _ | d <;> rfl
@[simp] theorem back_nil (fs : List AF) (r ρ : Rho) : back [] fs r ρ = ρ := by cases fs <;> rfl
@[simp] theorem back_io (ps : List PM) (i : Nat) (fs : List AF) (r ρ : Rho) : back (.io :: ps) (.sl i :: fs) r ρ = back ps fs r.tail (ρ.set i (r.headD none)) := (rfl)
@[simp] theorem back_mv (ps : List PM) (i : Nat) (fs : List AF) (r ρ : Rho) : back (.mv :: ps) (.sl i :: fs) r ρ = back ps fs r.tail (ρ.set i none) := (rfl)
@[simp] theorem back_fz (p : PM) (ps : List PM) (fs : List AF) (r ρ : Rho) : back (p :: ps) (.fz :: fs) r ρ = back ps fs r.tail ρ := by cases p <;> rfl
@[simp] theorem back_tm (p : PM) (ps : List PM) (fs : List AF) (r ρ : Rho) : back (p :: ps) (.tm :: fs) r ρ = back ps fs r.tail ρ := by cases p <;> rfl
@[simp] theorem wipeR_nil (ρ : Rho) : wipeR ρ [] = ρ := (rfl)
@[simp] theorem wipeR_cons (ρ : Rho) (v : Nat) (vs : List Nat) : wipeR ρ (v :: vs) = (wipeR ρ vs).set v none := (rfl)
@[simp] theorem backR_nil (ρ ρe : Rho) : backR ρ ρe [] = ρe := (rfl)
@[simp] theorem backR_cons (ρ ρe : Rho) (v : Nat) (vs : List Nat) : backR ρ ρe (v :: vs) = (backR ρ ρe vs).set v (slotO ρ v) := (rfl)
@[simp] theorem mHandle_nil (c : Str) (fs : List (Str × D)) (ρ : Rho) : mHandle [] c fs ρ = .exc c fs ρ := (rfl)
@[simp] theorem mHandle_cons (h : HdM) (r : List HdM) (c : Str) (fs : List (Str × D)) (ρ : Rho) : mHandle (h :: r) c fs ρ = SR.ofO (h.tst c) fun b => if b = true then (match h.i with
      | none => noX (h.m c fs ρ)
      | some i => if i < ρ.length then noX (h.m c fs (ρ.set i none)) else .stuck) else mHandle r c fs ρ := by
  rw [mHandle]
  rcases h.tst c with _ | b
  · rfl
  · cases b <;> rfl
@[simp] theorem noX_rt (d : D) (ρ : Rho) : noX (.rt d ρ) = .rt d ρ := (rfl)
@[simp] theorem noX_nx (ρ : Rho) : noX (.nx ρ) = .nx ρ := (rfl)
@[simp] theorem noX_bk (ρ : Rho) : noX (.bk ρ) = .bk ρ := (rfl)
@[simp] theorem noX_ct (ρ : Rho) : noX (.ct ρ) = .ct ρ := (rfl)
@[simp] theorem noX_exc (c : Str) (fs : List (Str × D)) (ρ : Rho) : noX (.exc c fs ρ) = .stuck := (rfl)
@[simp] theorem noX_ite (p : Prop) [Decidable p] (x y : SR) : noX (if p then x else y) = if p then noX x else noX y := by split <;> rfl
/-! a def's end -/
def endF (io : List Nat) (rf : Fl) : SR → FR
  | .nx ρ => if isFz rf && allIn io ρ then .ret .non ρ else .stuck
  | .rt d ρ => if allIn io ρ then .ret d ρ else .stuck
  | .exc c fs _ => .exc c fs
  | _ => .stuck
theorem runF_ap (n : Nat) (io : List Nat) (rf : Fl) (body : MS) (ds : List D) : runF n io rf body ds = endF io rf (body (start0 n ds)) := by
  unfold runF endF
  cases body (start0 n ds) <;> rfl
@[simp] theorem endF_nx (io : List Nat) (ρ : Rho) : endF io .fz (.nx ρ) = if allIn io ρ = true then .ret .non ρ else .stuck := (rfl)
@[simp] theorem endF_rt (io : List Nat) (rf : Fl) (d : D) (ρ : Rho) : endF io rf (.rt d ρ) = if allIn io ρ = true then .ret d ρ else .stuck := (rfl)
@[simp] theorem endF_exc (io : List Nat) (rf : Fl) (c : Str) (fs : List (Str × D)) (ρ : Rho) : endF io rf (.exc c fs ρ) = .exc c fs := (rfl)
@[simp] theorem endF_stuck (io : List Nat) (rf : Fl) : endF io rf .stuck = .stuck := (rfl)
@[simp] theorem endF_ite (io : List Nat) (rf : Fl) (p : Prop) [Decidable p] (x y : SR) : endF io rf (if p then x else y) = if p then endF io rf x else endF io rf y := by split <;> rfl
@[simp] theorem nox_ret (d : D) (o : Rho) : FR.nox (.ret d o) = .ret d o := (rfl)
@[simp] theorem nox_stuck : FR.nox .stuck = .stuck := (rfl)
@[simp] theorem nox_exc (c : Str) (fs : List (Str × D)) : FR.nox (.exc c fs) = .stuck := (rfl)
@[simp] theorem nox_ite (p : Prop) [Decidable p] (x y : FR) : FR.nox (if p then x else y) = if p then FR.nox x else FR.nox y := by split <;> rfl
@[simp] theorem cut_ret (pm : List PM) (d : D) (o : Rho) : FR.cut pm (.ret d o) = .ret d (cutP pm o) := (rfl)
@[simp] theorem cut_stuck (pm : List PM) : FR.cut pm .stuck = .stuck := (rfl)
@[simp] theorem cut_exc (pm : List PM) (c : Str) (fs : List (Str × D)) : FR.cut pm (.exc c fs) = .exc c fs := (rfl)
@[simp] theorem cut_ite (pm : List PM) (p : Prop) [Decidable p] (x y : FR) : FR.cut pm (if p then x else y) = if p then FR.cut pm x else FR.cut pm y := by split <;> rfl
@[simp] theorem cutP_nil (r : Rho) : cutP [] r = [] := (rfl)
@[simp] theorem cutP_ioc (ps : List PM) (r : Rho) : cutP (.io :: ps) r = r.headD none :: cutP ps r.tail := (rfl)
@[simp] theorem cutP_fzc (ps : List PM) (r : Rho) : cutP (.fz :: ps) r = none :: cutP ps r.tail := (rfl)
@[simp] theorem cutP_mvc (ps : List PM) (r : Rho) : cutP (.mv :: ps) r = none :: cutP ps r.tail := (rfl)
@[simp] theorem allIn_nil (ρ : Rho) : allIn [] ρ = true := (rfl)
@[simp] theorem allIn_cons (i : Nat) (io : List Nat) (ρ : Rho) : allIn (i :: io) ρ = ((slotO ρ i).isSome && allIn io ρ) := (rfl)
@[simp] theorem start0_2 (n : Nat) (ds : List D) : start0 n ds = ds.map some ++ List.replicate (n - ds.length) none := (rfl)
/-! loops -/
@[simp] theorem mLoop_nil (b : D → Rho → Option Rho) (body : MS) (ρ : Rho) : mLoop b body [] ρ = .nx ρ := (rfl)
def SR.step (r : SR) (n : MS) : SR := match r with
  | .nx ρ => n ρ
  | .ct ρ => n ρ
  | .bk ρ => .nx ρ
  | r => r
@[simp] theorem SRp_nx (ρ : Rho) (n : MS) : SR.step (.nx ρ) n = n ρ := (rfl)
@[simp] theorem SRp_ct (ρ : Rho) (n : MS) : SR.step (.ct ρ) n = n ρ := (rfl)
@[simp] theorem SRp_bk (ρ : Rho) (n : MS) : SR.step (.bk ρ) n = .nx ρ := (rfl)
@[simp] theorem SRp_rt (d : D) (ρ : Rho) (n : MS) : SR.step (.rt d ρ) n = .rt d ρ := (rfl)
@[simp] theorem SRp_exc (c : Str) (fs : List (Str × D)) (ρ : Rho) (n : MS) : SR.step (.exc c fs ρ) n = .exc c fs ρ := (rfl)
@[simp] theorem SRp_stuck (n : MS) : SR.step .stuck n = .stuck := (rfl)
@[simp] theorem SRp_ite (p : Prop) [Decidable p] (x y : SR) (n : MS) : SR.step (if p then x else y) n = if p then SR.step x n else SR.step y n := by split <;> rfl
theorem mLoop_cons (b : D → Rho → Option Rho) (body : MS) (d : D) (ds : List D) (ρ : Rho) : mLoop b body (d :: ds) ρ = SR.ofO (b d ρ) fun ρ1 => SR.step (body ρ1) (mLoop b body ds) := by
  rw [mLoop]
  cases b d ρ with
  | none => rfl
  | some ρ1 => dsimp only [SRo_some']; unfold SR.step; cases body ρ1 <;> rfl
@[simp] theorem mLcL_nil (vs : List Nat) (b : D → Rho → Option Rho) (mt : Rho → ER Bool) (me : ME) (acc : List D) (ρ : Rho) : mLcL vs b mt me [] acc ρ = .ok acc ρ := (rfl)
def ER.only {α β : Type} (r : ER α) (f : α → Rho → ER β) : ER β := match r with
  | .ok a ρ => f a ρ
  | _ => .stuck
@[simp] theorem ERy_ok {α β : Type} (a : α) (ρ : Rho) (f : α → Rho → ER β) : ER.only (.ok a ρ) f = f a ρ := (rfl)
theorem ERy_ok' {α β : Type} (a : α) (ρ : Rho) (f : α → Rho → ER β) : ER.only (.ok a ρ) f = f a ρ := rfl
@[simp] theorem ERy_stuck {α β : Type} (f : α → Rho → ER β) : ER.only .stuck f = .stuck := (rfl)
@[simp] theorem ERy_exc {α β : Type} (c : Str) (fs : List (Str × D)) (ρ : Rho) (f : α → Rho → ER β) : ER.only (.exc c fs ρ) f = .stuck := (rfl)
@[simp] theorem ERy_ite {α β : Type} (p : Prop) [Decidable p] (x y : ER α) (f : α → Rho → ER β) : ER.only (if p then x else y) f = if p then ER.only x f else ER.only y f := by split <;> rfl
theorem mLcL_cons (vs : List Nat) (b : D → Rho → Option Rho) (mt : Rho → ER Bool) (me : ME) (d : D) (ds : List D) (acc : List D) (ρ : Rho) : mLcL vs b mt me (d :: ds) acc ρ = ER.ofO (b d ρ) fun ρ1 => ER.only (mt ρ1) fun k ρ2 => if k = true then ER.only (me ρ2) fun y ρ3 => mLcL vs b mt me ds (acc ++ [y]) (wipeR ρ3 vs) else mLcL vs b mt me ds acc (wipeR ρ2 vs) := by
  rw [mLcL]
  cases b d ρ with
  | none => rfl
  | some ρ1 =>
    dsimp only [ERo_some']
    unfold ER.only
    cases mt ρ1 with
    | ok k ρ2 => cases k with
      | true => dsimp only [if_true]; cases me ρ2 <;> rfl
      | false => rfl
    | _ => rfl
@[simp] theorem mDcL_nil (vs : List Nat) (b : D → Rho → Option Rho) (mt : Rho → ER Bool) (mk me : ME) (acc : List (Key × D)) (ρ : Rho) : mDcL vs b mt mk me [] acc ρ = .ok acc ρ := (rfl)
theorem mDcL_cons (vs : List Nat) (b : D → Rho → Option Rho) (mt : Rho → ER Bool) (mk me : ME) (d : D) (ds : List D) (acc : List (Key × D)) (ρ : Rho) : mDcL vs b mt mk me (d :: ds) acc ρ = ER.ofO (b d ρ) fun ρ1 => ER.only (mt ρ1) fun k ρ2 => if k = true then ER.only (mk ρ2) fun kd ρ3 => ER.ofO (keyD kd) fun k => ER.only (me ρ3) fun y ρ4 => mDcL vs b mt mk me ds (putD acc k y) (wipeR ρ4 vs) else mDcL vs b mt mk me ds acc (wipeR ρ2 vs) := by
  rw [mDcL]
  cases b d ρ with
  | none => rfl
  | some ρ1 =>
    dsimp only [ERo_some']
    unfold ER.only
    cases mt ρ1 with
    | ok k ρ2 => cases k with
      | true =>
        dsimp only [if_true]
        cases mk ρ2 with
        | ok kd ρ3 =>
          dsimp only
          cases keyD kd with
          | none => rfl
          | some k => dsimp only [ERo_some']; cases me ρ3 <;> rfl
        | _ => rfl
      | false => rfl
    | _ => rfl
end Vm
/-! Vm31: the end of a claim. -/
namespace Vm
open PySem L2

theorem ofString_cps (s : String) : (Str.ofString s).cps.toList = s.toList.map Char.toNat := by
  show (cpsOfBytes 0 0 s.toByteArray.data.toList).toArray.toList = _
  rw [List.toList_toArray, cpsOfBytes_string]
@[simp] theorem ofString_inj (s t : String) : (Str.ofString s = Str.ofString t) = (s = t) := by
  apply propext
  constructor
  · intro h
    have h1 : s.toList.map Char.toNat = t.toList.map Char.toNat := by rw [← ofString_cps, ← ofString_cps, h]
    have h2 : s.toList = t.toList := by
      have inj : ∀ (a b : List Char), a.map Char.toNat = b.map Char.toNat → a = b := by
        intro a
        induction a with
        | nil => intro b h; cases b with | nil => rfl | cons _ _ => simp at h
        | cons x xs ih =>
          intro b h
          cases b with
          | nil => simp at h
          | cons y ys =>
            simp only [List.map_cons, List.cons.injEq] at h
            have : x = y := Char.ext (UInt32.toNat_inj.mp h.1)
            rw [this, ih ys h.2]
      exact inj _ _ h1
    exact String.toList_inj.mp h2
  · intro h; rw [h]
@[simp] theorem ofString_len (s : String) : (Str.ofString s).length = s.length := by
  show (Str.ofString s).cps.size = _
  rw [← Array.length_toList, ofString_cps, List.length_map, String.length_toList]

/-- what is asked of each entry of a table -/
def Each {β : Type} (P : Str → β → Prop) : List (Str × β) → Prop
  | [] => True
  | (c, b) :: r => P c b ∧ Each P r
theorem look_all {β : Type} {P : Str → β → Prop} : ∀ {l : List (Str × β)}, Each P l → ∀ {c : Str} {b : β}, List.lookup c l = some b → P c b
  | [], _, c, b, e => by cases e
  | (d, x) :: r, h, c, b, e => by
    rw [List.lookup] at e
    split at e
    · rename_i hc
      have : c = d := by simpa using hc
      subst this
      cases e
      exact h.1
    · exact look_all h.2 e
def spLaw (K : PySem.W.Frag) : Sp := fun vs H Q _ => ∃ (a : Addr) (ns : List Int), vs = [.ref a] ∧ SqL K H a (ns.map V.int) ∧ ns.length ≤ 63 ∧ ∀ H', Q (.bl true) H'
theorem law_ok {P : Program} {w : World} {K : PySem.W.Frag} {mg : Str → Option Value} {base : Heap} {CX : CXT} {k : Nat} {fa : Addr} {fd : FuncData} {z : Str → Addr} {f : List D → FR}
    (h : ∀ sc : Addr → List Int → Prop, FnOk P w K mg base CX k fa fd ["script"] (SpM ⟨z, K, sc, none⟩ [.fz] .fz f)) (hf : ∀ ns : List Int, ns.length ≤ 63 → ∃ o, f [.scr ns] = .ret (.bl true) o) :
    FnOk P w K mg base CX k fa fd ["script"] (spLaw K) where
  len := fun vs H Q E ⟨a, ns, e, _⟩ => by subst e; rfl
  run := by
    intro A outer s H args us vs Q E hr he hb hv ⟨a, ns, e, hS, hl, q⟩
    subst e
    refine (h (fun b ms => b = a ∧ ms = ns)).run A outer s H args us _ Q E hr he hb hv ?_
    obtain ⟨o, ho⟩ := hf ns hl
    have hF : ∀ b u, (fun b => if b = a then H b else none) b = some u → H b = some u := fun b u e => by
      dsimp only at e
      split at e
      · exact e
      · cases e
    refine ⟨fun b => if b = a then H b else none, [.scr ns], ⟨fun b u e => .inl (hF b u e), fun b ms hb => ?_⟩, .cons (.scr ⟨rfl, rfl⟩) .nil, ?_, ?_⟩
    · obtain ⟨rfl, rfl⟩ := hb
      rcases hS with (h | ⟨ob, h⟩) | h
      · exact .inl (.inl (by dsimp only; rw [if_pos rfl]; exact h))
      · exact .inl (.inr ⟨ob, by dsimp only; rw [if_pos rfl]; exact h⟩)
      · exact .inr h
    · intro i j p q l e1 e2 n1 n2 _ _
      rcases i with _ | i
      · simp at e1; exact absurd e1.symm n1
      · simp at e1
    · rw [ho]
      dsimp only
      intro F' H' v _ _ _ r
      cases r with
      | bl b => exact q H'
theorem walk {l : PySem.W.OpenLaw} {q : Program} {loose : List Str} {XP : (Str → Option Value) → Heap → Prop} {YP : World → Heap → Prop} {d : DefRec} {K : Params → PySem.W.Frag} (k : Nat) (hr : Room k callerA) (hn : l.most = some 63) (hdf : d.params.defaults = [])
    (hY : ∀ (w : World) (h : Heap), YP w h → (K w.params).In h)
    (F : ∀ (w : World) (mg : Str → Option Value) (fa : Addr) (h : Heap), (K w.params).In h → h.Ns mainGlobals mg → mg d.name = some (.ref fa) →
      ∃ fd : FuncData, (∀ (s : Shared) (u : Value), BindsTo s fd ⟨[u], []⟩ [("script", u)]) ∧ ∀ base : Heap, (K w.params).In base → base.Ns mainGlobals mg → FnOk l.prog w (K w.params) mg base CX0 k fa fd ["script"] (spLaw (K w.params))) :
    PySem.W.WalkO q loose XP YP l.row.toRowW d [] (fun f vs => PySem.call f vs) :=
  L2.walk_of (n := 63) (k := k) (x := "script") (CX := fun _ => CX0) (sp := fun w => spLaw (K w.params)) hn (by decide) hdf hr hY F (fun _ _ a ns hl _ hS => ⟨a, ns, rfl, hS, hl, fun _ => rfl⟩) fun _ _ _ _ _ z => z
end Vm
/-! Vm32: plain facts for the laws: texts, lookups, draws. -/
namespace Vm
open PySem L2

@[simp] theorem lookup_nil' {β : Type} (k : Str) : List.lookup k ([] : List (Str × β)) = none := (rfl)
@[simp] theorem lookup_cons' {β : Type} (k a : Str) (b : β) (r : List (Str × β)) : List.lookup k ((a, b) :: r) = if k = a then some b else List.lookup k r := by
  rw [List.lookup]
  by_cases h : k = a
  · subst h; rw [if_pos rfl, beq_self_eq_true]
  · rw [if_neg h, beq_eq_false_iff_ne.mpr h]
@[simp] theorem putS_nil (f : Str) (v : D) : putS f v [] = [(f, v)] := (rfl)
@[simp] theorem putS_cons (f g : Str) (v x : D) (r : List (Str × D)) : putS f v ((g, x) :: r) = if g = f then (g, v) :: r else (g, x) :: putS f v r := (rfl)
@[simp] theorem subT_self (T : String) : subT T T = true := by simp [subT]
@[simp] theorem gIsi_obj (fB : String → Bool) (fO : Str → Option Bool) (c : Str) (fs : List (Str × D)) : gIsi fB fO (.obj c fs) = (fO c).map .bl := (rfl)
@[simp] theorem gIsi_str (fB : String → Bool) (fO : Str → Option Bool) (s : Str) : gIsi fB fO (.str s) = some (.bl (fB "str")) := (rfl)
@[simp] theorem gIsi_int (fB : String → Bool) (fO : Str → Option Bool) (s : Int) : gIsi fB fO (.int s) = some (.bl (fB "int")) := (rfl)
@[simp] theorem gIsi_bl (fB : String → Bool) (fO : Str → Option Bool) (s : Bool) : gIsi fB fO (.bl s) = some (.bl (fB "bool")) := (rfl)
@[simp] theorem gIsi_non (fB : String → Bool) (fO : Str → Option Bool) : gIsi fB fO .non = some (.bl (fB "NoneType")) := (rfl)
@[simp] theorem gIsi_lst (fB : String → Bool) (fO : Str → Option Bool) (s : List D) : gIsi fB fO (.lst s) = some (.bl (fB "list")) := (rfl)
@[simp] theorem gIsi_tup (fB : String → Bool) (fO : Str → Option Bool) (s : List D) : gIsi fB fO (.tup s) = some (.bl (fB "tuple")) := (rfl)
@[simp] theorem gIsi_dct (fB : String → Bool) (fO : Str → Option Bool) (s : List (Key × D)) : gIsi fB fO (.dct s) = some (.bl (fB "dict")) := (rfl)
@[simp] theorem gLen_lst (xs : List D) : gLen [.lst xs] = some (.int xs.length) := (rfl)
@[simp] theorem gLen_tup (xs : List D) : gLen [.tup xs] = some (.int xs.length) := (rfl)
@[simp] theorem gLen_dct (xs : List (Key × D)) : gLen [.dct xs] = some (.int xs.length) := (rfl)
@[simp] theorem gLen_scr (xs : List Int) : gLen [.scr xs] = some (.int xs.length) := (rfl)
@[simp] theorem gLen_str (z : Str) : gLen [.str z] = if z.length ≤ sizeLine then some (.int z.length) else none := (rfl)
@[simp] theorem gSub_ii (i j : Int) : gSub (.int i) (.int j) = some (.int (i - j)) := (rfl)
@[simp] theorem gAdd_ii (i j : Int) : gAdd (.int i) (.int j) = some (.int (i + j)) := (rfl)
@[simp] theorem gAdd_ll (i j : List D) : gAdd (.lst i) (.lst j) = if i.length + j.length ≤ sizeLine then some (.lst (i ++ j)) else none := by
  show gOr (if _ then _ else _) _ = _
  split <;> rfl
@[simp] theorem gAdd_ss (i j : Str) : gAdd (.str i) (.str j) = if i.length + j.length ≤ sizeLine then some (.str (i ++ j)) else none := by
  show gOr (if _ then _ else _) _ = _
  split <;> rfl
@[simp] theorem gCat_ll (i j : List D) : gCat (.lst i) (.lst j) = if i.length + j.length ≤ sizeLine then some (.lst (i ++ j)) else none := (rfl)
@[simp] theorem gMul_ii (i j : Int) : gMul (.int i) (.int j) = if cMul i j = true then some (.int (i * j)) else none := by
  show gOr (if _ then _ else _) _ = _
  split <;> rfl
theorem cMul_r {i j : Int} (h1 : -(2 ^ 64) < j) (h2 : j < 2 ^ 64) : cMul i j = true := by
  unfold cMul
  rw [shut_eq, decide_eq_true h1, decide_eq_true h2]
  simp
theorem cMul_l {i j : Int} (h1 : -(2 ^ 64) < i) (h2 : i < 2 ^ 64) : cMul i j = true := by
  unfold cMul
  rw [shut_eq, decide_eq_true h1, decide_eq_true h2]
  simp
@[simp] theorem gDiv_ii (i j : Int) : gDiv (.int i) (.int j) = if 0 < j ∧ j < 1073741824 then some (.int (i / j)) else none := by
  show (if _ then _ else _) = _
  simp only [Bool.and_eq_true, decide_eq_true_eq]
@[simp] theorem gMod_ii (i j : Int) : gMod (.int i) (.int j) = if 0 < j then some (.int (i % j)) else none := (rfl)
theorem gPow_ii (i j : Int) (h : 0 ≤ j ∧ j ≤ 1000000 ∧ i.natAbs < 2 ^ 64) : gPow (.int i) (.int j) = some (.int (i ^ j.toNat)) := by
  show (if _ then _ else _) = _
  rw [shut_eq, decide_eq_true h.1, decide_eq_true h.2.1, decide_eq_true h.2.2]
  rfl
@[simp] theorem gPow_18 : gPow (.int 10) (.int 18) = some (.int 1000000000000000000) := gPow_ii 10 18 (by decide)
@[simp] theorem gNeg_i (i : Int) : gNeg (.int i) = some (.int (-i)) := (rfl)
@[simp] theorem gLe_ii (i j : Int) : gLe (.int i) (.int j) = some (.bl (decide (i ≤ j))) := (rfl)
@[simp] theorem gGe_ii (i j : Int) : gGe (.int i) (.int j) = some (.bl (decide (j ≤ i))) := (rfl)
@[simp] theorem gGt_ii (i j : Int) : gGt (.int i) (.int j) = some (.bl (decide (j < i))) := (rfl)
@[simp] theorem gLt_ii (i j : Int) : gLt (.int i) (.int j) = some (.bl (decide (i < j))) := (rfl)
@[simp] theorem gInt_i (i : Int) : gInt [.int i] = some (.int i) := (rfl)
@[simp] theorem gInt_b (b : Bool) : gInt [.bl b] = some (.int (if b = true then 1 else 0)) := (rfl)
@[simp] theorem gNot_b (b : Bool) : gNot (.bl b) = some (.bl (!b)) := (rfl)
@[simp] theorem gList_lst (xs : List D) : gList [.lst xs] = some (.lst xs) := (rfl)
@[simp] theorem gList_tup (xs : List D) : gList [.tup xs] = some (.lst xs) := (rfl)
@[simp] theorem gList_dct (xs : List (Key × D)) : gList [.dct xs] = some (.lst (xs.map fun p => kvD p.1)) := (rfl)
@[simp] theorem gTuple_lst (xs : List D) : gTuple [.lst xs] = some (.tup xs) := (rfl)
@[simp] theorem gTuple_tup (xs : List D) : gTuple [.tup xs] = some (.tup xs) := (rfl)
@[simp] theorem gDict_dct (xs : List (Key × D)) : gDict [.dct xs] = some (.dct xs) := (rfl)
@[simp] theorem gDict_lst (xs : List D) : gDict [.lst xs] = (pairsD xs).map fun l => .dct (mergeD [] l) := (rfl)
theorem gIn_lst (d : D) (ds : List D) : gIn d (.lst ds) = if okIn ds d = true then some (.bl (ds.any fun z => deq z d)) else none := by
  unfold gIn inD; dsimp only; split <;> rfl
theorem gIn_tup (d : D) (ds : List D) : gIn d (.tup ds) = if okIn ds d = true then some (.bl (ds.any fun z => deq z d)) else none := by
  unfold gIn inD; dsimp only; split <;> rfl
theorem gNotIn_lst (d : D) (ds : List D) : gNotIn d (.lst ds) = if okIn ds d = true then some (.bl (!ds.any fun z => deq z d)) else none := by
  unfold gNotIn inD; dsimp only; split <;> rfl
theorem gNotIn_tup (d : D) (ds : List D) : gNotIn d (.tup ds) = if okIn ds d = true then some (.bl (!ds.any fun z => deq z d)) else none := by
  unfold gNotIn inD; dsimp only; split <;> rfl
@[simp] theorem gIn_strs (i z : Str) : gIn (.str i) (.str z) = some (.bl (strIn i z)) := (rfl)
@[simp] theorem gIn_sd (i : Str) (ds : List (Key × D)) : gIn (.str i) (.dct ds) = some (.bl (kget ds (.inr i)).isSome) := (rfl)
@[simp] theorem gNotIn_sd (i : Str) (ds : List (Key × D)) : gNotIn (.str i) (.dct ds) = some (.bl (!(kget ds (.inr i)).isSome)) := (rfl)
@[simp] theorem gIn_id (i : Int) (ds : List (Key × D)) : gIn (.int i) (.dct ds) = some (.bl (kget ds (.inl i)).isSome) := (rfl)
@[simp] theorem gNotIn_id (i : Int) (ds : List (Key × D)) : gNotIn (.int i) (.dct ds) = some (.bl (!(kget ds (.inl i)).isSome)) := (rfl)
@[simp] theorem gIsN_n (d : D) : gIsN d .non = some (.bl (isNon d)) := (rfl)
@[simp] theorem gNotN_n (d : D) : gNotN d .non = some (.bl (!isNon d)) := (rfl)
@[simp] theorem gIx_l (ds : List D) (i : Int) : gIx (.lst ds) (.int i) = L2.atI ds i := (rfl)
@[simp] theorem gIx_t (ds : List D) (i : Int) : gIx (.tup ds) (.int i) = L2.atI ds i := (rfl)
@[simp] theorem gIx_ds (ds : List (Key × D)) (s : Str) : gIx (.dct ds) (.str s) = kget ds (.inr s) := (rfl)
@[simp] theorem gIx_di (ds : List (Key × D)) (s : Int) : gIx (.dct ds) (.int s) = kget ds (.inl s) := (rfl)
@[simp] theorem gIx_s (z : Str) (i : Int) : gIx (.str z) (.int i) = if z.length ≤ sizeLine then (L2.atI z.cps.toList i).map fun c => .str ⟨#[c]⟩ else none := (rfl)
theorem atI_n {α : Type} (ds : List α) (k : Nat) : L2.atI ds (k : Int) = ds[k]? := by
  unfold L2.atI L2.ixN
  rw [if_pos (Int.natCast_nonneg k)]
  by_cases h : k < ds.length
  · rw [if_pos (by omega)]; rfl
  · rw [if_neg (by omega)]; exact (List.getElem?_eq_none (by omega)).symm
@[simp] theorem gApp_1 (xs : List D) (x : D) : gApp (.lst xs) [x] = if xs.length < sizeLine then some (.lst (xs ++ [x]), .non) else none := (rfl)
@[simp] theorem kindT_l (xs : List D) : kindT "list" (.lst xs) = true := (rfl)
@[simp] theorem kindT_d (xs : List (Key × D)) : kindT "dict" (.dct xs) = true := (rfl)
@[simp] theorem gPut_l (ds : List D) (k : Int) (v : D) : gPut (.lst ds) (.int k) v = (ixN ds.length k).map fun j => .lst (ds.set j v) := (rfl)
@[simp] theorem gPut_ds (ds : List (Key × D)) (k : Str) (v : D) : gPut (.dct ds) (.str k) v = if ds.length < sizeLine then some (.dct (putD ds (.inr k) v)) else none := by
  show (if _ then _ else _) = _
  split <;> rfl
@[simp] theorem iAny_l (ds : List D) : iAny (.lst ds) = some ds := (rfl)
@[simp] theorem iAny_t (ds : List D) : iAny (.tup ds) = some ds := (rfl)
@[simp] theorem iAny_s (s : Str) : iAny (.str s) = some (s.cps.toList.map fun c => .str ⟨#[c]⟩) := (rfl)
@[simp] theorem iAny_c (ns : List Int) : iAny (.scr ns) = some (ns.map .int) := (rfl)
@[simp] theorem iLst_l (ds : List D) : iLst (.lst ds) = some ds := (rfl)
@[simp] theorem fEnum_l (ds : List D) : fEnum (.lst ds) = some (enumD 0 ds) := (rfl)
@[simp] theorem gEnum_l (ds : List D) : gEnum [.lst ds] = some (enumD 0 ds) := (rfl)
@[simp] theorem gAll_l (xs : List D) : gAll [.lst xs] = (blsOf xs).map fun ns => .bl (ns.all id) := (rfl)
@[simp] theorem gAny_l (xs : List D) : gAny [.lst xs] = (blsOf xs).map fun ns => .bl (ns.any id) := (rfl)
theorem sizeLine_eq : sizeLine = 16777216 := rfl
end Vm
namespace Vm
open PySem L2
/-! loops in general -/
section
variable {b : D → Rho → Option Rho} {body : MS} {α : Type}
def lpStep (b : D → Rho → Option Rho) (body : MS) (d : D) (ρ : Rho) : SR := SR.ofO (b d ρ) body
theorem mLoop_step (d : D) (ds : List D) (ρ : Rho) : mLoop b body (d :: ds) ρ = SR.step (lpStep b body d ρ) (mLoop b body ds) := by
  rw [mLoop_cons]
  unfold lpStep
  cases b d ρ <;> rfl
/-- a loop by an invariant over what is left -/
theorem loop_inv (g : α → D) (I : List α → Rho → Prop) : ∀ {l : List α} {ρ : Rho}, I l ρ → (∀ d r ρ, I (d :: r) ρ → ∃ ρ2, (lpStep b body (g d) ρ = .nx ρ2 ∨ lpStep b body (g d) ρ = .ct ρ2) ∧ I r ρ2) →
    ∃ ρ', mLoop b body (l.map g) ρ = .nx ρ' ∧ I [] ρ'
  | [], ρ, h, _ => ⟨ρ, rfl, h⟩
  | d :: r, ρ, h, st => by
    obtain ⟨ρ2, h2, h3⟩ := st d r ρ h
    rw [List.map_cons, mLoop_step]
    rcases h2 with h2 | h2
    · rw [h2, SRp_nx]; exact loop_inv g I h3 st
    · rw [h2, SRp_ct]; exact loop_inv g I h3 st
/-- a loop that ends at the first item that is bad -/
def Exits : SR → Prop
  | .rt _ _ => True
  | .exc _ _ _ => True
  | _ => False
@[simp] theorem Exits_rt (d : D) (ρ : Rho) : Exits (.rt d ρ) = True := (rfl)
@[simp] theorem Exits_exc (c : Str) (fs : List (Str × D)) (ρ : Rho) : Exits (.exc c fs ρ) = True := (rfl)
theorem Exits.step {r : SR} {n : MS} (h : Exits r) : SR.step r n = r := by
  cases r <;> first | rfl | exact h.elim
theorem Exits.seq {r : SR} {n : MS} (h : Exits r) : SR.seq r n = r := by
  cases r <;> first | rfl | exact h.elim
theorem loop_find (g : α → D) (I : Rho → Prop) (bad : α → Bool) (X : α → SR → Prop) : ∀ {l : List α} {ρ : Rho}, I ρ →
    (∀ d ∈ l, ∀ ρ, I ρ → (bad d = true → X d (lpStep b body (g d) ρ) ∧ Exits (lpStep b body (g d) ρ)) ∧ (bad d = false → ∃ ρ2, (lpStep b body (g d) ρ = .nx ρ2 ∨ lpStep b body (g d) ρ = .ct ρ2) ∧ I ρ2)) →
    (l.find? bad = none ∧ ∃ ρ', mLoop b body (l.map g) ρ = .nx ρ' ∧ I ρ') ∨ ∃ d, l.find? bad = some d ∧ X d (mLoop b body (l.map g) ρ) ∧ Exits (mLoop b body (l.map g) ρ)
  | [], ρ, h, _ => .inl ⟨rfl, ρ, rfl, h⟩
  | d :: r, ρ, h, st => by
    obtain ⟨h2, h3⟩ := st d (List.mem_cons_self ..) ρ h
    rw [List.map_cons, mLoop_step]
    cases hb : bad d with
    | true =>
      obtain ⟨hx, he⟩ := h2 hb
      refine .inr ⟨d, by rw [List.find?_cons, hb], ?_⟩
      rw [he.step]
      exact ⟨hx, he⟩
    | false =>
      obtain ⟨ρ2, e2, i2⟩ := h3 hb
      have e2 : SR.step (lpStep b body (g d) ρ) (mLoop b body (r.map g)) = mLoop b body (r.map g) ρ2 := by
        rcases e2 with e2 | e2 <;> rw [e2] <;> rfl
      rw [e2]
      rcases loop_find g I bad X i2 (fun d' hd => st d' (List.mem_cons_of_mem _ hd)) with ⟨q1, q2⟩ | ⟨d', q1, q2⟩
      · exact .inl ⟨by rw [List.find?_cons, hb]; exact q1, q2⟩
      · exact .inr ⟨d', by rw [List.find?_cons, hb]; exact q1, q2⟩
end
section
variable {vs : List Nat} {b : D → Rho → Option Rho} {mt : Rho → ER Bool} {me mk : ME} {α : Type}
def lcStep (vs : List Nat) (b : D → Rho → Option Rho) (mt : Rho → ER Bool) (me : ME) (d : D) (ρ : Rho) : ER (Option D) :=
  ER.ofO (b d ρ) fun ρ1 => ER.only (mt ρ1) fun k ρ2 => if k = true then ER.only (me ρ2) fun y ρ3 => .ok (some y) (wipeR ρ3 vs) else .ok none (wipeR ρ2 vs)
theorem mLcL_step (d : D) (ds acc : List D) (ρ : Rho) : mLcL vs b mt me (d :: ds) acc ρ = ER.only (lcStep vs b mt me d ρ) fun o ρ' => mLcL vs b mt me ds (acc ++ o.toList) ρ' := by
  rw [mLcL_cons]
  unfold lcStep
  cases b d ρ with
  | none => rfl
  | some ρ1 =>
    dsimp only [ERo_some']
    cases mt ρ1 with
    | ok k ρ2 =>
      cases k with
      | true => dsimp only [ERy_ok']; rw [if_pos rfl, if_pos rfl]; cases me ρ2 <;> rfl
      | false => simp
    | _ => rfl
/-- a comprehension that changes nothing -/
theorem lc_map (g f : α → D) {ρ : Rho} : ∀ {ds : List α} {acc : List D}, (∀ d ∈ ds, lcStep vs b mt me (g d) ρ = .ok (some (f d)) ρ) →
    mLcL vs b mt me (ds.map g) acc ρ = .ok (acc ++ ds.map f) ρ
  | [], acc, _ => by simp
  | d :: r, acc, st => by
    rw [List.map_cons, mLcL_step, st d (List.mem_cons_self ..), ERy_ok, lc_map g f fun d' hd => st d' (List.mem_cons_of_mem _ hd)]
    simp
theorem lc_filter (g : α → D) (p : α → Bool) (f : α → D) {ρ : Rho} : ∀ {ds : List α} {acc : List D}, (∀ d ∈ ds, lcStep vs b mt me (g d) ρ = .ok (if p d = true then some (f d) else none) ρ) →
    mLcL vs b mt me (ds.map g) acc ρ = .ok (acc ++ (ds.filter p).map f) ρ
  | [], acc, _ => by simp
  | d :: r, acc, st => by
    rw [List.map_cons, mLcL_step, st d (List.mem_cons_self ..), ERy_ok, lc_filter g p f fun d' hd => st d' (List.mem_cons_of_mem _ hd)]
    cases hp : p d <;> simp [hp]
/-- a comprehension by an invariant over what is left, what is made -/
theorem lc_inv (g : α → D) (I : List α → List D → Rho → Prop) : ∀ {ds : List α} {acc : List D} {ρ : Rho}, I ds acc ρ →
    (∀ d r acc ρ, I (d :: r) acc ρ → ∃ o ρ', lcStep vs b mt me (g d) ρ = .ok o ρ' ∧ I r (acc ++ o.toList) ρ') →
    ∃ acc' ρ', mLcL vs b mt me (ds.map g) acc ρ = .ok acc' ρ' ∧ I [] acc' ρ'
  | [], acc, ρ, h, _ => ⟨acc, ρ, rfl, h⟩
  | d :: r, acc, ρ, h, st => by
    obtain ⟨o, ρ', h1, h2⟩ := st d r acc ρ h
    rw [List.map_cons, mLcL_step, h1, ERy_ok]
    exact lc_inv g I h2 st
def dcStep (vs : List Nat) (b : D → Rho → Option Rho) (mt : Rho → ER Bool) (mk me : ME) (d : D) (ρ : Rho) : ER (Option (Key × D)) :=
  ER.ofO (b d ρ) fun ρ1 => ER.only (mt ρ1) fun k ρ2 => if k = true then ER.only (mk ρ2) fun kd ρ3 => ER.ofO (keyD kd) fun k => ER.only (me ρ3) fun y ρ4 => .ok (some (k, y)) (wipeR ρ4 vs) else .ok none (wipeR ρ2 vs)
theorem mDcL_step (d : D) (ds : List D) (acc : List (Key × D)) (ρ : Rho) : mDcL vs b mt mk me (d :: ds) acc ρ = ER.only (dcStep vs b mt mk me d ρ) fun o ρ' => mDcL vs b mt mk me ds (match o with | some p => putD acc p.1 p.2 | none => acc) ρ' := by
  rw [mDcL_cons]
  unfold dcStep
  cases b d ρ with
  | none => rfl
  | some ρ1 =>
    dsimp only [ERo_some']
    cases mt ρ1 with
    | ok k ρ2 =>
      cases k with
      | true =>
        dsimp only [ERy_ok']; rw [if_pos rfl, if_pos rfl]
        cases mk ρ2 with
        | ok kd ρ3 =>
          dsimp only [ERy_ok']
          cases keyD kd with
          | none => rfl
          | some k => dsimp only [ERo_some']; cases me ρ3 <;> rfl
        | _ => rfl
      | false => simp
    | _ => rfl
/-- a dict comprehension that changes nothing -/
theorem dc_map (g : α → D) (fk : α → Key) (f : α → D) {ρ : Rho} : ∀ {ds : List α} {acc : List (Key × D)}, (∀ d ∈ ds, dcStep vs b mt mk me (g d) ρ = .ok (some (fk d, f d)) ρ) →
    mDcL vs b mt mk me (ds.map g) acc ρ = .ok (ds.foldl (fun a d => putD a (fk d) (f d)) acc) ρ
  | [], acc, _ => by simp
  | d :: r, acc, st => by
    rw [List.map_cons, mDcL_step, st d (List.mem_cons_self ..), ERy_ok, dc_map g fk f fun d' hd => st d' (List.mem_cons_of_mem _ hd)]
    simp
end
end Vm
namespace Vm
open PySem L2
@[simp] theorem cps_size (s : Str) : s.cps.size = s.length := (rfl)
theorem sl_of {n : Nat} (h : n ≤ 100000) : n ≤ sizeLine := by have : sizeLine = 16777216 := rfl; omega
theorem sl_lt {n : Nat} (h : n ≤ 100000) : n < sizeLine := by have : sizeLine = 16777216 := rfl; omega
def strO : D → Str
  | .str s => s
  | _ => ⟨#[]⟩
@[simp] theorem strO_str (s : Str) : strO (.str s) = s := (rfl)
theorem blsOf_mapf {α : Type} (g : α → Bool) (l : List α) : blsOf (l.map fun x => .bl (g x)) = some (l.map g) := by
  rw [show (l.map fun x => D.bl (g x)) = (l.map g).map .bl from by rw [List.map_map]; rfl, blsOf_map]
theorem enumD_range (f : D) : ∀ (l : List D) (n : Nat), enumD n l = (List.range l.length).map fun k => .tup [.int ((n + k : Nat) : Int), l.getD k f]
  | [], n => rfl
  | d :: r, n => by
    rw [enumD, enumD_range f r (n + 1), List.length_cons, List.range_succ_eq_map, List.map_cons, List.map_map]
    simp only [Nat.add_zero, List.getD_cons_zero]
    congr 1
    apply List.map_congr_left
    intro k hk
    simp only [Function.comp, List.getD_cons_succ]
    congr 4
    omega
theorem rngD_range (n : Nat) : rngD 0 n = (List.range n).map fun k => .int ((k : Nat) : Int) := by
  unfold rngD
  simp
/-- the text at a place -/
def sat (ps : List Str) (k : Nat) : Str := ps.getD k ⟨#[]⟩
theorem enumS (ps : List Str) : enumD 0 (ps.map .str) = (List.range ps.length).map fun k => .tup [.int (k : Int), .str (sat ps k)] := by
  rw [enumD_range (.str ⟨#[]⟩), List.length_map]
  apply List.map_congr_left
  intro k hk
  have hk : k < ps.length := List.mem_range.mp hk
  simp [sat, List.getD_eq_getElem?_getD, List.getElem?_map, List.getElem?_eq_getElem hk]
/-! slices -/
theorem cutD_take (ds : List D) (k : Nat) (h : k ≤ ds.length) : cutD ds none (some (k : Int)) = ds.take k := by
  unfold cutD
  rw [HT.sIx_nat, HT.sIx_none]
  simp [Nat.min_eq_left h]
/-! == of texts -/
@[simp] theorem deq_ss (a b : Str) : deq (.str a) (.str b) = decide (a = b) := by
  unfold deq; first | rfl | simp
@[simp] theorem any_strs (ps : List Str) (s : Str) : ((ps.map D.str).any fun z => deq z (.str s)) = ps.contains s := by
  induction ps with
  | nil => rfl
  | cons p r ih =>
    rw [List.map_cons, List.any_cons, ih, deq_ss, List.contains_cons]
    congr 1
    by_cases h : s = p
    · subst h; simp
    · simp [h, Ne.symm h]
@[simp] theorem gSl_l (fl : Fl) (ds : List D) (lo hi : Option Int) : gSl fl (.lst ds) lo hi = some (.lst (cutD ds lo hi)) := (rfl)
@[simp] theorem gSl_c (fl : Fl) (ds : List Int) (lo hi : Option Int) : gSl fl (.scr ds) lo hi = some (.lst (cutD (ds.map .int) lo hi)) := (rfl)
@[simp] theorem gSl_t (ds : List D) (lo hi : Option Int) : gSl .fz (.tup ds) lo hi = some (.tup (cutD ds lo hi)) := (rfl)
@[simp] theorem gSl_s (z : Str) (lo hi : Option Int) : gSl .fz (.str z) lo hi = if z.length ≤ sizeLine then some (.str (cutS z lo hi)) else none := (rfl)
theorem cutD_takeS (ps : List Str) (k : Nat) (h : k ≤ ps.length) : cutD (ps.map .str) none (some (k : Int)) = (ps.take k).map .str := by
  rw [cutD_take _ _ (by simpa using h), List.map_take]
theorem okEq_ss (a b : Str) (n : Nat) : okEq (.str a) (.str b) n = true := by unfold okEq; rfl
@[simp] theorem okIn_strs (ps : List Str) (s : Str) : okIn (ps.map .str) (.str s) = true := by
  unfold okIn
  rw [Bool.and_eq_true]
  constructor
  · induction ps with
    | nil => rfl
    | cons p r ih => rw [List.map_cons]; show (true && _) = true; rw [ih]; rfl
  · rw [List.all_eq_true]
    intro d hd
    obtain ⟨p, _, rfl⟩ := List.mem_map.mp hd
    exact okEq_ss ..
@[simp] theorem gSorted_strs (ps : List Str) : gSorted [.lst (ps.map .str)] = some (.lst ((sortBy ltS ps).map .str)) := by
  show (sortD _).map _ = _
  unfold sortD
  rw [strsOf_map]; rfl
@[simp] theorem gSort_strs (ps : List Str) : gSort [.lst (ps.map .str)] = some (.lst ((sortBy ltS ps).map .str)) := by
  unfold gSort; rw [gSorted_strs]; rfl
@[simp] theorem gSort_tstrs (ps : List Str) : gSort [.tup (ps.map .str)] = some (.lst ((sortBy ltS ps).map .str)) := by
  unfold gSort
  show gOr ((sortD _).map _) _ = _
  unfold sortD
  rw [strsOf_map]; rfl
theorem atI_strs (ps : List Str) (k : Nat) (h : k < ps.length) : L2.atI (ps.map D.str) (k : Int) = some (.str (sat ps k)) := by
  rw [sat, atI_n, List.getElem?_map, List.getD_eq_getElem?_getD, List.getElem?_eq_getElem h]; rfl
theorem sat_mem (ps : List Str) (k : Nat) (h : k < ps.length) : sat ps k ∈ ps := by
  rw [sat, List.getD_eq_getElem?_getD, List.getElem?_eq_getElem h]; exact List.getElem_mem h
/-! dicts with texts as keys -/
def sd (ts : List (Str × D)) : List (Key × D) := ts.map fun p => (Sum.inr p.1, p.2)
def names (ts : List (Str × D)) : List Str := ts.map (·.1)
/-- what stands at a key -/
def tv (ts : List (Str × D)) (n : Str) : D := (ts.lookup n).getD .non
def puts (ts : List (Str × D)) (k : Str) (v : D) : List (Str × D) := if (ts.any fun p => decide (p.1 = k)) = true then ts.map (fun p => if p.1 = k then (p.1, v) else p) else ts ++ [(k, v)]
@[simp] theorem sd_nil : sd [] = [] := (rfl)
@[simp] theorem sd_cons (p : Str × D) (ts : List (Str × D)) : sd (p :: ts) = (Sum.inr p.1, p.2) :: sd ts := (rfl)
@[simp] theorem sd_append (ts us : List (Str × D)) : sd (ts ++ us) = sd ts ++ sd us := List.map_append
@[simp] theorem sd_length (ts : List (Str × D)) : (sd ts).length = ts.length := List.length_map ..
@[simp] theorem names_length (ts : List (Str × D)) : (names ts).length = ts.length := List.length_map ..
@[simp] theorem kget_sd (ts : List (Str × D)) (k : Str) : kget (sd ts) (.inr k) = ts.lookup k := by
  induction ts with
  | nil => rfl
  | cons p r ih =>
    obtain ⟨a, v⟩ := p
    rw [sd_cons, lookup_cons']
    unfold kget at ih ⊢
    rw [List.find?_cons]
    by_cases h : k = a
    · subst h; simp
    · have : (decide ((Sum.inr a : Key) = Sum.inr k)) = false := by simp [Ne.symm h]
      rw [if_neg h]
      simp only [this]
      exact ih
@[simp] theorem keys_sd (ts : List (Str × D)) : (sd ts).map (fun p => kvD p.1) = (names ts).map .str := by
  simp [sd, names, Function.comp_def, kvD]
theorem keysS_sd (ts : List (Str × D)) : keysS (sd ts) = some (names ts) := by
  induction ts with
  | nil => rfl
  | cons p r ih => rw [sd_cons, keysS, ih]; rfl
theorem gSort_sd (ts : List (Str × D)) (h : ts.length < 64) : gSort [.dct (sd ts)] = some (.lst ((sortBy ltS (names ts)).map .str)) := by
  unfold gSort
  show gOr none (gOr (gSortDS _) _) = _
  have : gSortDS [.dct (sd ts)] = some (.lst ((sortBy ltS (names ts)).map .str)) := by
    unfold gSortDS
    dsimp only
    rw [keysS_sd]
    dsimp only
    rw [if_pos (by simpa using h)]
  rw [this]
  rfl
theorem putD_sd (ts : List (Str × D)) (k : Str) (v : D) : putD (sd ts) (.inr k) v = sd (puts ts k v) := by
  unfold putD puts
  have h1 : ((sd ts).any fun kv => decide (kv.1 = Sum.inr k)) = ts.any fun p => decide (p.1 = k) := by
    simp [sd, List.any_map, Function.comp_def]
  rw [h1]
  by_cases hc : (ts.any fun p => decide (p.1 = k)) = true
  · rw [if_pos hc, if_pos hc]
    simp only [sd, List.map_map, Function.comp_def]
    apply List.map_congr_left
    intro p _
    by_cases h : p.1 = k
    · simp [h]
    · simp [h]
  · rw [if_neg hc, if_neg hc, sd_append]; rfl
theorem puts_new {ts : List (Str × D)} {k : Str} {v : D} (h : k ∉ names ts) : puts ts k v = ts ++ [(k, v)] := by
  unfold puts
  rw [if_neg]
  intro hc
  obtain ⟨p, hp, e⟩ := List.any_eq_true.mp hc
  exact h (List.mem_map.mpr ⟨p, hp, by simpa using e⟩)
theorem foldl_puts (f : Str → D) : ∀ (l : List Str) (acc : List (Str × D)), l.Nodup → (∀ n ∈ l, n ∉ names acc) → l.foldl (fun a n => putD a (.inr n) (f n)) (sd acc) = sd (acc ++ l.map fun n => (n, f n))
  | [], acc, _, _ => by simp
  | n :: r, acc, hn, ha => by
    rw [List.foldl_cons, putD_sd, puts_new (ha n (List.mem_cons_self ..)), foldl_puts f r _ (List.nodup_cons.mp hn).2]
    · simp
    · intro m hm hq
      simp only [names, List.map_append, List.mem_append, List.map_cons, List.map_nil, List.mem_cons, List.mem_nil_iff, or_false] at hq
      rcases hq with q | q
      · exact ha m (List.mem_cons_of_mem _ hm) q
      · subst q; exact (List.nodup_cons.mp hn).1 hm
theorem tv_of_mem {ts : List (Str × D)} {n : Str} (h : n ∈ names ts) : ts.lookup n = some (tv ts n) := by
  unfold tv
  induction ts with
  | nil => cases h
  | cons p r ih =>
    obtain ⟨a, v⟩ := p
    rw [lookup_cons']
    by_cases e : n = a
    · rw [if_pos e]; rfl
    · rw [if_neg e]
      refine ih ?_
      rcases List.mem_cons.mp h with q | q
      · exact absurd q e
      · exact q
theorem sort_mem {l : List Str} {s : Str} : s ∈ sortBy ltS l ↔ s ∈ l := (sort_perm l).mem_iff
@[simp] theorem sort_length (l : List Str) : (sortBy ltS l).length = l.length := (sort_perm l).length_eq
theorem sort_nodup {l : List Str} (h : l.Nodup) : (sortBy ltS l).Nodup := (sort_perm l).nodup_iff.mpr h
theorem sort_contains (l : List Str) (s : Str) : (sortBy ltS l).contains s = l.contains s := by
  rw [Bool.eq_iff_iff, List.contains_iff_mem, List.contains_iff_mem, sort_mem]
theorem sort_of_perm {l m : List Str} (h : l.Perm m) : sortBy ltS l = sortBy ltS m := sort_uniq ord_str (sort_pw ord_str l) ((sort_perm l).trans h)
theorem sort_sort (l : List Str) : sortBy ltS (sortBy ltS l) = sortBy ltS l := sort_of_perm (sort_perm l)
/-! what is no object -/
def nob : D → Bool
  | .obj _ _ => false
  | _ => true
def isStr : D → Bool
  | .str _ => true
  | _ => false
theorem gIsi_s {d : D} (h : nob d = true) : gIsi (subT "str") (fun _ => none) d = some (.bl (isStr d)) := by
  cases d <;> first | rfl | cases h
def isTup : D → Bool
  | .tup _ => true
  | _ => false
theorem gIsi_tu {d : D} (h : nob d = true) : gIsi (subT "tuple") (fun _ => none) d = some (.bl (isTup d)) := by
  cases d <;> first | rfl | cases h
theorem gNe_ii (i j : Int) : gNe (.int i) (.int j) = some (.bl (!decide (i = j))) := by
  unfold gNe
  rw [if_pos (by rfl)]
  simp [deq]
  rfl
theorem gEq_ii (i j : Int) : gEq (.int i) (.int j) = some (.bl (decide (i = j))) := by
  unfold gEq
  rw [if_pos (by rfl)]
  simp [deq]
  rfl
theorem gRng1_n (n : Nat) (h : n ≤ 100000) : gRng1 [.int (n : Int)] = some ((List.range n).map fun k => .int ((k : Nat) : Int)) := by
  have h1 : -(2 ^ 62) ≤ (n : Int) := Int.le_trans (by decide) (Int.natCast_nonneg n)
  have h2 : (n : Int) < 2 ^ 62 := Int.lt_of_le_of_lt (b := 100000) (by omega) (by decide)
  unfold gRng1
  dsimp only
  rw [shut_eq, decide_eq_true (And.intro h1 h2), if_pos rfl, rngD_range]
@[simp] theorem any_strs' (ps : List Str) (s : Str) : (ps.any ((fun z => deq z (D.str s)) ∘ D.str)) = decide (s ∈ ps) := by
  rw [← List.any_map, any_strs]
  simp
end Vm
namespace Vm
open PySem L2
/-! the well from which a law draws -/
def IsW (w : D) : Prop := ∃ a b c : Int, w = .lst [.int a, .int b, .int c]
@[simp] theorem atI_0 {α : Type} (x : α) (xs : List α) : L2.atI (x :: xs) 0 = some x := atI_n (x :: xs) 0
@[simp] theorem atI_1 {α : Type} (x y : α) (xs : List α) : L2.atI (x :: y :: xs) 1 = some y := atI_n (x :: y :: xs) 1
@[simp] theorem atI_2 {α : Type} (x y z : α) (xs : List α) : L2.atI (x :: y :: z :: xs) 2 = some z := atI_n (x :: y :: z :: xs) 2
theorem ixN_nat (n k : Nat) (h : k < n) : L2.ixN n (k : Int) = some k := by
  unfold L2.ixN
  rw [if_pos (Int.natCast_nonneg k), if_pos (by omega)]; rfl
@[simp] theorem ixN_0 (n : Nat) : L2.ixN (n + 1) 0 = some 0 := ixN_nat (n + 1) 0 (by omega)
@[simp] theorem ixN_1 (n : Nat) : L2.ixN (n + 1 + 1) 1 = some 1 := ixN_nat (n + 1 + 1) 1 (by omega)
@[simp] theorem ixN_2 (n : Nat) : L2.ixN (n + 1 + 1 + 1) 2 = some 2 := ixN_nat (n + 1 + 1 + 1) 2 (by omega)
theorem cMul_mod (x y m : Int) (h0 : 0 < m) (h1 : m ≤ 2 ^ 64) : cMul (x % m) y = true :=
  cMul_l (by have := Int.emod_nonneg x (Int.ne_of_gt h0); omega) (by have := Int.emod_lt_of_pos x h0; omega)
end Vm
namespace Vm
open PySem L2
theorem join_one (l : List Nat) : Txt.join "" (l.map fun k => ⟨#[k]⟩) = ⟨l.toArray⟩ := by
  show Builtin.Str.glued (Str.ofString "") _ = _
  rw [StrLaws.glued_eq_join]
  have e : Str.ofString "" = ⟨#[]⟩ := by decide +kernel
  rw [e]
  exact PyProof.Rows.join_ones l
theorem cutS_all (z : Str) (k : Nat) (h : z.length ≤ k) : cutS z none (some (k : Int)) = z := by
  unfold cutS
  rw [HT.sIx_nat, HT.sIx_none, Nat.min_eq_right h]
  apply str_ext
  simp
  apply List.take_of_length_le
  simp
theorem gJoin_one (l : List Nat) (h : l.length ≤ 1000) : gJoin (.str "") (.lst (l.map fun k => .str ⟨#[k]⟩)) = some (.str ⟨l.toArray⟩) := by
  unfold gJoin
  dsimp only
  have e : (l.map fun k => D.str ⟨#[k]⟩) = (l.map fun k => (⟨#[k]⟩ : Str)).map .str := by rw [List.map_map]; rfl
  rw [e, strsOf_map, Option.bind_some, join_one, if_pos]
  have e1 : ((l.map fun k => (⟨#[k]⟩ : Str)).map (·.length)).sum = l.length := by
    rw [List.map_map]
    induction l with
    | nil => rfl
    | cons a r ih => rw [List.map_cons, List.sum_cons, ih (by simp at h; omega) (by rw [List.map_map]; rfl)]; show 1 + r.length = _; rw [List.length_cons]; omega
  have e2 : (Str.ofString "").length = 0 := by decide +kernel
  rw [e1, e2]
  omega
end Vm
namespace Vm
open PySem L2
@[simp] theorem gIn_strl (ps : List Str) (s : Str) : gIn (.str s) (.lst (ps.map .str)) = some (.bl (decide (s ∈ ps))) := by
  rw [gIn_lst, okIn_strs, any_strs]; simp
@[simp] theorem gNotIn_strl (ps : List Str) (s : Str) : gNotIn (.str s) (.lst (ps.map .str)) = some (.bl (!decide (s ∈ ps))) := by
  rw [gNotIn_lst, okIn_strs, any_strs]; simp
@[simp] theorem gIn_strt (ps : List Str) (s : Str) : gIn (.str s) (.tup (ps.map .str)) = some (.bl (decide (s ∈ ps))) := by
  rw [gIn_tup, okIn_strs, any_strs]; simp
@[simp] theorem gNotIn_strt (ps : List Str) (s : Str) : gNotIn (.str s) (.tup (ps.map .str)) = some (.bl (!decide (s ∈ ps))) := by
  rw [gNotIn_tup, okIn_strs, any_strs]; simp
end Vm
namespace Vm
open PySem L2
theorem cutD_dropS (ps : List Str) (k : Nat) (h : k ≤ ps.length) : cutD (ps.map .str) (some (k : Int)) none = (ps.drop k).map .str := by
  unfold cutD
  rw [HT.sIx_nat, HT.sIx_none]
  simp only [List.length_map, Nat.min_eq_left h, ← List.map_drop, ← List.map_take]
  rw [List.take_of_length_le (by simp)]
/-! dicts that grow -/
theorem names_puts (ts : List (Str × D)) (k : Str) (v : D) : names (puts ts k v) = if k ∈ names ts then names ts else names ts ++ [k] := by
  unfold puts
  by_cases hc : (ts.any fun p => decide (p.1 = k)) = true
  · rw [if_pos hc, if_pos]
    · unfold names
      rw [List.map_map]
      apply List.map_congr_left
      intro p _
      dsimp only [Function.comp]
      split <;> rfl
    · obtain ⟨p, hp, e⟩ := List.any_eq_true.mp hc
      exact List.mem_map.mpr ⟨p, hp, by simpa using e⟩
  · rw [if_neg hc, if_neg]
    · simp [names]
    · intro h
      obtain ⟨p, hp, e⟩ := List.mem_map.mp h
      exact hc (List.any_eq_true.mpr ⟨p, hp, by simpa using e⟩)
theorem nodup_puts {ts : List (Str × D)} (h : (names ts).Nodup) (k : Str) (v : D) : (names (puts ts k v)).Nodup := by
  rw [names_puts]
  split
  · exact h
  · rename_i hk
    rw [List.nodup_append]
    refine ⟨h, by simp, fun a ha b hb => ?_⟩
    rw [List.mem_singleton] at hb
    subst hb
    exact fun e => hk (e ▸ ha)
theorem mem_names_puts {ts : List (Str × D)} {k n : Str} {v : D} (h : n ∈ names (puts ts k v)) : n ∈ names ts ∨ n = k := by
  rw [names_puts] at h
  split at h
  · exact .inl h
  · simpa using h
theorem len_puts (ts : List (Str × D)) (k : Str) (v : D) : (puts ts k v).length ≤ ts.length + 1 := by
  rw [← names_length, names_puts]
  split <;> simp
theorem mem_puts {ts : List (Str × D)} {k : Str} {v : D} {p : Str × D} (h : p ∈ puts ts k v) : p ∈ ts ∨ p = (k, v) := by
  unfold puts at h
  split at h
  · obtain ⟨q, hq, e⟩ := List.mem_map.mp h
    split at e
    · rename_i hk; subst e; right; rw [← hk]
    · subst e; exact .inl hq
  · simpa using h
theorem tv_mem {ts : List (Str × D)} {n : Str} (h : n ∈ names ts) : (n, tv ts n) ∈ ts := by
  have e := tv_of_mem h
  generalize tv ts n = v at e
  clear h
  induction ts with
  | nil => cases e
  | cons p r ih =>
    obtain ⟨a, u⟩ := p
    rw [lookup_cons'] at e
    split at e
    · rename_i q; cases e; subst q; exact List.mem_cons_self ..
    · exact List.mem_cons_of_mem _ (ih e)
theorem lookup_of_mem {ts : List (Str × D)} (h : (names ts).Nodup) {n : Str} {v : D} (hm : (n, v) ∈ ts) : ts.lookup n = some v := by
  induction ts with
  | nil => cases hm
  | cons p r ih =>
    obtain ⟨a, u⟩ := p
    rw [lookup_cons']
    have hn : a ∉ names r ∧ (names r).Nodup := List.nodup_cons.mp h
    rcases List.mem_cons.mp hm with e | e
    · cases e; rw [if_pos rfl]
    · rw [if_neg, ih hn.2 e]
      intro q
      subst q
      exact hn.1 (List.mem_map.mpr ⟨_, e, rfl⟩)
/-! comparisons of lists, tuples, dicts of texts -/
theorem deqL_strs : ∀ (a b : List Str), a.length = b.length → deqL (a.map .str) (b.map .str) = decide (a = b)
  | [], [], _ => by simp [deqL]
  | x :: a, y :: b, h => by
    simp only [List.map_cons, deqL]
    rw [deqL_strs a b (by simpa using h), deq_ss]
    by_cases e : x = y <;> simp [e]
theorem okEqL_strs (n : Nat) : ∀ (a b : List Str), okEqL (a.map .str) (b.map .str) n = true
  | [], _ => by simp [okEqL]
  | x :: a, [] => by simp [okEqL]
  | x :: a, y :: b => by simp only [List.map_cons, okEqL]; rw [okEqL_strs n a b, okEq_ss]; rfl
theorem noDL_strs : ∀ a : List Str, noDL (a.map .str) = true
  | [] => rfl
  | x :: a => by simp only [List.map_cons, noDL]; rw [noDL_strs a]; rfl
theorem noDo_lst (a : List Str) : noDo (.lst (a.map .str)) = true := noDL_strs a
theorem noDo_tup (a : List Str) : noDo (.tup (a.map .str)) = true := noDL_strs a
theorem deq_lstS (a b : List Str) : deq (.lst (a.map .str)) (.lst (b.map .str)) = decide (a = b) := by
  unfold deq
  by_cases h : a.length = b.length
  · rw [deqL_strs a b h]; simp [h]
  · have : a ≠ b := fun e => h (by rw [e])
    simp [h, this]
theorem deq_tupS (a b : List Str) : deq (.tup (a.map .str)) (.tup (b.map .str)) = decide (a = b) := by
  unfold deq
  by_cases h : a.length = b.length
  · rw [deqL_strs a b h]; simp [h]
  · have : a ≠ b := fun e => h (by rw [e])
    simp [h, this]
theorem okEq_lstS (a b : List Str) (n : Nat) : okEq (.lst (a.map .str)) (.lst (b.map .str)) (n + 1) = true := by
  unfold okEq; rw [okEqL_strs]; simp
theorem okEq_tupS (a b : List Str) (n : Nat) : okEq (.tup (a.map .str)) (.tup (b.map .str)) (n + 1) = true := by
  unfold okEq; rw [okEqL_strs]; simp
@[simp] theorem gEq_lstS (a b : List Str) : gEq (.lst (a.map .str)) (.lst (b.map .str)) = some (.bl (decide (a = b))) := by
  unfold gEq; rw [okEq_lstS, if_pos rfl, deq_lstS]
@[simp] theorem gEq_tupS (a b : List Str) : gEq (.tup (a.map .str)) (.tup (b.map .str)) = some (.bl (decide (a = b))) := by
  unfold gEq; rw [okEq_tupS, if_pos rfl, deq_tupS]
@[simp] theorem gNe_lstS (a b : List Str) : gNe (.lst (a.map .str)) (.lst (b.map .str)) = some (.bl (!decide (a = b))) := by
  unfold gNe; rw [okEq_lstS, noDo_lst, Bool.and_self, if_pos rfl, deq_lstS]
@[simp] theorem gNe_lst0 (a : List Str) : gNe (.lst (a.map .str)) (.lst []) = some (.bl (!decide (a = []))) := gNe_lstS a []
@[simp] theorem gEq_lst0 (a : List Str) : gEq (.lst (a.map .str)) (.lst []) = some (.bl (decide (a = []))) := gEq_lstS a []
@[simp] theorem gNe_tupS (a b : List Str) : gNe (.tup (a.map .str)) (.tup (b.map .str)) = some (.bl (!decide (a = b))) := by
  unfold gNe; rw [okEq_tupS, noDo_tup, Bool.and_self, if_pos rfl, deq_tupS]
@[simp] theorem gEq_ss (a b : Str) : gEq (.str a) (.str b) = some (.bl (decide (a = b))) := by
  unfold gEq; rw [okEq_ss, if_pos rfl, deq_ss]
@[simp] theorem gNe_ss (a b : Str) : gNe (.str a) (.str b) = some (.bl (!decide (a = b))) := by
  unfold gNe; rw [okEq_ss, deq_ss]; rfl
/-- a dict whose values are tuples of texts -/
def TupV (ts : List (Str × D)) : Prop := ∀ p ∈ ts, ∃ xs : List Str, p.2 = .tup (xs.map .str)
theorem TupV.lookup {ts : List (Str × D)} (h : TupV ts) {n : Str} {v : D} (e : ts.lookup n = some v) : ∃ xs : List Str, v = .tup (xs.map .str) := by
  induction ts with
  | nil => cases e
  | cons p r ih =>
    obtain ⟨a, u⟩ := p
    rw [lookup_cons'] at e
    split at e
    · cases e; exact h _ (List.mem_cons_self ..)
    · exact ih (fun q hq => h q (List.mem_cons_of_mem _ hq)) e
theorem okEqK_sd (n : Nat) {b : List (Str × D)} (hb : TupV b) : ∀ {a : List (Str × D)}, TupV a → okEqK (sd a) (sd b) (n + 1) = true
  | [], _ => by simp [okEqK]
  | (k, d) :: r, ha => by
    rw [sd_cons, okEqK, kget_sd, okEqK_sd n hb (fun q hq => ha q (List.mem_cons_of_mem _ hq)), Bool.and_true]
    cases e : b.lookup k with
    | none => rfl
    | some y =>
      obtain ⟨xs, rfl⟩ := hb.lookup e
      obtain ⟨ys, e2⟩ := ha _ (List.mem_cons_self ..)
      dsimp only at e2 ⊢
      rw [e2, okEq_tupS]
theorem deqK_sd {b : List (Str × D)} : ∀ {a : List (Str × D)}, TupV a → (∀ p ∈ a, b.lookup p.1 = some p.2) → deqK (sd a) (sd b) = true
  | [], _, _ => by simp [deqK]
  | (k, d) :: r, ha, h => by
    rw [sd_cons, deqK, kget_sd, h _ (List.mem_cons_self ..), deqK_sd (fun q hq => ha q (List.mem_cons_of_mem _ hq)) (fun q hq => h q (List.mem_cons_of_mem _ hq)), Bool.and_true]
    obtain ⟨ys, e2⟩ := ha _ (List.mem_cons_self ..)
    dsimp only at e2 ⊢
    rw [e2, deq_tupS]; simp
theorem okEq_sd {a b : List (Str × D)} (ha : TupV a) (hb : TupV b) : okEq (.dct (sd a)) (.dct (sd b)) 64 = true := by
  unfold okEq; rw [okEqK_sd 62 hb ha]; rfl
theorem noDo_sd {a : List (Str × D)} (ha : TupV a) : noDo (.dct (sd a)) = true := by
  show noDK (sd a) = true
  induction a with
  | nil => rfl
  | cons p r ih =>
    obtain ⟨k, d⟩ := p
    obtain ⟨ys, e2⟩ := ha _ (List.mem_cons_self ..)
    dsimp only at e2
    subst e2
    rw [sd_cons, noDK, ih fun q hq => ha q (List.mem_cons_of_mem _ hq), Bool.and_true]
    exact noDL_strs ys
theorem gNe_sd_same {a b : List (Str × D)} (ha : TupV a) (hb : TupV b) (hl : a.length = b.length) (h : ∀ p ∈ a, b.lookup p.1 = some p.2) : gNe (.dct (sd a)) (.dct (sd b)) = some (.bl false) := by
  unfold gNe
  rw [okEq_sd ha hb, noDo_sd ha, Bool.and_self, if_pos rfl]
  unfold deq
  rw [deqK_sd ha h]
  simp [hl]
theorem gEq_sd_same {a b : List (Str × D)} (ha : TupV a) (hb : TupV b) (hl : a.length = b.length) (h : ∀ p ∈ a, b.lookup p.1 = some p.2) : gEq (.dct (sd a)) (.dct (sd b)) = some (.bl true) := by
  unfold gEq
  rw [okEq_sd ha hb, if_pos rfl]
  unfold deq
  rw [deqK_sd ha h]
  simp [hl]
theorem gEq_sd_len {a b : List (Str × D)} (ha : TupV a) (hb : TupV b) (hl : a.length ≠ b.length) : gEq (.dct (sd a)) (.dct (sd b)) = some (.bl false) := by
  unfold gEq
  rw [okEq_sd ha hb, if_pos rfl]
  unfold deq
  simp [hl]
theorem gNe_sd0 {a : List (Str × D)} (ha : TupV a) : gNe (.dct (sd a)) (.dct []) = some (.bl (!a.isEmpty)) := by
  have := okEq_sd (b := []) ha (fun p hp => by cases hp)
  unfold gNe
  rw [show okEq (.dct (sd a)) (.dct []) 64 = true from this, noDo_sd ha, Bool.and_self, if_pos rfl]
  cases a with
  | nil => rfl
  | cons p r => rfl
theorem perm_strs {ps : List Str} {ys : List D} (h : ys.Perm (ps.map .str)) : ∃ qs : List Str, ys = qs.map .str ∧ qs.Perm ps := by
  refine ⟨ys.map strO, ?_, ?_⟩
  · rw [List.map_map]
    conv => lhs; rw [← List.map_id ys]
    apply List.map_congr_left
    intro y hy
    obtain ⟨s, _, rfl⟩ := List.mem_map.mp (h.mem_iff.mp hy)
    rfl
  · have := h.map strO
    rw [List.map_map] at this
    simpa [Function.comp_def] using this
end Vm
namespace Vm
open PySem L2
@[simp] theorem gNe_nil : gNe (.lst []) (.lst []) = some (.bl false) := gNe_lst0 []
end Vm
/-! Vm33: more plain facts: the mirrors of Vm25 and Vm26, loops, while, pairs. -/
namespace Vm
open PySem L2
def ixDct (k : Int) : D → Option (List (Key × D))
  | .lst xs => (L2.atI xs k).bind dctO
  | .tup xs => (L2.atI xs k).bind dctO
  | _ => none
@[simp] theorem ixDct_l (k : Int) (xs : List D) : ixDct k (.lst xs) = (L2.atI xs k).bind dctO := (rfl)
@[simp] theorem ixDct_t (k : Int) (xs : List D) : ixDct k (.tup xs) = (L2.atI xs k).bind dctO := (rfl)
@[simp] theorem mdIx_ap (i : Nat) (k : Int) (ρ : Rho) : mdIx i k ρ = (slotO ρ i).bind (ixDct k) := by
  unfold mdIx slotO
  rcases ρ[i]? with _ | _ | d
  · rfl
  · rfl
  · cases d with
    | lst xs => dsimp only [Option.join, Option.bind_some, id, ixDct]; cases L2.atI xs k with
      | none => rfl
      | some e => cases e <;> rfl
    | tup xs => dsimp only [Option.join, Option.bind_some, id, ixDct]; cases L2.atI xs k with
      | none => rfl
      | some e => cases e <;> rfl
    | _ => rfl
@[simp] theorem mAugS_ap (i : Nat) (gG g : D → D → Option D) (mx me : ME) (ρ : Rho) : mAugS i gG g mx me ρ = SR.ofO (slotO ρ i) fun _ => SR.ofE (mx ρ) fun x ρ1 => SR.ofO (slotO ρ1 i) fun o => SR.ofO (gG o x) fun old =>
    SR.ofE (me ρ1) fun v ρ2 => SR.ofO (g old v) fun z => SR.ofO (slotO ρ2 i) fun o2 => SR.ofO (gPut o2 x z) fun o' => .nx (ρ2.set i (some o')) := by
  unfold mAugS slotO
  rcases ρ[i]? with _ | _ | d
  · rfl
  · rfl
  · dsimp only [Option.join, Option.bind_some, id, SRo_some']
    cases mx ρ with
    | ok x ρ1 =>
      dsimp only [SRe_ok']
      rcases ρ1[i]? with _ | _ | o
      · rfl
      · rfl
      · dsimp only [Option.join, Option.bind_some, id, SRo_some']
        cases gG o x with
        | none => rfl
        | some old =>
          dsimp only [SRo_some']
          cases me ρ1 with
          | ok v ρ2 =>
            dsimp only [SRe_ok']
            cases g old v with
            | none => rfl
            | some z =>
              dsimp only [SRo_some']
              rcases ρ2[i]? with _ | _ | o2
              · rfl
              · rfl
              · dsimp only [Option.join, Option.bind_some, id, SRo_some']
                cases gPut o2 x z <;> rfl
          | _ => rfl
    | _ => rfl
@[simp] theorem gDIx_s (ds : List (Key × D)) (s : Str) : gDIx (.dct ds) (.str s) = kget ds (.inr s) := (rfl)
@[simp] theorem gI_ii (f : Int → Int → Option D) (i j : Int) : gI f (.int i) (.int j) = f i j := (rfl)
@[simp] theorem gListZip_ll (a b : List D) : gListZip [.lst a, .lst b] = some (.lst (zipD a b)) := (rfl)
@[simp] theorem gZipA_ll (a b : List D) : gZipA [.lst a, .lst b] = some (zipD a b) := (rfl)
@[simp] theorem gZipA_tt (a b : List D) : gZipA [.tup a, .tup b] = some (zipD a b) := (rfl)
@[simp] theorem gExt_ll (a b : List D) : gExt (.lst a) [.lst b] = if a.length + b.length ≤ sizeLine then some (.lst (a ++ b), .non) else none := (rfl)
@[simp] theorem gAbs_i (i : Int) : gAbs [.int i] = some (.int (if i < 0 then -i else i)) := (rfl)
@[simp] theorem gMin2_ii (i j : Int) : gMin2 [.int i, .int j] = some (.int (if j < i then j else i)) := (rfl)
@[simp] theorem gNotB_bb (a b : Bool) : gNotB (.bl a) (.bl b) = some (.bl (!decide (a = b))) := (rfl)
@[simp] theorem gIsB_bb (a b : Bool) : gIsB (.bl a) (.bl b) = some (.bl (decide (a = b))) := (rfl)
theorem gNe_bb (a b : Bool) : gNe (.bl a) (.bl b) = some (.bl (!decide (a = b))) := by cases a <;> cases b <;> (unfold gNe; rw [if_pos (by rfl)]; simp [deq] <;> rfl)
theorem gEq_bb (a b : Bool) : gEq (.bl a) (.bl b) = some (.bl (decide (a = b))) := by cases a <;> cases b <;> (unfold gEq; rw [if_pos (by rfl)]; simp [deq] <;> rfl)
theorem gRng2_n (a b : Nat) (h : a ≤ 100000) (h2 : b ≤ 100000) : gRng2 [.int (a : Int), .int (b : Int)] = some ((List.range (b - a)).map fun k => .int ((a + k : Nat) : Int)) := by
  have h1 : -(2 ^ 62) ≤ (a : Int) := Int.le_trans (by decide) (Int.natCast_nonneg a)
  have h3 : (a : Int) < 2 ^ 62 := Int.lt_of_le_of_lt (b := 100000) (by omega) (by decide)
  have h4 : -(2 ^ 62) ≤ (b : Int) := Int.le_trans (by decide) (Int.natCast_nonneg b)
  have h5 : (b : Int) < 2 ^ 62 := Int.lt_of_le_of_lt (b := 100000) (by omega) (by decide)
  unfold gRng2
  dsimp only
  rw [shut_eq, decide_eq_true (And.intro (And.intro h1 h3) (And.intro h4 h5)), if_pos rfl]
  unfold rngD
  have e : ((b : Int) - (a : Int)).toNat = b - a := by omega
  rw [e]
  congr 1
section
variable {b : D → Rho → Option Rho} {body : MS} {α : Type}
/-- a loop that keeps I, each item known -/
theorem loop_all (g : α → D) (I : Rho → Prop) : ∀ {l : List α} {ρ : Rho}, I ρ → (∀ d ∈ l, ∀ ρ, I ρ → ∃ ρ2, (lpStep b body (g d) ρ = .nx ρ2 ∨ lpStep b body (g d) ρ = .ct ρ2) ∧ I ρ2) →
    ∃ ρ', mLoop b body (l.map g) ρ = .nx ρ' ∧ I ρ'
  | [], ρ, h, _ => ⟨ρ, rfl, h⟩
  | d :: r, ρ, h, st => by
    obtain ⟨ρ2, h2, h3⟩ := st d (List.mem_cons_self ..) ρ h
    rw [List.map_cons, mLoop_step]
    rcases h2 with h2 | h2
    · rw [h2, SRp_nx]; exact loop_all g I h3 fun e he => st e (List.mem_cons_of_mem _ he)
    · rw [h2, SRp_ct]; exact loop_all g I h3 fun e he => st e (List.mem_cons_of_mem _ he)
/-- a loop by what is done -/
theorem loop_pre (g : α → D) (I : List α → Rho → Prop) {l : List α} {ρ : Rho} (h : I [] ρ) (st : ∀ p d r ρ, l = p ++ d :: r → I p ρ → ∃ ρ2, (lpStep b body (g d) ρ = .nx ρ2 ∨ lpStep b body (g d) ρ = .ct ρ2) ∧ I (p ++ [d]) ρ2) :
    ∃ ρ', mLoop b body (l.map g) ρ = .nx ρ' ∧ I l ρ' := by
  obtain ⟨ρ', h1, p, h2, h3⟩ := loop_inv (b := b) (body := body) g (fun r ρ => ∃ p, l = p ++ r ∧ I p ρ) (l := l) (ρ := ρ) ⟨[], rfl, h⟩ (by
    rintro d r ρ ⟨p, e, hi⟩
    obtain ⟨ρ2, h2, h3⟩ := st p d r ρ e hi
    exact ⟨ρ2, h2, p ++ [d], by rw [e]; simp, h3⟩)
  rw [List.append_nil] at h2
  subst h2
  exact ⟨ρ', h1, h3⟩
end
theorem while_inv {mt : Rho → ER Bool} {body : MS} (I : Nat → Rho → Prop) (Fin : Rho → Prop) (st : ∀ k ρ, I k ρ → (∃ ρ1, mt ρ = .ok false ρ1 ∧ Fin ρ1) ∨ ∃ ρ1 ρ2 k', mt ρ = .ok true ρ1 ∧ body ρ1 = .nx ρ2 ∧ k' < k ∧ I k' ρ2) :
    ∀ (n k : Nat) (ρ : Rho), k < n → I k ρ → ∃ ρ', mWhile mt body n ρ = .nx ρ' ∧ Fin ρ'
  | 0, k, ρ, h, _ => absurd h (Nat.not_lt_zero _)
  | n + 1, k, ρ, h, hi => by
    rcases st k ρ hi with ⟨ρ1, e, f⟩ | ⟨ρ1, ρ2, k', e1, e2, hk, hi'⟩
    · exact ⟨ρ1, by rw [mWhile, e], f⟩
    · obtain ⟨ρ', q1, q2⟩ := while_inv I Fin st n k' ρ2 (by omega) hi'
      refine ⟨ρ', ?_, q2⟩
      rw [mWhile, e1]
      dsimp only
      rw [e2]
      exact q1
theorem foldl_puts0 (f : Str → D) (l : List Str) (h : l.Nodup) : l.foldl (fun a n => putD a (.inr n) (f n)) [] = sd (l.map fun n => (n, f n)) := by
  have := foldl_puts f l [] h (fun n _ h => by cases h)
  simpa using this
theorem names_map (l : List Str) (f : Str → D) : names (l.map fun n => (n, f n)) = l := by
  simp [names, Function.comp_def]
theorem lookup_map {l : List Str} (f : Str → D) {n : Str} (h : n ∈ l) : (l.map fun n => (n, f n)).lookup n = some (f n) := by
  induction l with
  | nil => cases h
  | cons a r ih =>
    rw [List.map_cons, lookup_cons']
    by_cases e : n = a
    · subst e; rw [if_pos rfl]
    · rw [if_neg e]
      rcases List.mem_cons.mp h with q | q
      · exact absurd q e
      · exact ih q
theorem tv_map {l : List Str} (f : Str → D) {n : Str} (h : n ∈ l) : tv (l.map fun n => (n, f n)) n = f n := by
  unfold tv; rw [lookup_map f h]; rfl
theorem perm_erase {α : Type} : ∀ (l : List α) (k : Nat) (h : k < l.length), (l[k] :: l.eraseIdx k).Perm l
  | a :: r, 0, _ => List.Perm.refl _
  | a :: r, k + 1, h => by
    have h' : k < r.length := by simpa using h
    have := perm_erase r k h'
    simp only [List.getElem_cons_succ, List.eraseIdx_cons_succ]
    exact (List.Perm.swap a _ _).trans (List.Perm.cons a this)
theorem gPopAt_n (rest : List D) (k : Nat) (h : k < rest.length) (h2 : rest.length ≤ 1000) : gPopAt (.lst rest) [.int (k : Int)] = some (.lst (rest.eraseIdx k), rest[k]) := by
  unfold gPopAt
  dsimp only
  have e1 : decide (-(2 ^ 63) ≤ (k : Int)) = true := decide_eq_true (Int.le_trans (by decide) (Int.natCast_nonneg k))
  have e2 : decide ((k : Int) < 2 ^ 63) = true := decide_eq_true (Int.lt_of_lt_of_le (b := 1000) (by omega) (by decide))
  rw [e1, e2]
  have e3 : seqIndex? (k : Int) rest.length = some k := by
    have := (L2.ixN_seq (ixN_nat rest.length k h)).1
    exact this
  rw [e3, shut_eq]
  simp [h]
/-- pairs of texts -/
def pr (p : Str × Str) : D := .tup [.str p.1, .str p.2]
/-- the smaller end first -/
def s2 (p : Str × Str) : Str × Str := ((sortBy ltS [p.1, p.2]).getD 0 p.1, (sortBy ltS [p.1, p.2]).getD 1 p.2)
theorem sort2_cases (a b : Str) : sortBy ltS [a, b] = [a, b] ∨ sortBy ltS [a, b] = [b, a] := by
  have h := sort_perm (lt := ltS) [a, b]
  generalize sortBy ltS [a, b] = l at h
  have hl := h.length_eq
  match l, hl with
  | [x, y], _ =>
    have hx : x = a ∨ x = b := by simpa using h.mem_iff.mp (List.mem_cons_self ..)
    rcases hx with e | e
    · subst e
      have := (List.perm_cons x).mp h
      rw [List.perm_singleton] at this
      rw [this]; exact .inl rfl
    · subst e
      have := (List.perm_cons x).mp (h.trans (List.Perm.swap x a []))
      rw [List.perm_singleton] at this
      rw [this]; exact .inr rfl
theorem s2_eq (p : Str × Str) : sortBy ltS [p.1, p.2] = [(s2 p).1, (s2 p).2] := by
  unfold s2
  rcases sort2_cases p.1 p.2 with e | e <;> rw [e] <;> rfl
theorem s2_or (p : Str × Str) : s2 p = p ∨ s2 p = (p.2, p.1) := by
  unfold s2
  rcases sort2_cases p.1 p.2 with e | e <;> rw [e]
  · exact .inl rfl
  · exact .inr rfl
theorem s2_swap (a b : Str) : s2 (b, a) = s2 (a, b) := by
  have h : sortBy ltS [b, a] = sortBy ltS [a, b] := sort_of_perm (List.Perm.swap a b [])
  have h1 := s2_eq (a, b)
  have h2 := s2_eq (b, a)
  dsimp only at h1 h2
  rw [h, h1] at h2
  have e1 := List.head_eq_of_cons_eq h2
  have e2 := List.head_eq_of_cons_eq (List.tail_eq_of_cons_eq h2)
  exact (Prod.ext e1 e2).symm
theorem s2_s2 (p : Str × Str) : s2 (s2 p) = s2 p := by
  rcases s2_or p with e | e
  · rw [e, e]
  · rw [e, s2_swap p.1 p.2]
    exact e
theorem gSort_pr (p : Str × Str) : gSort [pr p] = some (.lst [.str (s2 p).1, .str (s2 p).2]) := by
  have := gSort_tstrs [p.1, p.2]
  rw [s2_eq] at this
  exact this
end Vm
namespace K42
open PySem L2 Vm
noncomputable section
def top (i : Nat) : Stmt := PySem.Challenge.pw_freerealm_k42_even_turnings_and_arrows_o.main.body.getD i (.Pass ⟨0, 0, 0, 0⟩)
abbrev s_is_name : Stmt := top 12
abbrev s_need_places : Stmt := top 15
abbrev s_is_pair : Stmt := top 16
abbrev s_Web___init__ : Stmt := inClass (top 17) 0
abbrev s_Web___eq__ : Stmt := inClass (top 17) 4
abbrev s_Arrows___init__ : Stmt := inClass (top 19) 0
abbrev s_Arrows_places : Stmt := inClass (top 19) 1
abbrev s_Arrows_arrows : Stmt := inClass (top 19) 2
abbrev s_under_web : Stmt := top 20
abbrev s_is_turning : Stmt := top 22
abbrev s_go_round : Stmt := top 24
abbrev s_even_turning : Stmt := top 23
abbrev s_arrows_of : Stmt := top 25
abbrev s__law_hand : Stmt := top 27
abbrev s__law_draw : Stmt := top 28
abbrev s__law_some : Stmt := top 29
abbrev s__law_mixed : Stmt := top 30
abbrev s__law_is : Stmt := top 31
abbrev s__law_name : Stmt := top 32
abbrev s__law_names : Stmt := top 33
abbrev s__law_web : Stmt := top 34
abbrev s__law_web_of : Stmt := top 35
abbrev s__law_is_turning : Stmt := top 36
abbrev s__law_is_even : Stmt := top 37
abbrev s__law_net_right : Stmt := top 38
abbrev s__law_of_ways : Stmt := top 39
abbrev s__law_plain : Stmt := top 40
abbrev s_law : Stmt := top 41
abbrev s_BadPlaces___init__ : Stmt := inClass (top 5) 0
abbrev s_BadTies___init__ : Stmt := inClass (top 6) 0
abbrev s_TooMany___init__ : Stmt := inClass (top 4) 0
abbrev s_BadArrows___init__ : Stmt := inClass (top 7) 0
theorem sc_is_name : FnScope ["thing", "letter"] ["thing"] (defScope s_is_name) := ⟨rfl, rfl, rfl, by decide +kernel, rfl, by decide +kernel, by decide +kernel⟩
theorem sc_need_places : FnScope ["places", "index", "name"] ["places"] (defScope s_need_places) := ⟨rfl, rfl, rfl, by decide +kernel, rfl, by decide +kernel, by decide +kernel⟩
theorem sc_is_pair : FnScope ["known", "thing", "place"] ["known", "thing"] (defScope s_is_pair) := ⟨rfl, rfl, rfl, by decide +kernel, rfl, by decide +kernel, by decide +kernel⟩
theorem sc_Web___init__ : FnScope ["self", "places", "ties", "name"] ["self", "places", "ties"] (defScope s_Web___init__) := ⟨rfl, rfl, rfl, by decide +kernel, rfl, by decide +kernel, by decide +kernel⟩
theorem sc_Web___eq__ : FnScope ["self", "other"] ["self", "other"] (defScope s_Web___eq__) := ⟨rfl, rfl, rfl, by decide +kernel, rfl, by decide +kernel, by decide +kernel⟩
theorem sc_Arrows___init__ : FnScope ["self", "places", "arrows", "name"] ["self", "places", "arrows"] (defScope s_Arrows___init__) := ⟨rfl, rfl, rfl, by decide +kernel, rfl, by decide +kernel, by decide +kernel⟩
theorem sc_Arrows_places : FnScope ["self"] ["self"] (defScope s_Arrows_places) := ⟨rfl, rfl, rfl, by decide +kernel, rfl, by decide +kernel, by decide +kernel⟩
theorem sc_Arrows_arrows : FnScope ["self"] ["self"] (defScope s_Arrows_arrows) := ⟨rfl, rfl, rfl, by decide +kernel, rfl, by decide +kernel, by decide +kernel⟩
theorem sc_under_web : FnScope ["arrows"] ["arrows"] (defScope s_under_web) := ⟨rfl, rfl, rfl, by decide +kernel, rfl, by decide +kernel, by decide +kernel⟩
theorem sc_is_turning : FnScope ["web", "thing", "tie", "one", "other"] ["web", "thing"] (defScope s_is_turning) := ⟨rfl, rfl, rfl, by decide +kernel, rfl, by decide +kernel, by decide +kernel⟩
theorem sc_go_round : FnScope ["web", "start", "found", "here", "some", "one", "other", "there", "tie"] ["web", "start", "found"] (defScope s_go_round) := ⟨rfl, rfl, rfl, by decide +kernel, rfl, by decide +kernel, by decide +kernel⟩
theorem sc_even_turning : FnScope ["web", "found", "degree", "tie", "odd", "start", "place"] ["web"] (defScope s_even_turning) := ⟨rfl, rfl, rfl, by decide +kernel, rfl, by decide +kernel, by decide +kernel⟩
theorem sc_arrows_of : FnScope ["web", "turning", "some", "tie"] ["web", "turning"] (defScope s_arrows_of) := ⟨rfl, rfl, rfl, by decide +kernel, rfl, by decide +kernel, by decide +kernel⟩
theorem sc__law_hand : FnScope ["script", "cells", "cell"] ["script"] (defScope s__law_hand) := ⟨rfl, rfl, rfl, by decide +kernel, rfl, by decide +kernel, by decide +kernel⟩
theorem sc__law_draw : FnScope ["hand", "many", "number", "cell", "digit"] ["hand", "many"] (defScope s__law_draw) := ⟨rfl, rfl, rfl, by decide +kernel, rfl, by decide +kernel, by decide +kernel⟩
theorem sc__law_some : FnScope ["hand", "things"] ["hand", "things"] (defScope s__law_some) := ⟨rfl, rfl, rfl, by decide +kernel, rfl, by decide +kernel, by decide +kernel⟩
theorem sc__law_mixed : FnScope ["hand", "things", "rest", "found"] ["hand", "things"] (defScope s__law_mixed) := ⟨rfl, rfl, rfl, by decide +kernel, rfl, by decide +kernel, by decide +kernel⟩
theorem sc__law_is : FnScope ["said", "due", "one", "other"] ["said", "due"] (defScope s__law_is) := ⟨rfl, rfl, rfl, by decide +kernel, rfl, by decide +kernel, by decide +kernel⟩
theorem sc__law_name : FnScope ["hand", "taken", "base", "letters", "turn", "one", "name", "other", "at"] ["hand", "taken", "base"] (defScope s__law_name) := ⟨rfl, rfl, rfl, by decide +kernel, rfl, by decide +kernel, by decide +kernel⟩
theorem sc__law_names : FnScope ["hand", "many", "found", "turn"] ["hand", "many"] (defScope s__law_names) := ⟨rfl, rfl, rfl, by decide +kernel, rfl, by decide +kernel, by decide +kernel⟩
theorem sc__law_web : FnScope ["hand", "most", "ties", "points", "pairs", "at", "turn"] ["hand", "most", "ties"] (defScope s__law_web) := ⟨rfl, rfl, rfl, by decide +kernel, rfl, by decide +kernel, by decide +kernel⟩
theorem sc__law_web_of : FnScope ["net"] ["net"] (defScope s__law_web_of) := ⟨rfl, rfl, rfl, by decide +kernel, rfl, by decide +kernel, by decide +kernel⟩
theorem sc__law_is_turning : FnScope ["net", "thing", "name", "one"] ["net", "thing"] (defScope s__law_is_turning) := ⟨rfl, rfl, rfl, by decide +kernel, rfl, by decide +kernel, by decide +kernel⟩
theorem sc__law_is_even : FnScope ["net", "turning", "point", "less", "more", "name"] ["net", "turning"] (defScope s__law_is_even) := ⟨rfl, rfl, rfl, by decide +kernel, rfl, by decide +kernel, by decide +kernel⟩
theorem sc__law_net_right : FnScope ["net", "web", "turning", "lines", "plain", "name", "told"] ["net"] (defScope s__law_net_right) := ⟨rfl, rfl, rfl, by decide +kernel, rfl, by decide +kernel, by decide +kernel⟩
theorem sc__law_of_ways : FnScope ["hand", "points", "most", "pairs", "order"] ["hand", "points", "most"] (defScope s__law_of_ways) := ⟨rfl, rfl, rfl, by decide +kernel, rfl, by decide +kernel, by decide +kernel⟩
theorem sc__law_plain : FnScope ["hand", "size", "points", "kind", "pairs", "at"] ["hand", "size"] (defScope s__law_plain) := ⟨rfl, rfl, rfl, by decide +kernel, rfl, by decide +kernel, by decide +kernel⟩
theorem sc_law : FnScope ["script", "hand", "turn"] ["script"] (defScope s_law) := ⟨rfl, rfl, rfl, by decide +kernel, rfl, by decide +kernel, by decide +kernel⟩
theorem sc_BadPlaces___init__ : FnScope ["self", "index"] ["self", "index"] (defScope s_BadPlaces___init__) := ⟨rfl, rfl, rfl, by decide +kernel, rfl, by decide +kernel, by decide +kernel⟩
theorem sc_BadTies___init__ : FnScope ["self", "name"] ["self", "name"] (defScope s_BadTies___init__) := ⟨rfl, rfl, rfl, by decide +kernel, rfl, by decide +kernel, by decide +kernel⟩
theorem sc_TooMany___init__ : FnScope ["self", "limit"] ["self", "limit"] (defScope s_TooMany___init__) := ⟨rfl, rfl, rfl, by decide +kernel, rfl, by decide +kernel, by decide +kernel⟩
theorem sc_BadArrows___init__ : FnScope ["self", "name"] ["self", "name"] (defScope s_BadArrows___init__) := ⟨rfl, rfl, rfl, by decide +kernel, rfl, by decide +kernel, by decide +kernel⟩
theorem bo_str : bootBuiltins "str" = some (.type "str") := by decide +kernel
theorem bo_len : bootBuiltins "len" = some (.builtin "len") := by decide +kernel
theorem bo_all : bootBuiltins "all" = some (.builtin "all") := by decide +kernel
theorem bo_tuple : bootBuiltins "tuple" = some (.type "tuple") := by decide +kernel
theorem bo_sorted : bootBuiltins "sorted" = some (.builtin "sorted") := by decide +kernel
theorem bo_list : bootBuiltins "list" = some (.type "list") := by decide +kernel
theorem bo_dict : bootBuiltins "dict" = some (.type "dict") := by decide +kernel
theorem bo_abs : bootBuiltins "abs" = some (.builtin "abs") := by decide +kernel
theorem bo_int : bootBuiltins "int" = some (.type "int") := by decide +kernel
theorem bo_bool : bootBuiltins "bool" = some (.type "bool") := by decide +kernel
theorem bo_min : bootBuiltins "min" = some (.builtin "min") := by decide +kernel
abbrev iol_Web : List (Str × Bool) := [("Web", true)]
def io_Web : Str → Option Bool := fun c => List.lookup c iol_Web
abbrev is_Web : D → Option D := gIsi (fun _ => false) io_Web
structure Tx (K : PySem.W.Frag) (mg : Str → Option Value) (z : Str → Addr) where
  n_isinstance : mg "isinstance" = none
  n_str : mg "str" = none
  n_len : mg "len" = none
  n_all : mg "all" = none
  n_enumerate : mg "enumerate" = none
  n_tuple : mg "tuple" = none
  n_sorted : mg "sorted" = none
  n_list : mg "list" = none
  n_dict : mg "dict" = none
  n_abs : mg "abs" = none
  n_int : mg "int" = none
  n_zip : mg "zip" = none
  n_bool : mg "bool" = none
  n_range : mg "range" = none
  n_min : mg "min" = none
  t_MOST_LETTERS : Tok
  c_MOST_LETTERS : mg "MOST_LETTERS" = some (.int 8 t_MOST_LETTERS)
  t_LETTERS : Tok
  c_LETTERS : mg "LETTERS" = some (.str "abcdefghijklmnopqrstuvwxyz" t_LETTERS)
  t_MOST_PLACES : Tok
  c_MOST_PLACES : mg "MOST_PLACES" = some (.int 16 t_MOST_PLACES)
  t_MOST_THINGS : Tok
  c_MOST_THINGS : mg "MOST_THINGS" = some (.int 24 t_MOST_THINGS)
  f_is_name : Addr
  fd_is_name : FuncData
  F_is_name : Fun K "is_name" "is_name" s_is_name f_is_name fd_is_name
  m_is_name : mg "is_name" = some (.ref f_is_name)
  k_is_name : PySem.W.keepIn K (.ref f_is_name) = true
  b_is_name : Binds K fd_is_name ["thing"] []
  f_need_places : Addr
  fd_need_places : FuncData
  F_need_places : Fun K "need_places" "need_places" s_need_places f_need_places fd_need_places
  m_need_places : mg "need_places" = some (.ref f_need_places)
  k_need_places : PySem.W.keepIn K (.ref f_need_places) = true
  b_need_places : Binds K fd_need_places ["places"] []
  f_is_pair : Addr
  fd_is_pair : FuncData
  F_is_pair : Fun K "is_pair" "is_pair" s_is_pair f_is_pair fd_is_pair
  m_is_pair : mg "is_pair" = some (.ref f_is_pair)
  k_is_pair : PySem.W.keepIn K (.ref f_is_pair) = true
  b_is_pair : Binds K fd_is_pair ["known", "thing"] []
  f_Web___init__ : Addr
  fd_Web___init__ : FuncData
  F_Web___init__ : Fun K "__init__" "Web.__init__" s_Web___init__ f_Web___init__ fd_Web___init__
  k_Web___init__ : PySem.W.keepIn K (.ref f_Web___init__) = true
  b_Web___init__ : Binds K fd_Web___init__ ["self", "places", "ties"] []
  f_Web___eq__ : Addr
  fd_Web___eq__ : FuncData
  F_Web___eq__ : Fun K "__eq__" "Web.__eq__" s_Web___eq__ f_Web___eq__ fd_Web___eq__
  k_Web___eq__ : PySem.W.keepIn K (.ref f_Web___eq__) = true
  b_Web___eq__ : Binds K fd_Web___eq__ ["self", "other"] []
  f_Arrows___init__ : Addr
  fd_Arrows___init__ : FuncData
  F_Arrows___init__ : Fun K "__init__" "Arrows.__init__" s_Arrows___init__ f_Arrows___init__ fd_Arrows___init__
  k_Arrows___init__ : PySem.W.keepIn K (.ref f_Arrows___init__) = true
  b_Arrows___init__ : Binds K fd_Arrows___init__ ["self", "places", "arrows"] []
  f_Arrows_places : Addr
  fd_Arrows_places : FuncData
  F_Arrows_places : Fun K "places" "Arrows.places" s_Arrows_places f_Arrows_places fd_Arrows_places
  k_Arrows_places : PySem.W.keepIn K (.ref f_Arrows_places) = true
  b_Arrows_places : Binds K fd_Arrows_places ["self"] []
  f_Arrows_arrows : Addr
  fd_Arrows_arrows : FuncData
  F_Arrows_arrows : Fun K "arrows" "Arrows.arrows" s_Arrows_arrows f_Arrows_arrows fd_Arrows_arrows
  k_Arrows_arrows : PySem.W.keepIn K (.ref f_Arrows_arrows) = true
  b_Arrows_arrows : Binds K fd_Arrows_arrows ["self"] []
  f_under_web : Addr
  fd_under_web : FuncData
  F_under_web : Fun K "under_web" "under_web" s_under_web f_under_web fd_under_web
  m_under_web : mg "under_web" = some (.ref f_under_web)
  k_under_web : PySem.W.keepIn K (.ref f_under_web) = true
  b_under_web : Binds K fd_under_web ["arrows"] []
  f_is_turning : Addr
  fd_is_turning : FuncData
  F_is_turning : Fun K "is_turning" "is_turning" s_is_turning f_is_turning fd_is_turning
  m_is_turning : mg "is_turning" = some (.ref f_is_turning)
  k_is_turning : PySem.W.keepIn K (.ref f_is_turning) = true
  b_is_turning : Binds K fd_is_turning ["web", "thing"] []
  f_go_round : Addr
  fd_go_round : FuncData
  F_go_round : Fun K "go_round" "go_round" s_go_round f_go_round fd_go_round
  m_go_round : mg "go_round" = some (.ref f_go_round)
  k_go_round : PySem.W.keepIn K (.ref f_go_round) = true
  b_go_round : Binds K fd_go_round ["web", "start", "found"] []
  f_even_turning : Addr
  fd_even_turning : FuncData
  F_even_turning : Fun K "even_turning" "even_turning" s_even_turning f_even_turning fd_even_turning
  m_even_turning : mg "even_turning" = some (.ref f_even_turning)
  k_even_turning : PySem.W.keepIn K (.ref f_even_turning) = true
  b_even_turning : Binds K fd_even_turning ["web"] []
  f_arrows_of : Addr
  fd_arrows_of : FuncData
  F_arrows_of : Fun K "arrows_of" "arrows_of" s_arrows_of f_arrows_of fd_arrows_of
  m_arrows_of : mg "arrows_of" = some (.ref f_arrows_of)
  k_arrows_of : PySem.W.keepIn K (.ref f_arrows_of) = true
  b_arrows_of : Binds K fd_arrows_of ["web", "turning"] []
  f__law_hand : Addr
  fd__law_hand : FuncData
  F__law_hand : Fun K "_law_hand" "_law_hand" s__law_hand f__law_hand fd__law_hand
  m__law_hand : mg "_law_hand" = some (.ref f__law_hand)
  k__law_hand : PySem.W.keepIn K (.ref f__law_hand) = true
  b__law_hand : Binds K fd__law_hand ["script"] []
  f__law_draw : Addr
  fd__law_draw : FuncData
  F__law_draw : Fun K "_law_draw" "_law_draw" s__law_draw f__law_draw fd__law_draw
  m__law_draw : mg "_law_draw" = some (.ref f__law_draw)
  k__law_draw : PySem.W.keepIn K (.ref f__law_draw) = true
  b__law_draw : Binds K fd__law_draw ["hand", "many"] []
  f__law_some : Addr
  fd__law_some : FuncData
  F__law_some : Fun K "_law_some" "_law_some" s__law_some f__law_some fd__law_some
  m__law_some : mg "_law_some" = some (.ref f__law_some)
  k__law_some : PySem.W.keepIn K (.ref f__law_some) = true
  b__law_some : Binds K fd__law_some ["hand", "things"] []
  f__law_mixed : Addr
  fd__law_mixed : FuncData
  F__law_mixed : Fun K "_law_mixed" "_law_mixed" s__law_mixed f__law_mixed fd__law_mixed
  m__law_mixed : mg "_law_mixed" = some (.ref f__law_mixed)
  k__law_mixed : PySem.W.keepIn K (.ref f__law_mixed) = true
  b__law_mixed : Binds K fd__law_mixed ["hand", "things"] []
  f__law_is : Addr
  fd__law_is : FuncData
  F__law_is : Fun K "_law_is" "_law_is" s__law_is f__law_is fd__law_is
  m__law_is : mg "_law_is" = some (.ref f__law_is)
  k__law_is : PySem.W.keepIn K (.ref f__law_is) = true
  b__law_is : Binds K fd__law_is ["said", "due"] []
  f__law_name : Addr
  fd__law_name : FuncData
  F__law_name : Fun K "_law_name" "_law_name" s__law_name f__law_name fd__law_name
  m__law_name : mg "_law_name" = some (.ref f__law_name)
  k__law_name : PySem.W.keepIn K (.ref f__law_name) = true
  b__law_name : Binds K fd__law_name ["hand", "taken", "base"] []
  f__law_names : Addr
  fd__law_names : FuncData
  F__law_names : Fun K "_law_names" "_law_names" s__law_names f__law_names fd__law_names
  m__law_names : mg "_law_names" = some (.ref f__law_names)
  k__law_names : PySem.W.keepIn K (.ref f__law_names) = true
  b__law_names : Binds K fd__law_names ["hand", "many"] []
  f__law_web : Addr
  fd__law_web : FuncData
  F__law_web : Fun K "_law_web" "_law_web" s__law_web f__law_web fd__law_web
  m__law_web : mg "_law_web" = some (.ref f__law_web)
  k__law_web : PySem.W.keepIn K (.ref f__law_web) = true
  b__law_web : Binds K fd__law_web ["hand", "most", "ties"] []
  f__law_web_of : Addr
  fd__law_web_of : FuncData
  F__law_web_of : Fun K "_law_web_of" "_law_web_of" s__law_web_of f__law_web_of fd__law_web_of
  m__law_web_of : mg "_law_web_of" = some (.ref f__law_web_of)
  k__law_web_of : PySem.W.keepIn K (.ref f__law_web_of) = true
  b__law_web_of : Binds K fd__law_web_of ["net"] []
  f__law_is_turning : Addr
  fd__law_is_turning : FuncData
  F__law_is_turning : Fun K "_law_is_turning" "_law_is_turning" s__law_is_turning f__law_is_turning fd__law_is_turning
  m__law_is_turning : mg "_law_is_turning" = some (.ref f__law_is_turning)
  k__law_is_turning : PySem.W.keepIn K (.ref f__law_is_turning) = true
  b__law_is_turning : Binds K fd__law_is_turning ["net", "thing"] []
  f__law_is_even : Addr
  fd__law_is_even : FuncData
  F__law_is_even : Fun K "_law_is_even" "_law_is_even" s__law_is_even f__law_is_even fd__law_is_even
  m__law_is_even : mg "_law_is_even" = some (.ref f__law_is_even)
  k__law_is_even : PySem.W.keepIn K (.ref f__law_is_even) = true
  b__law_is_even : Binds K fd__law_is_even ["net", "turning"] []
  f__law_net_right : Addr
  fd__law_net_right : FuncData
  F__law_net_right : Fun K "_law_net_right" "_law_net_right" s__law_net_right f__law_net_right fd__law_net_right
  m__law_net_right : mg "_law_net_right" = some (.ref f__law_net_right)
  k__law_net_right : PySem.W.keepIn K (.ref f__law_net_right) = true
  b__law_net_right : Binds K fd__law_net_right ["net"] []
  f__law_of_ways : Addr
  fd__law_of_ways : FuncData
  F__law_of_ways : Fun K "_law_of_ways" "_law_of_ways" s__law_of_ways f__law_of_ways fd__law_of_ways
  m__law_of_ways : mg "_law_of_ways" = some (.ref f__law_of_ways)
  k__law_of_ways : PySem.W.keepIn K (.ref f__law_of_ways) = true
  b__law_of_ways : Binds K fd__law_of_ways ["hand", "points", "most"] []
  f__law_plain : Addr
  fd__law_plain : FuncData
  F__law_plain : Fun K "_law_plain" "_law_plain" s__law_plain f__law_plain fd__law_plain
  m__law_plain : mg "_law_plain" = some (.ref f__law_plain)
  k__law_plain : PySem.W.keepIn K (.ref f__law_plain) = true
  b__law_plain : Binds K fd__law_plain ["hand", "size"] []
  f_law : Addr
  fd_law : FuncData
  F_law : Fun K "law" "law" s_law f_law fd_law
  m_law : mg "law" = some (.ref f_law)
  k_law : PySem.W.keepIn K (.ref f_law) = true
  b_law : Binds K fd_law ["script"] []
  f_BadPlaces___init__ : Addr
  fd_BadPlaces___init__ : FuncData
  F_BadPlaces___init__ : Fun K "__init__" "BadPlaces.__init__" s_BadPlaces___init__ f_BadPlaces___init__ fd_BadPlaces___init__
  k_BadPlaces___init__ : PySem.W.keepIn K (.ref f_BadPlaces___init__) = true
  b_BadPlaces___init__ : Binds K fd_BadPlaces___init__ ["self", "index"] []
  f_BadTies___init__ : Addr
  fd_BadTies___init__ : FuncData
  F_BadTies___init__ : Fun K "__init__" "BadTies.__init__" s_BadTies___init__ f_BadTies___init__ fd_BadTies___init__
  k_BadTies___init__ : PySem.W.keepIn K (.ref f_BadTies___init__) = true
  b_BadTies___init__ : Binds K fd_BadTies___init__ ["self", "name"] []
  f_TooMany___init__ : Addr
  fd_TooMany___init__ : FuncData
  F_TooMany___init__ : Fun K "__init__" "TooMany.__init__" s_TooMany___init__ f_TooMany___init__ fd_TooMany___init__
  k_TooMany___init__ : PySem.W.keepIn K (.ref f_TooMany___init__) = true
  b_TooMany___init__ : Binds K fd_TooMany___init__ ["self", "limit"] []
  f_BadArrows___init__ : Addr
  fd_BadArrows___init__ : FuncData
  F_BadArrows___init__ : Fun K "__init__" "BadArrows.__init__" s_BadArrows___init__ f_BadArrows___init__ fd_BadArrows___init__
  k_BadArrows___init__ : PySem.W.keepIn K (.ref f_BadArrows___init__) = true
  b_BadArrows___init__ : Binds K fd_BadArrows___init__ ["self", "name"] []
  mc_Web : mg "Web" = some (.ref (z "Web"))
  cl_Web : Cls K (z "Web")
  mc_Arrows : mg "Arrows" = some (.ref (z "Arrows"))
  cl_Arrows : Cls K (z "Arrows")
  mk_Web : Mk K (z "Web") f_Web___init__
  mk_Arrows : Mk K (z "Arrows") f_Arrows___init__
  nf_Web_known : NoAttr K (z "Web") "known"
  nf_Web_ending : NoAttr K (z "Web") "ending"
  nf_Arrows_known : NoAttr K (z "Arrows") "known"
  nf_Arrows_leading : NoAttr K (z "Arrows") "leading"
  me_Arrows_arrows : Meth K (z "Arrows") "arrows" f_Arrows_arrows
  me_Arrows_places : Meth K (z "Arrows") "places" f_Arrows_places
  me_Web___eq__ : Meth K (z "Web") "__eq__" f_Web___eq__
  mc_BadPlaces : mg "BadPlaces" = some (.ref (z "BadPlaces"))
  ox_BadPlaces : OexC K (z "BadPlaces")
  xi_BadPlaces : PySem.W.findIn K (.ref (z "BadPlaces")) "__init__" = some (some (.ref f_BadPlaces___init__))
  xt_BadPlaces : PySem.W.typeIn K (.ref f_BadPlaces___init__) = some (.type "function")
  xn_BadPlaces_index : PySem.W.findIn K (.ref (z "BadPlaces")) "index" = some none
  mc_BadTies : mg "BadTies" = some (.ref (z "BadTies"))
  ox_BadTies : OexC K (z "BadTies")
  xi_BadTies : PySem.W.findIn K (.ref (z "BadTies")) "__init__" = some (some (.ref f_BadTies___init__))
  xt_BadTies : PySem.W.typeIn K (.ref f_BadTies___init__) = some (.type "function")
  xn_BadTies_name : PySem.W.findIn K (.ref (z "BadTies")) "name" = some none
  mc_TooMany : mg "TooMany" = some (.ref (z "TooMany"))
  ox_TooMany : OexC K (z "TooMany")
  xi_TooMany : PySem.W.findIn K (.ref (z "TooMany")) "__init__" = some (some (.ref f_TooMany___init__))
  xt_TooMany : PySem.W.typeIn K (.ref f_TooMany___init__) = some (.type "function")
  xn_TooMany_limit : PySem.W.findIn K (.ref (z "TooMany")) "limit" = some none
  mc_BadArrows : mg "BadArrows" = some (.ref (z "BadArrows"))
  ox_BadArrows : OexC K (z "BadArrows")
  xi_BadArrows : PySem.W.findIn K (.ref (z "BadArrows")) "__init__" = some (some (.ref f_BadArrows___init__))
  xt_BadArrows : PySem.W.typeIn K (.ref f_BadArrows___init__) = some (.type "function")
  xn_BadArrows_name : PySem.W.findIn K (.ref (z "BadArrows")) "name" = some none
  is_Web_B : ∀ t ∈ tyNames, PySem.W.kitOne K (.type t) (.ref (z "Web")) = some false
  is_Web_O : ∀ n b, io_Web n = some b → InsF K (z n) ∧ PySem.W.kitOne K (.ref (z n)) (.ref (z "Web")) = some b
  bt_law : ∀ (s : Shared) (v : Value), BindsTo s fd_law ⟨[v], []⟩ [("script", v)]
abbrev Zz (K : PySem.W.Frag) (z : Str → Addr) (sc : Addr → List Int → Prop) : Par := ⟨z, K, sc, none⟩
variable {P : Program} {w : World} {K : PySem.W.Frag} {mg : Str → Option Value} {base : Heap} {z : Str → Addr} {sc : Addr → List Int → Prop}
theorem F_x_BadPlaces (T : Tx K mg z) : FnOk P w K mg base CX0 1 T.f_BadPlaces___init__ T.fd_BadPlaces___init__ ["self", "index"] (SpX (Zz K z sc) "BadPlaces" ["index"]) := by
  refine T.F_BadPlaces___init__.ok sc_BadPlaces___init__ (fun vs H Q E h => ?_) (fun cdv A outer s H vs Q E hr h => ?_)
  · obtain ⟨a, xs, rfl, hl, _⟩ := h
    simpa using hl
  · obtain ⟨a, xs, rfl, hl, he, k⟩ := h
    obtain ⟨x, rfl⟩ := List.length_eq_one_iff.mp hl
    refine ⟨_, pss_one (ps_ost (pv 0) (pv 1)), ?_⟩
    exact ⟨_, rfl, _, rfl, a, _, rfl, T.ox_BadPlaces, T.xn_BadPlaces_index, .inl ⟨he, fun dx hd hne => k dx _ hd hne upd_same (by rw [upd_ne hne, upd_same]; rfl) fun b h1 h2 => by rw [upd_ne h1, upd_ne h2]⟩⟩
theorem F_x_BadTies (T : Tx K mg z) : FnOk P w K mg base CX0 1 T.f_BadTies___init__ T.fd_BadTies___init__ ["self", "name"] (SpX (Zz K z sc) "BadTies" ["name"]) := by
  refine T.F_BadTies___init__.ok sc_BadTies___init__ (fun vs H Q E h => ?_) (fun cdv A outer s H vs Q E hr h => ?_)
  · obtain ⟨a, xs, rfl, hl, _⟩ := h
    simpa using hl
  · obtain ⟨a, xs, rfl, hl, he, k⟩ := h
    obtain ⟨x, rfl⟩ := List.length_eq_one_iff.mp hl
    refine ⟨_, pss_one (ps_ost (pv 0) (pv 1)), ?_⟩
    exact ⟨_, rfl, _, rfl, a, _, rfl, T.ox_BadTies, T.xn_BadTies_name, .inl ⟨he, fun dx hd hne => k dx _ hd hne upd_same (by rw [upd_ne hne, upd_same]; rfl) fun b h1 h2 => by rw [upd_ne h1, upd_ne h2]⟩⟩
theorem F_x_TooMany (T : Tx K mg z) : FnOk P w K mg base CX0 1 T.f_TooMany___init__ T.fd_TooMany___init__ ["self", "limit"] (SpX (Zz K z sc) "TooMany" ["limit"]) := by
  refine T.F_TooMany___init__.ok sc_TooMany___init__ (fun vs H Q E h => ?_) (fun cdv A outer s H vs Q E hr h => ?_)
  · obtain ⟨a, xs, rfl, hl, _⟩ := h
    simpa using hl
  · obtain ⟨a, xs, rfl, hl, he, k⟩ := h
    obtain ⟨x, rfl⟩ := List.length_eq_one_iff.mp hl
    refine ⟨_, pss_one (ps_ost (pv 0) (pv 1)), ?_⟩
    exact ⟨_, rfl, _, rfl, a, _, rfl, T.ox_TooMany, T.xn_TooMany_limit, .inl ⟨he, fun dx hd hne => k dx _ hd hne upd_same (by rw [upd_ne hne, upd_same]; rfl) fun b h1 h2 => by rw [upd_ne h1, upd_ne h2]⟩⟩
theorem F_x_BadArrows (T : Tx K mg z) : FnOk P w K mg base CX0 1 T.f_BadArrows___init__ T.fd_BadArrows___init__ ["self", "name"] (SpX (Zz K z sc) "BadArrows" ["name"]) := by
  refine T.F_BadArrows___init__.ok sc_BadArrows___init__ (fun vs H Q E h => ?_) (fun cdv A outer s H vs Q E hr h => ?_)
  · obtain ⟨a, xs, rfl, hl, _⟩ := h
    simpa using hl
  · obtain ⟨a, xs, rfl, hl, he, k⟩ := h
    obtain ⟨x, rfl⟩ := List.length_eq_one_iff.mp hl
    refine ⟨_, pss_one (ps_ost (pv 0) (pv 1)), ?_⟩
    exact ⟨_, rfl, _, rfl, a, _, rfl, T.ox_BadArrows, T.xn_BadArrows_name, .inl ⟨he, fun dx hd hne => k dx _ hd hne upd_same (by rw [upd_ne hne, upd_same]; rfl) fun b h1 h2 => by rw [upd_ne h1, upd_ne h2]⟩⟩
def C_is_name_1 : ME := mOp2 gIn (mVar 1) (mC (.str "abcdefghijklmnopqrstuvwxyz"))
def m_is_name : MS := mSeq (mIf (mOrT (mNotT (mT (mOp1 (gIsi (subT "str") fun _ => none) (mVar 0)))) (mNotT (mT (mChain gLe gLe (mC (.int 1)) (mOpN gLen (mCons (mVar 0) (mNil))) (mC (.int 8)))))) (mRet (mC (.bl false))) (mNext))
  (mRet (mOpN gAll (mCons (mLc ([("letter", 1)].map (·.2)) (bName 1) (mYes) (C_is_name_1) (mIt iAny (mVar 0))) (mNil))))
def f_is_name : List D → FR := fun ds => (runF 2 [] .fz m_is_name ds).nox.cut [.fz]
theorem F_is_name (T : Tx K mg z) : FnOk P w K mg base CX0 1 T.f_is_name T.fd_is_name ["thing"] (SpM (Zz K z sc) [.fz] .fz f_is_name) :=
  fn_ok (k := 0) (os := []) (io := []) rfl T.F_is_name sc_is_name rfl rfl rfl (by decide) fun cdv A outer s H E hr =>
  (ssm_cons (sm_if ((wm_or (tm_not (tm_val (em_isiB "str" k_str rfl (em_var 0) (by rfl) T.n_str (by decide +kernel) T.n_isinstance))) (wm_or1 (tm_not (tm_chain op_le op_le o2_le o2_le em_int (em_callB (p_len) oN_len (by rfl) T.n_len bo_len (am_fz (em_var 0) am_nil)) (em_gint (by rfl) T.c_MOST_LETTERS)))))).pt (ssm_one (sm_ret em_bl)) ssm_nil)
  (ssm_one (sm_ret (em_callB (cr_all rfl) oN_all (by rfl) T.n_all bo_all (am_bo ((ec_lc [("letter", 1)] rfl sc_is_name.nd (im_any (em_var 0)) (show BlkOk ["thing", "letter"] (defScope s_is_name) _ [("letter", 1)] from ⟨rfl, by decide +kernel, by decide +kernel, by decide +kernel, by decide +kernel⟩) (fun a n => (gm_name 1 sc_is_name.nd (hio := not_others (by decide)))) (lenB_name 1) ifs_nil (fun a => (em_cmp (p_in _ (hu66 hr)) o2_in (em_var 1) (em_gstr (by rfl) T.c_LETTERS))))).pe am_nil)))))
def L_need_places_1 : MS := mIf (mOrT (mNotT (mT (mCall false [.fz] [.fz] f_is_name (mCons (mVar 2) (mNil))))) (mT (mOp2 gIn (mVar 2) (mSl3 .fz (mVar 0) (mNoPart) (mPart (mVar 1)))))) (mRaise "BadPlaces" ["index"] (mCons (mVar 1) (mNil))) (mNext)
def m_need_places : MS := mSeq (mIf (mNotT (mT (mChain gLe gLe (mC (.int 1)) (mOpN gLen (mCons (mVar 0) (mNil))) (mC (.int 16))))) (mRaise "BadPlaces" ["index"] (mCons (mOp1 gNeg (mC (.int 1))) (mNil))) (mNext))
  (mSeq (mFor (bTup 2 (bCons (bName 1) (bCons (bName 2) (bNil)))) (mItA gEnum (mCons (mVar 0) (mNil))) (L_need_places_1))
  (mRet (mOpN gTuple (mCons (mOpN gSort (mCons (mVar 0) (mNil))) (mNil)))))
def f_need_places : List D → FR := fun ds => (runF 3 [] .fz m_need_places ds).nox.cut [.fz]
theorem F_need_places (T : Tx K mg z) : FnOk P w K mg base CX0 3 T.f_need_places T.fd_need_places ["places"] (SpM (Zz K z sc) [.fz] .fz f_need_places) :=
  fn_ok (k := 2) (os := []) (io := []) rfl T.F_need_places sc_need_places rfl rfl rfl (by decide) fun cdv A outer s H E hr =>
  (ssm_cons (sm_if (tm_not (tm_chain op_le op_le o2_le o2_le em_int (em_callB (p_len) oN_len (by rfl) T.n_len bo_len (am_fz (em_var 0) am_nil)) (em_gint (by rfl) T.c_MOST_PLACES))) (ssm_one (sm_raise "BadPlaces" ["index"] rfl tk0 T.ox_BadPlaces T.xi_BadPlaces T.xt_BadPlaces (F_x_BadPlaces T) (hr.mono (by decide)) T.b_BadPlaces___init__ pass0 T.mc_BadPlaces (am_fz (em_un un_neg o1_neg em_int) am_nil) (by decide))) ssm_nil)
  (ssm_cons (sm_for PassesOwn.never rfl (im_enum (by rfl) T.n_enumerate (am_fz (em_var 0) am_nil)) (gm_tup rfl (gsm_cons (gm_name 1 sc_need_places.nd) (gsm_cons (gm_name 2 sc_need_places.nd) gsm_nil))) (ssm_one (sm_if ((wm_or (tm_not (tm_val (em_call (F_is_name T) (hr.mono (by decide)) T.m_is_name T.k_is_name T.b_is_name pass0 (am_fz (em_var 2) am_nil)))) (wm_or1 (tm_cmp (p_in _ (hu66 hr)) o2_in (em_var 2) (em_slice .fz rfl (em_var 0) om_none (om_some (em_var 1))))))).pt (ssm_one (sm_raise "BadPlaces" ["index"] rfl tk0 T.ox_BadPlaces T.xi_BadPlaces T.xt_BadPlaces (F_x_BadPlaces T) (hr.mono (by decide)) T.b_BadPlaces___init__ pass0 T.mc_BadPlaces (am_fz (em_var 1) am_nil) (by decide))) ssm_nil)))
  (ssm_one (sm_ret (em_callTy (p_tuple) oN_tuple (by rfl) T.n_tuple bo_tuple (am_fz (em_callB (p_sorted rfl) (oN_sort (.inl rfl)) (by rfl) T.n_sorted bo_sorted (am_fz (em_var 0) am_nil)) am_nil))))))
def C_is_pair_1 : ME := mAndV (mOp1 (gIsi (subT "str") fun _ => none) (mVar 2)) (mOp2 gIn (mVar 2) (mVar 0))
def m_is_pair : MS := mSeq (mIf (mOrT (mNotT (mT (mOp1 (gIsi (subT "tuple") fun _ => none) (mVar 1)))) (mT (mOp2 gNe (mOpN gLen (mCons (mVar 1) (mNil))) (mC (.int 2))))) (mRet (mC (.bl false))) (mNext))
  (mRet (mOpN gAll (mCons (mLc ([("place", 2)].map (·.2)) (bName 2) (mYes) (C_is_pair_1) (mIt iAny (mVar 1))) (mNil))))
def f_is_pair : List D → FR := fun ds => (runF 3 [] .fz m_is_pair ds).nox.cut [.fz, .fz]
theorem F_is_pair (T : Tx K mg z) : FnOk P w K mg base CX0 1 T.f_is_pair T.fd_is_pair ["known", "thing"] (SpM (Zz K z sc) [.fz, .fz] .fz f_is_pair) :=
  fn_ok (k := 0) (os := []) (io := []) rfl T.F_is_pair sc_is_pair rfl rfl rfl (by decide) fun cdv A outer s H E hr =>
  (ssm_cons (sm_if ((wm_or (tm_not (tm_val (em_isiB "tuple" k_tuple rfl (em_var 1) (by rfl) T.n_tuple (by decide +kernel) T.n_isinstance))) (wm_or1 (tm_cmp (op_vne _ hr.units) o2_ne (em_callB (p_len) oN_len (by rfl) T.n_len bo_len (am_fz (em_var 1) am_nil)) em_int)))).pt (ssm_one (sm_ret em_bl)) ssm_nil)
  (ssm_one (sm_ret (em_callB (cr_all rfl) oN_all (by rfl) T.n_all bo_all (am_bo ((ec_lc [("place", 2)] rfl sc_is_pair.nd (im_any (em_var 1)) (show BlkOk ["known", "thing", "place"] (defScope s_is_pair) _ [("place", 2)] from ⟨rfl, by decide +kernel, by decide +kernel, by decide +kernel, by decide +kernel⟩) (fun a n => (gm_name 2 sc_is_pair.nd (hio := not_others (by decide)))) (lenB_name 2) ifs_nil (fun a => (em_and (em_isiB "str" k_str rfl (em_var 2) (by rfl) T.n_str (by decide +kernel) T.n_isinstance) (em_and1 (em_cmp (p_in _ (hu66 hr)) o2_in (em_var 2) (em_var 0))))))).pe am_nil)))))
def L_Web___init___1 : MS := mIf (mOrT (mNotT (mT (mCall false [.fz] [.fz] f_is_name (mCons (mVar 3) (mNil))))) (mNotT (mT (mCall false [.fz, .fz] [.fz, .fz] f_is_pair (mCons (mFld "Web" "known" (mVar 0)) (mCons (mOp2 gIx (mVar 2) (mVar 3)) (mNil))))))) (mRaise "BadTies" ["name"] (mCons (mVar 3) (mNil))) (mNext)
def A_Web___init___1 : ME := mVar 3
def C_Web___init___1 : ME := mOpN gTuple (mCons (mOpN gSort (mCons (mOp2 gIx (mVar 2) (mVar 3)) (mNil))) (mNil))
def m_Web___init__ : MS := mSeq (mFldS "Web" "known" 0 (mCall false [.fz] [.fz] f_need_places (mCons (mVar 1) (mNil))))
  (mSeq (mFor (bName 3) (mIt iAny (mOpN gSort (mCons (mOpN gList (mCons (mVar 2) (mNil))) (mNil)))) (L_Web___init___1))
  (mSeq (mIf (mT (mOp2 gGt (mOpN gLen (mCons (mVar 2) (mNil))) (mC (.int 24)))) (mRaise "TooMany" ["limit"] (mCons (mC (.int 24)) (mNil))) (mNext))
  (mFldS "Web" "ending" 0 (mDc ([("name", 3)].map (·.2)) (bName 3) (mYes) (A_Web___init___1) (C_Web___init___1) (mIt iAny (mOpN gSort (mCons (mOpN gList (mCons (mVar 2) (mNil))) (mNil))))))))
def f_Web___init__ : List D → FR := fun ds => (runF 4 [0] .fz m_Web___init__ ds).nox.cut [.io, .fz, .fz]
theorem F_Web___init__ (T : Tx K mg z) : FnOk P w K mg base CX0 4 T.f_Web___init__ T.fd_Web___init__ ["self", "places", "ties"] (SpM (Zz K z sc) [.io, .fz, .fz] .fz f_Web___init__) :=
  fn_ok (k := 3) (os := [(0, true)]) (io := [0]) rfl T.F_Web___init__ sc_Web___init__ rfl rfl rfl (by decide) fun cdv A outer s H E hr =>
  (ssm_cons (sm_fld "Web" 0 T.cl_Web T.nf_Web_known (em_call (F_need_places T) (hr.mono (by decide)) T.m_need_places T.k_need_places T.b_need_places pass0 (am_fz (em_var 1) am_nil)))
  (ssm_cons (sm_for PassesOwn.never rfl (im_any (em_callB (p_sorted rfl) (oN_sort (.inl rfl)) (by rfl) T.n_sorted bo_sorted (am_fz (em_callTy (p_list rfl) (oN_list (.inl rfl)) (by rfl) T.n_list bo_list (am_fz (em_var 2) am_nil)) am_nil))) (gm_name 3 sc_Web___init__.nd) (ssm_one (sm_if ((wm_or (tm_not (tm_val (em_call (F_is_name T) (hr.mono (by decide)) T.m_is_name T.k_is_name T.b_is_name pass0 (am_fz (em_var 3) am_nil)))) (wm_or1 (tm_not (tm_val (em_call (F_is_pair T) (hr.mono (by decide)) T.m_is_pair T.k_is_pair T.b_is_pair pass0 (am_fz (em_fld "Web" T.cl_Web T.nf_Web_known (em_own 0)) (am_fz (em_ix (hu_of hr) rfl (em_var 2) (em_var 3)) am_nil)))))))).pt (ssm_one (sm_raise "BadTies" ["name"] rfl tk0 T.ox_BadTies T.xi_BadTies T.xt_BadTies (F_x_BadTies T) (hr.mono (by decide)) T.b_BadTies___init__ pass0 T.mc_BadTies (am_fz (em_var 3) am_nil) (by decide))) ssm_nil)))
  (ssm_cons (sm_if (tm_cmp op_gt o2_gt (em_callB (p_len) oN_len (by rfl) T.n_len bo_len (am_fz (em_var 2) am_nil)) (em_gint (by rfl) T.c_MOST_THINGS)) (ssm_one (sm_raise "TooMany" ["limit"] rfl tk0 T.ox_TooMany T.xi_TooMany T.xt_TooMany (F_x_TooMany T) (hr.mono (by decide)) T.b_TooMany___init__ pass0 T.mc_TooMany (am_fz (em_gint (by rfl) T.c_MOST_THINGS) am_nil) (by decide))) ssm_nil)
  (ssm_one (sm_fld "Web" 0 T.cl_Web T.nf_Web_ending (((ec_dc [("name", 3)] rfl sc_Web___init__.nd (im_any (em_callB (p_sorted rfl) (oN_sort (.inl rfl)) (by rfl) T.n_sorted bo_sorted (am_fz (em_callTy (p_list rfl) (oN_list (.inl rfl)) (by rfl) T.n_list bo_list (am_fz (em_var 2) am_nil)) am_nil))) (show BlkOk ["self", "places", "ties", "name"] (defScope s_Web___init__) _ [("name", 3)] from ⟨rfl, by decide +kernel, by decide +kernel, by decide +kernel, by decide +kernel⟩) (fun a n => (gm_name 3 sc_Web___init__.nd (hio := not_others (by decide)))) (lenB_name 3) ifs_nil (fun a => (em_var 3)) (fun a => (em_callTy (p_tuple) oN_tuple (by rfl) T.n_tuple bo_tuple (am_fz (em_callB (p_sorted rfl) (oN_sort (.inl rfl)) (by rfl) T.n_sorted bo_sorted (am_fz (em_ix (hu_of hr) rfl (em_var 2) (em_var 3)) am_nil)) am_nil))))).pe).fr)))))
def m_Web___eq__ : MS := mRet (mAndV (mOp1 is_Web (mVar 1)) (mAndV (mOp2 gEq (mFld "Web" "known" (mVar 0)) (mFld "Web" "known" (mVar 1))) (mOp2 gEq (mFld "Web" "ending" (mVar 0)) (mFld "Web" "ending" (mVar 1)))))
def f_Web___eq__ : List D → FR := fun ds => (runF 2 [] .fz m_Web___eq__ ds).nox.cut [.fz, .fz]
theorem F_Web___eq__ (T : Tx K mg z) : FnOk P w K mg base CX0 1 T.f_Web___eq__ T.fd_Web___eq__ ["self", "other"] (SpM (Zz K z sc) [.fz, .fz] .fz f_Web___eq__) :=
  fn_ok (k := 0) (os := []) (io := []) rfl T.F_Web___eq__ sc_Web___eq__ rfl rfl rfl (by decide) fun cdv A outer s H E hr =>
  (ssm_one (sm_ret (em_and (em_isi (x := "") rfl (.own _) T.is_Web_B T.is_Web_O (em_var 1) (pe_glob (by rfl) T.mc_Web rfl) T.n_isinstance) (em_and (em_cmp (op_veq _ hr.units) o2_eq (em_fld "Web" T.cl_Web T.nf_Web_known (em_var 0)) (em_fld "Web" T.cl_Web T.nf_Web_known (em_var 1))) (em_and1 (em_cmp (op_veq _ hr.units) o2_eq (em_fld "Web" T.cl_Web T.nf_Web_ending (em_var 0)) (em_fld "Web" T.cl_Web T.nf_Web_ending (em_var 1))))))))
def L_Arrows___init___1 : MS := mIf (mOrT (mNotT (mT (mCall false [.fz] [.fz] f_is_name (mCons (mVar 3) (mNil))))) (mOrT (mNotT (mT (mCall false [.fz, .fz] [.fz, .fz] f_is_pair (mCons (mFld "Arrows" "known" (mVar 0)) (mCons (mOp2 gIx (mVar 2) (mVar 3)) (mNil)))))) (mT (mOp2 gEq (mOp2 gIx (mOp2 gIx (mVar 2) (mVar 3)) (mC (.int 0))) (mOp2 gIx (mOp2 gIx (mVar 2) (mVar 3)) (mC (.int 1))))))) (mRaise "BadArrows" ["name"] (mCons (mVar 3) (mNil))) (mNext)
def A_Arrows___init___1 : ME := mVar 3
def C_Arrows___init___1 : ME := mOpN gTuple (mCons (mOp2 gIx (mVar 2) (mVar 3)) (mNil))
def m_Arrows___init__ : MS := mSeq (mFldS "Arrows" "known" 0 (mCall false [.fz] [.fz] f_need_places (mCons (mVar 1) (mNil))))
  (mSeq (mFor (bName 3) (mIt iAny (mOpN gSort (mCons (mOpN gList (mCons (mVar 2) (mNil))) (mNil)))) (L_Arrows___init___1))
  (mSeq (mIf (mT (mOp2 gGt (mOpN gLen (mCons (mVar 2) (mNil))) (mC (.int 24)))) (mRaise "TooMany" ["limit"] (mCons (mC (.int 24)) (mNil))) (mNext))
  (mFldS "Arrows" "leading" 0 (mDc ([("name", 3)].map (·.2)) (bName 3) (mYes) (A_Arrows___init___1) (C_Arrows___init___1) (mIt iAny (mOpN gSort (mCons (mOpN gList (mCons (mVar 2) (mNil))) (mNil))))))))
def f_Arrows___init__ : List D → FR := fun ds => (runF 4 [0] .fz m_Arrows___init__ ds).nox.cut [.io, .fz, .fz]
theorem F_Arrows___init__ (T : Tx K mg z) : FnOk P w K mg base CX0 4 T.f_Arrows___init__ T.fd_Arrows___init__ ["self", "places", "arrows"] (SpM (Zz K z sc) [.io, .fz, .fz] .fz f_Arrows___init__) :=
  fn_ok (k := 3) (os := [(0, true)]) (io := [0]) rfl T.F_Arrows___init__ sc_Arrows___init__ rfl rfl rfl (by decide) fun cdv A outer s H E hr =>
  (ssm_cons (sm_fld "Arrows" 0 T.cl_Arrows T.nf_Arrows_known (em_call (F_need_places T) (hr.mono (by decide)) T.m_need_places T.k_need_places T.b_need_places pass0 (am_fz (em_var 1) am_nil)))
  (ssm_cons (sm_for PassesOwn.never rfl (im_any (em_callB (p_sorted rfl) (oN_sort (.inl rfl)) (by rfl) T.n_sorted bo_sorted (am_fz (em_callTy (p_list rfl) (oN_list (.inl rfl)) (by rfl) T.n_list bo_list (am_fz (em_var 2) am_nil)) am_nil))) (gm_name 3 sc_Arrows___init__.nd) (ssm_one (sm_if ((wm_or (tm_not (tm_val (em_call (F_is_name T) (hr.mono (by decide)) T.m_is_name T.k_is_name T.b_is_name pass0 (am_fz (em_var 3) am_nil)))) (wm_or (tm_not (tm_val (em_call (F_is_pair T) (hr.mono (by decide)) T.m_is_pair T.k_is_pair T.b_is_pair pass0 (am_fz (em_fld "Arrows" T.cl_Arrows T.nf_Arrows_known (em_own 0)) (am_fz (em_ix (hu_of hr) rfl (em_var 2) (em_var 3)) am_nil))))) (wm_or1 (tm_cmp (op_veq _ hr.units) o2_eq (em_ix (hu_of hr) rfl (em_ix (hu_of hr) rfl (em_var 2) (em_var 3)) em_int) (em_ix (hu_of hr) rfl (em_ix (hu_of hr) rfl (em_var 2) (em_var 3)) em_int)))))).pt (ssm_one (sm_raise "BadArrows" ["name"] rfl tk0 T.ox_BadArrows T.xi_BadArrows T.xt_BadArrows (F_x_BadArrows T) (hr.mono (by decide)) T.b_BadArrows___init__ pass0 T.mc_BadArrows (am_fz (em_var 3) am_nil) (by decide))) ssm_nil)))
  (ssm_cons (sm_if (tm_cmp op_gt o2_gt (em_callB (p_len) oN_len (by rfl) T.n_len bo_len (am_fz (em_var 2) am_nil)) (em_gint (by rfl) T.c_MOST_THINGS)) (ssm_one (sm_raise "TooMany" ["limit"] rfl tk0 T.ox_TooMany T.xi_TooMany T.xt_TooMany (F_x_TooMany T) (hr.mono (by decide)) T.b_TooMany___init__ pass0 T.mc_TooMany (am_fz (em_gint (by rfl) T.c_MOST_THINGS) am_nil) (by decide))) ssm_nil)
  (ssm_one (sm_fld "Arrows" 0 T.cl_Arrows T.nf_Arrows_leading (((ec_dc [("name", 3)] rfl sc_Arrows___init__.nd (im_any (em_callB (p_sorted rfl) (oN_sort (.inl rfl)) (by rfl) T.n_sorted bo_sorted (am_fz (em_callTy (p_list rfl) (oN_list (.inl rfl)) (by rfl) T.n_list bo_list (am_fz (em_var 2) am_nil)) am_nil))) (show BlkOk ["self", "places", "arrows", "name"] (defScope s_Arrows___init__) _ [("name", 3)] from ⟨rfl, by decide +kernel, by decide +kernel, by decide +kernel, by decide +kernel⟩) (fun a n => (gm_name 3 sc_Arrows___init__.nd (hio := not_others (by decide)))) (lenB_name 3) ifs_nil (fun a => (em_var 3)) (fun a => (em_callTy (p_tuple) oN_tuple (by rfl) T.n_tuple bo_tuple (am_fz (em_ix (hu_of hr) rfl (em_var 2) (em_var 3)) am_nil))))).pe).fr)))))
def m_Arrows_places : MS := mRet (mOpN gList (mCons (mFld "Arrows" "known" (mVar 0)) (mNil)))
def f_Arrows_places : List D → FR := fun ds => (runF 1 [] .fz m_Arrows_places ds).nox.cut [.fz]
theorem F_Arrows_places (T : Tx K mg z) : FnOk P w K mg base CX0 1 T.f_Arrows_places T.fd_Arrows_places ["self"] (SpM (Zz K z sc) [.fz] .fz f_Arrows_places) :=
  fn_ok (k := 0) (os := []) (io := []) rfl T.F_Arrows_places sc_Arrows_places rfl rfl rfl (by decide) fun cdv A outer s H E hr =>
  (ssm_one (sm_ret (em_callTy (p_list rfl) (oN_list (.inl rfl)) (by rfl) T.n_list bo_list (am_fz (em_fld "Arrows" T.cl_Arrows T.nf_Arrows_known (em_var 0)) am_nil))))
def m_Arrows_arrows : MS := mRet (mOpN gDict (mCons (mFld "Arrows" "leading" (mVar 0)) (mNil)))
def f_Arrows_arrows : List D → FR := fun ds => (runF 1 [] .fz m_Arrows_arrows ds).nox.cut [.fz]
theorem F_Arrows_arrows (T : Tx K mg z) : FnOk P w K mg base CX0 1 T.f_Arrows_arrows T.fd_Arrows_arrows ["self"] (SpM (Zz K z sc) [.fz] .fz f_Arrows_arrows) :=
  fn_ok (k := 0) (os := []) (io := []) rfl T.F_Arrows_arrows sc_Arrows_arrows rfl rfl rfl (by decide) fun cdv A outer s H E hr =>
  (ssm_one (sm_ret (em_callTy (p_dict rfl) (oN_dict (.inl rfl)) (by rfl) T.n_dict bo_dict (am_fz (em_fld "Arrows" T.cl_Arrows T.nf_Arrows_leading (em_var 0)) am_nil))))
def m_under_web : MS := mRet (mMake false "Web" [.fz, .fz] [.fz, .fz] f_Web___init__ (mCons (mOpN gList (mCons (mFld "Arrows" "known" (mVar 0)) (mNil))) (mCons (mOpN gDict (mCons (mFld "Arrows" "leading" (mVar 0)) (mNil))) (mNil))))
def f_under_web : List D → FR := fun ds => (runF 1 [] .fz m_under_web ds).nox.cut [.fz]
theorem F_under_web (T : Tx K mg z) : FnOk P w K mg base CX0 6 T.f_under_web T.fd_under_web ["arrows"] (SpM (Zz K z sc) [.fz] .fz f_under_web) :=
  fn_ok (k := 5) (os := []) (io := []) rfl T.F_under_web sc_under_web rfl rfl rfl (by decide) fun cdv A outer s H E hr =>
  (ssm_one (sm_ret ((em_make "Web" T.mk_Web (F_Web___init__ T) (hr.mono (by decide)) T.mc_Web T.b_Web___init__ pass0 (am_fz (em_callTy (p_list rfl) (oN_list (.inl rfl)) (by rfl) T.n_list bo_list (am_fz (em_fld "Arrows" T.cl_Arrows T.nf_Arrows_known (em_var 0)) am_nil)) (am_fz (em_callTy (p_dict rfl) (oN_dict (.inl rfl)) (by rfl) T.n_dict bo_dict (am_fz (em_fld "Arrows" T.cl_Arrows T.nf_Arrows_leading (em_var 0)) am_nil)) am_nil)))).fr))
def L_is_turning_1 : MS := mSeq (mAsg (bTup 2 (bCons (bName 3) (bCons (bName 4) (bNil)))) (mOp2 gIx (mFld "Web" "ending" (mVar 0)) (mVar 2)))
  (mIf (mOrT (mT (mOp2 gNotIn (mVar 2) (mVar 1))) (mT (mOp2 gNotIn (mOp2 gIx (mVar 1) (mVar 2)) (mLst (mCons (mTup (mCons (mVar 3) (mCons (mVar 4) (mNil)))) (mCons (mTup (mCons (mVar 4) (mCons (mVar 3) (mNil)))) (mNil))))))) (mRet (mC (.bl false))) (mNext))
def m_is_turning : MS := mSeq (mIf (mOrT (mNotT (mT (mOp1 (gIsi (subT "dict") fun _ => none) (mVar 1)))) (mT (mOp2 gNe (mOpN gLen (mCons (mVar 1) (mNil))) (mOpN gLen (mCons (mFld "Web" "ending" (mVar 0)) (mNil)))))) (mRet (mC (.bl false))) (mNext))
  (mSeq (mForD (bName 2) (mdFld "Web" "ending" 0) (L_is_turning_1))
  (mRet (mC (.bl true))))
def f_is_turning : List D → FR := fun ds => (runF 5 [] .fz m_is_turning ds).nox.cut [.fz, .fz]
theorem F_is_turning (T : Tx K mg z) : FnOk P w K mg base CX0 1 T.f_is_turning T.fd_is_turning ["web", "thing"] (SpM (Zz K z sc) [.fz, .fz] .fz f_is_turning) :=
  fn_ok (k := 0) (os := []) (io := []) rfl T.F_is_turning sc_is_turning rfl rfl rfl (by decide) fun cdv A outer s H E hr =>
  (ssm_cons (sm_if ((wm_or (tm_not (tm_val (em_isiB "dict" k_dict rfl (em_var 1) (by rfl) T.n_dict (by decide +kernel) T.n_isinstance))) (wm_or1 (tm_cmp (op_vne _ hr.units) o2_ne (em_callB (p_len) oN_len (by rfl) T.n_len bo_len (am_fz (em_var 1) am_nil)) (em_callB (p_len) oN_len (by rfl) T.n_len bo_len (am_fz (em_fld "Web" T.cl_Web T.nf_Web_ending (em_var 0)) am_nil)))))).pt (ssm_one (sm_ret em_bl)) ssm_nil)
  (ssm_cons (sm_forD PassesOwn.never rfl (dm_fld "Web" 0 T.cl_Web T.nf_Web_ending) (gm_name 2 sc_is_turning.nd) (ssm_cons (sm_asg (em_ix (hu_of hr) rfl (em_fld "Web" T.cl_Web T.nf_Web_ending (em_var 0)) (em_var 2)) (gm_tup rfl (gsm_cons (gm_name 3 sc_is_turning.nd) (gsm_cons (gm_name 4 sc_is_turning.nd) gsm_nil))))
  (ssm_one (sm_if ((wm_or (tm_cmp (p_notIn _ (hu66 hr)) o2_notIn (em_var 2) (em_var 1)) (wm_or1 (tm_cmp (p_notIn _ (hu66 hr)) o2_notIn (em_ix (hu_of hr) rfl (em_var 1) (em_var 2)) (em_lst .fz (am_fz (em_tup (am_fz (em_var 3) (am_fz (em_var 4) am_nil))) (am_fz (em_tup (am_fz (em_var 4) (am_fz (em_var 3) am_nil))) am_nil))))))).pt (ssm_one (sm_ret em_bl)) ssm_nil))))
  (ssm_one (sm_ret em_bl))))
def T_go_round_1 : Rho → ER Bool := mAndT (mT (mOp2 gNotIn (mVar 8) (mVar 2))) (mT (mOp2 gIn (mVar 3) (mOp2 gIx (mFld "Web" "ending" (mVar 0)) (mVar 8))))
def C_go_round_1 : ME := mVar 8
def T_go_round_2 : Rho → ER Bool := mT (mOp2 gNe (mVar 4) (mLst (mNil)))
def T_go_round_3 : Rho → ER Bool := mAndT (mT (mOp2 gNotIn (mVar 8) (mVar 2))) (mT (mOp2 gIn (mVar 3) (mOp2 gIx (mFld "Web" "ending" (mVar 0)) (mVar 8))))
def C_go_round_2 : ME := mVar 8
def L_go_round_1 : MS := mSeq (mAsg (bTup 2 (bCons (bName 5) (bCons (bName 6) (bNil)))) (mOp2 gIx (mFld "Web" "ending" (mVar 0)) (mOp2 gIx (mVar 4) (mC (.int 0)))))
  (mSeq (mSet 7 (mIfE (mT (mOp2 gEq (mVar 5) (mVar 3))) (mVar 6) (mVar 5)))
  (mSeq (mPut 2 (mTup (mCons (mVar 3) (mCons (mVar 7) (mNil)))) (mOp2 gIx (mVar 4) (mC (.int 0))))
  (mSeq (mSet 3 (mVar 7))
  (mSet 4 (mLc ([("tie", 8)].map (·.2)) (bName 8) (T_go_round_3) (C_go_round_2) (mKeys (mdFld "Web" "ending" 0)))))))
def m_go_round : MS := mSeq (mSet 3 (mVar 1))
  (mSeq (mSet 4 (mLc ([("tie", 8)].map (·.2)) (bName 8) (T_go_round_1) (C_go_round_1) (mKeys (mdFld "Web" "ending" 0))))
  (mWhile (T_go_round_2) (L_go_round_1) 100))
def f_go_round : List D → FR := fun ds => (runF 9 [2] .fz m_go_round ds).nox.cut [.fz, .fz, .io]
theorem F_go_round (T : Tx K mg z) : FnOk P w K mg base CX0 1 T.f_go_round T.fd_go_round ["web", "start", "found"] (SpM (Zz K z sc) [.fz, .fz, .io] .fz f_go_round) :=
  fn_ok (k := 0) (os := [(2, true)]) (io := [2]) rfl T.F_go_round sc_go_round rfl rfl rfl (by decide) fun cdv A outer s H E hr =>
  (ssm_cons (sm_set 3 (em_var 1) sc_go_round.nd)
  (ssm_cons (sm_setC 4 (ec_lcD [("tie", 8)] rfl sc_go_round.nd (dm_fld "Web" 0 T.cl_Web T.nf_Web_ending) (show BlkOk ["web", "start", "found", "here", "some", "one", "other", "there", "tie"] (defScope s_go_round) _ [("tie", 8)] from ⟨rfl, by decide +kernel, by decide +kernel, by decide +kernel, by decide +kernel⟩) (fun a n => (gm_name 8 sc_go_round.nd (hio := not_others (by decide)))) (lenB_name 8) (ifs_one fun a => ((wm_and (tm_cmp (p_notIn _ (hu66 hr)) o2_notIn (em_var 8) (em_own 2)) (wm_and1 (tm_cmp (p_in _ (hu66 hr)) o2_in (em_var 3) (em_ix (hu_of hr) rfl (em_fld "Web" T.cl_Web T.nf_Web_ending (em_var 0)) (em_var 8)))))).pt) (fun a => (em_var 8))))
  (ssm_one (sm_while 100 PassesOwn.never (tm_cmp (op_vne _ hr.units) o2_ne (em_var 4) (em_lst .fz am_nil)) (ssm_cons (sm_asg (em_ix (hu_of hr) rfl (em_fld "Web" T.cl_Web T.nf_Web_ending (em_var 0)) (em_ix (hu_of hr) rfl (em_var 4) em_int)) (gm_tup rfl (gsm_cons (gm_name 5 sc_go_round.nd) (gsm_cons (gm_name 6 sc_go_round.nd) gsm_nil))))
  (ssm_cons (sm_set 7 (em_if (tm_cmp (op_veq _ hr.units) o2_eq (em_var 5) (em_var 3)) (em_var 6) (em_var 5)) sc_go_round.nd)
  (ssm_cons (sm_put 2 (hu_of hr) (em_tup (am_fz (em_var 3) (am_fz (em_var 7) am_nil))) (em_ix (hu_of hr) rfl (em_var 4) em_int))
  (ssm_cons (sm_set 3 (em_var 7) sc_go_round.nd)
  (ssm_one (sm_setC 4 (ec_lcD [("tie", 8)] rfl sc_go_round.nd (dm_fld "Web" 0 T.cl_Web T.nf_Web_ending) (show BlkOk ["web", "start", "found", "here", "some", "one", "other", "there", "tie"] (defScope s_go_round) _ [("tie", 8)] from ⟨rfl, by decide +kernel, by decide +kernel, by decide +kernel, by decide +kernel⟩) (fun a n => (gm_name 8 sc_go_round.nd (hio := not_others (by decide)))) (lenB_name 8) (ifs_one fun a => ((wm_and (tm_cmp (p_notIn _ (hu66 hr)) o2_notIn (em_var 8) (em_own 2)) (wm_and1 (tm_cmp (p_in _ (hu66 hr)) o2_in (em_var 3) (em_ix (hu_of hr) rfl (em_fld "Web" T.cl_Web T.nf_Web_ending (em_var 0)) (em_var 8)))))).pt) (fun a => (em_var 8)))))))))))))
def A_even_turning_1 : ME := mVar 6
def C_even_turning_1 : ME := mC (.int 0)
def L_even_turning_1 : MS := mAugS 2 gDIx (gI fun i j => some (.int ((fun i j => i + j) i j))) (mVar 6) (mC (.int 1))
def L_even_turning_2 : MS := mFor (bName 6) (mIt iAny (mOp2 gIx (mFld "Web" "ending" (mVar 0)) (mVar 3))) (L_even_turning_1)
def T_even_turning_1 : Rho → ER Bool := mT (mOp2 gEq (mOp2 gMod (mOp2 gIx (mVar 2) (mVar 6)) (mC (.int 2))) (mC (.int 1)))
def C_even_turning_2 : ME := mVar 6
def L_even_turning_3 : MS := mDrop (mCall false [.fz, .fz, .io] [.fz, .fz, .sl 1] f_go_round (mCons (mVar 0) (mCons (mVar 5) (mSlot 1 (mNil)))))
def m_even_turning : MS := mSeq (mSet 1 (mC (.dct [])))
  (mSeq (mSet 2 (mDc ([("place", 6)].map (·.2)) (bName 6) (mYes) (A_even_turning_1) (C_even_turning_1) (mIt iAny (mFld "Web" "known" (mVar 0)))))
  (mSeq (mForD (bName 3) (mdFld "Web" "ending" 0) (L_even_turning_2))
  (mSeq (mSet 4 (mLc ([("place", 6)].map (·.2)) (bName 6) (T_even_turning_1) (C_even_turning_2) (mIt iAny (mFld "Web" "known" (mVar 0)))))
  (mSeq (mFor (bName 5) (mIt iAny (mOp2 gAdd (mVar 4) (mOpN gList (mCons (mFld "Web" "known" (mVar 0)) (mNil))))) (L_even_turning_3))
  (mRet (mMv 1))))))
def f_even_turning : List D → FR := fun ds => (runF 7 [] .fz m_even_turning ds).nox.cut [.fz]
theorem F_even_turning (T : Tx K mg z) : FnOk P w K mg base CX0 2 T.f_even_turning T.fd_even_turning ["web"] (SpM (Zz K z sc) [.fz] .fz f_even_turning) :=
  fn_ok (k := 1) (os := [(1, true), (2, true)]) (io := []) rfl T.F_even_turning sc_even_turning rfl rfl rfl (by decide) fun cdv A outer s H E hr =>
  (ssm_cons (sm_setO 1 (em_dct0 .nw) sc_even_turning.nd)
  (ssm_cons (sm_setO 2 ((ec_dc [("place", 6)] rfl sc_even_turning.nd (im_any (em_fld "Web" T.cl_Web T.nf_Web_known (em_var 0))) (show BlkOk ["web", "found", "degree", "tie", "odd", "start", "place"] (defScope s_even_turning) _ [("place", 6)] from ⟨rfl, by decide +kernel, by decide +kernel, by decide +kernel, by decide +kernel⟩) (fun a n => (gm_name 6 sc_even_turning.nd (hio := not_others (by decide)))) (lenB_name 6) ifs_nil (fun a => (em_var 6)) (fun a => em_int))).pe sc_even_turning.nd)
  (ssm_cons (sm_forD PassesOwn.never rfl (dm_fld "Web" 0 T.cl_Web T.nf_Web_ending) (gm_name 3 sc_even_turning.nd) (ssm_one (sm_for PassesOwn.never rfl (im_any (em_ix (hu_of hr) rfl (em_fld "Web" T.cl_Web T.nf_Web_ending (em_var 0)) (em_var 3))) (gm_name 6 sc_even_turning.nd) (ssm_one (sm_augS 2 (hu_of hr) (pget_dict (hu_of hr)) o2_dix ip_add (o2_ipI (f := fun i j => i + j)) (em_var 6) em_int)))))
  (ssm_cons (sm_setC 4 (ec_lc [("place", 6)] rfl sc_even_turning.nd (im_any (em_fld "Web" T.cl_Web T.nf_Web_known (em_var 0))) (show BlkOk ["web", "found", "degree", "tie", "odd", "start", "place"] (defScope s_even_turning) _ [("place", 6)] from ⟨rfl, by decide +kernel, by decide +kernel, by decide +kernel, by decide +kernel⟩) (fun a n => (gm_name 6 sc_even_turning.nd (hio := not_others (by decide)))) (lenB_name 6) (ifs_one fun a => (tm_cmp (op_veq _ hr.units) o2_eq (em_op op_mod o2_mod (em_ix (hu_of hr) rfl (em_own 2) (em_var 6)) em_int) em_int)) (fun a => (em_var 6))))
  (ssm_cons (sm_for PassesOwn.never rfl (im_any (em_op p_add o2_add (em_var 4) (em_callTy (p_list rfl) (oN_list (.inl rfl)) (by rfl) T.n_list bo_list (am_fz (em_fld "Web" T.cl_Web T.nf_Web_known (em_var 0)) am_nil)))) (gm_name 5 sc_even_turning.nd) (ssm_one (sm_expr (em_call (F_go_round T) (hr.mono (by decide)) T.m_go_round T.k_go_round T.b_go_round pass0 (am_fz (em_var 0) (am_fz (em_var 5) (am_slot 1 am_nil)))))))
  (ssm_one (sm_ret ((em_mv 1)).fr)))))))
def T_arrows_of_1 : Rho → ER Bool := mT (mOp2 gNe (mOp2 gIx (mOp2 gIx (mVar 1) (mVar 3)) (mC (.int 0))) (mOp2 gIx (mOp2 gIx (mVar 1) (mVar 3)) (mC (.int 1))))
def A_arrows_of_1 : ME := mVar 3
def C_arrows_of_1 : ME := mOp2 gIx (mVar 1) (mVar 3)
def m_arrows_of : MS := mSeq (mIf (mNotT (mT (mCall false [.fz, .fz] [.fz, .fz] f_is_turning (mCons (mVar 0) (mCons (mVar 1) (mNil)))))) (mRet (mC .non)) (mNext))
  (mSeq (mSet 2 (mDc ([("tie", 3)].map (·.2)) (bName 3) (T_arrows_of_1) (A_arrows_of_1) (C_arrows_of_1) (mKeys (mdVar 1))))
  (mRet (mMake false "Arrows" [.fz, .fz] [.fz, .fz] f_Arrows___init__ (mCons (mOpN gList (mCons (mFld "Web" "known" (mVar 0)) (mNil))) (mCons (mVar 2) (mNil))))))
def f_arrows_of : List D → FR := fun ds => (runF 4 [] .fz m_arrows_of ds).nox.cut [.fz, .fz]
theorem F_arrows_of (T : Tx K mg z) : FnOk P w K mg base CX0 6 T.f_arrows_of T.fd_arrows_of ["web", "turning"] (SpM (Zz K z sc) [.fz, .fz] .fz f_arrows_of) :=
  fn_ok (k := 5) (os := []) (io := []) rfl T.F_arrows_of sc_arrows_of rfl rfl rfl (by decide) fun cdv A outer s H E hr =>
  (ssm_cons (sm_if (tm_not (tm_val (em_call (F_is_turning T) (hr.mono (by decide)) T.m_is_turning T.k_is_turning T.b_is_turning pass0 (am_fz (em_var 0) (am_fz (em_var 1) am_nil))))) (ssm_one (sm_ret em_non)) ssm_nil)
  (ssm_cons (sm_setC 2 (ec_dcD [("tie", 3)] rfl sc_arrows_of.nd (dm_var 1) (show BlkOk ["web", "turning", "some", "tie"] (defScope s_arrows_of) _ [("tie", 3)] from ⟨rfl, by decide +kernel, by decide +kernel, by decide +kernel, by decide +kernel⟩) (fun a n => (gm_name 3 sc_arrows_of.nd (hio := not_others (by decide)))) (lenB_name 3) (ifs_one fun a => (tm_cmp (op_vne _ hr.units) o2_ne (em_ix (hu_of hr) rfl (em_ix (hu_of hr) rfl (em_var 1) (em_var 3)) em_int) (em_ix (hu_of hr) rfl (em_ix (hu_of hr) rfl (em_var 1) (em_var 3)) em_int))) (fun a => (em_var 3)) (fun a => (em_ix (hu_of hr) rfl (em_var 1) (em_var 3)))))
  (ssm_one (sm_ret ((em_make "Arrows" T.mk_Arrows (F_Arrows___init__ T) (hr.mono (by decide)) T.mc_Arrows T.b_Arrows___init__ pass0 (am_fz (em_callTy (p_list rfl) (oN_list (.inl rfl)) (by rfl) T.n_list bo_list (am_fz (em_fld "Web" T.cl_Web T.nf_Web_known (em_var 0)) am_nil)) (am_fz (em_var 2) am_nil)))).fr))))
def C__law_hand_1 : ME := mOpN gAbs (mCons (mOpN gInt (mCons (mVar 2) (mNil))) (mNil))
def m__law_hand : MS := mSeq (mSet 1 (mLc ([("cell", 2)].map (·.2)) (bName 2) (mYes) (C__law_hand_1) (mIt iAny (mSl3 .fz (mVar 0) (mNoPart) (mPart (mC (.int 63)))))))
  (mRet (mLst (mCons (mVar 1) (mCons (mC (.int 0)) (mCons (mC (.int 0)) (mCons (mOp2 gAdd (mC (.int 131)) (mOp2 gMul (mC (.int 7)) (mOpN gLen (mCons (mVar 1) (mNil))))) (mCons (mC (.int 0)) (mNil))))))))
def f__law_hand : List D → FR := fun ds => (runF 3 [] .nw m__law_hand ds).nox.cut [.fz]
theorem F__law_hand (T : Tx K mg z) : FnOk P w K mg base CX0 1 T.f__law_hand T.fd__law_hand ["script"] (SpM (Zz K z sc) [.fz] .nw f__law_hand) :=
  fn_ok (k := 0) (os := []) (io := []) rfl T.F__law_hand sc__law_hand rfl rfl rfl (by decide) fun cdv A outer s H E hr =>
  (ssm_cons (sm_setC 1 (ec_lc [("cell", 2)] rfl sc__law_hand.nd (im_any (em_slice .fz rfl (em_var 0) om_none (om_some em_int))) (show BlkOk ["script", "cells", "cell"] (defScope s__law_hand) _ [("cell", 2)] from ⟨rfl, by decide +kernel, by decide +kernel, by decide +kernel, by decide +kernel⟩) (fun a n => (gm_name 2 sc__law_hand.nd (hio := not_others (by decide)))) (lenB_name 2) ifs_nil (fun a => (em_callB (call_abs) oN_abs (by rfl) T.n_abs bo_abs (am_fz (em_callTy (p_int) oN_int (by rfl) T.n_int bo_int (am_fz (em_var 2) am_nil)) am_nil)))))
  (ssm_one (sm_ret (em_lst .nw (am_fz (em_var 1) (am_fz em_int (am_fz em_int (am_fz (em_op p_add o2_add em_int (em_op p_mul o2_mul em_int (em_callB (p_len) oN_len (by rfl) T.n_len bo_len (am_fz (em_var 1) am_nil)))) (am_fz em_int am_nil)))))))))
def m__law_draw : MS := mSeq (mIf (mAndT (mT (mOp2 gEq (mOp2 gIx (mVar 0) (mC (.int 2))) (mC (.int 0)))) (mT (mOp2 gLt (mOp2 gIx (mVar 0) (mC (.int 1))) (mOpN gLen (mCons (mOp2 gIx (mVar 0) (mC (.int 0))) (mNil)))))) (mSeq (mSet 3 (mOp2 gIx (mOp2 gIx (mVar 0) (mC (.int 0))) (mOp2 gIx (mVar 0) (mC (.int 1)))))
  (mSeq (mPut 0 (mOp2 gAdd (mOp2 gIx (mVar 0) (mC (.int 1))) (mC (.int 1))) (mC (.int 1)))
  (mSeq (mPut 0 (mOp2 gMod (mOpN gInt (mCons (mOp2 gAdd (mOp2 gAdd (mOp2 gMul (mOp2 gIx (mVar 0) (mC (.int 3))) (mC (.int 69621))) (mOp2 gMul (mVar 3) (mC (.int 48271)))) (mC (.int 41))) (mNil))) (mC (.int 2147483629))) (mC (.int 3)))
  (mIf (mT (mOp2 gGe (mVar 3) (mOp2 gPow (mC (.int 10)) (mC (.int 18))))) (mPut 0 (mVar 3) (mC (.int 2))) (mNext))))) (mNext))
  (mSeq (mIf (mT (mOp2 gGt (mOp2 gIx (mVar 0) (mC (.int 2))) (mC (.int 0)))) (mSeq (mSet 4 (mOp2 gMod (mOpN gInt (mCons (mOp2 gIx (mVar 0) (mC (.int 2))) (mNil))) (mVar 1)))
  (mSeq (mPut 0 (mOp2 gDiv (mOp2 gIx (mVar 0) (mC (.int 2))) (mVar 1)) (mC (.int 2)))
  (mRet (mVar 4)))) (mNext))
  (mSeq (mPut 0 (mOp2 gAdd (mOp2 gIx (mVar 0) (mC (.int 4))) (mC (.int 1))) (mC (.int 4)))
  (mSeq (mSet 2 (mOp2 gMod (mOpN gInt (mCons (mOp2 gMul (mOpN gInt (mCons (mOp2 gAdd (mOp2 gIx (mVar 0) (mC (.int 3))) (mOp2 gMul (mC (.int 7919)) (mOp2 gIx (mVar 0) (mC (.int 4))))) (mNil))) (mC (.int 40692))) (mNil))) (mC (.int 2147483647))))
  (mSeq (mSet 2 (mOp2 gMod (mOpN gInt (mCons (mOp2 gMul (mVar 2) (mOp2 gAdd (mOp2 gDiv (mVar 2) (mC (.int 1009))) (mC (.int 69621)))) (mNil))) (mC (.int 2147483647))))
  (mSeq (mSet 2 (mOp2 gMod (mOpN gInt (mCons (mOp2 gMul (mVar 2) (mOp2 gAdd (mOp2 gDiv (mVar 2) (mC (.int 2003))) (mC (.int 40014)))) (mNil))) (mC (.int 2147483563))))
  (mRet (mOp2 gMod (mOpN gInt (mCons (mOp2 gDiv (mVar 2) (mC (.int 16))) (mNil))) (mVar 1))))))))
def f__law_draw : List D → FR := fun ds => (runF 5 [0] .fz m__law_draw ds).nox.cut [.io, .fz]
theorem F__law_draw (T : Tx K mg z) : FnOk P w K mg base CX0 1 T.f__law_draw T.fd__law_draw ["hand", "many"] (SpM (Zz K z sc) [.io, .fz] .fz f__law_draw) :=
  fn_ok (k := 0) (os := [(0, true)]) (io := [0]) rfl T.F__law_draw sc__law_draw rfl rfl rfl (by decide) fun cdv A outer s H E hr =>
  (ssm_cons (sm_if ((wm_and (tm_cmp (op_veq _ hr.units) o2_eq (em_ix (hu_of hr) rfl (em_own 0) em_int) em_int) (wm_and1 (tm_cmp p_lt o2_lt (em_ix (hu_of hr) rfl (em_own 0) em_int) (em_callB (p_len) oN_len (by rfl) T.n_len bo_len (am_fz (em_ix (hu_of hr) rfl (em_own 0) em_int) am_nil)))))).pt (ssm_cons (sm_set 3 (em_ix (hu_of hr) rfl (em_ix (hu_of hr) rfl (em_own 0) em_int) (em_ix (hu_of hr) rfl (em_own 0) em_int)) sc__law_draw.nd)
  (ssm_cons (sm_put 0 (hu_of hr) (em_op p_add o2_add (em_ix (hu_of hr) rfl (em_own 0) em_int) em_int) em_int)
  (ssm_cons (sm_put 0 (hu_of hr) (em_op op_mod o2_mod (em_callTy (p_int) oN_int (by rfl) T.n_int bo_int (am_fz (em_op p_add o2_add (em_op p_add o2_add (em_op p_mul o2_mul (em_ix (hu_of hr) rfl (em_own 0) em_int) em_int) (em_op p_mul o2_mul (em_var 3) em_int)) em_int) am_nil)) em_int) em_int)
  (ssm_one (sm_if (tm_cmp op_ge o2_ge (em_var 3) (em_op op_pow o2_pow em_int em_int)) (ssm_one (sm_put 0 (hu_of hr) (em_var 3) em_int)) ssm_nil))))) ssm_nil)
  (ssm_cons (sm_if (tm_cmp op_gt o2_gt (em_ix (hu_of hr) rfl (em_own 0) em_int) em_int) (ssm_cons (sm_set 4 (em_op op_mod o2_mod (em_callTy (p_int) oN_int (by rfl) T.n_int bo_int (am_fz (em_ix (hu_of hr) rfl (em_own 0) em_int) am_nil)) (em_var 1)) sc__law_draw.nd)
  (ssm_cons (sm_put 0 (hu_of hr) (em_op op_fdiv o2_div (em_ix (hu_of hr) rfl (em_own 0) em_int) (em_var 1)) em_int)
  (ssm_one (sm_ret (em_var 4))))) ssm_nil)
  (ssm_cons (sm_put 0 (hu_of hr) (em_op p_add o2_add (em_ix (hu_of hr) rfl (em_own 0) em_int) em_int) em_int)
  (ssm_cons (sm_set 2 (em_op op_mod o2_mod (em_callTy (p_int) oN_int (by rfl) T.n_int bo_int (am_fz (em_op p_mul o2_mul (em_callTy (p_int) oN_int (by rfl) T.n_int bo_int (am_fz (em_op p_add o2_add (em_ix (hu_of hr) rfl (em_own 0) em_int) (em_op p_mul o2_mul em_int (em_ix (hu_of hr) rfl (em_own 0) em_int))) am_nil)) em_int) am_nil)) em_int) sc__law_draw.nd)
  (ssm_cons (sm_set 2 (em_op op_mod o2_mod (em_callTy (p_int) oN_int (by rfl) T.n_int bo_int (am_fz (em_op p_mul o2_mul (em_var 2) (em_op p_add o2_add (em_op op_fdiv o2_div (em_var 2) em_int) em_int)) am_nil)) em_int) sc__law_draw.nd)
  (ssm_cons (sm_set 2 (em_op op_mod o2_mod (em_callTy (p_int) oN_int (by rfl) T.n_int bo_int (am_fz (em_op p_mul o2_mul (em_var 2) (em_op p_add o2_add (em_op op_fdiv o2_div (em_var 2) em_int) em_int)) am_nil)) em_int) sc__law_draw.nd)
  (ssm_one (sm_ret (em_op op_mod o2_mod (em_callTy (p_int) oN_int (by rfl) T.n_int bo_int (am_fz (em_op op_fdiv o2_div (em_var 2) em_int) am_nil)) (em_var 1))))))))))
def m__law_some : MS := mRet (mOp2 gIx (mVar 1) (mCall false [.io, .fz] [.sl 0, .fz] f__law_draw (mSlot 0 (mCons (mOpN gLen (mCons (mVar 1) (mNil))) (mNil)))))
def f__law_some : List D → FR := fun ds => (runF 2 [0] .fz m__law_some ds).nox.cut [.io, .fz]
theorem F__law_some (T : Tx K mg z) : FnOk P w K mg base CX0 2 T.f__law_some T.fd__law_some ["hand", "things"] (SpM (Zz K z sc) [.io, .fz] .fz f__law_some) :=
  fn_ok (k := 1) (os := [(0, true)]) (io := [0]) rfl T.F__law_some sc__law_some rfl rfl rfl (by decide) fun cdv A outer s H E hr =>
  (ssm_one (sm_ret (em_ix (hu_of hr) rfl (em_var 1) (em_call (F__law_draw T) (hr.mono (by decide)) T.m__law_draw T.k__law_draw T.b__law_draw pass0 (am_slot 0 (am_fz (em_callB (p_len) oN_len (by rfl) T.n_len bo_len (am_fz (em_var 1) am_nil)) am_nil))))))
def T__law_mixed_1 : Rho → ER Bool := mT (mOp2 gGt (mOpN gLen (mCons (mVar 2) (mNil))) (mC (.int 0)))
def L__law_mixed_1 : MS := mDrop (mOM "list" gApp 3 (mCons (mOM "list" gPopAt 2 (mCons (mCall false [.io, .fz] [.sl 0, .fz] f__law_draw (mSlot 0 (mCons (mOpN gLen (mCons (mVar 2) (mNil))) (mNil)))) (mNil))) (mNil)))
def m__law_mixed : MS := mSeq (mPar 2 3 (mOpN gList (mCons (mVar 1) (mNil))) (mLst (mNil)))
  (mSeq (mWhile (T__law_mixed_1) (L__law_mixed_1) 100)
  (mRet (mMv 3)))
def f__law_mixed : List D → FR := fun ds => (runF 4 [0] .fz m__law_mixed ds).nox.cut [.io, .fz]
theorem F__law_mixed (T : Tx K mg z) : FnOk P w K mg base CX0 2 T.f__law_mixed T.fd__law_mixed ["hand", "things"] (SpM (Zz K z sc) [.io, .fz] .fz f__law_mixed) :=
  fn_ok (k := 1) (os := [(0, true), (2, true), (3, true)]) (io := [0]) rfl T.F__law_mixed sc__law_mixed rfl rfl rfl (by decide) fun cdv A outer s H E hr =>
  (ssm_cons (sm_par 2 3 (em_callTy (p_list rfl) (oN_list (.inr rfl)) (by rfl) T.n_list bo_list (am_fz (em_var 1) am_nil)) (em_lst .nw am_nil) rfl sc__law_mixed.nd)
  (ssm_cons (sm_while 100 PassesOwn.never (tm_cmp op_gt o2_gt (em_callB (p_len) oN_len (by rfl) T.n_len bo_len (am_bo (em_own 2) am_nil)) em_int) (ssm_one (sm_expr (em_om 3 PySem.F.plainAttrs_list PySem.F.slot_list_append PySem.F.type_list_append mt_append oO_app rfl (am_fz (em_om 2 PySem.F.plainAttrs_list PySem.F.slot_list_pop PySem.F.type_list_pop mt_popAt oO_popAt rfl (am_fz (em_call (F__law_draw T) (hr.mono (by decide)) T.m__law_draw T.k__law_draw T.b__law_draw pass0 (am_slot 0 (am_fz (em_callB (p_len) oN_len (by rfl) T.n_len bo_len (am_bo (em_own 2) am_nil)) am_nil))) am_nil)) am_nil)))))
  (ssm_one (sm_ret ((em_mv 3)).fr))))
def T__law_mixed_io_1 : Rho → ER Bool := mT (mOp2 gGt (mOpN gLen (mCons (mVar 2) (mNil))) (mC (.int 0)))
def L__law_mixed_io_1 : MS := mDrop (mOM "list" gApp 3 (mCons (mOM "list" gPopAt 2 (mCons (mCall false [.io, .fz] [.sl 0, .fz] f__law_draw (mSlot 0 (mCons (mOpN gLen (mCons (mVar 2) (mNil))) (mNil)))) (mNil))) (mNil)))
def m__law_mixed_io : MS := mSeq (mPar 2 3 (mOpN gList (mCons (mVar 1) (mNil))) (mLst (mNil)))
  (mSeq (mWhile (T__law_mixed_io_1) (L__law_mixed_io_1) 100)
  (mRet (mMv 3)))
def f__law_mixed_io : List D → FR := fun ds => (runF 4 [0, 1] .fz m__law_mixed_io ds).nox.cut [.io, .io]
theorem F__law_mixed_io (T : Tx K mg z) : FnOk P w K mg base CX0 2 T.f__law_mixed T.fd__law_mixed ["hand", "things"] (SpM (Zz K z sc) [.io, .io] .fz f__law_mixed_io) :=
  fn_ok (k := 1) (os := [(0, true), (1, true), (2, true), (3, true)]) (io := [0, 1]) rfl T.F__law_mixed sc__law_mixed rfl rfl rfl (by decide) fun cdv A outer s H E hr =>
  (ssm_cons (sm_par 2 3 (em_callTy (p_list rfl) (oN_list (.inr rfl)) (by rfl) T.n_list bo_list (am_bo (em_own 1) am_nil)) (em_lst .nw am_nil) rfl sc__law_mixed.nd)
  (ssm_cons (sm_while 100 PassesOwn.never (tm_cmp op_gt o2_gt (em_callB (p_len) oN_len (by rfl) T.n_len bo_len (am_bo (em_own 2) am_nil)) em_int) (ssm_one (sm_expr (em_om 3 PySem.F.plainAttrs_list PySem.F.slot_list_append PySem.F.type_list_append mt_append oO_app rfl (am_fz (em_om 2 PySem.F.plainAttrs_list PySem.F.slot_list_pop PySem.F.type_list_pop mt_popAt oO_popAt rfl (am_fz (em_call (F__law_draw T) (hr.mono (by decide)) T.m__law_draw T.k__law_draw T.b__law_draw pass0 (am_slot 0 (am_fz (em_callB (p_len) oN_len (by rfl) T.n_len bo_len (am_bo (em_own 2) am_nil)) am_nil))) am_nil)) am_nil)))))
  (ssm_one (sm_ret ((em_mv 3)).fr))))
def f__law_is_s : List D → FR := fun _ => .stuck
theorem F__law_is_s (T : Tx K mg z) : FnOk P w K mg base CX0 1 T.f__law_is T.fd__law_is ["said", "due"] (SpM (Zz K z sc) [.fz, .fz] .fz f__law_is_s) := fn_stuck (k := 0) T.F__law_is sc__law_is rfl
def C__law_is_0_1 : ME := mCall false [.fz, .fz] [.fz, .fz] f__law_is_s (mCons (mVar 2) (mCons (mVar 3) (mNil)))
def m__law_is_0 : MS := mSeq (mIf (mT (mOp1 (gIsiA (subA ["tuple", "list"])) (mVar 1))) (mSeq (mIf (mOrT (mT (mOp2 gNe (mOp1 (gIsi (subT "tuple") fun _ => none) (mVar 0)) (mOp1 (gIsi (subT "tuple") fun _ => none) (mVar 1)))) (mT (mOp2 gNe (mOp1 (gIsi (subT "list") fun _ => none) (mVar 0)) (mOp1 (gIsi (subT "list") fun _ => none) (mVar 1))))) (mRet (mC (.bl false))) (mNext))
  (mRet (mAndV (mOp2 gEq (mOpN gLen (mCons (mVar 0) (mNil))) (mOpN gLen (mCons (mVar 1) (mNil)))) (mOpN gAll (mCons (mLc ([("one", 2), ("other", 3)].map (·.2)) (bTup 2 (bCons (bName 2) (bCons (bName 3) (bNil)))) (mYes) (C__law_is_0_1) (mItA gZipA (mCons (mVar 0) (mCons (mVar 1) (mNil))))) (mNil)))))) (mNext))
  (mSeq (mIf (mOrT (mT (mOp2 gIsN (mVar 1) (mC .non))) (mT (mOp2 gIsN (mVar 0) (mC .non)))) (mRet (mAndV (mOp2 gIsN (mVar 1) (mC .non)) (mOp2 gIsN (mVar 0) (mC .non)))) (mNext))
  (mSeq (mIf (mOrT (mT (mOp2 gNe (mOp1 (gIsi (subT "bool") fun _ => none) (mVar 0)) (mOp1 (gIsi (subT "bool") fun _ => none) (mVar 1)))) (mT (mOp2 gNe (mOp1 (gIsi (subT "int") fun _ => none) (mVar 0)) (mOp1 (gIsi (subT "int") fun _ => none) (mVar 1))))) (mRet (mC (.bl false))) (mNext))
  (mRet (mAndV (mOp2 gEq (mOp1 (gIsi (subT "str") fun _ => none) (mVar 0)) (mOp1 (gIsi (subT "str") fun _ => none) (mVar 1))) (mOp2 gEq (mVar 0) (mVar 1))))))
def f__law_is_0 : List D → FR := fun ds => (runF 4 [] .fz m__law_is_0 ds).nox.cut [.fz, .fz]
theorem F__law_is_0 (T : Tx K mg z) : FnOk P w K mg base CX0 2 T.f__law_is T.fd__law_is ["said", "due"] (SpM (Zz K z sc) [.fz, .fz] .fz f__law_is_0) :=
  fn_ok (k := 1) (os := []) (io := []) rfl T.F__law_is sc__law_is rfl rfl rfl (by decide) fun cdv A outer s H E hr =>
  (ssm_cons (sm_if (tm_val (em_isiA (x := "tuple") (y := "list") "tuple" "list" k_tuple k_list rfl (em_var 1) (by rfl) T.n_tuple (by decide +kernel) (by rfl) T.n_list (by decide +kernel) T.n_isinstance)) (ssm_cons (sm_if ((wm_or (tm_cmp (op_vne _ hr.units) o2_ne (em_isiB "tuple" k_tuple rfl (em_var 0) (by rfl) T.n_tuple (by decide +kernel) T.n_isinstance) (em_isiB "tuple" k_tuple rfl (em_var 1) (by rfl) T.n_tuple (by decide +kernel) T.n_isinstance)) (wm_or1 (tm_cmp (op_vne _ hr.units) o2_ne (em_isiB "list" k_list rfl (em_var 0) (by rfl) T.n_list (by decide +kernel) T.n_isinstance) (em_isiB "list" k_list rfl (em_var 1) (by rfl) T.n_list (by decide +kernel) T.n_isinstance))))).pt (ssm_one (sm_ret em_bl)) ssm_nil)
  (ssm_one (sm_ret (em_and (em_cmp (op_veq _ hr.units) o2_eq (em_callB (p_len) oN_len (by rfl) T.n_len bo_len (am_fz (em_var 0) am_nil)) (em_callB (p_len) oN_len (by rfl) T.n_len bo_len (am_fz (em_var 1) am_nil))) (em_and1 (em_callB (cr_all rfl) oN_all (by rfl) T.n_all bo_all (am_bo ((ec_lc [("one", 2), ("other", 3)] rfl sc__law_is.nd (im_zipA (by rfl) T.n_zip (am_fz (em_var 0) (am_fz (em_var 1) am_nil))) (show BlkOk ["said", "due", "one", "other"] (defScope s__law_is) _ [("one", 2), ("other", 3)] from ⟨rfl, by decide +kernel, by decide +kernel, by decide +kernel, by decide +kernel⟩) (fun a n => (gm_tup rfl (gsm_cons (gm_name 2 sc__law_is.nd (hio := not_others (by decide))) (gsm_cons (gm_name 3 sc__law_is.nd (hio := not_others (by decide))) gsm_nil)))) (lenB_tup (lenB_cons (lenB_name 2) (lenB_cons (lenB_name 3) lenB_nil))) ifs_nil (fun a => (em_call (F__law_is_s T) (hr.mono (by decide)) T.m__law_is T.k__law_is T.b__law_is pass0 (am_fz (em_var 2) (am_fz (em_var 3) am_nil)))))).pe am_nil))))))) ssm_nil)
  (ssm_cons (sm_if ((wm_or (tm_cmp op_isN o2_isN (em_var 1) em_non) (wm_or1 (tm_cmp op_isN o2_isN (em_var 0) em_non)))).pt (ssm_one (sm_ret (em_and (em_cmp op_isN o2_isN (em_var 1) em_non) (em_and1 (em_cmp op_isN o2_isN (em_var 0) em_non))))) ssm_nil)
  (ssm_cons (sm_if ((wm_or (tm_cmp (op_vne _ hr.units) o2_ne (em_isiB "bool" k_bool rfl (em_var 0) (by rfl) T.n_bool (by decide +kernel) T.n_isinstance) (em_isiB "bool" k_bool rfl (em_var 1) (by rfl) T.n_bool (by decide +kernel) T.n_isinstance)) (wm_or1 (tm_cmp (op_vne _ hr.units) o2_ne (em_isiB "int" k_int rfl (em_var 0) (by rfl) T.n_int (by decide +kernel) T.n_isinstance) (em_isiB "int" k_int rfl (em_var 1) (by rfl) T.n_int (by decide +kernel) T.n_isinstance))))).pt (ssm_one (sm_ret em_bl)) ssm_nil)
  (ssm_one (sm_ret (em_and (em_cmp (op_veq _ hr.units) o2_eq (em_isiB "str" k_str rfl (em_var 0) (by rfl) T.n_str (by decide +kernel) T.n_isinstance) (em_isiB "str" k_str rfl (em_var 1) (by rfl) T.n_str (by decide +kernel) T.n_isinstance)) (em_and1 (em_cmp (op_veq _ hr.units) o2_eq (em_var 0) (em_var 1)))))))))
def C__law_is_1 : ME := mCall false [.fz, .fz] [.fz, .fz] f__law_is_0 (mCons (mVar 2) (mCons (mVar 3) (mNil)))
def m__law_is : MS := mSeq (mIf (mT (mOp1 (gIsiA (subA ["tuple", "list"])) (mVar 1))) (mSeq (mIf (mOrT (mT (mOp2 gNe (mOp1 (gIsi (subT "tuple") fun _ => none) (mVar 0)) (mOp1 (gIsi (subT "tuple") fun _ => none) (mVar 1)))) (mT (mOp2 gNe (mOp1 (gIsi (subT "list") fun _ => none) (mVar 0)) (mOp1 (gIsi (subT "list") fun _ => none) (mVar 1))))) (mRet (mC (.bl false))) (mNext))
  (mRet (mAndV (mOp2 gEq (mOpN gLen (mCons (mVar 0) (mNil))) (mOpN gLen (mCons (mVar 1) (mNil)))) (mOpN gAll (mCons (mLc ([("one", 2), ("other", 3)].map (·.2)) (bTup 2 (bCons (bName 2) (bCons (bName 3) (bNil)))) (mYes) (C__law_is_1) (mItA gZipA (mCons (mVar 0) (mCons (mVar 1) (mNil))))) (mNil)))))) (mNext))
  (mSeq (mIf (mOrT (mT (mOp2 gIsN (mVar 1) (mC .non))) (mT (mOp2 gIsN (mVar 0) (mC .non)))) (mRet (mAndV (mOp2 gIsN (mVar 1) (mC .non)) (mOp2 gIsN (mVar 0) (mC .non)))) (mNext))
  (mSeq (mIf (mOrT (mT (mOp2 gNe (mOp1 (gIsi (subT "bool") fun _ => none) (mVar 0)) (mOp1 (gIsi (subT "bool") fun _ => none) (mVar 1)))) (mT (mOp2 gNe (mOp1 (gIsi (subT "int") fun _ => none) (mVar 0)) (mOp1 (gIsi (subT "int") fun _ => none) (mVar 1))))) (mRet (mC (.bl false))) (mNext))
  (mRet (mAndV (mOp2 gEq (mOp1 (gIsi (subT "str") fun _ => none) (mVar 0)) (mOp1 (gIsi (subT "str") fun _ => none) (mVar 1))) (mOp2 gEq (mVar 0) (mVar 1))))))
def f__law_is : List D → FR := fun ds => (runF 4 [] .fz m__law_is ds).nox.cut [.fz, .fz]
theorem F__law_is (T : Tx K mg z) : FnOk P w K mg base CX0 3 T.f__law_is T.fd__law_is ["said", "due"] (SpM (Zz K z sc) [.fz, .fz] .fz f__law_is) :=
  fn_ok (k := 2) (os := []) (io := []) rfl T.F__law_is sc__law_is rfl rfl rfl (by decide) fun cdv A outer s H E hr =>
  (ssm_cons (sm_if (tm_val (em_isiA (x := "tuple") (y := "list") "tuple" "list" k_tuple k_list rfl (em_var 1) (by rfl) T.n_tuple (by decide +kernel) (by rfl) T.n_list (by decide +kernel) T.n_isinstance)) (ssm_cons (sm_if ((wm_or (tm_cmp (op_vne _ hr.units) o2_ne (em_isiB "tuple" k_tuple rfl (em_var 0) (by rfl) T.n_tuple (by decide +kernel) T.n_isinstance) (em_isiB "tuple" k_tuple rfl (em_var 1) (by rfl) T.n_tuple (by decide +kernel) T.n_isinstance)) (wm_or1 (tm_cmp (op_vne _ hr.units) o2_ne (em_isiB "list" k_list rfl (em_var 0) (by rfl) T.n_list (by decide +kernel) T.n_isinstance) (em_isiB "list" k_list rfl (em_var 1) (by rfl) T.n_list (by decide +kernel) T.n_isinstance))))).pt (ssm_one (sm_ret em_bl)) ssm_nil)
  (ssm_one (sm_ret (em_and (em_cmp (op_veq _ hr.units) o2_eq (em_callB (p_len) oN_len (by rfl) T.n_len bo_len (am_fz (em_var 0) am_nil)) (em_callB (p_len) oN_len (by rfl) T.n_len bo_len (am_fz (em_var 1) am_nil))) (em_and1 (em_callB (cr_all rfl) oN_all (by rfl) T.n_all bo_all (am_bo ((ec_lc [("one", 2), ("other", 3)] rfl sc__law_is.nd (im_zipA (by rfl) T.n_zip (am_fz (em_var 0) (am_fz (em_var 1) am_nil))) (show BlkOk ["said", "due", "one", "other"] (defScope s__law_is) _ [("one", 2), ("other", 3)] from ⟨rfl, by decide +kernel, by decide +kernel, by decide +kernel, by decide +kernel⟩) (fun a n => (gm_tup rfl (gsm_cons (gm_name 2 sc__law_is.nd (hio := not_others (by decide))) (gsm_cons (gm_name 3 sc__law_is.nd (hio := not_others (by decide))) gsm_nil)))) (lenB_tup (lenB_cons (lenB_name 2) (lenB_cons (lenB_name 3) lenB_nil))) ifs_nil (fun a => (em_call (F__law_is_0 T) (hr.mono (by decide)) T.m__law_is T.k__law_is T.b__law_is pass0 (am_fz (em_var 2) (am_fz (em_var 3) am_nil)))))).pe am_nil))))))) ssm_nil)
  (ssm_cons (sm_if ((wm_or (tm_cmp op_isN o2_isN (em_var 1) em_non) (wm_or1 (tm_cmp op_isN o2_isN (em_var 0) em_non)))).pt (ssm_one (sm_ret (em_and (em_cmp op_isN o2_isN (em_var 1) em_non) (em_and1 (em_cmp op_isN o2_isN (em_var 0) em_non))))) ssm_nil)
  (ssm_cons (sm_if ((wm_or (tm_cmp (op_vne _ hr.units) o2_ne (em_isiB "bool" k_bool rfl (em_var 0) (by rfl) T.n_bool (by decide +kernel) T.n_isinstance) (em_isiB "bool" k_bool rfl (em_var 1) (by rfl) T.n_bool (by decide +kernel) T.n_isinstance)) (wm_or1 (tm_cmp (op_vne _ hr.units) o2_ne (em_isiB "int" k_int rfl (em_var 0) (by rfl) T.n_int (by decide +kernel) T.n_isinstance) (em_isiB "int" k_int rfl (em_var 1) (by rfl) T.n_int (by decide +kernel) T.n_isinstance))))).pt (ssm_one (sm_ret em_bl)) ssm_nil)
  (ssm_one (sm_ret (em_and (em_cmp (op_veq _ hr.units) o2_eq (em_isiB "str" k_str rfl (em_var 0) (by rfl) T.n_str (by decide +kernel) T.n_isinstance) (em_isiB "str" k_str rfl (em_var 1) (by rfl) T.n_str (by decide +kernel) T.n_isinstance)) (em_and1 (em_cmp (op_veq _ hr.units) o2_eq (em_var 0) (em_var 1)))))))))
def L__law_name_1 : MS := mSet 6 (mOp2 gAdd (mVar 6) (mOp2 gIx (mVar 3) (mCall false [.io, .fz] [.sl 0, .fz] f__law_draw (mSlot 0 (mCons (mC (.int 26)) (mNil))))))
def L__law_name_2 : MS := mSeq (mSet 6 (mC (.str "")))
  (mSeq (mIf (mT (mOp2 gNe (mVar 2) (mC (.str "")))) (mSeq (mSet 8 (mCall false [.io, .fz] [.sl 0, .fz] f__law_draw (mSlot 0 (mCons (mOpN gLen (mCons (mVar 2) (mNil))) (mNil)))))
  (mSet 6 (mOp2 gAdd (mOp2 gAdd (mSl3 .fz (mVar 2) (mNoPart) (mPart (mVar 8))) (mOp2 gIx (mVar 3) (mCall false [.io, .fz] [.sl 0, .fz] f__law_draw (mSlot 0 (mCons (mC (.int 26)) (mNil)))))) (mSl3 .fz (mVar 2) (mPart (mOp2 gAdd (mVar 8) (mC (.int 1)))) (mNoPart))))) (mFor (bName 8) (mItA gRng1 (mCons (mOp2 gAdd (mC (.int 1)) (mCall false [.io, .fz] [.sl 0, .fz] f__law_draw (mSlot 0 (mCons (mC (.int 8)) (mNil))))) (mNil))) (L__law_name_1)))
  (mIf (mT (mOp2 gNotIn (mVar 6) (mVar 1))) (mRet (mVar 6)) (mNext)))
def L__law_name_3 : MS := mIf (mT (mOp2 gNotIn (mOp2 gAdd (mVar 5) (mVar 7)) (mVar 1))) (mRet (mOp2 gAdd (mVar 5) (mVar 7))) (mNext)
def L__law_name_4 : MS := mFor (bName 7) (mIt iAny (mVar 3)) (L__law_name_3)
def m__law_name : MS := mSeq (mSet 3 (mC (.str "abcdefghijklmnopqrstuvwxyz")))
  (mSeq (mFor (bName 4) (mItA gRng1 (mCons (mC (.int 30)) (mNil))) (L__law_name_2))
  (mSeq (mFor (bName 5) (mIt iAny (mVar 3)) (L__law_name_4))
  (mRet (mC (.str "zzz")))))
def f__law_name : List D → FR := fun ds => (runF 9 [0, 1] .fz m__law_name ds).nox.cut [.io, .io, .fz]
theorem F__law_name (T : Tx K mg z) : FnOk P w K mg base CX0 2 T.f__law_name T.fd__law_name ["hand", "taken", "base"] (SpM (Zz K z sc) [.io, .io, .fz] .fz f__law_name) :=
  fn_ok (k := 1) (os := [(0, true), (1, true)]) (io := [0, 1]) rfl T.F__law_name sc__law_name rfl rfl rfl (by decide) fun cdv A outer s H E hr =>
  (ssm_cons (sm_set 3 em_str sc__law_name.nd)
  (ssm_cons (sm_for PassesOwn.never rfl (im_rng1 (by rfl) T.n_range (am_fz em_int am_nil)) (gm_name 4 sc__law_name.nd) (ssm_cons (sm_set 6 em_str sc__law_name.nd)
  (ssm_cons (sm_if (tm_cmp (op_vne _ hr.units) o2_ne (em_var 2) em_str) (ssm_cons (sm_set 8 (em_call (F__law_draw T) (hr.mono (by decide)) T.m__law_draw T.k__law_draw T.b__law_draw pass0 (am_slot 0 (am_fz (em_callB (p_len) oN_len (by rfl) T.n_len bo_len (am_fz (em_var 2) am_nil)) am_nil))) sc__law_name.nd)
  (ssm_one (sm_set 6 (em_op p_add o2_add (em_op p_add o2_add (em_slice .fz rfl (em_var 2) om_none (om_some (em_var 8))) (em_ix (hu_of hr) rfl (em_var 3) (em_call (F__law_draw T) (hr.mono (by decide)) T.m__law_draw T.k__law_draw T.b__law_draw pass0 (am_slot 0 (am_fz em_int am_nil))))) (em_slice .fz rfl (em_var 2) (om_some (em_op p_add o2_add (em_var 8) em_int)) om_none)) sc__law_name.nd))) (ssm_one (sm_for PassesOwn.never rfl (im_rng1 (by rfl) T.n_range (am_fz (em_op p_add o2_add em_int (em_call (F__law_draw T) (hr.mono (by decide)) T.m__law_draw T.k__law_draw T.b__law_draw pass0 (am_slot 0 (am_fz em_int am_nil)))) am_nil)) (gm_name 8 sc__law_name.nd) (ssm_one (sm_set 6 (em_op p_add o2_add (em_var 6) (em_ix (hu_of hr) rfl (em_var 3) (em_call (F__law_draw T) (hr.mono (by decide)) T.m__law_draw T.k__law_draw T.b__law_draw pass0 (am_slot 0 (am_fz em_int am_nil))))) sc__law_name.nd)))))
  (ssm_one (sm_if (tm_cmp (p_notIn _ (hu66 hr)) o2_notIn (em_var 6) (em_own 1)) (ssm_one (sm_ret (em_var 6))) ssm_nil)))))
  (ssm_cons (sm_for PassesOwn.never rfl (im_any (em_var 3)) (gm_name 5 sc__law_name.nd) (ssm_one (sm_for PassesOwn.never rfl (im_any (em_var 3)) (gm_name 7 sc__law_name.nd) (ssm_one (sm_if (tm_cmp (p_notIn _ (hu66 hr)) o2_notIn (em_op p_add o2_add (em_var 5) (em_var 7)) (em_own 1)) (ssm_one (sm_ret (em_op p_add o2_add (em_var 5) (em_var 7)))) ssm_nil)))))
  (ssm_one (sm_ret em_str)))))
def L__law_names_1 : MS := mDrop (mOM "list" gApp 2 (mCons (mCall false [.io, .io, .fz] [.sl 0, .sl 2, .fz] f__law_name (mSlot 0 (mSlot 2 (mCons (mC (.str "")) (mNil))))) (mNil)))
def m__law_names : MS := mSeq (mSet 2 (mLst (mNil)))
  (mSeq (mFor (bName 3) (mItA gRng1 (mCons (mVar 1) (mNil))) (L__law_names_1))
  (mRet (mMv 2)))
def f__law_names : List D → FR := fun ds => (runF 4 [0] .fz m__law_names ds).nox.cut [.io, .fz]
theorem F__law_names (T : Tx K mg z) : FnOk P w K mg base CX0 3 T.f__law_names T.fd__law_names ["hand", "many"] (SpM (Zz K z sc) [.io, .fz] .fz f__law_names) :=
  fn_ok (k := 2) (os := [(0, true), (2, true)]) (io := [0]) rfl T.F__law_names sc__law_names rfl rfl rfl (by decide) fun cdv A outer s H E hr =>
  (ssm_cons (sm_setO 2 (em_lst .nw am_nil) sc__law_names.nd)
  (ssm_cons (sm_for PassesOwn.never rfl (im_rng1 (by rfl) T.n_range (am_fz (em_var 1) am_nil)) (gm_name 3 sc__law_names.nd) (ssm_one (sm_expr (em_om 2 PySem.F.plainAttrs_list PySem.F.slot_list_append PySem.F.type_list_append mt_append oO_app rfl (am_fz (em_call (F__law_name T) (hr.mono (by decide)) T.m__law_name T.k__law_name T.b__law_name pass0 (am_slot 0 (am_slot 2 (am_fz em_str am_nil)))) am_nil)))))
  (ssm_one (sm_ret ((em_mv 2)).fr))))
def L__law_web_1 : MS := mDrop (mOM "list" gApp 4 (mCons (mOpN gTuple (mCons (mCall false [.io, .fz] [.sl 0, .fz] f__law_mixed (mSlot 0 (mCons (mLst (mCons (mOp2 gIx (mVar 3) (mCall false [.io, .fz] [.sl 0, .fz] f__law_draw (mSlot 0 (mCons (mVar 5) (mNil))))) (mCons (mOp2 gIx (mVar 3) (mVar 5)) (mNil)))) (mNil)))) (mNil))) (mNil)))
def L__law_web_2 : MS := mDrop (mOM "list" gApp 4 (mCons (mTup (mCons (mCall false [.io, .fz] [.sl 0, .fz] f__law_some (mSlot 0 (mCons (mVar 3) (mNil)))) (mCons (mCall false [.io, .fz] [.sl 0, .fz] f__law_some (mSlot 0 (mCons (mVar 3) (mNil)))) (mNil)))) (mNil)))
def m__law_web : MS := mSeq (mSet 3 (mCall false [.io, .fz] [.sl 0, .fz] f__law_names (mSlot 0 (mCons (mOp2 gAdd (mC (.int 1)) (mCall false [.io, .fz] [.sl 0, .fz] f__law_draw (mSlot 0 (mCons (mVar 1) (mNil))))) (mNil)))))
  (mSeq (mSet 4 (mLst (mNil)))
  (mSeq (mFor (bName 5) (mItA gRng2 (mCons (mC (.int 1)) (mCons (mIfE (mT (mOp2 gGt (mCall false [.io, .fz] [.sl 0, .fz] f__law_draw (mSlot 0 (mCons (mC (.int 4)) (mNil)))) (mC (.int 0)))) (mOpN gLen (mCons (mVar 3) (mNil))) (mC (.int 1))) (mNil)))) (L__law_web_1))
  (mSeq (mFor (bName 6) (mItA gRng1 (mCons (mCall false [.io, .fz] [.sl 0, .fz] f__law_draw (mSlot 0 (mCons (mOp2 gAdd (mVar 2) (mC (.int 1))) (mNil)))) (mNil))) (L__law_web_2))
  (mSeq (mSet 4 (mSl3 .nw (mCall false [.io, .io] [.sl 0, .sl 4] f__law_mixed_io (mSlot 0 (mSlot 4 (mNil)))) (mNoPart) (mPart (mVar 2))))
  (mRet (mTup (mCons (mVar 3) (mCons (mOpN gDict (mCons (mOpN gListZip (mCons (mCall false [.io, .fz] [.sl 0, .fz] f__law_names (mSlot 0 (mCons (mOpN gLen (mCons (mVar 4) (mNil))) (mNil)))) (mCons (mVar 4) (mNil)))) (mNil))) (mNil)))))))))
def f__law_web : List D → FR := fun ds => (runF 7 [0] .fz m__law_web ds).nox.cut [.io, .fz, .fz]
theorem F__law_web (T : Tx K mg z) : FnOk P w K mg base CX0 4 T.f__law_web T.fd__law_web ["hand", "most", "ties"] (SpM (Zz K z sc) [.io, .fz, .fz] .fz f__law_web) :=
  fn_ok (k := 3) (os := [(0, true), (4, true)]) (io := [0]) rfl T.F__law_web sc__law_web rfl rfl rfl (by decide) fun cdv A outer s H E hr =>
  (ssm_cons (sm_set 3 (em_call (F__law_names T) (hr.mono (by decide)) T.m__law_names T.k__law_names T.b__law_names pass0 (am_slot 0 (am_fz (em_op p_add o2_add em_int (em_call (F__law_draw T) (hr.mono (by decide)) T.m__law_draw T.k__law_draw T.b__law_draw pass0 (am_slot 0 (am_fz (em_var 1) am_nil)))) am_nil))) sc__law_web.nd)
  (ssm_cons (sm_setO 4 (em_lst .nw am_nil) sc__law_web.nd)
  (ssm_cons (sm_for PassesOwn.never rfl (im_rng2 (by rfl) T.n_range (am_fz em_int (am_fz (em_if (tm_cmp op_gt o2_gt (em_call (F__law_draw T) (hr.mono (by decide)) T.m__law_draw T.k__law_draw T.b__law_draw pass0 (am_slot 0 (am_fz em_int am_nil))) em_int) (em_callB (p_len) oN_len (by rfl) T.n_len bo_len (am_fz (em_var 3) am_nil)) em_int) am_nil))) (gm_name 5 sc__law_web.nd) (ssm_one (sm_expr (em_om 4 PySem.F.plainAttrs_list PySem.F.slot_list_append PySem.F.type_list_append mt_append oO_app rfl (am_fz (em_callTy (p_tuple) oN_tuple (by rfl) T.n_tuple bo_tuple (am_fz (em_call (F__law_mixed T) (hr.mono (by decide)) T.m__law_mixed T.k__law_mixed T.b__law_mixed pass0 (am_slot 0 (am_fz (em_lst .fz (am_fz (em_ix (hu_of hr) rfl (em_var 3) (em_call (F__law_draw T) (hr.mono (by decide)) T.m__law_draw T.k__law_draw T.b__law_draw pass0 (am_slot 0 (am_fz (em_var 5) am_nil)))) (am_fz (em_ix (hu_of hr) rfl (em_var 3) (em_var 5)) am_nil))) am_nil))) am_nil)) am_nil)))))
  (ssm_cons (sm_for PassesOwn.never rfl (im_rng1 (by rfl) T.n_range (am_fz (em_call (F__law_draw T) (hr.mono (by decide)) T.m__law_draw T.k__law_draw T.b__law_draw pass0 (am_slot 0 (am_fz (em_op p_add o2_add (em_var 2) em_int) am_nil))) am_nil)) (gm_name 6 sc__law_web.nd) (ssm_one (sm_expr (em_om 4 PySem.F.plainAttrs_list PySem.F.slot_list_append PySem.F.type_list_append mt_append oO_app rfl (am_fz (em_tup (am_fz (em_call (F__law_some T) (hr.mono (by decide)) T.m__law_some T.k__law_some T.b__law_some pass0 (am_slot 0 (am_fz (em_var 3) am_nil))) (am_fz (em_call (F__law_some T) (hr.mono (by decide)) T.m__law_some T.k__law_some T.b__law_some pass0 (am_slot 0 (am_fz (em_var 3) am_nil))) am_nil))) am_nil)))))
  (ssm_cons (sm_setO 4 (em_slice .nw rfl (em_call (F__law_mixed_io T) (hr.mono (by decide)) T.m__law_mixed T.k__law_mixed T.b__law_mixed pass0 (am_slot 0 (am_slot 4 am_nil))) om_none (om_some (em_var 2))) sc__law_web.nd)
  (ssm_one (sm_ret (em_tup (am_fz (em_var 3) (am_fz (em_callTy (p_dict rfl) (oN_dict (.inl rfl)) (by rfl) T.n_dict bo_dict (am_fz (em_listZip rfl (.inl rfl) (by rfl) T.n_list (by rfl) T.n_zip (am_fz (em_call (F__law_names T) (hr.mono (by decide)) T.m__law_names T.k__law_names T.b__law_names pass0 (am_slot 0 (am_fz (em_callB (p_len) oN_len (by rfl) T.n_len bo_len (am_bo (em_own 4) am_nil)) am_nil))) (am_bo (em_own 4) am_nil))) am_nil)) am_nil))))))))))
def m__law_web_of : MS := mRet (mMake false "Web" [.fz, .fz] [.fz, .fz] f_Web___init__ (mCons (mOpN gList (mCons (mOp2 gIx (mVar 0) (mC (.int 0))) (mNil))) (mCons (mOpN gDict (mCons (mOp2 gIx (mVar 0) (mC (.int 1))) (mNil))) (mNil))))
def f__law_web_of : List D → FR := fun ds => (runF 1 [] .fz m__law_web_of ds).nox.cut [.fz]
theorem F__law_web_of (T : Tx K mg z) : FnOk P w K mg base CX0 6 T.f__law_web_of T.fd__law_web_of ["net"] (SpM (Zz K z sc) [.fz] .fz f__law_web_of) :=
  fn_ok (k := 5) (os := []) (io := []) rfl T.F__law_web_of sc__law_web_of rfl rfl rfl (by decide) fun cdv A outer s H E hr =>
  (ssm_one (sm_ret ((em_make "Web" T.mk_Web (F_Web___init__ T) (hr.mono (by decide)) T.mc_Web T.b_Web___init__ pass0 (am_fz (em_callTy (p_list rfl) (oN_list (.inl rfl)) (by rfl) T.n_list bo_list (am_fz (em_ix (hu_of hr) rfl (em_var 0) em_int) am_nil)) (am_fz (em_callTy (p_dict rfl) (oN_dict (.inl rfl)) (by rfl) T.n_dict bo_dict (am_fz (em_ix (hu_of hr) rfl (em_var 0) em_int) am_nil)) am_nil)))).fr))
def C__law_is_turning_1 : ME := mOp1 (gIsi (subT "str") fun _ => none) (mVar 3)
def L__law_is_turning_1 : MS := mSeq (mIf (mOrT (mT (mOp2 gNotIn (mVar 2) (mVar 1))) (mOrT (mNotT (mT (mOp1 (gIsi (subT "tuple") fun _ => none) (mOp2 gIx (mVar 1) (mVar 2))))) (mT (mOp2 gNe (mOpN gLen (mCons (mOp2 gIx (mVar 1) (mVar 2)) (mNil))) (mC (.int 2)))))) (mRet (mC (.bl false))) (mNext))
  (mIf (mOrT (mNotT (mT (mOpN gAll (mCons (mLc ([("one", 3)].map (·.2)) (bName 3) (mYes) (C__law_is_turning_1) (mIt iAny (mOp2 gIx (mVar 1) (mVar 2)))) (mNil))))) (mT (mOp2 gNe (mOpN gSort (mCons (mOp2 gIx (mVar 1) (mVar 2)) (mNil))) (mOpN gSort (mCons (mOp2 gIx (mOp2 gIx (mVar 0) (mC (.int 1))) (mVar 2)) (mNil)))))) (mRet (mC (.bl false))) (mNext))
def m__law_is_turning : MS := mSeq (mIf (mOrT (mNotT (mT (mOp1 (gIsi (subT "dict") fun _ => none) (mVar 1)))) (mT (mOp2 gNe (mOpN gLen (mCons (mVar 1) (mNil))) (mOpN gLen (mCons (mOp2 gIx (mVar 0) (mC (.int 1))) (mNil)))))) (mRet (mC (.bl false))) (mNext))
  (mSeq (mForD (bName 2) (mdIx 0 1) (L__law_is_turning_1))
  (mRet (mC (.bl true))))
def f__law_is_turning : List D → FR := fun ds => (runF 4 [] .fz m__law_is_turning ds).nox.cut [.fz, .fz]
theorem F__law_is_turning (T : Tx K mg z) : FnOk P w K mg base CX0 1 T.f__law_is_turning T.fd__law_is_turning ["net", "thing"] (SpM (Zz K z sc) [.fz, .fz] .fz f__law_is_turning) :=
  fn_ok (k := 0) (os := []) (io := []) rfl T.F__law_is_turning sc__law_is_turning rfl rfl rfl (by decide) fun cdv A outer s H E hr =>
  (ssm_cons (sm_if ((wm_or (tm_not (tm_val (em_isiB "dict" k_dict rfl (em_var 1) (by rfl) T.n_dict (by decide +kernel) T.n_isinstance))) (wm_or1 (tm_cmp (op_vne _ hr.units) o2_ne (em_callB (p_len) oN_len (by rfl) T.n_len bo_len (am_fz (em_var 1) am_nil)) (em_callB (p_len) oN_len (by rfl) T.n_len bo_len (am_fz (em_ix (hu_of hr) rfl (em_var 0) em_int) am_nil)))))).pt (ssm_one (sm_ret em_bl)) ssm_nil)
  (ssm_cons (sm_forD PassesOwn.never rfl (dm_ix 0 1 rfl (hu_of hr) pe_int) (gm_name 2 sc__law_is_turning.nd) (ssm_cons (sm_if ((wm_or (tm_cmp (p_notIn _ (hu66 hr)) o2_notIn (em_var 2) (em_var 1)) (wm_or (tm_not (tm_val (em_isiB "tuple" k_tuple rfl (em_ix (hu_of hr) rfl (em_var 1) (em_var 2)) (by rfl) T.n_tuple (by decide +kernel) T.n_isinstance))) (wm_or1 (tm_cmp (op_vne _ hr.units) o2_ne (em_callB (p_len) oN_len (by rfl) T.n_len bo_len (am_fz (em_ix (hu_of hr) rfl (em_var 1) (em_var 2)) am_nil)) em_int))))).pt (ssm_one (sm_ret em_bl)) ssm_nil)
  (ssm_one (sm_if ((wm_or (tm_not (tm_val (em_callB (cr_all rfl) oN_all (by rfl) T.n_all bo_all (am_bo ((ec_lc [("one", 3)] rfl sc__law_is_turning.nd (im_any (em_ix (hu_of hr) rfl (em_var 1) (em_var 2))) (show BlkOk ["net", "thing", "name", "one"] (defScope s__law_is_turning) _ [("one", 3)] from ⟨rfl, by decide +kernel, by decide +kernel, by decide +kernel, by decide +kernel⟩) (fun a n => (gm_name 3 sc__law_is_turning.nd (hio := not_others (by decide)))) (lenB_name 3) ifs_nil (fun a => (em_isiB "str" k_str rfl (em_var 3) (by rfl) T.n_str (by decide +kernel) T.n_isinstance)))).pe am_nil)))) (wm_or1 (tm_cmp (op_vne _ hr.units) o2_ne (em_callB (p_sorted rfl) (oN_sort (.inl rfl)) (by rfl) T.n_sorted bo_sorted (am_fz (em_ix (hu_of hr) rfl (em_var 1) (em_var 2)) am_nil)) (em_callB (p_sorted rfl) (oN_sort (.inl rfl)) (by rfl) T.n_sorted bo_sorted (am_fz (em_ix (hu_of hr) rfl (em_ix (hu_of hr) rfl (em_var 0) em_int) (em_var 2)) am_nil)))))).pt (ssm_one (sm_ret em_bl)) ssm_nil))))
  (ssm_one (sm_ret em_bl))))
def T__law_is_even_1 : Rho → ER Bool := mT (mOp2 gEq (mOp2 gIx (mOp2 gIx (mVar 1) (mVar 5)) (mC (.int 0))) (mVar 2))
def C__law_is_even_1 : ME := mVar 5
def T__law_is_even_2 : Rho → ER Bool := mT (mOp2 gEq (mOp2 gIx (mOp2 gIx (mVar 1) (mVar 5)) (mC (.int 1))) (mVar 2))
def C__law_is_even_2 : ME := mVar 5
def L__law_is_even_1 : MS := mSeq (mSet 3 (mOpN gLen (mCons (mLc ([("name", 5)].map (·.2)) (bName 5) (T__law_is_even_1) (C__law_is_even_1) (mKeys (mdVar 1))) (mNil))))
  (mSeq (mSet 4 (mOpN gLen (mCons (mLc ([("name", 5)].map (·.2)) (bName 5) (T__law_is_even_2) (C__law_is_even_2) (mKeys (mdVar 1))) (mNil))))
  (mIf (mT (mOp2 gGt (mOpN gAbs (mCons (mOp2 gSub (mVar 4) (mVar 3)) (mNil))) (mC (.int 1)))) (mRet (mC (.bl false))) (mNext)))
def m__law_is_even : MS := mSeq (mFor (bName 2) (mIt iAny (mOp2 gIx (mVar 0) (mC (.int 0)))) (L__law_is_even_1))
  (mRet (mC (.bl true)))
def f__law_is_even : List D → FR := fun ds => (runF 6 [] .fz m__law_is_even ds).nox.cut [.fz, .fz]
theorem F__law_is_even (T : Tx K mg z) : FnOk P w K mg base CX0 1 T.f__law_is_even T.fd__law_is_even ["net", "turning"] (SpM (Zz K z sc) [.fz, .fz] .fz f__law_is_even) :=
  fn_ok (k := 0) (os := []) (io := []) rfl T.F__law_is_even sc__law_is_even rfl rfl rfl (by decide) fun cdv A outer s H E hr =>
  (ssm_cons (sm_for PassesOwn.never rfl (im_any (em_ix (hu_of hr) rfl (em_var 0) em_int)) (gm_name 2 sc__law_is_even.nd) (ssm_cons (sm_set 3 (em_callB (p_len) oN_len (by rfl) T.n_len bo_len (am_bo ((ec_lcD [("name", 5)] rfl sc__law_is_even.nd (dm_var 1) (show BlkOk ["net", "turning", "point", "less", "more", "name"] (defScope s__law_is_even) _ [("name", 5)] from ⟨rfl, by decide +kernel, by decide +kernel, by decide +kernel, by decide +kernel⟩) (fun a n => (gm_name 5 sc__law_is_even.nd (hio := not_others (by decide)))) (lenB_name 5) (ifs_one fun a => (tm_cmp (op_veq _ hr.units) o2_eq (em_ix (hu_of hr) rfl (em_ix (hu_of hr) rfl (em_var 1) (em_var 5)) em_int) (em_var 2))) (fun a => (em_var 5)))).pe am_nil)) sc__law_is_even.nd)
  (ssm_cons (sm_set 4 (em_callB (p_len) oN_len (by rfl) T.n_len bo_len (am_bo ((ec_lcD [("name", 5)] rfl sc__law_is_even.nd (dm_var 1) (show BlkOk ["net", "turning", "point", "less", "more", "name"] (defScope s__law_is_even) _ [("name", 5)] from ⟨rfl, by decide +kernel, by decide +kernel, by decide +kernel, by decide +kernel⟩) (fun a n => (gm_name 5 sc__law_is_even.nd (hio := not_others (by decide)))) (lenB_name 5) (ifs_one fun a => (tm_cmp (op_veq _ hr.units) o2_eq (em_ix (hu_of hr) rfl (em_ix (hu_of hr) rfl (em_var 1) (em_var 5)) em_int) (em_var 2))) (fun a => (em_var 5)))).pe am_nil)) sc__law_is_even.nd)
  (ssm_one (sm_if (tm_cmp op_gt o2_gt (em_callB (call_abs) oN_abs (by rfl) T.n_abs bo_abs (am_fz (em_op op_sub o2_sub (em_var 4) (em_var 3)) am_nil)) em_int) (ssm_one (sm_ret em_bl)) ssm_nil)))))
  (ssm_one (sm_ret em_bl)))
def L__law_net_right_1 : MS := mIf (mOrT (mNotT (mT (mCall false [.fz, .fz] [.fz, .fz] f__law_is_turning (mCons (mVar 0) (mCons (mVar 2) (mNil)))))) (mOrT (mT (mOp2 gNotB (mCall false [.fz, .fz] [.fz, .fz] f_is_turning (mCons (mVar 1) (mCons (mVar 2) (mNil)))) (mC (.bl true)))) (mNotT (mT (mCall false [.fz, .fz] [.fz, .fz] f__law_is_even (mCons (mVar 0) (mCons (mVar 2) (mNil)))))))) (mRet (mC (.bl false))) (mNext)
def L__law_net_right_2 : MS := mIf (mT (mOp2 gNe (mOp2 gIx (mOp2 gIx (mOp2 gIx (mVar 0) (mC (.int 1))) (mVar 5)) (mC (.int 0))) (mOp2 gIx (mOp2 gIx (mOp2 gIx (mVar 0) (mC (.int 1))) (mVar 5)) (mC (.int 1))))) (mPut 4 (mOp2 gIx (mOp2 gIx (mVar 0) (mC (.int 1))) (mVar 5)) (mVar 5)) (mNext)
def C__law_net_right_1 : ME := mCall false [.fz, .fz] [.fz, .fz] f__law_is (mCons (mOp2 gIx (mVar 6) (mVar 5)) (mCons (mOp2 gIx (mVar 2) (mVar 5)) (mNil)))
def m__law_net_right : MS := mSeq (mSet 1 (mCall false [.fz] [.fz] f__law_web_of (mCons (mVar 0) (mNil))))
  (mSeq (mFor (bName 2) (mIt iAny (mTup (mCons (mCall false [.fz] [.fz] f_even_turning (mCons (mVar 1) (mNil))) (mCons (mCall false [.fz] [.fz] f_even_turning (mCons (mCall false [.fz] [.fz] f__law_web_of (mCons (mVar 0) (mNil))) (mNil))) (mNil))))) (L__law_net_right_1))
  (mSeq (mPar 3 4 (mCall false [.fz, .fz] [.fz, .fz] f_arrows_of (mCons (mVar 1) (mCons (mVar 2) (mNil)))) (mC (.dct [])))
  (mSeq (mForD (bName 5) (mdIx 0 1) (L__law_net_right_2))
  (mSeq (mSet 6 (mMeth false "Arrows" "arrows" [] [] f_Arrows_arrows (mVar 3) mNil))
  (mSeq (mIf (mOrT (mNotT (mT (mCall false [.fz, .fz] [.fz, .fz] f__law_is (mCons (mMeth false "Arrows" "places" [] [] f_Arrows_places (mVar 3) mNil) (mCons (mOpN gSort (mCons (mOp2 gIx (mVar 0) (mC (.int 0))) (mNil))) (mNil)))))) (mT (mOp2 gNe (mOpN gSort (mCons (mOpN gList (mCons (mVar 6) (mNil))) (mNil))) (mOpN gSort (mCons (mOpN gList (mCons (mVar 4) (mNil))) (mNil)))))) (mRet (mC (.bl false))) (mNext))
  (mSeq (mIf (mNotT (mT (mOpN gAll (mCons (mLc ([("name", 5)].map (·.2)) (bName 5) (mYes) (C__law_net_right_1) (mKeys (mdVar 4))) (mNil))))) (mRet (mC (.bl false))) (mNext))
  (mRet (mOp2 (gOwnEq "Web" f_Web___eq__) (mCall false [.fz] [.fz] f_under_web (mCons (mVar 3) (mNil))) (mMake false "Web" [.fz, .fz] [.fz, .fz] f_Web___init__ (mCons (mOpN gList (mCons (mOp2 gIx (mVar 0) (mC (.int 0))) (mNil))) (mCons (mMv 4) (mNil))))))))))))
def f__law_net_right : List D → FR := fun ds => (runF 7 [] .fz m__law_net_right ds).nox.cut [.fz]
theorem F__law_net_right (T : Tx K mg z) : FnOk P w K mg base CX0 7 T.f__law_net_right T.fd__law_net_right ["net"] (SpM (Zz K z sc) [.fz] .fz f__law_net_right) :=
  fn_ok (k := 6) (os := [(4, true)]) (io := []) rfl T.F__law_net_right sc__law_net_right rfl rfl rfl (by decide) fun cdv A outer s H E hr =>
  (ssm_cons (sm_set 1 (em_call (F__law_web_of T) (hr.mono (by decide)) T.m__law_web_of T.k__law_web_of T.b__law_web_of pass0 (am_fz (em_var 0) am_nil)) sc__law_net_right.nd)
  (ssm_cons (sm_for PassesOwn.never rfl (im_any (em_tup (am_fz (em_call (F_even_turning T) (hr.mono (by decide)) T.m_even_turning T.k_even_turning T.b_even_turning pass0 (am_fz (em_var 1) am_nil)) (am_fz (em_call (F_even_turning T) (hr.mono (by decide)) T.m_even_turning T.k_even_turning T.b_even_turning pass0 (am_fz (em_call (F__law_web_of T) (hr.mono (by decide)) T.m__law_web_of T.k__law_web_of T.b__law_web_of pass0 (am_fz (em_var 0) am_nil)) am_nil)) am_nil)))) (gm_name 2 sc__law_net_right.nd) (ssm_one (sm_if ((wm_or (tm_not (tm_val (em_call (F__law_is_turning T) (hr.mono (by decide)) T.m__law_is_turning T.k__law_is_turning T.b__law_is_turning pass0 (am_fz (em_var 0) (am_fz (em_var 2) am_nil))))) (wm_or (tm_cmp op_notBl o2_notB (em_call (F_is_turning T) (hr.mono (by decide)) T.m_is_turning T.k_is_turning T.b_is_turning pass0 (am_fz (em_var 1) (am_fz (em_var 2) am_nil))) em_bl) (wm_or1 (tm_not (tm_val (em_call (F__law_is_even T) (hr.mono (by decide)) T.m__law_is_even T.k__law_is_even T.b__law_is_even pass0 (am_fz (em_var 0) (am_fz (em_var 2) am_nil))))))))).pt (ssm_one (sm_ret em_bl)) ssm_nil)))
  (ssm_cons (sm_par 3 4 (em_call (F_arrows_of T) (hr.mono (by decide)) T.m_arrows_of T.k_arrows_of T.b_arrows_of pass0 (am_fz (em_var 1) (am_fz (em_var 2) am_nil))) (em_dct0 .nw) rfl sc__law_net_right.nd)
  (ssm_cons (sm_forD PassesOwn.never rfl (dm_ix 0 1 rfl (hu_of hr) pe_int) (gm_name 5 sc__law_net_right.nd) (ssm_one (sm_if (tm_cmp (op_vne _ hr.units) o2_ne (em_ix (hu_of hr) rfl (em_ix (hu_of hr) rfl (em_ix (hu_of hr) rfl (em_var 0) em_int) (em_var 5)) em_int) (em_ix (hu_of hr) rfl (em_ix (hu_of hr) rfl (em_ix (hu_of hr) rfl (em_var 0) em_int) (em_var 5)) em_int)) (ssm_one (sm_put 4 (hu_of hr) (em_ix (hu_of hr) rfl (em_ix (hu_of hr) rfl (em_var 0) em_int) (em_var 5)) (em_var 5))) ssm_nil)))
  (ssm_cons (sm_set 6 (em_meth0 "Arrows" (em_var 3) T.cl_Arrows T.me_Arrows_arrows (F_Arrows_arrows T) (hr.mono (by decide)) T.b_Arrows_arrows pass0) sc__law_net_right.nd)
  (ssm_cons (sm_if ((wm_or (tm_not (tm_val (em_call (F__law_is T) (hr.mono (by decide)) T.m__law_is T.k__law_is T.b__law_is pass0 (am_fz (em_meth0 "Arrows" (em_var 3) T.cl_Arrows T.me_Arrows_places (F_Arrows_places T) (hr.mono (by decide)) T.b_Arrows_places pass0) (am_fz (em_callB (p_sorted rfl) (oN_sort (.inl rfl)) (by rfl) T.n_sorted bo_sorted (am_fz (em_ix (hu_of hr) rfl (em_var 0) em_int) am_nil)) am_nil))))) (wm_or1 (tm_cmp (op_vne _ hr.units) o2_ne (em_callB (p_sorted rfl) (oN_sort (.inl rfl)) (by rfl) T.n_sorted bo_sorted (am_fz (em_callTy (p_list rfl) (oN_list (.inl rfl)) (by rfl) T.n_list bo_list (am_fz (em_var 6) am_nil)) am_nil)) (em_callB (p_sorted rfl) (oN_sort (.inl rfl)) (by rfl) T.n_sorted bo_sorted (am_fz (em_callTy (p_list rfl) (oN_list (.inl rfl)) (by rfl) T.n_list bo_list (am_bo (em_own 4) am_nil)) am_nil)))))).pt (ssm_one (sm_ret em_bl)) ssm_nil)
  (ssm_cons (sm_if (tm_not (tm_val (em_callB (cr_all rfl) oN_all (by rfl) T.n_all bo_all (am_bo ((ec_hold 4 (ec_lcD [("name", 5)] rfl sc__law_net_right.nd (dm_held 4) (show BlkOk ["net", "web", "turning", "lines", "plain", "name", "told"] (defScope s__law_net_right) _ [("name", 5)] from ⟨rfl, by decide +kernel, by decide +kernel, by decide +kernel, by decide +kernel⟩) (fun a n => (gm_name 5 sc__law_net_right.nd (hio := not_others (by decide)))) (lenB_name 5) ifs_nil (fun a => (em_call (F__law_is T) (hr.mono (by decide)) T.m__law_is T.k__law_is T.b__law_is pass0 (am_fz (em_ix (hu_of hr) rfl (em_var 6) (em_var 5)) (am_fz (em_ix (hu_of hr) rfl (em_var 2) (em_var 5)) am_nil))))))).pe am_nil)))) (ssm_one (sm_ret em_bl)) ssm_nil)
  (ssm_one (sm_ret (em_oeq "Web" T.me_Web___eq__ (F_Web___eq__ T) (hr.mono (by decide)) T.b_Web___eq__ pass0 (em_call (F_under_web T) (hr.mono (by decide)) T.m_under_web T.k_under_web T.b_under_web pass0 (am_fz (em_var 3) am_nil)) ((em_make "Web" T.mk_Web (F_Web___init__ T) (hr.mono (by decide)) T.mc_Web T.b_Web___init__ pass0 (am_fz (em_callTy (p_list rfl) (oN_list (.inl rfl)) (by rfl) T.n_list bo_list (am_fz (em_ix (hu_of hr) rfl (em_var 0) em_int) am_nil)) (am_fz ((em_mv 4)).fr am_nil)))).fr))))))))))
def T__law_of_ways_1 : Rho → ER Bool := mT (mOp2 gLt (mOpN gLen (mCons (mVar 3) (mNil))) (mVar 2))
def L__law_of_ways_1 : MS := mSeq (mSet 4 (mSl3 .fz (mCall false [.io, .fz] [.sl 0, .fz] f__law_mixed (mSlot 0 (mCons (mVar 1) (mNil)))) (mNoPart) (mPart (mOp2 gAdd (mC (.int 1)) (mCall false [.io, .fz] [.sl 0, .fz] f__law_draw (mSlot 0 (mCons (mOpN gMin2 (mCons (mOpN gLen (mCons (mVar 1) (mNil))) (mCons (mOp2 gSub (mVar 2) (mOpN gLen (mCons (mVar 3) (mNil)))) (mNil)))) (mNil))))))))
  (mDrop (mOM "list" gExt 3 (mCons (mOpN gListZip (mCons (mVar 4) (mCons (mOp2 gAdd (mSl3 .fz (mVar 4) (mPart (mC (.int 1))) (mNoPart)) (mSl3 .fz (mVar 4) (mNoPart) (mPart (mC (.int 1))))) (mNil)))) (mNil))))
def m__law_of_ways : MS := mSeq (mSet 3 (mLst (mNil)))
  (mSeq (mWhile (T__law_of_ways_1) (L__law_of_ways_1) 100)
  (mRet (mTup (mCons (mVar 1) (mCons (mOpN gDict (mCons (mOpN gListZip (mCons (mCall false [.io, .fz] [.sl 0, .fz] f__law_names (mSlot 0 (mCons (mOpN gLen (mCons (mVar 3) (mNil))) (mNil)))) (mCons (mCall false [.io, .io] [.sl 0, .sl 3] f__law_mixed_io (mSlot 0 (mSlot 3 (mNil)))) (mNil)))) (mNil))) (mNil))))))
def f__law_of_ways : List D → FR := fun ds => (runF 5 [0] .fz m__law_of_ways ds).nox.cut [.io, .fz, .fz]
theorem F__law_of_ways (T : Tx K mg z) : FnOk P w K mg base CX0 4 T.f__law_of_ways T.fd__law_of_ways ["hand", "points", "most"] (SpM (Zz K z sc) [.io, .fz, .fz] .fz f__law_of_ways) :=
  fn_ok (k := 3) (os := [(0, true), (3, true)]) (io := [0]) rfl T.F__law_of_ways sc__law_of_ways rfl rfl rfl (by decide) fun cdv A outer s H E hr =>
  (ssm_cons (sm_setO 3 (em_lst .nw am_nil) sc__law_of_ways.nd)
  (ssm_cons (sm_while 100 PassesOwn.never (tm_cmp p_lt o2_lt (em_callB (p_len) oN_len (by rfl) T.n_len bo_len (am_bo (em_own 3) am_nil)) (em_var 2)) (ssm_cons (sm_set 4 (em_slice .fz rfl (em_call (F__law_mixed T) (hr.mono (by decide)) T.m__law_mixed T.k__law_mixed T.b__law_mixed pass0 (am_slot 0 (am_fz (em_var 1) am_nil))) om_none (om_some (em_op p_add o2_add em_int (em_call (F__law_draw T) (hr.mono (by decide)) T.m__law_draw T.k__law_draw T.b__law_draw pass0 (am_slot 0 (am_fz (em_callB (call_min2 rfl) oN_min2 (by rfl) T.n_min bo_min (am_fz (em_callB (p_len) oN_len (by rfl) T.n_len bo_len (am_fz (em_var 1) am_nil)) (am_fz (em_op op_sub o2_sub (em_var 2) (em_callB (p_len) oN_len (by rfl) T.n_len bo_len (am_bo (em_own 3) am_nil))) am_nil))) am_nil)))))) sc__law_of_ways.nd)
  (ssm_one (sm_expr (em_om 3 PySem.F.plainAttrs_list PySem.F.slot_list_extend PySem.F.type_list_extend mt_extend oO_ext rfl (am_fz (em_listZip rfl (.inl rfl) (by rfl) T.n_list (by rfl) T.n_zip (am_fz (em_var 4) (am_fz (em_op p_add o2_add (em_slice .fz rfl (em_var 4) (om_some em_int) om_none) (em_slice .fz rfl (em_var 4) om_none (om_some em_int))) am_nil))) am_nil))))))
  (ssm_one (sm_ret (em_tup (am_fz (em_var 1) (am_fz (em_callTy (p_dict rfl) (oN_dict (.inl rfl)) (by rfl) T.n_dict bo_dict (am_fz (em_listZip rfl (.inl rfl) (by rfl) T.n_list (by rfl) T.n_zip (am_fz (em_call (F__law_names T) (hr.mono (by decide)) T.m__law_names T.k__law_names T.b__law_names pass0 (am_slot 0 (am_fz (em_callB (p_len) oN_len (by rfl) T.n_len bo_len (am_bo (em_own 3) am_nil)) am_nil))) (am_fz (em_call (F__law_mixed_io T) (hr.mono (by decide)) T.m__law_mixed T.k__law_mixed T.b__law_mixed pass0 (am_slot 0 (am_slot 3 am_nil))) am_nil))) am_nil)) am_nil)))))))
def C__law_plain_1 : ME := mTup (mCons (mIfE (mT (mOp2 gEq (mVar 3) (mC (.int 0)))) (mOp2 gIx (mVar 2) (mC (.int 0))) (mOp2 gIx (mVar 2) (mOp2 gSub (mVar 5) (mC (.int 1))))) (mCons (mOp2 gIx (mVar 2) (mVar 5)) (mNil)))
def m__law_plain : MS := mSeq (mSet 2 (mCall false [.io, .fz] [.sl 0, .fz] f__law_names (mSlot 0 (mCons (mVar 1) (mNil)))))
  (mSeq (mSet 3 (mCall false [.io, .fz] [.sl 0, .fz] f__law_draw (mSlot 0 (mCons (mC (.int 2)) (mNil)))))
  (mSeq (mSet 4 (mLc ([("at", 5)].map (·.2)) (bName 5) (mYes) (C__law_plain_1) (mItA gRng2 (mCons (mC (.int 1)) (mCons (mVar 1) (mNil))))))
  (mRet (mTup (mCons (mVar 2) (mCons (mOpN gDict (mCons (mOpN gListZip (mCons (mCall false [.io, .fz] [.sl 0, .fz] f__law_names (mSlot 0 (mCons (mOpN gLen (mCons (mVar 4) (mNil))) (mNil)))) (mCons (mVar 4) (mNil)))) (mNil))) (mNil)))))))
def f__law_plain : List D → FR := fun ds => (runF 6 [0] .fz m__law_plain ds).nox.cut [.io, .fz]
theorem F__law_plain (T : Tx K mg z) : FnOk P w K mg base CX0 4 T.f__law_plain T.fd__law_plain ["hand", "size"] (SpM (Zz K z sc) [.io, .fz] .fz f__law_plain) :=
  fn_ok (k := 3) (os := [(0, true)]) (io := [0]) rfl T.F__law_plain sc__law_plain rfl rfl rfl (by decide) fun cdv A outer s H E hr =>
  (ssm_cons (sm_set 2 (em_call (F__law_names T) (hr.mono (by decide)) T.m__law_names T.k__law_names T.b__law_names pass0 (am_slot 0 (am_fz (em_var 1) am_nil))) sc__law_plain.nd)
  (ssm_cons (sm_set 3 (em_call (F__law_draw T) (hr.mono (by decide)) T.m__law_draw T.k__law_draw T.b__law_draw pass0 (am_slot 0 (am_fz em_int am_nil))) sc__law_plain.nd)
  (ssm_cons (sm_setC 4 (ec_lc [("at", 5)] rfl sc__law_plain.nd (im_rng2 (by rfl) T.n_range (am_fz em_int (am_fz (em_var 1) am_nil))) (show BlkOk ["hand", "size", "points", "kind", "pairs", "at"] (defScope s__law_plain) _ [("at", 5)] from ⟨rfl, by decide +kernel, by decide +kernel, by decide +kernel, by decide +kernel⟩) (fun a n => (gm_name 5 sc__law_plain.nd (hio := not_others (by decide)))) (lenB_name 5) ifs_nil (fun a => (em_tup (am_fz (em_if (tm_cmp (op_veq _ hr.units) o2_eq (em_var 3) em_int) (em_ix (hu_of hr) rfl (em_var 2) em_int) (em_ix (hu_of hr) rfl (em_var 2) (em_op op_sub o2_sub (em_var 5) em_int))) (am_fz (em_ix (hu_of hr) rfl (em_var 2) (em_var 5)) am_nil))))))
  (ssm_one (sm_ret (em_tup (am_fz (em_var 2) (am_fz (em_callTy (p_dict rfl) (oN_dict (.inl rfl)) (by rfl) T.n_dict bo_dict (am_fz (em_listZip rfl (.inl rfl) (by rfl) T.n_list (by rfl) T.n_zip (am_fz (em_call (F__law_names T) (hr.mono (by decide)) T.m__law_names T.k__law_names T.b__law_names pass0 (am_slot 0 (am_fz (em_callB (p_len) oN_len (by rfl) T.n_len bo_len (am_fz (em_var 4) am_nil)) am_nil))) (am_fz (em_var 4) am_nil))) am_nil)) am_nil))))))))
def L_law_1 : MS := mIf (mNotT (mT (mCall false [.fz] [.fz] f__law_net_right (mCons (mCall false [.io, .fz, .fz] [.sl 1, .fz, .fz] f__law_web (mSlot 1 (mCons (mC (.int 6)) (mCons (mC (.int 12)) (mNil))))) (mNil))))) (mRet (mC (.bl false))) (mNext)
def m_law : MS := mSeq (mSet 1 (mCall false [.fz] [.fz] f__law_hand (mCons (mVar 0) (mNil))))
  (mSeq (mFor (bName 2) (mItA gRng1 (mCons (mC (.int 6)) (mNil))) (L_law_1))
  (mSeq (mIf (mOrT (mNotT (mT (mCall false [.fz] [.fz] f__law_net_right (mCons (mCall false [.io, .fz] [.sl 1, .fz] f__law_plain (mSlot 1 (mCons (mOp2 gAdd (mC (.int 1)) (mCall false [.io, .fz] [.sl 1, .fz] f__law_draw (mSlot 1 (mCons (mC (.int 16)) (mNil))))) (mNil)))) (mNil))))) (mNotT (mT (mCall false [.fz] [.fz] f__law_net_right (mCons (mCall false [.io, .fz, .fz] [.sl 1, .fz, .fz] f__law_web (mSlot 1 (mCons (mC (.int 16)) (mCons (mC (.int 24)) (mNil))))) (mNil)))))) (mRet (mC (.bl false))) (mNext))
  (mRet (mCall false [.fz] [.fz] f__law_net_right (mCons (mCall false [.io, .fz, .fz] [.sl 1, .fz, .fz] f__law_of_ways (mSlot 1 (mCons (mCall false [.io, .fz] [.sl 1, .fz] f__law_names (mSlot 1 (mCons (mOp2 gAdd (mC (.int 1)) (mCall false [.io, .fz] [.sl 1, .fz] f__law_draw (mSlot 1 (mCons (mC (.int 9)) (mNil))))) (mNil)))) (mCons (mOp2 gAdd (mC (.int 4)) (mCall false [.io, .fz] [.sl 1, .fz] f__law_draw (mSlot 1 (mCons (mC (.int 20)) (mNil))))) (mNil))))) (mNil))))))
def f_law : List D → FR := fun ds => (runF 3 [] .fz m_law ds).nox.cut [.fz]
theorem F_law (T : Tx K mg z) : FnOk P w K mg base CX0 8 T.f_law T.fd_law ["script"] (SpM (Zz K z sc) [.fz] .fz f_law) :=
  fn_ok (k := 7) (os := [(1, true)]) (io := []) rfl T.F_law sc_law rfl rfl rfl (by decide) fun cdv A outer s H E hr =>
  (ssm_cons (sm_setO 1 (em_call (F__law_hand T) (hr.mono (by decide)) T.m__law_hand T.k__law_hand T.b__law_hand pass0 (am_fz (em_var 0) am_nil)) sc_law.nd)
  (ssm_cons (sm_for PassesOwn.never rfl (im_rng1 (by rfl) T.n_range (am_fz em_int am_nil)) (gm_name 2 sc_law.nd) (ssm_one (sm_if (tm_not (tm_val (em_call (F__law_net_right T) (hr.mono (by decide)) T.m__law_net_right T.k__law_net_right T.b__law_net_right pass0 (am_fz (em_call (F__law_web T) (hr.mono (by decide)) T.m__law_web T.k__law_web T.b__law_web pass0 (am_slot 1 (am_fz em_int (am_fz em_int am_nil)))) am_nil)))) (ssm_one (sm_ret em_bl)) ssm_nil)))
  (ssm_cons (sm_if ((wm_or (tm_not (tm_val (em_call (F__law_net_right T) (hr.mono (by decide)) T.m__law_net_right T.k__law_net_right T.b__law_net_right pass0 (am_fz (em_call (F__law_plain T) (hr.mono (by decide)) T.m__law_plain T.k__law_plain T.b__law_plain pass0 (am_slot 1 (am_fz (em_op p_add o2_add em_int (em_call (F__law_draw T) (hr.mono (by decide)) T.m__law_draw T.k__law_draw T.b__law_draw pass0 (am_slot 1 (am_fz em_int am_nil)))) am_nil))) am_nil)))) (wm_or1 (tm_not (tm_val (em_call (F__law_net_right T) (hr.mono (by decide)) T.m__law_net_right T.k__law_net_right T.b__law_net_right pass0 (am_fz (em_call (F__law_web T) (hr.mono (by decide)) T.m__law_web T.k__law_web T.b__law_web pass0 (am_slot 1 (am_fz em_int (am_fz em_int am_nil)))) am_nil))))))).pt (ssm_one (sm_ret em_bl)) ssm_nil)
  (ssm_one (sm_ret (em_call (F__law_net_right T) (hr.mono (by decide)) T.m__law_net_right T.k__law_net_right T.b__law_net_right pass0 (am_fz (em_call (F__law_of_ways T) (hr.mono (by decide)) T.m__law_of_ways T.k__law_of_ways T.b__law_of_ways pass0 (am_slot 1 (am_fz (em_call (F__law_names T) (hr.mono (by decide)) T.m__law_names T.k__law_names T.b__law_names pass0 (am_slot 1 (am_fz (em_op p_add o2_add em_int (em_call (F__law_draw T) (hr.mono (by decide)) T.m__law_draw T.k__law_draw T.b__law_draw pass0 (am_slot 1 (am_fz em_int am_nil)))) am_nil))) (am_fz (em_op p_add o2_add em_int (em_call (F__law_draw T) (hr.mono (by decide)) T.m__law_draw T.k__law_draw T.b__law_draw pass0 (am_slot 1 (am_fz em_int am_nil)))) am_nil)))) am_nil)))))))
end
end K42
/-! K42c: walks that use up every tie once, and are even at each point: no program in sight. -/
namespace K42
open PySem
abbrev Tie := Str × (Str × Str)
def nms (E : List Tie) : List Str := E.map (·.1)
def cnt (v : Str) (p : Str × Str) : Nat := (if p.1 = v then 1 else 0) + (if p.2 = v then 1 else 0)
def sumC (v : Str) (E : List Tie) : Nat := (E.map fun t => cnt v t.2).sum
def left (E : List Tie) (fs : List Str) : List Tie := E.filter fun t => !fs.contains t.1
def outN (F : List Tie) (v : Str) : Nat := (F.map fun t => if t.2.1 = v then 1 else 0).sum
def inN (F : List Tie) (v : Str) : Nat := (F.map fun t => if t.2.2 = v then 1 else 0).sum
def bal (F : List Tie) (v : Str) : Int := (outN F v : Int) - inN F v
theorem sumC_cons (v : Str) (t : Tie) (E : List Tie) : sumC v (t :: E) = cnt v t.2 + sumC v E := by simp [sumC]
theorem left_cons (t : Tie) (E : List Tie) (fs : List Str) : left (t :: E) fs = if t.1 ∈ fs then left E fs else t :: left E fs := by
  unfold left
  rw [List.filter_cons]
  by_cases h : t.1 ∈ fs <;> simp [h]
theorem left_off {E : List Tie} {fs : List Str} {n : Str} (h : n ∉ nms E) : left E (fs ++ [n]) = left E fs := by
  unfold left
  apply List.filter_congr
  intro t ht
  have : t.1 ≠ n := fun e => h (by rw [← e]; exact List.mem_map.mpr ⟨t, ht, rfl⟩)
  simp [this]
theorem rem_step {E : List Tie} {fs : List Str} {t : Tie} (hn : (nms E).Nodup) (ht : t ∈ E) (hf : t.1 ∉ fs) (w : Str) : sumC w (left E (fs ++ [t.1])) + cnt w t.2 = sumC w (left E fs) := by
  induction E with
  | nil => cases ht
  | cons a r ih =>
    have hn' : a.1 ∉ nms r ∧ (nms r).Nodup := List.nodup_cons.mp hn
    rw [left_cons, left_cons]
    rcases List.mem_cons.mp ht with e | e
    · subst e
      rw [if_pos (by simp), if_neg hf, left_off hn'.1, sumC_cons]
      omega
    · have ne : a.1 ≠ t.1 := fun q => hn'.1 (by rw [q]; exact List.mem_map.mpr ⟨t, e, rfl⟩)
      have := ih hn'.2 e
      by_cases h : a.1 ∈ fs
      · rw [if_pos (by simp [h]), if_pos h]; exact this
      · rw [if_neg (by simp [h, ne]), if_neg h, sumC_cons, sumC_cons]; omega
theorem outN_app (F : List Tie) (t : Tie) (v : Str) : outN (F ++ [t]) v = outN F v + if t.2.1 = v then 1 else 0 := by simp [outN]
theorem inN_app (F : List Tie) (t : Tie) (v : Str) : inN (F ++ [t]) v = inN F v + if t.2.2 = v then 1 else 0 := by simp [inN]
/-- a state of the walk -/
structure Ok (E F : List Tie) : Prop where
  nd : (nms F).Nodup
  of : ∀ x ∈ F, ∃ t ∈ E, t.1 = x.1 ∧ (x.2 = t.2 ∨ x.2 = (t.2.2, t.2.1))
  deg : ∀ v, sumC v (left E (nms F)) + outN F v + inN F v = sumC v E
theorem Ok.nil (E : List Tie) : Ok E [] := ⟨List.nodup_nil, fun x hx => (by cases hx), fun v => by
  have : left E (nms []) = E := by
    unfold left
    rw [List.filter_eq_self]
    intro t _
    simp [nms]
  rw [this]; simp [outN, inN]⟩
inductive Walk (E : List Tie) : Str → List Tie → Str → List Tie → Prop
  | stop {v : Str} {F : List Tie} : (∀ t ∈ E, t.1 ∉ nms F → t.2.1 ≠ v ∧ t.2.2 ≠ v) → Walk E v F v F
  | step {v u e : Str} {F F' : List Tie} {t : Tie} : t ∈ E → t.1 ∉ nms F → (t.2 = (v, u) ∨ t.2 = (u, v)) → Walk E u (F ++ [(t.1, (v, u))]) e F' → Walk E v F e F'
theorem Ok.step {E F : List Tie} {v u : Str} {t : Tie} (hn : (nms E).Nodup) (o : Ok E F) (ht : t ∈ E) (hf : t.1 ∉ nms F) (h : t.2 = (v, u) ∨ t.2 = (u, v)) : Ok E (F ++ [(t.1, (v, u))]) := by
  have e1 : nms (F ++ [(t.1, (v, u))]) = nms F ++ [t.1] := by simp [nms]
  refine ⟨?_, fun x hx => ?_, fun w => ?_⟩
  · rw [e1, List.nodup_append]
    refine ⟨o.nd, by simp, fun a ha b hb => ?_⟩
    rw [List.mem_singleton] at hb
    subst hb
    exact fun e => hf (e ▸ ha)
  · rcases List.mem_append.mp hx with hx | hx
    · exact o.of x hx
    · rw [List.mem_singleton] at hx
      subst hx
      refine ⟨t, ht, rfl, ?_⟩
      rcases h with h | h
      · exact .inl h.symm
      · right; rw [h]
  · rw [e1, outN_app, inN_app]
    have := rem_step hn ht hf w
    have := o.deg w
    have hc : cnt w t.2 = (if v = w then 1 else 0) + (if u = w then 1 else 0) := by
      rcases h with h | h
      · rw [h]; rfl
      · rw [h]; exact Nat.add_comm _ _
    dsimp only
    omega
structure WalkF (E : List Tie) (s : Str) (F : List Tie) (e : Str) (F' : List Tie) : Prop where
  ok : Ok E F'
  stuck : sumC e (left E (nms F')) = 0
  mono : ∀ v, sumC v (left E (nms F')) ≤ sumC v (left E (nms F))
  bal : ∀ v, bal F' v = bal F v + (if v = s then 1 else 0) - (if v = e then 1 else 0)
theorem walk_facts {E : List Tie} (hn : (nms E).Nodup) {s e : Str} {F F' : List Tie} (w : Walk E s F e F') (o : Ok E F) : WalkF E s F e F' := by
  induction w with
  | @stop v F h =>
    refine ⟨o, ?_, fun _ => Nat.le_refl _, fun v => by omega⟩
    unfold sumC
    rw [List.sum_eq_zero_iff_forall_eq_nat]
    intro x hx
    obtain ⟨t, ht, rfl⟩ := List.mem_map.mp hx
    unfold left at ht
    rw [List.mem_filter] at ht
    have := h t ht.1 (by simpa using ht.2)
    simp [cnt, this]
  | @step v u e F F' t ht hf h w ih =>
    have o1 := o.step hn ht hf h
    obtain ⟨a1, a2, a3, a4⟩ := ih o1
    have e1 : nms (F ++ [(t.1, (v, u))]) = nms F ++ [t.1] := by simp [nms]
    refine ⟨a1, a2, fun x => ?_, fun x => ?_⟩
    · have q := a3 x
      rw [e1] at q
      have := rem_step hn ht hf x
      omega
    · have q := a4 x
      have q2 : K42.bal (F ++ [(t.1, (v, u))]) x = K42.bal F x + (if v = x then 1 else 0) - (if u = x then 1 else 0) := by
        unfold K42.bal
        rw [outN_app, inN_app]
        dsimp only
        split <;> split <;> omega
      rw [q, q2]
      rw [show (if v = x then (1 : Int) else 0) = if x = v then 1 else 0 from by simp [eq_comm], show (if u = x then (1 : Int) else 0) = if x = u then 1 else 0 from by simp [eq_comm]]
      omega
inductive Walks (E : List Tie) : List Str → List Tie → List Tie → Prop
  | nil {F : List Tie} : Walks E [] F F
  | cons {s e : Str} {r : List Str} {F F1 F2 : List Tie} : Walk E s F e F1 → Walks E r F1 F2 → Walks E (s :: r) F F2
theorem Walks.app {E : List Tie} {a b : List Str} {F F2 : List Tie} (w : Walks E (a ++ b) F F2) : ∃ F1, Walks E a F F1 ∧ Walks E b F1 F2 := by
  induction a generalizing F with
  | nil => exact ⟨F, .nil, w⟩
  | cons s r ih =>
    cases w with
    | cons h w => obtain ⟨F1, a, b⟩ := ih w; exact ⟨F1, .cons h a, b⟩
/-- parity -/
theorem Ok.par {E F : List Tie} (o : Ok E F) (v : Str) : ((sumC v (left E (nms F)) : Int) + bal F v) % 2 = (sumC v E : Int) % 2 := by
  have := o.deg v
  unfold bal
  omega
structure J (E F : List Tie) (todo : List Str) : Prop where
  ok : Ok E F
  a : ∀ v, -1 ≤ bal F v ∧ bal F v ≤ 1
  b : ∀ v, bal F v ≠ 0 → sumC v E % 2 = 1
  c : ∀ v, bal F v = -1 → sumC v (left E (nms F)) = 0
  d : ∀ v, bal F v = 1 → v ∉ todo
  e : ∀ v, sumC v E % 2 = 1 → v ∉ todo → bal F v ≠ 0
theorem phase1 {E : List Tie} (hn : (nms E).Nodup) : ∀ {todo : List Str} {F F' : List Tie}, todo.Nodup → (∀ v ∈ todo, sumC v E % 2 = 1) → J E F todo → Walks E todo F F' → J E F' []
  | [], F, F', _, _, j, ws0 => by cases ws0; exact j
  | s :: r, F, F', nd, ho, j, ws0 => by
    obtain ⟨e, F1, w, ws⟩ : ∃ e F1, Walk E s F e F1 ∧ Walks E r F1 F' := by cases ws0 with | cons w ws => exact ⟨_, _, w, ws⟩
    have nd' := List.nodup_cons.mp nd
    refine phase1 hn nd'.2 (fun v hv => ho v (List.mem_cons_of_mem _ hv)) ?_ ws
    obtain ⟨w1, w2, w3, w4⟩ := walk_facts hn w j.ok
    have hs : sumC s E % 2 = 1 := ho s (List.mem_cons_self ..)
    have ps := j.ok.par
    have ps' := w1.par
    have bs := j.a s
    have b1 : bal F s ≠ 1 := fun h => j.d s h (List.mem_cons_self ..)
    by_cases hb : bal F s = -1
    · -- nothing is left here
      have hz := j.c s hb
      have hes : e = s := by
        cases w with
        | stop => rfl
        | @step v u e F F' t ht hf h w =>
          exfalso
          have := rem_step hn ht hf s
          have : cnt s t.2 ≥ 1 := by
            rcases h with h | h <;> rw [h] <;> simp [cnt]
          omega
      have hbal : ∀ v, bal F1 v = bal F v := fun v => by have := w4 v; rw [hes] at this; omega
      refine ⟨w1, fun v => by rw [hbal]; exact j.a v, fun v h => j.b v (by rw [← hbal]; exact h), fun v h => by have := j.c v (by rw [← hbal]; exact h); have := w3 v; omega, fun v h => ?_, fun v h1 h2 => ?_⟩
      · rw [hbal] at h
        exact fun q => j.d v h (List.mem_cons_of_mem _ q)
      · rw [hbal]
        by_cases hv : v = s
        · subst hv; omega
        · exact j.e v h1 (fun q => by rcases List.mem_cons.mp q with q | q; exact hv q; exact h2 q)
    · have b0 : bal F s = 0 := by omega
      have hne : e ≠ s := by
        intro h
        have q := w4 s
        have p' := ps' s
        rw [h] at w2
        rw [w2] at p'
        rw [h] at q
        rw [if_pos rfl, b0] at q
        rw [q] at p'
        omega
      have q1 : bal F1 s = 1 := by
        have q := w4 s
        rw [if_pos rfl, if_neg (Ne.symm hne), b0] at q
        omega
      have q2 : bal F1 e = bal F e - 1 := by
        have q := w4 e
        rw [if_pos rfl, if_neg hne] at q
        omega
      have pe := ps' e
      rw [w2, q2] at pe
      have be := j.a e
      have e0 : bal F e = 0 := by
        rcases (show bal F e = -1 ∨ bal F e = 0 ∨ bal F e = 1 by omega) with h | h | h
        · have := j.b e (by omega); rw [h] at pe; omega
        · exact h
        · have := j.b e (by omega); rw [h] at pe; omega
      have oe : sumC e E % 2 = 1 := by rw [e0] at pe; omega
      have q3 : ∀ v, v ≠ s → v ≠ e → bal F1 v = bal F v := fun v h1 h2 => by
        have q := w4 v
        rw [if_neg h1, if_neg h2] at q
        omega
      refine ⟨w1, fun v => ?_, fun v h => ?_, fun v h => ?_, fun v h => ?_, fun v h1 h2 => ?_⟩
      · by_cases h1 : v = s
        · subst h1; omega
        · by_cases h2 : v = e
          · subst h2; omega
          · rw [q3 v h1 h2]; exact j.a v
      · by_cases h1 : v = s
        · subst h1; exact hs
        · by_cases h2 : v = e
          · subst h2; exact oe
          · exact j.b v (by rw [← q3 v h1 h2]; exact h)
      · by_cases h1 : v = s
        · subst h1; omega
        · by_cases h2 : v = e
          · subst h2; exact w2
          · have := j.c v (by rw [← q3 v h1 h2]; exact h)
            have := w3 v
            omega
      · by_cases h1 : v = s
        · subst h1; exact nd'.1
        · by_cases h2 : v = e
          · subst h2; omega
          · exact fun q => j.d v (by rw [← q3 v h1 h2]; exact h) (List.mem_cons_of_mem _ q)
      · by_cases h3 : v = s
        · subst h3; omega
        · by_cases h4 : v = e
          · subst h4; omega
          · rw [q3 v h3 h4]
            exact j.e v h1 (fun q => by rcases List.mem_cons.mp q with q | q; exact h3 q; exact h2 q)
theorem phase2 {E : List Tie} (hn : (nms E).Nodup) : ∀ {todo : List Str} {F F' : List Tie}, Ok E F → (∀ v, sumC v (left E (nms F)) % 2 = 0) → Walks E todo F F' →
    Ok E F' ∧ (∀ v, bal F' v = bal F v) ∧ (∀ v, sumC v (left E (nms F')) ≤ sumC v (left E (nms F))) ∧ ∀ v ∈ todo, sumC v (left E (nms F')) = 0
  | [], F, F', o, _, ws0 => by cases ws0; exact ⟨o, fun _ => rfl, fun _ => Nat.le_refl _, fun v hv => by cases hv⟩
  | s :: r, F, F', o, h, ws0 => by
    obtain ⟨e, F1, w, ws⟩ : ∃ e F1, Walk E s F e F1 ∧ Walks E r F1 F' := by cases ws0 with | cons w ws => exact ⟨_, _, w, ws⟩
    obtain ⟨w1, w2, w3, w4⟩ := walk_facts hn w o
    have hes : e = s := by
      refine Classical.byContradiction fun hne => ?_
      have q := w4 e
      rw [if_pos rfl, if_neg hne] at q
      have p := o.par e
      have p' := w1.par e
      have := h e
      rw [w2, q] at p'
      omega
    have hb : ∀ v, bal F1 v = bal F v := fun v => by have := w4 v; rw [hes] at this; omega
    have h1 : ∀ v, sumC v (left E (nms F1)) % 2 = 0 := fun v => by
      have p := o.par v
      have p' := w1.par v
      have := h v
      rw [hb] at p'
      omega
    obtain ⟨a1, a2, a3, a4⟩ := phase2 hn w1 h1 ws
    refine ⟨a1, fun v => by rw [a2, hb], fun v => Nat.le_trans (a3 v) (w3 v), fun v hv => ?_⟩
    rcases List.mem_cons.mp hv with q | q
    · subst q
      have := a3 v
      rw [hes] at w2
      omega
    · exact a4 v q
/-- the whole walk -/
theorem walks_all {E : List Tie} {K : List Str} {F : List Tie} (hn : (nms E).Nodup) (hK : K.Nodup) (hE : ∀ t ∈ E, t.2.1 ∈ K ∧ t.2.2 ∈ K) (w : Walks E ((K.filter fun v => sumC v E % 2 = 1) ++ K) [] F) :
    Ok E F ∧ (∀ v, -1 ≤ bal F v ∧ bal F v ≤ 1) ∧ ∀ t ∈ E, t.1 ∈ nms F := by
  obtain ⟨F1, w1, w2⟩ := w.app
  have j0 : J E [] (K.filter fun v => sumC v E % 2 = 1) := by
    refine ⟨Ok.nil E, fun v => ?_, fun v h => ?_, fun v h => ?_, fun v h => ?_, fun v h1 h2 => ?_⟩
    · simp [bal, outN, inN]
    · simp [bal, outN, inN] at h
    · simp [bal, outN, inN] at h
    · simp [bal, outN, inN] at h
    · exfalso
      have hv : v ∉ K := fun q => h2 (List.mem_filter.mpr ⟨q, by simpa using h1⟩)
      have : sumC v E = 0 := by
        unfold sumC
        rw [List.sum_eq_zero_iff_forall_eq_nat]
        intro x hx
        obtain ⟨t, ht, rfl⟩ := List.mem_map.mp hx
        have := hE t ht
        have n1 : t.2.1 ≠ v := fun q => hv (q ▸ this.1)
        have n2 : t.2.2 ≠ v := fun q => hv (q ▸ this.2)
        simp [cnt, n1, n2]
      omega
  have j := phase1 hn (hK.filter _) (fun v hv => by simpa using (List.mem_filter.mp hv).2) j0 w1
  have even : ∀ v, sumC v (left E (nms F1)) % 2 = 0 := fun v => by
    have p := j.ok.par v
    have a := j.a v
    by_cases h : sumC v E % 2 = 1
    · have := j.e v h (by simp)
      omega
    · have : bal F1 v = 0 := Classical.byContradiction fun q => h (j.b v q)
      omega
  obtain ⟨a1, a2, a3, a4⟩ := phase2 hn j.ok even w2
  refine ⟨a1, fun v => by rw [a2]; exact j.a v, fun t ht => ?_⟩
  refine Classical.byContradiction fun hf => ?_
  have := a4 t.2.1 (hE t ht).1
  unfold sumC at this
  rw [List.sum_eq_zero_iff_forall_eq_nat] at this
  have q := this (cnt t.2.1 t.2) (List.mem_map.mpr ⟨t, List.mem_filter.mpr ⟨ht, by simpa using hf⟩, rfl⟩)
  simp [cnt] at q
end K42
/-! K42p: the small defs, Web, Arrows. -/
namespace K42
open PySem L2 Vm
abbrev AZ : Str := "abcdefghijklmnopqrstuvwxyz"
def nm (s : Str) : Bool := decide (1 ≤ s.length) && decide (s.length ≤ 8) && (s.cps.toList.all fun c => strIn ⟨#[c]⟩ AZ)
theorem nm_if (s : Str) : nm s = if 1 ≤ (s.length : Int) then if 8 < (s.length : Int) then false else s.cps.toList.all fun c => strIn ⟨#[c]⟩ AZ else false := by
  by_cases ha : 1 ≤ s.length
  · by_cases hb : 8 < s.length
    · have h : ¬ s.length ≤ 8 := by omega
      have h2 : (8 : Int) < s.length := by omega
      have h3 : (1 : Int) ≤ s.length := by omega
      simp [nm, ha, h, h2, h3]
    · have h : s.length ≤ 8 := by omega
      have h2 : ¬ (8 : Int) < s.length := by omega
      have h3 : (1 : Int) ≤ s.length := by omega
      simp [nm, ha, h, h2, h3]
  · have h3 : ¬ (1 : Int) ≤ s.length := by omega
    simp [nm, ha, h3]
theorem nm_len {s : Str} (h : nm s = true) : s.length ≤ 8 := by
  simp [nm] at h; exact h.1.2
theorem E_is_name {s : Str} (h : nm s = true) : f_is_name [.str s] = .ret (.bl true) [none] := by
  have h1 : s.length ≤ sizeLine := sl_of (by have := nm_len h; omega)
  have h2 := h
  rw [nm_if] at h2
  simp [f_is_name, m_is_name, runF_ap, h1]
  rw [lc_map (g := fun c => .str ⟨#[c]⟩) (f := fun c => .bl (strIn ⟨#[c]⟩ AZ))]
  rotate_left
  · intro d hd; simp [lcStep, C_is_name_1]
  simp [blsOf_mapf]
  split at h2
  · split at h2
    · cases h2
    · rename_i a b
      simp_all [Function.comp_def]
  · cases h2
structure GoodP (ps : List Str) : Prop where
  l1 : 1 ≤ ps.length
  l2 : ps.length ≤ 16
  nm : ∀ s ∈ ps, nm s = true
  nd : ps.Nodup
theorem nodup_take {ps : List Str} (h : ps.Nodup) {k : Nat} (hk : k < ps.length) : sat ps k ∉ ps.take k := by
  intro hm
  obtain ⟨i, hi, e⟩ := List.mem_take_iff_getElem.mp hm
  rw [sat, List.getD_eq_getElem?_getD, List.getElem?_eq_getElem hk] at e
  rw [List.nodup_iff_pairwise_ne, List.pairwise_iff_getElem] at h
  exact h i k (by omega) hk (by omega) e
theorem E_need {ps : List Str} (h : GoodP ps) : f_need_places [.lst (ps.map .str)] = .ret (.tup ((sortBy ltS ps).map .str)) [none] := by
  have e1 : (1 : Int) ≤ ps.length := by have := h.l1; omega
  have e2 : ¬ (16 : Int) < ps.length := by have := h.l2; omega
  simp [f_need_places, m_need_places, runF_ap, e1, e2]
  rw [enumS]
  obtain ⟨ρ', q1, i, n, q2⟩ := loop_all (b := bTup 2 (bCons (bName 1) (bCons (bName 2) bNil))) (body := L_need_places_1) (fun k : Nat => .tup [.int (k : Int), .str (sat ps k)]) (fun ρ => ∃ i n, ρ = [some (.lst (ps.map .str)), i, n])
    (l := List.range ps.length) (ρ := [some (.lst (ps.map .str)), none, none]) ⟨_, _, rfl⟩ (by
      intro k hk ρ ⟨i, n, e⟩
      subst e
      have hk : k < ps.length := List.mem_range.mp hk
      have hq := sat_mem ps k hk
      have hnt := nodup_take h.nd hk
      generalize hx : sat ps k = x at hq hnt
      simp [lpStep, L_need_places_1, E_is_name (h.nm x hq), cutD_takeS ps k (Nat.le_of_lt hk), hx, hnt, -List.map_take])
  rw [q1, q2]
  simp
theorem E_is_pair {ps : List Str} {p : Str × Str} (h1 : p.1 ∈ ps) (h2 : p.2 ∈ ps) : f_is_pair [.tup (ps.map .str), pr p] = .ret (.bl true) [none, none] := by
  have c : 2 ≤ sizeLine := sl_of (by omega)
  simp [f_is_pair, m_is_pair, runF_ap, pr, gNe_ii, c, mLcL_step, lcStep, C_is_pair_1, h1, h2, show blsOf [D.bl true, D.bl true] = some [true, true] from rfl]
/-! ties as dicts -/
def pd (ts : List Tie) : List (Str × D) := ts.map fun t => (t.1, pr t.2)
@[simp] theorem names_pd (ts : List Tie) : names (pd ts) = nms ts := by simp [names, pd, nms]
@[simp] theorem pd_length (ts : List Tie) : (pd ts).length = ts.length := by simp [pd]
@[simp] theorem nms_length (ts : List Tie) : (nms ts).length = ts.length := by simp [nms]
@[simp] theorem pd_app (a b : List Tie) : pd (a ++ b) = pd a ++ pd b := by simp [pd]
@[simp] theorem pd_cons (a : Tie) (b : List Tie) : pd (a :: b) = (a.1, pr a.2) :: pd b := rfl
@[simp] theorem pd_nil : pd [] = [] := rfl
@[simp] theorem nms_app (a b : List Tie) : nms (a ++ b) = nms a ++ nms b := by simp [nms]
def tat (ts : List Tie) (n : Str) : Str × Str := (ts.lookup n).getD (⟨#[]⟩, ⟨#[]⟩)
theorem look_pd {ts : List Tie} {n : Str} (h : n ∈ nms ts) : (pd ts).lookup n = some (pr (tat ts n)) := by
  unfold tat
  induction ts with
  | nil => cases h
  | cons t r ih =>
    obtain ⟨a, p⟩ := t
    rw [pd_cons, lookup_cons', lookup_cons']
    by_cases e : n = a
    · rw [if_pos e, if_pos e]; rfl
    · rw [if_neg e, if_neg e]
      refine ih ?_
      rcases List.mem_cons.mp h with q | q
      · exact absurd q e
      · exact q
theorem look_no {ts : List Tie} {n : Str} (h : n ∉ nms ts) : (pd ts).lookup n = none := by
  induction ts with
  | nil => rfl
  | cons t r ih =>
    rw [pd_cons, lookup_cons', if_neg (fun e => h (by rw [e]; exact List.mem_cons_self ..)), ih fun q => h (List.mem_cons_of_mem _ q)]
theorem tat_mem {ts : List Tie} {n : Str} (h : n ∈ nms ts) : (n, tat ts n) ∈ ts := by
  unfold tat
  induction ts with
  | nil => cases h
  | cons t r ih =>
    obtain ⟨a, p⟩ := t
    rw [lookup_cons']
    by_cases e : n = a
    · rw [if_pos e, e]; exact List.mem_cons_self ..
    · rw [if_neg e]
      refine List.mem_cons_of_mem _ (ih ?_)
      rcases List.mem_cons.mp h with q | q
      · exact absurd q e
      · exact q
theorem tat_of {ts : List Tie} (hn : (nms ts).Nodup) {t : Tie} (h : t ∈ ts) : tat ts t.1 = t.2 := by
  unfold tat
  induction ts with
  | nil => cases h
  | cons a r ih =>
    obtain ⟨n, p⟩ := a
    have hn' : n ∉ nms r ∧ (nms r).Nodup := List.nodup_cons.mp hn
    rw [lookup_cons']
    rcases List.mem_cons.mp h with e | e
    · subst e; rw [if_pos rfl]; rfl
    · rw [if_neg (fun q => hn'.1 (by rw [← q]; exact List.mem_map.mpr ⟨t, e, rfl⟩))]
      exact ih hn'.2 e
theorem nms_mem {ts : List Tie} {t : Tie} (h : t ∈ ts) : t.1 ∈ nms ts := List.mem_map.mpr ⟨t, h, rfl⟩
structure Net (ps : List Str) (ts : List Tie) : Prop where
  p : GoodP ps
  len : ts.length ≤ 24
  nm : ∀ n ∈ nms ts, nm n = true
  nd : (nms ts).Nodup
  en : ∀ t ∈ ts, t.2.1 ∈ ps ∧ t.2.2 ∈ ps
/-- the ties as a web keeps them -/
def srt (ts : List Tie) : List Tie := (sortBy ltS (nms ts)).map fun n => (n, s2 (tat ts n))
/-- as arrows keep them -/
def srtA (ts : List Tie) : List Tie := (sortBy ltS (nms ts)).map fun n => (n, tat ts n)
theorem nms_srt (ts : List Tie) : nms (srt ts) = sortBy ltS (nms ts) := by simp [nms, srt, Function.comp_def]
theorem nms_srtA (ts : List Tie) : nms (srtA ts) = sortBy ltS (nms ts) := by simp [nms, srtA, Function.comp_def]
def webD (ps : List Str) (E : List Tie) : D := .obj "Web" [("known", .tup ((sortBy ltS ps).map .str)), ("ending", .dct (sd (pd E)))]
def arrD (ps : List Str) (E : List Tie) : D := .obj "Arrows" [("known", .tup ((sortBy ltS ps).map .str)), ("leading", .dct (sd (pd E)))]
theorem pd_map (l : List Str) (f : Str → Str × Str) : pd (l.map fun n => (n, f n)) = l.map fun n => (n, pr (f n)) := by simp [pd, Function.comp_def]
section
variable {ps : List Str} {ts : List Tie}
theorem Net.at (h : Net ps ts) {n : Str} (hn : n ∈ nms ts) : (tat ts n).1 ∈ ps ∧ (tat ts n).2 ∈ ps := h.en _ (tat_mem hn)
theorem E_init (h : Net ps ts) : f_Web___init__ [.obj "Web" [], .lst (ps.map .str), .dct (sd (pd ts))] = .ret .non [some (webD ps (srt ts)), none, none] := by
  have e3 : ¬ (24 : Int) < ts.length := by have := h.len; omega
  have e4 : ts.length ≤ sizeLine := sl_of (by have := h.len; omega)
  simp [f_Web___init__, m_Web___init__, runF_ap, E_need h.p]
  obtain ⟨ρ', q1, i, q2⟩ := loop_all (b := bName 3) (body := L_Web___init___1) (fun n : Str => .str n) (fun ρ => ∃ i, ρ = [some (.obj "Web" [("known", .tup ((sortBy ltS ps).map .str))]), some (.lst (ps.map .str)), some (.dct (sd (pd ts))), i])
    (l := sortBy ltS (nms ts)) (ρ := [some (.obj "Web" [("known", .tup ((sortBy ltS ps).map .str))]), some (.lst (ps.map .str)), some (.dct (sd (pd ts))), none]) ⟨_, rfl⟩ (by
      intro n hn ρ ⟨i, e⟩
      subst e
      have hn := sort_mem.mp hn
      have ha := h.at hn
      simp [lpStep, L_Web___init___1, E_is_name (h.nm n hn), look_pd hn, E_is_pair (ps := sortBy ltS ps) (sort_mem.mpr ha.1) (sort_mem.mpr ha.2)])
  rw [q1, q2]
  simp [e3, e4]
  rw [dc_map (g := fun n : Str => .str n) (fk := fun n => Sum.inr n) (f := fun n => pr (s2 (tat ts n)))]
  rotate_left
  · intro n hn
    have hn := sort_mem.mp hn
    have hg := gSort_pr (tat ts n)
    simp only [pr] at hg
    simp [dcStep, A_Web___init___1, C_Web___init___1, look_pd hn, keyD, hg, pr]
  rw [foldl_puts0 _ _ (sort_nodup h.nd)]
  simp [webD, srt, pd_map]
theorem E_initA (h : Net ps ts) (hd : ∀ t ∈ ts, t.2.1 ≠ t.2.2) : f_Arrows___init__ [.obj "Arrows" [], .lst (ps.map .str), .dct (sd (pd ts))] = .ret .non [some (arrD ps (srtA ts)), none, none] := by
  have e3 : ¬ (24 : Int) < ts.length := by have := h.len; omega
  have e4 : ts.length ≤ sizeLine := sl_of (by have := h.len; omega)
  simp [f_Arrows___init__, m_Arrows___init__, runF_ap, E_need h.p]
  obtain ⟨ρ', q1, i, q2⟩ := loop_all (b := bName 3) (body := L_Arrows___init___1) (fun n : Str => .str n) (fun ρ => ∃ i, ρ = [some (.obj "Arrows" [("known", .tup ((sortBy ltS ps).map .str))]), some (.lst (ps.map .str)), some (.dct (sd (pd ts))), i])
    (l := sortBy ltS (nms ts)) (ρ := [some (.obj "Arrows" [("known", .tup ((sortBy ltS ps).map .str))]), some (.lst (ps.map .str)), some (.dct (sd (pd ts))), none]) ⟨_, rfl⟩ (by
      intro n hn ρ ⟨i, e⟩
      subst e
      have hn := sort_mem.mp hn
      have ha := h.at hn
      have hq := hd _ (tat_mem hn)
      have hp := E_is_pair (ps := sortBy ltS ps) (sort_mem.mpr ha.1) (sort_mem.mpr ha.2)
      dsimp only at hq
      simp only [pr] at hp
      simp [lpStep, L_Arrows___init___1, E_is_name (h.nm n hn), look_pd hn, hp, pr, hq])
  rw [q1, q2]
  simp [e3, e4]
  rw [dc_map (g := fun n : Str => .str n) (fk := fun n => Sum.inr n) (f := fun n => pr (tat ts n))]
  rotate_left
  · intro n hn
    have hn := sort_mem.mp hn
    simp [dcStep, A_Arrows___init___1, C_Arrows___init___1, look_pd hn, keyD, pr]
  rw [foldl_puts0 _ _ (sort_nodup h.nd)]
  simp [arrD, srtA, pd_map]
end
end K42
/-! K42q: even_turning walks. -/
namespace K42
open PySem L2 Vm
theorem left_len {E : List Tie} {fs : List Str} {t : Tie} (hn : (nms E).Nodup) (ht : t ∈ E) (hf : t.1 ∉ fs) : (left E (fs ++ [t.1])).length + 1 = (left E fs).length := by
  induction E with
  | nil => cases ht
  | cons a r ih =>
    have hn' : a.1 ∉ nms r ∧ (nms r).Nodup := List.nodup_cons.mp hn
    rw [left_cons, left_cons]
    rcases List.mem_cons.mp ht with e | e
    · subst e
      rw [if_pos (by simp), if_neg hf, left_off hn'.1, List.length_cons]
    · have ne : a.1 ≠ t.1 := fun q => hn'.1 (by rw [q]; exact nms_mem e)
      have := ih hn'.2 e
      by_cases h : a.1 ∈ fs
      · rw [if_pos (by simp [h]), if_pos h]; exact this
      · rw [if_neg (by simp [h, ne]), if_neg h, List.length_cons, List.length_cons]; omega
theorem Ok.len {E F : List Tie} (o : Ok E F) : F.length ≤ E.length := by
  have hsub : ∀ n ∈ nms F, n ∈ nms E := fun n hn => by
    obtain ⟨x, hx, rfl⟩ := List.mem_map.mp hn
    obtain ⟨t, ht, e, _⟩ := o.of x hx
    rw [← e]; exact nms_mem ht
  have := List.Nodup.length_le_of_subset o.nd hsub
  simpa using this
structure WebE (ps : List Str) (E : List Tie) : Prop where
  k : (sortBy ltS ps).Nodup
  kl : ps.length ≤ 16
  nd : (nms E).Nodup
  len : E.length ≤ 24
  en : ∀ t ∈ E, t.2.1 ∈ sortBy ltS ps ∧ t.2.2 ∈ sortBy ltS ps
theorem gIn_two (s a b : Str) : gIn (.str s) (.tup [.str a, .str b]) = some (.bl (decide (s = a) || decide (s = b))) := by
  have := gIn_strt [a, b] s
  simp only [List.map_cons, List.map_nil] at this
  rw [this]
  simp
def cand (E F : List Tie) (v : Str) : List Tie := E.filter fun t => !(nms F).contains t.1 && (decide (v = t.2.1) || decide (v = t.2.2))
section
variable {ps : List Str} {E F : List Tie}
@[simp] theorem objO_web : objO "Web" (webD ps E) = some [(("known" : Str), D.tup ((sortBy ltS ps).map .str)), (("ending" : Str), D.dct (sd (pd E)))] := by
  unfold webD; rw [objO_obj, if_pos rfl]
theorem look_of (hn : (nms E).Nodup) {t : Tie} (ht : t ∈ E) : (pd E).lookup t.1 = some (pr t.2) := by rw [look_pd (nms_mem ht), tat_of hn ht]
theorem isSome_look (F : List Tie) (n : Str) : ((pd F).lookup n).isSome = (nms F).contains n := by
  by_cases h : n ∈ nms F
  · rw [look_pd h]; simp [h]
  · rw [look_no h]; simp [h]
theorem keysE (E : List Tie) : (nms E).map D.str = E.map fun t => D.str t.1 := by simp [nms, Function.comp_def]
theorem LC_round (hn : (nms E).Nodup) (F : List Tie) (v : Str) (a1 a4 a5 a6 a7 : Option D) :
    mLcL [8] (bName 8) T_go_round_1 C_go_round_1 ((nms E).map .str) [] [some (webD ps E), a1, some (.dct (sd (pd F))), some (.str v), a4, a5, a6, a7, none] = .ok ((nms (cand E F v)).map .str) [some (webD ps E), a1, some (.dct (sd (pd F))), some (.str v), a4, a5, a6, a7, none] := by
  rw [keysE, lc_filter (g := fun t : Tie => D.str t.1) (p := fun t => !(nms F).contains t.1 && (decide (v = t.2.1) || decide (v = t.2.2))) (f := fun t => .str t.1)]
  · rw [keysE]; rfl
  · intro t ht
    have h1 := look_of hn ht
    simp only [pr] at h1
    have h2 := isSome_look F t.1
    by_cases c : (nms F).contains t.1 = true
    · rw [c] at h2
      have c' : t.1 ∈ nms F := by simpa using c
      simp [lcStep, T_go_round_1, C_go_round_1, h1, h2, c']
    · have c' : t.1 ∉ nms F := by simpa using c
      have h2 : ((pd F).lookup t.1).isSome = false := by rw [h2]; simpa using c
      rw [Option.isSome_eq_false_iff, Option.isNone_iff_eq_none] at h2
      by_cases d : v = t.2.1 ∨ v = t.2.2
      · simp [lcStep, T_go_round_1, C_go_round_1, h1, h2, c', gIn_two, d]
      · simp [lcStep, T_go_round_1, C_go_round_1, h1, h2, c', gIn_two, d]
theorem E_round (h : WebE ps E) {s : Str} (o : Ok E F) : ∃ e F', Walk E s F e F' ∧ f_go_round [webD ps E, .str s, .dct (sd (pd F))] = .ret .non [none, none, some (.dct (sd (pd F')))] := by
  have hT : T_go_round_3 = T_go_round_1 := rfl
  have hC : C_go_round_2 = C_go_round_1 := rfl
  have hel : E.length ≤ sizeLine := sl_of (by have := h.len; omega)
  obtain ⟨ρ', q1, e, F', a3, a4, a5, a6, a7, q2, q3⟩ := while_inv (mt := T_go_round_2) (body := L_go_round_1)
    (fun k ρ => ∃ (v : Str) (G : List Tie) (a5 a6 a7 : Option D), ρ = [some (webD ps E), some (.str s), some (.dct (sd (pd G))), some (.str v), some (.lst ((nms (cand E G v)).map .str)), a5, a6, a7, none] ∧ Ok E G ∧ k = (left E (nms G)).length ∧ ∀ e F', Walk E v G e F' → Walk E s F e F')
    (fun ρ => ∃ (e : Str) (F' : List Tie) (a3 a4 a5 a6 a7 : Option D), Walk E s F e F' ∧ ρ = [some (webD ps E), some (.str s), some (.dct (sd (pd F'))), a3, a4, a5, a6, a7, none]) (by
      rintro k ρ ⟨v, G, a5, a6, a7, rfl, og, rfl, hw⟩
      cases hc : cand E G v with
      | nil =>
        refine .inl ⟨[some (webD ps E), some (.str s), some (.dct (sd (pd G))), some (.str v), some (.lst []), a5, a6, a7, none], by simp [T_go_round_2, nms], v, G, some (.str v), some (.lst []), a5, a6, a7, hw _ _ (.stop fun t ht hf => ?_), rfl⟩
        have := List.filter_eq_nil_iff.mp hc t ht
        simp [hf] at this
        exact ⟨fun q => this.1 q.symm, fun q => this.2 q.symm⟩
      | cons t r =>
        have htc : t ∈ cand E G v := by rw [hc]; exact List.mem_cons_self ..
        obtain ⟨ht, hp⟩ := List.mem_filter.mp htc
        simp at hp
        obtain ⟨hf, hv⟩ := hp
        have h1 := look_of h.nd ht
        simp only [pr] at h1
        have hgl := og.len
        have hgs : G.length < sizeLine := sl_lt (by have := h.len; omega)
        have key : ∃ u, (t.2 = (v, u) ∨ t.2 = (u, v)) ∧ (if t.2.1 = v then t.2.2 else t.2.1) = u := by
          by_cases c : t.2.1 = v
          · exact ⟨t.2.2, .inl (by rw [← c]), by rw [if_pos c]⟩
          · rcases hv with hv | hv
            · exact absurd hv.symm c
            · exact ⟨t.2.1, .inr (by rw [hv]), by rw [if_neg c]⟩
        obtain ⟨u, hu, hu2⟩ := key
        have hfn : t.1 ∉ names (pd G) := by rw [names_pd]; exact hf
        have hput : puts (pd G) t.1 (.tup [.str v, .str u]) = pd (G ++ [(t.1, (v, u))]) := by rw [puts_new hfn, pd_app]; rfl
        refine .inr ⟨[some (webD ps E), some (.str s), some (.dct (sd (pd G))), some (.str v), some (.lst ((nms (t :: r)).map .str)), a5, a6, a7, none], [some (webD ps E), some (.str s), some (.dct (sd (pd (G ++ [(t.1, (v, u))])))), some (.str u), some (.lst ((nms (cand E (G ++ [(t.1, (v, u))]) u)).map .str)), some (.str t.2.1), some (.str t.2.2), some (.str u), none], (left E (nms (G ++ [(t.1, (v, u))]))).length, ?_, ?_, ?_, u, _, _, _, _, rfl, og.step h.nd ht hf hu, rfl, fun e F' w => hw e F' (.step ht hf hu w)⟩
        · simp [T_go_round_2, show nms (t :: r) ≠ [] from by simp [nms]]
        · by_cases c : t.2.1 = v
          · rw [if_pos c] at hu2
            subst hu2
            simp [L_go_round_1, nms, h1, c, hgs, putD_sd, hput, hT, hC, hel]
            have := LC_round (ps := ps) h.nd (G ++ [(t.1, (v, t.2.2))]) t.2.2 (some (.str s)) (some (.lst ((nms (t :: r)).map .str))) (some (.str v)) (some (.str t.2.2)) (some (.str t.2.2))
            simp [nms, Function.comp_def] at this ⊢
            rw [this]; simp
          · rw [if_neg c] at hu2
            subst hu2
            simp [L_go_round_1, nms, h1, c, hgs, putD_sd, hput, hT, hC, hel]
            have := LC_round (ps := ps) h.nd (G ++ [(t.1, (v, t.2.1))]) t.2.1 (some (.str s)) (some (.lst ((nms (t :: r)).map .str))) (some (.str t.2.1)) (some (.str t.2.2)) (some (.str t.2.1))
            simp [nms, Function.comp_def] at this ⊢
            rw [this]; simp
        · have := left_len h.nd ht hf
          simp [nms] at this ⊢
          omega)
    100 (left E (nms F)).length [some (webD ps E), some (.str s), some (.dct (sd (pd F))), some (.str s), some (.lst ((nms (cand E F s)).map .str)), none, none, none, none] (by
      have : (left E (nms F)).length ≤ E.length := List.length_filter_le _ _
      have := h.len; omega) ⟨s, F, none, none, none, rfl, o, rfl, fun _ _ w => w⟩
  refine ⟨e, F', q2, ?_⟩
  have hl := LC_round (ps := ps) h.nd F s (some (.str s)) none none none none
  simp [f_go_round, m_go_round, runF_ap, hel, hl, q1, q3]
end
end K42
/-! K42r: even_turning. -/
namespace K42
open PySem L2 Vm
def dg (K : List Str) (f : Str → Int) : List (Str × D) := K.map fun v => (v, .int (f v))
theorem dg_names (K : List Str) (f : Str → Int) : names (dg K f) = K := by simp [names, dg, Function.comp_def]
theorem dg_len (K : List Str) (f : Str → Int) : (dg K f).length = K.length := by simp [dg]
theorem dg_look {K : List Str} (f : Str → Int) {v : Str} (h : v ∈ K) : (dg K f).lookup v = some (.int (f v)) := lookup_map (fun v => .int (f v)) h
theorem dg_put {K : List Str} (f : Str → Int) {a : Str} (h : a ∈ K) (x : Int) : puts (dg K f) a (.int x) = dg K fun v => if v = a then x else f v := by
  unfold puts
  rw [if_pos (by
    rw [List.any_eq_true]
    exact ⟨(a, .int (f a)), List.mem_map.mpr ⟨a, h, rfl⟩, by simp⟩)]
  unfold dg
  rw [List.map_map]
  apply List.map_congr_left
  intro v _
  dsimp only [Function.comp]
  by_cases e : v = a
  · rw [if_pos e, if_pos e]
  · rw [if_neg e, if_neg e]
theorem sumC_app (v : Str) (a b : List Tie) : sumC v (a ++ b) = sumC v a + sumC v b := by simp [sumC]
theorem Walks.snoc {E : List Tie} {p : List Str} {F F1 F2 : List Tie} {s e : Str} (w : Walks E p F F1) (h : Walk E s F1 e F2) : Walks E (p ++ [s]) F F2 := by
  induction w with
  | nil => exact .cons h .nil
  | cons h' _ ih => exact .cons h' (ih h)
section
variable {ps : List Str} {E F : List Tie}
theorem LC_odd (h : WebE ps E) (a1 a3 a4 a5 : Option D) : mLcL [6] (bName 6) T_even_turning_1 C_even_turning_2 ((sortBy ltS ps).map .str) [] [some (webD ps E), a1, some (.dct (sd (dg (sortBy ltS ps) fun v => (sumC v E : Int)))), a3, a4, a5, none] =
    .ok (((sortBy ltS ps).filter fun v => sumC v E % 2 = 1).map .str) [some (webD ps E), a1, some (.dct (sd (dg (sortBy ltS ps) fun v => (sumC v E : Int)))), a3, a4, a5, none] := by
  rw [lc_filter (g := D.str) (p := fun v => decide (sumC v E % 2 = 1)) (f := D.str)]
  · rfl
  · intro v hv
    have hq : ((sumC v E : Int) % 2 = 1) ↔ sumC v E % 2 = 1 := by omega
    by_cases c : sumC v E % 2 = 1
    · simp [lcStep, T_even_turning_1, C_even_turning_2, dg_look _ hv, gEq_ii, hq, c]
    · simp [lcStep, T_even_turning_1, C_even_turning_2, dg_look _ hv, gEq_ii, hq, c]
/-- what a turning is -/
structure Turned (E F : List Tie) : Prop where
  ok : Ok E F
  ev : ∀ v, -1 ≤ bal F v ∧ bal F v ≤ 1
  all : ∀ t ∈ E, t.1 ∈ nms F
theorem E_even (h : WebE ps E) : ∃ F, Turned E F ∧ f_even_turning [webD ps E] = .ret (.dct (sd (pd F))) [none] := by
  have c1 : ps.length ≤ sizeLine := sl_of (by have := h.kl; omega)
  have c2 : ps.length < sizeLine := sl_lt (by have := h.kl; omega)
  have kl := h.kl
  have hdc : ∀ (a1 a3 a4 a5 : Option D), mDcL [6] (bName 6) mYes A_even_turning_1 C_even_turning_1 ((sortBy ltS ps).map .str) [] [some (webD ps E), a1, none, a3, a4, a5, none] = .ok (sd (dg (sortBy ltS ps) fun _ => 0)) [some (webD ps E), a1, none, a3, a4, a5, none] := by
    intro a1 a3 a4 a5
    rw [dc_map (g := D.str) (fk := fun n => Sum.inr n) (f := fun _ => .int 0)]
    · rw [foldl_puts0 _ _ h.k]; rfl
    · intro n hn
      simp [dcStep, A_even_turning_1, C_even_turning_1, keyD]
  obtain ⟨ρ1, q1, a3, a6, q2⟩ := loop_pre (b := bName 3) (body := L_even_turning_2) (fun t : Tie => D.str t.1)
    (fun p ρ => ∃ a3 a6, ρ = [some (webD ps E), some (.dct []), some (.dct (sd (dg (sortBy ltS ps) fun v => (sumC v p : Int)))), a3, none, none, a6])
    (l := E) (ρ := [some (webD ps E), some (.dct []), some (.dct (sd (dg (sortBy ltS ps) fun _ => 0))), none, none, none, none]) ⟨none, none, rfl⟩ (by
      rintro p t r ρ he ⟨a3, a6, rfl⟩
      have ht : t ∈ E := by rw [he]; simp
      have h1 := look_of h.nd ht
      simp only [pr] at h1
      obtain ⟨h2, h3⟩ := h.en t ht
      have e1 : (fun v => (sumC v (p ++ [t]) : Int)) = fun v => if v = t.2.2 then (if t.2.2 = t.2.1 then (sumC t.2.1 p : Int) + 1 else (sumC t.2.2 p : Int)) + 1 else if v = t.2.1 then (sumC t.2.1 p : Int) + 1 else (sumC v p : Int) := by
        funext v
        have : sumC v [t] = (if t.2.1 = v then 1 else 0) + (if t.2.2 = v then 1 else 0) := by simp [sumC, cnt]
        rw [sumC_app, this]
        by_cases c1 : v = t.2.2
        · subst c1
          by_cases c2 : t.2.2 = t.2.1
          · simp [c2]; omega
          · simp [c2, Ne.symm c2]
        · by_cases c2 : v = t.2.1
          · subst c2; simp [c1, Ne.symm c1]
          · simp [c1, c2, Ne.symm c1, Ne.symm c2]
      refine ⟨[some (webD ps E), some (.dct []), some (.dct (sd (dg (sortBy ltS ps) fun v => (sumC v (p ++ [t]) : Int)))), some (.str t.1), none, none, some (.str t.2.2)], .inl ?_, _, _, rfl⟩
      rw [e1]
      simp [lpStep, L_even_turning_2, L_even_turning_1, h1, mLoop_step, dg_look _ h2, dg_look _ h3, dg_len, putD_sd, dg_put _ h2, dg_put _ h3, c2])
  have hodd := LC_odd h (some (.dct [])) a3 none none
  have hol : ((sortBy ltS ps).filter fun v => sumC v E % 2 = 1).length ≤ 16 := by
    have := List.length_filter_le (fun v => decide (sumC v E % 2 = 1)) (sortBy ltS ps)
    rw [sort_length] at this
    omega
  generalize hO : ((sortBy ltS ps).filter fun v => sumC v E % 2 = 1) = O at hodd hol
  obtain ⟨ρ2, q3, F, a5, q4, w, oF⟩ := loop_pre (b := bName 5) (body := L_even_turning_3) D.str
    (fun p ρ => ∃ F a5, ρ = [some (webD ps E), some (.dct (sd (pd F))), some (.dct (sd (dg (sortBy ltS ps) fun v => (sumC v E : Int)))), a3, some (.lst (O.map .str)), a5, a6] ∧ Walks E p [] F ∧ Ok E F)
    (l := O ++ sortBy ltS ps) (ρ := [some (webD ps E), some (.dct []), some (.dct (sd (dg (sortBy ltS ps) fun v => (sumC v E : Int)))), a3, some (.lst (O.map .str)), none, a6]) ⟨[], none, rfl, .nil, Ok.nil E⟩ (by
      rintro p s r ρ he ⟨F, a5, rfl, w, oF⟩
      obtain ⟨e, F', w', e'⟩ := E_round h (s := s) oF
      refine ⟨_, .inl ?_, F', some (.str s), rfl, w.snoc w', (walk_facts h.nd w' oF).ok⟩
      simp [lpStep, L_even_turning_3, e'])
  rw [← hO] at w
  obtain ⟨t1, t2, t3⟩ := walks_all h.nd h.k h.en w
  refine ⟨F, ⟨t1, t2, t3⟩, ?_⟩
  have c3 : O.length + ps.length ≤ sizeLine := sl_of (by omega)
  have q1' : mLoop (bName 3) L_even_turning_2 ((nms E).map D.str) [some (webD ps E), some (.dct []), some (.dct (sd (dg (sortBy ltS ps) fun _ => 0))), none, none, none, none] = .nx ρ1 := by rw [keysE]; exact q1
  rw [List.map_append] at q3
  have hl2 := hdc (some (.dct [])) none none none
  simp [f_even_turning, m_even_turning, runF_ap, c1, hl2, q1', q2, hodd, c3, q3, q4]
end
end K42
/-! K42s: the checks of a turning. -/
namespace K42
open PySem L2 Vm
@[simp] theorem gIsiA_l (f : String → Bool) (x : List D) : gIsiA f (.lst x) = some (.bl (f "list")) := (rfl)
@[simp] theorem gIsiA_t (f : String → Bool) (x : List D) : gIsiA f (.tup x) = some (.bl (f "tuple")) := (rfl)
@[simp] theorem gIsiA_s (f : String → Bool) (x : Str) : gIsiA f (.str x) = some (.bl (f "str")) := (rfl)
theorem sa1 : subA ["tuple", "list"] "list" = true := by decide +kernel
theorem sa2 : subA ["tuple", "list"] "tuple" = true := by decide +kernel
theorem sa3 : subA ["tuple", "list"] "str" = false := by decide +kernel
theorem sb1 : subT "tuple" "list" = false := by decide +kernel
theorem sb2 : subT "list" "tuple" = false := by decide +kernel
theorem sb3 : subT "bool" "str" = false := by decide +kernel
theorem sb4 : subT "int" "str" = false := by decide +kernel
theorem E_is0 (s : Str) : f__law_is_0 [.str s, .str s] = .ret (.bl true) [none, none] := by
  simp [f__law_is_0, m__law_is_0, runF_ap, sa3, Vm.isNon, sb3, sb4, gNe_bb, gEq_bb]
theorem LC_is (l : List Str) (x : D) : mLcL [2, 3] (bTup 2 (bCons (bName 2) (bCons (bName 3) bNil))) mYes C__law_is_1 (zipD (l.map .str) (l.map .str)) [] [some x, some x, none, none] = .ok (l.map fun _ => .bl true) [some x, some x, none, none] := by
  have e : zipD (l.map D.str) (l.map D.str) = l.map fun s => D.tup [.str s, .str s] := by
    induction l with
    | nil => rfl
    | cons a r ih => rw [List.map_cons, zipD, ih]; rfl
  rw [e, lc_map (g := fun s => D.tup [.str s, .str s]) (f := fun _ => .bl true)]
  · rfl
  · intro s _
    simp [lcStep, C__law_is_1, E_is0]
theorem bls_true {α : Type} (l : List α) : blsOf (l.map fun _ => D.bl true) = some (l.map fun _ => true) := blsOf_mapf (fun _ => true) l
theorem zipD_same (l : List Str) : (zipD (l.map D.str) (l.map D.str)).length = l.length := by rw [zipD_length]; simp
theorem E_isL (l : List Str) (hl : l.length ≤ 1000) : f__law_is [.lst (l.map .str), .lst (l.map .str)] = .ret (.bl true) [none, none] := by
  have c : l.length ≤ sizeLine := sl_of (by omega)
  simp [f__law_is, m__law_is, runF_ap, sa1, sb1, gNe_bb, gEq_ii, zipD_same, c, LC_is, bls_true]
theorem E_isP (p : Str × Str) : f__law_is [pr p, pr p] = .ret (.bl true) [none, none] := by
  have c : 2 ≤ sizeLine := sl_of (by omega)
  have h := LC_is [p.1, p.2] (pr p)
  simp only [pr, List.map_cons, List.map_nil] at h
  have h2 := zipD_same [p.1, p.2]
  simp only [List.map_cons, List.map_nil] at h2
  simp [f__law_is, m__law_is, runF_ap, pr, sa2, sb2, gNe_bb, gEq_ii, h2, c, h, show blsOf [D.bl true, D.bl true] = some [true, true] from rfl]
structure Good (ts F : List Tie) : Prop where
  nd : (nms F).Nodup
  len : F.length = ts.length
  mem : ∀ n, n ∈ nms F ↔ n ∈ nms ts
  s2 : ∀ n ∈ nms ts, s2 (tat F n) = s2 (tat ts n)
  ev : ∀ v, -1 ≤ bal F v ∧ bal F v ≤ 1
def netD (ps : List Str) (ts : List Tie) : D := .tup [.lst (ps.map .str), .dct (sd (pd ts))]
theorem gNe_two (a b : Str) : gNe (.lst [.str a, .str b]) (.lst [.str a, .str b]) = some (.bl false) := by
  have := gNe_lstS [a, b] [a, b]
  simpa using this
section
variable {ps : List Str} {ts F : List Tie}
theorem Net.webE (h : Net ps ts) : WebE ps (srt ts) := by
  refine ⟨sort_nodup h.p.nd, h.p.l2, by rw [nms_srt]; exact sort_nodup h.nd, by have := h.len; simp [srt]; exact this, fun t ht => ?_⟩
  obtain ⟨n, hn, rfl⟩ := List.mem_map.mp ht
  have ha := h.at (sort_mem.mp hn)
  dsimp only
  rcases s2_or (tat ts n) with e | e <;> rw [e]
  · exact ⟨sort_mem.mpr ha.1, sort_mem.mpr ha.2⟩
  · exact ⟨sort_mem.mpr ha.2, sort_mem.mpr ha.1⟩
theorem srt_tat {n : Str} (h : n ∈ nms ts) : tat (srt ts) n = Vm.s2 (tat ts n) := by
  unfold srt
  have hl : n ∈ sortBy ltS (nms ts) := sort_mem.mpr h
  generalize sortBy ltS (nms ts) = l at hl
  conv => lhs; unfold tat
  induction l with
  | nil => cases hl
  | cons a r ih =>
    rw [List.map_cons, lookup_cons']
    by_cases e : n = a
    · rw [if_pos e, e]; rfl
    · rw [if_neg e]
      rcases List.mem_cons.mp hl with q | q
      · exact absurd q e
      · exact ih q
theorem Turned.good (h : Net ps ts) (t : Turned (srt ts) F) : Good ts F := by
  have hE := h.webE
  have hmem : ∀ n, n ∈ nms F ↔ n ∈ nms ts := fun n => by
    constructor
    · intro hn
      obtain ⟨x, hx, rfl⟩ := List.mem_map.mp hn
      obtain ⟨u, hu, e, _⟩ := t.ok.of x hx
      have := nms_mem hu
      rw [nms_srt, e] at this
      exact sort_mem.mp this
    · intro hn
      have : n ∈ nms (srt ts) := by rw [nms_srt]; exact sort_mem.mpr hn
      obtain ⟨u, hu, rfl⟩ := List.mem_map.mp this
      exact t.all u hu
  refine ⟨t.ok.nd, ?_, hmem, fun n hn => ?_, t.ev⟩
  · have := (List.perm_ext_iff_of_nodup t.ok.nd h.nd).mpr hmem
    have := this.length_eq
    simpa using this
  · have hx := tat_mem ((hmem n).mpr hn)
    obtain ⟨u, hu, e1, e2⟩ := t.ok.of _ hx
    dsimp only at e1 e2
    have hu2 := tat_of hE.nd hu
    rw [e1, srt_tat hn] at hu2
    rcases e2 with e2 | e2
    · rw [e2, ← hu2, s2_s2]
    · rw [e2, s2_swap u.2.1 u.2.2]
      show Vm.s2 u.2 = _
      rw [← hu2, s2_s2]
theorem E_law_turning (h : Net ps ts) (g : Good ts F) : f__law_is_turning [netD ps ts, .dct (sd (pd F))] = .ret (.bl true) [none, none] := by
  have c : 2 ≤ sizeLine := sl_of (by omega)
  simp [f__law_is_turning, m__law_is_turning, runF_ap, netD, gNe_ii, g.len]
  obtain ⟨ρ', q1, i, j, q2⟩ := loop_all (b := bName 2) (body := L__law_is_turning_1) D.str (fun ρ => ∃ i j, ρ = [some (.tup [.lst (ps.map .str), .dct (sd (pd ts))]), some (.dct (sd (pd F))), i, j])
    (l := nms ts) (ρ := [some (.tup [.lst (ps.map .str), .dct (sd (pd ts))]), some (.dct (sd (pd F))), none, none]) ⟨_, _, rfl⟩ (by
      rintro n hn ρ ⟨i, j, rfl⟩
      have h1 := look_pd ((g.mem n).mpr hn)
      have h2 := look_pd hn
      have h3 := gSort_pr (tat F n)
      have h4 := gSort_pr (tat ts n)
      rw [g.s2 n hn] at h3
      simp only [pr] at h1 h2 h3 h4
      simp [lpStep, L__law_is_turning_1, h1, h2, h3, h4, gNe_ii, gNe_two, c, mLcL_step, lcStep, C__law_is_turning_1, show blsOf [D.bl true, D.bl true] = some [true, true] from rfl])
  rw [q1, q2]
  simp
theorem gNotIn_pr (p q : Str × Str) (h : p = q ∨ p = (q.2, q.1)) : gNotIn (pr p) (.lst [.tup [.str q.1, .str q.2], .tup [.str q.2, .str q.1]]) = some (.bl false) := by
  have e1 := fun a b : List Str => okEq_tupS a b 62
  have k1 : okIn [.tup [.str q.1, .str q.2], .tup [.str q.2, .str q.1]] (pr p) = true := by
    have a1 := e1 [q.1, q.2] [p.1, p.2]
    have a2 := e1 [q.2, q.1] [p.1, p.2]
    have b1 := noDo_tup [q.1, q.2]
    simp only [List.map_cons, List.map_nil] at a1 a2
    unfold okIn
    rw [Bool.and_eq_true]
    exact ⟨rfl, by simp only [List.all_cons, List.all_nil, pr]; rw [a1, a2]; rfl⟩
  rw [gNotIn_lst, k1, if_pos rfl]
  have d1 := deq_tupS [q.1, q.2] [p.1, p.2]
  have d2 := deq_tupS [q.2, q.1] [p.1, p.2]
  simp only [List.map_cons, List.map_nil] at d1 d2
  simp only [List.any_cons, List.any_nil, pr]
  rw [d1, d2]
  rcases h with h | h <;> rw [h] <;> simp
theorem Good.or (h : Net ps ts) (g : Good ts F) {n : Str} (hn : n ∈ nms ts) : tat F n = Vm.s2 (tat ts n) ∨ tat F n = ((Vm.s2 (tat ts n)).2, (Vm.s2 (tat ts n)).1) := by
  rw [← g.s2 n hn]
  rcases s2_or (tat F n) with e | e
  · exact .inl e.symm
  · right; rw [e]
theorem E_turning (h : Net ps ts) (g : Good ts F) : f_is_turning [webD ps (srt ts), .dct (sd (pd F))] = .ret (.bl true) [none, none] := by
  have hsl : (srt ts).length = ts.length := by simp [srt]
  simp [f_is_turning, m_is_turning, runF_ap, gNe_ii, g.len, hsl]
  obtain ⟨ρ', q1, i, j, k, q2⟩ := loop_all (b := bName 2) (body := L_is_turning_1) D.str (fun ρ => ∃ i j k, ρ = [some (webD ps (srt ts)), some (.dct (sd (pd F))), i, j, k])
    (l := nms (srt ts)) (ρ := [some (webD ps (srt ts)), some (.dct (sd (pd F))), none, none, none]) ⟨_, _, _, rfl⟩ (by
      rintro n hn ρ ⟨i, j, k, rfl⟩
      have h2 := look_pd hn
      have hn : n ∈ nms ts := by rw [nms_srt] at hn; exact sort_mem.mp hn
      have h1 := look_pd ((g.mem n).mpr hn)
      rw [srt_tat hn] at h2
      have h3 := gNotIn_pr _ _ (g.or h hn)
      simp only [pr] at h1 h2 h3
      simp [lpStep, L_is_turning_1, h1, h2, h3])
  rw [q1, q2]
  simp
theorem outN_len (F : List Tie) (v : Str) : outN F v = (F.filter fun t => decide (t.2.1 = v)).length := by
  induction F with
  | nil => rfl
  | cons a r ih =>
    have : outN (a :: r) v = (if a.2.1 = v then 1 else 0) + outN r v := by simp [outN]
    rw [this, ih, List.filter_cons]
    by_cases e : a.2.1 = v <;> simp [e]; omega
theorem inN_len (F : List Tie) (v : Str) : inN F v = (F.filter fun t => decide (t.2.2 = v)).length := by
  induction F with
  | nil => rfl
  | cons a r ih =>
    have : inN (a :: r) v = (if a.2.2 = v then 1 else 0) + inN r v := by simp [inN]
    rw [this, ih, List.filter_cons]
    by_cases e : a.2.2 = v <;> simp [e]; omega
theorem E_law_even (h : Net ps ts) (g : Good ts F) : f__law_is_even [netD ps ts, .dct (sd (pd F))] = .ret (.bl true) [none, none] := by
  have c : F.length ≤ sizeLine := sl_of (by have := h.len; have := g.len; omega)
  have l1 : ∀ (v : Str) (a3 a4 : Option D), mLcL [5] (bName 5) T__law_is_even_1 C__law_is_even_1 ((nms F).map .str) [] [some (netD ps ts), some (.dct (sd (pd F))), some (.str v), a3, a4, none] = .ok ((F.filter fun t => decide (t.2.1 = v)).map fun t => .str t.1) [some (netD ps ts), some (.dct (sd (pd F))), some (.str v), a3, a4, none] := fun v a3 a4 => by
    rw [keysE, lc_filter (g := fun t : Tie => D.str t.1) (p := fun t => decide (t.2.1 = v)) (f := fun t => .str t.1)]
    · rfl
    · intro t ht
      have h1 := look_of g.nd ht
      simp only [pr] at h1
      by_cases e : t.2.1 = v <;> simp [lcStep, T__law_is_even_1, C__law_is_even_1, h1, e]
  have l2 : ∀ (v : Str) (a3 a4 : Option D), mLcL [5] (bName 5) T__law_is_even_2 C__law_is_even_2 ((nms F).map .str) [] [some (netD ps ts), some (.dct (sd (pd F))), some (.str v), a3, a4, none] = .ok ((F.filter fun t => decide (t.2.2 = v)).map fun t => .str t.1) [some (netD ps ts), some (.dct (sd (pd F))), some (.str v), a3, a4, none] := fun v a3 a4 => by
    rw [keysE, lc_filter (g := fun t : Tie => D.str t.1) (p := fun t => decide (t.2.2 = v)) (f := fun t => .str t.1)]
    · rfl
    · intro t ht
      have h1 := look_of g.nd ht
      simp only [pr] at h1
      by_cases e : t.2.2 = v <;> simp [lcStep, T__law_is_even_2, C__law_is_even_2, h1, e]
  have hnet : netD ps ts = .tup [.lst (ps.map .str), .dct (sd (pd ts))] := rfl
  simp [f__law_is_even, m__law_is_even, runF_ap]
  rw [show gIx (netD ps ts) (.int 0) = some (.lst (ps.map .str)) from by rw [hnet]; simp]
  simp
  obtain ⟨ρ', q1, i, j, k, q2⟩ := loop_all (b := bName 2) (body := L__law_is_even_1) D.str (fun ρ => ∃ i j k, ρ = [some (netD ps ts), some (.dct (sd (pd F))), i, j, k, none])
    (l := ps) (ρ := [some (netD ps ts), some (.dct (sd (pd F))), none, none, none, none]) ⟨_, _, _, rfl⟩ (by
      rintro v hv ρ ⟨i, j, k, rfl⟩
      have hb := g.ev v
      unfold bal at hb
      rw [outN_len, inN_len] at hb
      have e : ¬ (1 : Int) < (if ((F.filter fun t => decide (t.2.2 = v)).length : Int) - (F.filter fun t => decide (t.2.1 = v)).length < 0 then -(((F.filter fun t => decide (t.2.2 = v)).length : Int) - (F.filter fun t => decide (t.2.1 = v)).length) else ((F.filter fun t => decide (t.2.2 = v)).length : Int) - (F.filter fun t => decide (t.2.1 = v)).length) := by
        split <;> omega
      simp [lpStep, L__law_is_even_1, l1, l2, c]
      simp only [e]
      simp)
  rw [q1, q2]
  simp
end
end K42
/-! K42t: arrows, the whole check of a net. -/
namespace K42
open PySem L2 Vm
section
variable {vs : List Nat} {b : D → Rho → Option Rho} {mt : Rho → ER Bool} {me mk : ME} {α : Type}
theorem dc_filter (g : α → D) (p : α → Bool) (fk : α → Key) (f : α → D) {ρ : Rho} : ∀ {ds : List α} {acc : List (Key × D)}, (∀ d ∈ ds, dcStep vs b mt mk me (g d) ρ = .ok (if p d = true then some (fk d, f d) else none) ρ) →
    mDcL vs b mt mk me (ds.map g) acc ρ = .ok ((ds.filter p).foldl (fun a d => putD a (fk d) (f d)) acc) ρ
  | [], acc, _ => by simp
  | d :: r, acc, st => by
    rw [List.map_cons, mDcL_step, st d (List.mem_cons_self ..), ERy_ok, dc_filter g p fk f fun d' hd => st d' (List.mem_cons_of_mem _ hd)]
    cases hp : p d <;> simp [hp]
end
theorem foldl_pd : ∀ (l acc : List Tie), (nms (acc ++ l)).Nodup → l.foldl (fun a t => putD a (.inr t.1) (pr t.2)) (sd (pd acc)) = sd (pd (acc ++ l))
  | [], acc, _ => by simp
  | t :: r, acc, hn => by
    have h1 : t.1 ∉ names (pd acc) := by
      rw [names_pd]
      intro q
      rw [nms_app, List.nodup_append] at hn
      exact hn.2.2 _ q t.1 (List.mem_cons_self ..) rfl
    have e : pd acc ++ [(t.1, pr t.2)] = pd (acc ++ [t]) := by simp
    rw [List.foldl_cons, putD_sd, puts_new h1, e, foldl_pd r (acc ++ [t]) (by rw [List.append_assoc]; exact hn)]
    simp
def dif (t : Tie) : Bool := !decide (t.2.1 = t.2.2)
theorem nodup_filter {E : List Tie} (h : (nms E).Nodup) (p : Tie → Bool) : (nms (E.filter p)).Nodup := h.sublist (List.Sublist.map _ List.filter_sublist)
theorem mem_filter {E : List Tie} (hn : (nms E).Nodup) (p : Tie → Bool) (n : Str) : n ∈ nms (E.filter p) ↔ n ∈ nms E ∧ p (n, tat E n) = true := by
  constructor
  · intro h
    obtain ⟨t, ht, rfl⟩ := List.mem_map.mp h
    obtain ⟨h1, h2⟩ := List.mem_filter.mp ht
    refine ⟨nms_mem h1, ?_⟩
    rw [tat_of hn h1]; exact h2
  · rintro ⟨h1, h2⟩
    exact List.mem_map.mpr ⟨_, List.mem_filter.mpr ⟨tat_mem h1, h2⟩, rfl⟩
theorem tat_filter {E : List Tie} (hn : (nms E).Nodup) (p : Tie → Bool) {n : Str} (h : n ∈ nms (E.filter p)) : tat (E.filter p) n = tat E n := by
  obtain ⟨t, ht, rfl⟩ := List.mem_map.mp h
  rw [tat_of (nodup_filter hn p) ht, tat_of hn (List.mem_filter.mp ht).1]
theorem srtA_tat {ts : List Tie} {n : Str} (h : n ∈ nms ts) : tat (srtA ts) n = tat ts n := by
  unfold srtA
  have hl : n ∈ sortBy ltS (nms ts) := sort_mem.mpr h
  generalize sortBy ltS (nms ts) = l at hl
  conv => lhs; unfold tat
  induction l with
  | nil => cases hl
  | cons a r ih =>
    rw [List.map_cons, lookup_cons']
    by_cases e : n = a
    · rw [if_pos e, e]; rfl
    · rw [if_neg e]
      rcases List.mem_cons.mp hl with q | q
      · exact absurd q e
      · exact ih q
@[simp] theorem objO_arr (ps : List Str) (E : List Tie) : objO "Arrows" (arrD ps E) = some [(("known" : Str), D.tup ((sortBy ltS ps).map .str)), (("leading" : Str), D.dct (sd (pd E)))] := by
  unfold arrD; rw [objO_obj, if_pos rfl]
section
variable {ps : List Str} {ts F : List Tie}
theorem s2_dif {p q : Str × Str} (h : s2 p = s2 q) : (p.1 = p.2) ↔ (q.1 = q.2) := by
  have h1 : ∀ p : Str × Str, (s2 p).1 = (s2 p).2 ↔ p.1 = p.2 := fun p => by
    rcases s2_or p with e | e <;> rw [e]
    exact ⟨Eq.symm, Eq.symm⟩
  rw [← h1 p, ← h1 q, h]
theorem GoodP.sort (h : GoodP ps) : GoodP (sortBy ltS ps) := ⟨by simpa using h.l1, by simpa using h.l2, fun s hs => h.nm s (sort_mem.mp hs), sort_nodup h.nd⟩
theorem Good.net (h : Net ps ts) (g : Good ts F) : Net (sortBy ltS ps) F := by
  refine ⟨h.p.sort, by have := g.len; have := h.len; omega, fun n hn => h.nm n ((g.mem n).mp hn), g.nd, fun t ht => ?_⟩
  have hn := (g.mem t.1).mp (nms_mem ht)
  have ha := h.at hn
  have e := g.s2 t.1 hn
  rw [tat_of g.nd ht] at e
  have k : (Vm.s2 (tat ts t.1)).1 ∈ ps ∧ (Vm.s2 (tat ts t.1)).2 ∈ ps := by
    rcases s2_or (tat ts t.1) with q | q <;> rw [q]
    · exact ha
    · exact ⟨ha.2, ha.1⟩
  rw [← e] at k
  rcases s2_or t.2 with q | q <;> rw [q] at k
  · exact ⟨sort_mem.mpr k.1, sort_mem.mpr k.2⟩
  · exact ⟨sort_mem.mpr k.2, sort_mem.mpr k.1⟩
theorem Net.filter (h : Net ps ts) (p : Tie → Bool) : Net ps (ts.filter p) :=
  ⟨h.p, Nat.le_trans (List.length_filter_le _ _) h.len, fun n hn => h.nm n ((mem_filter h.nd p n).mp hn).1, nodup_filter h.nd p, fun t ht => h.en t (List.mem_filter.mp ht).1⟩
theorem Net.srtA (h : Net ps ts) : Net ps (srtA ts) := by
  refine ⟨h.p, by have := h.len; simp [K42.srtA]; exact this, fun n hn => ?_, by rw [nms_srtA]; exact sort_nodup h.nd, fun t ht => ?_⟩
  · rw [nms_srtA] at hn
    exact h.nm n (sort_mem.mp hn)
  · obtain ⟨n, hn, rfl⟩ := List.mem_map.mp ht
    exact h.at (sort_mem.mp hn)
theorem arrD_sort (E : List Tie) : arrD (sortBy ltS ps) E = arrD ps E := by unfold arrD; rw [sort_sort]
theorem webD_sort (E : List Tie) : webD (sortBy ltS ps) E = webD ps E := by unfold webD; rw [sort_sort]
theorem E_arrows_of (h : Net ps ts) (g : Good ts F) : f_arrows_of [webD ps (srt ts), .dct (sd (pd F))] = .ret (arrD ps (srtA (F.filter dif))) [none, none] := by
  have c : F.length ≤ sizeLine := sl_of (by have := h.len; have := g.len; omega)
  have l1 : ∀ a2 : Option D, mDcL [3] (bName 3) T_arrows_of_1 A_arrows_of_1 C_arrows_of_1 ((nms F).map .str) [] [some (webD ps (srt ts)), some (.dct (sd (pd F))), a2, none] = .ok (sd (pd (F.filter dif))) [some (webD ps (srt ts)), some (.dct (sd (pd F))), a2, none] := fun a2 => by
    rw [keysE, dc_filter (g := fun t : Tie => D.str t.1) (p := dif) (fk := fun t => .inr t.1) (f := fun t => pr t.2)]
    · have := foldl_pd (F.filter dif) [] (by simpa using nodup_filter g.nd dif)
      simp at this
      rw [this]
    · intro t ht
      have h1 := look_of g.nd ht
      simp only [pr] at h1
      by_cases e : t.2.1 = t.2.2 <;> simp [dcStep, T_arrows_of_1, A_arrows_of_1, C_arrows_of_1, h1, e, dif, pr, keyD]
  have hi := E_initA ((g.net h).filter dif) (fun t ht => by have := (List.mem_filter.mp ht).2; simpa [dif] using this)
  rw [arrD_sort] at hi
  have hcons : nonO D.non = some () := by first | rfl | simp
  simp [f_arrows_of, m_arrows_of, runF_ap, E_turning h g, c, l1, hi]
theorem E_under (h : Net ps ts) : f_under_web [arrD ps (srtA ts)] = .ret (webD ps (srt (srtA ts))) [none] := by
  have hn : Net (sortBy ltS ps) (srtA ts) := ⟨h.p.sort, h.srtA.len, h.srtA.nm, h.srtA.nd, fun t ht => ⟨sort_mem.mpr (h.srtA.en t ht).1, sort_mem.mpr (h.srtA.en t ht).2⟩⟩
  have hi := E_init hn
  rw [webD_sort] at hi
  simp [f_under_web, m_under_web, runF_ap, hi]
theorem E_web_of (h : Net ps ts) : f__law_web_of [netD ps ts] = .ret (webD ps (srt ts)) [none] := by
  simp [f__law_web_of, m__law_web_of, runF_ap, netD, E_init h]
theorem srt_ext {A B : List Tie} (hA : (nms A).Nodup) (hB : (nms B).Nodup) (hm : ∀ n, n ∈ nms A ↔ n ∈ nms B) (ht : ∀ n ∈ nms A, s2 (tat A n) = s2 (tat B n)) : srt A = srt B := by
  unfold srt
  have : sortBy ltS (nms A) = sortBy ltS (nms B) := sort_of_perm ((List.perm_ext_iff_of_nodup hA hB).mpr hm)
  rw [← this]
  apply List.map_congr_left
  intro n hn
  rw [ht n (sort_mem.mp hn)]
theorem pd_tup (E : List Tie) : TupV (pd E) := fun p hp => by
  obtain ⟨t, _, rfl⟩ := List.mem_map.mp hp
  exact ⟨[t.2.1, t.2.2], rfl⟩
theorem E_eq (E : List Tie) (hE : (nms E).Nodup) : gOwnEq "Web" f_Web___eq__ (webD ps E) (webD ps E) = some (.bl true) := by
  have e1 : is_Web (webD ps E) = some (.bl true) := by simp [is_Web, webD, io_Web]
  have e2 := gEq_sd_same (pd_tup E) (pd_tup E) rfl (fun p hp => by
    obtain ⟨t, ht, rfl⟩ := List.mem_map.mp hp
    exact look_of hE ht)
  have e3 : f_Web___eq__ [webD ps E, webD ps E] = .ret (.bl true) [none, none] := by
    simp [f_Web___eq__, m_Web___eq__, runF_ap, e1, e2]
  unfold webD at e3 ⊢
  unfold gOwnEq
  dsimp only
  rw [if_pos ⟨rfl, rfl⟩, e3]
theorem E_net (h : Net ps ts) : f__law_net_right [netD ps ts] = .ret (.bl true) [none] := by
  obtain ⟨F, tF, e2⟩ := E_even h.webE
  have g := tF.good h
  have e1 := E_web_of h
  have hA := (g.net h).filter dif
  have hAp : Net ps (F.filter dif) := ⟨h.p, hA.len, hA.nm, hA.nd, fun t ht => ⟨sort_mem.mp (hA.en t ht).1, sort_mem.mp (hA.en t ht).2⟩⟩
  have hP := h.filter dif
  have hmem : ∀ n, n ∈ nms (F.filter dif) ↔ n ∈ nms (ts.filter dif) := fun n => by
    rw [mem_filter g.nd, mem_filter h.nd, g.mem n]
    constructor
    · rintro ⟨q1, q2⟩
      refine ⟨q1, ?_⟩
      have := s2_dif (g.s2 n q1)
      simp [dif] at q2 ⊢
      exact fun e => q2 (this.mpr e)
    · rintro ⟨q1, q2⟩
      refine ⟨q1, ?_⟩
      have := s2_dif (g.s2 n q1)
      simp [dif] at q2 ⊢
      exact fun e => q2 (this.mp e)
  have hs : sortBy ltS (nms (F.filter dif)) = sortBy ltS (nms (ts.filter dif)) := sort_of_perm ((List.perm_ext_iff_of_nodup hA.nd hP.nd).mpr hmem)
  have hweb : srt (srtA (F.filter dif)) = srt (ts.filter dif) := srt_ext hAp.srtA.nd hP.nd (fun n => by rw [nms_srtA, sort_mem]; exact hmem n) fun n hn => by
    rw [nms_srtA] at hn
    have hn := sort_mem.mp hn
    have hn2 := (hmem n).mp hn
    rw [srtA_tat hn, tat_filter g.nd dif hn, tat_filter h.nd dif hn2]
    exact g.s2 n ((mem_filter h.nd dif n).mp hn2).1
  have e4 := E_under hAp
  rw [hweb] at e4
  have e5 := E_init hP
  have e6 := E_eq (ps := ps) (srt (ts.filter dif)) (by rw [nms_srt]; exact sort_nodup hP.nd)
  have hnet : netD ps ts = .tup [.lst (ps.map .str), .dct (sd (pd ts))] := rfl
  have g0 : gIx (netD ps ts) (.int 0) = some (.lst (ps.map .str)) := by rw [hnet]; simp
  have g1 : gIx (netD ps ts) (.int 1) = some (.dct (sd (pd ts))) := by rw [hnet]; simp
  have g2 : ixDct 1 (netD ps ts) = some (sd (pd ts)) := by rw [hnet]; simp
  have cl : ts.length < sizeLine := sl_lt (by have := h.len; omega)
  have cP : (ts.filter dif).length ≤ sizeLine := sl_of (by have := hP.len; omega)
  -- the two turnings
  have b1 : ∀ (a3 a4 a5 a6 : Option D), mLoop (bName 2) L__law_net_right_1 [.dct (sd (pd F)), .dct (sd (pd F))] [some (netD ps ts), some (webD ps (srt ts)), none, a3, a4, a5, a6] = .nx [some (netD ps ts), some (webD ps (srt ts)), some (.dct (sd (pd F))), a3, a4, a5, a6] := by
    intro a3 a4 a5 a6
    simp [mLoop_step, lpStep, L__law_net_right_1, E_law_turning h g, E_turning h g, E_law_even h g]
  -- the ties whose ends differ
  obtain ⟨ρ1, q1, a5, q2⟩ := loop_pre (b := bName 5) (body := L__law_net_right_2) (fun t : Tie => D.str t.1)
    (fun p ρ => ∃ a5, ρ = [some (netD ps ts), some (webD ps (srt ts)), some (.dct (sd (pd F))), some (arrD ps (srtA (F.filter dif))), some (.dct (sd (pd (p.filter dif)))), a5, none])
    (l := ts) (ρ := [some (netD ps ts), some (webD ps (srt ts)), some (.dct (sd (pd F))), some (arrD ps (srtA (F.filter dif))), some (.dct []), none, none]) ⟨none, rfl⟩ (by
      rintro p t r ρ he ⟨a5, rfl⟩
      have ht : t ∈ ts := by rw [he]; simp
      have h1 := look_of h.nd ht
      have hpl : (p.filter dif).length < sizeLine := sl_lt (by
        have e1 := List.length_filter_le dif p
        have e2 := congrArg List.length he
        have e3 := h.len
        simp at e2
        omega)
      have hnot : t.1 ∉ names (pd (p.filter dif)) := by
        rw [names_pd]
        intro q
        obtain ⟨u, hu, e⟩ := List.mem_map.mp q
        have hn := h.nd
        rw [he, nms_app, List.nodup_append] at hn
        exact hn.2.2 u.1 (nms_mem (List.mem_filter.mp hu).1) t.1 (List.mem_cons_self ..) e
      by_cases c : t.2.1 = t.2.2
      · refine ⟨_, .inl ?_, some (.str t.1), rfl⟩
        simp only [pr] at h1
        simp [lpStep, L__law_net_right_2, g1, h1, c, dif, List.filter_append]
      · refine ⟨_, .inl ?_, some (.str t.1), rfl⟩
        have hput : puts (pd (p.filter dif)) t.1 (pr t.2) = pd ((p ++ [t]).filter dif) := by rw [puts_new hnot, List.filter_append]; simp [dif, c]
        simp only [pr] at h1 hput
        simp [lpStep, L__law_net_right_2, g1, h1, c, hpl, putD_sd, hput, -List.filter_append])
  have q1' : mLoop (bName 5) L__law_net_right_2 ((nms ts).map D.str) [some (netD ps ts), some (webD ps (srt ts)), some (.dct (sd (pd F))), some (arrD ps (srtA (F.filter dif))), some (.dct []), none, none] = .nx ρ1 := by rw [keysE]; exact q1
  subst q2
  have l1 : ∀ (a0 a1 a3 : Option D), mLcL [5] (bName 5) mYes C__law_net_right_1 ((nms (ts.filter dif)).map .str) [] [a0, a1, some (.dct (sd (pd F))), a3, some (.dct (sd (pd (ts.filter dif)))), none, some (.dct (sd (pd (srtA (F.filter dif)))))] = .ok ((nms (ts.filter dif)).map fun _ => .bl true) [a0, a1, some (.dct (sd (pd F))), a3, some (.dct (sd (pd (ts.filter dif)))), none, some (.dct (sd (pd (srtA (F.filter dif)))))] := fun a0 a1 a3 => by
    rw [lc_map (g := D.str) (f := fun _ => .bl true)]
    · rfl
    · intro n hn
      have hn1 := (hmem n).mpr hn
      have h1 := look_pd (ts := srtA (F.filter dif)) (n := n) (by rw [nms_srtA]; exact sort_mem.mpr hn1)
      rw [srtA_tat hn1, tat_filter g.nd dif hn1] at h1
      have h2 := look_pd ((mem_filter g.nd dif n).mp hn1).1
      simp [lcStep, C__law_net_right_1, h1, h2, E_isP]
  have e7 : f_Arrows_places [arrD ps (srtA (F.filter dif))] = .ret (.lst ((sortBy ltS ps).map .str)) [none] := by simp [f_Arrows_places, m_Arrows_places, runF_ap]
  have e8 : f_Arrows_arrows [arrD ps (srtA (F.filter dif))] = .ret (.dct (sd (pd (srtA (F.filter dif))))) [none] := by simp [f_Arrows_arrows, m_Arrows_arrows, runF_ap]
  have e9 := E_isL (sortBy ltS ps) (by rw [sort_length]; have := h.p.l2; omega)
  have ef := E_arrows_of h g
  have es : sortBy ltS (nms (srtA (F.filter dif))) = sortBy ltS (nms (ts.filter dif)) := by rw [nms_srtA, sort_sort, hs]
  have esz : sortBy ltS (nms (ts.filter dif)) = sortBy ltS (nms (ts.filter dif)) := rfl
  simp [f__law_net_right, m__law_net_right, runF_ap, e1, e2, b1, ef, g0, g1, g2, q1', e7, e8, e9, es, cP, l1, bls_true, e4, e5, e6]
end
end K42
/-! K42u: what a law draws. -/
namespace K42
open PySem L2 Vm
section
variable {b : D → Rho → Option Rho} {body : MS} {α : Type}
/-- a loop that may end with X -/
theorem loop_or (g : α → D) (I : List α → Rho → Prop) (X : SR → Prop) (hX : ∀ r, X r → Exits r) {l : List α} (st : ∀ p d r ρ, l = p ++ d :: r → I p ρ → X (lpStep b body (g d) ρ) ∨ ∃ ρ2, (lpStep b body (g d) ρ = .nx ρ2 ∨ lpStep b body (g d) ρ = .ct ρ2) ∧ I (p ++ [d]) ρ2) :
    ∀ (r p : List α) (ρ : Rho), l = p ++ r → I p ρ → X (mLoop b body (r.map g) ρ) ∨ ∃ ρ', mLoop b body (r.map g) ρ = .nx ρ' ∧ I l ρ'
  | [], p, ρ, e, h => .inr ⟨ρ, rfl, by rw [e, List.append_nil]; exact h⟩
  | d :: r, p, ρ, e, h => by
    rw [List.map_cons, mLoop_step]
    rcases st p d r ρ e h with x | ⟨ρ2, h2, h3⟩
    · rw [(hX _ x).step]; exact .inl x
    · have e2 : SR.step (lpStep b body (g d) ρ) (mLoop b body (r.map g)) = mLoop b body (r.map g) ρ2 := by
        rcases h2 with h2 | h2 <;> rw [h2] <;> rfl
      rw [e2]
      exact loop_or g I X hX st r (p ++ [d]) ρ2 (by rw [e]; simp) h3
end
def IsH (w : D) : Prop := ∃ (cs : List Int) (i : Nat) (d s c : Int), w = .lst [.lst (cs.map .int), .int i, .int d, .int s, .int c]
@[simp] theorem atI_3 {α : Type} (x y z u : α) (xs : List α) : L2.atI (x :: y :: z :: u :: xs) 3 = some u := atI_n (x :: y :: z :: u :: xs) 3
@[simp] theorem atI_4 {α : Type} (x y z u v : α) (xs : List α) : L2.atI (x :: y :: z :: u :: v :: xs) 4 = some v := atI_n (x :: y :: z :: u :: v :: xs) 4
@[simp] theorem ixN_51 : L2.ixN 5 1 = some 1 := ixN_nat 5 1 (by omega)
@[simp] theorem ixN_52 : L2.ixN 5 2 = some 2 := ixN_nat 5 2 (by omega)
@[simp] theorem ixN_53 : L2.ixN 5 3 = some 3 := ixN_nat 5 3 (by omega)
@[simp] theorem ixN_54 : L2.ixN 5 4 = some 4 := ixN_nat 5 4 (by omega)
theorem E_draw {w : D} (hw : IsH w) (m : Int) (h0 : 0 < m) (h1 : m < 1073741824) : ∃ r w', IsH w' ∧ 0 ≤ r ∧ r < m ∧ f__law_draw [w, .int m] = .ret (.int r) [some w', none] := by
  obtain ⟨cs, i, d, s, c, rfl⟩ := hw
  have c1 : ∀ x, cMul x 69621 = true := fun x => cMul_r (by decide) (by decide)
  have c5 : ∀ x, cMul x 48271 = true := fun x => cMul_r (by decide) (by decide)
  have c6 : ∀ x, cMul x 40692 = true := fun x => cMul_r (by decide) (by decide)
  have c2 : ∀ x y, cMul (x % 2147483647) y = true := fun x y => cMul_mod x y _ (by decide) (by decide)
  have c4 : ∀ x, cMul 7919 x = true := fun x => cMul_l (by decide) (by decide)
  by_cases hd : d = 0
  · subst hd
    by_cases hi : i < cs.length
    · have hc : L2.atI (cs.map D.int) (i : Int) = some (.int cs[i]) := by rw [atI_n, List.getElem?_map, List.getElem?_eq_getElem hi]; rfl
      have hi' : (i : Int) < cs.length := by omega
      by_cases hb : 1000000000000000000 ≤ cs[i]
      · have hp : 0 < cs[i] := by omega
        refine ⟨cs[i] % m, .lst [.lst (cs.map .int), .int ((i + 1 : Nat) : Int), .int (cs[i] / m), .int ((s * 69621 + cs[i] * 48271 + 41) % 2147483629), .int c], ⟨_, _, _, _, _, rfl⟩, Int.emod_nonneg _ (Int.ne_of_gt h0), Int.emod_lt_of_pos _ h0, ?_⟩
        simp [f__law_draw, m__law_draw, runF_ap, gEq_ii, hi', hc, c1, c5, hb, hp, h0, h1]
      · have : ∃ x : Int, f__law_draw [.lst [.lst (cs.map .int), .int i, .int 0, .int s, .int c], .int m] = .ret (.int (x % m)) [some (.lst [.lst (cs.map .int), .int ((i + 1 : Nat) : Int), .int 0, .int ((s * 69621 + cs[i] * 48271 + 41) % 2147483629), .int (c + 1)]), none] := ⟨_, by
          simp [f__law_draw, m__law_draw, runF_ap, gEq_ii, hi', hc, c1, c5, hb, h0, h1, c2, c4, c6]
          rfl⟩
        obtain ⟨x, hx⟩ := this
        exact ⟨x % m, _, ⟨_, _, _, _, _, rfl⟩, Int.emod_nonneg _ (Int.ne_of_gt h0), Int.emod_lt_of_pos _ h0, hx⟩
    · have hi' : ¬ (i : Int) < cs.length := by omega
      have : ∃ x : Int, f__law_draw [.lst [.lst (cs.map .int), .int i, .int 0, .int s, .int c], .int m] = .ret (.int (x % m)) [some (.lst [.lst (cs.map .int), .int i, .int 0, .int s, .int (c + 1)]), none] := ⟨_, by
        simp [f__law_draw, m__law_draw, runF_ap, gEq_ii, hi', h0, h1, c2, c4, c6]
        rfl⟩
      obtain ⟨x, hx⟩ := this
      exact ⟨x % m, _, ⟨_, _, _, _, _, rfl⟩, Int.emod_nonneg _ (Int.ne_of_gt h0), Int.emod_lt_of_pos _ h0, hx⟩
  · by_cases hp : 0 < d
    · refine ⟨d % m, .lst [.lst (cs.map .int), .int i, .int (d / m), .int s, .int c], ⟨_, _, _, _, _, rfl⟩, Int.emod_nonneg _ (Int.ne_of_gt h0), Int.emod_lt_of_pos _ h0, ?_⟩
      simp [f__law_draw, m__law_draw, runF_ap, gEq_ii, hd, hp, h0, h1]
    · have : ∃ x : Int, f__law_draw [.lst [.lst (cs.map .int), .int i, .int d, .int s, .int c], .int m] = .ret (.int (x % m)) [some (.lst [.lst (cs.map .int), .int i, .int d, .int s, .int (c + 1)]), none] := ⟨_, by
        simp [f__law_draw, m__law_draw, runF_ap, gEq_ii, hd, hp, h0, h1, c2, c4, c6]
        rfl⟩
      obtain ⟨x, hx⟩ := this
      exact ⟨x % m, _, ⟨_, _, _, _, _, rfl⟩, Int.emod_nonneg _ (Int.ne_of_gt h0), Int.emod_lt_of_pos _ h0, hx⟩
/-- a drawn place -/
theorem E_drawN {w : D} (hw : IsH w) (m : Nat) (h0 : 0 < m) (h1 : m ≤ 100000) : ∃ k w', IsH w' ∧ k < m ∧ f__law_draw [w, .int (m : Int)] = .ret (.int ((k : Nat) : Int)) [some w', none] := by
  obtain ⟨r, w', hw', a0, a1, e⟩ := E_draw hw m (by omega) (by omega)
  obtain ⟨k, rfl⟩ := Int.eq_ofNat_of_zero_le a0
  exact ⟨k, w', hw', by omega, e⟩
theorem E_some {w : D} (hw : IsH w) {ps : List Str} (h0 : 0 < ps.length) (h1 : ps.length ≤ 1000) : ∃ s w', IsH w' ∧ s ∈ ps ∧ f__law_some [w, .lst (ps.map .str)] = .ret (.str s) [some w', none] := by
  obtain ⟨k, w', hw', hk, e⟩ := E_drawN hw ps.length h0 (by omega)
  refine ⟨sat ps k, w', hw', sat_mem ps k hk, ?_⟩
  simp [f__law_some, m__law_some, runF_ap, e, atI_strs ps k hk]
/-! shuffled -/
theorem E_mixed {w : D} (hw : IsH w) (xs : List D) (hl : xs.length ≤ 90) : ∃ ys, ys.Perm xs ∧ ∃ w', IsH w' ∧ f__law_mixed [w, .lst xs] = .ret (.lst ys) [some w', none] := by
  obtain ⟨ρ', q1, w', found, rest, a, rfl, hw', hp⟩ := while_inv (mt := T__law_mixed_1) (body := L__law_mixed_1)
    (fun k ρ => ∃ (w' : D) (rest found : List D), ρ = [some w', some (.lst xs), some (.lst rest), some (.lst found)] ∧ IsH w' ∧ (found ++ rest).Perm xs ∧ k = rest.length)
    (fun ρ => ∃ (w' : D) (found : List D) (rest a : Option D), ρ = [some w', a, rest, some (.lst found)] ∧ IsH w' ∧ found.Perm xs) (by
      rintro k ρ ⟨w', rest, found, rfl, hw', hp, rfl⟩
      have hpl := hp.length_eq
      simp at hpl
      cases hr : rest with
      | nil => subst hr; exact .inl ⟨[some w', some (.lst xs), some (.lst []), some (.lst found)], by simp [T__law_mixed_1], w', found, _, _, rfl, hw', by simpa using hp⟩
      | cons x r =>
        have hx : 0 < rest.length := by rw [hr]; simp
        rw [← hr]
        obtain ⟨k, w2, hw2, hk, e⟩ := E_drawN hw' rest.length hx (by omega)
        have hf : found.length < sizeLine := sl_lt (by omega)
        refine .inr ⟨[some w', some (.lst xs), some (.lst rest), some (.lst found)], [some w2, some (.lst xs), some (.lst (rest.eraseIdx k)), some (.lst (found ++ [rest[k]]))], (rest.eraseIdx k).length, ?_, ?_, ?_, w2, _, _, rfl, hw2, ?_, rfl⟩
        · simp [T__law_mixed_1]; omega
        · simp [L__law_mixed_1, e, gPopAt_n rest k hk (by omega), hf]
        · rw [List.length_eraseIdx_of_lt hk]; omega
        · rw [List.append_assoc]
          refine List.Perm.trans (List.Perm.append_left _ ?_) hp
          rw [List.singleton_append]
          exact perm_erase rest k hk)
    100 xs.length [some w, some (.lst xs), some (.lst xs), some (.lst [])] (by omega) ⟨w, xs, [], rfl, hw, by simp, rfl⟩
  refine ⟨found, hp, w', hw', ?_⟩
  simp [f__law_mixed, m__law_mixed, runF_ap, q1]
theorem E_mixed_io {w : D} (hw : IsH w) (xs : List D) (hl : xs.length ≤ 90) : ∃ ys, ys.Perm xs ∧ ∃ w', IsH w' ∧ f__law_mixed_io [w, .lst xs] = .ret (.lst ys) [some w', some (.lst xs)] := by
  obtain ⟨ρ', q1, w', found, rest, rfl, hw', hp⟩ := while_inv (mt := T__law_mixed_io_1) (body := L__law_mixed_io_1)
    (fun k ρ => ∃ (w' : D) (rest found : List D), ρ = [some w', some (.lst xs), some (.lst rest), some (.lst found)] ∧ IsH w' ∧ (found ++ rest).Perm xs ∧ k = rest.length)
    (fun ρ => ∃ (w' : D) (found : List D) (rest : Option D), ρ = [some w', some (.lst xs), rest, some (.lst found)] ∧ IsH w' ∧ found.Perm xs) (by
      rintro k ρ ⟨w', rest, found, rfl, hw', hp, rfl⟩
      have hpl := hp.length_eq
      simp at hpl
      cases hr : rest with
      | nil => subst hr; exact .inl ⟨[some w', some (.lst xs), some (.lst []), some (.lst found)], by simp [T__law_mixed_io_1], w', found, _, rfl, hw', by simpa using hp⟩
      | cons x r =>
        have hx : 0 < rest.length := by rw [hr]; simp
        rw [← hr]
        obtain ⟨k, w2, hw2, hk, e⟩ := E_drawN hw' rest.length hx (by omega)
        have hf : found.length < sizeLine := sl_lt (by omega)
        refine .inr ⟨[some w', some (.lst xs), some (.lst rest), some (.lst found)], [some w2, some (.lst xs), some (.lst (rest.eraseIdx k)), some (.lst (found ++ [rest[k]]))], (rest.eraseIdx k).length, ?_, ?_, ?_, w2, _, _, rfl, hw2, ?_, rfl⟩
        · simp [T__law_mixed_io_1]; omega
        · simp [L__law_mixed_io_1, e, gPopAt_n rest k hk (by omega), hf]
        · rw [List.length_eraseIdx_of_lt hk]; omega
        · rw [List.append_assoc]
          refine List.Perm.trans (List.Perm.append_left _ ?_) hp
          rw [List.singleton_append]
          exact perm_erase rest k hk)
    100 xs.length [some w, some (.lst xs), some (.lst xs), some (.lst [])] (by omega) ⟨w, xs, [], rfl, hw, by simp, rfl⟩
  refine ⟨found, hp, w', hw', ?_⟩
  simp [f__law_mixed_io, m__law_mixed_io, runF_ap, q1]
/-! names -/
theorem hAZ : AZ.length = 26 := by decide +kernel
theorem hAZl : ∀ c ∈ AZ.cps.toList, strIn ⟨#[c]⟩ AZ = true := by decide +kernel
def lt1 (s : Str) : Bool := s.cps.toList.all fun c => strIn ⟨#[c]⟩ AZ
theorem nm_of {s : Str} (h1 : 1 ≤ s.length) (h2 : s.length ≤ 8) (h3 : lt1 s = true) : nm s = true := by
  unfold nm; rw [decide_eq_true h1, decide_eq_true h2]; exact h3
theorem lt1_app {a b : Str} (h1 : lt1 a = true) (h2 : lt1 b = true) : lt1 (a ++ b) = true := by
  unfold lt1 at *
  rw [PySem.Str.cps_append, Array.toList_append, List.all_append, h1, h2]; rfl
theorem lt1_one {c : Nat} (h : c ∈ AZ.cps.toList) : lt1 ⟨#[c]⟩ = true := by
  unfold lt1
  simp [hAZl c h]
theorem len_one (c : Nat) : (⟨#[c]⟩ : Str).length = 1 := rfl
theorem AZ_at (k : Nat) (h : k < 26) : ∃ c, c ∈ AZ.cps.toList ∧ gIx (.str AZ) (.int (k : Int)) = some (.str ⟨#[c]⟩) := by
  have hl : AZ.cps.toList.length = 26 := by rw [Array.length_toList]; exact hAZ
  have hk : k < AZ.cps.toList.length := by omega
  refine ⟨AZ.cps.toList[k], List.getElem_mem hk, ?_⟩
  rw [gIx_s, if_pos (by rw [hAZ]; exact sl_of (by omega)), atI_n, List.getElem?_eq_getElem hk]
  rfl
theorem AZ_nd : (AZ.cps.toList.map fun c => (⟨#[AZ.cps.toList.headD 0]⟩ : Str) ++ ⟨#[c]⟩).Nodup := by decide +kernel
end K42
/-! K42v: names, nets. -/
namespace K42
open PySem L2 Vm
theorem empty_len : ("" : Str).length = 0 := by decide +kernel
theorem gNe_empty : gNe (.str "") (.str "") = some (.bl false) := by rw [gNe_ss]; simp
/-- the end of a search for a name -/
def Named (taken : List Str) (r : SR) : Prop := ∃ (s : Str) (w' : D) (a2 a3 a4 a5 a6 a7 a8 : Option D), r = .rt (.str s) [some w', some (.lst (taken.map .str)), a2, a3, a4, a5, a6, a7, a8] ∧ IsH w' ∧ nm s = true ∧ s ∉ taken
theorem Named.ex {taken : List Str} : ∀ r, Named taken r → Exits r := fun r ⟨_, _, _, _, _, _, _, _, _, e, _⟩ => by rw [e]; trivial
theorem E_name {w : D} (hw : IsH w) {taken : List Str} (ht : taken.length ≤ 25) : ∃ s w', IsH w' ∧ nm s = true ∧ s ∉ taken ∧ f__law_name [w, .lst (taken.map .str), .str ""] = .ret (.str s) [some w', some (.lst (taken.map .str)), none] := by
  -- thirty turns
  have turns := loop_or (b := bName 4) (body := L__law_name_2) (fun k : Nat => D.int (k : Int))
    (fun _ ρ => ∃ (w' : D) (a4 a6 a8 : Option D), ρ = [some w', some (.lst (taken.map .str)), some (.str ""), some (.str AZ), a4, none, a6, none, a8] ∧ IsH w') (Named taken) Named.ex (l := List.range 30) (by
      rintro p d r ρ - ⟨w', a4, a6, a8, rfl, hw'⟩
      obtain ⟨k, w2, hw2, hk, e⟩ := E_drawN hw' 8 (by omega) (by omega)
      have hg := gRng1_n (1 + k) (by omega)
      have hcast : (1 + (k : Int)) = ((1 + k : Nat) : Int) := by omega
      rw [← hcast] at hg
      obtain ⟨ρ3, q3, w3, s, a8', rfl, hw3, hs1, hs2⟩ := loop_pre (b := bName 8) (body := L__law_name_1) (fun k : Nat => D.int (k : Int))
        (fun p ρ => ∃ (w' : D) (s : Str) (a8 : Option D), ρ = [some w', some (.lst (taken.map .str)), some (.str ""), some (.str AZ), some (.int (d : Int)), none, some (.str s), none, a8] ∧ IsH w' ∧ s.length = p.length ∧ lt1 s = true)
        (l := List.range (1 + k)) (ρ := [some w2, some (.lst (taken.map .str)), some (.str ""), some (.str AZ), some (.int (d : Int)), none, some (.str ""), none, a8]) ⟨w2, "", a8, rfl, hw2, empty_len, by decide +kernel⟩ (by
          rintro p j r ρ he ⟨w', s, a8, rfl, hw', hs1, hs2⟩
          obtain ⟨i, w4, hw4, hi, e4⟩ := E_drawN hw' 26 (by omega) (by omega)
          obtain ⟨c, hc, e5⟩ := AZ_at i hi
          have hpl : p.length < 1 + k := by have := congrArg List.length he; simp at this; omega
          have hsl : s.length + 1 ≤ sizeLine := sl_of (by omega)
          refine ⟨_, .inl ?_, w4, s ++ ⟨#[c]⟩, some (.int (j : Int)), rfl, hw4, ?_, lt1_app hs2 (lt1_one hc)⟩
          · have e4 : f__law_draw [w', .int 26] = .ret (.int (i : Int)) [some w4, none] := e4
            simp [lpStep, L__law_name_1, e4, e5, len_one, hsl, -gIx_s]
          · rw [PySem.Str.length_append, hs1, len_one]; simp)
      simp at hs1
      have e : f__law_draw [w', .int 8] = .ret (.int (k : Int)) [some w2, none] := e
      by_cases hm : s ∈ taken
      · refine .inr ⟨[some w3, some (.lst (taken.map .str)), some (.str ""), some (.str AZ), some (.int (d : Int)), none, some (.str s), none, a8'], .inl ?_, w3, _, _, _, rfl, hw3⟩
        simp [lpStep, L__law_name_2, e, hg, q3, hm]
      · refine .inl ⟨s, w3, some (.str ""), some (.str AZ), some (.int (d : Int)), none, some (.str s), none, a8', ?_, hw3, nm_of (by omega) (by omega) hs2, hm⟩
        simp [lpStep, L__law_name_2, e, hg, q3, hm])
  have pairs : ∀ (w' : D) (a4 a6 a8 : Option D), IsH w' → Named taken (mLoop (bName 5) L__law_name_4 (AZ.cps.toList.map fun c => D.str ⟨#[c]⟩) [some w', some (.lst (taken.map .str)), some (.str ""), some (.str AZ), a4, none, a6, none, a8]) := by
    intro w' a4 a6 a8 hw'
    have := loop_or (b := bName 5) (body := L__law_name_4) (fun c : Nat => D.str ⟨#[c]⟩)
      (fun p ρ => ∃ (a5 a7 : Option D), ρ = [some w', some (.lst (taken.map .str)), some (.str ""), some (.str AZ), a4, a5, a6, a7, a8] ∧ ∀ y ∈ p, ∀ x ∈ AZ.cps.toList, (⟨#[y]⟩ : Str) ++ ⟨#[x]⟩ ∈ taken) (Named taken) Named.ex (l := AZ.cps.toList) (by
        rintro p y r ρ he ⟨a5, a7, rfl, hp⟩
        have hy : y ∈ AZ.cps.toList := by rw [he]; simp
        have inner := loop_or (b := bName 7) (body := L__law_name_3) (fun c : Nat => D.str ⟨#[c]⟩)
          (fun p ρ => ∃ (a7 : Option D), ρ = [some w', some (.lst (taken.map .str)), some (.str ""), some (.str AZ), a4, some (.str ⟨#[y]⟩), a6, a7, a8] ∧ ∀ x ∈ p, (⟨#[y]⟩ : Str) ++ ⟨#[x]⟩ ∈ taken) (Named taken) Named.ex (l := AZ.cps.toList) (by
            rintro p x r ρ he ⟨a7, rfl, hp⟩
            have hx : x ∈ AZ.cps.toList := by rw [he]; simp
            have c2 : 1 + 1 ≤ sizeLine := sl_of (by omega)
            by_cases hm : (⟨#[y]⟩ : Str) ++ ⟨#[x]⟩ ∈ taken
            · refine .inr ⟨_, .inl ?_, some (.str ⟨#[x]⟩), rfl, fun z hz => ?_⟩
              · simp [lpStep, L__law_name_3, len_one, c2, hm]
              · rcases List.mem_append.mp hz with q | q
                · exact hp z q
                · rw [List.mem_singleton] at q; subst q; exact hm
            · refine .inl ⟨(⟨#[y]⟩ : Str) ++ ⟨#[x]⟩, w', some (.str ""), some (.str AZ), a4, some (.str ⟨#[y]⟩), a6, some (.str ⟨#[x]⟩), a8, ?_, hw', nm_of (by rw [PySem.Str.length_append]; simp [len_one]) (by rw [PySem.Str.length_append]; simp [len_one]) (lt1_app (lt1_one hy) (lt1_one hx)), hm⟩
              simp [lpStep, L__law_name_3, len_one, c2, hm])
          AZ.cps.toList [] [some w', some (.lst (taken.map .str)), some (.str ""), some (.str AZ), a4, some (.str ⟨#[y]⟩), a6, a7, a8] rfl ⟨_, rfl, fun x hx => by cases hx⟩
        have hst : lpStep (bName 5) L__law_name_4 (.str ⟨#[y]⟩) [some w', some (.lst (taken.map .str)), some (.str ""), some (.str AZ), a4, a5, a6, a7, a8] = mLoop (bName 7) L__law_name_3 (AZ.cps.toList.map fun c => D.str ⟨#[c]⟩) [some w', some (.lst (taken.map .str)), some (.str ""), some (.str AZ), a4, some (.str ⟨#[y]⟩), a6, a7, a8] := by
          simp [lpStep, L__law_name_4]
        rw [hst]
        rcases inner with q | ⟨ρ', q1, a7', rfl, q2⟩
        · exact .inl q
        · refine .inr ⟨_, .inl q1, _, _, rfl, fun z hz => ?_⟩
          rcases List.mem_append.mp hz with q | q
          · exact hp z q
          · rw [List.mem_singleton] at q; subst q; exact q2)
      AZ.cps.toList [] [some w', some (.lst (taken.map .str)), some (.str ""), some (.str AZ), a4, none, a6, none, a8] rfl ⟨_, _, rfl, fun x hx => by cases hx⟩
    rcases this with q | ⟨ρ', _, _, _, _, q⟩
    · exact q
    · exfalso
      have hz : AZ.cps.toList.headD 0 ∈ AZ.cps.toList := by decide +kernel
      have hsub : ∀ s ∈ AZ.cps.toList.map (fun c => (⟨#[AZ.cps.toList.headD 0]⟩ : Str) ++ ⟨#[c]⟩), s ∈ taken := fun s hs => by
        obtain ⟨c, hc, rfl⟩ := List.mem_map.mp hs
        exact q _ hz c hc
      have := List.Nodup.length_le_of_subset AZ_nd hsub
      rw [List.length_map, Array.length_toList, cps_size, hAZ] at this
      omega
  have h30 := gRng1_n 30 (by omega)
  have h30 : gRng1 [.int 30] = some ((List.range 30).map fun k => D.int ((k : Nat) : Int)) := h30
  rcases turns (List.range 30) [] [some w, some (.lst (taken.map .str)), some (.str ""), some (.str AZ), none, none, none, none, none] rfl ⟨w, none, none, none, rfl, hw⟩ with ⟨s, w', a2, a3, a4, a5, a6, a7, a8, q, hw', h1, h2⟩ | ⟨ρ', q1, w', a4, a6, a8, rfl, hw'⟩
  · refine ⟨s, w', hw', h1, h2, ?_⟩
    simp [f__law_name, m__law_name, runF_ap, h30, q]
  · obtain ⟨s, w2, b2, b3, b4, b5, b6, b7, b8, q, hw2, h1, h2⟩ := pairs w' a4 a6 a8 hw'
    refine ⟨s, w2, hw2, h1, h2, ?_⟩
    simp [f__law_name, m__law_name, runF_ap, h30, q1, q]
theorem E_names {w : D} (hw : IsH w) (n : Nat) (hn : n ≤ 24) : ∃ (l : List Str) (w' : D), IsH w' ∧ l.length = n ∧ l.Nodup ∧ (∀ s ∈ l, nm s = true) ∧ f__law_names [w, .int (n : Int)] = .ret (.lst (l.map .str)) [some w', none] := by
  obtain ⟨ρ', q1, w', l, a3, rfl, hw', h1, h2, h3⟩ := loop_pre (b := bName 3) (body := L__law_names_1) (fun k : Nat => D.int (k : Int))
    (fun p ρ => ∃ (w' : D) (l : List Str) (a3 : Option D), ρ = [some w', some (.int (n : Int)), some (.lst (l.map .str)), a3] ∧ IsH w' ∧ l.length = p.length ∧ l.Nodup ∧ ∀ s ∈ l, nm s = true)
    (l := List.range n) (ρ := [some w, some (.int (n : Int)), some (.lst []), none]) ⟨w, [], none, rfl, hw, rfl, List.nodup_nil, fun s hs => by cases hs⟩ (by
      rintro p d r ρ he ⟨w', l, a3, rfl, hw', h1, h2, h3⟩
      have hpl : p.length < n := by have := congrArg List.length he; simp at this; omega
      obtain ⟨s, w2, hw2, hs1, hs2, e⟩ := E_name hw' (taken := l) (by omega)
      have c : l.length < sizeLine := sl_lt (by omega)
      refine ⟨[some w2, some (.int (n : Int)), some (.lst ((l ++ [s]).map .str)), some (.int (d : Int))], .inl ?_, w2, l ++ [s], _, rfl, hw2, by simp [h1], ?_, fun x hx => ?_⟩
      · simp [lpStep, L__law_names_1, e, c]
      · rw [List.nodup_append]
        refine ⟨h2, by simp, fun a ha b hb => ?_⟩
        rw [List.mem_singleton] at hb
        subst hb
        exact fun q => hs2 (q ▸ ha)
      · rcases List.mem_append.mp hx with q | q
        · exact h3 x q
        · rw [List.mem_singleton] at q; subst q; exact hs1)
  refine ⟨l, w', hw', by simpa using h1, h2, h3, ?_⟩
  simp [f__law_names, m__law_names, runF_ap, gRng1_n n (by omega), q1]
end K42
/-! K42w: nets, the law. -/
namespace K42
open PySem L2 Vm
theorem cutD_takeA (ds : List D) (k : Nat) : cutD ds none (some (k : Int)) = ds.take k := by
  by_cases h : k ≤ ds.length
  · exact cutD_take ds k h
  · unfold cutD
    rw [HT.sIx_nat, HT.sIx_none, Nat.min_eq_right (by omega)]
    simp
    exact (List.take_of_length_le (by omega)).symm
theorem pairs_of {ys : List D} {l : List (Str × Str)} (h : ∀ y ∈ ys, y ∈ l.map pr) : ∃ l' : List (Str × Str), ys = l'.map pr ∧ ∀ p ∈ l', p ∈ l := by
  induction ys with
  | nil => exact ⟨[], rfl, fun p hp => by cases hp⟩
  | cons y r ih =>
    obtain ⟨l', e, hl⟩ := ih fun z hz => h z (List.mem_cons_of_mem _ hz)
    obtain ⟨p, hp, e2⟩ := List.mem_map.mp (h y (List.mem_cons_self ..))
    refine ⟨p :: l', by rw [List.map_cons, e2, e], fun q hq => ?_⟩
    rcases List.mem_cons.mp hq with q1 | q1
    · subst q1; exact hp
    · exact hl q q1
theorem zipD_ties : ∀ (ns : List Str) (l : List (Str × Str)), zipD (ns.map D.str) (l.map pr) = (ns.zip l).map fun t => D.tup [.str t.1, pr t.2]
  | [], _ => by simp [zipD]
  | _ :: _, [] => by simp [zipD]
  | n :: ns, p :: l => by simp only [List.map_cons, zipD, List.zip_cons_cons]; rw [zipD_ties ns l]
theorem zipD_prs : ∀ (a b : List Str), zipD (a.map D.str) (b.map D.str) = (a.zip b).map pr
  | [], _ => by simp [zipD]
  | _ :: _, [] => by simp [zipD]
  | n :: ns, p :: l => by simp only [List.map_cons, zipD, List.zip_cons_cons]; rw [zipD_prs ns l]; rfl
theorem pairsD_ties : ∀ ts : List Tie, pairsD (ts.map fun t => D.tup [.str t.1, pr t.2]) = some (ts.map fun t => (Sum.inr t.1, pr t.2))
  | [] => rfl
  | n :: r => by rw [List.map_cons, pairsD, pairsD_ties r]; rfl
theorem nms_zip : ∀ (ns : List Str) (l : List (Str × Str)), ns.length = l.length → nms (ns.zip l) = ns
  | [], _, _ => rfl
  | _ :: _, [], h => by simp at h
  | n :: ns, p :: l, h => by
    show n :: nms (ns.zip l) = _
    rw [nms_zip ns l (by simpa using h)]
theorem gDict_zip {ns : List Str} {l : List (Str × Str)} (hl : ns.length = l.length) (hn : ns.Nodup) : gDict [.lst (zipD (ns.map D.str) (l.map pr))] = some (.dct (sd (pd (ns.zip l)))) := by
  rw [gDict_lst, zipD_ties, pairsD_ties]
  show some (D.dct (mergeD [] _)) = _
  unfold mergeD
  rw [List.foldl_map]
  have := foldl_pd (ns.zip l) [] (by rw [List.nil_append, nms_zip ns l hl]; exact hn)
  simp at this
  rw [this]
def In (ps : List Str) (l : List (Str × Str)) : Prop := ∀ p ∈ l, p.1 ∈ ps ∧ p.2 ∈ ps
theorem net_of {ps ns : List Str} {l : List (Str × Str)} (hp : GoodP ps) (h1 : ns.length = l.length) (h2 : ns.Nodup) (h3 : ∀ n ∈ ns, nm n = true) (h4 : In ps l) (h5 : l.length ≤ 24) : Net ps (ns.zip l) := by
  refine ⟨hp, ?_, ?_, ?_, fun t ht => ?_⟩
  · rw [List.length_zip]; omega
  · rw [nms_zip ns l h1]; exact h3
  · rw [nms_zip ns l h1]; exact h2
  · exact h4 t.2 (List.of_mem_zip ht).2
theorem E_plain {w : D} (hw : IsH w) (n : Nat) (h1 : 1 ≤ n) (h2 : n ≤ 16) : ∃ ps ts w', IsH w' ∧ Net ps ts ∧ f__law_plain [w, .int (n : Int)] = .ret (netD ps ts) [some w', none] := by
  obtain ⟨ps, w1, hw1, p1, p2, p3, e1⟩ := E_names hw n (by omega)
  obtain ⟨kind, w2, hw2, hk, e2⟩ := E_drawN hw1 2 (by omega) (by omega)
  have hp : GoodP ps := ⟨by omega, by omega, p3, p2⟩
  have hg : gRng2 [.int 1, .int (n : Int)] = some ((List.range (n - 1)).map fun k : Nat => D.int (1 + (k : Int))) := by have := gRng2_n 1 n (by omega) (by omega); simpa using this
  have c : n - 1 ≤ sizeLine := sl_of (by omega)
  have hl : ∀ a1 a4 : Option D, mLcL [5] (bName 5) mYes C__law_plain_1 ((List.range (n - 1)).map fun k : Nat => D.int (1 + (k : Int))) [] [some w2, a1, some (.lst (ps.map .str)), some (.int (kind : Int)), a4, none] =
      .ok ((List.range (n - 1)).map fun k => pr (if kind = 0 then sat ps 0 else sat ps k, sat ps (1 + k))) [some w2, a1, some (.lst (ps.map .str)), some (.int (kind : Int)), a4, none] := fun a1 a4 => by
    rw [lc_map (g := fun k : Nat => D.int (1 + (k : Int))) (f := fun k => pr (if kind = 0 then sat ps 0 else sat ps k, sat ps (1 + k)))]
    · rfl
    · intro k hk
      have hk := List.mem_range.mp hk
      have a0 := atI_strs ps 0 (by omega)
      have a1 := atI_strs ps k (by omega)
      have a2 := atI_strs ps (1 + k) (by omega)
      have e0 : (1 + (k : Int) - 1) = k := by omega
      have a0 : L2.atI (ps.map D.str) 0 = some (.str (sat ps 0)) := a0
      have e1 : ((1 + k : Nat) : Int) = 1 + (k : Int) := by omega
      rw [e1] at a2
      by_cases hz : kind = 0
      · subst hz
        simp [lcStep, C__law_plain_1, gEq_ii, a0, a2, pr]
      · have hz' : ¬ (kind : Int) = 0 := by omega
        simp [lcStep, C__law_plain_1, gEq_ii, hz, hz', e0, a1, a2, pr]
  have hlm : ((List.range (n - 1)).map fun k => pr (if kind = 0 then sat ps 0 else sat ps k, sat ps (1 + k))) = ((List.range (n - 1)).map fun k => (if kind = 0 then sat ps 0 else sat ps k, sat ps (1 + k))).map pr := by rw [List.map_map]; rfl
  have hin : In ps ((List.range (n - 1)).map fun k => (if kind = 0 then sat ps 0 else sat ps k, sat ps (1 + k))) := fun p hp => by
    obtain ⟨k, hk, rfl⟩ := List.mem_map.mp hp
    have hk := List.mem_range.mp hk
    refine ⟨?_, sat_mem ps _ (by omega)⟩
    dsimp only
    split
    · exact sat_mem ps _ (by omega)
    · exact sat_mem ps _ (by omega)
  have hll : ((List.range (n - 1)).map fun k => (if kind = 0 then sat ps 0 else sat ps k, sat ps (1 + k))).length = n - 1 := by simp
  rw [hlm] at hl
  generalize ((List.range (n - 1)).map fun k => (if kind = 0 then sat ps 0 else sat ps k, sat ps (1 + k))) = l at hl hin hll
  obtain ⟨ns, w3, hw3, n1, n2, n3, e3⟩ := E_names hw2 (n - 1) (by omega)
  have hd := gDict_zip (l := l) (by omega) n2
  have e2 : f__law_draw [w1, .int 2] = .ret (.int (kind : Int)) [some w2, none] := e2
  refine ⟨ps, ns.zip l, w3, hw3, net_of hp (by omega) n2 n3 hin (by omega), ?_⟩
  simp [f__law_plain, m__law_plain, runF_ap, e1, e2, hg, hl, c, hll, e3, hd, netD]
theorem E_web {w : D} (hw : IsH w) (most ties : Nat) (h1 : 1 ≤ most) (h2 : most ≤ 16) (h3 : ties ≤ 24) : ∃ ps ts w', IsH w' ∧ Net ps ts ∧ f__law_web [w, .int (most : Int), .int (ties : Int)] = .ret (netD ps ts) [some w', none, none] := by
  obtain ⟨k0, w1, hw1, hk0, e1⟩ := E_drawN hw most h1 (by omega)
  obtain ⟨ps, w2, hw2, p1, p2, p3, e2⟩ := E_names hw1 (1 + k0) (by omega)
  have hp : GoodP ps := ⟨by omega, by omega, p3, p2⟩
  have e2 : f__law_names [w1, .int (1 + (k0 : Int))] = .ret (.lst (ps.map .str)) [some w2, none] := by
    have : (1 + (k0 : Int)) = ((1 + k0 : Nat) : Int) := by omega
    rw [this]; exact e2
  obtain ⟨k4, w3, hw3, hk4, e3⟩ := E_drawN hw2 4 (by omega) (by omega)
  have e3 : f__law_draw [w2, .int 4] = .ret (.int (k4 : Int)) [some w3, none] := e3
  -- how far the points are tied up
  obtain ⟨n', hn', hn1⟩ : ∃ n' : Nat, n' ≤ ps.length ∧ (if (0 : Int) < (k4 : Int) then (ps.length : Int) else 1) = (n' : Int) := by
    by_cases h : 0 < k4
    · exact ⟨ps.length, Nat.le_refl _, by rw [if_pos (by omega)]⟩
    · exact ⟨1, by omega, by rw [if_neg (by omega)]; rfl⟩
  have hg2 : gRng2 [.int 1, .int (n' : Int)] = some ((List.range (n' - 1)).map fun k : Nat => D.int (1 + (k : Int))) := by have := gRng2_n 1 n' (by omega) (by omega); simpa using this
  obtain ⟨ρ1, q1, w4, l, a5, rfl, hw4, hin, hll⟩ := loop_pre (b := bName 5) (body := L__law_web_1) (fun k : Nat => D.int (1 + (k : Int)))
    (fun p ρ => ∃ (w' : D) (l : List (Str × Str)) (a5 : Option D), ρ = [some w', some (.int (most : Int)), some (.int (ties : Int)), some (.lst (ps.map .str)), some (.lst (l.map pr)), a5, none] ∧ IsH w' ∧ In ps l ∧ l.length = p.length)
    (l := List.range (n' - 1)) (ρ := [some w3, some (.int (most : Int)), some (.int (ties : Int)), some (.lst (ps.map .str)), some (.lst []), none, none]) ⟨w3, [], none, rfl, hw3, (fun p hp => by cases hp), rfl⟩ (by
      rintro p k r ρ he ⟨w', l, a5, rfl, hw', hin, hll⟩
      have hk : k < n' - 1 := by
        have : k ∈ List.range (n' - 1) := by rw [he]; simp
        exact List.mem_range.mp this
      have hpl : p.length < n' := by have := congrArg List.length he; simp at this; omega
      obtain ⟨j, w5, hw5, hj, e5⟩ := E_drawN hw' (1 + k) (by omega) (by omega)
      have a1 := atI_strs ps j (by omega)
      have a2 := atI_strs ps (1 + k) (by omega)
      obtain ⟨ys, hys, w6, hw6, e6⟩ := E_mixed hw5 [.str (sat ps j), .str (sat ps (1 + k))] (by simp)
      obtain ⟨qs, rfl, hqs⟩ := perm_strs (ps := [sat ps j, sat ps (1 + k)]) hys
      have hq2 := hqs.length_eq
      obtain ⟨c, d, rfl⟩ : ∃ c d, qs = [c, d] := by
        match qs, hq2 with
        | [c, d], _ => exact ⟨c, d, rfl⟩
      have hmem : ∀ x ∈ [c, d], x ∈ ps := fun x hx => by
        have := hqs.mem_iff.mp hx
        simp at this
        rcases this with q | q <;> rw [q]
        · exact sat_mem ps j (by omega)
        · exact sat_mem ps (1 + k) (by omega)
      have cl : l.length < sizeLine := sl_lt (by omega)
      have hcast : ((1 + k : Nat) : Int) = 1 + (k : Int) := by omega
      rw [hcast] at e5 a2
      refine ⟨[some w6, some (.int (most : Int)), some (.int (ties : Int)), some (.lst (ps.map .str)), some (.lst ((l ++ [(c, d)]).map pr)), some (.int (1 + (k : Int))), none], .inl ?_, w6, l ++ [(c, d)], _, rfl, hw6, fun p hp => ?_, by simp [hll]⟩
      · simp [lpStep, L__law_web_1, e5, a1, a2, e6, cl, pr]
      · rcases List.mem_append.mp hp with q | q
        · exact hin p q
        · rw [List.mem_singleton] at q; subst q
          exact ⟨hmem c (by simp), hmem d (by simp)⟩)
  simp at hll
  obtain ⟨t, w5, hw5, ht, e5⟩ := E_drawN hw4 (ties + 1) (by omega) (by omega)
  have e5 : f__law_draw [w4, .int ((ties : Int) + 1)] = .ret (.int (t : Int)) [some w5, none] := e5
  obtain ⟨ρ2, q2, w6, l2, a6, rfl, hw6, hin2, hll2⟩ := loop_pre (b := bName 6) (body := L__law_web_2) (fun k : Nat => D.int (k : Int))
    (fun p ρ => ∃ (w' : D) (l : List (Str × Str)) (a6 : Option D), ρ = [some w', some (.int (most : Int)), some (.int (ties : Int)), some (.lst (ps.map .str)), some (.lst (l.map pr)), a5, a6] ∧ IsH w' ∧ In ps l ∧ l.length ≤ 16 + p.length)
    (l := List.range t) (ρ := [some w5, some (.int (most : Int)), some (.int (ties : Int)), some (.lst (ps.map .str)), some (.lst (l.map pr)), a5, none]) ⟨w5, l, none, rfl, hw5, hin, by omega⟩ (by
      rintro p k r ρ he ⟨w', l, a6, rfl, hw', hin, hll⟩
      have hpl : p.length < t := by have := congrArg List.length he; simp at this; omega
      obtain ⟨s1, w7, hw7, hs1, e7⟩ := E_some hw' (ps := ps) (by omega) (by omega)
      obtain ⟨s2, w8, hw8, hs2, e8⟩ := E_some hw7 (ps := ps) (by omega) (by omega)
      have cl : l.length < sizeLine := sl_lt (by omega)
      refine ⟨[some w8, some (.int (most : Int)), some (.int (ties : Int)), some (.lst (ps.map .str)), some (.lst ((l ++ [(s1, s2)]).map pr)), a5, some (.int (k : Int))], .inl ?_, w8, l ++ [(s1, s2)], _, rfl, hw8, fun p hp => ?_, by simp; omega⟩
      · simp [lpStep, L__law_web_2, e7, e8, cl, pr]
      · rcases List.mem_append.mp hp with q | q
        · exact hin p q
        · rw [List.mem_singleton] at q; subst q
          exact ⟨hs1, hs2⟩)
  simp at hll2
  obtain ⟨ys, hys, w7, hw7, e7⟩ := E_mixed_io hw6 (l2.map pr) (by simp; omega)
  obtain ⟨l3, e8, h8⟩ := pairs_of (ys := ys.take ties) (l := l2) fun y hy => hys.mem_iff.mp (List.mem_of_mem_take hy)
  have h9 : l3.length ≤ 24 := by
    have := congrArg List.length e8
    simp at this
    omega
  obtain ⟨ns, w8, hw8, n1, n2, n3, e9⟩ := E_names hw7 l3.length h9
  have hd := gDict_zip (l := l3) n1 n2
  refine ⟨ps, ns.zip l3, w8, hw8, net_of hp n1 n2 n3 (fun p hp => hin2 p (h8 p hp)) h9, ?_⟩
  have hcut := cutD_takeA ys ties
  rw [e8] at hcut
  by_cases hk : 0 < k4
  · rw [if_pos (by omega)] at hn1
    rw [← hn1] at hg2
    simp [f__law_web, m__law_web, runF_ap, e1, e2, e3, hk, hg2, q1, e5, gRng1_n t (by omega), q2, e7, hcut, e9, hd, netD]
  · have hz : k4 = 0 := by omega
    subst hz
    rw [if_neg (by omega)] at hn1
    rw [← hn1] at hg2
    simp [f__law_web, m__law_web, runF_ap, e1, e2, e3, hg2, q1, e5, gRng1_n t (by omega), q2, e7, hcut, e9, hd, netD]
theorem cutD_drop1 (a : Str) (r : List Str) : cutD ((a :: r).map D.str) (some 1) none = r.map D.str := by
  have := cutD_dropS (a :: r) 1 (by simp)
  simpa using this
theorem E_ways {w : D} (hw : IsH w) {ps : List Str} (hp : GoodP ps) (most : Nat) (h2 : most ≤ 24) : ∃ ts w', IsH w' ∧ Net ps ts ∧ f__law_of_ways [w, .lst (ps.map .str), .int (most : Int)] = .ret (netD ps ts) [some w', none, none] := by
  have hp1 := hp.l1
  have hp2 := hp.l2
  obtain ⟨ρ1, q1, w1, l, a4, rfl, hw1, hin, hll⟩ := while_inv (mt := T__law_of_ways_1) (body := L__law_of_ways_1)
    (fun k ρ => ∃ (w' : D) (l : List (Str × Str)) (a4 : Option D), ρ = [some w', some (.lst (ps.map .str)), some (.int (most : Int)), some (.lst (l.map pr)), a4] ∧ IsH w' ∧ In ps l ∧ l.length ≤ most ∧ k = most - l.length)
    (fun ρ => ∃ (w' : D) (l : List (Str × Str)) (a4 : Option D), ρ = [some w', some (.lst (ps.map .str)), some (.int (most : Int)), some (.lst (l.map pr)), a4] ∧ IsH w' ∧ In ps l ∧ l.length ≤ most) (by
      rintro k ρ ⟨w', l, a4, rfl, hw', hin, hll, rfl⟩
      by_cases hlt : l.length < most
      · obtain ⟨ys, hys, w2, hw2, e2⟩ := E_mixed hw' (ps.map .str) (by simp; omega)
        obtain ⟨qs, rfl, hqs⟩ := perm_strs hys
        have hmin : ∃ m : Nat, 0 < m ∧ m ≤ ps.length ∧ m ≤ most - l.length ∧ (if (most : Int) - (l.length : Int) < (ps.length : Int) then (most : Int) - (l.length : Int) else (ps.length : Int)) = (m : Int) := by
          by_cases h : (most : Int) - (l.length : Int) < (ps.length : Int)
          · exact ⟨most - l.length, by omega, by omega, by omega, by rw [if_pos h]; omega⟩
          · exact ⟨ps.length, by omega, by omega, by omega, by rw [if_neg h]⟩
        obtain ⟨m, m1, m2, m3, m4⟩ := hmin
        obtain ⟨j, w3, hw3, hj, e3⟩ := E_drawN hw2 m m1 (by omega)
        have hql := hqs.length_eq
        have hcast : (1 + (j : Int)) = ((1 + j : Nat) : Int) := by omega
        have hcut := cutD_takeS qs (1 + j) (by omega)
        rw [← hcast] at hcut
        have hol : (qs.take (1 + j)).length = 1 + j := by rw [List.length_take]; omega
        have hom : ∀ x ∈ qs.take (1 + j), x ∈ ps := fun x hx => hqs.mem_iff.mp (List.mem_of_mem_take hx)
        generalize hO : qs.take (1 + j) = o at hcut hol hom
        cases o with
        | nil => exfalso; rw [List.length_nil] at hol; omega
        | cons a r =>
          have hd := cutD_drop1 a r
          have ht : cutD ((a :: r).map D.str) none (some 1) = [D.str a] := cutD_takeA _ 1
          have hz : zipD ((a :: r).map D.str) (r.map D.str ++ [D.str a]) = ((a :: r).zip (r ++ [a])).map pr := by
            have := zipD_prs (a :: r) (r ++ [a])
            simpa using this
          have hzl : ((a :: r).zip (r ++ [a])).length = 1 + j := by rw [List.length_zip]; simp at hol ⊢; omega
          have hrl : r.length = j := by simp at hol; omega
          have c1 : j + 1 ≤ sizeLine := sl_of (by omega)
          have c2 : l.length + (1 + j) ≤ sizeLine := sl_of (by omega)
          have hzz : (zipD (D.str a :: r.map D.str) (r.map D.str ++ [D.str a])) = ((a :: r).zip (r ++ [a])).map pr := hz
          generalize hZ : ((a :: r).zip (r ++ [a])) = z at hz hzl hzz
          refine .inr ⟨[some w', some (.lst (ps.map .str)), some (.int (most : Int)), some (.lst (l.map pr)), a4], [some w3, some (.lst (ps.map .str)), some (.int (most : Int)), some (.lst ((l ++ z).map pr)), some (.lst ((a :: r).map .str))], most - (l ++ z).length, ?_, ?_, ?_, w3, _, _, rfl, hw3, fun p hp => ?_, ?_, rfl⟩
          · simp [T__law_of_ways_1, hlt]
          · simp only [List.map_cons] at hd ht hcut
            simp [L__law_of_ways_1, e2, m4, e3, hcut, hd, ht, hrl, c1, hzz, hzl, c2]
          · rw [List.length_append, hzl]; omega
          · rcases List.mem_append.mp hp with q | q
            · exact hin p q
            · rw [← hZ] at q
              have := List.of_mem_zip (a := p.1) (b := p.2) q
              refine ⟨hom _ this.1, hom _ ?_⟩
              have := this.2
              simp at this ⊢
              exact this.symm
          · rw [List.length_append, hzl]; omega
      · refine .inl ⟨[some w', some (.lst (ps.map .str)), some (.int (most : Int)), some (.lst (l.map pr)), a4], ?_, w', l, a4, rfl, hw', hin, hll⟩
        simp [T__law_of_ways_1, hlt])
    100 most [some w, some (.lst (ps.map .str)), some (.int (most : Int)), some (.lst []), none] (by omega) ⟨w, [], none, rfl, hw, (fun p hp => by cases hp), by simp, by simp⟩
  obtain ⟨ns, w2, hw2, n1, n2, n3, e2⟩ := E_names hw1 l.length (by omega)
  obtain ⟨ys, hys, w3, hw3, e3⟩ := E_mixed_io hw2 (l.map pr) (by simp; omega)
  obtain ⟨l3, rfl, h8⟩ := pairs_of (ys := ys) (l := l) fun y hy => hys.mem_iff.mp hy
  have h9 := hys.length_eq
  simp at h9
  have hd := gDict_zip (l := l3) (by omega) n2
  refine ⟨ns.zip l3, w3, hw3, net_of hp (by omega) n2 n3 (fun p hp => hin p (h8 p hp)) (by omega), ?_⟩
  simp [f__law_of_ways, m__law_of_ways, runF_ap, q1, e2, e3, hd, netD]
theorem E_hand (ns : List Int) (h : ns.length ≤ 63) : ∃ w, IsH w ∧ f__law_hand [.scr ns] = .ret w [none] := by
  have hc := cutD_takeA (ns.map D.int) 63
  have hc : cutD (ns.map D.int) none (some 63) = (ns.map D.int).take 63 := hc
  rw [List.take_of_length_le (by simpa using h)] at hc
  have c : ns.length ≤ sizeLine := sl_of (by omega)
  have hl : ∀ a1 : Option D, mLcL [2] (bName 2) mYes C__law_hand_1 (ns.map D.int) [] [some (.scr ns), a1, none] = .ok ((ns.map fun i => if i < 0 then -i else i).map D.int) [some (.scr ns), a1, none] := fun a1 => by
    rw [lc_map (g := D.int) (f := fun i => .int (if i < 0 then -i else i))]
    · simp [Function.comp_def]
    · intro i _
      simp [lcStep, C__law_hand_1]
  have c1 : ∀ x, cMul 7 x = true := fun x => cMul_l (by decide) (by decide)
  have : ∃ x : Int, f__law_hand [.scr ns] = .ret (.lst [.lst ((ns.map fun i => if i < 0 then -i else i).map D.int), .int 0, .int 0, .int x, .int 0]) [none] := ⟨_, by
    simp only [f__law_hand, m__law_hand, runF_ap]
    simp [hc, c, hl, c1, -List.map_map]
    rfl⟩
  obtain ⟨x, e⟩ := this
  exact ⟨_, ⟨_, 0, _, _, _, rfl⟩, e⟩
theorem law_true (ns : List Int) (h : ns.length ≤ 63) : ∃ o, f_law [.scr ns] = .ret (.bl true) o := by
  obtain ⟨w, hw, e0⟩ := E_hand ns h
  have h6 := gRng1_n 6 (by omega)
  have h6 : gRng1 [.int 6] = some ((List.range 6).map fun k => D.int ((k : Nat) : Int)) := h6
  obtain ⟨ρ1, q1, w1, a2, rfl, hw1⟩ := loop_all (b := bName 2) (body := L_law_1) (fun k : Nat => D.int (k : Int))
    (fun ρ => ∃ (w' : D) (a2 : Option D), ρ = [some (.scr ns), some w', a2] ∧ IsH w')
    (l := List.range 6) (ρ := [some (.scr ns), some w, none]) ⟨w, none, rfl, hw⟩ (by
      rintro k hk ρ ⟨w', a2, rfl, hw'⟩
      obtain ⟨ps, ts, w2, hw2, hn, e2⟩ := E_web hw' 6 12 (by omega) (by omega) (by omega)
      have e2 : f__law_web [w', .int 6, .int 12] = .ret (netD ps ts) [some w2, none, none] := e2
      exact ⟨[some (.scr ns), some w2, some (.int (k : Int))], .inl (by simp [lpStep, L_law_1, e2, E_net hn]), w2, _, rfl, hw2⟩)
  obtain ⟨k, w2, hw2, hk, e2⟩ := E_drawN hw1 16 (by omega) (by omega)
  have e2 : f__law_draw [w1, .int 16] = .ret (.int (k : Int)) [some w2, none] := e2
  obtain ⟨ps3, ts3, w3, hw3, hn3, e3⟩ := E_plain hw2 (1 + k) (by omega) (by omega)
  have e3 : f__law_plain [w2, .int (1 + (k : Int))] = .ret (netD ps3 ts3) [some w3, none] := by
    have : (1 + (k : Int)) = ((1 + k : Nat) : Int) := by omega
    rw [this]; exact e3
  obtain ⟨ps4, ts4, w4, hw4, hn4, e4⟩ := E_web hw3 16 24 (by omega) (by omega) (by omega)
  have e4 : f__law_web [w3, .int 16, .int 24] = .ret (netD ps4 ts4) [some w4, none, none] := e4
  obtain ⟨k5, w5, hw5, hk5, e5⟩ := E_drawN hw4 9 (by omega) (by omega)
  have e5 : f__law_draw [w4, .int 9] = .ret (.int (k5 : Int)) [some w5, none] := e5
  obtain ⟨ps6, w6, hw6, p1, p2, p3, e6⟩ := E_names hw5 (1 + k5) (by omega)
  have e6 : f__law_names [w5, .int (1 + (k5 : Int))] = .ret (.lst (ps6.map .str)) [some w6, none] := by
    have : (1 + (k5 : Int)) = ((1 + k5 : Nat) : Int) := by omega
    rw [this]; exact e6
  obtain ⟨k7, w7, hw7, hk7, e7⟩ := E_drawN hw6 20 (by omega) (by omega)
  have e7 : f__law_draw [w6, .int 20] = .ret (.int (k7 : Int)) [some w7, none] := e7
  obtain ⟨ts8, w8, hw8, hn8, e8⟩ := E_ways hw7 (ps := ps6) ⟨by omega, by omega, p3, p2⟩ (4 + k7) (by omega)
  have e8 : f__law_of_ways [w7, .lst (ps6.map .str), .int (4 + (k7 : Int))] = .ret (netD ps6 ts8) [some w8, none, none] := by
    have : (4 + (k7 : Int)) = ((4 + k7 : Nat) : Int) := by omega
    rw [this]; exact e8
  refine ⟨[none], ?_⟩
  simp [f_law, m_law, runF_ap, e0, h6, q1, e2, e3, E_net hn3, e4, E_net hn4, e5, e6, e7, e8, E_net hn8]
end K42
namespace K42
open PySem L2 Vm
theorem all_mk {l : PySem.W.OpenLaw} {w : World} {K : PySem.W.Frag} {h : Heap} {mg : Str → Option Value} {fa : Addr} {C_BadArrows : Addr} {C_TooMany : Addr} {C_BadTies : Addr} {C_BadPlaces : Addr} {C_Arrows : Addr} {C_Web : Addr} {t_MOST_LETTERS : Tok} {t_LETTERS : Tok} {t_MOST_PLACES : Tok} {t_MOST_THINGS : Tok} {f_is_name : Addr} {od_is_name an_is_name : Option Addr} {sl_is_name : Array (Option Value)} {oc_is_name kV_is_name dc_is_name pm_is_name cd_is_name ct_is_name : Value} {f_need_places : Addr} {od_need_places an_need_places : Option Addr} {sl_need_places : Array (Option Value)} {oc_need_places kV_need_places dc_need_places pm_need_places cd_need_places ct_need_places : Value} {f_is_pair : Addr} {od_is_pair an_is_pair : Option Addr} {sl_is_pair : Array (Option Value)} {oc_is_pair kV_is_pair dc_is_pair pm_is_pair cd_is_pair ct_is_pair : Value} {f_Web___init__ : Addr} {od_Web___init__ an_Web___init__ : Option Addr} {sl_Web___init__ : Array (Option Value)} {oc_Web___init__ kV_Web___init__ dc_Web___init__ pm_Web___init__ cd_Web___init__ ct_Web___init__ : Value} {f_Web___eq__ : Addr} {od_Web___eq__ an_Web___eq__ : Option Addr} {sl_Web___eq__ : Array (Option Value)} {oc_Web___eq__ kV_Web___eq__ dc_Web___eq__ pm_Web___eq__ cd_Web___eq__ ct_Web___eq__ : Value} {f_Arrows___init__ : Addr} {od_Arrows___init__ an_Arrows___init__ : Option Addr} {sl_Arrows___init__ : Array (Option Value)} {oc_Arrows___init__ kV_Arrows___init__ dc_Arrows___init__ pm_Arrows___init__ cd_Arrows___init__ ct_Arrows___init__ : Value} {f_Arrows_places : Addr} {od_Arrows_places an_Arrows_places : Option Addr} {sl_Arrows_places : Array (Option Value)} {oc_Arrows_places kV_Arrows_places dc_Arrows_places pm_Arrows_places cd_Arrows_places ct_Arrows_places : Value} {f_Arrows_arrows : Addr} {od_Arrows_arrows an_Arrows_arrows : Option Addr} {sl_Arrows_arrows : Array (Option Value)} {oc_Arrows_arrows kV_Arrows_arrows dc_Arrows_arrows pm_Arrows_arrows cd_Arrows_arrows ct_Arrows_arrows : Value} {f_under_web : Addr} {od_under_web an_under_web : Option Addr} {sl_under_web : Array (Option Value)} {oc_under_web kV_under_web dc_under_web pm_under_web cd_under_web ct_under_web : Value} {f_is_turning : Addr} {od_is_turning an_is_turning : Option Addr} {sl_is_turning : Array (Option Value)} {oc_is_turning kV_is_turning dc_is_turning pm_is_turning cd_is_turning ct_is_turning : Value} {f_go_round : Addr} {od_go_round an_go_round : Option Addr} {sl_go_round : Array (Option Value)} {oc_go_round kV_go_round dc_go_round pm_go_round cd_go_round ct_go_round : Value} {f_even_turning : Addr} {od_even_turning an_even_turning : Option Addr} {sl_even_turning : Array (Option Value)} {oc_even_turning kV_even_turning dc_even_turning pm_even_turning cd_even_turning ct_even_turning : Value} {f_arrows_of : Addr} {od_arrows_of an_arrows_of : Option Addr} {sl_arrows_of : Array (Option Value)} {oc_arrows_of kV_arrows_of dc_arrows_of pm_arrows_of cd_arrows_of ct_arrows_of : Value} {f__law_hand : Addr} {od__law_hand an__law_hand : Option Addr} {sl__law_hand : Array (Option Value)} {oc__law_hand kV__law_hand dc__law_hand pm__law_hand cd__law_hand ct__law_hand : Value} {f__law_draw : Addr} {od__law_draw an__law_draw : Option Addr} {sl__law_draw : Array (Option Value)} {oc__law_draw kV__law_draw dc__law_draw pm__law_draw cd__law_draw ct__law_draw : Value} {f__law_some : Addr} {od__law_some an__law_some : Option Addr} {sl__law_some : Array (Option Value)} {oc__law_some kV__law_some dc__law_some pm__law_some cd__law_some ct__law_some : Value} {f__law_mixed : Addr} {od__law_mixed an__law_mixed : Option Addr} {sl__law_mixed : Array (Option Value)} {oc__law_mixed kV__law_mixed dc__law_mixed pm__law_mixed cd__law_mixed ct__law_mixed : Value} {f__law_is : Addr} {od__law_is an__law_is : Option Addr} {sl__law_is : Array (Option Value)} {oc__law_is kV__law_is dc__law_is pm__law_is cd__law_is ct__law_is : Value} {f__law_name : Addr} {od__law_name an__law_name : Option Addr} {sl__law_name : Array (Option Value)} {oc__law_name kV__law_name dc__law_name pm__law_name cd__law_name ct__law_name : Value} {f__law_names : Addr} {od__law_names an__law_names : Option Addr} {sl__law_names : Array (Option Value)} {oc__law_names kV__law_names dc__law_names pm__law_names cd__law_names ct__law_names : Value} {f__law_web : Addr} {od__law_web an__law_web : Option Addr} {sl__law_web : Array (Option Value)} {oc__law_web kV__law_web dc__law_web pm__law_web cd__law_web ct__law_web : Value} {f__law_web_of : Addr} {od__law_web_of an__law_web_of : Option Addr} {sl__law_web_of : Array (Option Value)} {oc__law_web_of kV__law_web_of dc__law_web_of pm__law_web_of cd__law_web_of ct__law_web_of : Value} {f__law_is_turning : Addr} {od__law_is_turning an__law_is_turning : Option Addr} {sl__law_is_turning : Array (Option Value)} {oc__law_is_turning kV__law_is_turning dc__law_is_turning pm__law_is_turning cd__law_is_turning ct__law_is_turning : Value} {f__law_is_even : Addr} {od__law_is_even an__law_is_even : Option Addr} {sl__law_is_even : Array (Option Value)} {oc__law_is_even kV__law_is_even dc__law_is_even pm__law_is_even cd__law_is_even ct__law_is_even : Value} {f__law_net_right : Addr} {od__law_net_right an__law_net_right : Option Addr} {sl__law_net_right : Array (Option Value)} {oc__law_net_right kV__law_net_right dc__law_net_right pm__law_net_right cd__law_net_right ct__law_net_right : Value} {f__law_of_ways : Addr} {od__law_of_ways an__law_of_ways : Option Addr} {sl__law_of_ways : Array (Option Value)} {oc__law_of_ways kV__law_of_ways dc__law_of_ways pm__law_of_ways cd__law_of_ways ct__law_of_ways : Value} {f__law_plain : Addr} {od__law_plain an__law_plain : Option Addr} {sl__law_plain : Array (Option Value)} {oc__law_plain kV__law_plain dc__law_plain pm__law_plain cd__law_plain ct__law_plain : Value} {f_law : Addr} {od_law an_law : Option Addr} {sl_law : Array (Option Value)} {oc_law kV_law dc_law pm_law cd_law ct_law : Value} {f_BadPlaces___init__ : Addr} {od_BadPlaces___init__ an_BadPlaces___init__ : Option Addr} {sl_BadPlaces___init__ : Array (Option Value)} {oc_BadPlaces___init__ kV_BadPlaces___init__ dc_BadPlaces___init__ pm_BadPlaces___init__ cd_BadPlaces___init__ ct_BadPlaces___init__ : Value} {f_BadTies___init__ : Addr} {od_BadTies___init__ an_BadTies___init__ : Option Addr} {sl_BadTies___init__ : Array (Option Value)} {oc_BadTies___init__ kV_BadTies___init__ dc_BadTies___init__ pm_BadTies___init__ cd_BadTies___init__ ct_BadTies___init__ : Value} {f_TooMany___init__ : Addr} {od_TooMany___init__ an_TooMany___init__ : Option Addr} {sl_TooMany___init__ : Array (Option Value)} {oc_TooMany___init__ kV_TooMany___init__ dc_TooMany___init__ pm_TooMany___init__ cd_TooMany___init__ ct_TooMany___init__ : Value} {f_BadArrows___init__ : Addr} {od_BadArrows___init__ an_BadArrows___init__ : Option Addr} {sl_BadArrows___init__ : Array (Option Value)} {oc_BadArrows___init__ kV_BadArrows___init__ dc_BadArrows___init__ pm_BadArrows___init__ cd_BadArrows___init__ ct_BadArrows___init__ : Value} {nm_BadPlaces qn_BadPlaces N_BadPlaces bs_BadPlaces bm_BadPlaces sn_BadPlaces sub_BadPlaces ab_BadPlaces col_BadPlaces dd_BadPlaces ka_BadPlaces kb_BadPlaces kd_BadPlaces ke_BadPlaces kf_BadPlaces : _} {nm_BadTies qn_BadTies N_BadTies bs_BadTies bm_BadTies sn_BadTies sub_BadTies ab_BadTies col_BadTies dd_BadTies ka_BadTies kb_BadTies kd_BadTies ke_BadTies kf_BadTies : _} {nm_TooMany qn_TooMany N_TooMany bs_TooMany bm_TooMany sn_TooMany sub_TooMany ab_TooMany col_TooMany dd_TooMany ka_TooMany kb_TooMany kd_TooMany ke_TooMany kf_TooMany : _} {nm_BadArrows qn_BadArrows N_BadArrows bs_BadArrows bm_BadArrows sn_BadArrows sub_BadArrows ab_BadArrows col_BadArrows dd_BadArrows ka_BadArrows kb_BadArrows kd_BadArrows ke_BadArrows kf_BadArrows : _} (hf : ∀ ns : List Int, ns.length ≤ 63 → ∃ o, K42.f_law [.scr ns] = FR.ret (.bl true) o) (X : K.In h) (G : h.Ns mainGlobals mg) (hfa : mg "law" = some (.ref fa))
    (zn_isinstance : PySem.W.nsIn K mainGlobals "isinstance" = some none)
    (zn_str : PySem.W.nsIn K mainGlobals "str" = some none)
    (zn_len : PySem.W.nsIn K mainGlobals "len" = some none)
    (zn_all : PySem.W.nsIn K mainGlobals "all" = some none)
    (zn_enumerate : PySem.W.nsIn K mainGlobals "enumerate" = some none)
    (zn_tuple : PySem.W.nsIn K mainGlobals "tuple" = some none)
    (zn_sorted : PySem.W.nsIn K mainGlobals "sorted" = some none)
    (zn_list : PySem.W.nsIn K mainGlobals "list" = some none)
    (zn_dict : PySem.W.nsIn K mainGlobals "dict" = some none)
    (zn_abs : PySem.W.nsIn K mainGlobals "abs" = some none)
    (zn_int : PySem.W.nsIn K mainGlobals "int" = some none)
    (zn_zip : PySem.W.nsIn K mainGlobals "zip" = some none)
    (zn_bool : PySem.W.nsIn K mainGlobals "bool" = some none)
    (zn_range : PySem.W.nsIn K mainGlobals "range" = some none)
    (zn_min : PySem.W.nsIn K mainGlobals "min" = some none)
    (zc_MOST_LETTERS : PySem.W.nsIn K mainGlobals "MOST_LETTERS" = some (some (.int 8 t_MOST_LETTERS)))
    (zc_LETTERS : PySem.W.nsIn K mainGlobals "LETTERS" = some (some (.str "abcdefghijklmnopqrstuvwxyz" t_LETTERS)))
    (zc_MOST_PLACES : PySem.W.nsIn K mainGlobals "MOST_PLACES" = some (some (.int 16 t_MOST_PLACES)))
    (zc_MOST_THINGS : PySem.W.nsIn K mainGlobals "MOST_THINGS" = some (some (.int 24 t_MOST_THINGS)))
    (at_is_name : PySem.W.nsIn K mainGlobals "is_name" = some (some (.ref f_is_name)))
    (l_is_name : K.lookup f_is_name = some ⟨oc_is_name, od_is_name, .func (PySem.W.fnOf "is_name" "is_name" (defArgs s_is_name) (defBody s_is_name) (defScope s_is_name) .none kV_is_name dc_is_name pm_is_name an_is_name cd_is_name ct_is_name), sl_is_name⟩)
    (cc_is_name : PySem.W.codeIn K cd_is_name "is_name" = true)
    (kk_is_name : PySem.W.keepIn K (.ref f_is_name) = true)
    (at_need_places : PySem.W.nsIn K mainGlobals "need_places" = some (some (.ref f_need_places)))
    (l_need_places : K.lookup f_need_places = some ⟨oc_need_places, od_need_places, .func (PySem.W.fnOf "need_places" "need_places" (defArgs s_need_places) (defBody s_need_places) (defScope s_need_places) .none kV_need_places dc_need_places pm_need_places an_need_places cd_need_places ct_need_places), sl_need_places⟩)
    (cc_need_places : PySem.W.codeIn K cd_need_places "need_places" = true)
    (kk_need_places : PySem.W.keepIn K (.ref f_need_places) = true)
    (at_is_pair : PySem.W.nsIn K mainGlobals "is_pair" = some (some (.ref f_is_pair)))
    (l_is_pair : K.lookup f_is_pair = some ⟨oc_is_pair, od_is_pair, .func (PySem.W.fnOf "is_pair" "is_pair" (defArgs s_is_pair) (defBody s_is_pair) (defScope s_is_pair) .none kV_is_pair dc_is_pair pm_is_pair an_is_pair cd_is_pair ct_is_pair), sl_is_pair⟩)
    (cc_is_pair : PySem.W.codeIn K cd_is_pair "is_pair" = true)
    (kk_is_pair : PySem.W.keepIn K (.ref f_is_pair) = true)
    (at_Web___init__ : PySem.W.findIn K (.ref C_Web) "__init__" = some (some (.ref f_Web___init__)))
    (ii_Web___init__ : PySem.W.isFn K (.ref f_Web___init__) = true)
    (l_Web___init__ : K.lookup f_Web___init__ = some ⟨oc_Web___init__, od_Web___init__, .func (PySem.W.fnOf "__init__" "Web.__init__" (defArgs s_Web___init__) (defBody s_Web___init__) (defScope s_Web___init__) .none kV_Web___init__ dc_Web___init__ pm_Web___init__ an_Web___init__ cd_Web___init__ ct_Web___init__), sl_Web___init__⟩)
    (cc_Web___init__ : PySem.W.codeIn K cd_Web___init__ "Web.__init__" = true)
    (kk_Web___init__ : PySem.W.keepIn K (.ref f_Web___init__) = true)
    (at_Web___eq__ : PySem.W.findIn K (.ref C_Web) "__eq__" = some (some (.ref f_Web___eq__)))
    (ii_Web___eq__ : PySem.W.isFn K (.ref f_Web___eq__) = true)
    (l_Web___eq__ : K.lookup f_Web___eq__ = some ⟨oc_Web___eq__, od_Web___eq__, .func (PySem.W.fnOf "__eq__" "Web.__eq__" (defArgs s_Web___eq__) (defBody s_Web___eq__) (defScope s_Web___eq__) .none kV_Web___eq__ dc_Web___eq__ pm_Web___eq__ an_Web___eq__ cd_Web___eq__ ct_Web___eq__), sl_Web___eq__⟩)
    (cc_Web___eq__ : PySem.W.codeIn K cd_Web___eq__ "Web.__eq__" = true)
    (kk_Web___eq__ : PySem.W.keepIn K (.ref f_Web___eq__) = true)
    (at_Arrows___init__ : PySem.W.findIn K (.ref C_Arrows) "__init__" = some (some (.ref f_Arrows___init__)))
    (ii_Arrows___init__ : PySem.W.isFn K (.ref f_Arrows___init__) = true)
    (l_Arrows___init__ : K.lookup f_Arrows___init__ = some ⟨oc_Arrows___init__, od_Arrows___init__, .func (PySem.W.fnOf "__init__" "Arrows.__init__" (defArgs s_Arrows___init__) (defBody s_Arrows___init__) (defScope s_Arrows___init__) .none kV_Arrows___init__ dc_Arrows___init__ pm_Arrows___init__ an_Arrows___init__ cd_Arrows___init__ ct_Arrows___init__), sl_Arrows___init__⟩)
    (cc_Arrows___init__ : PySem.W.codeIn K cd_Arrows___init__ "Arrows.__init__" = true)
    (kk_Arrows___init__ : PySem.W.keepIn K (.ref f_Arrows___init__) = true)
    (at_Arrows_places : PySem.W.findIn K (.ref C_Arrows) "places" = some (some (.ref f_Arrows_places)))
    (ii_Arrows_places : PySem.W.isFn K (.ref f_Arrows_places) = true)
    (l_Arrows_places : K.lookup f_Arrows_places = some ⟨oc_Arrows_places, od_Arrows_places, .func (PySem.W.fnOf "places" "Arrows.places" (defArgs s_Arrows_places) (defBody s_Arrows_places) (defScope s_Arrows_places) .none kV_Arrows_places dc_Arrows_places pm_Arrows_places an_Arrows_places cd_Arrows_places ct_Arrows_places), sl_Arrows_places⟩)
    (cc_Arrows_places : PySem.W.codeIn K cd_Arrows_places "Arrows.places" = true)
    (kk_Arrows_places : PySem.W.keepIn K (.ref f_Arrows_places) = true)
    (at_Arrows_arrows : PySem.W.findIn K (.ref C_Arrows) "arrows" = some (some (.ref f_Arrows_arrows)))
    (ii_Arrows_arrows : PySem.W.isFn K (.ref f_Arrows_arrows) = true)
    (l_Arrows_arrows : K.lookup f_Arrows_arrows = some ⟨oc_Arrows_arrows, od_Arrows_arrows, .func (PySem.W.fnOf "arrows" "Arrows.arrows" (defArgs s_Arrows_arrows) (defBody s_Arrows_arrows) (defScope s_Arrows_arrows) .none kV_Arrows_arrows dc_Arrows_arrows pm_Arrows_arrows an_Arrows_arrows cd_Arrows_arrows ct_Arrows_arrows), sl_Arrows_arrows⟩)
    (cc_Arrows_arrows : PySem.W.codeIn K cd_Arrows_arrows "Arrows.arrows" = true)
    (kk_Arrows_arrows : PySem.W.keepIn K (.ref f_Arrows_arrows) = true)
    (at_under_web : PySem.W.nsIn K mainGlobals "under_web" = some (some (.ref f_under_web)))
    (l_under_web : K.lookup f_under_web = some ⟨oc_under_web, od_under_web, .func (PySem.W.fnOf "under_web" "under_web" (defArgs s_under_web) (defBody s_under_web) (defScope s_under_web) .none kV_under_web dc_under_web pm_under_web an_under_web cd_under_web ct_under_web), sl_under_web⟩)
    (cc_under_web : PySem.W.codeIn K cd_under_web "under_web" = true)
    (kk_under_web : PySem.W.keepIn K (.ref f_under_web) = true)
    (at_is_turning : PySem.W.nsIn K mainGlobals "is_turning" = some (some (.ref f_is_turning)))
    (l_is_turning : K.lookup f_is_turning = some ⟨oc_is_turning, od_is_turning, .func (PySem.W.fnOf "is_turning" "is_turning" (defArgs s_is_turning) (defBody s_is_turning) (defScope s_is_turning) .none kV_is_turning dc_is_turning pm_is_turning an_is_turning cd_is_turning ct_is_turning), sl_is_turning⟩)
    (cc_is_turning : PySem.W.codeIn K cd_is_turning "is_turning" = true)
    (kk_is_turning : PySem.W.keepIn K (.ref f_is_turning) = true)
    (at_go_round : PySem.W.nsIn K mainGlobals "go_round" = some (some (.ref f_go_round)))
    (l_go_round : K.lookup f_go_round = some ⟨oc_go_round, od_go_round, .func (PySem.W.fnOf "go_round" "go_round" (defArgs s_go_round) (defBody s_go_round) (defScope s_go_round) .none kV_go_round dc_go_round pm_go_round an_go_round cd_go_round ct_go_round), sl_go_round⟩)
    (cc_go_round : PySem.W.codeIn K cd_go_round "go_round" = true)
    (kk_go_round : PySem.W.keepIn K (.ref f_go_round) = true)
    (at_even_turning : PySem.W.nsIn K mainGlobals "even_turning" = some (some (.ref f_even_turning)))
    (l_even_turning : K.lookup f_even_turning = some ⟨oc_even_turning, od_even_turning, .func (PySem.W.fnOf "even_turning" "even_turning" (defArgs s_even_turning) (defBody s_even_turning) (defScope s_even_turning) .none kV_even_turning dc_even_turning pm_even_turning an_even_turning cd_even_turning ct_even_turning), sl_even_turning⟩)
    (cc_even_turning : PySem.W.codeIn K cd_even_turning "even_turning" = true)
    (kk_even_turning : PySem.W.keepIn K (.ref f_even_turning) = true)
    (at_arrows_of : PySem.W.nsIn K mainGlobals "arrows_of" = some (some (.ref f_arrows_of)))
    (l_arrows_of : K.lookup f_arrows_of = some ⟨oc_arrows_of, od_arrows_of, .func (PySem.W.fnOf "arrows_of" "arrows_of" (defArgs s_arrows_of) (defBody s_arrows_of) (defScope s_arrows_of) .none kV_arrows_of dc_arrows_of pm_arrows_of an_arrows_of cd_arrows_of ct_arrows_of), sl_arrows_of⟩)
    (cc_arrows_of : PySem.W.codeIn K cd_arrows_of "arrows_of" = true)
    (kk_arrows_of : PySem.W.keepIn K (.ref f_arrows_of) = true)
    (at__law_hand : PySem.W.nsIn K mainGlobals "_law_hand" = some (some (.ref f__law_hand)))
    (l__law_hand : K.lookup f__law_hand = some ⟨oc__law_hand, od__law_hand, .func (PySem.W.fnOf "_law_hand" "_law_hand" (defArgs s__law_hand) (defBody s__law_hand) (defScope s__law_hand) .none kV__law_hand dc__law_hand pm__law_hand an__law_hand cd__law_hand ct__law_hand), sl__law_hand⟩)
    (cc__law_hand : PySem.W.codeIn K cd__law_hand "_law_hand" = true)
    (kk__law_hand : PySem.W.keepIn K (.ref f__law_hand) = true)
    (at__law_draw : PySem.W.nsIn K mainGlobals "_law_draw" = some (some (.ref f__law_draw)))
    (l__law_draw : K.lookup f__law_draw = some ⟨oc__law_draw, od__law_draw, .func (PySem.W.fnOf "_law_draw" "_law_draw" (defArgs s__law_draw) (defBody s__law_draw) (defScope s__law_draw) .none kV__law_draw dc__law_draw pm__law_draw an__law_draw cd__law_draw ct__law_draw), sl__law_draw⟩)
    (cc__law_draw : PySem.W.codeIn K cd__law_draw "_law_draw" = true)
    (kk__law_draw : PySem.W.keepIn K (.ref f__law_draw) = true)
    (at__law_some : PySem.W.nsIn K mainGlobals "_law_some" = some (some (.ref f__law_some)))
    (l__law_some : K.lookup f__law_some = some ⟨oc__law_some, od__law_some, .func (PySem.W.fnOf "_law_some" "_law_some" (defArgs s__law_some) (defBody s__law_some) (defScope s__law_some) .none kV__law_some dc__law_some pm__law_some an__law_some cd__law_some ct__law_some), sl__law_some⟩)
    (cc__law_some : PySem.W.codeIn K cd__law_some "_law_some" = true)
    (kk__law_some : PySem.W.keepIn K (.ref f__law_some) = true)
    (at__law_mixed : PySem.W.nsIn K mainGlobals "_law_mixed" = some (some (.ref f__law_mixed)))
    (l__law_mixed : K.lookup f__law_mixed = some ⟨oc__law_mixed, od__law_mixed, .func (PySem.W.fnOf "_law_mixed" "_law_mixed" (defArgs s__law_mixed) (defBody s__law_mixed) (defScope s__law_mixed) .none kV__law_mixed dc__law_mixed pm__law_mixed an__law_mixed cd__law_mixed ct__law_mixed), sl__law_mixed⟩)
    (cc__law_mixed : PySem.W.codeIn K cd__law_mixed "_law_mixed" = true)
    (kk__law_mixed : PySem.W.keepIn K (.ref f__law_mixed) = true)
    (at__law_is : PySem.W.nsIn K mainGlobals "_law_is" = some (some (.ref f__law_is)))
    (l__law_is : K.lookup f__law_is = some ⟨oc__law_is, od__law_is, .func (PySem.W.fnOf "_law_is" "_law_is" (defArgs s__law_is) (defBody s__law_is) (defScope s__law_is) .none kV__law_is dc__law_is pm__law_is an__law_is cd__law_is ct__law_is), sl__law_is⟩)
    (cc__law_is : PySem.W.codeIn K cd__law_is "_law_is" = true)
    (kk__law_is : PySem.W.keepIn K (.ref f__law_is) = true)
    (at__law_name : PySem.W.nsIn K mainGlobals "_law_name" = some (some (.ref f__law_name)))
    (l__law_name : K.lookup f__law_name = some ⟨oc__law_name, od__law_name, .func (PySem.W.fnOf "_law_name" "_law_name" (defArgs s__law_name) (defBody s__law_name) (defScope s__law_name) .none kV__law_name dc__law_name pm__law_name an__law_name cd__law_name ct__law_name), sl__law_name⟩)
    (cc__law_name : PySem.W.codeIn K cd__law_name "_law_name" = true)
    (kk__law_name : PySem.W.keepIn K (.ref f__law_name) = true)
    (at__law_names : PySem.W.nsIn K mainGlobals "_law_names" = some (some (.ref f__law_names)))
    (l__law_names : K.lookup f__law_names = some ⟨oc__law_names, od__law_names, .func (PySem.W.fnOf "_law_names" "_law_names" (defArgs s__law_names) (defBody s__law_names) (defScope s__law_names) .none kV__law_names dc__law_names pm__law_names an__law_names cd__law_names ct__law_names), sl__law_names⟩)
    (cc__law_names : PySem.W.codeIn K cd__law_names "_law_names" = true)
    (kk__law_names : PySem.W.keepIn K (.ref f__law_names) = true)
    (at__law_web : PySem.W.nsIn K mainGlobals "_law_web" = some (some (.ref f__law_web)))
    (l__law_web : K.lookup f__law_web = some ⟨oc__law_web, od__law_web, .func (PySem.W.fnOf "_law_web" "_law_web" (defArgs s__law_web) (defBody s__law_web) (defScope s__law_web) .none kV__law_web dc__law_web pm__law_web an__law_web cd__law_web ct__law_web), sl__law_web⟩)
    (cc__law_web : PySem.W.codeIn K cd__law_web "_law_web" = true)
    (kk__law_web : PySem.W.keepIn K (.ref f__law_web) = true)
    (at__law_web_of : PySem.W.nsIn K mainGlobals "_law_web_of" = some (some (.ref f__law_web_of)))
    (l__law_web_of : K.lookup f__law_web_of = some ⟨oc__law_web_of, od__law_web_of, .func (PySem.W.fnOf "_law_web_of" "_law_web_of" (defArgs s__law_web_of) (defBody s__law_web_of) (defScope s__law_web_of) .none kV__law_web_of dc__law_web_of pm__law_web_of an__law_web_of cd__law_web_of ct__law_web_of), sl__law_web_of⟩)
    (cc__law_web_of : PySem.W.codeIn K cd__law_web_of "_law_web_of" = true)
    (kk__law_web_of : PySem.W.keepIn K (.ref f__law_web_of) = true)
    (at__law_is_turning : PySem.W.nsIn K mainGlobals "_law_is_turning" = some (some (.ref f__law_is_turning)))
    (l__law_is_turning : K.lookup f__law_is_turning = some ⟨oc__law_is_turning, od__law_is_turning, .func (PySem.W.fnOf "_law_is_turning" "_law_is_turning" (defArgs s__law_is_turning) (defBody s__law_is_turning) (defScope s__law_is_turning) .none kV__law_is_turning dc__law_is_turning pm__law_is_turning an__law_is_turning cd__law_is_turning ct__law_is_turning), sl__law_is_turning⟩)
    (cc__law_is_turning : PySem.W.codeIn K cd__law_is_turning "_law_is_turning" = true)
    (kk__law_is_turning : PySem.W.keepIn K (.ref f__law_is_turning) = true)
    (at__law_is_even : PySem.W.nsIn K mainGlobals "_law_is_even" = some (some (.ref f__law_is_even)))
    (l__law_is_even : K.lookup f__law_is_even = some ⟨oc__law_is_even, od__law_is_even, .func (PySem.W.fnOf "_law_is_even" "_law_is_even" (defArgs s__law_is_even) (defBody s__law_is_even) (defScope s__law_is_even) .none kV__law_is_even dc__law_is_even pm__law_is_even an__law_is_even cd__law_is_even ct__law_is_even), sl__law_is_even⟩)
    (cc__law_is_even : PySem.W.codeIn K cd__law_is_even "_law_is_even" = true)
    (kk__law_is_even : PySem.W.keepIn K (.ref f__law_is_even) = true)
    (at__law_net_right : PySem.W.nsIn K mainGlobals "_law_net_right" = some (some (.ref f__law_net_right)))
    (l__law_net_right : K.lookup f__law_net_right = some ⟨oc__law_net_right, od__law_net_right, .func (PySem.W.fnOf "_law_net_right" "_law_net_right" (defArgs s__law_net_right) (defBody s__law_net_right) (defScope s__law_net_right) .none kV__law_net_right dc__law_net_right pm__law_net_right an__law_net_right cd__law_net_right ct__law_net_right), sl__law_net_right⟩)
    (cc__law_net_right : PySem.W.codeIn K cd__law_net_right "_law_net_right" = true)
    (kk__law_net_right : PySem.W.keepIn K (.ref f__law_net_right) = true)
    (at__law_of_ways : PySem.W.nsIn K mainGlobals "_law_of_ways" = some (some (.ref f__law_of_ways)))
    (l__law_of_ways : K.lookup f__law_of_ways = some ⟨oc__law_of_ways, od__law_of_ways, .func (PySem.W.fnOf "_law_of_ways" "_law_of_ways" (defArgs s__law_of_ways) (defBody s__law_of_ways) (defScope s__law_of_ways) .none kV__law_of_ways dc__law_of_ways pm__law_of_ways an__law_of_ways cd__law_of_ways ct__law_of_ways), sl__law_of_ways⟩)
    (cc__law_of_ways : PySem.W.codeIn K cd__law_of_ways "_law_of_ways" = true)
    (kk__law_of_ways : PySem.W.keepIn K (.ref f__law_of_ways) = true)
    (at__law_plain : PySem.W.nsIn K mainGlobals "_law_plain" = some (some (.ref f__law_plain)))
    (l__law_plain : K.lookup f__law_plain = some ⟨oc__law_plain, od__law_plain, .func (PySem.W.fnOf "_law_plain" "_law_plain" (defArgs s__law_plain) (defBody s__law_plain) (defScope s__law_plain) .none kV__law_plain dc__law_plain pm__law_plain an__law_plain cd__law_plain ct__law_plain), sl__law_plain⟩)
    (cc__law_plain : PySem.W.codeIn K cd__law_plain "_law_plain" = true)
    (kk__law_plain : PySem.W.keepIn K (.ref f__law_plain) = true)
    (at_law : PySem.W.nsIn K mainGlobals "law" = some (some (.ref f_law)))
    (l_law : K.lookup f_law = some ⟨oc_law, od_law, .func (PySem.W.fnOf "law" "law" (defArgs s_law) (defBody s_law) (defScope s_law) .none kV_law dc_law pm_law an_law cd_law ct_law), sl_law⟩)
    (cc_law : PySem.W.codeIn K cd_law "law" = true)
    (kk_law : PySem.W.keepIn K (.ref f_law) = true)
    (at_BadPlaces___init__ : PySem.W.findIn K (.ref C_BadPlaces) "__init__" = some (some (.ref f_BadPlaces___init__)))
    (ii_BadPlaces___init__ : PySem.W.isFn K (.ref f_BadPlaces___init__) = true)
    (l_BadPlaces___init__ : K.lookup f_BadPlaces___init__ = some ⟨oc_BadPlaces___init__, od_BadPlaces___init__, .func (PySem.W.fnOf "__init__" "BadPlaces.__init__" (defArgs s_BadPlaces___init__) (defBody s_BadPlaces___init__) (defScope s_BadPlaces___init__) .none kV_BadPlaces___init__ dc_BadPlaces___init__ pm_BadPlaces___init__ an_BadPlaces___init__ cd_BadPlaces___init__ ct_BadPlaces___init__), sl_BadPlaces___init__⟩)
    (cc_BadPlaces___init__ : PySem.W.codeIn K cd_BadPlaces___init__ "BadPlaces.__init__" = true)
    (kk_BadPlaces___init__ : PySem.W.keepIn K (.ref f_BadPlaces___init__) = true)
    (at_BadTies___init__ : PySem.W.findIn K (.ref C_BadTies) "__init__" = some (some (.ref f_BadTies___init__)))
    (ii_BadTies___init__ : PySem.W.isFn K (.ref f_BadTies___init__) = true)
    (l_BadTies___init__ : K.lookup f_BadTies___init__ = some ⟨oc_BadTies___init__, od_BadTies___init__, .func (PySem.W.fnOf "__init__" "BadTies.__init__" (defArgs s_BadTies___init__) (defBody s_BadTies___init__) (defScope s_BadTies___init__) .none kV_BadTies___init__ dc_BadTies___init__ pm_BadTies___init__ an_BadTies___init__ cd_BadTies___init__ ct_BadTies___init__), sl_BadTies___init__⟩)
    (cc_BadTies___init__ : PySem.W.codeIn K cd_BadTies___init__ "BadTies.__init__" = true)
    (kk_BadTies___init__ : PySem.W.keepIn K (.ref f_BadTies___init__) = true)
    (at_TooMany___init__ : PySem.W.findIn K (.ref C_TooMany) "__init__" = some (some (.ref f_TooMany___init__)))
    (ii_TooMany___init__ : PySem.W.isFn K (.ref f_TooMany___init__) = true)
    (l_TooMany___init__ : K.lookup f_TooMany___init__ = some ⟨oc_TooMany___init__, od_TooMany___init__, .func (PySem.W.fnOf "__init__" "TooMany.__init__" (defArgs s_TooMany___init__) (defBody s_TooMany___init__) (defScope s_TooMany___init__) .none kV_TooMany___init__ dc_TooMany___init__ pm_TooMany___init__ an_TooMany___init__ cd_TooMany___init__ ct_TooMany___init__), sl_TooMany___init__⟩)
    (cc_TooMany___init__ : PySem.W.codeIn K cd_TooMany___init__ "TooMany.__init__" = true)
    (kk_TooMany___init__ : PySem.W.keepIn K (.ref f_TooMany___init__) = true)
    (at_BadArrows___init__ : PySem.W.findIn K (.ref C_BadArrows) "__init__" = some (some (.ref f_BadArrows___init__)))
    (ii_BadArrows___init__ : PySem.W.isFn K (.ref f_BadArrows___init__) = true)
    (l_BadArrows___init__ : K.lookup f_BadArrows___init__ = some ⟨oc_BadArrows___init__, od_BadArrows___init__, .func (PySem.W.fnOf "__init__" "BadArrows.__init__" (defArgs s_BadArrows___init__) (defBody s_BadArrows___init__) (defScope s_BadArrows___init__) .none kV_BadArrows___init__ dc_BadArrows___init__ pm_BadArrows___init__ an_BadArrows___init__ cd_BadArrows___init__ ct_BadArrows___init__), sl_BadArrows___init__⟩)
    (cc_BadArrows___init__ : PySem.W.codeIn K cd_BadArrows___init__ "BadArrows.__init__" = true)
    (kk_BadArrows___init__ : PySem.W.keepIn K (.ref f_BadArrows___init__) = true)
    (ac_Web : PySem.W.nsIn K mainGlobals "Web" = some (some (.ref C_Web)))
    (pg_Web : PySem.W.plainGet K C_Web Str.empty = true)
    (hd_Web : PySem.W.hasDictIn K C_Web = true)
    (po_Web : PySem.W.plainOver K C_Web = true)
    (sa_Web : PySem.W.findIn K (.ref C_Web) "__setattr__" = some (some (.builtin "object.__setattr__")))
    (ac_Arrows : PySem.W.nsIn K mainGlobals "Arrows" = some (some (.ref C_Arrows)))
    (pg_Arrows : PySem.W.plainGet K C_Arrows Str.empty = true)
    (hd_Arrows : PySem.W.hasDictIn K C_Arrows = true)
    (po_Arrows : PySem.W.plainOver K C_Arrows = true)
    (sa_Arrows : PySem.W.findIn K (.ref C_Arrows) "__setattr__" = some (some (.builtin "object.__setattr__")))
    (ms_Web : PySem.W.makesIn K C_Web = true)
    (kc_Web : PySem.W.keepIn K (.ref C_Web) = true)
    (ms_Arrows : PySem.W.makesIn K C_Arrows = true)
    (kc_Arrows : PySem.W.keepIn K (.ref C_Arrows) = true)
    (na_Web_known : PySem.W.findIn K (.ref C_Web) "known" = some none)
    (na_Web_ending : PySem.W.findIn K (.ref C_Web) "ending" = some none)
    (na_Arrows_known : PySem.W.findIn K (.ref C_Arrows) "known" = some none)
    (na_Arrows_leading : PySem.W.findIn K (.ref C_Arrows) "leading" = some none)
    (ac_BadPlaces : PySem.W.nsIn K mainGlobals "BadPlaces" = some (some (.ref C_BadPlaces)))
    (lc_BadPlaces : K.lookup C_BadPlaces = some (PySem.excClassObj nm_BadPlaces qn_BadPlaces C_BadPlaces N_BadPlaces bs_BadPlaces bm_BadPlaces true sn_BadPlaces sub_BadPlaces ab_BadPlaces col_BadPlaces dd_BadPlaces ka_BadPlaces kb_BadPlaces kd_BadPlaces ke_BadPlaces kf_BadPlaces "ValueError.__new__"))
    (rv_BadPlaces : PySem.HandSPX.refsVE bm_BadPlaces = true)
    (sx_BadPlaces : PySem.W.findIn K (.ref C_BadPlaces) "__setattr__" = some (some (.builtin "object.__setattr__")))
    (be_BadPlaces : PySem.W.subIn K (.ref C_BadPlaces) (.type "BaseException") = some true)
    (tc_BadPlaces : PySem.W.typeIn K (.ref C_BadPlaces) = some (.type "type"))
    (kx_BadPlaces : PySem.W.keepIn K (.ref C_BadPlaces) = true)
    (ty_BadPlaces___init__ : PySem.W.typeIn K (.ref f_BadPlaces___init__) = some (.type "function"))
    (xn_BadPlaces_index : PySem.W.findIn K (.ref C_BadPlaces) "index" = some none)
    (ac_BadTies : PySem.W.nsIn K mainGlobals "BadTies" = some (some (.ref C_BadTies)))
    (lc_BadTies : K.lookup C_BadTies = some (PySem.excClassObj nm_BadTies qn_BadTies C_BadTies N_BadTies bs_BadTies bm_BadTies true sn_BadTies sub_BadTies ab_BadTies col_BadTies dd_BadTies ka_BadTies kb_BadTies kd_BadTies ke_BadTies kf_BadTies "ValueError.__new__"))
    (rv_BadTies : PySem.HandSPX.refsVE bm_BadTies = true)
    (sx_BadTies : PySem.W.findIn K (.ref C_BadTies) "__setattr__" = some (some (.builtin "object.__setattr__")))
    (be_BadTies : PySem.W.subIn K (.ref C_BadTies) (.type "BaseException") = some true)
    (tc_BadTies : PySem.W.typeIn K (.ref C_BadTies) = some (.type "type"))
    (kx_BadTies : PySem.W.keepIn K (.ref C_BadTies) = true)
    (ty_BadTies___init__ : PySem.W.typeIn K (.ref f_BadTies___init__) = some (.type "function"))
    (xn_BadTies_name : PySem.W.findIn K (.ref C_BadTies) "name" = some none)
    (ac_TooMany : PySem.W.nsIn K mainGlobals "TooMany" = some (some (.ref C_TooMany)))
    (lc_TooMany : K.lookup C_TooMany = some (PySem.excClassObj nm_TooMany qn_TooMany C_TooMany N_TooMany bs_TooMany bm_TooMany true sn_TooMany sub_TooMany ab_TooMany col_TooMany dd_TooMany ka_TooMany kb_TooMany kd_TooMany ke_TooMany kf_TooMany "ValueError.__new__"))
    (rv_TooMany : PySem.HandSPX.refsVE bm_TooMany = true)
    (sx_TooMany : PySem.W.findIn K (.ref C_TooMany) "__setattr__" = some (some (.builtin "object.__setattr__")))
    (be_TooMany : PySem.W.subIn K (.ref C_TooMany) (.type "BaseException") = some true)
    (tc_TooMany : PySem.W.typeIn K (.ref C_TooMany) = some (.type "type"))
    (kx_TooMany : PySem.W.keepIn K (.ref C_TooMany) = true)
    (ty_TooMany___init__ : PySem.W.typeIn K (.ref f_TooMany___init__) = some (.type "function"))
    (xn_TooMany_limit : PySem.W.findIn K (.ref C_TooMany) "limit" = some none)
    (ac_BadArrows : PySem.W.nsIn K mainGlobals "BadArrows" = some (some (.ref C_BadArrows)))
    (lc_BadArrows : K.lookup C_BadArrows = some (PySem.excClassObj nm_BadArrows qn_BadArrows C_BadArrows N_BadArrows bs_BadArrows bm_BadArrows true sn_BadArrows sub_BadArrows ab_BadArrows col_BadArrows dd_BadArrows ka_BadArrows kb_BadArrows kd_BadArrows ke_BadArrows kf_BadArrows "ValueError.__new__"))
    (rv_BadArrows : PySem.HandSPX.refsVE bm_BadArrows = true)
    (sx_BadArrows : PySem.W.findIn K (.ref C_BadArrows) "__setattr__" = some (some (.builtin "object.__setattr__")))
    (be_BadArrows : PySem.W.subIn K (.ref C_BadArrows) (.type "BaseException") = some true)
    (tc_BadArrows : PySem.W.typeIn K (.ref C_BadArrows) = some (.type "type"))
    (kx_BadArrows : PySem.W.keepIn K (.ref C_BadArrows) = true)
    (ty_BadArrows___init__ : PySem.W.typeIn K (.ref f_BadArrows___init__) = some (.type "function"))
    (xn_BadArrows_name : PySem.W.findIn K (.ref C_BadArrows) "name" = some none)
    (iB_Web_NoneType : PySem.W.kitOne K (.type "NoneType") (.ref C_Web) = some false)
    (iB_Web_bool : PySem.W.kitOne K (.type "bool") (.ref C_Web) = some false)
    (iB_Web_int : PySem.W.kitOne K (.type "int") (.ref C_Web) = some false)
    (iB_Web_str : PySem.W.kitOne K (.type "str") (.ref C_Web) = some false)
    (iB_Web_list : PySem.W.kitOne K (.type "list") (.ref C_Web) = some false)
    (iB_Web_tuple : PySem.W.kitOne K (.type "tuple") (.ref C_Web) = some false)
    (iB_Web_dict : PySem.W.kitOne K (.type "dict") (.ref C_Web) = some false)
    (iha_Web : PySem.W.findIn K (.ref C_Web) "__class__" = some (some (.builtin "object.__class__")))
    (ihn_Web : PySem.W.specialIn K (.builtin "object.__class__") "__get__" = some (some (.builtin "getset_descriptor.__get__")))
    (iht_Web : PySem.W.takesIn K (.builtin "object.__class__") = some true)
    (ihm_Web : PySem.W.mroIn K C_Web (.type "object") = some true)
    (iO_Web : PySem.W.kitOne K (.ref C_Web) (.ref C_Web) = some true)
    : ∃ fd : FuncData, (∀ (s : Shared) (v : Value), BindsTo s fd ⟨[v], []⟩ [("script", v)]) ∧ ∀ base : Heap, K.In base → base.Ns mainGlobals mg → FnOk l.prog w K mg base CX0 8 fa fd ["script"] (spLaw K) := by
  obtain ⟨z, hz_Web, hz_Arrows, hz_BadPlaces, hz_BadTies, hz_TooMany, hz_BadArrows⟩ : ∃ z : Str → Addr, C_Web = z "Web" ∧ C_Arrows = z "Arrows" ∧ C_BadPlaces = z "BadPlaces" ∧ C_BadTies = z "BadTies" ∧ C_TooMany = z "TooMany" ∧ C_BadArrows = z "BadArrows" := by
    refine ⟨fun c => if c = "Web" then C_Web else if c = "Arrows" then C_Arrows else if c = "BadPlaces" then C_BadPlaces else if c = "BadTies" then C_BadTies else if c = "TooMany" then C_TooMany else if c = "BadArrows" then C_BadArrows else 0, ?_, ?_, ?_, ?_, ?_, ?_⟩ <;> simp
  subst hz_Web hz_Arrows hz_BadPlaces hz_BadTies hz_TooMany hz_BadArrows
  have T : Tx K mg z := {
    n_isinstance := PySem.W.mg_none_of X G zn_isinstance,
    n_str := PySem.W.mg_none_of X G zn_str,
    n_len := PySem.W.mg_none_of X G zn_len,
    n_all := PySem.W.mg_none_of X G zn_all,
    n_enumerate := PySem.W.mg_none_of X G zn_enumerate,
    n_tuple := PySem.W.mg_none_of X G zn_tuple,
    n_sorted := PySem.W.mg_none_of X G zn_sorted,
    n_list := PySem.W.mg_none_of X G zn_list,
    n_dict := PySem.W.mg_none_of X G zn_dict,
    n_abs := PySem.W.mg_none_of X G zn_abs,
    n_int := PySem.W.mg_none_of X G zn_int,
    n_zip := PySem.W.mg_none_of X G zn_zip,
    n_bool := PySem.W.mg_none_of X G zn_bool,
    n_range := PySem.W.mg_none_of X G zn_range,
    n_min := PySem.W.mg_none_of X G zn_min,
    t_MOST_LETTERS := t_MOST_LETTERS,
    c_MOST_LETTERS := PySem.W.mg_of X G zc_MOST_LETTERS,
    t_LETTERS := t_LETTERS,
    c_LETTERS := PySem.W.mg_of X G zc_LETTERS,
    t_MOST_PLACES := t_MOST_PLACES,
    c_MOST_PLACES := PySem.W.mg_of X G zc_MOST_PLACES,
    t_MOST_THINGS := t_MOST_THINGS,
    c_MOST_THINGS := PySem.W.mg_of X G zc_MOST_THINGS,
    f_is_name := f_is_name,
    fd_is_name := PySem.W.fnOf "is_name" "is_name" (defArgs s_is_name) (defBody s_is_name) (defScope s_is_name) .none kV_is_name dc_is_name pm_is_name an_is_name cd_is_name ct_is_name,
    F_is_name := fun_mk (st := s_is_name) l_is_name cc_is_name kk_is_name,
    m_is_name := PySem.W.mg_of X G at_is_name,
    k_is_name := kk_is_name,
    b_is_name := (fun_mk (st := s_is_name) l_is_name cc_is_name kk_is_name).binds (ps := ["thing"]) fun _ _ _ _ _ _ us hl => match us, hl with | [_], _ => rfl,
    f_need_places := f_need_places,
    fd_need_places := PySem.W.fnOf "need_places" "need_places" (defArgs s_need_places) (defBody s_need_places) (defScope s_need_places) .none kV_need_places dc_need_places pm_need_places an_need_places cd_need_places ct_need_places,
    F_need_places := fun_mk (st := s_need_places) l_need_places cc_need_places kk_need_places,
    m_need_places := PySem.W.mg_of X G at_need_places,
    k_need_places := kk_need_places,
    b_need_places := (fun_mk (st := s_need_places) l_need_places cc_need_places kk_need_places).binds (ps := ["places"]) fun _ _ _ _ _ _ us hl => match us, hl with | [_], _ => rfl,
    f_is_pair := f_is_pair,
    fd_is_pair := PySem.W.fnOf "is_pair" "is_pair" (defArgs s_is_pair) (defBody s_is_pair) (defScope s_is_pair) .none kV_is_pair dc_is_pair pm_is_pair an_is_pair cd_is_pair ct_is_pair,
    F_is_pair := fun_mk (st := s_is_pair) l_is_pair cc_is_pair kk_is_pair,
    m_is_pair := PySem.W.mg_of X G at_is_pair,
    k_is_pair := kk_is_pair,
    b_is_pair := (fun_mk (st := s_is_pair) l_is_pair cc_is_pair kk_is_pair).binds (ps := ["known", "thing"]) fun _ _ _ _ _ _ us hl => match us, hl with | [_, _], _ => rfl,
    f_Web___init__ := f_Web___init__,
    fd_Web___init__ := PySem.W.fnOf "__init__" "Web.__init__" (defArgs s_Web___init__) (defBody s_Web___init__) (defScope s_Web___init__) .none kV_Web___init__ dc_Web___init__ pm_Web___init__ an_Web___init__ cd_Web___init__ ct_Web___init__,
    F_Web___init__ := fun_mk (st := s_Web___init__) l_Web___init__ cc_Web___init__ kk_Web___init__,
    k_Web___init__ := kk_Web___init__,
    b_Web___init__ := (fun_mk (st := s_Web___init__) l_Web___init__ cc_Web___init__ kk_Web___init__).binds (ps := ["self", "places", "ties"]) fun _ _ _ _ _ _ us hl => match us, hl with | [_, _, _], _ => rfl,
    f_Web___eq__ := f_Web___eq__,
    fd_Web___eq__ := PySem.W.fnOf "__eq__" "Web.__eq__" (defArgs s_Web___eq__) (defBody s_Web___eq__) (defScope s_Web___eq__) .none kV_Web___eq__ dc_Web___eq__ pm_Web___eq__ an_Web___eq__ cd_Web___eq__ ct_Web___eq__,
    F_Web___eq__ := fun_mk (st := s_Web___eq__) l_Web___eq__ cc_Web___eq__ kk_Web___eq__,
    k_Web___eq__ := kk_Web___eq__,
    b_Web___eq__ := (fun_mk (st := s_Web___eq__) l_Web___eq__ cc_Web___eq__ kk_Web___eq__).binds (ps := ["self", "other"]) fun _ _ _ _ _ _ us hl => match us, hl with | [_, _], _ => rfl,
    f_Arrows___init__ := f_Arrows___init__,
    fd_Arrows___init__ := PySem.W.fnOf "__init__" "Arrows.__init__" (defArgs s_Arrows___init__) (defBody s_Arrows___init__) (defScope s_Arrows___init__) .none kV_Arrows___init__ dc_Arrows___init__ pm_Arrows___init__ an_Arrows___init__ cd_Arrows___init__ ct_Arrows___init__,
    F_Arrows___init__ := fun_mk (st := s_Arrows___init__) l_Arrows___init__ cc_Arrows___init__ kk_Arrows___init__,
    k_Arrows___init__ := kk_Arrows___init__,
    b_Arrows___init__ := (fun_mk (st := s_Arrows___init__) l_Arrows___init__ cc_Arrows___init__ kk_Arrows___init__).binds (ps := ["self", "places", "arrows"]) fun _ _ _ _ _ _ us hl => match us, hl with | [_, _, _], _ => rfl,
    f_Arrows_places := f_Arrows_places,
    fd_Arrows_places := PySem.W.fnOf "places" "Arrows.places" (defArgs s_Arrows_places) (defBody s_Arrows_places) (defScope s_Arrows_places) .none kV_Arrows_places dc_Arrows_places pm_Arrows_places an_Arrows_places cd_Arrows_places ct_Arrows_places,
    F_Arrows_places := fun_mk (st := s_Arrows_places) l_Arrows_places cc_Arrows_places kk_Arrows_places,
    k_Arrows_places := kk_Arrows_places,
    b_Arrows_places := (fun_mk (st := s_Arrows_places) l_Arrows_places cc_Arrows_places kk_Arrows_places).binds (ps := ["self"]) fun _ _ _ _ _ _ us hl => match us, hl with | [_], _ => rfl,
    f_Arrows_arrows := f_Arrows_arrows,
    fd_Arrows_arrows := PySem.W.fnOf "arrows" "Arrows.arrows" (defArgs s_Arrows_arrows) (defBody s_Arrows_arrows) (defScope s_Arrows_arrows) .none kV_Arrows_arrows dc_Arrows_arrows pm_Arrows_arrows an_Arrows_arrows cd_Arrows_arrows ct_Arrows_arrows,
    F_Arrows_arrows := fun_mk (st := s_Arrows_arrows) l_Arrows_arrows cc_Arrows_arrows kk_Arrows_arrows,
    k_Arrows_arrows := kk_Arrows_arrows,
    b_Arrows_arrows := (fun_mk (st := s_Arrows_arrows) l_Arrows_arrows cc_Arrows_arrows kk_Arrows_arrows).binds (ps := ["self"]) fun _ _ _ _ _ _ us hl => match us, hl with | [_], _ => rfl,
    f_under_web := f_under_web,
    fd_under_web := PySem.W.fnOf "under_web" "under_web" (defArgs s_under_web) (defBody s_under_web) (defScope s_under_web) .none kV_under_web dc_under_web pm_under_web an_under_web cd_under_web ct_under_web,
    F_under_web := fun_mk (st := s_under_web) l_under_web cc_under_web kk_under_web,
    m_under_web := PySem.W.mg_of X G at_under_web,
    k_under_web := kk_under_web,
    b_under_web := (fun_mk (st := s_under_web) l_under_web cc_under_web kk_under_web).binds (ps := ["arrows"]) fun _ _ _ _ _ _ us hl => match us, hl with | [_], _ => rfl,
    f_is_turning := f_is_turning,
    fd_is_turning := PySem.W.fnOf "is_turning" "is_turning" (defArgs s_is_turning) (defBody s_is_turning) (defScope s_is_turning) .none kV_is_turning dc_is_turning pm_is_turning an_is_turning cd_is_turning ct_is_turning,
    F_is_turning := fun_mk (st := s_is_turning) l_is_turning cc_is_turning kk_is_turning,
    m_is_turning := PySem.W.mg_of X G at_is_turning,
    k_is_turning := kk_is_turning,
    b_is_turning := (fun_mk (st := s_is_turning) l_is_turning cc_is_turning kk_is_turning).binds (ps := ["web", "thing"]) fun _ _ _ _ _ _ us hl => match us, hl with | [_, _], _ => rfl,
    f_go_round := f_go_round,
    fd_go_round := PySem.W.fnOf "go_round" "go_round" (defArgs s_go_round) (defBody s_go_round) (defScope s_go_round) .none kV_go_round dc_go_round pm_go_round an_go_round cd_go_round ct_go_round,
    F_go_round := fun_mk (st := s_go_round) l_go_round cc_go_round kk_go_round,
    m_go_round := PySem.W.mg_of X G at_go_round,
    k_go_round := kk_go_round,
    b_go_round := (fun_mk (st := s_go_round) l_go_round cc_go_round kk_go_round).binds (ps := ["web", "start", "found"]) fun _ _ _ _ _ _ us hl => match us, hl with | [_, _, _], _ => rfl,
    f_even_turning := f_even_turning,
    fd_even_turning := PySem.W.fnOf "even_turning" "even_turning" (defArgs s_even_turning) (defBody s_even_turning) (defScope s_even_turning) .none kV_even_turning dc_even_turning pm_even_turning an_even_turning cd_even_turning ct_even_turning,
    F_even_turning := fun_mk (st := s_even_turning) l_even_turning cc_even_turning kk_even_turning,
    m_even_turning := PySem.W.mg_of X G at_even_turning,
    k_even_turning := kk_even_turning,
    b_even_turning := (fun_mk (st := s_even_turning) l_even_turning cc_even_turning kk_even_turning).binds (ps := ["web"]) fun _ _ _ _ _ _ us hl => match us, hl with | [_], _ => rfl,
    f_arrows_of := f_arrows_of,
    fd_arrows_of := PySem.W.fnOf "arrows_of" "arrows_of" (defArgs s_arrows_of) (defBody s_arrows_of) (defScope s_arrows_of) .none kV_arrows_of dc_arrows_of pm_arrows_of an_arrows_of cd_arrows_of ct_arrows_of,
    F_arrows_of := fun_mk (st := s_arrows_of) l_arrows_of cc_arrows_of kk_arrows_of,
    m_arrows_of := PySem.W.mg_of X G at_arrows_of,
    k_arrows_of := kk_arrows_of,
    b_arrows_of := (fun_mk (st := s_arrows_of) l_arrows_of cc_arrows_of kk_arrows_of).binds (ps := ["web", "turning"]) fun _ _ _ _ _ _ us hl => match us, hl with | [_, _], _ => rfl,
    f__law_hand := f__law_hand,
    fd__law_hand := PySem.W.fnOf "_law_hand" "_law_hand" (defArgs s__law_hand) (defBody s__law_hand) (defScope s__law_hand) .none kV__law_hand dc__law_hand pm__law_hand an__law_hand cd__law_hand ct__law_hand,
    F__law_hand := fun_mk (st := s__law_hand) l__law_hand cc__law_hand kk__law_hand,
    m__law_hand := PySem.W.mg_of X G at__law_hand,
    k__law_hand := kk__law_hand,
    b__law_hand := (fun_mk (st := s__law_hand) l__law_hand cc__law_hand kk__law_hand).binds (ps := ["script"]) fun _ _ _ _ _ _ us hl => match us, hl with | [_], _ => rfl,
    f__law_draw := f__law_draw,
    fd__law_draw := PySem.W.fnOf "_law_draw" "_law_draw" (defArgs s__law_draw) (defBody s__law_draw) (defScope s__law_draw) .none kV__law_draw dc__law_draw pm__law_draw an__law_draw cd__law_draw ct__law_draw,
    F__law_draw := fun_mk (st := s__law_draw) l__law_draw cc__law_draw kk__law_draw,
    m__law_draw := PySem.W.mg_of X G at__law_draw,
    k__law_draw := kk__law_draw,
    b__law_draw := (fun_mk (st := s__law_draw) l__law_draw cc__law_draw kk__law_draw).binds (ps := ["hand", "many"]) fun _ _ _ _ _ _ us hl => match us, hl with | [_, _], _ => rfl,
    f__law_some := f__law_some,
    fd__law_some := PySem.W.fnOf "_law_some" "_law_some" (defArgs s__law_some) (defBody s__law_some) (defScope s__law_some) .none kV__law_some dc__law_some pm__law_some an__law_some cd__law_some ct__law_some,
    F__law_some := fun_mk (st := s__law_some) l__law_some cc__law_some kk__law_some,
    m__law_some := PySem.W.mg_of X G at__law_some,
    k__law_some := kk__law_some,
    b__law_some := (fun_mk (st := s__law_some) l__law_some cc__law_some kk__law_some).binds (ps := ["hand", "things"]) fun _ _ _ _ _ _ us hl => match us, hl with | [_, _], _ => rfl,
    f__law_mixed := f__law_mixed,
    fd__law_mixed := PySem.W.fnOf "_law_mixed" "_law_mixed" (defArgs s__law_mixed) (defBody s__law_mixed) (defScope s__law_mixed) .none kV__law_mixed dc__law_mixed pm__law_mixed an__law_mixed cd__law_mixed ct__law_mixed,
    F__law_mixed := fun_mk (st := s__law_mixed) l__law_mixed cc__law_mixed kk__law_mixed,
    m__law_mixed := PySem.W.mg_of X G at__law_mixed,
    k__law_mixed := kk__law_mixed,
    b__law_mixed := (fun_mk (st := s__law_mixed) l__law_mixed cc__law_mixed kk__law_mixed).binds (ps := ["hand", "things"]) fun _ _ _ _ _ _ us hl => match us, hl with | [_, _], _ => rfl,
    f__law_is := f__law_is,
    fd__law_is := PySem.W.fnOf "_law_is" "_law_is" (defArgs s__law_is) (defBody s__law_is) (defScope s__law_is) .none kV__law_is dc__law_is pm__law_is an__law_is cd__law_is ct__law_is,
    F__law_is := fun_mk (st := s__law_is) l__law_is cc__law_is kk__law_is,
    m__law_is := PySem.W.mg_of X G at__law_is,
    k__law_is := kk__law_is,
    b__law_is := (fun_mk (st := s__law_is) l__law_is cc__law_is kk__law_is).binds (ps := ["said", "due"]) fun _ _ _ _ _ _ us hl => match us, hl with | [_, _], _ => rfl,
    f__law_name := f__law_name,
    fd__law_name := PySem.W.fnOf "_law_name" "_law_name" (defArgs s__law_name) (defBody s__law_name) (defScope s__law_name) .none kV__law_name dc__law_name pm__law_name an__law_name cd__law_name ct__law_name,
    F__law_name := fun_mk (st := s__law_name) l__law_name cc__law_name kk__law_name,
    m__law_name := PySem.W.mg_of X G at__law_name,
    k__law_name := kk__law_name,
    b__law_name := (fun_mk (st := s__law_name) l__law_name cc__law_name kk__law_name).binds (ps := ["hand", "taken", "base"]) fun _ _ _ _ _ _ us hl => match us, hl with | [_, _, _], _ => rfl,
    f__law_names := f__law_names,
    fd__law_names := PySem.W.fnOf "_law_names" "_law_names" (defArgs s__law_names) (defBody s__law_names) (defScope s__law_names) .none kV__law_names dc__law_names pm__law_names an__law_names cd__law_names ct__law_names,
    F__law_names := fun_mk (st := s__law_names) l__law_names cc__law_names kk__law_names,
    m__law_names := PySem.W.mg_of X G at__law_names,
    k__law_names := kk__law_names,
    b__law_names := (fun_mk (st := s__law_names) l__law_names cc__law_names kk__law_names).binds (ps := ["hand", "many"]) fun _ _ _ _ _ _ us hl => match us, hl with | [_, _], _ => rfl,
    f__law_web := f__law_web,
    fd__law_web := PySem.W.fnOf "_law_web" "_law_web" (defArgs s__law_web) (defBody s__law_web) (defScope s__law_web) .none kV__law_web dc__law_web pm__law_web an__law_web cd__law_web ct__law_web,
    F__law_web := fun_mk (st := s__law_web) l__law_web cc__law_web kk__law_web,
    m__law_web := PySem.W.mg_of X G at__law_web,
    k__law_web := kk__law_web,
    b__law_web := (fun_mk (st := s__law_web) l__law_web cc__law_web kk__law_web).binds (ps := ["hand", "most", "ties"]) fun _ _ _ _ _ _ us hl => match us, hl with | [_, _, _], _ => rfl,
    f__law_web_of := f__law_web_of,
    fd__law_web_of := PySem.W.fnOf "_law_web_of" "_law_web_of" (defArgs s__law_web_of) (defBody s__law_web_of) (defScope s__law_web_of) .none kV__law_web_of dc__law_web_of pm__law_web_of an__law_web_of cd__law_web_of ct__law_web_of,
    F__law_web_of := fun_mk (st := s__law_web_of) l__law_web_of cc__law_web_of kk__law_web_of,
    m__law_web_of := PySem.W.mg_of X G at__law_web_of,
    k__law_web_of := kk__law_web_of,
    b__law_web_of := (fun_mk (st := s__law_web_of) l__law_web_of cc__law_web_of kk__law_web_of).binds (ps := ["net"]) fun _ _ _ _ _ _ us hl => match us, hl with | [_], _ => rfl,
    f__law_is_turning := f__law_is_turning,
    fd__law_is_turning := PySem.W.fnOf "_law_is_turning" "_law_is_turning" (defArgs s__law_is_turning) (defBody s__law_is_turning) (defScope s__law_is_turning) .none kV__law_is_turning dc__law_is_turning pm__law_is_turning an__law_is_turning cd__law_is_turning ct__law_is_turning,
    F__law_is_turning := fun_mk (st := s__law_is_turning) l__law_is_turning cc__law_is_turning kk__law_is_turning,
    m__law_is_turning := PySem.W.mg_of X G at__law_is_turning,
    k__law_is_turning := kk__law_is_turning,
    b__law_is_turning := (fun_mk (st := s__law_is_turning) l__law_is_turning cc__law_is_turning kk__law_is_turning).binds (ps := ["net", "thing"]) fun _ _ _ _ _ _ us hl => match us, hl with | [_, _], _ => rfl,
    f__law_is_even := f__law_is_even,
    fd__law_is_even := PySem.W.fnOf "_law_is_even" "_law_is_even" (defArgs s__law_is_even) (defBody s__law_is_even) (defScope s__law_is_even) .none kV__law_is_even dc__law_is_even pm__law_is_even an__law_is_even cd__law_is_even ct__law_is_even,
    F__law_is_even := fun_mk (st := s__law_is_even) l__law_is_even cc__law_is_even kk__law_is_even,
    m__law_is_even := PySem.W.mg_of X G at__law_is_even,
    k__law_is_even := kk__law_is_even,
    b__law_is_even := (fun_mk (st := s__law_is_even) l__law_is_even cc__law_is_even kk__law_is_even).binds (ps := ["net", "turning"]) fun _ _ _ _ _ _ us hl => match us, hl with | [_, _], _ => rfl,
    f__law_net_right := f__law_net_right,
    fd__law_net_right := PySem.W.fnOf "_law_net_right" "_law_net_right" (defArgs s__law_net_right) (defBody s__law_net_right) (defScope s__law_net_right) .none kV__law_net_right dc__law_net_right pm__law_net_right an__law_net_right cd__law_net_right ct__law_net_right,
    F__law_net_right := fun_mk (st := s__law_net_right) l__law_net_right cc__law_net_right kk__law_net_right,
    m__law_net_right := PySem.W.mg_of X G at__law_net_right,
    k__law_net_right := kk__law_net_right,
    b__law_net_right := (fun_mk (st := s__law_net_right) l__law_net_right cc__law_net_right kk__law_net_right).binds (ps := ["net"]) fun _ _ _ _ _ _ us hl => match us, hl with | [_], _ => rfl,
    f__law_of_ways := f__law_of_ways,
    fd__law_of_ways := PySem.W.fnOf "_law_of_ways" "_law_of_ways" (defArgs s__law_of_ways) (defBody s__law_of_ways) (defScope s__law_of_ways) .none kV__law_of_ways dc__law_of_ways pm__law_of_ways an__law_of_ways cd__law_of_ways ct__law_of_ways,
    F__law_of_ways := fun_mk (st := s__law_of_ways) l__law_of_ways cc__law_of_ways kk__law_of_ways,
    m__law_of_ways := PySem.W.mg_of X G at__law_of_ways,
    k__law_of_ways := kk__law_of_ways,
    b__law_of_ways := (fun_mk (st := s__law_of_ways) l__law_of_ways cc__law_of_ways kk__law_of_ways).binds (ps := ["hand", "points", "most"]) fun _ _ _ _ _ _ us hl => match us, hl with | [_, _, _], _ => rfl,
    f__law_plain := f__law_plain,
    fd__law_plain := PySem.W.fnOf "_law_plain" "_law_plain" (defArgs s__law_plain) (defBody s__law_plain) (defScope s__law_plain) .none kV__law_plain dc__law_plain pm__law_plain an__law_plain cd__law_plain ct__law_plain,
    F__law_plain := fun_mk (st := s__law_plain) l__law_plain cc__law_plain kk__law_plain,
    m__law_plain := PySem.W.mg_of X G at__law_plain,
    k__law_plain := kk__law_plain,
    b__law_plain := (fun_mk (st := s__law_plain) l__law_plain cc__law_plain kk__law_plain).binds (ps := ["hand", "size"]) fun _ _ _ _ _ _ us hl => match us, hl with | [_, _], _ => rfl,
    f_law := f_law,
    fd_law := PySem.W.fnOf "law" "law" (defArgs s_law) (defBody s_law) (defScope s_law) .none kV_law dc_law pm_law an_law cd_law ct_law,
    F_law := fun_mk (st := s_law) l_law cc_law kk_law,
    m_law := PySem.W.mg_of X G at_law,
    k_law := kk_law,
    b_law := (fun_mk (st := s_law) l_law cc_law kk_law).binds (ps := ["script"]) fun _ _ _ _ _ _ us hl => match us, hl with | [_], _ => rfl,
    f_BadPlaces___init__ := f_BadPlaces___init__,
    fd_BadPlaces___init__ := PySem.W.fnOf "__init__" "BadPlaces.__init__" (defArgs s_BadPlaces___init__) (defBody s_BadPlaces___init__) (defScope s_BadPlaces___init__) .none kV_BadPlaces___init__ dc_BadPlaces___init__ pm_BadPlaces___init__ an_BadPlaces___init__ cd_BadPlaces___init__ ct_BadPlaces___init__,
    F_BadPlaces___init__ := fun_mk (st := s_BadPlaces___init__) l_BadPlaces___init__ cc_BadPlaces___init__ kk_BadPlaces___init__,
    k_BadPlaces___init__ := kk_BadPlaces___init__,
    b_BadPlaces___init__ := (fun_mk (st := s_BadPlaces___init__) l_BadPlaces___init__ cc_BadPlaces___init__ kk_BadPlaces___init__).binds (ps := ["self", "index"]) fun _ _ _ _ _ _ us hl => match us, hl with | [_, _], _ => rfl,
    f_BadTies___init__ := f_BadTies___init__,
    fd_BadTies___init__ := PySem.W.fnOf "__init__" "BadTies.__init__" (defArgs s_BadTies___init__) (defBody s_BadTies___init__) (defScope s_BadTies___init__) .none kV_BadTies___init__ dc_BadTies___init__ pm_BadTies___init__ an_BadTies___init__ cd_BadTies___init__ ct_BadTies___init__,
    F_BadTies___init__ := fun_mk (st := s_BadTies___init__) l_BadTies___init__ cc_BadTies___init__ kk_BadTies___init__,
    k_BadTies___init__ := kk_BadTies___init__,
    b_BadTies___init__ := (fun_mk (st := s_BadTies___init__) l_BadTies___init__ cc_BadTies___init__ kk_BadTies___init__).binds (ps := ["self", "name"]) fun _ _ _ _ _ _ us hl => match us, hl with | [_, _], _ => rfl,
    f_TooMany___init__ := f_TooMany___init__,
    fd_TooMany___init__ := PySem.W.fnOf "__init__" "TooMany.__init__" (defArgs s_TooMany___init__) (defBody s_TooMany___init__) (defScope s_TooMany___init__) .none kV_TooMany___init__ dc_TooMany___init__ pm_TooMany___init__ an_TooMany___init__ cd_TooMany___init__ ct_TooMany___init__,
    F_TooMany___init__ := fun_mk (st := s_TooMany___init__) l_TooMany___init__ cc_TooMany___init__ kk_TooMany___init__,
    k_TooMany___init__ := kk_TooMany___init__,
    b_TooMany___init__ := (fun_mk (st := s_TooMany___init__) l_TooMany___init__ cc_TooMany___init__ kk_TooMany___init__).binds (ps := ["self", "limit"]) fun _ _ _ _ _ _ us hl => match us, hl with | [_, _], _ => rfl,
    f_BadArrows___init__ := f_BadArrows___init__,
    fd_BadArrows___init__ := PySem.W.fnOf "__init__" "BadArrows.__init__" (defArgs s_BadArrows___init__) (defBody s_BadArrows___init__) (defScope s_BadArrows___init__) .none kV_BadArrows___init__ dc_BadArrows___init__ pm_BadArrows___init__ an_BadArrows___init__ cd_BadArrows___init__ ct_BadArrows___init__,
    F_BadArrows___init__ := fun_mk (st := s_BadArrows___init__) l_BadArrows___init__ cc_BadArrows___init__ kk_BadArrows___init__,
    k_BadArrows___init__ := kk_BadArrows___init__,
    b_BadArrows___init__ := (fun_mk (st := s_BadArrows___init__) l_BadArrows___init__ cc_BadArrows___init__ kk_BadArrows___init__).binds (ps := ["self", "name"]) fun _ _ _ _ _ _ us hl => match us, hl with | [_, _], _ => rfl,
    mc_Web := PySem.W.mg_of X G ac_Web,
    cl_Web := ⟨pg_Web, hd_Web, po_Web, sa_Web⟩,
    mc_Arrows := PySem.W.mg_of X G ac_Arrows,
    cl_Arrows := ⟨pg_Arrows, hd_Arrows, po_Arrows, sa_Arrows⟩,
    mk_Web := ⟨ms_Web, at_Web___init__, ii_Web___init__, kc_Web⟩,
    mk_Arrows := ⟨ms_Arrows, at_Arrows___init__, ii_Arrows___init__, kc_Arrows⟩,
    nf_Web_known := na_Web_known,
    nf_Web_ending := na_Web_ending,
    nf_Arrows_known := na_Arrows_known,
    nf_Arrows_leading := na_Arrows_leading,
    me_Arrows_arrows := ⟨at_Arrows_arrows, ii_Arrows_arrows, kk_Arrows_arrows⟩,
    me_Arrows_places := ⟨at_Arrows_places, ii_Arrows_places, kk_Arrows_places⟩,
    me_Web___eq__ := ⟨at_Web___eq__, ii_Web___eq__, kk_Web___eq__⟩,
    mc_BadPlaces := PySem.W.mg_of X G ac_BadPlaces,
    ox_BadPlaces := ⟨⟨_, _, _, _, _, _, _, _, _, _, _, _, _, _, _, lc_BadPlaces, rv_BadPlaces⟩, sx_BadPlaces, be_BadPlaces, tc_BadPlaces, kx_BadPlaces⟩,
    xi_BadPlaces := at_BadPlaces___init__,
    xt_BadPlaces := ty_BadPlaces___init__,
    xn_BadPlaces_index := xn_BadPlaces_index,
    mc_BadTies := PySem.W.mg_of X G ac_BadTies,
    ox_BadTies := ⟨⟨_, _, _, _, _, _, _, _, _, _, _, _, _, _, _, lc_BadTies, rv_BadTies⟩, sx_BadTies, be_BadTies, tc_BadTies, kx_BadTies⟩,
    xi_BadTies := at_BadTies___init__,
    xt_BadTies := ty_BadTies___init__,
    xn_BadTies_name := xn_BadTies_name,
    mc_TooMany := PySem.W.mg_of X G ac_TooMany,
    ox_TooMany := ⟨⟨_, _, _, _, _, _, _, _, _, _, _, _, _, _, _, lc_TooMany, rv_TooMany⟩, sx_TooMany, be_TooMany, tc_TooMany, kx_TooMany⟩,
    xi_TooMany := at_TooMany___init__,
    xt_TooMany := ty_TooMany___init__,
    xn_TooMany_limit := xn_TooMany_limit,
    mc_BadArrows := PySem.W.mg_of X G ac_BadArrows,
    ox_BadArrows := ⟨⟨_, _, _, _, _, _, _, _, _, _, _, _, _, _, _, lc_BadArrows, rv_BadArrows⟩, sx_BadArrows, be_BadArrows, tc_BadArrows, kx_BadArrows⟩,
    xi_BadArrows := at_BadArrows___init__,
    xt_BadArrows := ty_BadArrows___init__,
    xn_BadArrows_name := xn_BadArrows_name,
    is_Web_B := (fun t ht => by simp only [tyNames, List.mem_cons, List.mem_nil_iff, or_false] at ht; rcases ht with rfl | rfl | rfl | rfl | rfl | rfl | rfl; exact iB_Web_NoneType; exact iB_Web_bool; exact iB_Web_int; exact iB_Web_str; exact iB_Web_list; exact iB_Web_tuple; exact iB_Web_dict),
    is_Web_O := (fun c b h => look_all (l := iol_Web) (P := fun n b => InsF K (z n) ∧ PySem.W.kitOne K (.ref (z n)) (.ref (z "Web")) = some b) (And.intro (And.intro ⟨⟨pg_Web, hd_Web, po_Web, sa_Web⟩, iha_Web, ihn_Web, iht_Web, ihm_Web⟩ iO_Web) trivial) h),
    bt_law := fun s v => .of_eq rfl
  }
  have e := hfa.symm.trans T.m_law
  cases e
  exact ⟨T.fd_law, T.bt_law, fun base _ _ => law_ok (fun sc => F_law T) hf⟩
end K42
open PySem PySem.W PyProof.Rows
set_option maxRecDepth 100000 in
set_option maxHeartbeats 0 in
theorem PySem.Challenge.cw_freerealm_k42_even_turnings_and_arrows_o_holds : PySem.Challenge.rw_freerealm_k42_even_turnings_and_arrows_o.Holds := by
  w_on; o_law; k_head; (case hw => w_witness2)
  k_fill
  refine Vm.walk (l := PySem.Challenge.rw_freerealm_k42_even_turnings_and_arrows_o) 8 ⟨rfl, by decide, by decide⟩ rfl rfl (fun w h Y => PySem.W.kIn_of Y) ?F
  case F =>
    intro w mg fa h KX G hmg
    refine' K42.all_mk K42.law_true KX G hmg ?zn_isinstance ?zn_str ?zn_len ?zn_all ?zn_enumerate ?zn_tuple ?zn_sorted ?zn_list ?zn_dict ?zn_abs ?zn_int ?zn_zip ?zn_bool ?zn_range ?zn_min ?zc_MOST_LETTERS ?zc_LETTERS ?zc_MOST_PLACES ?zc_MOST_THINGS ?at_is_name ?l_is_name ?cc_is_name ?kk_is_name ?at_need_places ?l_need_places ?cc_need_places ?kk_need_places ?at_is_pair ?l_is_pair ?cc_is_pair ?kk_is_pair ?at_Web___init__ ?ii_Web___init__ ?l_Web___init__ ?cc_Web___init__ ?kk_Web___init__ ?at_Web___eq__ ?ii_Web___eq__ ?l_Web___eq__ ?cc_Web___eq__ ?kk_Web___eq__ ?at_Arrows___init__ ?ii_Arrows___init__ ?l_Arrows___init__ ?cc_Arrows___init__ ?kk_Arrows___init__ ?at_Arrows_places ?ii_Arrows_places ?l_Arrows_places ?cc_Arrows_places ?kk_Arrows_places ?at_Arrows_arrows ?ii_Arrows_arrows ?l_Arrows_arrows ?cc_Arrows_arrows ?kk_Arrows_arrows ?at_under_web ?l_under_web ?cc_under_web ?kk_under_web ?at_is_turning ?l_is_turning ?cc_is_turning ?kk_is_turning ?at_go_round ?l_go_round ?cc_go_round ?kk_go_round ?at_even_turning ?l_even_turning ?cc_even_turning ?kk_even_turning ?at_arrows_of ?l_arrows_of ?cc_arrows_of ?kk_arrows_of ?at__law_hand ?l__law_hand ?cc__law_hand ?kk__law_hand ?at__law_draw ?l__law_draw ?cc__law_draw ?kk__law_draw ?at__law_some ?l__law_some ?cc__law_some ?kk__law_some ?at__law_mixed ?l__law_mixed ?cc__law_mixed ?kk__law_mixed ?at__law_is ?l__law_is ?cc__law_is ?kk__law_is ?at__law_name ?l__law_name ?cc__law_name ?kk__law_name ?at__law_names ?l__law_names ?cc__law_names ?kk__law_names ?at__law_web ?l__law_web ?cc__law_web ?kk__law_web ?at__law_web_of ?l__law_web_of ?cc__law_web_of ?kk__law_web_of ?at__law_is_turning ?l__law_is_turning ?cc__law_is_turning ?kk__law_is_turning ?at__law_is_even ?l__law_is_even ?cc__law_is_even ?kk__law_is_even ?at__law_net_right ?l__law_net_right ?cc__law_net_right ?kk__law_net_right ?at__law_of_ways ?l__law_of_ways ?cc__law_of_ways ?kk__law_of_ways ?at__law_plain ?l__law_plain ?cc__law_plain ?kk__law_plain ?at_law ?l_law ?cc_law ?kk_law ?at_BadPlaces___init__ ?ii_BadPlaces___init__ ?l_BadPlaces___init__ ?cc_BadPlaces___init__ ?kk_BadPlaces___init__ ?at_BadTies___init__ ?ii_BadTies___init__ ?l_BadTies___init__ ?cc_BadTies___init__ ?kk_BadTies___init__ ?at_TooMany___init__ ?ii_TooMany___init__ ?l_TooMany___init__ ?cc_TooMany___init__ ?kk_TooMany___init__ ?at_BadArrows___init__ ?ii_BadArrows___init__ ?l_BadArrows___init__ ?cc_BadArrows___init__ ?kk_BadArrows___init__ ?ac_Web ?pg_Web ?hd_Web ?po_Web ?sa_Web ?ac_Arrows ?pg_Arrows ?hd_Arrows ?po_Arrows ?sa_Arrows ?ms_Web ?kc_Web ?ms_Arrows ?kc_Arrows ?na_Web_known ?na_Web_ending ?na_Arrows_known ?na_Arrows_leading ?ac_BadPlaces ?lc_BadPlaces ?rv_BadPlaces ?sx_BadPlaces ?be_BadPlaces ?tc_BadPlaces ?kx_BadPlaces ?ty_BadPlaces___init__ ?xn_BadPlaces_index ?ac_BadTies ?lc_BadTies ?rv_BadTies ?sx_BadTies ?be_BadTies ?tc_BadTies ?kx_BadTies ?ty_BadTies___init__ ?xn_BadTies_name ?ac_TooMany ?lc_TooMany ?rv_TooMany ?sx_TooMany ?be_TooMany ?tc_TooMany ?kx_TooMany ?ty_TooMany___init__ ?xn_TooMany_limit ?ac_BadArrows ?lc_BadArrows ?rv_BadArrows ?sx_BadArrows ?be_BadArrows ?tc_BadArrows ?kx_BadArrows ?ty_BadArrows___init__ ?xn_BadArrows_name ?iB_Web_NoneType ?iB_Web_bool ?iB_Web_int ?iB_Web_str ?iB_Web_list ?iB_Web_tuple ?iB_Web_dict ?iha_Web ?ihn_Web ?iht_Web ?ihm_Web ?iO_Web
    (case ac_Web => k_is); (case ac_Arrows => k_is); (case ac_BadPlaces => k_is); (case ac_BadTies => k_is); (case ac_TooMany => k_is); (case ac_BadArrows => k_is)
    (case zn_isinstance => k_is); (case zn_str => k_is); (case zn_len => k_is); (case zn_all => k_is); (case zn_enumerate => k_is); (case zn_tuple => k_is)
    (case zn_sorted => k_is); (case zn_list => k_is); (case zn_dict => k_is); (case zn_abs => k_is); (case zn_int => k_is); (case zn_zip => k_is)
    (case zn_bool => k_is); (case zn_range => k_is); (case zn_min => k_is); (case zc_MOST_LETTERS => k_is); (case zc_LETTERS => k_is); (case zc_MOST_PLACES => k_is)
    (case zc_MOST_THINGS => k_is); (case at_is_name => k_is); (case l_is_name => k_is); (case cc_is_name => k_is); (case kk_is_name => k_is); (case at_need_places => k_is)
    (case l_need_places => k_is); (case cc_need_places => k_is); (case kk_need_places => k_is); (case at_is_pair => k_is); (case l_is_pair => k_is); (case cc_is_pair => k_is)
    (case kk_is_pair => k_is); (case at_Web___init__ => k_is); (case ii_Web___init__ => k_is); (case l_Web___init__ => k_is); (case cc_Web___init__ => k_is); (case kk_Web___init__ => k_is)
    (case at_Web___eq__ => k_is); (case ii_Web___eq__ => k_is); (case l_Web___eq__ => k_is); (case cc_Web___eq__ => k_is); (case kk_Web___eq__ => k_is); (case at_Arrows___init__ => k_is)
    (case ii_Arrows___init__ => k_is); (case l_Arrows___init__ => k_is); (case cc_Arrows___init__ => k_is); (case kk_Arrows___init__ => k_is); (case at_Arrows_places => k_is); (case ii_Arrows_places => k_is)
    (case l_Arrows_places => k_is); (case cc_Arrows_places => k_is); (case kk_Arrows_places => k_is); (case at_Arrows_arrows => k_is); (case ii_Arrows_arrows => k_is); (case l_Arrows_arrows => k_is)
    (case cc_Arrows_arrows => k_is); (case kk_Arrows_arrows => k_is); (case at_under_web => k_is); (case l_under_web => k_is); (case cc_under_web => k_is); (case kk_under_web => k_is)
    (case at_is_turning => k_is); (case l_is_turning => k_is); (case cc_is_turning => k_is); (case kk_is_turning => k_is); (case at_go_round => k_is); (case l_go_round => k_is)
    (case cc_go_round => k_is); (case kk_go_round => k_is); (case at_even_turning => k_is); (case l_even_turning => k_is); (case cc_even_turning => k_is); (case kk_even_turning => k_is)
    (case at_arrows_of => k_is); (case l_arrows_of => k_is); (case cc_arrows_of => k_is); (case kk_arrows_of => k_is); (case at__law_hand => k_is); (case l__law_hand => k_is)
    (case cc__law_hand => k_is); (case kk__law_hand => k_is); (case at__law_draw => k_is); (case l__law_draw => k_is); (case cc__law_draw => k_is); (case kk__law_draw => k_is)
    (case at__law_some => k_is); (case l__law_some => k_is); (case cc__law_some => k_is); (case kk__law_some => k_is); (case at__law_mixed => k_is); (case l__law_mixed => k_is)
    (case cc__law_mixed => k_is); (case kk__law_mixed => k_is); (case at__law_is => k_is); (case l__law_is => k_is); (case cc__law_is => k_is); (case kk__law_is => k_is)
    (case at__law_name => k_is); (case l__law_name => k_is); (case cc__law_name => k_is); (case kk__law_name => k_is); (case at__law_names => k_is); (case l__law_names => k_is)
    (case cc__law_names => k_is); (case kk__law_names => k_is); (case at__law_web => k_is); (case l__law_web => k_is); (case cc__law_web => k_is); (case kk__law_web => k_is)
    (case at__law_web_of => k_is); (case l__law_web_of => k_is); (case cc__law_web_of => k_is); (case kk__law_web_of => k_is); (case at__law_is_turning => k_is); (case l__law_is_turning => k_is)
    (case cc__law_is_turning => k_is); (case kk__law_is_turning => k_is); (case at__law_is_even => k_is); (case l__law_is_even => k_is); (case cc__law_is_even => k_is); (case kk__law_is_even => k_is)
    (case at__law_net_right => k_is); (case l__law_net_right => k_is); (case cc__law_net_right => k_is); (case kk__law_net_right => k_is); (case at__law_of_ways => k_is); (case l__law_of_ways => k_is)
    (case cc__law_of_ways => k_is); (case kk__law_of_ways => k_is); (case at__law_plain => k_is); (case l__law_plain => k_is); (case cc__law_plain => k_is); (case kk__law_plain => k_is)
    (case at_law => k_is); (case l_law => k_is); (case cc_law => k_is); (case kk_law => k_is); (case at_BadPlaces___init__ => k_is); (case ii_BadPlaces___init__ => k_is)
    (case l_BadPlaces___init__ => k_is); (case cc_BadPlaces___init__ => k_is); (case kk_BadPlaces___init__ => k_is); (case at_BadTies___init__ => k_is); (case ii_BadTies___init__ => k_is); (case l_BadTies___init__ => k_is)
    (case cc_BadTies___init__ => k_is); (case kk_BadTies___init__ => k_is); (case at_TooMany___init__ => k_is); (case ii_TooMany___init__ => k_is); (case l_TooMany___init__ => k_is); (case cc_TooMany___init__ => k_is)
    (case kk_TooMany___init__ => k_is); (case at_BadArrows___init__ => k_is); (case ii_BadArrows___init__ => k_is); (case l_BadArrows___init__ => k_is); (case cc_BadArrows___init__ => k_is); (case kk_BadArrows___init__ => k_is)
    (case pg_Web => k_is); (case hd_Web => k_is); (case po_Web => k_is); (case sa_Web => k_is); (case pg_Arrows => k_is); (case hd_Arrows => k_is)
    (case po_Arrows => k_is); (case sa_Arrows => k_is); (case ms_Web => k_is); (case kc_Web => k_is); (case ms_Arrows => k_is); (case kc_Arrows => k_is)
    (case na_Web_known => k_is); (case na_Web_ending => k_is); (case na_Arrows_known => k_is); (case na_Arrows_leading => k_is); (case lc_BadPlaces => k_is); (case rv_BadPlaces => rfl)
    (case sx_BadPlaces => k_is); (case be_BadPlaces => k_is); (case tc_BadPlaces => k_is); (case kx_BadPlaces => k_is); (case ty_BadPlaces___init__ => k_is); (case xn_BadPlaces_index => k_is)
    (case lc_BadTies => k_is); (case rv_BadTies => rfl); (case sx_BadTies => k_is); (case be_BadTies => k_is); (case tc_BadTies => k_is); (case kx_BadTies => k_is)
    (case ty_BadTies___init__ => k_is); (case xn_BadTies_name => k_is); (case lc_TooMany => k_is); (case rv_TooMany => rfl); (case sx_TooMany => k_is); (case be_TooMany => k_is)
    (case tc_TooMany => k_is); (case kx_TooMany => k_is); (case ty_TooMany___init__ => k_is); (case xn_TooMany_limit => k_is); (case lc_BadArrows => k_is); (case rv_BadArrows => rfl)
    (case sx_BadArrows => k_is); (case be_BadArrows => k_is); (case tc_BadArrows => k_is); (case kx_BadArrows => k_is); (case ty_BadArrows___init__ => k_is); (case xn_BadArrows_name => k_is)
    (case iB_Web_NoneType => kit_is); (case iB_Web_bool => kit_is); (case iB_Web_int => kit_is); (case iB_Web_str => kit_is); (case iB_Web_list => kit_is); (case iB_Web_tuple => kit_is)
    (case iB_Web_dict => kit_is); (case iha_Web => k_is); (case ihn_Web => k_is); (case iht_Web => k_is); (case ihm_Web => k_is); (case iO_Web => kit_is)

