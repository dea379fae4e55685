import PyProof.Rows.All
import Wide.All
import OpenK.AllK
import Wide.FinOn
import HandS.ForMost
import HandS.ForExc
import HandS.Deep
import HandS.TupAny
import HandS.TupMul
import HandS.Text
import PySem.Challenge.RW_latewater_k03_feeds_and_marks
import KE.DatumMore
set_option Elab.async false
set_option linter.all false
set_option maxRecDepth 100000
set_option maxHeartbeats 4000000
/-! B: readings told of data. A slot holds data (dat: it stands in the still part S and never changes), a list of the def's own (own: nobody else knows it), or a caller's list that is only read (bor). -/
namespace B
open PySem L2

abbrev D := PyData
/-- between two lines; nothing evaluates it -/
def Lines (lo hi j : Int) : Prop := lo < j ∧ j < hi
noncomputable instance (lo hi j : Int) : Decidable (Lines lo hi j) := Classical.propDecidable _
abbrev Rho := List (Option D)

inductive Res (W α : Type) where
  | ok (a : α) (w : W)
  | exc (c : String) (fs : List (Str × D)) (w : W)
  | stuck

abbrev M (W α : Type) := W → Res W α

section
variable {W α β : Type}
def ret (a : α) : M W α := fun w => .ok a w
def stk : M W α := fun _ => .stuck
def bnd (x : M W α) (f : α → M W β) : M W β := fun w => match x w with
  | .ok a w' => f a w'
  | .exc c fs w' => .exc c fs w'
  | .stuck => .stuck
@[simp] theorem bnd_ret (a : α) (f : α → M W β) : bnd (ret a) f = f a := rfl
@[simp] theorem bnd_stk (f : α → M W β) : bnd (stk : M W α) f = stk := rfl
theorem bnd_ok {x : M W α} {f : α → M W β} {w w' : W} {a : α} (h : x w = .ok a w') : bnd x f w = f a w' := by unfold bnd; rw [h]
theorem bnd_exc {x : M W α} {f : α → M W β} {w w' : W} {c : String} {fs : List (Str × D)} (h : x w = .exc c fs w') : bnd x f w = .exc c fs w' := by unfold bnd; rw [h]
theorem bnd_bnd {γ : Type} (x : M W α) (f : α → M W β) (g : β → M W γ) : bnd (bnd x f) g = bnd x fun a => bnd (f a) g := by
  funext w
  show (match (match x w with | .ok a w' => f a w' | .exc c fs w' => .exc c fs w' | .stuck => .stuck) with | .ok a w' => g a w' | .exc c fs w' => .exc c fs w' | .stuck => .stuck) = (match x w with | .ok a w' => bnd (f a) g w' | .exc c fs w' => .exc c fs w' | .stuck => .stuck)
  cases x w <;> rfl
theorem bnd_stuck {x : M W α} {f : α → M W β} {w : W} (h : x w = .stuck) : bnd x f w = .stuck := by unfold bnd; rw [h]
end

abbrev ME (W : Type) := Rho → M W D

/-- the things that a def shares with its callers and may change (the law's draws) -/
structure Rs (W : Type) where
  root : Addr
  ok : W → Hp → Prop
  fp : W → Addr → Prop
  loc : ∀ w H H', ok w H → (∀ a, fp w a → H' a = H a) → ok w H'
  dom : ∀ w H a, ok w H → fp w a → H a ≠ none

inductive Kd where
  | dat | own | bor | res
  deriving DecidableEq

mutual
/-- the value v is the datum d, all of it in the still part S (or written) -/
inductive DV (K : PySem.W.Frag) (S : Hp) : V → PyData → Prop
  | non : DV K S .non .none
  | bl (b : Bool) : DV K S (.bl b) (.bool b)
  | int (i : Int) : DV K S (.int i) (.int i)
  | str (x : Str) : DV K S (.str x) (.str x)
  | lst {a : Addr} {xs : List V} {ds : List PyData} : S a = some (.lst xs) → DVs K S xs ds → DV K S (.ref a) (.list ds)
  | tup {a : Addr} {xs : List V} {ds : List PyData} : SqT K S a xs → DVs K S xs ds → DV K S (.ref a) (.tuple ds)
inductive DVs (K : PySem.W.Frag) (S : Hp) : List V → List PyData → Prop
  | nil : DVs K S [] []
  | cons {v : V} {vs : List V} {d : PyData} {ds : List PyData} : DV K S v d → DVs K S vs ds → DVs K S (v :: vs) (d :: ds)
end

section
variable (K : PySem.W.Frag) {W : Type} (R : Rs W)

/-- what a list of one's own holds -/
def OwnRep (S : Hp) : HO → D → Prop
  | .lst vs, .list ds => DVs K S vs ds
  | _, _ => False

/-- what is so since the def was entered (H0, its still part S0, the shared things w0) -/
structure Out (S0 H0 : Hp) (w0 : W) (S H : Hp) (w : W) : Prop where
  sub : ∀ a o, S a = some o → H a = some o
  sub0 : ∀ a o, S0 a = some o → S a = some o
  new : ∀ a, S a ≠ none → S0 a = none → H0 a = none
  keep : ∀ a o, H0 a = some o → ¬ R.fp w0 a → H a = some o
  stay : ∀ a, H0 a ≠ none → H a ≠ none
  res : R.ok w H
  resS : ∀ a, R.fp w a → S a = none
  resN : ∀ a, R.fp w a → ¬ R.fp w0 a → H0 a = none

def kd (κ : List Kd) (i : Nat) : Kd := κ.getD i .dat

/-- a slot's value -/
def SlotOk (S0 H0 : Hp) (w0 : W) (S H : Hp) (w : W) (p : Addr) : Kd → V → D → Prop
  | .dat, v, d => DV K S v d
  | .own, v, d => v = .ref p ∧ S p = none ∧ H0 p = none ∧ ¬ R.fp w p ∧ ∃ ho, H p = some ho ∧ OwnRep K S ho d
  | .bor, v, d => ∃ q ho, v = .ref q ∧ H0 q = some ho ∧ ¬ R.fp w0 q ∧ OwnRep K S ho d
  | .res, v, d => v = .ref R.root ∧ d = .none

structure RelA (κ : List Kd) (oa : Nat → Addr) (S0 H0 : Hp) (w0 : W) (S H : Hp) (σ : St) (ρ : Rho) (w : W) : Prop where
  out : Out R S0 H0 w0 S H w
  len : ρ.length = σ.length
  slot : ∀ i d, ρ[i]? = some (some d) → ∃ v, σ[i]? = some (some v) ∧ SlotOk K R S0 H0 w0 S H w (oa i) (kd κ i) v d
  inj : ∀ i j d e, ρ[i]? = some (some d) → ρ[j]? = some (some e) → kd κ i = .own → kd κ j = .own → oa i = oa j → i = j

def Rel (κ : List Kd) (S0 H0 : Hp) (w0 : W) (S H : Hp) (σ : St) (ρ : Rho) (w : W) : Prop := ∃ oa, RelA K R κ oa S0 H0 w0 S H σ ρ w

/-- what an expression hands on -/
def ResOk (κ : List Kd) (S0 H0 : Hp) (w0 : W) (S H : Hp) (σ : St) (ρ : Rho) (w : W) : Kd → V → D → Prop
  | .dat, v, d => DV K S v d
  | .own, v, d => ∃ p ho, v = .ref p ∧ S p = none ∧ H0 p = none ∧ ¬ R.fp w p ∧ H p = some ho ∧ OwnRep K S ho d ∧ ∀ i e, ρ[i]? = some (some e) → kd κ i = .own → σ[i]? ≠ some (some (.ref p))
  | .bor, v, d => ∃ i, ρ[i]? = some (some d) ∧ σ[i]? = some (some v) ∧ (kd κ i = .own ∨ kd κ i = .bor)
  | .res, v, d => v = .ref R.root ∧ d = .none

structure Cl where
  wx : WX
  cn : String → Value → Prop

/-- an exception as the handler meets it -/
def XOk (S H : Hp) (dd : Addr) (fs : List (Str × D)) : Prop := ∃ vs : List (Str × V), H dd = some (.xd vs) ∧ ∀ f, match fs.lookup f with
  | some d => ∃ v, vs.lookup f = some v ∧ DV K S v d
  | none => vs.lookup f = none

variable (C : Cl)

def PostE (κ : List Kd) (S0 H0 : Hp) (w0 : W) (S : Hp) (σ : St) (ρ : Rho) (rk : Kd) (Q : VK) : Res W D → Prop
  | .ok d w' => ∀ v S' H', Rel K R κ S0 H0 w0 S' H' σ ρ w' → (∀ a o, S a = some o → S' a = some o) → ResOk K R κ S0 H0 w0 S' H' σ ρ w' rk v d → Q v H'
  | .exc c fs w' => ∀ cls dd S' H', Rel K R κ S0 H0 w0 S' H' σ ρ w' → C.cn c cls → XOk K S' H' dd fs → C.wx cls (some dd) σ H'
  | .stuck => False

def OkE (κ : List Kd) (t : TE) (rk : Kd) (m : ME W) : Prop :=
  ∀ S0 H0 w0 S H σ ρ w Q, Rel K R κ S0 H0 w0 S H σ ρ w → PostE K R C κ S0 H0 w0 S σ ρ rk Q (m ρ w) → t σ H Q

def PostT (κ : List Kd) (S0 H0 : Hp) (w0 : W) (S : Hp) (σ : St) (ρ : Rho) (Q : Bool → Hp → Prop) : Res W Bool → Prop
  | .ok b w' => ∀ S' H', Rel K R κ S0 H0 w0 S' H' σ ρ w' → (∀ a o, S a = some o → S' a = some o) → Q b H'
  | .exc c fs w' => ∀ cls dd S' H', Rel K R κ S0 H0 w0 S' H' σ ρ w' → C.cn c cls → XOk K S' H' dd fs → C.wx cls (some dd) σ H'
  | .stuck => False
def OkT (κ : List Kd) (t : TT) (m : Rho → M W Bool) : Prop :=
  ∀ S0 H0 w0 S H σ ρ w Q, Rel K R κ S0 H0 w0 S H σ ρ w → PostT K R C κ S0 H0 w0 S σ ρ Q (m ρ w) → t σ H Q

/-- arguments: each with its kind -/
inductive ResAll (κ : List Kd) (S0 H0 : Hp) (w0 : W) (S H : Hp) (σ : St) (ρ : Rho) (w : W) : List Kd → List V → List D → Prop
  | nil : ResAll κ S0 H0 w0 S H σ ρ w [] [] []
  | cons {k ks v vs d ds} : ResOk K R κ S0 H0 w0 S H σ ρ w k v d → ResAll κ S0 H0 w0 S H σ ρ w ks vs ds → ResAll κ S0 H0 w0 S H σ ρ w (k :: ks) (v :: vs) (d :: ds)
def PostA (κ : List Kd) (S0 H0 : Hp) (w0 : W) (S : Hp) (σ : St) (ρ : Rho) (ks : List Kd) (Q : List V → Hp → Prop) : Res W (List D) → Prop
  | .ok ds w' => ∀ vs S' H', Rel K R κ S0 H0 w0 S' H' σ ρ w' → (∀ a o, S a = some o → S' a = some o) → ResAll K R κ S0 H0 w0 S' H' σ ρ w' ks vs ds → Q vs H'
  | .exc c fs w' => ∀ cls dd S' H', Rel K R κ S0 H0 w0 S' H' σ ρ w' → C.cn c cls → XOk K S' H' dd fs → C.wx cls (some dd) σ H'
  | .stuck => False
def OkA (κ : List Kd) (t : TA) (ks : List Kd) (m : Rho → M W (List D)) : Prop :=
  ∀ S0 H0 w0 S H σ ρ w Q, Rel K R κ S0 H0 w0 S H σ ρ w → PostA K R C κ S0 H0 w0 S σ ρ ks Q (m ρ w) → t σ H Q

/-- statements -/
inductive O where
  | nx (ρ : Rho) | rt (d : D) | bk (ρ : Rho) | ct (ρ : Rho)
abbrev MS (W : Type) := Rho → M W O

def RetOk (H0 S H : Hp) (w : W) : Kd → V → D → Prop
  | .dat, v, d => DV K S v d
  | .own, v, d => ∃ p ho, v = .ref p ∧ S p = none ∧ H0 p = none ∧ ¬ R.fp w p ∧ H p = some ho ∧ OwnRep K S ho d
  | .bor, _, _ => False
  | .res, _, _ => False

def PostS (κn κb κc : List Kd) (rk : Kd) (S0 H0 : Hp) (w0 : W) (S : Hp) (E : Ends) : Res W O → Prop
  | .ok (.nx ρ') w' => ∀ σ' S' H', Rel K R κn S0 H0 w0 S' H' σ' ρ' w' → (∀ a o, S a = some o → S' a = some o) → E.nx σ' H'
  | .ok (.rt d) w' => ∀ v S' H', Out R S0 H0 w0 S' H' w' → RetOk K R H0 S' H' w' rk v d → E.rt v H'
  | .ok (.bk ρ') w' => ∀ σ' S' H', Rel K R κb S0 H0 w0 S' H' σ' ρ' w' → (∀ a o, S a = some o → S' a = some o) → E.bk σ' H'
  | .ok (.ct ρ') w' => ∀ σ' S' H', Rel K R κc S0 H0 w0 S' H' σ' ρ' w' → (∀ a o, S a = some o → S' a = some o) → E.ct σ' H'
  | .exc c fs w' => ∀ cls dd σ' S' H', Out R S0 H0 w0 S' H' w' → C.cn c cls → XOk K S' H' dd fs → C.wx cls (some dd) σ' H'
  | .stuck => False
def OkS (κb κc : List Kd) (rk : Kd) (κ : List Kd) (t : TS) (m : MS W) (κn : List Kd) : Prop :=
  ∀ S0 H0 w0 S H σ ρ w E, Rel K R κ S0 H0 w0 S H σ ρ w → PostS K R C κn κb κc rk S0 H0 w0 S E (m ρ w) → t E σ H
end
end B

namespace B
open PySem L2

section
variable {K : PySem.W.Frag} {W : Type} {R : Rs W}

mutual
theorem dp_mono {S S' : Hp} (e : ∀ a o, S a = some o → S' a = some o) : ∀ (d : PyData) (v : V), DV K S v d → DV K S' v d
  | .none, _, h => by cases h; exact .non
  | .bool b, _, h => by cases h; exact .bl b
  | .int i, _, h => by cases h; exact .int i
  | .str x, _, h => by cases h; exact .str x
  | .list ds, _, h => by
    cases h with
    | lst hs ha => exact .lst (e _ _ hs) (dpAll_mono e ds _ ha)
  | .tuple ds, _, h => by
    cases h with
    | tup hs ha =>
      refine .tup ?_ (dpAll_mono e ds _ ha)
      rcases hs with (h | ⟨o, h⟩) | h
      · exact .inl (.inl (e _ _ h))
      · exact .inl (.inr ⟨o, e _ _ h⟩)
      · exact .inr h
  | .dict _, _, h => by cases h
theorem dpAll_mono {S S' : Hp} (e : ∀ a o, S a = some o → S' a = some o) : ∀ (ds : List PyData) (vs : List V), DVs K S vs ds → DVs K S' vs ds
  | [], _, h => by cases h; exact .nil
  | d :: ds, _, h => by
    cases h with
    | cons h1 h2 => exact .cons (dp_mono e d _ h1) (dpAll_mono e ds _ h2)
end

theorem own_mono {S S' : Hp} (e : ∀ a o, S a = some o → S' a = some o) {ho : HO} {d : D} (h : OwnRep K S ho d) : OwnRep K S' ho d := by
  unfold OwnRep at h ⊢
  split at h
  · exact dpAll_mono e _ _ h
  · cases h

variable {κ : List Kd} {S0 H0 S H S' H' : Hp} {w0 w w' : W} {σ : L2.St} {ρ : Rho} {oa : Nat → Addr} {p : Addr} {ho ho' : HO}

theorem ne_p (h : H p = none) {a : Addr} {o : HO} (q : H a = some o) : a ≠ p := fun e => by rw [e, h] at q; cases q

/-- a new object, still from now on -/
theorem Out.alloc (o : Out R S0 H0 w0 S H w) (hp : H p = none) : Out R S0 H0 w0 (upd S p ho) (upd H p ho) w where
  sub := fun a u h => by
    by_cases e : a = p
    · subst e; rw [upd_same] at h ⊢; exact h
    · rw [upd_ne e] at h ⊢; exact o.sub a u h
  sub0 := fun a u h => by
    have := o.sub a u (o.sub0 a u h)
    rw [upd_ne (ne_p hp this)]; exact o.sub0 a u h
  new := fun a h h0 => by
    by_cases e : a = p
    · subst e
      cases q : H0 a with
      | none => rfl
      | some u => exact absurd hp (o.stay a (by rw [q]; exact Option.some_ne_none _))
    · rw [upd_ne e] at h; exact o.new a h h0
  keep := fun a u h hf => by
    have := o.keep a u h hf
    rw [upd_ne (ne_p hp this)]; exact this
  stay := fun a h => by
    by_cases e : a = p
    · subst e; rw [upd_same]; exact Option.some_ne_none _
    · rw [upd_ne e]; exact o.stay a h
  res := R.loc w H _ o.res fun a ha => upd_ne fun e => R.dom w H a o.res ha (by rw [e]; exact hp)
  resS := fun a ha => by
    rw [upd_ne fun e => R.dom w H a o.res ha (by rw [e]; exact hp)]; exact o.resS a ha
  resN := o.resN

/-- a new object that may change -/
theorem Out.allocOwn (o : Out R S0 H0 w0 S H w) (hp : H p = none) : Out R S0 H0 w0 S (upd H p ho) w where
  sub := fun a u h => by
    have := o.sub a u h
    rw [upd_ne (ne_p hp this)]; exact this
  sub0 := o.sub0
  new := o.new
  keep := fun a u h hf => by
    have := o.keep a u h hf
    rw [upd_ne (ne_p hp this)]; exact this
  stay := fun a h => by
    by_cases e : a = p
    · subst e; rw [upd_same]; exact Option.some_ne_none _
    · rw [upd_ne e]; exact o.stay a h
  res := R.loc w H _ o.res fun a ha => upd_ne fun e => R.dom w H a o.res ha (by rw [e]; exact hp)
  resS := o.resS
  resN := o.resN

/-- an own object changes -/
theorem Out.write (o : Out R S0 H0 w0 S H w) (hs : S p = none) (h0 : H0 p = none) (hf : ¬ R.fp w p) : Out R S0 H0 w0 S (upd H p ho) w where
  sub := fun a u h => by
    rw [upd_ne fun e => by rw [e, hs] at h; cases h]; exact o.sub a u h
  sub0 := o.sub0
  new := o.new
  keep := fun a u h hf => by
    rw [upd_ne fun e => by rw [e, h0] at h; cases h]; exact o.keep a u h hf
  stay := fun a h => by
    by_cases e : a = p
    · subst e; rw [upd_same]; exact Option.some_ne_none _
    · rw [upd_ne e]; exact o.stay a h
  res := R.loc w H _ o.res fun a ha => upd_ne fun e => hf (by rw [← e]; exact ha)
  resS := o.resS
  resN := o.resN

/-- an own object is still from now on -/
theorem Out.freeze (o : Out R S0 H0 w0 S H w) (hs : S p = none) (h0 : H0 p = none) (hf : ¬ R.fp w p) (hp : H p = some ho) : Out R S0 H0 w0 (upd S p ho) H w where
  sub := fun a u h => by
    by_cases e : a = p
    · subst e; rw [upd_same] at h; rw [hp]; exact h
    · rw [upd_ne e] at h; exact o.sub a u h
  sub0 := fun a u h => by
    have := o.sub0 a u h
    rw [upd_ne (ne_p hs this)]; exact this
  new := fun a h h0' => by
    by_cases e : a = p
    · subst e; exact h0
    · rw [upd_ne e] at h; exact o.new a h h0'
  keep := o.keep
  stay := o.stay
  res := o.res
  resS := fun a ha => by
    rw [upd_ne fun e => hf (by rw [← e]; exact ha)]; exact o.resS a ha
  resN := o.resN

theorem le_upd (hp : S p = none) : ∀ a o, S a = some o → upd S p ho a = some o := fun a o h => by rw [upd_ne (ne_p hp h)]; exact h

theorem Out.s_none (o : Out R S0 H0 w0 S H w) (hp : H p = none) : S p = none := by
  cases q : S p with
  | none => rfl
  | some u => rw [o.sub p u q] at hp; cases hp
theorem Out.h0_none (o : Out R S0 H0 w0 S H w) (hp : H p = none) : H0 p = none := by
  cases q : H0 p with
  | none => rfl
  | some u => exact absurd hp (o.stay p (by rw [q]; exact Option.some_ne_none _))
theorem Out.nofp (o : Out R S0 H0 w0 S H w) (hp : H p = none) : ¬ R.fp w p := fun e => R.dom w H p o.res e hp

theorem slot_alloc {k : Kd} {v : V} {d : D} {q : Addr} (o : Out R S0 H0 w0 S H w) (hp : H p = none) (h : SlotOk K R S0 H0 w0 S H w q k v d) : SlotOk K R S0 H0 w0 (upd S p ho) (upd H p ho) w q k v d := by
  have e := le_upd (ho := ho) (o.s_none hp)
  cases k with
  | dat => exact dp_mono e _ _ h
  | own =>
    obtain ⟨h1, h2, h3, h4, u, h5, h6⟩ := h
    have hq : q ≠ p := ne_p hp h5
    exact ⟨h1, by rw [upd_ne hq]; exact h2, h3, h4, u, by rw [upd_ne hq]; exact h5, own_mono e h6⟩
  | bor =>
    obtain ⟨r, u, h1, h2, h3, h4⟩ := h
    exact ⟨r, u, h1, h2, h3, own_mono e h4⟩
  | res => exact h
theorem slot_allocOwn {k : Kd} {v : V} {d : D} {q : Addr} (hp : H p = none) (h : SlotOk K R S0 H0 w0 S H w q k v d) : SlotOk K R S0 H0 w0 S (upd H p ho) w q k v d := by
  cases k with
  | dat => exact h
  | own =>
    obtain ⟨h1, h2, h3, h4, u, h5, h6⟩ := h
    exact ⟨h1, h2, h3, h4, u, by rw [upd_ne (ne_p hp h5)]; exact h5, h6⟩
  | bor => exact h
  | res => exact h
theorem slot_write {k : Kd} {v : V} {d : D} {q : Addr} (hq : k = .own → q ≠ p) (h : SlotOk K R S0 H0 w0 S H w q k v d) : SlotOk K R S0 H0 w0 S (upd H p ho) w q k v d := by
  cases k with
  | dat => exact h
  | own =>
    obtain ⟨h1, h2, h3, h4, u, h5, h6⟩ := h
    exact ⟨h1, h2, h3, h4, u, by rw [upd_ne (hq rfl)]; exact h5, h6⟩
  | bor => exact h
  | res => exact h
theorem slot_freeze {k : Kd} {v : V} {d : D} {q : Addr} (hs : S p = none) (hq : k = .own → q ≠ p) (h : SlotOk K R S0 H0 w0 S H w q k v d) : SlotOk K R S0 H0 w0 (upd S p ho) H w q k v d := by
  have e := le_upd (ho := ho) hs
  cases k with
  | dat => exact dp_mono e _ _ h
  | own =>
    obtain ⟨h1, h2, h3, h4, u, h5, h6⟩ := h
    exact ⟨h1, by rw [upd_ne (hq rfl)]; exact h2, h3, h4, u, h5, own_mono e h6⟩
  | bor =>
    obtain ⟨r, u, h1, h2, h3, h4⟩ := h
    exact ⟨r, u, h1, h2, h3, own_mono e h4⟩
  | res => exact h

theorem Rel.alloc (r : Rel K R κ S0 H0 w0 S H σ ρ w) (hp : H p = none) : Rel K R κ S0 H0 w0 (upd S p ho) (upd H p ho) σ ρ w := by
  obtain ⟨oa, r⟩ := r
  exact ⟨oa, r.out.alloc hp, r.len, fun i d h => let ⟨v, h1, h2⟩ := r.slot i d h; ⟨v, h1, slot_alloc r.out hp h2⟩, r.inj⟩
theorem Rel.allocOwn (r : Rel K R κ S0 H0 w0 S H σ ρ w) (hp : H p = none) : Rel K R κ S0 H0 w0 S (upd H p ho) σ ρ w := by
  obtain ⟨oa, r⟩ := r
  exact ⟨oa, r.out.allocOwn hp, r.len, fun i d h => let ⟨v, h1, h2⟩ := r.slot i d h; ⟨v, h1, slot_allocOwn hp h2⟩, r.inj⟩
theorem Rel.out (r : Rel K R κ S0 H0 w0 S H σ ρ w) : Out R S0 H0 w0 S H w := let ⟨_, r⟩ := r; r.out
theorem Rel.len (r : Rel K R κ S0 H0 w0 S H σ ρ w) : ρ.length = σ.length := let ⟨_, r⟩ := r; r.len

/-- a result of an own kind, as data -/
theorem ResOk.freeze {v : V} {d : D} (r : Rel K R κ S0 H0 w0 S H σ ρ w) (h : ResOk K R κ S0 H0 w0 S H σ ρ w .own v d) :
    ∃ S', Rel K R κ S0 H0 w0 S' H σ ρ w ∧ (∀ a o, S a = some o → S' a = some o) ∧ DV K S' v d := by
  obtain ⟨oa, r⟩ := r
  obtain ⟨p, ho, rfl, hs, h0, hf, hh, hr, hn⟩ := h
  refine ⟨upd S p ho, ⟨oa, r.out.freeze hs h0 hf hh, r.len, fun i e h => ?_, r.inj⟩, le_upd hs, ?_⟩
  · obtain ⟨v, h1, h2⟩ := r.slot i e h
    refine ⟨v, h1, slot_freeze hs (fun hk ea => ?_) h2⟩
    rw [hk] at h2
    obtain ⟨hv, _⟩ := h2
    rw [hv, ea] at h1
    exact hn i e h hk h1
  · have e := le_upd (ho := ho) hs
    cases ho with
    | lst vs =>
      cases d with
      | list ds => exact .lst upd_same (dpAll_mono e _ _ hr)
      | _ => exact hr.elim
    | _ => exact hr.elim

theorem ResOk.mono {rk : Kd} {v : V} {d : D} (hk : rk ≠ .own) (e : ∀ a o, S a = some o → S' a = some o) (h : ResOk K R κ S0 H0 w0 S H σ ρ w rk v d) : ResOk K R κ S0 H0 w0 S' H' σ ρ w' rk v d := by
  cases rk with
  | dat => exact dp_mono e _ _ h
  | own => exact absurd rfl hk
  | bor => exact h
  | res => exact h

theorem kd_set_same {i : Nat} {k : Kd} (hi : i < κ.length) : kd (κ.set i k) i = k := by
  unfold kd
  rw [List.getD_eq_getElem?_getD, List.getElem?_set_self hi]
  rfl
theorem kd_set_ne {i j : Nat} {k : Kd} (h : i ≠ j) : kd (κ.set i k) j = kd κ j := by
  unfold kd
  rw [List.getD_eq_getElem?_getD, List.getElem?_set_ne h, ← List.getD_eq_getElem?_getD]

/-- a slot gets data -/
theorem Rel.setDat {i : Nat} {v : V} {d : D} (r : Rel K R κ S0 H0 w0 S H σ ρ w) (hi : i < κ.length) (h : DV K S v d) : Rel K R (κ.set i .dat) S0 H0 w0 S H (σ.set i (some v)) (ρ.set i (some d)) w := by
  obtain ⟨oa, r⟩ := r
  refine ⟨oa, r.out, by rw [List.length_set, List.length_set]; exact r.len, fun j e hj => ?_, fun j l e f hj hl kj kl => ?_⟩
  · by_cases hij : i = j
    · subst hij
      have hlt : i < ρ.length := by
        by_cases q : i < ρ.length
        · exact q
        · rw [List.getElem?_eq_none (by rw [List.length_set]; omega)] at hj; cases hj
      rw [List.getElem?_set_self hlt] at hj
      cases hj
      refine ⟨v, List.getElem?_set_self (by rw [← r.len]; exact hlt), ?_⟩
      rw [kd_set_same hi]
      exact h
    · rw [List.getElem?_set_ne hij] at hj
      rw [List.getElem?_set_ne hij, kd_set_ne hij]
      exact r.slot j e hj
  · have own_ne : ∀ {m : Nat}, kd (κ.set i .dat) m = .own → i ≠ m := fun q e => by rw [← e, kd_set_same hi] at q; cases q
    have a1 := own_ne kj
    have a2 := own_ne kl
    rw [List.getElem?_set_ne a1] at hj
    rw [List.getElem?_set_ne a2] at hl
    rw [kd_set_ne a1] at kj
    rw [kd_set_ne a2] at kl
    exact r.inj j l e f hj hl kj kl
/-- a slot gets a list of its own -/
theorem Rel.setOwn {i : Nat} {v : V} {d : D} (r : Rel K R κ S0 H0 w0 S H σ ρ w) (hi : i < κ.length) (h : ResOk K R κ S0 H0 w0 S H σ ρ w .own v d) : Rel K R (κ.set i .own) S0 H0 w0 S H (σ.set i (some v)) (ρ.set i (some d)) w := by
  obtain ⟨oa, r⟩ := r
  obtain ⟨p, ho, rfl, hs, h0, hf, hh, hr, hn⟩ := h
  have ha : ∀ j e, ρ[j]? = some (some e) → kd κ j = .own → oa j ≠ p := fun j e hj hk q => by
    obtain ⟨v, h1, h2⟩ := r.slot j e hj
    rw [hk] at h2
    obtain ⟨hv, _⟩ := h2
    rw [hv, q] at h1
    exact hn j e hj hk h1
  refine ⟨fun j => if j = i then p else oa j, r.out, by rw [List.length_set, List.length_set]; exact r.len, fun j e hj => ?_, fun j l e f hj hl kj kl hjl => ?_⟩
  · by_cases hij : i = j
    · subst hij
      have hlt : i < ρ.length := by
        by_cases q : i < ρ.length
        · exact q
        · rw [List.getElem?_eq_none (by rw [List.length_set]; omega)] at hj; cases hj
      rw [List.getElem?_set_self hlt] at hj
      cases hj
      refine ⟨.ref p, List.getElem?_set_self (by rw [← r.len]; exact hlt), ?_⟩
      rw [kd_set_same hi, if_pos rfl]
      exact ⟨rfl, hs, h0, hf, ho, hh, hr⟩
    · rw [List.getElem?_set_ne hij] at hj
      rw [List.getElem?_set_ne hij, kd_set_ne hij, if_neg (fun e => hij e.symm)]
      exact r.slot j e hj
  · by_cases ej : i = j
    · by_cases el : i = l
      · exact ej.symm.trans el
      · rw [List.getElem?_set_ne el] at hl
        rw [kd_set_ne el] at kl
        rw [if_pos ej.symm, if_neg (fun e => el e.symm)] at hjl
        exact absurd hjl.symm (ha l f hl kl)
    · rw [List.getElem?_set_ne ej] at hj
      rw [kd_set_ne ej] at kj
      rw [if_neg (fun e => ej e.symm)] at hjl
      by_cases el : i = l
      · rw [if_pos el.symm] at hjl
        exact absurd hjl (ha j e hj kj)
      · rw [List.getElem?_set_ne el] at hl
        rw [kd_set_ne el] at kl
        rw [if_neg (fun e => el e.symm)] at hjl
        exact r.inj j l e f hj hl kj kl hjl
/-- a slot is forgotten -/
theorem Rel.drop {i : Nat} (r : Rel K R κ S0 H0 w0 S H σ ρ w) : Rel K R κ S0 H0 w0 S H σ (ρ.set i none) w := by
  obtain ⟨oa, r⟩ := r
  have old : ∀ {j e}, (ρ.set i none)[j]? = some (some e) → ρ[j]? = some (some e) := fun {j e} hj => by
    by_cases hij : i = j
    · subst hij
      by_cases q : i < ρ.length
      · rw [List.getElem?_set_self q] at hj; cases hj
      · rw [List.getElem?_eq_none (by rw [List.length_set]; omega)] at hj; cases hj
    · rw [List.getElem?_set_ne hij] at hj; exact hj
  exact ⟨oa, r.out, by rw [List.length_set]; exact r.len, fun j e hj => r.slot j e (old hj), fun j l e f hj hl kj kl => r.inj j l e f (old hj) (old hl) kj kl⟩
/-- an own slot is still from now on -/
theorem Rel.freeze {i : Nat} (r : Rel K R κ S0 H0 w0 S H σ ρ w) (hk : kd κ i = .own) (hi : i < κ.length) : ∃ S', Rel K R (κ.set i .dat) S0 H0 w0 S' H σ ρ w ∧ ∀ a o, S a = some o → S' a = some o := by
  obtain ⟨oa, r⟩ := r
  cases hρ : ρ[i]? with
  | none =>
    refine ⟨S, ⟨oa, r.out, r.len, fun j e hj => ?_, fun j l e f hj hl kj kl => ?_⟩, fun _ _ h => h⟩
    · have : i ≠ j := fun q => by rw [← q, hρ] at hj; cases hj
      rw [kd_set_ne this]; exact r.slot j e hj
    · have a1 : i ≠ j := fun q => by rw [← q, hρ] at hj; cases hj
      have a2 : i ≠ l := fun q => by rw [← q, hρ] at hl; cases hl
      rw [kd_set_ne a1] at kj
      rw [kd_set_ne a2] at kl
      exact r.inj j l e f hj hl kj kl
  | some x =>
    cases x with
    | none =>
      refine ⟨S, ⟨oa, r.out, r.len, fun j e hj => ?_, fun j l e f hj hl kj kl => ?_⟩, fun _ _ h => h⟩
      · have : i ≠ j := fun q => by rw [← q, hρ] at hj; cases hj
        rw [kd_set_ne this]; exact r.slot j e hj
      · have a1 : i ≠ j := fun q => by rw [← q, hρ] at hj; cases hj
        have a2 : i ≠ l := fun q => by rw [← q, hρ] at hl; cases hl
        rw [kd_set_ne a1] at kj
        rw [kd_set_ne a2] at kl
        exact r.inj j l e f hj hl kj kl
    | some d =>
      obtain ⟨v, h1, h2⟩ := r.slot i d hρ
      rw [hk] at h2
      obtain ⟨hv, hs, h0, hf, ho, hh, hr⟩ := h2
      have e := le_upd (ho := ho) hs
      refine ⟨upd S (oa i) ho, ⟨oa, r.out.freeze hs h0 hf hh, r.len, fun j e' hj => ?_, fun j l e f hj hl kj kl => ?_⟩, e⟩
      · by_cases hij : i = j
        · subst hij
          rw [hρ] at hj
          cases hj
          refine ⟨v, h1, ?_⟩
          rw [kd_set_same hi, hv]
          cases ho with
          | lst vs =>
            cases d with
            | list ds => exact .lst upd_same (dpAll_mono e _ _ hr)
            | _ => exact hr.elim
          | _ => exact hr.elim
        · obtain ⟨u, g1, g2⟩ := r.slot j e' hj
          rw [kd_set_ne hij]
          exact ⟨u, g1, slot_freeze hs (fun kj q => hij (r.inj i j d e' hρ hj hk kj q.symm)) g2⟩
      · have own_ne : ∀ {m : Nat}, kd (κ.set i .dat) m = .own → i ≠ m := fun q e => by rw [← e, kd_set_same hi] at q; cases q
        have a1 := own_ne kj
        have a2 := own_ne kl
        rw [kd_set_ne a1] at kj
        rw [kd_set_ne a2] at kl
        exact r.inj j l e f hj hl kj kl
/-- an own slot's list changes -/
theorem Rel.write {i : Nat} {d d' : D} (r : Rel K R κ S0 H0 w0 S H σ ρ w) (hk : kd κ i = .own) (hρ : ρ[i]? = some (some d)) :
    ∃ p ho, σ[i]? = some (some (.ref p)) ∧ H p = some ho ∧ OwnRep K S ho d ∧ ∀ ho', OwnRep K S ho' d' → Rel K R κ S0 H0 w0 S (upd H p ho') σ (ρ.set i (some d')) w := by
  obtain ⟨oa, r⟩ := r
  obtain ⟨v, h1, h2⟩ := r.slot i d hρ
  rw [hk] at h2
  obtain ⟨hv, hs, h0, hf, ho, hh, hr⟩ := h2
  rw [hv] at h1
  have hlt : i < ρ.length := (List.getElem?_eq_some_iff.mp hρ).1
  have back : ∀ {j e}, (ρ.set i (some d'))[j]? = some (some e) → ∃ e', ρ[j]? = some (some e') := fun {j e} hj => by
    by_cases hij : i = j
    · subst hij; exact ⟨d, hρ⟩
    · rw [List.getElem?_set_ne hij] at hj; exact ⟨e, hj⟩
  refine ⟨oa i, ho, h1, hh, hr, fun ho' hr' => ⟨oa, r.out.write hs h0 hf, by rw [List.length_set]; exact r.len, fun j e hj => ?_, fun j l e f hj hl kj kl q => ?_⟩⟩
  · by_cases hij : i = j
    · subst hij
      rw [List.getElem?_set_self hlt] at hj
      cases hj
      refine ⟨_, h1, ?_⟩
      rw [hk]
      exact ⟨rfl, hs, h0, hf, ho', upd_same, hr'⟩
    · rw [List.getElem?_set_ne hij] at hj
      obtain ⟨u, g1, g2⟩ := r.slot j e hj
      exact ⟨u, g1, slot_write (fun kj q => hij (r.inj i j d e hρ hj hk kj q.symm)) g2⟩
  · obtain ⟨e', hj'⟩ := back hj
    obtain ⟨f', hl'⟩ := back hl
    exact r.inj j l e' f' hj' hl' kj kl q
end
end B

namespace B
open PySem L2

section
variable {K : PySem.W.Frag} {W : Type} {R : Rs W} {C : Cl}
variable {κ : List Kd} {S0 H0 S H S' H' : Hp} {w0 w w' : W} {σ : L2.St} {ρ : Rho}

/-! ### what is seen of a value: data, or a list that may change -/
def Seen (K : PySem.W.Frag) (S H : Hp) (v : V) (d : D) : Prop := DV K S v d ∨ ∃ p ho, v = .ref p ∧ H p = some ho ∧ OwnRep K S ho d

theorem ResOk.seen {rk : Kd} {v : V} {d : D} (r : Rel K R κ S0 H0 w0 S H σ ρ w) (hk : rk ≠ .res) (h : ResOk K R κ S0 H0 w0 S H σ ρ w rk v d) : Seen K S H v d := by
  cases rk with
  | dat => exact .inl h
  | own =>
    obtain ⟨p, ho, h1, _, _, _, h2, h3, _⟩ := h
    exact .inr ⟨p, ho, h1, h2, h3⟩
  | bor =>
    obtain ⟨i, h1, h2, h3⟩ := h
    obtain ⟨oa, r⟩ := r
    obtain ⟨u, g1, g2⟩ := r.slot i d h1
    rw [h2] at g1
    have e : v = u := Option.some.inj (Option.some.inj g1)
    subst e
    rcases h3 with h3 | h3
    · rw [h3] at g2
      obtain ⟨k1, _, _, _, ho, k2, k3⟩ := g2
      exact .inr ⟨_, ho, k1, k2, k3⟩
    · rw [h3] at g2
      obtain ⟨q, ho, k1, k2, k3, k4⟩ := g2
      exact .inr ⟨q, ho, k1, r.out.keep q ho k2 k3, k4⟩
  | res => exact absurd rfl hk

theorem seen_int {v : V} {i : Int} (h : Seen K S H v (.int i)) : v = .int i := by
  rcases h with h | ⟨p, ho, _, _, h⟩
  · cases h; rfl
  · cases ho <;> exact h.elim
theorem seen_bl {v : V} {b : Bool} (h : Seen K S H v (.bool b)) : v = .bl b := by
  rcases h with h | ⟨p, ho, _, _, h⟩
  · cases h; rfl
  · cases ho <;> exact h.elim
theorem seen_str {v : V} {x : Str} (h : Seen K S H v (.str x)) : v = .str x := by
  rcases h with h | ⟨p, ho, _, _, h⟩
  · cases h; rfl
  · cases ho <;> exact h.elim
theorem seen_none {v : V} (h : Seen K S H v .none) : v = .non := by
  rcases h with h | ⟨p, ho, _, _, h⟩
  · cases h; rfl
  · cases ho <;> exact h.elim
theorem seen_list {v : V} {ds : List D} (sub : ∀ a o, S a = some o → H a = some o) (h : Seen K S H v (.list ds)) : ∃ p vs, v = .ref p ∧ H p = some (.lst vs) ∧ DVs K S vs ds := by
  rcases h with h | ⟨p, ho, h1, h2, h⟩
  · cases h with
    | lst h1 h2 => exact ⟨_, _, rfl, sub _ _ h1, h2⟩
  · cases ho with
    | lst vs => exact ⟨p, vs, h1, h2, h⟩
    | _ => exact h.elim
theorem sqT_sub {a : Addr} {xs : List V} (sub : ∀ a o, S a = some o → H a = some o) (hs : SqT K S a xs) : SqT K H a xs := by
  rcases hs with (h | ⟨o, h⟩) | h
  · exact .inl (.inl (sub _ _ h))
  · exact .inl (.inr ⟨o, sub _ _ h⟩)
  · exact .inr h
theorem seen_tup {v : V} {ds : List D} (sub : ∀ a o, S a = some o → H a = some o) (h : Seen K S H v (.tuple ds)) : ∃ p vs, v = .ref p ∧ SqT K H p vs ∧ SqT K S p vs ∧ DVs K S vs ds := by
  rcases h with h | ⟨p, ho, h1, h2, h⟩
  · cases h with
    | tup h1 h2 => exact ⟨_, _, rfl, sqT_sub sub h1, h1, h2⟩
  · cases ho <;> exact h.elim
theorem seen_dat {v : V} {d : D} (hd : ∀ ds, d ≠ .list ds) (hd2 : ∀ ds, d ≠ .dict ds) (h : Seen K S H v d) : DV K S v d := by
  rcases h with h | ⟨p, ho, h1, h2, h⟩
  · exact h
  · cases ho with
    | lst vs =>
      cases d with
      | list ds => exact absurd rfl (hd ds)
      | _ => exact h.elim
    | _ => exact h.elim

mutual
theorem dv_dp (sub : ∀ a o, S a = some o → H a = some o) : ∀ (d : PyData) (v : V), DV K S v d → Dp K H v d
  | .none, _, h => by cases h; exact .non
  | .bool b, _, h => by cases h; exact .bl b
  | .int i, _, h => by cases h; exact .int i
  | .str x, _, h => by cases h; exact .str x
  | .list ds, _, h => by
    cases h with
    | lst hs ha => exact .lst (SqL.of (sub _ _ hs)) (dvs_dp sub ds _ ha)
  | .tuple ds, _, h => by
    cases h with
    | tup hs ha => exact .tup (sqT_sub sub hs) (dvs_dp sub ds _ ha)
  | .dict _, _, h => by cases h
theorem dvs_dp (sub : ∀ a o, S a = some o → H a = some o) : ∀ (ds : List PyData) (vs : List V), DVs K S vs ds → DpAll K H vs ds
  | [], _, h => by cases h; exact .nil
  | d :: ds, _, h => by
    cases h with
    | cons h1 h2 => exact .cons (dv_dp sub d _ h1) (dvs_dp sub ds _ h2)
end
theorem seen_dp {v : V} {d : D} (sub : ∀ a o, S a = some o → H a = some o) (h : Seen K S H v d) : Dp K H v d := by
  rcases h with h | ⟨p, ho, h1, h2, h⟩
  · exact dv_dp sub d v h
  · cases ho with
    | lst vs =>
      cases d with
      | list ds =>
        subst h1
        exact .lst (SqL.of h2) (dvs_dp sub _ _ h)
      | _ => exact h.elim
    | _ => exact h.elim

theorem dvs_len : ∀ {vs : List V} {ds : List D}, DVs K S vs ds → vs.length = ds.length
  | _, _, .nil => rfl
  | _, _, .cons _ h => by rw [List.length_cons, List.length_cons, dvs_len h]
theorem dvs_get : ∀ {vs : List V} {ds : List D} {i : Nat} {d : D}, DVs K S vs ds → ds[i]? = some d → ∃ v, vs[i]? = some v ∧ DV K S v d
  | _, _, i, d, .nil, h => by simp at h
  | _, _, 0, d, .cons h1 h2, h => by
    rw [List.getElem?_cons_zero] at h
    cases h
    exact ⟨_, rfl, h1⟩
  | _, _, i + 1, d, .cons h1 h2, h => by
    rw [List.getElem?_cons_succ] at h
    obtain ⟨v, g1, g2⟩ := dvs_get h2 h
    exact ⟨v, by rw [List.getElem?_cons_succ]; exact g1, g2⟩
theorem dvs_get' : ∀ {vs : List V} {ds : List D} {i : Nat} {v : V}, DVs K S vs ds → vs[i]? = some v → ∃ d, ds[i]? = some d ∧ DV K S v d
  | _, _, i, d, .nil, h => by simp at h
  | _, _, 0, d, .cons h1 h2, h => by
    rw [List.getElem?_cons_zero] at h
    cases h
    exact ⟨_, rfl, h1⟩
  | _, _, i + 1, d, .cons h1 h2, h => by
    rw [List.getElem?_cons_succ] at h
    obtain ⟨v, g1, g2⟩ := dvs_get' h2 h
    exact ⟨v, by rw [List.getElem?_cons_succ]; exact g1, g2⟩
theorem dvs_app : ∀ {vs us : List V} {ds es : List D}, DVs K S vs ds → DVs K S us es → DVs K S (vs ++ us) (ds ++ es)
  | _, _, _, _, .nil, h => h
  | _, _, _, _, .cons h1 h2, h => .cons h1 (dvs_app h2 h)
theorem dvs_take : ∀ {vs : List V} {ds : List D} (n : Nat), DVs K S vs ds → DVs K S (vs.take n) (ds.take n)
  | _, _, 0, _ => .nil
  | _, _, n + 1, .nil => .nil
  | _, _, n + 1, .cons h1 h2 => .cons h1 (dvs_take n h2)
theorem dvs_drop : ∀ {vs : List V} {ds : List D} (n : Nat), DVs K S vs ds → DVs K S (vs.drop n) (ds.drop n)
  | _, _, 0, h => h
  | _, _, n + 1, .nil => .nil
  | _, _, n + 1, .cons h1 h2 => dvs_drop n h2
theorem dvs_set : ∀ {vs : List V} {ds : List D} {v : V} {d : D} (i : Nat), DVs K S vs ds → DV K S v d → DVs K S (vs.set i v) (ds.set i d)
  | _, _, _, _, _, .nil, _ => .nil
  | _, _, _, _, 0, .cons h1 h2, h => .cons h h2
  | _, _, _, _, n + 1, .cons h1 h2, h => .cons h1 (dvs_set n h2 h)
theorem dvs_erase : ∀ {vs : List V} {ds : List D} (i : Nat), DVs K S vs ds → DVs K S (vs.eraseIdx i) (ds.eraseIdx i)
  | _, _, _, .nil => .nil
  | _, _, 0, .cons h1 h2 => h2
  | _, _, n + 1, .cons h1 h2 => .cons h1 (dvs_erase n h2)
theorem dvs_rev {vs : List V} {ds : List D} (h : DVs K S vs ds) : DVs K S vs.reverse ds.reverse := by
  induction vs generalizing ds with
  | nil => cases h; exact .nil
  | cons v vs ih =>
    cases h with
    | cons h1 h2 =>
      rw [List.reverse_cons, List.reverse_cons]
      exact dvs_app (ih h2) (.cons h1 .nil)
theorem dvs_ints : ∀ {vs : List V} {ns : List Int}, DVs K S vs (ns.map .int) → vs = ns.map V.int
  | _, [], h => by cases h; rfl
  | _, n :: ns, h => by
    cases h with
    | cons h1 h2 =>
      cases h1
      rw [dvs_ints h2]; rfl
theorem dvs_strs : ∀ {vs : List V} {ns : List Str}, DVs K S vs (ns.map .str) → vs = ns.map V.str
  | _, [], h => by cases h; rfl
  | _, n :: ns, h => by
    cases h with
    | cons h1 h2 =>
      cases h1
      rw [dvs_strs h2]; rfl
theorem dvs_bls : ∀ {vs : List V} {ns : List Bool}, DVs K S vs (ns.map .bool) → vs = ns.map V.bl
  | _, [], h => by cases h; rfl
  | _, n :: ns, h => by
    cases h with
    | cons h1 h2 =>
      cases h1
      rw [dvs_bls h2]; rfl

/-! ### names and constants -/
def mVar (i : Nat) : ME W := fun ρ => match ρ[i]? with
  | some (some d) => ret d
  | _ => stk
theorem okVar {i : Nat} (hk : kd κ i = .dat) : OkE K R C κ (tVar i) .dat (mVar i) := by
  intro S0 H0 w0 S H σ ρ w Q r h
  unfold mVar at h
  cases e : ρ[i]? with
  | none => rw [e] at h; exact h.elim
  | some x =>
    cases x with
    | none => rw [e] at h; exact h.elim
    | some d =>
      rw [e] at h
      obtain ⟨oa, r'⟩ := id r
      obtain ⟨v, h1, h2⟩ := r'.slot i d e
      rw [hk] at h2
      exact ⟨v, h1, h v S H r (fun _ _ q => q) h2⟩
theorem okBor {i : Nat} (hk : kd κ i = .own ∨ kd κ i = .bor) : OkE K R C κ (tVar i) .bor (mVar i) := by
  intro S0 H0 w0 S H σ ρ w Q r h
  unfold mVar at h
  cases e : ρ[i]? with
  | none => rw [e] at h; exact h.elim
  | some x =>
    cases x with
    | none => rw [e] at h; exact h.elim
    | some d =>
      rw [e] at h
      obtain ⟨oa, r'⟩ := id r
      obtain ⟨v, h1, h2⟩ := r'.slot i d e
      exact ⟨v, h1, h v S H r (fun _ _ q => q) ⟨i, e, h1, hk⟩⟩
theorem okRes {i : Nat} (hk : kd κ i = .res) : OkE K R C κ (tVar i) .res (mVar i) := by
  intro S0 H0 w0 S H σ ρ w Q r h
  unfold mVar at h
  cases e : ρ[i]? with
  | none => rw [e] at h; exact h.elim
  | some x =>
    cases x with
    | none => rw [e] at h; exact h.elim
    | some d =>
      rw [e] at h
      obtain ⟨oa, r'⟩ := id r
      obtain ⟨v, h1, h2⟩ := r'.slot i d e
      rw [hk] at h2
      exact ⟨v, h1, h v S H r (fun _ _ q => q) h2⟩
def mC (d : D) : ME W := fun _ => ret d
theorem okC {v : V} {d : D} (hv : ∀ S, DV K S v d) : OkE K R C κ (tC v) .dat (mC d) := by
  intro S0 H0 w0 S H σ ρ w Q r h
  exact h v S H r (fun _ _ q => q) (hv S)
theorem okInt {i : Int} : OkE K R C κ (tC (.int i)) .dat (mC (.int i)) := okC fun _ => .int i
theorem okStr {x : Str} : OkE K R C κ (tC (.str x)) .dat (mC (.str x)) := okC fun _ => .str x
theorem okBl {b : Bool} : OkE K R C κ (tC (.bl b)) .dat (mC (.bool b)) := okC fun _ => .bl b
theorem okNon : OkE K R C κ (tC .non) .dat (mC .none) := okC fun _ => .non
theorem OkE.dat {t : TE} {m : ME W} (h : OkE K R C κ t .own m) : OkE K R C κ t .dat m := by
  intro S0 H0 w0 S H σ ρ w Q r q
  refine h S0 H0 w0 S H σ ρ w Q r ?_
  cases e : m ρ w with
  | ok d w' =>
    rw [e] at q
    intro v S' H' r' s' ro
    obtain ⟨S2, r2, s2, hd⟩ := ro.freeze r'
    exact q v S2 H' r2 (fun a o z => s2 a o (s' a o z)) hd
  | exc c fs w' => rw [e] at q; exact q
  | stuck => rw [e] at q; exact q

/-! ### an answer behind another -/
theorem post_bnd {α : Type} {κ : List Kd} {rk : Kd} {Q : VK} {x : M W D} {f : D → M W D} (h : PostE K R C κ S0 H0 w0 S σ ρ rk Q (bnd x f w)) :
    PostE K R C κ S0 H0 w0 S σ ρ .dat Q (.stuck : Res W D) ∨ True := .inr trivial

/-! ### operators by values -/
abbrev Op2 := D → D → Option D
def lift {α : Type} (o : Option α) : M W α := match o with
  | some z => ret z
  | none => stk
@[simp] theorem lift_some {α : Type} (z : α) : (lift (some z) : M W α) = ret z := rfl
@[simp] theorem lift_none {α : Type} : (lift (none : Option α) : M W α) = stk := rfl

/-- an operator whose answer is data that stands already, or a scalar -/
def OpP (K : PySem.W.Frag) (r : R2) (g : Op2) : Prop :=
  ∀ S H x y d e z (Q : VK), (∀ a o, S a = some o → H a = some o) → Seen K S H x d → Seen K S H y e → g d e = some z → (∀ v, DV K S v z → Q v H) → r x y H Q
/-- .. a new list -/
def OpL (K : PySem.W.Frag) (r : R2) (g : D → D → Option (List D)) : Prop :=
  ∀ S H x y d e z (Q : VK), (∀ a o, S a = some o → H a = some o) → Seen K S H x d → Seen K S H y e → g d e = some z → (∀ p vs, H p = none → DVs K S vs z → Q (.ref p) (upd H p (.lst vs))) → r x y H Q
/-- .. a tuple, new or not -/
def OpU (K : PySem.W.Frag) (r : R2) (g : D → D → Option (List D)) : Prop :=
  ∀ S H x y d e z (Q : VK), (∀ a o, S a = some o → H a = some o) → Seen K S H x d → Seen K S H y e → g d e = some z → (∀ p vs, H p = none → DVs K S vs z → Q (.ref p) (upd H p (.tup vs))) → (∀ v, DV K S v (.tuple z) → Q v H) → r x y H Q

def m2 (ma mb : ME W) (f : D → D → M W D) : ME W := fun ρ => bnd (ma ρ) fun d => bnd (mb ρ) fun e => f d e

/-- two operands, the left one no new list -/
theorem ok2 {ta tb : TE} {ka kb rk : Kd} {ma mb : ME W} {f : D → D → M W D} {r : R2} (ha : OkE K R C κ ta ka ma) (hb : OkE K R C κ tb kb mb) (na : ka ≠ .own) (nr : ka ≠ .res) (nb : kb ≠ .res)
    (hr : ∀ S0 H0 w0 S H σ ρ w x y d e Q, Rel K R κ S0 H0 w0 S H σ ρ w → Seen K S H x d → Seen K S H y e → PostE K R C κ S0 H0 w0 S σ ρ rk Q (f d e w) → r x y H Q) :
    OkE K R C κ (tOp r ta tb) rk (m2 ma mb f) := by
  intro S0 H0 w0 S H σ ρ w Q rl h
  refine ha S0 H0 w0 S H σ ρ w _ rl ?_
  unfold m2 at h
  cases ea : ma ρ w with
  | stuck => rw [bnd_stuck ea] at h; exact h.elim
  | exc c fs w1 => rw [bnd_exc ea] at h; exact h
  | ok d w1 =>
    rw [bnd_ok ea] at h
    intro x S1 H1 r1 s1 o1
    refine hb S0 H0 w0 S1 H1 σ ρ w1 _ r1 ?_
    cases eb : mb ρ w1 with
    | stuck => rw [bnd_stuck eb] at h; exact h.elim
    | exc c fs w2 => rw [bnd_exc eb] at h; exact h
    | ok e w2 =>
      rw [bnd_ok eb] at h
      intro y S2 H2 r2 s2 o2
      refine hr S0 H0 w0 S2 H2 σ ρ w2 x y d e Q r2 ((ResOk.mono na s2 o1 : ResOk K R κ S0 H0 w0 S2 H2 σ ρ w2 ka x d).seen r2 nr) (o2.seen r2 nb) ?_
      cases ef : f d e w2 with
      | stuck => rw [ef] at h; exact h.elim
      | exc c fs w3 =>
        rw [ef] at h
        exact h
      | ok z w3 =>
        rw [ef] at h
        exact fun v S3 H3 r3 s3 o3 => h v S3 H3 r3 (fun a o q => s3 a o (s2 a o (s1 a o q))) o3
theorem okOp {ta tb : TE} {ka kb : Kd} {ma mb : ME W} {g : Op2} {r : R2} (hr : OpP K r g) (ha : OkE K R C κ ta ka ma) (hb : OkE K R C κ tb kb mb) (na : ka ≠ .own := by decide) (nr : ka ≠ .res := by decide) (nb : kb ≠ .res := by decide) :
    OkE K R C κ (tOp r ta tb) .dat (m2 ma mb fun d e => lift (g d e)) := by
  refine ok2 ha hb na nr nb fun S0 H0 w0 S H σ ρ w x y d e Q rl hx hy h => ?_
  cases q : g d e with
  | none => simp only [q, lift_none] at h; exact h.elim
  | some z =>
    simp only [q, lift_some] at h
    exact hr S H x y d e z Q rl.out.sub hx hy q fun v hv => h v S H rl (fun _ _ z => z) hv
theorem okOpL {ta tb : TE} {ka kb : Kd} {ma mb : ME W} {g : D → D → Option (List D)} {r : R2} (hr : OpL K r g) (ha : OkE K R C κ ta ka ma) (hb : OkE K R C κ tb kb mb) (na : ka ≠ .own := by decide) (nr : ka ≠ .res := by decide) (nb : kb ≠ .res := by decide) :
    OkE K R C κ (tOp r ta tb) .own (m2 ma mb fun d e => lift ((g d e).map .list)) := by
  refine ok2 ha hb na nr nb fun S0 H0 w0 S H σ ρ w x y d e Q rl hx hy h => ?_
  cases q : g d e with
  | none => simp only [q, Option.map_none, lift_none] at h; exact h.elim
  | some z =>
    simp only [q, Option.map_some, lift_some] at h
    refine hr S H x y d e z Q rl.out.sub hx hy q fun p vs hp hv => h (.ref p) S _ (rl.allocOwn hp) (fun _ _ z => z) ?_
    refine ⟨p, _, rfl, rl.out.s_none hp, rl.out.h0_none hp, rl.out.nofp hp, upd_same, hv, fun i e' hi hk hs => ?_⟩
    obtain ⟨oa, rl⟩ := rl
    obtain ⟨v, g1, g2⟩ := rl.slot i e' hi
    rw [hk] at g2
    obtain ⟨k1, _, _, _, ho, k2, _⟩ := g2
    rw [hs] at g1
    have e1 : V.ref p = v := Option.some.inj (Option.some.inj g1)
    rw [← e1] at k1
    have e2 : p = oa i := V.ref.inj k1
    rw [← e2, hp] at k2
    cases k2
theorem okOpU {ta tb : TE} {ka kb : Kd} {ma mb : ME W} {g : D → D → Option (List D)} {r : R2} (hr : OpU K r g) (ha : OkE K R C κ ta ka ma) (hb : OkE K R C κ tb kb mb) (na : ka ≠ .own := by decide) (nr : ka ≠ .res := by decide) (nb : kb ≠ .res := by decide) :
    OkE K R C κ (tOp r ta tb) .dat (m2 ma mb fun d e => lift ((g d e).map .tuple)) := by
  refine ok2 ha hb na nr nb fun S0 H0 w0 S H σ ρ w x y d e Q rl hx hy h => ?_
  cases q : g d e with
  | none => simp only [q, Option.map_none, lift_none] at h; exact h.elim
  | some z =>
    simp only [q, Option.map_some, lift_some] at h
    refine hr S H x y d e z Q rl.out.sub hx hy q (fun p vs hp hv => h (.ref p) _ _ (rl.alloc hp) (le_upd (rl.out.s_none hp)) ?_) (fun v hv => h v S H rl (fun _ _ z => z) hv)
    exact .tup (SqT.of upd_same) (dpAll_mono (le_upd (rl.out.s_none hp)) _ _ hv)

/-! the operators -/
def gAdd : Op2 | .int i, .int j => some (.int (i + j)) | _, _ => none
def gMns : Op2 | .int i, .int j => some (.int (i - j)) | _, _ => none
noncomputable def gMul : Op2 | .int i, .int j => if Lines (-(2 ^ 64)) (2 ^ 64) i ∨ Lines (-(2 ^ 64)) (2 ^ 64) j then some (.int (i * j)) else none | _, _ => none
def gMod : Op2 | .int i, .int j => if 0 < j then some (.int (i % j)) else none | _, _ => none
noncomputable def gDiv : Op2 | .int i, .int j => if Lines 0 1073741824 j then some (.int (i / j)) else none | _, _ => none
def gLt : Op2 | .int i, .int j => some (.bool (decide (i < j))) | _, _ => none
def gLe : Op2 | .int i, .int j => some (.bool (decide (i ≤ j))) | _, _ => none
def gGt : Op2 | .int i, .int j => some (.bool (decide (j < i))) | _, _ => none
def gGe : Op2 | .int i, .int j => some (.bool (decide (j ≤ i))) | _, _ => none
def gEq : Op2 := fun d e => if SeqAt.shaped d = true ∧ SeqAt.shaped e = true then some (.bool (PyData.eqv d e)) else none
def gNe : Op2 := fun d e => if SeqAt.shaped d = true ∧ SeqAt.shaped e = true then some (.bool (!PyData.eqv d e)) else none

theorem opI0 {g : Int → Int → V} {z : Int → Int → D} {f : Op2} (hz : ∀ i j S, DV K S (g i j) (z i j)) (hf : ∀ d e y, f d e = some y → ∃ i j, d = .int i ∧ e = .int j ∧ y = z i j) : OpP K (rI0 g) f := by
  intro S H x y d e u Q sub hx hy h q
  obtain ⟨i, j, rfl, rfl, rfl⟩ := hf d e u h
  rw [seen_int hx, seen_int hy]
  exact ⟨i, j, rfl, rfl, q _ (hz i j S)⟩
theorem opI {c : Int → Int → Prop} {g : Int → Int → V} {z : Int → Int → D} {f : Op2} (hz : ∀ i j S, DV K S (g i j) (z i j)) (hf : ∀ d e y, f d e = some y → ∃ i j, d = .int i ∧ e = .int j ∧ c i j ∧ y = z i j) : OpP K (rI c g) f := by
  intro S H x y d e u Q sub hx hy h q
  obtain ⟨i, j, rfl, rfl, hc, rfl⟩ := hf d e u h
  rw [seen_int hx, seen_int hy]
  exact ⟨i, j, rfl, rfl, hc, q _ (hz i j S)⟩
theorem oAdd : OpP K (rI0 fun i j => .int (i + j)) gAdd := opI0 (z := fun i j => .int (i + j)) (fun _ _ _ => .int _) fun d e y h => by
  unfold gAdd at h; split at h
  · exact ⟨_, _, rfl, rfl, (Option.some.inj h).symm⟩
  · cases h
theorem oSub : OpP K (rI0 fun i j => .int (i - j)) gMns := opI0 (z := fun i j => .int (i - j)) (fun _ _ _ => .int _) fun d e y h => by
  unfold gMns at h; split at h
  · exact ⟨_, _, rfl, rfl, (Option.some.inj h).symm⟩
  · cases h
theorem oMul : OpP K (rI CMul fun i j => .int (i * j)) gMul := opI (z := fun i j => .int (i * j)) (fun _ _ _ => .int _) fun d e y h => by
  unfold gMul at h; split at h
  · split at h
    · rename_i c
      exact ⟨_, _, rfl, rfl, by unfold CMul; exact c, (Option.some.inj h).symm⟩
    · cases h
  · cases h
theorem oMod : OpP K (rI (fun _ j => 0 < j) fun i j => .int (i % j)) gMod := opI (z := fun i j => .int (i % j)) (fun _ _ _ => .int _) fun d e y h => by
  unfold gMod at h; split at h
  · split at h
    · rename_i c
      exact ⟨_, _, rfl, rfl, c, (Option.some.inj h).symm⟩
    · cases h
  · cases h
theorem oDiv : OpP K (rI CDiv fun i j => .int (i / j)) gDiv := opI (z := fun i j => .int (i / j)) (fun _ _ _ => .int _) fun d e y h => by
  unfold gDiv at h; split at h
  · split at h
    · rename_i c
      exact ⟨_, _, rfl, rfl, by unfold CDiv; exact c, (Option.some.inj h).symm⟩
    · cases h
  · cases h
theorem oLt : OpP K (rI0 fun i j => .bl (decide (i < j))) gLt := opI0 (z := fun i j => .bool (decide (i < j))) (fun _ _ _ => .bl _) fun d e y h => by
  unfold gLt at h; split at h
  · exact ⟨_, _, rfl, rfl, (Option.some.inj h).symm⟩
  · cases h
theorem oLe : OpP K (rI0 fun i j => .bl (decide (i ≤ j))) gLe := opI0 (z := fun i j => .bool (decide (i ≤ j))) (fun _ _ _ => .bl _) fun d e y h => by
  unfold gLe at h; split at h
  · exact ⟨_, _, rfl, rfl, (Option.some.inj h).symm⟩
  · cases h
theorem oGt : OpP K (rI0 fun i j => .bl (decide (j < i))) gGt := opI0 (z := fun i j => .bool (decide (j < i))) (fun _ _ _ => .bl _) fun d e y h => by
  unfold gGt at h; split at h
  · exact ⟨_, _, rfl, rfl, (Option.some.inj h).symm⟩
  · cases h
theorem oGe : OpP K (rI0 fun i j => .bl (decide (j ≤ i))) gGe := opI0 (z := fun i j => .bool (decide (j ≤ i))) (fun _ _ _ => .bl _) fun d e y h => by
  unfold gGe at h; split at h
  · exact ⟨_, _, rfl, rfl, (Option.some.inj h).symm⟩
  · cases h
theorem oEq : OpP K (rEqD K) gEq := by
  intro S H x y d e u Q sub hx hy h q
  unfold gEq at h; split at h
  · rename_i c
    cases h
    exact ⟨d, e, seen_dp sub hx, seen_dp sub hy, c.1, c.2, q _ (.bl _)⟩
  · cases h
theorem oNe : OpP K (rNeD K) gNe := by
  intro S H x y d e u Q sub hx hy h q
  unfold gNe at h; split at h
  · rename_i c
    cases h
    exact ⟨d, e, seen_dp sub hx, seen_dp sub hy, c.1, c.2, q _ (.bl _)⟩
  · cases h
def gIxL : Op2 | .list ds, .int i => atI ds i | _, _ => none
def gIxT : Op2 | .tuple ds, .int i => atI ds i | _, _ => none
theorem dvs_at {vs : List V} {ds : List D} {i : Int} {z : D} (h : DVs K S vs ds) (hz : atI ds i = some z) : ∃ v, atI vs i = some v ∧ DV K S v z := by
  unfold atI at hz ⊢
  rw [dvs_len h]
  cases e : ixN ds.length i with
  | none => rw [e] at hz; cases hz
  | some j =>
    rw [e] at hz
    exact dvs_get h hz
theorem oIxL : OpP K (rIxL K) gIxL := by
  intro S H x y d e u Q sub hx hy h q
  unfold gIxL at h; split at h
  · obtain ⟨p, vs, rfl, h1, h2⟩ := seen_list sub hx
    rw [seen_int hy]
    obtain ⟨v, g1, g2⟩ := dvs_at h2 h
    exact ⟨p, vs, _, v, rfl, rfl, SqL.of h1, g1, q v g2⟩
  · cases h
theorem oIxT : OpP K (rIxT K) gIxT := by
  intro S H x y d e u Q sub hx hy h q
  unfold gIxT at h; split at h
  · obtain ⟨p, vs, rfl, h1, _, h2⟩ := seen_tup sub hx
    rw [seen_int hy]
    obtain ⟨v, g1, g2⟩ := dvs_at h2 h
    exact ⟨p, vs, _, v, rfl, rfl, h1, g1, q v g2⟩
  · cases h
def gCat : D → D → Option (List D) | .list a, .list b => if a.length + b.length ≤ 1000000 then some (a ++ b) else none | _, _ => none
theorem sz_le {n : Nat} (h : n ≤ 1000000) : n ≤ sizeLine := Nat.le_trans h (by decide)
theorem oCat : OpL K rCat gCat := by
  intro S H x y d e u Q sub hx hy h q
  unfold gCat at h; split at h
  · split at h
    · rename_i c
      cases h
      obtain ⟨p, vs, rfl, h1, h2⟩ := seen_list sub hx
      obtain ⟨p', vs', rfl, h1', h2'⟩ := seen_list sub hy
      refine ⟨p, p', vs, vs', rfl, rfl, h1, h1', ?_, fun l hl => q l _ hl (dvs_app h2 h2')⟩
      rw [dvs_len h2, dvs_len h2']
      exact sz_le c
    · cases h
  · cases h

/-! ### tests -/
def mB (m : ME W) : Rho → M W Bool := fun ρ => bnd (m ρ) fun d => match d with
  | .bool b => ret b
  | _ => stk
theorem okTest' {t : TE} {tt : TT} {k : Kd} {m : ME W} (h : OkE K R C κ t k m) (hk : k ≠ .res) (ht : ∀ σ H Q, t σ H (fun x H' => ∃ b, x = .bl b ∧ Q b H') → tt σ H Q) : OkT K R C κ tt (mB m) := by
  intro S0 H0 w0 S H σ ρ w Q rl q
  refine ht σ H Q (h S0 H0 w0 S H σ ρ w _ rl ?_)
  unfold mB at q
  cases e : m ρ w with
  | stuck => rw [bnd_stuck e] at q; exact q.elim
  | exc c fs w1 => rw [bnd_exc e] at q; exact q
  | ok d w1 =>
    rw [bnd_ok e] at q
    intro v S1 H1 r1 s1 o1
    cases d with
    | bool b =>
      have e1 := seen_bl (o1.seen r1 hk)
      exact ⟨b, e1, q S1 H1 r1 s1⟩
    | _ => exact q.elim
theorem okTest {t : TE} {k : Kd} {m : ME W} (h : OkE K R C κ t k m) (hk : k ≠ .res := by decide) : OkT K R C κ (tTest t) (mB m) := okTest' h hk fun _ _ _ h => h
theorem okTB {t : TE} {k : Kd} {m : ME W} (h : OkE K R C κ t k m) (hk : k ≠ .res := by decide) : OkT K R C κ (tB t) (mB m) := okTest' h hk fun _ _ _ h => h
theorem okT_then {t : TT} {m : Rho → M W Bool} {β : Type} (h : OkT K R C κ t m) {Q : Bool → Hp → Prop} (rl : Rel K R κ S0 H0 w0 S H σ ρ w)
    (hs : m ρ w ≠ .stuck) (hx : ∀ c fs w', m ρ w = .exc c fs w' → ∀ cls dd S' H', Rel K R κ S0 H0 w0 S' H' σ ρ w' → C.cn c cls → XOk K S' H' dd fs → C.wx cls (some dd) σ H')
    (ho : ∀ b w', m ρ w = .ok b w' → ∀ S' H', Rel K R κ S0 H0 w0 S' H' σ ρ w' → (∀ a o, S a = some o → S' a = some o) → Q b H') : t σ H Q := by
  refine h S0 H0 w0 S H σ ρ w Q rl ?_
  cases e : m ρ w with
  | stuck => exact absurd e hs
  | exc c fs w' => exact hx c fs w' e
  | ok b w' => exact ho b w' e
def mAnd (a b : Rho → M W Bool) : Rho → M W Bool := fun ρ => bnd (a ρ) fun c => if c then b ρ else ret false
def mOr (a b : Rho → M W Bool) : Rho → M W Bool := fun ρ => bnd (a ρ) fun c => if c then ret true else b ρ
def mNot (a : Rho → M W Bool) : Rho → M W Bool := fun ρ => bnd (a ρ) fun c => ret (!c)
theorem postT_mono {Q : Bool → Hp → Prop} {r : Res W Bool} {S1 : Hp} (s1 : ∀ a o, S a = some o → S1 a = some o) (h : PostT K R C κ S0 H0 w0 S σ ρ Q r) : PostT K R C κ S0 H0 w0 S1 σ ρ Q r := by
  cases r with
  | stuck => exact h
  | exc c fs w' => exact h
  | ok b w' => exact fun S' H' r' s' => h S' H' r' fun a o z => s' a o (s1 a o z)
theorem postE_mono {Q : VK} {rk : Kd} {r : Res W D} {S1 : Hp} (s1 : ∀ a o, S a = some o → S1 a = some o) (h : PostE K R C κ S0 H0 w0 S σ ρ rk Q r) : PostE K R C κ S0 H0 w0 S1 σ ρ rk Q r := by
  cases r with
  | stuck => exact h
  | exc c fs w' => exact h
  | ok b w' => exact fun v S' H' r' s' => h v S' H' r' fun a o z => s' a o (s1 a o z)
theorem okAnd {t u : TT} {a b : Rho → M W Bool} (h1 : OkT K R C κ t a) (h2 : OkT K R C κ u b) : OkT K R C κ (tAnd t u) (mAnd a b) := by
  intro S0 H0 w0 S H σ ρ w Q rl q
  refine h1 S0 H0 w0 S H σ ρ w _ rl ?_
  unfold mAnd at q
  cases e : a ρ w with
  | stuck => rw [bnd_stuck e] at q; exact q.elim
  | exc c fs w1 => rw [bnd_exc e] at q; exact q
  | ok c w1 =>
    rw [bnd_ok e] at q
    intro S1 H1 r1 s1
    cases c with
    | true => exact h2 S0 H0 w0 S1 H1 σ ρ w1 Q r1 (postT_mono s1 q)
    | false => exact q S1 H1 r1 s1
theorem okOr {t u : TT} {a b : Rho → M W Bool} (h1 : OkT K R C κ t a) (h2 : OkT K R C κ u b) : OkT K R C κ (tOr t u) (mOr a b) := by
  intro S0 H0 w0 S H σ ρ w Q rl q
  refine h1 S0 H0 w0 S H σ ρ w _ rl ?_
  unfold mOr at q
  cases e : a ρ w with
  | stuck => rw [bnd_stuck e] at q; exact q.elim
  | exc c fs w1 => rw [bnd_exc e] at q; exact q
  | ok c w1 =>
    rw [bnd_ok e] at q
    intro S1 H1 r1 s1
    cases c with
    | false => exact h2 S0 H0 w0 S1 H1 σ ρ w1 Q r1 (postT_mono s1 q)
    | true => exact q S1 H1 r1 s1
theorem okNot {t : TT} {a : Rho → M W Bool} (h1 : OkT K R C κ t a) : OkT K R C κ (tNot t) (mNot a) := by
  intro S0 H0 w0 S H σ ρ w Q rl q
  refine h1 S0 H0 w0 S H σ ρ w _ rl ?_
  unfold mNot at q
  cases e : a ρ w with
  | stuck => rw [bnd_stuck e] at q; exact q.elim
  | exc c fs w1 => rw [bnd_exc e] at q; exact q
  | ok c w1 =>
    rw [bnd_ok e] at q
    exact fun S1 H1 r1 s1 => q S1 H1 r1 s1
/-- as values (bools) -/
def mOfB (m : Rho → M W Bool) : ME W := fun ρ => bnd (m ρ) fun b => ret (.bool b)
theorem okAndV {t u : TE} {ka kb : Kd} {a b : ME W} (h1 : OkE K R C κ t ka a) (h2 : OkE K R C κ u kb b) (na : ka ≠ .res := by decide) : OkE K R C κ (tAndV t u) kb (fun ρ => bnd (mB a ρ) fun c => if c then b ρ else if kb = .dat then ret (.bool false) else stk) := by
  intro S0 H0 w0 S H σ ρ w Q rl q
  refine h1 S0 H0 w0 S H σ ρ w _ rl ?_
  simp only [mB, bnd_bnd] at q
  cases e : a ρ w with
  | stuck => rw [bnd_stuck e] at q; exact q.elim
  | exc c fs w1 => rw [bnd_exc e] at q; exact q
  | ok d w1 =>
    rw [bnd_ok e] at q
    intro v S1 H1 r1 s1 o1
    cases d with
    | bool c =>
      have e1 := seen_bl (o1.seen r1 na)
      refine ⟨c, e1, ?_⟩
      cases c with
      | true => exact h2 S0 H0 w0 S1 H1 σ ρ w1 Q r1 (postE_mono s1 q)
      | false =>
        have q' : PostE K R C κ S0 H0 w0 S σ ρ kb Q ((if kb = .dat then ret (.bool false) else stk : M W D) w1) := q
        by_cases hk : kb = .dat
        · subst hk
          exact q' (.bl false) S1 H1 r1 s1 (.bl false)
        · rw [if_neg hk] at q'; exact q'.elim
    | _ => exact q.elim
theorem okOrV {t u : TE} {ka kb : Kd} {a b : ME W} (h1 : OkE K R C κ t ka a) (h2 : OkE K R C κ u kb b) (na : ka ≠ .res := by decide) : OkE K R C κ (tOrV t u) kb (fun ρ => bnd (mB a ρ) fun c => if c then (if kb = .dat then ret (.bool true) else stk) else b ρ) := by
  intro S0 H0 w0 S H σ ρ w Q rl q
  refine h1 S0 H0 w0 S H σ ρ w _ rl ?_
  simp only [mB, bnd_bnd] at q
  cases e : a ρ w with
  | stuck => rw [bnd_stuck e] at q; exact q.elim
  | exc c fs w1 => rw [bnd_exc e] at q; exact q
  | ok d w1 =>
    rw [bnd_ok e] at q
    intro v S1 H1 r1 s1 o1
    cases d with
    | bool c =>
      have e1 := seen_bl (o1.seen r1 na)
      refine ⟨c, e1, ?_⟩
      cases c with
      | false => exact h2 S0 H0 w0 S1 H1 σ ρ w1 Q r1 (postE_mono s1 q)
      | true =>
        have q' : PostE K R C κ S0 H0 w0 S σ ρ kb Q ((if kb = .dat then ret (.bool true) else stk : M W D) w1) := q
        by_cases hk : kb = .dat
        · subst hk
          exact q' (.bl true) S1 H1 r1 s1 (.bl true)
        · rw [if_neg hk] at q'; exact q'.elim
    | _ => exact q.elim
theorem okNotV {t : TE} {ka : Kd} {a : ME W} (h1 : OkE K R C κ t ka a) (na : ka ≠ .res := by decide) : OkE K R C κ (tNotV t) .dat (fun ρ => bnd (mB a ρ) fun c => ret (.bool (!c))) := by
  intro S0 H0 w0 S H σ ρ w Q rl q
  refine h1 S0 H0 w0 S H σ ρ w _ rl ?_
  simp only [mB, bnd_bnd] at q
  cases e : a ρ w with
  | stuck => rw [bnd_stuck e] at q; exact q.elim
  | exc c fs w1 => rw [bnd_exc e] at q; exact q
  | ok d w1 =>
    rw [bnd_ok e] at q
    intro v S1 H1 r1 s1 o1
    cases d with
    | bool c => exact ⟨c, seen_bl (o1.seen r1 na), q _ S1 H1 r1 s1 (.bl _)⟩
    | _ => exact q.elim
def mIf (c : Rho → M W Bool) (a b : ME W) : ME W := fun ρ => bnd (c ρ) fun k => if k then a ρ else b ρ
theorem okIf {t : TT} {ta tb : TE} {k : Kd} {c : Rho → M W Bool} {a b : ME W} (hc : OkT K R C κ t c) (h1 : OkE K R C κ ta k a) (h2 : OkE K R C κ tb k b) : OkE K R C κ (tIf t ta tb) k (mIf c a b) := by
  intro S0 H0 w0 S H σ ρ w Q rl q
  refine hc S0 H0 w0 S H σ ρ w _ rl ?_
  unfold mIf at q
  cases e : c ρ w with
  | stuck => rw [bnd_stuck e] at q; exact q.elim
  | exc c fs w1 => rw [bnd_exc e] at q; exact q
  | ok c w1 =>
    rw [bnd_ok e] at q
    intro S1 H1 r1 s1
    cases c with
    | true => exact h1 S0 H0 w0 S1 H1 σ ρ w1 Q r1 (postE_mono s1 q)
    | false => exact h2 S0 H0 w0 S1 H1 σ ρ w1 Q r1 (postE_mono s1 q)

/-! ### chains: a < b < c -/
def mChain (f g : Op2) (ma mb mc : ME W) : ME W := fun ρ => bnd (ma ρ) fun d => bnd (mb ρ) fun e => bnd (lift (f d e)) fun z => match z with
  | .bool true => bnd (mc ρ) fun u => lift (g e u)
  | .bool false => ret (.bool false)
  | _ => stk

/-! ### arguments, displays -/
def mNil : Rho → M W (List D) := fun _ => ret []
def mCons (a : ME W) (r : Rho → M W (List D)) : Rho → M W (List D) := fun ρ => bnd (a ρ) fun d => bnd (r ρ) fun ds => ret (d :: ds)
theorem okNil : OkA K R C κ tNil [] mNil := by
  intro S0 H0 w0 S H σ ρ w Q rl q
  exact q [] S H rl (fun _ _ z => z) .nil
theorem resAll_mono {ks : List Kd} {vs : List V} {ds : List D} (hk : ∀ k ∈ ks, k ≠ .own) (e : ∀ a o, S a = some o → S' a = some o) (h : ResAll K R κ S0 H0 w0 S H σ ρ w ks vs ds) : ResAll K R κ S0 H0 w0 S' H' σ ρ w' ks vs ds := by
  induction h with
  | nil => exact .nil
  | cons h1 h2 ih => exact .cons (ResOk.mono (hk _ List.mem_cons_self) e h1) (ih fun k h => hk k (List.mem_cons_of_mem _ h))
/-- all but the last are no new lists -/
theorem okCons {te : TE} {tr : TA} {k : Kd} {ks : List Kd} {me : ME W} {mr : Rho → M W (List D)} (he : OkE K R C κ te k me) (hr : OkA K R C κ tr ks mr) (hk : k ≠ .own := by decide) : OkA K R C κ (tCons te tr) (k :: ks) (mCons me mr) := by
  intro S0 H0 w0 S H σ ρ w Q rl q
  refine he S0 H0 w0 S H σ ρ w _ rl ?_
  unfold mCons at q
  cases e : me ρ w with
  | stuck => rw [bnd_stuck e] at q; exact q.elim
  | exc c fs w1 => rw [bnd_exc e] at q; exact q
  | ok d w1 =>
    rw [bnd_ok e] at q
    intro v S1 H1 r1 s1 o1
    refine hr S0 H0 w0 S1 H1 σ ρ w1 _ r1 ?_
    cases e2 : mr ρ w1 with
    | stuck => rw [bnd_stuck e2] at q; exact q.elim
    | exc c fs w2 => rw [bnd_exc e2] at q; exact q
    | ok ds w2 =>
      rw [bnd_ok e2] at q
      intro vs S2 H2 r2 s2 o2
      exact q (v :: vs) S2 H2 r2 (fun a o z => s2 a o (s1 a o z)) (.cons (ResOk.mono hk s2 o1) o2)
/-- one argument, of any kind -/
theorem okLast {te : TE} {k : Kd} {me : ME W} (he : OkE K R C κ te k me) : OkA K R C κ (tCons te tNil) [k] (mCons me mNil) := by
  intro S0 H0 w0 S H σ ρ w Q rl q
  refine he S0 H0 w0 S H σ ρ w _ rl ?_
  unfold mCons at q
  cases e : me ρ w with
  | stuck => rw [bnd_stuck e] at q; exact q.elim
  | exc c fs w1 => rw [bnd_exc e] at q; exact q
  | ok d w1 =>
    rw [bnd_ok e] at q
    exact fun v S1 H1 r1 s1 o1 => q [v] S1 H1 r1 s1 (.cons o1 .nil)
theorem resAll_dats {vs : List V} {ds : List D} : ∀ {ks : List Kd}, (∀ k ∈ ks, k = .dat) → ResAll K R κ S0 H0 w0 S H σ ρ w ks vs ds → DVs K S vs ds := by
  intro ks hk h
  induction h with
  | nil => exact .nil
  | cons h1 h2 ih =>
    have e := hk _ List.mem_cons_self
    subst e
    exact .cons h1 (ih fun k h => hk k (List.mem_cons_of_mem _ h))
def mTup (m : Rho → M W (List D)) : ME W := fun ρ => bnd (m ρ) fun ds => if ds.length ≤ 1000000 then ret (.tuple ds) else stk
def mLst (m : Rho → M W (List D)) : ME W := fun ρ => bnd (m ρ) fun ds => if ds.length ≤ 1000000 then ret (.list ds) else stk
theorem fresh_slot (rl : Rel K R κ S0 H0 w0 S H σ ρ w) {p : Addr} (hp : H p = none) : ∀ i e, ρ[i]? = some (some e) → kd κ i = .own → σ[i]? ≠ some (some (.ref p)) := fun i e' hi hk hs => by
  obtain ⟨oa, rl⟩ := rl
  obtain ⟨v, g1, g2⟩ := rl.slot i e' hi
  rw [hk] at g2
  obtain ⟨k1, _, _, _, ho, k2, _⟩ := g2
  rw [hs] at g1
  have e1 : V.ref p = v := Option.some.inj (Option.some.inj g1)
  rw [← e1] at k1
  have e2 : p = oa i := V.ref.inj k1
  rw [← e2, hp] at k2
  cases k2
theorem res_new (rl : Rel K R κ S0 H0 w0 S H σ ρ w) {p : Addr} {ho : HO} {d : D} (hp : H p = none) (hr : OwnRep K S ho d) : ResOk K R κ S0 H0 w0 S (upd H p ho) σ ρ w .own (.ref p) d :=
  ⟨p, ho, rfl, rl.out.s_none hp, rl.out.h0_none hp, rl.out.nofp hp, upd_same, hr, fresh_slot rl hp⟩
theorem okTup {ta : TA} {ks : List Kd} {m : Rho → M W (List D)} (h : OkA K R C κ ta ks m) (hk : ∀ k ∈ ks, k = .dat := by decide) : OkE K R C κ (tTup ta) .dat (mTup m) := by
  intro S0 H0 w0 S H σ ρ w Q rl q
  refine h S0 H0 w0 S H σ ρ w _ rl ?_
  unfold mTup at q
  cases e : m ρ w with
  | stuck => rw [bnd_stuck e] at q; exact q.elim
  | exc c fs w1 => rw [bnd_exc e] at q; exact q
  | ok ds w1 =>
    rw [bnd_ok e] at q
    intro vs S1 H1 r1 s1 o1
    have hv := resAll_dats hk o1
    by_cases hl : ds.length ≤ 1000000
    · rw [if_pos hl] at q
      refine ⟨by rw [dvs_len hv]; exact sz_le hl, fun p hp => ?_⟩
      have e := le_upd (ho := .tup vs) (r1.out.s_none hp)
      exact q (.ref p) _ _ (r1.alloc hp) (fun a o z => e a o (s1 a o z)) (.tup (SqT.of upd_same) (dpAll_mono e _ _ hv))
    · rw [if_neg hl] at q; exact q.elim
theorem okLst {ta : TA} {ks : List Kd} {m : Rho → M W (List D)} (h : OkA K R C κ ta ks m) (hk : ∀ k ∈ ks, k = .dat := by decide) : OkE K R C κ (tLst ta) .own (mLst m) := by
  intro S0 H0 w0 S H σ ρ w Q rl q
  refine h S0 H0 w0 S H σ ρ w _ rl ?_
  unfold mLst at q
  cases e : m ρ w with
  | stuck => rw [bnd_stuck e] at q; exact q.elim
  | exc c fs w1 => rw [bnd_exc e] at q; exact q
  | ok ds w1 =>
    rw [bnd_ok e] at q
    intro vs S1 H1 r1 s1 o1
    have hv := resAll_dats hk o1
    by_cases hl : ds.length ≤ 1000000
    · rw [if_pos hl] at q
      exact ⟨by rw [dvs_len hv]; exact sz_le hl, fun p hp => q (.ref p) _ _ (r1.allocOwn hp) s1 (res_new r1 hp hv)⟩
    · rw [if_neg hl] at q; exact q.elim

/-! ### built-ins by values -/
inductive SeenAll (K : PySem.W.Frag) (S H : Hp) : List V → List D → Prop
  | nil : SeenAll K S H [] []
  | cons {v vs d ds} : Seen K S H v d → SeenAll K S H vs ds → SeenAll K S H (v :: vs) (d :: ds)
theorem resAll_seen (rl : Rel K R κ S0 H0 w0 S H σ ρ w) {vs : List V} {ds : List D} {ks : List Kd} (hk : ∀ k ∈ ks, k ≠ .res) (h : ResAll K R κ S0 H0 w0 S H σ ρ w ks vs ds) : SeenAll K S H vs ds := by
  induction h with
  | nil => exact .nil
  | cons h1 h2 ih => exact .cons (h1.seen rl (hk _ List.mem_cons_self)) (ih fun k h => hk k (List.mem_cons_of_mem _ h))
abbrev Rb := List V → Hp → VK → Prop
abbrev OpN := List D → Option D
def CbP (K : PySem.W.Frag) (r : Rb) (g : OpN) : Prop :=
  ∀ S H vs ds z (Q : VK), (∀ a o, S a = some o → H a = some o) → SeenAll K S H vs ds → g ds = some z → (∀ v, DV K S v z → Q v H) → r vs H Q
def CbL (K : PySem.W.Frag) (r : Rb) (g : List D → Option (List D)) : Prop :=
  ∀ S H vs ds z (Q : VK), (∀ a o, S a = some o → H a = some o) → SeenAll K S H vs ds → g ds = some z → (∀ p us, H p = none → DVs K S us z → Q (.ref p) (upd H p (.lst us))) → r vs H Q
def CbU (K : PySem.W.Frag) (r : Rb) (g : List D → Option (List D)) : Prop :=
  ∀ S H vs ds z (Q : VK), (∀ a o, S a = some o → H a = some o) → SeenAll K S H vs ds → g ds = some z → (∀ p us, H p = none → DVs K S us z → Q (.ref p) (upd H p (.tup us))) → (∀ v, DV K S v (.tuple z) → Q v H) → r vs H Q
theorem okCB' {ta : TA} {ks : List Kd} {m : Rho → M W (List D)} {r : Rb} {rk : Kd} {f : List D → M W D} (h : OkA K R C κ ta ks m) (hk : ∀ k ∈ ks, k ≠ .res)
    (hr : ∀ S0 H0 w0 S H σ ρ w vs ds Q, Rel K R κ S0 H0 w0 S H σ ρ w → SeenAll K S H vs ds → PostE K R C κ S0 H0 w0 S σ ρ rk Q (f ds w) → r vs H Q) : OkE K R C κ (tCB r ta) rk (fun ρ => bnd (m ρ) f) := by
  intro S0 H0 w0 S H σ ρ w Q rl q
  refine h S0 H0 w0 S H σ ρ w _ rl ?_
  cases e : m ρ w with
  | stuck => simp only [bnd_stuck e] at q; exact q.elim
  | exc c fs w1 => simp only [bnd_exc e] at q; exact q
  | ok ds w1 =>
    simp only [bnd_ok e] at q
    intro vs S1 H1 r1 s1 o1
    exact hr S0 H0 w0 S1 H1 σ ρ w1 vs ds Q r1 (resAll_seen r1 hk o1) (postE_mono s1 q)
theorem okCB {ta : TA} {ks : List Kd} {m : Rho → M W (List D)} {r : Rb} {g : OpN} (hr : CbP K r g) (h : OkA K R C κ ta ks m) (hk : ∀ k ∈ ks, k ≠ .res := by decide) : OkE K R C κ (tCB r ta) .dat (fun ρ => bnd (m ρ) fun ds => lift (g ds)) := by
  refine okCB' h hk fun S0 H0 w0 S H σ ρ w vs ds Q rl hs q => ?_
  cases e : g ds with
  | none => simp only [e, lift_none] at q; exact q.elim
  | some z =>
    simp only [e, lift_some] at q
    exact hr S H vs ds z Q rl.out.sub hs e fun v hv => q v S H rl (fun _ _ z => z) hv
theorem okCBL {ta : TA} {ks : List Kd} {m : Rho → M W (List D)} {r : Rb} {g : List D → Option (List D)} (hr : CbL K r g) (h : OkA K R C κ ta ks m) (hk : ∀ k ∈ ks, k ≠ .res := by decide) : OkE K R C κ (tCB r ta) .own (fun ρ => bnd (m ρ) fun ds => lift ((g ds).map .list)) := by
  refine okCB' h hk fun S0 H0 w0 S H σ ρ w vs ds Q rl hs q => ?_
  cases e : g ds with
  | none => simp only [e, Option.map_none, lift_none] at q; exact q.elim
  | some z =>
    simp only [e, Option.map_some, lift_some] at q
    exact hr S H vs ds z Q rl.out.sub hs e fun p us hp hv => q (.ref p) S _ (rl.allocOwn hp) (fun _ _ z => z) (res_new rl hp hv)
theorem okCBU {ta : TA} {ks : List Kd} {m : Rho → M W (List D)} {r : Rb} {g : List D → Option (List D)} (hr : CbU K r g) (h : OkA K R C κ ta ks m) (hk : ∀ k ∈ ks, k ≠ .res := by decide) : OkE K R C κ (tCB r ta) .dat (fun ρ => bnd (m ρ) fun ds => lift ((g ds).map .tuple)) := by
  refine okCB' h hk fun S0 H0 w0 S H σ ρ w vs ds Q rl hs q => ?_
  cases e : g ds with
  | none => simp only [e, Option.map_none, lift_none] at q; exact q.elim
  | some z =>
    simp only [e, Option.map_some, lift_some] at q
    refine hr S H vs ds z Q rl.out.sub hs e (fun p us hp hv => ?_) fun v hv => q v S H rl (fun _ _ z => z) hv
    have e := le_upd (ho := .tup us) (rl.out.s_none hp)
    exact q (.ref p) _ _ (rl.alloc hp) e (.tup (SqT.of upd_same) (dpAll_mono e _ _ hv))
end
end B

namespace B
open PySem L2

section
variable {K : PySem.W.Frag} {W : Type} {R : Rs W} {C : Cl}
variable {κ : List Kd} {S0 H0 S H S' H' : Hp} {w0 w w' : W} {σ : L2.St} {ρ : Rho}

/-! ### calls of the program's own defs -/
def ArgOk (K : PySem.W.Frag) (R : Rs W) (S H : Hp) (w : W) : Kd → V → D → Prop
  | .dat, v, d => DV K S v d
  | .own, _, _ => False
  | .bor, v, d => ∃ q ho, v = .ref q ∧ H q = some ho ∧ ¬ R.fp w q ∧ OwnRep K S ho d
  | .res, v, d => v = .ref R.root ∧ d = .none
inductive ArgAll (K : PySem.W.Frag) (R : Rs W) (S H : Hp) (w : W) : List Kd → List V → List D → Prop
  | nil : ArgAll K R S H w [] [] []
  | cons {k ks v vs d ds} : ArgOk K R S H w k v d → ArgAll K R S H w ks vs ds → ArgAll K R S H w (k :: ks) (v :: vs) (d :: ds)
structure In (R : Rs W) (S H : Hp) (w : W) : Prop where
  sub : ∀ a o, S a = some o → H a = some o
  res : R.ok w H
  resS : ∀ a, R.fp w a → S a = none
def PostF (K : PySem.W.Frag) (R : Rs W) (cn : String → Value → Prop) (x : Bool) (rk : Kd) (S H : Hp) (w : W) (Q : VK) (E : XK) : Res W D → Prop
  | .ok d w' => ∀ v S' H', Out R S H w S' H' w' → RetOk K R H S' H' w' rk v d → Q v H'
  | .exc c fs w' => x = true ∧ ∀ cls dd S' H', Out R S H w S' H' w' → cn c cls → XOk K S' H' dd fs → E cls (some dd) H'
  | .stuck => False
/-- the promise: the def answers what F says -/
def spB (K : PySem.W.Frag) (R : Rs W) (cn : String → Value → Prop) (x : Bool) (κs : List Kd) (rk : Kd) (F : List D → M W D) : Sp := fun vs H Q E =>
  ∃ S w ds, In R S H w ∧ ArgAll K R S H w κs vs ds ∧ PostF K R cn x rk S H w Q E (F ds w)

theorem Out.refl (i : In R S H w) : Out R S H w S H w :=
  ⟨i.sub, fun _ _ h => h, fun a h h0 => absurd h0 h, fun _ _ h _ => h, fun _ h => h, i.res, i.resS, fun a h h0 => absurd h h0⟩
theorem Out.in_ (o : Out R S0 H0 w0 S H w) : In R S H w := ⟨o.sub, o.res, o.resS⟩
theorem Out.trans (o : Out R S0 H0 w0 S H w) (u : Out R S H w S' H' w') : Out R S0 H0 w0 S' H' w' where
  sub := u.sub
  sub0 := fun a x h => u.sub0 a x (o.sub0 a x h)
  new := fun a h h0 => by
    cases q : S a with
    | none =>
      have := u.new a h q
      cases q2 : H0 a with
      | none => rfl
      | some y => exact absurd this (o.stay a (by rw [q2]; exact Option.some_ne_none _))
    | some y => exact o.new a (by rw [q]; exact Option.some_ne_none _) h0
  keep := fun a x h hf => u.keep a x (o.keep a x h hf) fun hf2 => by
    have := o.resN a hf2 hf
    rw [this] at h; cases h
  stay := fun a h => u.stay a (o.stay a h)
  res := u.res
  resS := u.resS
  resN := fun a h h0 => by
    by_cases q : R.fp w a
    · exact o.resN a q h0
    · have := u.resN a h q
      cases q2 : H0 a with
      | none => rfl
      | some y => exact absurd this (o.stay a (by rw [q2]; exact Option.some_ne_none _))
theorem Rel.after (r : Rel K R κ S0 H0 w0 S H σ ρ w) (u : Out R S H w S' H' w') : Rel K R κ S0 H0 w0 S' H' σ ρ w' := by
  obtain ⟨oa, r⟩ := r
  refine ⟨oa, r.out.trans u, r.len, fun i d h => ?_, r.inj⟩
  obtain ⟨v, h1, h2⟩ := r.slot i d h
  refine ⟨v, h1, ?_⟩
  cases hk : kd κ i with
  | dat =>
    rw [hk] at h2
    exact dp_mono u.sub0 _ _ h2
  | own =>
    rw [hk] at h2
    obtain ⟨g1, g2, g3, g4, ho, g5, g6⟩ := h2
    refine ⟨g1, ?_, g3, fun hf => ?_, ho, u.keep _ _ g5 g4, own_mono u.sub0 g6⟩
    · cases q : S' (oa i) with
      | none => rfl
      | some y =>
        have := u.new _ (by rw [q]; exact Option.some_ne_none _) g2
        rw [this] at g5; cases g5
    · have := u.resN _ hf g4
      rw [this] at g5; cases g5
  | bor =>
    rw [hk] at h2
    obtain ⟨q, ho, g1, g2, g3, g4⟩ := h2
    exact ⟨q, ho, g1, g2, g3, own_mono u.sub0 g4⟩
  | res => rw [hk] at h2; exact h2
theorem RetOk.res {rk : Kd} {v : V} {d : D} (r : Rel K R κ S0 H0 w0 S H σ ρ w) (u : Out R S H w S' H' w') (h : RetOk K R H S' H' w' rk v d) : ResOk K R κ S0 H0 w0 S' H' σ ρ w' rk v d := by
  cases rk with
  | dat => exact h
  | own =>
    obtain ⟨p, ho, g1, g2, g3, g4, g5, g6⟩ := h
    refine ⟨p, ho, g1, g2, r.out.h0_none g3, g4, g5, g6, fun i e hi hk hs => ?_⟩
    exact fresh_slot r g3 i e hi hk hs
  | bor => exact h.elim
  | res => exact h.elim
theorem ResOk.arg {k : Kd} {v : V} {d : D} (r : Rel K R κ S0 H0 w0 S H σ ρ w) (hk : k ≠ .own) (h : ResOk K R κ S0 H0 w0 S H σ ρ w k v d) : ArgOk K R S H w k v d := by
  cases k with
  | dat => exact h
  | own => exact absurd rfl hk
  | bor =>
    obtain ⟨i, h1, h2, h3⟩ := h
    obtain ⟨oa, r⟩ := r
    obtain ⟨u, g1, g2⟩ := r.slot i d h1
    rw [h2] at g1
    have e : v = u := Option.some.inj (Option.some.inj g1)
    subst e
    rcases h3 with h3 | h3
    · rw [h3] at g2
      obtain ⟨k1, _, _, k4, ho, k2, k3⟩ := g2
      exact ⟨_, ho, k1, k2, k4, k3⟩
    · rw [h3] at g2
      obtain ⟨q, ho, k1, k2, k3, k4⟩ := g2
      refine ⟨q, ho, k1, r.out.keep q ho k2 k3, fun hf => ?_, k4⟩
      have := r.out.resN q hf k3
      rw [this] at k2; cases k2
  | res => exact h
theorem resAll_arg {ks : List Kd} {vs : List V} {ds : List D} (r : Rel K R κ S0 H0 w0 S H σ ρ w) (hk : ∀ k ∈ ks, k ≠ .own) (h : ResAll K R κ S0 H0 w0 S H σ ρ w ks vs ds) : ArgAll K R S H w ks vs ds := by
  induction h with
  | nil => exact .nil
  | cons h1 h2 ih => exact .cons (h1.arg r (hk _ List.mem_cons_self)) (ih fun k h => hk k (List.mem_cons_of_mem _ h))

/-- a callee that lets nothing out -/
def noX {α : Type} (x : M W α) : M W α := fun w => match x w with
  | .exc _ _ _ => .stuck
  | r => r
theorem noX_ok {α : Type} {x : M W α} {a : α} (h : x w = .ok a w') : noX x w = .ok a w' := by unfold noX; rw [h]
@[simp] theorem noX_ret {α : Type} (a : α) : noX (ret a : M W α) = ret a := rfl
theorem okCall0 {ta : TA} {ks : List Kd} {m : Rho → M W (List D)} {cn : String → Value → Prop} {rk : Kd} {F : List D → M W D} {E : XK} (h : OkA K R C κ ta ks m) (hk : ∀ k ∈ ks, k ≠ .own := by decide) :
    OkE K R C κ (tCall (spB K R cn false ks rk F) [] E ta) rk (fun ρ => bnd (m ρ) fun ds => noX (F ds)) := by
  intro S0 H0 w0 S H σ ρ w Q rl q
  refine h S0 H0 w0 S H σ ρ w _ rl ?_
  cases e : m ρ w with
  | stuck => simp only [bnd_stuck e] at q; exact q.elim
  | exc c fs w1 => simp only [bnd_exc e] at q; exact q
  | ok ds w1 =>
    simp only [bnd_ok e, noX] at q
    intro vs S1 H1 r1 s1 o1
    rw [List.append_nil]
    refine ⟨S1, w1, ds, r1.out.in_, resAll_arg r1 hk o1, ?_⟩
    cases e2 : F ds w1 with
    | stuck => rw [e2] at q; exact q.elim
    | exc c fs w2 => rw [e2] at q; exact q.elim
    | ok d w2 =>
      rw [e2] at q
      exact fun v S2 H2 u2 o2 => q v S2 H2 (r1.after u2) (fun a o z => u2.sub0 a o (s1 a o z)) (o2.res r1 u2)
theorem okCallX {ta : TA} {ks : List Kd} {m : Rho → M W (List D)} {rk : Kd} {F : List D → M W D} (h : OkA K R C κ ta ks m) (hk : ∀ k ∈ ks, k ≠ .own := by decide) :
    OkE K R C κ (tCallS (spB K R C.cn true ks rk F) (WE C.wx) ta) rk (fun ρ => bnd (m ρ) F) := by
  intro S0 H0 w0 S H σ ρ w Q rl q
  refine h S0 H0 w0 S H σ ρ w _ rl ?_
  cases e : m ρ w with
  | stuck => simp only [bnd_stuck e] at q; exact q.elim
  | exc c fs w1 => simp only [bnd_exc e] at q; exact q
  | ok ds w1 =>
    simp only [bnd_ok e] at q
    intro vs S1 H1 r1 s1 o1
    refine ⟨S1, w1, ds, r1.out.in_, resAll_arg r1 hk o1, ?_⟩
    cases e2 : F ds w1 with
    | stuck => rw [e2] at q; exact q.elim
    | exc c fs w2 =>
      rw [e2] at q
      exact ⟨rfl, fun cls dd S2 H2 u2 hc hx => q cls dd S2 H2 (r1.after u2) hc hx⟩
    | ok d w2 =>
      rw [e2] at q
      exact fun v S2 H2 u2 o2 => q v S2 H2 (r1.after u2) (fun a o z => u2.sub0 a o (s1 a o z)) (o2.res r1 u2)

/-! ### statements -/
variable {κb κc κ1 κ2 : List Kd} {rk : Kd}
def mSeq (m n : MS W) : MS W := fun ρ => bnd (m ρ) fun o => match o with
  | .nx ρ' => n ρ'
  | .rt d => ret (.rt d)
  | .bk ρ' => ret (.bk ρ')
  | .ct ρ' => ret (.ct ρ')
theorem postS_mono {κn : List Kd} {E : Ends} {r : Res W O} {S1 : Hp} (s1 : ∀ a o, S a = some o → S1 a = some o) (h : PostS K R C κn κb κc rk S0 H0 w0 S E r) : PostS K R C κn κb κc rk S0 H0 w0 S1 E r := by
  cases r with
  | stuck => exact h
  | exc c fs w' => exact h
  | ok o w' =>
    cases o with
    | nx ρ' => exact fun σ' S' H' r' s' => h σ' S' H' r' fun a o z => s' a o (s1 a o z)
    | rt d => exact h
    | bk ρ' => exact fun σ' S' H' r' s' => h σ' S' H' r' fun a o z => s' a o (s1 a o z)
    | ct ρ' => exact fun σ' S' H' r' s' => h σ' S' H' r' fun a o z => s' a o (s1 a o z)
theorem okSeq {t u : TS} {m n : MS W} (h1 : OkS K R C κb κc rk κ t m κ1) (h2 : OkS K R C κb κc rk κ1 u n κ2) :
    OkS K R C κb κc rk κ (tSeq t u) (mSeq m n) κ2 := by
  intro S0 H0 w0 S H σ ρ w E rl q
  refine h1 S0 H0 w0 S H σ ρ w { E with nx := u E } rl ?_
  unfold mSeq at q
  cases e : m ρ w with
  | stuck => rw [bnd_stuck e] at q; exact q.elim
  | exc c fs w1 => rw [bnd_exc e] at q; exact q
  | ok o w1 =>
    rw [bnd_ok e] at q
    cases o with
    | nx ρ' =>
      intro σ' S1 H1 r1 s1
      exact h2 S0 H0 w0 S1 H1 σ' ρ' w1 E r1 (postS_mono s1 q)
    | rt d => exact q
    | bk ρ' => exact q
    | ct ρ' => exact q
def mNx : MS W := fun ρ => ret (.nx ρ)
theorem okNext : OkS K R C κb κc rk κ tNext mNx κ := by
  intro S0 H0 w0 S H σ ρ w E rl q
  exact q σ S H rl fun _ _ h => h
theorem okBreak : OkS K R C κ κc rk κ tBreak (fun ρ => ret (.bk ρ)) κ1 := by
  intro S0 H0 w0 S H σ ρ w E rl q
  exact q σ S H rl fun _ _ h => h
theorem okCont : OkS K R C κb κ rk κ tCont (fun ρ => ret (.ct ρ)) κ1 := by
  intro S0 H0 w0 S H σ ρ w E rl q
  exact q σ S H rl fun _ _ h => h
/-- an own slot becomes data ahead of a statement -/
theorem OkS.freeze {t : TS} {m : MS W} {i : Nat} (h : OkS K R C κb κc rk (κ.set i .dat) t m κ2) (hk : kd κ i = .own := by rfl) (hi : i < κ.length := by decide) : OkS K R C κb κc rk κ t m κ2 := by
  intro S0 H0 w0 S H σ ρ w E rl q
  obtain ⟨S1, r1, s1⟩ := rl.freeze hk hi
  exact h S0 H0 w0 S1 H σ ρ w E r1 (postS_mono s1 q)
/-- .. behind it -/
theorem OkS.freezeN {t : TS} {m : MS W} {i : Nat} (h : OkS K R C κb κc rk κ t m κ2) (hk : kd κ2 i = .own := by rfl) (hi : i < κ2.length := by decide) : OkS K R C κb κc rk κ t m (κ2.set i .dat) := by
  intro S0 H0 w0 S H σ ρ w E rl q
  refine h S0 H0 w0 S H σ ρ w E rl ?_
  cases e : m ρ w with
  | stuck => rw [e] at q; exact q
  | exc c fs w1 => rw [e] at q; exact q
  | ok o w1 =>
    rw [e] at q
    cases o with
    | nx ρ' =>
      intro σ' S1 H1 r1 s1
      obtain ⟨S2, r2, s2⟩ := r1.freeze hk hi
      exact q σ' S2 H1 r2 fun a o z => s2 a o (s1 a o z)
    | rt d => exact q
    | bk ρ' => exact q
    | ct ρ' => exact q
/-- behind a statement that never goes on, anything -/
theorem OkS.never {t : TS} {m : MS W} (h : OkS K R C κb κc rk κ t m κ1) (hn : ∀ ρ w ρ' w', m ρ w ≠ .ok (.nx ρ') w') : OkS K R C κb κc rk κ t m κ2 := by
  intro S0 H0 w0 S H σ ρ w E rl q
  refine h S0 H0 w0 S H σ ρ w E rl ?_
  cases e : m ρ w with
  | stuck => rw [e] at q; exact q
  | exc c fs w1 => rw [e] at q; exact q
  | ok o w1 =>
    rw [e] at q
    cases o with
    | nx ρ' => exact absurd e (hn ρ w ρ' w1)
    | rt d => exact q
    | bk ρ' => exact q
    | ct ρ' => exact q
theorem okPass : OkS K R C κb κc rk κ tNext mNx κ := okNext
def mDrop (m : ME W) : MS W := fun ρ => bnd (m ρ) fun _ => ret (.nx ρ)
theorem okDrop {te : TE} {k : Kd} {m : ME W} (h : OkE K R C κ te k m) : OkS K R C κb κc rk κ (tDrop te) (mDrop m) κ := by
  intro S0 H0 w0 S H σ ρ w E rl q
  refine h S0 H0 w0 S H σ ρ w _ rl ?_
  unfold mDrop at q
  cases e : m ρ w with
  | stuck => rw [bnd_stuck e] at q; exact q.elim
  | exc c fs w1 => rw [bnd_exc e] at q; exact fun cls dd S' H' r' hc hx => q cls dd σ S' H' r'.out hc hx
  | ok d w1 =>
    rw [bnd_ok e] at q
    exact fun v S1 H1 r1 s1 o1 => q σ S1 H1 r1 s1
def mRet (m : ME W) : MS W := fun ρ => bnd (m ρ) fun d => ret (.rt d)
theorem ResOk.ret {v : V} {d : D} (hk : rk = .dat ∨ rk = .own) (h : ResOk K R κ S0 H0 w0 S H σ ρ w rk v d) : RetOk K R H0 S H w rk v d := by
  rcases hk with rfl | rfl
  · exact h
  · obtain ⟨p, ho, g1, g2, g3, g4, g5, g6, _⟩ := h
    exact ⟨p, ho, g1, g2, g3, g4, g5, g6⟩
theorem okRet {te : TE} {m : ME W} (h : OkE K R C κ te rk m) (hk : rk = .dat ∨ rk = .own := by decide) : OkS K R C κb κc rk κ (tRet te) (mRet m) κ2 := by
  intro S0 H0 w0 S H σ ρ w E rl q
  refine h S0 H0 w0 S H σ ρ w _ rl ?_
  unfold mRet at q
  cases e : m ρ w with
  | stuck => rw [bnd_stuck e] at q; exact q.elim
  | exc c fs w1 => rw [bnd_exc e] at q; exact fun cls dd S' H' r' hc hx => q cls dd σ S' H' r'.out hc hx
  | ok d w1 =>
    rw [bnd_ok e] at q
    exact fun v S1 H1 r1 s1 o1 => q v S1 H1 r1.out (o1.ret hk)
/-- an own slot's list handed back -/
theorem okRetOwn {i : Nat} (hk : kd κ i = .own := by rfl) : OkS K R C κb κc .own κ (tRet (tVar i)) (mRet (mVar i)) κ2 := by
  intro S0 H0 w0 S H σ ρ w E rl q
  unfold mRet mVar at q
  cases e : ρ[i]? with
  | none => simp only [e, bnd_stk] at q; exact q.elim
  | some x =>
    cases x with
    | none => simp only [e, bnd_stk] at q; exact q.elim
    | some d =>
      simp only [e, bnd_ret] at q
      obtain ⟨oa, r'⟩ := id rl
      obtain ⟨v, h1, h2⟩ := r'.slot i d e
      rw [hk] at h2
      obtain ⟨g1, g2, g3, g4, ho, g5, g6⟩ := h2
      exact ⟨v, h1, q v S H r'.out ⟨_, ho, g1, g2, g3, g4, g5, g6⟩⟩
def mRetN : MS W := fun _ => ret (.rt .none)
theorem okRetN : OkS K R C κb κc .dat κ tRetN mRetN κ2 := by
  intro S0 H0 w0 S H σ ρ w E rl q
  exact q .non S H rl.out .non
def mIfS (c : Rho → M W Bool) (m n : MS W) : MS W := fun ρ => bnd (c ρ) fun b => if b then m ρ else n ρ
theorem okIfS {tc : TT} {t u : TS} {c : Rho → M W Bool} {m n : MS W} (hc : OkT K R C κ tc c) (h1 : OkS K R C κb κc rk κ t m κ2) (h2 : OkS K R C κb κc rk κ u n κ2) : OkS K R C κb κc rk κ (tIfS tc t u) (mIfS c m n) κ2 := by
  intro S0 H0 w0 S H σ ρ w E rl q
  refine hc S0 H0 w0 S H σ ρ w _ rl ?_
  unfold mIfS at q
  cases e : c ρ w with
  | stuck => rw [bnd_stuck e] at q; exact q.elim
  | exc c fs w1 => rw [bnd_exc e] at q; exact fun cls dd S' H' r' hc hx => q cls dd σ S' H' r'.out hc hx
  | ok b w1 =>
    rw [bnd_ok e] at q
    intro S1 H1 r1 s1
    cases b with
    | true => exact h1 S0 H0 w0 S1 H1 σ ρ w1 E r1 (postS_mono s1 q)
    | false => exact h2 S0 H0 w0 S1 H1 σ ρ w1 E r1 (postS_mono s1 q)
def mAsg (i : Nat) (m : ME W) : MS W := fun ρ => bnd (m ρ) fun d => ret (.nx (ρ.set i (some d)))
theorem okAsg {te : TE} {i : Nat} {m : ME W} (h : OkE K R C κ te .dat m) (hi : i < κ.length := by decide) : OkS K R C κb κc rk κ (tAsg te (gName i)) (mAsg i m) (κ.set i .dat) := by
  intro S0 H0 w0 S H σ ρ w E rl q
  refine h S0 H0 w0 S H σ ρ w _ rl ?_
  unfold mAsg at q
  cases e : m ρ w with
  | stuck => rw [bnd_stuck e] at q; exact q.elim
  | exc c fs w1 => rw [bnd_exc e] at q; exact fun cls dd S' H' r' hc hx => q cls dd σ S' H' r'.out hc hx
  | ok d w1 =>
    rw [bnd_ok e] at q
    exact fun v S1 H1 r1 s1 o1 => q _ S1 H1 (r1.setDat hi o1) s1
theorem okAsgOwn {te : TE} {i : Nat} {m : ME W} (h : OkE K R C κ te .own m) (hi : i < κ.length := by decide) : OkS K R C κb κc rk κ (tAsg te (gName i)) (mAsg i m) (κ.set i .own) := by
  intro S0 H0 w0 S H σ ρ w E rl q
  refine h S0 H0 w0 S H σ ρ w _ rl ?_
  unfold mAsg at q
  cases e : m ρ w with
  | stuck => rw [bnd_stuck e] at q; exact q.elim
  | exc c fs w1 => rw [bnd_exc e] at q; exact fun cls dd S' H' r' hc hx => q cls dd σ S' H' r'.out hc hx
  | ok d w1 =>
    rw [bnd_ok e] at q
    exact fun v S1 H1 r1 s1 o1 => q _ S1 H1 (r1.setOwn hi o1) s1

/-! targets of data -/
/-- but for the slots as, the same -/
def But (as : List Nat) (σ σ' : L2.St) : Prop := σ'.length = σ.length ∧ ∀ i, i ∉ as → σ'[i]? = σ[i]?
theorem But.refl {σ : L2.St} : But [] σ σ := ⟨rfl, fun _ _ => rfl⟩
/-- a target: what it makes of the slots -/
def OkG (κ : List Kd) (g : TG) (f : D → Rho → Option Rho) (κ' : List Kd) (as : List Nat) : Prop :=
  ∀ S0 H0 w0 S H σ ρ w v d ρ' (Q : L2.St → Hp → Prop), Rel K R κ S0 H0 w0 S H σ ρ w → DV K S v d → f d ρ = some ρ' → (∀ σ', But as σ σ' → Rel K R κ' S0 H0 w0 S H σ' ρ' w → Q σ' H) → g v σ H Q
def OkGs (κ : List Kd) (g : TGs) (f : List D → Rho → Option Rho) (κ' : List Kd) (as : List Nat) : Prop :=
  ∀ S0 H0 w0 S H σ ρ w vs ds ρ' (Q : L2.St → Hp → Prop), Rel K R κ S0 H0 w0 S H σ ρ w → DVs K S vs ds → f ds ρ = some ρ' → (∀ σ', But as σ σ' → Rel K R κ' S0 H0 w0 S H σ' ρ' w → Q σ' H) → g vs σ H Q
def gN (i : Nat) : D → Rho → Option Rho := fun d ρ => some (ρ.set i (some d))
theorem okGName {i : Nat} (hi : i < κ.length := by decide) : OkG (K := K) (R := R) κ (gName i) (gN i) (κ.set i .dat) [i] := by
  intro S0 H0 w0 S H σ ρ w v d ρ' Q rl hv hf q
  cases hf
  exact q _ ⟨List.length_set .., fun j hj => List.getElem?_set_ne fun e => hj (by rw [e]; exact List.mem_cons_self)⟩ (rl.setDat hi hv)
def gNil' : List D → Rho → Option Rho | [], ρ => some ρ | _, _ => none
def gCons' (f : D → Rho → Option Rho) (fs : List D → Rho → Option Rho) : List D → Rho → Option Rho
  | d :: ds, ρ => (f d ρ).bind (fs ds)
  | [], _ => none
theorem okGNil : OkGs (K := K) (R := R) κ gNil gNil' κ [] := by
  intro S0 H0 w0 S H σ ρ w vs ds ρ' Q rl hv hf q
  cases hv with
  | nil => cases hf; exact ⟨rfl, q σ .refl rl⟩
  | cons _ _ => cases hf
theorem okGCons {t : TG} {u : TGs} {f : D → Rho → Option Rho} {fs : List D → Rho → Option Rho} {as bs : List Nat} (h1 : OkG (K := K) (R := R) κ t f κ1 as) (h2 : OkGs (K := K) (R := R) κ1 u fs κ2 bs) : OkGs (K := K) (R := R) κ (gCons t u) (gCons' f fs) κ2 (as ++ bs) := by
  intro S0 H0 w0 S H σ ρ w vs ds ρ' Q rl hv hf q
  cases hv with
  | nil => cases hf
  | cons g1 g2 =>
    rename_i v vs d ds
    have hf' : (f d ρ).bind (fs ds) = some ρ' := hf
    cases e : f d ρ with
    | none => rw [e] at hf'; cases hf'
    | some ρ1 =>
      rw [e] at hf'
      exact ⟨v, vs, rfl, h1 S0 H0 w0 S H σ ρ w v d ρ1 _ rl g1 e fun σ1 l1 r1 => h2 S0 H0 w0 S H σ1 ρ1 w vs ds ρ' Q r1 g2 hf' fun σ2 l2 r2 => q σ2 ⟨l2.1.trans l1.1, fun j hj => (l2.2 j fun z => hj (List.mem_append_right _ z)).trans (l1.2 j fun z => hj (List.mem_append_left _ z))⟩ r2⟩
def gT (n : Nat) (fs : List D → Rho → Option Rho) : D → Rho → Option Rho
  | .tuple ds, ρ => if ds.length = n then fs ds ρ else none
  | _, _ => none
theorem okGTup {t : TGs} {n : Nat} {fs : List D → Rho → Option Rho} {as : List Nat} (h : OkGs (K := K) (R := R) κ t fs κ2 as) : OkG (K := K) (R := R) κ (gTup K n t) (gT n fs) κ2 as := by
  intro S0 H0 w0 S H σ ρ w v d ρ' Q rl hv hf q
  unfold gT at hf
  split at hf
  · split at hf
    · rename_i hl
      cases hv with
      | tup g1 g2 => exact ⟨_, _, rfl, sqT_sub rl.out.sub g1, by rw [dvs_len g2]; exact hl, h S0 H0 w0 S H σ ρ w _ _ ρ' Q rl g2 hf q⟩
    · cases hf
  · cases hf
def mAsgT (g : D → Rho → Option Rho) (m : ME W) : MS W := fun ρ => bnd (m ρ) fun d => bnd (lift (g d ρ)) fun ρ' => ret (.nx ρ')
theorem okAsgT {te : TE} {g : TG} {f : D → Rho → Option Rho} {m : ME W} {as : List Nat} (h : OkE K R C κ te .dat m) (hg : OkG (K := K) (R := R) κ g f κ2 as) : OkS K R C κb κc rk κ (tAsg te g) (mAsgT f m) κ2 := by
  intro S0 H0 w0 S H σ ρ w E rl q
  refine h S0 H0 w0 S H σ ρ w _ rl ?_
  unfold mAsgT at q
  cases e : m ρ w with
  | stuck => rw [bnd_stuck e] at q; exact q.elim
  | exc c fs w1 => rw [bnd_exc e] at q; exact fun cls dd S' H' r' hc hx => q cls dd σ S' H' r'.out hc hx
  | ok d w1 =>
    rw [bnd_ok e] at q
    intro v S1 H1 r1 s1 o1
    cases e2 : f d ρ with
    | none => rw [e2, lift_none, bnd_stk] at q; exact q.elim
    | some ρ' =>
      rw [e2, lift_some, bnd_ret] at q
      exact hg S0 H0 w0 S1 H1 σ ρ w1 v d ρ' _ r1 o1 e2 fun σ' _ r' => q σ' S1 H1 r' s1

/-! name op= e -/
def mAug (i : Nat) (g : Op2) (m : ME W) : MS W := fun ρ => bnd (mVar i ρ) fun d => bnd (m ρ) fun e => bnd (lift (g d e)) fun z => ret (.nx (ρ.set i (some z)))
theorem okAug {te : TE} {i : Nat} {k : Kd} {m : ME W} {ti : TIp} {g : Op2} (hr : OpP K ti g) (h : OkE K R C κ te k m) (hk : kd κ i = .dat := by rfl) (hk2 : k ≠ .res := by decide) (hi : i < κ.length := by decide) : OkS K R C κb κc rk κ (tAug i te ti) (mAug i g m) (κ.set i .dat) := by
  intro S0 H0 w0 S H σ ρ w E rl q
  unfold mAug mVar at q
  cases e0 : ρ[i]? with
  | none => simp only [e0, bnd_stk] at q; exact q.elim
  | some x =>
    cases x with
    | none => simp only [e0, bnd_stk] at q; exact q.elim
    | some d =>
      simp only [e0, bnd_ret] at q
      obtain ⟨oa, r'⟩ := id rl
      obtain ⟨v, h1, h2⟩ := r'.slot i d e0
      rw [hk] at h2
      refine ⟨v, h1, h S0 H0 w0 S H σ ρ w _ rl ?_⟩
      cases e : m ρ w with
      | stuck => rw [bnd_stuck e] at q; exact q.elim
      | exc c fs w1 => rw [bnd_exc e] at q; exact fun cls dd S' H' r' hc hx => q cls dd σ S' H' r'.out hc hx
      | ok d2 w1 =>
        rw [bnd_ok e] at q
        intro v2 S1 H1 r1 s1 o1
        cases e2 : g d d2 with
        | none => rw [e2, lift_none, bnd_stk] at q; exact q.elim
        | some z =>
          rw [e2, lift_some, bnd_ret] at q
          exact hr S1 H1 v v2 d d2 z _ r1.out.sub (.inl (dp_mono s1 _ _ h2)) (o1.seen r1 hk2) e2 fun u hu => q _ S1 H1 (r1.setDat hi hu) s1
theorem oIpAdd : OpP K (ipI fun i j => i + j) gAdd := by
  intro S H x y d e u Q sub hx hy h q
  unfold gAdd at h; split at h
  · cases h
    rw [seen_int hx, seen_int hy]
    exact ⟨_, _, rfl, rfl, q _ (.int _)⟩
  · cases h
theorem oIpSub : OpP K (ipI fun i j => i - j) gMns := by
  intro S H x y d e u Q sub hx hy h q
  unfold gMns at h; split at h
  · cases h
    rw [seen_int hx, seen_int hy]
    exact ⟨_, _, rfl, rfl, q _ (.int _)⟩
  · cases h

/-! an own list changes: x.append(e), x.extend(e) -/
def mMut (i : Nat) (f : D → List D → Option D) (m : Rho → M W (List D)) : MS W := fun ρ => bnd (mVar i ρ) fun d => bnd (m ρ) fun es => bnd (lift (f d es)) fun z => ret (.nx (ρ.set i (some z)))
def gApp : D → List D → Option D | .list ds, [e] => if ds.length < 1000000 then some (.list (ds ++ [e])) else none | _, _ => none
def gExt : D → List D → Option D | .list ds, [.list es] => if ds.length + es.length ≤ 1000000 then some (.list (ds ++ es)) else none | _, _ => none
def MutP (K : PySem.W.Frag) (r : V → List V → Hp → VK → Prop) (f : D → List D → Option D) : Prop :=
  ∀ S H p vs ds us es z (Q : VK), (∀ a o, S a = some o → H a = some o) → H p = some (.lst vs) → DVs K S vs ds → SeenAll K S H us es → f (.list ds) es = some z →
    (∀ vs' ds', z = .list ds' → DVs K S vs' ds' → Q .non (upd H p (.lst vs'))) → r (.ref p) us H Q
/-- .. its arguments data -/
def MutD (K : PySem.W.Frag) (r : V → List V → Hp → VK → Prop) (f : D → List D → Option D) : Prop :=
  ∀ S H p vs ds us es z (Q : VK), (∀ a o, S a = some o → H a = some o) → H p = some (.lst vs) → DVs K S vs ds → DVs K S us es → f (.list ds) es = some z →
    (∀ vs' ds', z = .list ds' → DVs K S vs' ds' → Q .non (upd H p (.lst vs'))) → r (.ref p) us H Q
theorem ownRep_list {ho : HO} {d : D} (h : OwnRep K S ho d) : ∃ vs ds, ho = .lst vs ∧ d = .list ds ∧ DVs K S vs ds := by
  cases ho with
  | lst vs =>
    cases d with
    | list ds => exact ⟨vs, ds, rfl, rfl, h⟩
    | _ => exact h.elim
  | _ => exact h.elim
theorem okMut' {ta : TA} {ks : List Kd} {i : Nat} {m : Rho → M W (List D)} {r : V → List V → Hp → VK → Prop} {f : D → List D → Option D} (h : OkA K R C κ ta ks m) (hk : kd κ i = .own)
    (hr : ∀ S0 H0 w0 S H σ ρ w p vs ds us es z (Q : VK), Rel K R κ S0 H0 w0 S H σ ρ w → H p = some (.lst vs) → DVs K S vs ds → ResAll K R κ S0 H0 w0 S H σ ρ w ks us es → f (.list ds) es = some z →
      (∀ vs' ds', z = .list ds' → DVs K S vs' ds' → Q .non (upd H p (.lst vs'))) → r (.ref p) us H Q) :
    OkS K R C κb κc rk κ (tDrop (tBM K "list" r (tVar i) ta)) (mMut i f m) κ := by
  intro S0 H0 w0 S H σ ρ w E rl q
  unfold mMut mVar at q
  cases e0 : ρ[i]? with
  | none => simp only [e0, bnd_stk] at q; exact q.elim
  | some x =>
    cases x with
    | none => simp only [e0, bnd_stk] at q; exact q.elim
    | some d =>
      simp only [e0, bnd_ret] at q
      obtain ⟨p, ho, hσ, hp, hr0, hwr⟩ := rl.write hk e0 (d' := d)
      obtain ⟨vs, ds, rfl, rfl, hv⟩ := ownRep_list hr0
      refine ⟨_, hσ, .inl ⟨rfl, _, .inl (.inl hp)⟩, h S0 H0 w0 S H σ ρ w _ rl ?_⟩
      cases e : m ρ w with
      | stuck => rw [bnd_stuck e] at q; exact q.elim
      | exc c fs w1 => rw [bnd_exc e] at q; exact fun cls dd S' H' r' hc hx => q cls dd σ S' H' r'.out hc hx
      | ok es w1 =>
        rw [bnd_ok e] at q
        intro us S1 H1 r1 s1 o1
        cases e2 : f (.list ds) es with
        | none => rw [e2, lift_none, bnd_stk] at q; exact q.elim
        | some z =>
          rw [e2, lift_some, bnd_ret] at q
          obtain ⟨p', ho', hσ', hp', hr', hwr'⟩ := r1.write hk e0 (d' := z)
          rw [hσ] at hσ'
          have ep : p = p' := V.ref.inj (Option.some.inj (Option.some.inj hσ'))
          subst ep
          obtain ⟨vs1, ds1, rfl, hd1, hv1⟩ := ownRep_list hr'
          cases hd1
          refine hr S0 H0 w0 S1 H1 σ ρ w1 p vs1 ds us es z _ r1 hp' hv1 o1 e2 fun vs' ds' ez hv' => ?_
          subst ez
          exact q σ S1 _ (hwr' (.lst vs') hv') s1
theorem okMut {ta : TA} {ks : List Kd} {i : Nat} {m : Rho → M W (List D)} {r : V → List V → Hp → VK → Prop} {f : D → List D → Option D} (hr : MutP K r f) (h : OkA K R C κ ta ks m) (hk : kd κ i = .own := by rfl) (hks : ∀ k ∈ ks, k ≠ .res := by decide) :
    OkS K R C κb κc rk κ (tDrop (tBM K "list" r (tVar i) ta)) (mMut i f m) κ :=
  okMut' h hk fun S0 H0 w0 S H σ ρ w p vs ds us es z Q rl hp hv ho hf q => hr S H p vs ds us es z Q rl.out.sub hp hv (resAll_seen rl hks ho) hf q
theorem okMutD {ta : TA} {ks : List Kd} {i : Nat} {m : Rho → M W (List D)} {r : V → List V → Hp → VK → Prop} {f : D → List D → Option D} (hr : MutD K r f) (h : OkA K R C κ ta ks m) (hk : kd κ i = .own := by rfl) (hks : ∀ k ∈ ks, k = .dat := by decide) :
    OkS K R C κb κc rk κ (tDrop (tBM K "list" r (tVar i) ta)) (mMut i f m) κ :=
  okMut' h hk fun S0 H0 w0 S H σ ρ w p vs ds us es z Q rl hp hv ho hf q => hr S H p vs ds us es z Q rl.out.sub hp hv (resAll_dats hks ho) hf q
theorem sz_lt' {n : Nat} (h : n < 1000000) : n < sizeLine := Nat.lt_of_lt_of_le h (by decide)
theorem muApp : MutD K rAppend gApp := by
  intro S H p vs ds us es z Q sub hp hv hu hf q
  unfold gApp at hf
  split at hf
  · rename_i ed
    cases ed
    split at hf
    · rename_i hl
      cases hf
      cases hu with
      | cons g1 g2 =>
        cases g2
        exact ⟨p, vs, _, rfl, rfl, hp, by rw [dvs_len hv]; exact sz_lt' hl, q _ _ rfl (dvs_app hv (.cons g1 .nil))⟩
    · cases hf
  · cases hf
theorem muExt : MutP K rExtend gExt := by
  intro S H p vs ds us es z Q sub hp hv hu hf q
  unfold gExt at hf
  split at hf
  · rename_i ed
    cases ed
    split at hf
    · rename_i hl
      cases hf
      cases hu with
      | cons g1 g2 =>
        cases g2
        obtain ⟨p2, vs2, rfl, h2, hv2⟩ := seen_list sub g1
        refine ⟨p, p2, vs, vs2, rfl, rfl, hp, h2, ?_, q _ _ rfl (dvs_app hv hv2)⟩
        rw [dvs_len hv, dvs_len hv2]
        exact sz_le hl
    · cases hf
  · cases hf

/-! x[i] = e, x an own list -/
def mSetI (i : Nat) (mi me : ME W) : MS W := fun ρ => bnd (me ρ) fun e => bnd (mVar i ρ) fun d => bnd (mi ρ) fun k => match d, k with
  | .list ds, .int j => bnd (lift (ixN ds.length j)) fun n => ret (.nx (ρ.set i (some (.list (ds.set n e)))))
  | _, _ => stk
theorem okSetI {te ti : TE} {i : Nat} {ki : Kd} {mi me : ME W} (he : OkE K R C κ te .dat me) (hi : OkE K R C κ ti ki mi) (hk : kd κ i = .own := by rfl) (hki : ki ≠ .res := by decide) :
    OkS K R C κb κc rk κ (tAsg te (gSub (tVar i) ti rSetL)) (mSetI i mi me) κ := by
  intro S0 H0 w0 S H σ ρ w E rl q
  refine he S0 H0 w0 S H σ ρ w _ rl ?_
  unfold mSetI at q
  cases e : me ρ w with
  | stuck => rw [bnd_stuck e] at q; exact q.elim
  | exc c fs w1 => rw [bnd_exc e] at q; exact fun cls dd S' H' r' hc hx => q cls dd σ S' H' r'.out hc hx
  | ok u w1 =>
    rw [bnd_ok e] at q
    intro v S1 H1 r1 s1 o1
    unfold mVar at q
    cases e0 : ρ[i]? with
    | none => simp only [e0, bnd_stk] at q; exact q.elim
    | some x =>
      cases x with
      | none => simp only [e0, bnd_stk] at q; exact q.elim
      | some d =>
        simp only [e0, bnd_ret] at q
        obtain ⟨p, ho, hσ, hp, hr0, hwr⟩ := r1.write hk e0 (d' := d)
        refine ⟨_, hσ, hi S0 H0 w0 S1 H1 σ ρ w1 _ r1 ?_⟩
        cases e2 : mi ρ w1 with
        | stuck => rw [bnd_stuck e2] at q; exact q.elim
        | exc c fs w2 => rw [bnd_exc e2] at q; exact fun cls dd S' H' r' hc hx => q cls dd σ S' H' r'.out hc hx
        | ok k w2 =>
          rw [bnd_ok e2] at q
          intro vk S2 H2 r2 s2 o2
          cases d with
          | list ds =>
            cases k with
            | int j =>
              cases e3 : ixN ds.length j with
              | none => simp only [e3, lift_none, bnd_stk] at q; exact q.elim
              | some n =>
                simp only [e3, lift_some, bnd_ret] at q
                obtain ⟨p', ho', hσ', hp', hr', hwr'⟩ := r2.write hk e0 (d' := .list (ds.set n u))
                rw [hσ] at hσ'
                have ep : p = p' := V.ref.inj (Option.some.inj (Option.some.inj hσ'))
                subst ep
                obtain ⟨vs1, ds1, rfl, hd1, hv1⟩ := ownRep_list hr'
                cases hd1
                rw [seen_int (o2.seen r2 hki)]
                exact ⟨p, vs1, j, n, rfl, rfl, hp', by rw [dvs_len hv1]; exact e3, q σ S2 _ (hwr' (.lst (vs1.set n v)) (dvs_set n hv1 (dp_mono s2 _ _ o1))) fun a o z => s2 a o (s1 a o z)⟩
            | _ => exact q.elim
          | _ => exact q.elim
end
end B

namespace B
open PySem L2

section
variable {K : PySem.W.Frag} {W : Type} {R : Rs W} {C : Cl}
variable {κ : List Kd} {S0 H0 S H S' H' : Hp} {w0 w w' : W} {σ : L2.St} {ρ : Rho}
variable {κb κc κ1 κ2 : List Kd} {rk : Kd}

/-! ### what is walked -/
def Yields (K : PySem.W.Frag) (R : Rs W) (J : It) (S0 H0 : Hp) (w0 : W) (S1 : Hp) (ds : List D) : Prop :=
  ∀ i S H w, Out R S0 H0 w0 S H w → (∀ a o, S1 a = some o → S a = some o) →
    (ds.length ≤ i → J.stop i H) ∧ ∀ d, ds[i]? = some d → J.go i H ∧ ∀ x H', J.yld i H x H' →
      (H' = H ∧ DV K S x d) ∨ ∃ p us es, H p = none ∧ H' = upd H p (.tup us) ∧ x = .ref p ∧ d = .tuple es ∧ DVs K S us es
def PostI (K : PySem.W.Frag) (R : Rs W) (C : Cl) (κ : List Kd) (S0 H0 : Hp) (w0 : W) (S : Hp) (σ : L2.St) (ρ : Rho) (Rf : It → Hp → Prop) : Res W (List D) → Prop
  | .ok ds w' => ∀ J S' H', Rel K R κ S0 H0 w0 S' H' σ ρ w' → (∀ a o, S a = some o → S' a = some o) → Yields K R J S0 H0 w0 S' ds → Rf J H'
  | .exc c fs w' => ∀ cls dd S' H', Rel K R κ S0 H0 w0 S' H' σ ρ w' → C.cn c cls → XOk K S' H' dd fs → C.wx cls (some dd) σ H'
  | .stuck => False
def OkI (K : PySem.W.Frag) (R : Rs W) (C : Cl) (κ : List Kd) (wi : TI) (m : Rho → M W (List D)) : Prop :=
  ∀ S0 H0 w0 S H σ ρ w Rf, Rel K R κ S0 H0 w0 S H σ ρ w → PostI K R C κ S0 H0 w0 S σ ρ Rf (m ρ w) → wi σ H Rf

/-! ### for -/
def mForL (g : D → Rho → Option Rho) (b : MS W) : List D → MS W
  | [], ρ => ret (.nx ρ)
  | d :: ds, ρ => bnd (lift (g d ρ)) fun ρ1 => bnd (b ρ1) fun o => match o with
    | .nx ρ2 => mForL g b ds ρ2
    | .ct ρ2 => mForL g b ds ρ2
    | .bk ρ2 => ret (.nx ρ2)
    | .rt d => ret (.rt d)
def mFor (src : Rho → M W (List D)) (g : D → Rho → Option Rho) (b : MS W) : MS W := fun ρ => bnd (src ρ) fun ds => mForL g b ds ρ

theorem okFor {wi : TI} {g : TG} {tb : TS} {src : Rho → M W (List D)} {f : D → Rho → Option Rho} {b : MS W} {as : List Nat} (hi : OkI K R C κ wi src) (hg : OkG (K := K) (R := R) κ g f κ1 as) (hb : OkS K R C κ κ rk κ1 tb b κ) :
    OkS K R C κb κc rk κ (tFor wi g tb) (mFor src f b) κ := by
  intro S0 H0 w0 S H σ ρ w E rl q
  refine hi S0 H0 w0 S H σ ρ w _ rl ?_
  unfold mFor at q
  cases e : src ρ w with
  | stuck => rw [bnd_stuck e] at q; exact q.elim
  | exc c fs w1 => rw [bnd_exc e] at q; exact fun cls dd S' H' r' hc hx => q cls dd σ S' H' r'.out hc hx
  | ok ds w1 =>
    rw [bnd_ok e] at q
    intro J S1 H1 r1 s1 y
    refine ⟨fun i m σ H => ∃ S ρ w, Rel K R κ S0 H0 w0 S H σ ρ w ∧ (∀ a o, S1 a = some o → S a = some o) ∧ m = ds.length - i ∧ i ≤ ds.length ∧ PostS K R C κ κb κc rk S0 H0 w0 S E (mForL f b (ds.drop i) ρ w),
      ⟨ds.length, S1, ρ, w1, r1, fun _ _ h => h, by omega, Nat.zero_le _, postS_mono s1 q⟩, ?_⟩
    rintro i m σ2 H2 ⟨S2, ρ2, w2, r2, s2, rfl, hi, q2⟩
    obtain ⟨yStop, yGo⟩ := y i S2 H2 w2 r2.out s2
    by_cases hlt : i < ds.length
    · rw [List.drop_eq_getElem_cons hlt] at q2
      obtain ⟨hgo, hy⟩ := yGo ds[i] (List.getElem?_eq_getElem hlt)
      refine .inr ⟨hgo, fun σ' H' => ∃ S ρ w, Rel K R κ S0 H0 w0 S H' σ' ρ w ∧ (∀ a o, S1 a = some o → S a = some o) ∧ PostS K R C κ κb κc rk S0 H0 w0 S E (mForL f b (ds.drop (i + 1)) ρ w),
        fun σ' H' ⟨S, ρ, w, a, b', c⟩ => ⟨ds.length - (i + 1), by omega, S, ρ, w, a, b', rfl, hlt, c⟩, fun x H' hyl => ?_⟩
      have key : ∀ S3 H3, Rel K R κ S0 H0 w0 S3 H3 σ2 ρ2 w2 → (∀ a o, S2 a = some o → S3 a = some o) → DV K S3 x ds[i] →
          g x σ2 H3 fun σ2 H2 => tb { E with nx := fun σ' H' => ∃ S ρ w, Rel K R κ S0 H0 w0 S H' σ' ρ w ∧ (∀ a o, S1 a = some o → S a = some o) ∧ PostS K R C κ κb κc rk S0 H0 w0 S E (mForL f b (ds.drop (i + 1)) ρ w), ct := fun σ' H' => ∃ S ρ w, Rel K R κ S0 H0 w0 S H' σ' ρ w ∧ (∀ a o, S1 a = some o → S a = some o) ∧ PostS K R C κ κb κc rk S0 H0 w0 S E (mForL f b (ds.drop (i + 1)) ρ w), bk := E.nx } σ2 H2 := by
        intro S3 H3 r3 s3 hv
        have q3 : PostS K R C κ κb κc rk S0 H0 w0 S3 E ((bnd (lift (f ds[i] ρ2)) fun ρ1 => bnd (b ρ1) fun o => match o with
          | .nx ρ2 => mForL f b (ds.drop (i + 1)) ρ2
          | .ct ρ2 => mForL f b (ds.drop (i + 1)) ρ2
          | .bk ρ2 => ret (.nx ρ2)
          | .rt d => ret (.rt d) : M W O) w2) := postS_mono s3 q2
        cases eg : f ds[i] ρ2 with
        | none => rw [eg, lift_none, bnd_stk] at q3; exact q3.elim
        | some ρ3 =>
          rw [eg, lift_some, bnd_ret] at q3
          refine hg S0 H0 w0 S3 H3 σ2 ρ2 w2 x ds[i] ρ3 _ r3 hv eg fun σ4 _ r4 => ?_
          refine hb S0 H0 w0 S3 H3 σ4 ρ3 w2 _ r4 ?_
          cases eb : b ρ3 w2 with
          | stuck => rw [bnd_stuck eb] at q3; exact q3.elim
          | exc c fs w5 => rw [bnd_exc eb] at q3; exact q3
          | ok o w5 =>
            rw [bnd_ok eb] at q3
            cases o with
            | nx ρ5 => exact fun σ5 S5 H5 r5 s5 => ⟨S5, ρ5, w5, r5, fun a o z => s5 a o (s3 a o (s2 a o z)), postS_mono s5 q3⟩
            | ct ρ5 => exact fun σ5 S5 H5 r5 s5 => ⟨S5, ρ5, w5, r5, fun a o z => s5 a o (s3 a o (s2 a o z)), postS_mono s5 q3⟩
            | bk ρ5 => exact fun σ5 S5 H5 r5 s5 => q3 σ5 S5 H5 r5 s5
            | rt d => exact q3
      rcases hy x H' hyl with ⟨rfl, hv⟩ | ⟨p, us, es, hp, rfl, rfl, ed, hv⟩
      · exact key S2 H' r2 (fun _ _ h => h) hv
      · have e := le_upd (ho := .tup us) (r2.out.s_none hp)
        refine key _ _ (r2.alloc hp) e ?_
        rw [ed]
        exact .tup (SqT.of upd_same) (dpAll_mono e _ _ hv)
    · have ei : i = ds.length := by omega
      subst ei
      rw [List.drop_length] at q2
      exact .inl ⟨yStop (Nat.le_refl _), q2 σ2 S2 H2 r2 fun _ _ h => h⟩

/-! ### while -/
def mWhileN (c : Rho → M W Bool) (b : MS W) : Nat → MS W
  | 0, _ => stk
  | n + 1, ρ => bnd (c ρ) fun k => if k then bnd (b ρ) fun o => match o with
    | .nx ρ2 => mWhileN c b n ρ2
    | .ct ρ2 => mWhileN c b n ρ2
    | .bk ρ2 => ret (.nx ρ2)
    | .rt d => ret (.rt d) else ret (.nx ρ)
theorem mWhileN_more {c : Rho → M W Bool} {b : MS W} : ∀ {n : Nat} {ρ : Rho} {w : W} {r : Res W O}, mWhileN c b n ρ w = r → r ≠ .stuck → mWhileN c b (n + 1) ρ w = r
  | 0, ρ, w, r, h, hr => absurd h.symm hr
  | n + 1, ρ, w, r, h, hr => by
    unfold mWhileN at h ⊢
    cases e : c ρ w with
    | stuck => rw [bnd_stuck e] at h; exact absurd h.symm hr
    | exc cc fs w1 => rw [bnd_exc e] at h ⊢; exact h
    | ok k w1 =>
      rw [bnd_ok e] at h ⊢
      cases k with
      | false => exact h
      | true =>
        have h' : bnd (b ρ) (fun o => match o with
          | .nx ρ2 => mWhileN c b n ρ2
          | .ct ρ2 => mWhileN c b n ρ2
          | .bk ρ2 => ret (.nx ρ2)
          | .rt d => ret (.rt d)) w1 = r := h
        show bnd (b ρ) (fun o => match o with
          | .nx ρ2 => mWhileN c b (n + 1) ρ2
          | .ct ρ2 => mWhileN c b (n + 1) ρ2
          | .bk ρ2 => ret (.nx ρ2)
          | .rt d => ret (.rt d)) w1 = r
        cases e2 : b ρ w1 with
        | stuck => rw [bnd_stuck e2] at h'; exact absurd h'.symm hr
        | exc cc fs w2 => rw [bnd_exc e2] at h' ⊢; exact h'
        | ok o w2 =>
          rw [bnd_ok e2] at h' ⊢
          cases o with
          | nx ρ2 => exact mWhileN_more h' hr
          | ct ρ2 => exact mWhileN_more h' hr
          | bk ρ2 => exact h'
          | rt d => exact h'
theorem mWhileN_le {c : Rho → M W Bool} {b : MS W} {n : Nat} {ρ : Rho} {w : W} {r : Res W O} (h : mWhileN c b n ρ w = r) (hr : r ≠ .stuck) : ∀ k, mWhileN c b (n + k) ρ w = r
  | 0 => h
  | k + 1 => mWhileN_more (mWhileN_le h hr k) hr
open Classical in
noncomputable def mWhile (c : Rho → M W Bool) (b : MS W) : MS W := fun ρ w => if h : ∃ n, mWhileN c b n ρ w ≠ .stuck then mWhileN c b (Classical.choose h) ρ w else .stuck
theorem mWhile_eq {c : Rho → M W Bool} {b : MS W} {n : Nat} {ρ : Rho} {w : W} {r : Res W O} (h : mWhileN c b n ρ w = r) (hr : r ≠ .stuck) : mWhile c b ρ w = r := by
  unfold mWhile
  have hn : ∃ n, mWhileN c b n ρ w ≠ .stuck := ⟨n, by rw [h]; exact hr⟩
  rw [dif_pos hn]
  have h2 := Classical.choose_spec hn
  have h3 := mWhileN_le (b := b) (c := c) rfl h2 n
  have h4 := mWhileN_le h hr (Classical.choose hn)
  rw [Nat.add_comm] at h3
  exact h3.symm.trans h4
theorem okWhileN {tc : TT} {tb : TS} {c : Rho → M W Bool} {b : MS W} (hc : OkT K R C κ tc c) (hb : OkS K R C κ κ rk κ tb b κ) (n : Nat) : OkS K R C κb κc rk κ (tWhile tc tb) (mWhileN c b n) κ := by
  intro S0 H0 w0 S H σ ρ w E rl q
  refine ⟨fun m σ H => ∃ S ρ w, Rel K R κ S0 H0 w0 S H σ ρ w ∧ PostS K R C κ κb κc rk S0 H0 w0 S E (mWhileN c b m ρ w), ⟨n, S, ρ, w, rl, q⟩, ?_⟩
  rintro m σ2 H2 ⟨S2, ρ2, w2, r2, q2⟩
  cases m with
  | zero => exact q2.elim
  | succ m =>
    unfold mWhileN at q2
    refine hc S0 H0 w0 S2 H2 σ2 ρ2 w2 _ r2 ?_
    cases e : c ρ2 w2 with
    | stuck => rw [bnd_stuck e] at q2; exact q2.elim
    | exc cc fs w3 => rw [bnd_exc e] at q2; exact fun cls dd S' H' r' hc hx => q2 cls dd σ2 S' H' r'.out hc hx
    | ok k w3 =>
      rw [bnd_ok e] at q2
      intro S3 H3 r3 s3
      cases k with
      | false => exact q2 σ2 S3 H3 r3 s3
      | true =>
        have q3 : PostS K R C κ κb κc rk S0 H0 w0 S2 E (bnd (b ρ2) (fun o => match o with
          | .nx ρ2 => mWhileN c b m ρ2
          | .ct ρ2 => mWhileN c b m ρ2
          | .bk ρ2 => ret (.nx ρ2)
          | .rt d => ret (.rt d)) w3) := q2
        refine ⟨fun σ' H' => ∃ S ρ w, Rel K R κ S0 H0 w0 S H' σ' ρ w ∧ PostS K R C κ κb κc rk S0 H0 w0 S E (mWhileN c b m ρ w), fun σ' H' h => ⟨m, Nat.lt_succ_self _, h⟩, ?_⟩
        refine hb S0 H0 w0 S3 H3 σ2 ρ2 w3 _ r3 ?_
        cases eb : b ρ2 w3 with
        | stuck => rw [bnd_stuck eb] at q3; exact q3.elim
        | exc cc fs w5 => rw [bnd_exc eb] at q3; exact q3
        | ok o w5 =>
          rw [bnd_ok eb] at q3
          cases o with
          | nx ρ5 => exact fun σ5 S5 H5 r5 s5 => ⟨S5, ρ5, w5, r5, postS_mono (fun a o z => s5 a o (s3 a o z)) q3⟩
          | ct ρ5 => exact fun σ5 S5 H5 r5 s5 => ⟨S5, ρ5, w5, r5, postS_mono (fun a o z => s5 a o (s3 a o z)) q3⟩
          | bk ρ5 => exact fun σ5 S5 H5 r5 s5 => q3 σ5 S5 H5 r5 fun a o z => s5 a o (s3 a o z)
          | rt d => exact q3
theorem okWhile {tc : TT} {tb : TS} {c : Rho → M W Bool} {b : MS W} (hc : OkT K R C κ tc c) (hb : OkS K R C κ κ rk κ tb b κ) : OkS K R C κb κc rk κ (tWhile tc tb) (mWhile c b) κ := by
  intro S0 H0 w0 S H σ ρ w E rl q
  by_cases h : ∃ n, mWhileN c b n ρ w ≠ .stuck
  · have e : mWhile c b ρ w = mWhileN c b (Classical.choose h) ρ w := by unfold mWhile; rw [dif_pos h]
    rw [e] at q
    exact okWhileN hc hb _ S0 H0 w0 S H σ ρ w E rl q
  · have e : mWhile c b ρ w = .stuck := by unfold mWhile; rw [dif_neg h]
    rw [e] at q
    exact q.elim

/-! ### sources -/
theorem okIDat {tl : TE} {m : ME W} (h : OkE K R C κ tl .dat m) : OkI K R C κ (iList K tl) (fun ρ => bnd (m ρ) fun d => match d with
    | .list ds => ret ds
    | _ => stk) := by
  intro S0 H0 w0 S H σ ρ w Rf rl q
  refine h S0 H0 w0 S H σ ρ w _ rl ?_
  cases e : m ρ w with
  | stuck => simp only [bnd_stuck e] at q; exact q.elim
  | exc c fs w1 => simp only [bnd_exc e] at q; exact q
  | ok d w1 =>
    simp only [bnd_ok e] at q
    intro v S1 H1 r1 s1 o1
    cases d with
    | list ds =>
      cases o1 with
      | lst h1 h2 =>
        rename_i a vs
        refine ⟨a, rfl, ⟨vs, SqL.of (r1.out.sub _ _ h1)⟩, q _ S1 H1 r1 s1 fun i S2 H2 w2 o2 s2 => ?_⟩
        have hL : SqL K H2 a vs := SqL.of (o2.sub _ _ (s2 _ _ h1))
        have hh : H2 a = some (.lst vs) := o2.sub _ _ (s2 _ _ h1)
        refine ⟨fun hi => ⟨vs, hL, by rw [dvs_len h2]; exact hi⟩, fun d hd => ?_⟩
        obtain ⟨v, g1, g2⟩ := dvs_get h2 hd
        refine ⟨⟨vs, v, hL, g1⟩, fun x H' hy => .inl ⟨hy.1, ?_⟩⟩
        have := hy.2 vs hL
        rw [g1] at this
        cases this
        exact dp_mono s2 _ _ g2
    | _ => exact q.elim
/-- a caller's list -/
theorem okIBor {i : Nat} (hk : kd κ i = .bor := by rfl) : OkI K R C κ (iList K (tVar i)) (fun ρ => bnd (mVar i ρ) fun d => match d with
    | .list ds => ret ds
    | _ => stk) := by
  intro S0 H0 w0 S H σ ρ w Rf rl q
  unfold mVar at q
  cases e : ρ[i]? with
  | none => simp only [e, bnd_stk] at q; exact q.elim
  | some x =>
    cases x with
    | none => simp only [e, bnd_stk] at q; exact q.elim
    | some d =>
      simp only [e, bnd_ret] at q
      obtain ⟨oa, r'⟩ := id rl
      obtain ⟨v, h1, h2⟩ := r'.slot i d e
      rw [hk] at h2
      obtain ⟨a, ho, rfl, g2, g3, g4⟩ := h2
      obtain ⟨vs, ds, rfl, rfl, hv⟩ := ownRep_list g4
      refine ⟨_, h1, a, rfl, ⟨vs, SqL.of (r'.out.keep _ _ g2 g3)⟩, q _ S H rl (fun _ _ h => h) fun i S2 H2 w2 o2 s2 => ?_⟩
      have hh : H2 a = some (.lst vs) := o2.keep _ _ g2 g3
      have hL : SqL K H2 a vs := SqL.of hh
      refine ⟨fun hi => ⟨vs, hL, by rw [dvs_len hv]; exact hi⟩, fun d hd => ?_⟩
      obtain ⟨v, g1, g2⟩ := dvs_get hv hd
      refine ⟨⟨vs, v, hL, g1⟩, fun x H' hy => .inl ⟨hy.1, ?_⟩⟩
      have := hy.2 vs hL
      rw [g1] at this
      cases this
      exact dp_mono s2 _ _ g2
theorem okITup {tl : TE} {m : ME W} (h : OkE K R C κ tl .dat m) : OkI K R C κ (iTup K tl) (fun ρ => bnd (m ρ) fun d => match d with
    | .tuple ds => ret ds
    | _ => stk) := by
  intro S0 H0 w0 S H σ ρ w Rf rl q
  refine h S0 H0 w0 S H σ ρ w _ rl ?_
  cases e : m ρ w with
  | stuck => simp only [bnd_stuck e] at q; exact q.elim
  | exc c fs w1 => simp only [bnd_exc e] at q; exact q
  | ok d w1 =>
    simp only [bnd_ok e] at q
    intro v S1 H1 r1 s1 o1
    cases d with
    | tuple ds =>
      cases o1 with
      | tup h1 h2 =>
        rename_i a vs
        refine ⟨a, rfl, ⟨vs, sqT_sub r1.out.sub h1⟩, q _ S1 H1 r1 s1 fun i S2 H2 w2 o2 s2 => ?_⟩
        have hL : SqT K H2 a vs := sqT_sub o2.sub (sqT_sub s2 h1)
        refine ⟨fun hi => ⟨vs, hL, by rw [dvs_len h2]; exact hi⟩, fun d hd => ?_⟩
        obtain ⟨v, g1, g2⟩ := dvs_get h2 hd
        refine ⟨⟨vs, v, hL, g1⟩, fun x H' hy => .inl ⟨hy.1, ?_⟩⟩
        have := hy.2 vs hL
        rw [g1] at this
        cases this
        exact dp_mono s2 _ _ g2
    | _ => exact q.elim
def intsFrom (lo : Int) (n : Nat) : List D := (List.range n).map fun i : Nat => PyData.int (lo + (i : Int))
theorem intsFrom_len (lo : Int) (n : Nat) : (intsFrom lo n).length = n := by unfold intsFrom; rw [List.length_map, List.length_range]
theorem intsFrom_get {lo : Int} {n i : Nat} {d : D} (h : (intsFrom lo n)[i]? = some d) : i < n ∧ d = .int (lo + i) := by
  unfold intsFrom at h
  rw [List.getElem?_map] at h
  by_cases hi : i < n
  · rw [List.getElem?_range hi] at h
    exact ⟨hi, (Option.some.inj h).symm⟩
  · rw [List.getElem?_eq_none (by rw [List.length_range]; omega)] at h
    cases h
theorem yields_range {lo : Int} {n : Nat} {S1 : Hp} : Yields K R (Itr lo n) S0 H0 w0 S1 (intsFrom lo n) := by
  intro i S2 H2 w2 o2 s2
  refine ⟨fun hi => by rw [intsFrom_len] at hi; exact hi, fun d hd => ?_⟩
  obtain ⟨h1, rfl⟩ := intsFrom_get hd
  refine ⟨h1, fun x H' hy => .inl ⟨hy.1, ?_⟩⟩
  rw [hy.2]
  exact .int _
noncomputable def srcR1 (m : Rho → M W (List D)) : Rho → M W (List D) := fun ρ => bnd (m ρ) fun ds => match ds with
  | [.int j] => if Lines (-1000000000) 1000000000 j then ret (intsFrom 0 j.toNat) else stk
  | _ => stk
noncomputable def srcR2 (m : Rho → M W (List D)) : Rho → M W (List D) := fun ρ => bnd (m ρ) fun ds => match ds with
  | [.int i, .int j] => if Lines (-1000000000) 1000000000 i ∧ Lines (-1000000000) 1000000000 j then ret (intsFrom i (j - i).toNat) else stk
  | _ => stk
theorem okIR1 {ta : TA} {m : Rho → M W (List D)} {k : Kd} (h : OkA K R C κ ta [k] m) (hk : k ≠ .res := by decide) : OkI K R C κ (iRng1 ta) (srcR1 m) := by
  intro S0 H0 w0 S H σ ρ w Rf rl q
  refine h S0 H0 w0 S H σ ρ w _ rl ?_
  unfold srcR1 at q
  cases e : m ρ w with
  | stuck => simp only [bnd_stuck e] at q; exact q.elim
  | exc c fs w1 => simp only [bnd_exc e] at q; exact q
  | ok ds w1 =>
    simp only [bnd_ok e] at q
    intro vs S1 H1 r1 s1 o1
    split at q
    · rename_i j
      split at q
      · rename_i hj
        have hj' : -1000000000 < j ∧ j < 1000000000 := hj
        cases o1 with
        | cons g1 g2 =>
          cases g2
          rw [seen_int (g1.seen r1 hk)]
          exact ⟨j, rfl, by omega, by omega, q _ S1 H1 r1 s1 yields_range⟩
      · exact q.elim
    · exact q.elim
theorem okIR2 {ta : TA} {m : Rho → M W (List D)} {k1 k2 : Kd} (h : OkA K R C κ ta [k1, k2] m) (hk1 : k1 ≠ .res := by decide) (hk2 : k2 ≠ .res := by decide) : OkI K R C κ (iRng2 ta) (srcR2 m) := by
  intro S0 H0 w0 S H σ ρ w Rf rl q
  refine h S0 H0 w0 S H σ ρ w _ rl ?_
  unfold srcR2 at q
  cases e : m ρ w with
  | stuck => simp only [bnd_stuck e] at q; exact q.elim
  | exc c fs w1 => simp only [bnd_exc e] at q; exact q
  | ok ds w1 =>
    simp only [bnd_ok e] at q
    intro vs S1 H1 r1 s1 o1
    split at q
    · rename_i i j
      split at q
      · rename_i hj
        have hj' : (-1000000000 < i ∧ i < 1000000000) ∧ (-1000000000 < j ∧ j < 1000000000) := hj
        cases o1 with
        | cons g1 g2 =>
          cases g2 with
          | cons g2 g3 =>
            cases g3
            rw [seen_int (g1.seen r1 hk1), seen_int (g2.seen r1 hk2)]
            exact ⟨i, j, rfl, by omega, q _ S1 H1 r1 s1 yields_range⟩
      · exact q.elim
    · exact q.elim
/-- a text, sign by sign -/
def signsOf (x : Str) : List D := x.cps.toList.map fun c => PyData.str ⟨#[c]⟩
theorem okIStr {te : TE} {m : ME W} {k : Kd} (h : OkE K R C κ te k m) (hk : k ≠ .res := by decide) : OkI K R C κ (iStr te) (fun ρ => bnd (m ρ) fun d => match d with
    | .str x => ret (signsOf x)
    | _ => stk) := by
  intro S0 H0 w0 S H σ ρ w Rf rl q
  refine h S0 H0 w0 S H σ ρ w _ rl ?_
  cases e : m ρ w with
  | stuck => simp only [bnd_stuck e] at q; exact q.elim
  | exc c fs w1 => simp only [bnd_exc e] at q; exact q
  | ok d w1 =>
    simp only [bnd_ok e] at q
    intro v S1 H1 r1 s1 o1
    cases d with
    | str x =>
      refine ⟨x, seen_str (o1.seen r1 hk), q _ S1 H1 r1 s1 fun i S2 H2 w2 o2 s2 => ⟨fun hi => ?_, fun d hd => ?_⟩⟩
      · unfold signsOf at hi
        rw [List.length_map, Array.length_toList] at hi
        exact hi
      · unfold signsOf at hd
        rw [List.getElem?_map, Array.getElem?_toList] at hd
        cases e2 : x.cps[i]? with
        | none => rw [e2] at hd; cases hd
        | some c =>
          rw [e2] at hd
          cases hd
          refine ⟨(Array.getElem?_eq_some_iff.mp e2).1, fun y H' hy => .inl ⟨hy.1, ?_⟩⟩
          obtain ⟨_, c', g1, rfl⟩ := hy
          rw [e2] at g1
          cases g1
          exact .str _
    | _ => exact q.elim

/-! ### comprehensions -/
/-- what a comprehension walks (the slots stand still meanwhile) -/
def YieldsC (K : PySem.W.Frag) (R : Rs W) (κ : List Kd) (σ : L2.St) (ρ : Rho) (J : It) (S0 H0 : Hp) (w0 : W) (S1 : Hp) (ds : List D) : Prop :=
  ∀ i S H w, Rel K R κ S0 H0 w0 S H σ ρ w → (∀ a o, S1 a = some o → S a = some o) →
    (ds.length ≤ i → J.stop i H) ∧ ∀ d, ds[i]? = some d → J.go i H ∧ ∀ x H', J.yld i H x H' →
      (H' = H ∧ DV K S x d) ∨ ∃ p us es, H p = none ∧ H' = upd H p (.tup us) ∧ x = .ref p ∧ d = .tuple es ∧ DVs K S us es
def PostIc (K : PySem.W.Frag) (R : Rs W) (C : Cl) (κ : List Kd) (S0 H0 : Hp) (w0 : W) (S : Hp) (σ : L2.St) (ρ : Rho) (Rf : It → Hp → Prop) : Res W (List D) → Prop
  | .ok ds w' => ∀ J S' H', Rel K R κ S0 H0 w0 S' H' σ ρ w' → (∀ a o, S a = some o → S' a = some o) → YieldsC K R κ σ ρ J S0 H0 w0 S' ds → Rf J H'
  | .exc c fs w' => ∀ cls dd S' H', Rel K R κ S0 H0 w0 S' H' σ ρ w' → C.cn c cls → XOk K S' H' dd fs → C.wx cls (some dd) σ H'
  | .stuck => False
def OkIc (K : PySem.W.Frag) (R : Rs W) (C : Cl) (κ : List Kd) (wi : TI) (m : Rho → M W (List D)) : Prop :=
  ∀ S0 H0 w0 S H σ ρ w Rf, Rel K R κ S0 H0 w0 S H σ ρ w → PostIc K R C κ S0 H0 w0 S σ ρ Rf (m ρ w) → wi σ H Rf
theorem OkI.c {wi : TI} {m : Rho → M W (List D)} (h : OkI K R C κ wi m) : OkIc K R C κ wi m := by
  intro S0 H0 w0 S H σ ρ w Rf rl q
  refine h S0 H0 w0 S H σ ρ w Rf rl ?_
  cases e : m ρ w with
  | stuck => rw [e] at q; exact q
  | exc c fs w1 => rw [e] at q; exact q
  | ok ds w1 =>
    rw [e] at q
    exact fun J S' H' r' s' y => q J S' H' r' s' fun i S H w r => y i S H w r.out
theorem okIOwn {i : Nat} (hk : kd κ i = .own := by rfl) : OkIc K R C κ (iList K (tVar i)) (fun ρ => bnd (mVar i ρ) fun d => match d with
    | .list ds => ret ds
    | _ => stk) := by
  intro S0 H0 w0 S H σ ρ w Rf rl q
  unfold mVar at q
  cases e : ρ[i]? with
  | none => simp only [e, bnd_stk] at q; exact q.elim
  | some x =>
    cases x with
    | none => simp only [e, bnd_stk] at q; exact q.elim
    | some d =>
      simp only [e, bnd_ret] at q
      obtain ⟨p, ho, hσ, hp, hr0, _⟩ := rl.write hk e (d' := d)
      obtain ⟨vs, ds, rfl, rfl, hv⟩ := ownRep_list hr0
      refine ⟨_, hσ, p, rfl, ⟨vs, SqL.of hp⟩, q _ S H rl (fun _ _ h => h) fun j S2 H2 w2 r2 s2 => ?_⟩
      obtain ⟨p2, ho2, hσ2, hp2, hr2, _⟩ := r2.write hk e (d' := .list ds)
      rw [hσ] at hσ2
      have ep : p = p2 := V.ref.inj (Option.some.inj (Option.some.inj hσ2))
      subst ep
      obtain ⟨us, ds2, rfl, ed, hv2⟩ := ownRep_list hr2
      cases ed
      have hL : SqL K H2 p us := SqL.of hp2
      refine ⟨fun hi => ⟨us, hL, by rw [dvs_len hv2]; exact hi⟩, fun d hd => ?_⟩
      obtain ⟨v, g1, g2⟩ := dvs_get hv2 hd
      refine ⟨⟨us, v, hL, g1⟩, fun x H' hy => .inl ⟨hy.1, ?_⟩⟩
      have := hy.2 us hL
      rw [g1] at this
      cases this
      exact g2
/-- within a block the def's own lists are only read -/
def blkK (κ : List Kd) : List Kd := κ.map fun k => if k = .own then .bor else k
theorem kd_blk (κ : List Kd) (i : Nat) : kd (blkK κ) i = if kd κ i = .own then .bor else kd κ i := by
  unfold kd blkK
  rw [List.getD_eq_getElem?_getD, List.getD_eq_getElem?_getD, List.getElem?_map]
  cases e : κ[i]? with
  | none => simp
  | some k => simp
def wipeR (ρ : Rho) : List Nat → Rho
  | [] => ρ
  | v :: vs => (wipeR ρ vs).set v none
theorem wipeR_len (ρ : Rho) : ∀ vs, (wipeR ρ vs).length = ρ.length
  | [] => rfl
  | v :: vs => by unfold wipeR; rw [List.length_set, wipeR_len ρ vs]
theorem wipeR_some {ρ : Rho} {i : Nat} {d : D} : ∀ {vs : List Nat}, (wipeR ρ vs)[i]? = some (some d) → ρ[i]? = some (some d) ∧ i ∉ vs
  | [], h => ⟨h, by simp⟩
  | v :: vs, h => by
    unfold wipeR at h
    by_cases hi : v = i
    · subst hi
      by_cases hv : v < (wipeR ρ vs).length
      · rw [List.getElem?_set_self hv] at h; cases h
      · rw [List.getElem?_eq_none (by rw [List.length_set]; omega)] at h; cases h
    · rw [List.getElem?_set_ne hi] at h
      obtain ⟨h1, h2⟩ := wipeR_some h
      exact ⟨h1, by simp only [List.mem_cons, not_or]; exact ⟨fun e => hi e.symm, h2⟩⟩
theorem wipe_other {σ : L2.St} {i : Nat} : ∀ {vs : List Nat}, i ∉ vs → (wipe σ vs)[i]? = σ[i]?
  | [], _ => rfl
  | v :: vs, h => by
    simp only [List.mem_cons, not_or] at h
    unfold wipe
    rw [List.getElem?_set_ne fun e => h.1 e.symm]
    exact wipe_other h.2
theorem wipe_in {σ : L2.St} {i : Nat} : ∀ {vs : List Nat}, i ∈ vs → (wipe σ vs)[i]? = if i < σ.length then some none else none
  | v :: vs, h => by
    unfold wipe
    by_cases e : v = i
    · subst e
      by_cases hl : v < σ.length
      · rw [if_pos hl, List.getElem?_set_self (by rw [wipe_length]; exact hl)]
      · rw [if_neg hl, List.getElem?_eq_none (by rw [List.length_set, wipe_length]; omega)]
    · rw [List.getElem?_set_ne e]
      exact wipe_in (by rcases List.mem_cons.mp h with q | q; exact absurd q.symm e; exact q)
theorem but_wipe {σ σ' : L2.St} {as vs : List Nat} (h : But as (wipe σ vs) σ') (hs : ∀ i ∈ as, i ∈ vs) : wipe σ' vs = wipe σ vs := by
  apply List.ext_getElem?
  intro i
  have hl : σ'.length = σ.length := by rw [h.1, wipe_length]
  by_cases hi : i ∈ vs
  · rw [wipe_in hi, wipe_in hi, hl]
  · rw [wipe_other hi, h.2 i fun z => hi (hs i z)]
/-- into a block: a new base -/
theorem Rel.block (r : Rel K R κ S0 H0 w0 S H σ ρ w) (vs : List Nat) : Rel K R (blkK κ) S H w S H (wipe σ vs) (wipeR ρ vs) w := by
  obtain ⟨oa, r⟩ := r
  refine ⟨oa, Out.refl r.out.in_, by rw [wipeR_len, wipe_length]; exact r.len, fun i d h => ?_, fun i j d e hi hj ki kj => ?_⟩
  · obtain ⟨h1, h2⟩ := wipeR_some h
    obtain ⟨v, g1, g2⟩ := r.slot i d h1
    refine ⟨v, by rw [wipe_other h2]; exact g1, ?_⟩
    rw [kd_blk]
    cases hk : kd κ i with
    | dat => rw [hk] at g2; exact g2
    | own =>
      rw [hk] at g2
      obtain ⟨k1, _, _, k4, ho, k2, k3⟩ := g2
      exact ⟨_, ho, k1, k2, k4, k3⟩
    | bor =>
      rw [hk] at g2
      obtain ⟨q, ho, k1, k2, k3, k4⟩ := g2
      refine ⟨q, ho, k1, r.out.keep q ho k2 k3, fun hf => ?_, k4⟩
      have := r.out.resN q hf k3
      rw [this] at k2; cases k2
    | res => rw [hk] at g2; exact g2
  · rw [kd_blk] at ki
    split at ki
    · cases ki
    · rename_i h; exact absurd ki h
def Cl.no (C : Cl) : Cl := ⟨fun _ _ _ _ => False, C.cn⟩
def mLcL (f : D → Rho → Option Rho) (tt : Rho → M W Bool) (e : ME W) (ρ : Rho) : List D → M W (List D)
  | [] => ret []
  | d :: ds => bnd (lift (f d ρ)) fun ρ1 => bnd (noX (tt ρ1)) fun b => if b then bnd (noX (e ρ1)) fun x => bnd (mLcL f tt e ρ ds) fun xs => ret (x :: xs) else mLcL f tt e ρ ds
def mLc (src : Rho → M W (List D)) (vs : List Nat) (f : D → Rho → Option Rho) (tt : Rho → M W Bool) (e : ME W) : ME W := fun ρ => bnd (src ρ) fun ds => if ds.length ≤ 1000000 then bnd (mLcL f tt e (wipeR ρ vs) ds) fun xs => ret (.list xs) else stk
def mYes : Rho → M W Bool := fun _ => ret true
theorem okYes : OkT K R C κ tYes mYes := by
  intro S0 H0 w0 S H σ ρ w Q rl q
  exact q S H rl fun _ _ h => h
theorem noX_inv {α : Type} {x : M W α} {f : α → M W D} {w : W} : (∃ a w', x w = .ok a w' ∧ noX x w = .ok a w') ∨ noX x w = .stuck := by
  unfold noX
  cases e : x w with
  | ok a w' => exact .inl ⟨a, w', rfl, rfl⟩
  | exc c fs w' => exact .inr rfl
  | stuck => exact .inr rfl
theorem bnd_inv {α β : Type} {x : M W α} {f : α → M W β} {w : W} (hx : ∀ c fs w', x w ≠ .exc c fs w') (h : bnd x f w ≠ .stuck) : ∃ a w', x w = .ok a w' ∧ bnd x f w = f a w' := by
  cases e : x w with
  | ok a w' => exact ⟨a, w', rfl, bnd_ok e⟩
  | exc c fs w' => exact absurd e (hx c fs w')
  | stuck => exact absurd (bnd_stuck e) h
theorem noX_noexc {α : Type} {x : M W α} {w : W} : ∀ c fs w', noX x w ≠ .exc c fs w' := by
  intro c fs w' h
  unfold noX at h
  cases e : x w with
  | ok a w1 => rw [e] at h; cases h
  | exc c fs w1 => rw [e] at h; cases h
  | stuck => rw [e] at h; cases h
theorem noX_from {α : Type} {x : M W α} {w w' : W} {a : α} (h : noX x w = .ok a w') : x w = .ok a w' := by
  unfold noX at h
  cases e : x w with
  | ok b w1 => rw [e] at h; exact h
  | exc c fs w1 => rw [e] at h; cases h
  | stuck => rw [e] at h; cases h
theorem lift_noexc {α : Type} {o : Option α} {w : W} : ∀ c fs w', (lift o : M W α) w ≠ .exc c fs w' := by
  intro c fs w' h
  cases o <;> cases h
theorem lift_from {α : Type} {o : Option α} {w w' : W} {a : α} (h : (lift o : M W α) w = .ok a w') : o = some a ∧ w' = w := by
  cases o with
  | none => cases h
  | some b => cases h; exact ⟨rfl, rfl⟩
theorem mLcL_noexc {f : D → Rho → Option Rho} {tt : Rho → M W Bool} {e : ME W} {ρ : Rho} : ∀ {ds : List D} {w : W} c fs w', mLcL f tt e ρ ds w ≠ .exc c fs w'
  | [], _, _, _, _ => by intro h; cases h
  | d :: ds, w, c, fs, w' => by
    intro h
    unfold mLcL at h
    obtain ⟨ρ1, w1, e1, h1⟩ := bnd_inv lift_noexc (by rw [h]; intro z; cases z)
    rw [h1] at h
    obtain ⟨b, w2, e2, h2⟩ := bnd_inv noX_noexc (by rw [h]; intro z; cases z)
    rw [h2] at h
    cases b with
    | false => exact mLcL_noexc c fs w' h
    | true =>
      have h' : bnd (noX (e ρ1)) (fun x => bnd (mLcL f tt e ρ ds) fun xs => ret (x :: xs)) w2 = .exc c fs w' := h
      obtain ⟨x, w3, e3, h3⟩ := bnd_inv noX_noexc (by rw [h']; intro z; cases z)
      rw [h3] at h'
      obtain ⟨xs, w4, e4, h4⟩ := bnd_inv (fun c fs w' => mLcL_noexc c fs w') (by rw [h']; intro z; cases z)
      rw [h4] at h'
      cases h'
theorem okLc {wi : TI} {g : TG} {tt : TT} {te : TE} {src : Rho → M W (List D)} {f : D → Rho → Option Rho} {mt : Rho → M W Bool} {me : ME W} {as vs : List Nat} (hi : OkIc K R C κ wi src) (hg : OkG (K := K) (R := R) (blkK κ) g f κ1 as)
    (ht : OkT K R C.no κ1 tt mt) (he : OkE K R C.no κ1 te .dat me) (hv : ∀ i ∈ as, i ∈ vs := by decide) : OkE K R C κ (tLc wi g tt te vs) .own (mLc src vs f mt me) := by
  intro S0 H0 w0 S H σ ρ w Q rl q
  refine hi S0 H0 w0 S H σ ρ w _ rl ?_
  unfold mLc at q
  cases e : src ρ w with
  | stuck => rw [bnd_stuck e] at q; exact q.elim
  | exc c fs w1 => rw [bnd_exc e] at q; exact q
  | ok ds w1 =>
    rw [bnd_ok e] at q
    intro J S1 H1 r1 s1 y L hL
    by_cases hz : ds.length ≤ 1000000
    · rw [if_pos hz] at q
      have hSL : S1 L = none := r1.out.s_none hL
      have hfL : ¬ R.fp w1 L := r1.out.nofp hL
      -- what is left to be made
      refine ⟨fun i m H => ∃ S w accV acc, Rel K R κ S0 H0 w0 S H σ ρ w ∧ (∀ a o, S1 a = some o → S a = some o) ∧ m = ds.length - i ∧ i ≤ ds.length ∧ H L = some (.lst accV) ∧ S L = none ∧ ¬ R.fp w L ∧ DVs K S accV acc ∧ acc.length ≤ i ∧
          PostE K R C κ S0 H0 w0 S σ ρ .own Q (bnd (mLcL f mt me (wipeR ρ vs) (ds.drop i)) (fun xs => ret (.list (acc ++ xs))) w),
        ⟨ds.length, S1, w1, [], [], r1.allocOwn hL, fun _ _ h => h, by omega, Nat.zero_le _, upd_same, hSL, hfL, .nil, Nat.zero_le _, postE_mono s1 q⟩, ?_⟩
      rintro i m H2 ⟨S2, w2, accV, acc, r2, s2, rfl, hi, hD, hS2, hf2, hacc, hal, q2⟩
      obtain ⟨yStop, yGo⟩ := y i S2 H2 w2 r2 s2
      by_cases hlt : i < ds.length
      · rw [List.drop_eq_getElem_cons hlt] at q2
        obtain ⟨hgo, hy⟩ := yGo ds[i] (List.getElem?_eq_getElem hlt)
        refine .inr ⟨hgo, fun H => ∃ S w accV acc, Rel K R κ S0 H0 w0 S H σ ρ w ∧ (∀ a o, S1 a = some o → S a = some o) ∧ H L = some (.lst accV) ∧ S L = none ∧ ¬ R.fp w L ∧ DVs K S accV acc ∧ acc.length ≤ i + 1 ∧
          PostE K R C κ S0 H0 w0 S σ ρ .own Q (bnd (mLcL f mt me (wipeR ρ vs) (ds.drop (i + 1))) (fun xs => ret (.list (acc ++ xs))) w),
          fun H' ⟨S, w, aV, a, x1, x2, x3, x4, x5, x6, x7, x8⟩ => ⟨ds.length - (i + 1), by omega, S, w, aV, a, x1, x2, rfl, hlt, x3, x4, x5, x6, x7, x8⟩, fun x H' hyl => ?_⟩
        have key : ∀ S3 H3, Rel K R κ S0 H0 w0 S3 H3 σ ρ w2 → (∀ a o, S2 a = some o → S3 a = some o) → H3 L = some (.lst accV) → S3 L = none → DV K S3 x ds[i] →
            g x (wipe σ vs) H3 fun σ2 H2 => wipe σ2 vs = wipe σ vs ∧ tt σ2 H2 fun b H3 => if b = true then te σ2 H3 fun y H4 => ∃ acc, H4 L = some (.lst acc) ∧ acc.length < sizeLine ∧
              (∃ S w accV acc', Rel K R κ S0 H0 w0 S (upd H4 L (.lst (acc ++ [y]))) σ ρ w ∧ (∀ a o, S1 a = some o → S a = some o) ∧ upd H4 L (.lst (acc ++ [y])) L = some (.lst accV) ∧ S L = none ∧ ¬ R.fp w L ∧ DVs K S accV acc' ∧ acc'.length ≤ i + 1 ∧
                PostE K R C κ S0 H0 w0 S σ ρ .own Q (bnd (mLcL f mt me (wipeR ρ vs) (ds.drop (i + 1))) (fun xs => ret (.list (acc' ++ xs))) w))
              else (∃ S w accV acc', Rel K R κ S0 H0 w0 S H3 σ ρ w ∧ (∀ a o, S1 a = some o → S a = some o) ∧ H3 L = some (.lst accV) ∧ S L = none ∧ ¬ R.fp w L ∧ DVs K S accV acc' ∧ acc'.length ≤ i + 1 ∧
                PostE K R C κ S0 H0 w0 S σ ρ .own Q (bnd (mLcL f mt me (wipeR ρ vs) (ds.drop (i + 1))) (fun xs => ret (.list (acc' ++ xs))) w)) := by
          intro S3 H3 r3 s3 hD3 hS3 hv3
          have q3 : PostE K R C κ S0 H0 w0 S3 σ ρ .own Q (bnd (bnd (lift (f ds[i] (wipeR ρ vs))) fun ρ1 => bnd (noX (mt ρ1)) fun b => if b then bnd (noX (me ρ1)) fun x => bnd (mLcL f mt me (wipeR ρ vs) (ds.drop (i + 1))) fun xs => ret (x :: xs) else mLcL f mt me (wipeR ρ vs) (ds.drop (i + 1))) (fun xs => ret (.list (acc ++ xs))) w2) := postE_mono s3 q2
          rw [bnd_bnd] at q3
          cases eg : f ds[i] (wipeR ρ vs) with
          | none => rw [eg, lift_none, bnd_stk] at q3; exact q3.elim
          | some ρ1 =>
            rw [eg, lift_some, bnd_ret, bnd_bnd] at q3
            refine hg S3 H3 w2 S3 H3 _ _ w2 x ds[i] ρ1 _ (r3.block vs) hv3 eg fun σ4 b4 r4 => ⟨but_wipe b4 hv, ?_⟩
            refine ht S3 H3 w2 S3 H3 σ4 ρ1 w2 _ r4 ?_
            cases et : mt ρ1 w2 with
            | stuck => rw [bnd_stuck (x := noX (mt ρ1)) (by unfold noX; rw [et])] at q3; exact q3.elim
            | exc c fs w5 => rw [bnd_stuck (x := noX (mt ρ1)) (by unfold noX; rw [et])] at q3; exact q3.elim
            | ok b w5 =>
              rw [bnd_ok (x := noX (mt ρ1)) (noX_ok et)] at q3
              intro S5 H5 r5 s5
              have k5 : H5 L = some (.lst accV) ∧ S5 L = none ∧ ¬ R.fp w5 L := by
                refine ⟨r5.out.keep L _ hD3 hf2, ?_, fun hf => ?_⟩
                · cases z : S5 L with
                  | none => rfl
                  | some u =>
                    have := r5.out.new L (by rw [z]; exact Option.some_ne_none _) hS3
                    rw [this] at hD3; cases hD3
                · have := r5.out.resN L hf hf2
                  rw [this] at hD3; cases hD3
              cases b with
              | false =>
                show (if false = true then _ else _)
                rw [if_neg (by decide)]
                have r5' := r3.after r5.out
                exact ⟨S5, w5, accV, acc, r5', fun a o z => s5 a o (s3 a o (s2 a o z)), k5.1, k5.2.1, k5.2.2, dpAll_mono (fun a o z => s5 a o (s3 a o z)) _ _ hacc, by omega, postE_mono s5 q3⟩
              | true =>
                show (if true = true then _ else _)
                rw [if_pos rfl]
                have q5 : PostE K R C κ S0 H0 w0 S5 σ ρ .own Q (bnd (bnd (noX (me ρ1)) fun x => bnd (mLcL f mt me (wipeR ρ vs) (ds.drop (i + 1))) fun xs => ret (x :: xs)) (fun xs => ret (.list (acc ++ xs))) w5) := postE_mono s5 q3
                rw [bnd_bnd] at q5
                refine he S3 H3 w2 S5 H5 σ4 ρ1 w5 _ r5 ?_
                cases ee : me ρ1 w5 with
                | stuck => rw [bnd_stuck (x := noX (me ρ1)) (by unfold noX; rw [ee])] at q5; exact q5.elim
                | exc c fs w6 => rw [bnd_stuck (x := noX (me ρ1)) (by unfold noX; rw [ee])] at q5; exact q5.elim
                | ok d w6 =>
                  rw [bnd_ok (x := noX (me ρ1)) (noX_ok ee), bnd_bnd] at q5
                  intro yv S6 H6 r6 s6 o6
                  have k6 : H6 L = some (.lst accV) ∧ S6 L = none ∧ ¬ R.fp w6 L := by
                    refine ⟨r6.out.keep L _ hD3 hf2, ?_, fun hf => ?_⟩
                    · cases z : S6 L with
                      | none => rfl
                      | some u =>
                        have := r6.out.new L (by rw [z]; exact Option.some_ne_none _) hS3
                        rw [this] at hD3; cases hD3
                    · have := r6.out.resN L hf hf2
                      rw [this] at hD3; cases hD3
                  have r6' := r3.after r6.out
                  have h0L : H0 L = none := r1.out.h0_none hL
                  have hcv : DVs K S6 accV acc := dpAll_mono (fun a o z => s6 a o (s5 a o (s3 a o z))) _ _ hacc
                  refine ⟨accV, k6.1, ?_, S6, w6, accV ++ [yv], acc ++ [d], ?_, fun a o z => s6 a o (s5 a o (s3 a o (s2 a o z))), upd_same, k6.2.1, k6.2.2, dvs_app hcv (.cons o6 .nil), ?_, ?_⟩
                  · rw [dvs_len hcv]
                    exact sz_lt' (by omega)
                  · obtain ⟨oa, r7⟩ := r6'
                    refine ⟨oa, r7.out.write k6.2.1 h0L k6.2.2, r7.len, fun j e hj => ?_, r7.inj⟩
                    obtain ⟨u, g1, g2⟩ := r7.slot j e hj
                    refine ⟨u, g1, slot_write (fun kj ej => ?_) g2⟩
                    -- an own slot's list stood before L was made
                    obtain ⟨oa1, r1'⟩ := id r1
                    obtain ⟨u1, g3, g4⟩ := r1'.slot j e hj
                    rw [kj] at g4 g2
                    obtain ⟨v1, _, _, _, ho1, v5, _⟩ := g4
                    obtain ⟨v2, _⟩ := g2
                    rw [g1] at g3
                    cases g3
                    rw [v2] at v1
                    have := V.ref.inj v1
                    rw [ej] at this
                    rw [← this, hL] at v5
                    cases v5
                  · rw [List.length_append]
                    show acc.length + 1 ≤ i + 1
                    omega
                  · have q6 := postE_mono s6 q5
                    simp only [bnd_bnd, bnd_ret, List.append_assoc, List.singleton_append] at q6 ⊢
                    exact q6
        rcases hy x H' hyl with ⟨rfl, hv'⟩ | ⟨p, us, es, hp, rfl, rfl, ed, hv'⟩
        · exact key S2 H' r2 (fun _ _ h => h) hD hS2 hv'
        · have hpL : L ≠ p := ne_p hp hD
          have e := le_upd (ho := .tup us) (r2.out.s_none hp)
          refine key _ _ (r2.alloc hp) e (by rw [upd_ne hpL]; exact hD) (by rw [upd_ne hpL]; exact hS2) ?_
          rw [ed]
          exact .tup (SqT.of upd_same) (dpAll_mono e _ _ hv')
      · have ei : i = ds.length := by omega
        subst ei
        rw [List.drop_length] at q2
        have q3 : PostE K R C κ S0 H0 w0 S2 σ ρ .own Q (.ok (.list (acc ++ [])) w2) := q2
        rw [List.append_nil] at q3
        refine .inl ⟨yStop (Nat.le_refl _), q3 (.ref L) S2 H2 r2 (fun _ _ h => h) ⟨L, _, rfl, hS2, r1.out.h0_none hL, hf2, hD, hacc, fun j e' hj hk hs => ?_⟩⟩
        exact fresh_slot r1 hL j e' hj hk hs
    · rw [if_neg hz] at q; exact q.elim
end
end B

namespace B
open PySem L2

section
variable {K : PySem.W.Frag} {W : Type} {R : Rs W} {C : Cl}
variable {κ κs κn κb κc : List Kd} {S H : Hp} {w : W} {rk : Kd}

def startR (n : Nat) (ds : List D) : Rho := ds.map some ++ List.replicate (n - ds.length) none
def mFn (rk : Kd) (n : Nat) (m : MS W) : List D → M W D := fun ds => bnd (m (startR n ds)) fun o => match o with
  | .rt d => ret d
  | .nx _ => if rk = .dat then ret .none else stk
  | _ => stk
theorem argAll_len {vs : List V} {ds : List D} (h : ArgAll K R S H w κs vs ds) : vs.length = κs.length ∧ ds.length = κs.length := by
  induction h with
  | nil => exact ⟨rfl, rfl⟩
  | cons _ _ ih => exact ⟨by rw [List.length_cons, List.length_cons, ih.1], by rw [List.length_cons, List.length_cons, ih.2]⟩
theorem argAll_get {vs : List V} {ds : List D} (h : ArgAll K R S H w κs vs ds) : ∀ (i : Nat) (d : D), ds[i]? = some d → ∃ v k, vs[i]? = some v ∧ κs[i]? = some k ∧ ArgOk K R S H w k v d := by
  induction h with
  | nil => intro i d h; simp at h
  | cons h1 _ ih =>
    intro i d h
    cases i with
    | zero =>
      rw [List.getElem?_cons_zero] at h
      cases h
      exact ⟨_, _, rfl, rfl, h1⟩
    | succ i =>
      rw [List.getElem?_cons_succ] at h
      obtain ⟨v, k, g1, g2, g3⟩ := ih i d h
      exact ⟨v, k, by rw [List.getElem?_cons_succ]; exact g1, by rw [List.getElem?_cons_succ]; exact g2, g3⟩
theorem rel_start {N : List Str} {vs : List V} {ds : List D} (i : In R S H w) (h : ArgAll K R S H w κs vs ds) (hκ : κ = κs ++ List.replicate (N.length - κs.length) .dat) :
    Rel K R κ S H w S H (L2.start N vs) (startR N.length ds) w := by
  obtain ⟨l1, l2⟩ := argAll_len h
  have low : ∀ j d, (startR N.length ds)[j]? = some (some d) → ds[j]? = some d := fun j d hj => by
    unfold startR at hj
    rw [List.getElem?_append] at hj
    split at hj
    · rw [List.getElem?_map] at hj
      cases e : ds[j]? with
      | none => rw [e] at hj; cases hj
      | some x => rw [e] at hj; cases hj; rfl
    · rw [List.getElem?_replicate] at hj
      split at hj <;> cases hj
  have hk : ∀ j k, κs[j]? = some k → kd κ j = k := fun j k hj => by
    have hl : j < κs.length := (List.getElem?_eq_some_iff.mp hj).1
    unfold kd
    rw [List.getD_eq_getElem?_getD, hκ, List.getElem?_append_left hl, hj]
    rfl
  refine ⟨fun _ => 0, Out.refl i, by unfold startR L2.start; simp [l1, l2], fun j d hj => ?_, fun j l d e hj hl kj kl => ?_⟩
  · obtain ⟨v, k, g1, g2, g3⟩ := argAll_get h j d (low j d hj)
    refine ⟨v, ?_, ?_⟩
    · unfold L2.start
      have hl : j < vs.length := (List.getElem?_eq_some_iff.mp g1).1
      rw [List.getElem?_append_left (by rw [List.length_map]; exact hl), List.getElem?_map, g1]
      rfl
    · rw [hk j k g2]
      cases k with
      | dat => exact g3
      | own => exact g3.elim
      | bor => exact g3
      | res => exact g3
  · obtain ⟨v, k, _, g2, g3⟩ := argAll_get h j d (low j d hj)
    rw [hk j k g2] at kj
    subst kj
    exact g3.elim
theorem fn_core {N : List Str} {vs : List V} {t : TS} {m : MS W} {x : Bool} {Q : VK} {E : XK} {cn : String → Value → Prop} (hC : C.cn = cn) (hx : ∀ cls d σ H', (x = true ∧ E cls d H') → C.wx cls d σ H')
    (ok : OkS K R C κb κc rk κ t m κn) (hκ : κ = κs ++ List.replicate (N.length - κs.length) .dat) (h : spB K R cn x κs rk (mFn rk N.length m) vs H Q E) :
    t { nx := fun _ H' => Q .non H', rt := Q } (L2.start N vs) H := by
  obtain ⟨S, w, ds, i, ha, q⟩ := h
  refine ok S H w S H _ _ w _ (rel_start i ha hκ) ?_
  unfold mFn at q
  cases e : m (startR N.length ds) w with
  | stuck => rw [bnd_stuck e] at q; exact q.elim
  | exc c fs w1 =>
    rw [bnd_exc e] at q
    exact fun cls dd σ' S' H' o hc hxo => hx _ _ _ _ ⟨q.1, q.2 cls dd S' H' o (by rw [← hC]; exact hc) hxo⟩
  | ok o w1 =>
    rw [bnd_ok e] at q
    cases o with
    | nx ρ' =>
      intro σ' S' H' r' _
      by_cases hr : rk = .dat
      · subst hr
        exact q .non S' H' r'.out .non
      · simp only [if_neg hr] at q
        exact q.elim
    | rt d => exact fun v S' H' o' ro => q v S' H' o' ro
    | bk ρ' => exact q.elim
    | ct ρ' => exact q.elim
/-- nothing leaves the def -/
theorem fn0 {N : List Str} {vs : List V} {t : TS} {m : MS W} {Q : VK} {E : XK} {cn : String → Value → Prop} (ok : OkS K R ⟨fun _ _ _ _ => False, cn⟩ κb κc rk κ t m κn) (h : spB K R cn false κs rk (mFn rk N.length m) vs H Q E)
    (hκ : κ = κs ++ List.replicate (N.length - κs.length) .dat := by rfl) : t { nx := fun _ H' => Q .non H', rt := Q } (L2.start N vs) H :=
  fn_core (C := ⟨fun _ _ _ _ => False, cn⟩) (cn := cn) rfl (fun _ _ _ _ z => by cases z.1) ok hκ h
/-- what leaves it is wished for -/
theorem fnX {N : List Str} {vs : List V} {t : TS} {m : MS W} {Q : VK} {E : XK} {cn : String → Value → Prop} (ok : OkS K R ⟨fun cls d _ H => E cls d H, cn⟩ κb κc rk κ t m κn) (h : spB K R cn true κs rk (mFn rk N.length m) vs H Q E)
    (hκ : κ = κs ++ List.replicate (N.length - κs.length) .dat := by rfl) : t { nx := fun _ H' => Q .non H', rt := Q } (L2.start N vs) H :=
  fn_core (C := ⟨fun cls d _ H => E cls d H, cn⟩) (cn := cn) rfl (fun _ _ _ _ z => z.2) ok hκ h
theorem sp_len {cn : String → Value → Prop} {x : Bool} {F : List D → M W D} {ps : List Str} (hl : κs.length = ps.length) : ∀ vs H Q E, spB K R cn x κs rk F vs H Q E → vs.length = ps.length := fun vs H Q E h => by
  obtain ⟨S, w, ds, i, ha, q⟩ := h
  rw [(argAll_len ha).1, hl]
/-- another function with the same answers -/
theorem sp_imp {cn : String → Value → Prop} {x : Bool} {F G : List D → M W D} (h : ∀ ds w, G ds w ≠ .stuck → F ds w = G ds w) : ∀ vs H Q E, spB K R cn x κs rk G vs H Q E → spB K R cn x κs rk F vs H Q E := fun vs H Q E hq => by
  obtain ⟨S, w, ds, i, ha, q⟩ := hq
  refine ⟨S, w, ds, i, ha, ?_⟩
  rw [h ds w fun z => by rw [z] at q; exact q]
  exact q
end

/-! ### the law's draws -/
structure Dr where
  cells : List Int
  i : Nat
  cur : Int
  seed : Int
def Dr.fits (s : Dr) : Prop := 0 ≤ s.cur ∧ 0 ≤ s.seed ∧ s.seed < 2147483647 ∧ s.cells.length ≤ 63
def drR (dp sp : Addr) : Rs Dr where
  root := dp
  ok := fun s H => H dp = some (.lst [.ref sp, .int s.i, .int s.cur, .int s.seed]) ∧ H sp = some (.lst (s.cells.map V.int)) ∧ s.fits ∧ dp ≠ sp
  fp := fun _ a => a = dp ∨ a = sp
  loc := fun s H H' h e => ⟨by rw [e dp (.inl rfl)]; exact h.1, by rw [e sp (.inr rfl)]; exact h.2.1, h.2.2⟩
  dom := fun s H a h ha => by
    rcases ha with rfl | rfl
    · rw [h.1]; exact Option.some_ne_none _
    · rw [h.2.1]; exact Option.some_ne_none _
def bigLine : Int := 1000000000000000000
def nextSeed (x : Int) : Int := (x * 48271 + 11) % 2147483647
def cellAt (s : Dr) : Int := ((s.cells.getD s.i 0).natAbs : Nat)
/-- a draw: what it gives, what is left -/
def drawn (s : Dr) (many : Int) : Int × Dr :=
  if s.cur = 0 ∧ s.i < s.cells.length then
    if cellAt s < bigLine then (cellAt s % many, { s with cur := 0, i := s.i + 1 })
    else (cellAt s % many, { s with cur := cellAt s / many, i := s.i + 1 })
  else if 0 < s.cur then (s.cur % many, { s with cur := s.cur / many })
  else (nextSeed s.seed / 3 % many, { s with seed := nextSeed s.seed })
theorem drawn_lt (s : Dr) {many : Int} (h : 0 < many) : 0 ≤ (drawn s many).1 ∧ (drawn s many).1 < many := by
  have key : ∀ x : Int, 0 ≤ x % many ∧ x % many < many := fun x => ⟨Int.emod_nonneg _ (Int.ne_of_gt h), Int.emod_lt_of_pos _ h⟩
  unfold drawn
  by_cases c1 : s.cur = 0 ∧ s.i < s.cells.length
  · rw [if_pos c1]
    by_cases c2 : cellAt s < bigLine
    · rw [if_pos c2]; exact key _
    · rw [if_neg c2]; exact key _
  · rw [if_neg c1]
    by_cases c2 : 0 < s.cur
    · rw [if_pos c2]; exact key _
    · rw [if_neg c2]; exact key _
/-- _law_take -/
noncomputable def fTake : List D → M Dr D
  | [_, .int many] => fun s => if Lines 0 1073741824 many then .ok (.int (drawn s many).1) (drawn s many).2 else .stuck
  | _ => stk
end B

namespace B
open PySem L2
theorem bt_len : bootBuiltins "len" = some (.builtin "len") := by decide +kernel
theorem bt_abs : bootBuiltins "abs" = some (.builtin "abs") := by decide +kernel
theorem bt_max : bootBuiltins "max" = some (.builtin "max") := by decide +kernel
theorem bt_min : bootBuiltins "min" = some (.builtin "min") := by decide +kernel
theorem bt_sum : bootBuiltins "sum" = some (.builtin "sum") := by decide +kernel
theorem bt_any : bootBuiltins "any" = some (.builtin "any") := by decide +kernel
theorem bt_all : bootBuiltins "all" = some (.builtin "all") := by decide +kernel
theorem bt_ord : bootBuiltins "ord" = some (.builtin "ord") := by decide +kernel
theorem bt_sorted : bootBuiltins "sorted" = some (.builtin "sorted") := by decide +kernel
theorem bt_divmod : bootBuiltins "divmod" = some (.builtin "divmod") := by decide +kernel
theorem bt_isinstance : bootBuiltins "isinstance" = some (.builtin "isinstance") := by decide +kernel
theorem bt_int : bootBuiltins "int" = some (.type "int") := by decide +kernel
theorem bt_str : bootBuiltins "str" = some (.type "str") := by decide +kernel
theorem bt_bool : bootBuiltins "bool" = some (.type "bool") := by decide +kernel
theorem bt_list : bootBuiltins "list" = some (.type "list") := by decide +kernel
theorem bt_tuple : bootBuiltins "tuple" = some (.type "tuple") := by decide +kernel
theorem bt_set : bootBuiltins "set" = some (.type "set") := by decide +kernel
theorem bt_dict : bootBuiltins "dict" = some (.type "dict") := by decide +kernel

section
variable (P : Program) (w : World) (K : PySem.W.Frag) (mg : Str → Option Value)
/-- a def of the text, as the top left it -/
def Df (x : Str) (st : Stmt) (ps : List Str) : Prop := ∃ f fd, mg x = some (.ref f) ∧ Fun K x x st f fd ∧ Binds K fd ps [] ∧ ∀ us : List Value, us.length = ps.length → bindArgs fd ⟨us, []⟩ = pure (ps.zip us)
/-- .. that keeps a promise -/
def Good (CX : CXT) (k : Nat) (x : Str) (ps : List Str) (sp : Sp) : Prop := ∃ f fd, mg x = some (.ref f) ∧ PySem.W.keepIn K (.ref f) = true ∧ Binds K fd ps [] ∧ (∀ us : List Value, us.length = ps.length → bindArgs fd ⟨us, []⟩ = pure (ps.zip us)) ∧ ∀ base : Heap, FnOk P w K mg base CX k f fd ps sp
end
section
variable {P : Program} {w : World} {K : PySem.W.Frag} {mg : Str → Option Value}
theorem Df.good {CX : CXT} {k : Nat} {x : Str} {st : Stmt} {ps : List Str} {sp : Sp} (d : Df K mg x st ps) (h : ∀ f fd, Fun K x x st f fd → ∀ base : Heap, FnOk P w K mg base CX k f fd ps sp) : Good P w K mg CX k x ps sp := by
  obtain ⟨f, fd, h1, h2, h3, h4⟩ := d
  exact ⟨f, fd, h1, h2.kp, h3, h4, h f fd h2⟩
theorem Good.imp {CX : CXT} {k : Nat} {x : Str} {ps : List Str} {sp sp' : Sp} (g : Good P w K mg CX k x ps sp) (h : ∀ vs H Q E, sp' vs H Q E → sp vs H Q E) : Good P w K mg CX k x ps sp' := by
  obtain ⟨f, fd, h1, h2, h3, h5, h4⟩ := g
  exact ⟨f, fd, h1, h2, h3, h5, fun b => (h4 b).imp h⟩
theorem Good.mono {CX : CXT} {j k : Nat} {x : Str} {ps : List Str} {sp : Sp} (g : Good P w K mg CX j x ps sp) (h : j ≤ k) : Good P w K mg CX k x ps sp := by
  obtain ⟨f, fd, h1, h2, h3, h5, h4⟩ := g
  exact ⟨f, fd, h1, h2, h3, h5, fun b => (h4 b).mono h⟩
theorem df_mk {x : Str} {st : Stmt} {ps : List Str} {h : Heap} (X : K.In h) (G : h.Ns mainGlobals mg) {f : Addr} {oc : Value} {od an : Option Addr} {osl : Array (Option Value)} {kV doc pm cdv ct : Value}
    (a : PySem.W.nsIn K mainGlobals x = some (some (.ref f))) (l : K.lookup f = some ⟨oc, od, .func (PySem.W.fnOf x x (defArgs st) (defBody st) (defScope st) .none kV doc pm an cdv ct), osl⟩)
    (c : PySem.W.codeIn K cdv x = true) (k : PySem.W.keepIn K (.ref f) = true)
    (hb : ∀ (kV doc pm : Value) (an : Option Addr) (cdv ct : Value) (us : List Value), us.length = ps.length → bindArgs (PySem.W.fnOf x x (defArgs st) (defBody st) (defScope st) .none kV doc pm an cdv ct) ⟨us, []⟩ = pure (ps.zip us)) : Df K mg x st ps :=
  ⟨f, _, PySem.W.mg_of X G a, fun_mk (st := st) l c k, (fun_mk (st := st) l c k).binds hb, hb _ _ _ _ _ _⟩
/-- the law's own def, for the walk's end -/
theorem Good.law {l : PySem.W.OpenLaw} {CX : CXT} {k : Nat} {x : Str} {ps : List Str} {sp : Sp} {fa : Addr} (hfa : mg x = some (.ref fa)) (g : Good l.prog w K mg CX k x ps sp) :
    ∃ fd : FuncData, (∀ us : List Value, us.length = ps.length → bindArgs fd ⟨us, []⟩ = pure (ps.zip us)) ∧ ∀ base : Heap, K.In base → base.Ns mainGlobals mg → FnOk l.prog w K mg base CX k fa fd ps sp := by
  obtain ⟨f, fd, h1, h2, h3, h5, h4⟩ := g
  have e := hfa.symm.trans h1
  cases e
  exact ⟨fd, h5, fun b _ _ => h4 b⟩
end
end B

namespace B
open PySem L2
section
variable {K : PySem.W.Frag} {dp sp : Addr} {cn : String → Value → Prop} {H : Hp}
def rInt1 : Rb := fun xs H Q => (∃ i, xs = [.int i] ∧ Q (.int i) H) ∨ ∃ k, xs = [.bl k] ∧ Q (.int (if k = true then 1 else 0)) H
def rLenQ (K : PySem.W.Frag) : Rb := fun xs H Q => ∃ p ys, xs = [.ref p] ∧ (SqL K H p ys ∨ SqT K H p ys) ∧ Q (.int ys.length) H
def rAbs1 : Rb := fun xs H Q => ∃ i, xs = [.int i] ∧ Q (.int (if i < 0 then -i else i)) H
abbrev dAt (K : PySem.W.Frag) (j : Int) : TE := tOp (rIxL K) (tVar 0) (tC (.int j))
def tTake (K : PySem.W.Frag) : TS :=
  tSeq (tIfS (tAnd (tTest (tOp rEq (dAt K 2) (tC (.int 0)))) (tTest (tOp (rI0 fun i j => .bl (decide (i < j))) (dAt K 1) (tCB (rLenQ K) (tCons (dAt K 0) tNil)))))
    (tSeq (tAsg (tCB rAbs1 (tCons (tCB rInt1 (tCons (tOp (rIxL K) (dAt K 0) (dAt K 1)) tNil)) tNil)) (gSub (tVar 0) (tC (.int 2)) rSetL))
    (tSeq (tAsg (tOp (rI0 fun i j => .int (i + j)) (dAt K 1) (tC (.int 1))) (gSub (tVar 0) (tC (.int 1)) rSetL))
    (tIfS (tTest (tOp (rI0 fun i j => .bl (decide (i < j))) (dAt K 2) (tOp (rI CPow fun i j => .int (i ^ j.toNat)) (tC (.int 10)) (tC (.int 18)))))
      (tSeq (tAsg (tCB rInt1 (tCons (dAt K 2) tNil)) (gName 2)) (tSeq (tAsg (tC (.int 0)) (gSub (tVar 0) (tC (.int 2)) rSetL)) (tRet (tOp (rI (fun _ j => 0 < j) fun i j => .int (i % j)) (tVar 2) (tVar 1))))) tNext))) tNext)
  (tSeq (tIfS (tTest (tOp (rI0 fun i j => .bl (decide (j < i))) (dAt K 2) (tC (.int 0))))
    (tSeq (tAsg (tOp (rI (fun _ j => 0 < j) fun i j => .int (i % j)) (tCB rInt1 (tCons (dAt K 2) tNil)) (tVar 1)) (gName 3))
    (tSeq (tAsg (tOp (rI CDiv fun i j => .int (i / j)) (tCB rInt1 (tCons (dAt K 2) tNil)) (tVar 1)) (gSub (tVar 0) (tC (.int 2)) rSetL)) (tRet (tVar 3)))) tNext)
  (tSeq (tAsg (tOp (rI (fun _ j => 0 < j) fun i j => .int (i % j)) (tCB rInt1 (tCons (tOp (rI0 fun i j => .int (i + j)) (tOp (rI CMul fun i j => .int (i * j)) (dAt K 3) (tC (.int 48271))) (tC (.int 11))) tNil)) (tC (.int 2147483647))) (gSub (tVar 0) (tC (.int 3)) rSetL))
  (tRet (tOp (rI (fun _ j => 0 < j) fun i j => .int (i % j)) (tCB rInt1 (tCons (tOp (rI CDiv fun i j => .int (i / j)) (dAt K 3) (tC (.int 3))) tNil)) (tVar 1)))))
theorem pow18 : (10 : Int) ^ (18 : Int).toNat = bigLine := by decide +kernel
theorem pow18V : V.int ((10 : Int) ^ (18 : Int).toNat) = V.int bigLine := congrArg V.int pow18
theorem cpow18 : CPow 10 18 := ⟨by decide, by decide, by decide +kernel⟩
theorem take_reads {vs : List V} {Q : VK} {E : XK} (h : spB K (drR dp sp) cn false [.res, .dat] .dat fTake vs H Q E) : tTake K { nx := fun _ H' => Q .non H', rt := Q } (L2.start ["d", "many", "small", "digit"] vs) H := by
  obtain ⟨S, st, ds, hin, ha, q⟩ := h
  cases ha with
  | cons h1 h2 =>
  cases h2 with
  | cons h2 h3 =>
  cases h3
  obtain ⟨rfl, rfl⟩ := h1
  rename_i v d
  have hd : ∃ many, d = .int many ∧ 0 < many ∧ many < 1073741824 := by
    cases d with
    | int many =>
      by_cases hm : Lines 0 1073741824 many
      · exact ⟨many, rfl, hm⟩
      · have q' := q
        simp only [fTake, if_neg hm] at q'
        exact q'.elim
    | _ => exact q.elim
  obtain ⟨many, rfl, hm⟩ := hd
  cases h2
  simp only [fTake, if_pos (show Lines 0 1073741824 many from hm)] at q
  obtain ⟨Hd, Hs, hf, hne⟩ := hin.res
  have hS : ∀ a o, S a = some o → a ≠ dp := fun a o ha e => by
    have := hin.resS dp (.inl rfl)
    rw [← e, ha] at this; cases this
  -- what is handed back
  have fin : ∀ (s' : Dr) (n : Int), drawn st many = (n, s') → s'.cells = st.cells → s'.fits → ∀ H', (∀ a, a ≠ dp → H' a = H a) → H' dp = some (.lst [.ref sp, .int s'.i, .int s'.cur, .int s'.seed]) → Q (.int n) H' := by
    intro s' n e ec hf' H' hk hdp
    rw [e] at q
    refine q (.int n) S H' ⟨fun a o ha => by rw [hk a (hS a o ha)]; exact hin.sub a o ha, fun _ _ h => h, fun a h h0 => absurd h0 h, fun a o ha hf => ?_, fun a ha => ?_, ⟨hdp, ?_, hf', hne⟩, hin.resS, fun a h h0 => absurd h h0⟩ (.int n)
    · rw [hk a fun e => hf (.inl e)]; exact ha
    · by_cases ea : a = dp
      · rw [ea, hdp]; exact Option.some_ne_none _
      · rw [hk a ea]; exact ha
    · rw [hk sp hne.symm, ec]; exact Hs
  obtain ⟨f1, f2, f3, f4⟩ := hf
  have un1 : ∀ {o : HO} {a : Addr}, a ≠ dp → upd H dp o a = H a := fun h => upd_ne h
  -- behind the first if
  have rest : ¬ (st.cur = 0 ∧ st.i < st.cells.length) → (tSeq (tIfS (tTest (tOp (rI0 fun i j => .bl (decide (j < i))) (dAt K 2) (tC (.int 0))))
    (tSeq (tAsg (tOp (rI (fun _ j => 0 < j) fun i j => .int (i % j)) (tCB rInt1 (tCons (dAt K 2) tNil)) (tVar 1)) (gName 3))
    (tSeq (tAsg (tOp (rI CDiv fun i j => .int (i / j)) (tCB rInt1 (tCons (dAt K 2) tNil)) (tVar 1)) (gSub (tVar 0) (tC (.int 2)) rSetL)) (tRet (tVar 3)))) tNext)
  (tSeq (tAsg (tOp (rI (fun _ j => 0 < j) fun i j => .int (i % j)) (tCB rInt1 (tCons (tOp (rI0 fun i j => .int (i + j)) (tOp (rI CMul fun i j => .int (i * j)) (dAt K 3) (tC (.int 48271))) (tC (.int 11))) tNil)) (tC (.int 2147483647))) (gSub (tVar 0) (tC (.int 3)) rSetL))
  (tRet (tOp (rI (fun _ j => 0 < j) fun i j => .int (i % j)) (tCB rInt1 (tCons (tOp (rI CDiv fun i j => .int (i / j)) (dAt K 3) (tC (.int 3))) tNil)) (tVar 1)))))
      { nx := fun _ H' => Q .non H', rt := Q } [some (.ref dp), some (.int many), none, none] H := by
    intro hc
    refine ⟨_, rfl, dp, _, 2, _, rfl, rfl, SqL.of Hd, rfl, st.cur, 0, rfl, rfl, _, rfl, ?_⟩
    by_cases hp : 0 < st.cur
    · rw [decide_eq_true hp]
      refine iteT ?_
      refine ⟨_, rfl, dp, _, 2, _, rfl, rfl, SqL.of Hd, rfl, .inl ⟨st.cur, rfl, _, rfl, st.cur, many, rfl, rfl, hm.1, ?_⟩⟩
      refine ⟨_, rfl, dp, _, 2, _, rfl, rfl, SqL.of Hd, rfl, .inl ⟨st.cur, rfl, _, rfl, st.cur, many, rfl, rfl, hm, ?_⟩⟩
      refine ⟨_, rfl, dp, _, 2, 2, rfl, rfl, Hd, rfl, _, rfl, ?_⟩
      refine fin { st with cur := st.cur / many } (st.cur % many) ?_ rfl ⟨Int.ediv_nonneg f1 (Int.le_of_lt hm.1), f2, f3, f4⟩ _ (fun a h => upd_ne h) upd_same
      unfold drawn
      rw [if_neg hc, if_pos hp]
    · rw [decide_eq_false hp]
      refine iteF ?_
      refine ⟨_, rfl, dp, _, 3, _, rfl, rfl, SqL.of Hd, rfl, st.seed, 48271, rfl, rfl, .inr ⟨by decide, by decide⟩, _, _, rfl, rfl, .inl ⟨_, rfl, _, _, rfl, rfl, (by show (0 : Int) < 2147483647; decide), ?_⟩⟩
      refine ⟨_, rfl, dp, _, 3, 3, rfl, rfl, Hd, rfl, ?_⟩
      refine ⟨_, rfl, dp, _, 3, .int (nextSeed st.seed), rfl, rfl, SqL.of upd_same, rfl, nextSeed st.seed, 3, rfl, rfl, ⟨by decide, by decide⟩, .inl ⟨_, rfl, _, rfl, nextSeed st.seed / 3, many, rfl, rfl, hm.1, ?_⟩⟩
      refine fin { st with seed := nextSeed st.seed } (nextSeed st.seed / 3 % many) ?_ rfl ⟨f1, Int.emod_nonneg _ (by decide), Int.emod_lt_of_pos _ (by decide), f4⟩ _ (fun a h => upd_ne h) upd_same
      unfold drawn
      rw [if_neg hc, if_neg hp]
  refine ⟨_, rfl, dp, _, 2, _, rfl, rfl, SqL.of Hd, rfl, rfl, _, rfl, ?_⟩
  by_cases h0 : st.cur = 0
  · have e0 : decide (V.int st.cur = V.int 0) = true := decide_eq_true (by rw [h0])
    rw [e0]
    refine iteT ?_
    refine ⟨_, rfl, dp, _, 1, _, rfl, rfl, SqL.of Hd, rfl, _, rfl, dp, _, 0, _, rfl, rfl, SqL.of Hd, rfl, sp, _, rfl, .inl (SqL.of Hs), st.i, _, rfl, rfl, _, rfl, ?_⟩
    rw [List.length_map]
    by_cases hi : st.i < st.cells.length
    · rw [decide_eq_true (show (st.i : Int) < (st.cells.length : Int) from Int.ofNat_lt.mpr hi)]
      refine iteT ?_
      have hc : (st.cells.map V.int)[st.i]? = some (.int st.cells[st.i]) := by rw [List.getElem?_map, List.getElem?_eq_getElem hi] <;> rfl
      have ec : st.cells.getD st.i 0 = st.cells[st.i] := by rw [List.getD_eq_getElem?_getD, List.getElem?_eq_getElem hi] <;> rfl
      have ea : (if st.cells[st.i] < 0 then -st.cells[st.i] else st.cells[st.i]) = cellAt st := by
        unfold cellAt
        rw [ec]
        split <;> omega
      refine ⟨_, rfl, dp, _, 0, _, rfl, rfl, SqL.of Hd, rfl, _, rfl, dp, _, 1, _, rfl, rfl, SqL.of Hd, rfl, sp, _, st.i, _, rfl, rfl, SqL.of Hs, atI_nat hc, .inl ⟨_, rfl, _, rfl, ?_⟩⟩
      rw [ea]
      refine ⟨_, rfl, dp, _, 2, 2, rfl, rfl, Hd, rfl, ?_⟩
      refine ⟨_, rfl, dp, _, 1, .int st.i, rfl, rfl, SqL.of upd_same, rfl, st.i, 1, rfl, rfl, ?_⟩
      refine ⟨_, rfl, dp, _, 1, 1, rfl, rfl, upd_same, rfl, ?_⟩
      have hup : ∀ a, a ≠ dp → (upd (upd H dp (.lst ([V.ref sp, .int st.i, .int st.cur, .int st.seed].set 2 (.int (cellAt st))))) dp (.lst (([V.ref sp, .int st.i, .int st.cur, .int st.seed].set 2 (.int (cellAt st))).set 1 (.int ((st.i : Int) + 1))))) a = H a := fun a h => by rw [upd_ne h, upd_ne h]
      refine ⟨_, rfl, dp, _, 2, .int (cellAt st), rfl, rfl, SqL.of upd_same, rfl, 10, 18, rfl, rfl, cpow18, cellAt st, bigLine, rfl, pow18V, _, rfl, ?_⟩
      have hd : drawn st many = if cellAt st < bigLine then (cellAt st % many, { st with cur := 0, i := st.i + 1 }) else (cellAt st % many, { st with cur := cellAt st / many, i := st.i + 1 }) := by
        unfold drawn
        rw [if_pos ⟨h0, hi⟩]
      have cn0 : 0 ≤ cellAt st := Int.natCast_nonneg _
      have hBL : (0 : Int) < bigLine := by decide +kernel
      generalize bigLine = BL at hd hBL ⊢
      by_cases hb : cellAt st < BL
      · rw [decide_eq_true hb]
        refine iteT ?_
        rw [if_pos hb] at hd
        refine ⟨_, rfl, dp, _, 2, _, rfl, rfl, SqL.of upd_same, rfl, .inl ⟨_, rfl, ?_⟩⟩
        refine ⟨_, rfl, dp, _, 2, 2, rfl, rfl, upd_same, rfl, ?_⟩
        refine ⟨_, rfl, _, rfl, cellAt st, many, rfl, rfl, hm.1, ?_⟩
        exact fin { st with cur := 0, i := st.i + 1 } (cellAt st % many) hd rfl ⟨Int.le_refl 0, f2, f3, f4⟩ _ (fun a h => by rw [upd_ne h]; exact hup a h) upd_same
      · rw [decide_eq_false hb]
        refine iteF ?_
        rw [if_neg hb] at hd
        have hp : 0 < cellAt st := by
          have : (0 : Int) < BL := hBL
          omega
        -- the second if, behind the first one's stores
        refine ⟨_, rfl, dp, _, 2, _, rfl, rfl, SqL.of upd_same, rfl, cellAt st, 0, rfl, rfl, _, rfl, ?_⟩
        rw [decide_eq_true hp]
        refine iteT ?_
        refine ⟨_, rfl, dp, _, 2, _, rfl, rfl, SqL.of upd_same, rfl, .inl ⟨cellAt st, rfl, _, rfl, cellAt st, many, rfl, rfl, hm.1, ?_⟩⟩
        refine ⟨_, rfl, dp, _, 2, _, rfl, rfl, SqL.of upd_same, rfl, .inl ⟨cellAt st, rfl, _, rfl, cellAt st, many, rfl, rfl, hm, ?_⟩⟩
        refine ⟨_, rfl, dp, _, 2, 2, rfl, rfl, upd_same, rfl, _, rfl, ?_⟩
        exact fin { st with cur := cellAt st / many, i := st.i + 1 } (cellAt st % many) hd rfl ⟨Int.ediv_nonneg cn0 (Int.le_of_lt hm.1), f2, f3, f4⟩ _ (fun a h => by rw [upd_ne h]; exact hup a h) upd_same
    · rw [decide_eq_false (show ¬ (st.i : Int) < (st.cells.length : Int) from fun h => hi (Int.ofNat_lt.mp h))]
      exact iteF (rest fun h => hi h.2)
  · have e0 : decide (V.int st.cur = V.int 0) = false := decide_eq_false fun h => h0 (V.int.inj h)
    rw [e0]
    exact iteF (iteF (rest fun h => h0 h.1))

/-! ### _law_begin -/
def rListQ (K : PySem.W.Frag) : Rb := fun xs H Q => ∃ p ys, xs = [.ref p] ∧ (SqL K H p ys ∨ SqT K H p ys) ∧ ∀ l, H l = none → Q (.ref l) (upd H l (.lst ys))
def spBegin (K : PySem.W.Frag) : Sp := fun vs H Q _ => ∃ (a : Addr) (ns : List Int), vs = [.ref a] ∧ SqL K H a (ns.map V.int) ∧ ns.length ≤ 63 ∧
  ∀ p s H' seed, Same H H' → p ≠ s → H' p = some (.lst [.ref s, .int 0, .int 0, .int seed]) → H' s = some (.lst (ns.map V.int)) → 0 ≤ seed → seed < 2147483647 → Q (.ref p) H'
def tBegin (K : PySem.W.Frag) : TS :=
  tSeq (tAsg (tC (.int 1)) (gName 1))
  (tSeq (tFor (iList K (tVar 0)) (gName 2) (tAsg (tOp (rI (fun _ j => 0 < j) fun i j => .int (i % j)) (tOp (rI0 fun i j => .int (i + j)) (tOp (rI0 fun i j => .int (i + j)) (tOp (rI CMul fun i j => .int (i * j)) (tVar 1) (tC (.int 69621)))
      (tOp (rI (fun _ j => 0 < j) fun i j => .int (i % j)) (tCB rInt1 (tCons (tVar 2) tNil)) (tC (.int 2147483629)))) (tC (.int 7))) (tC (.int 2147483647))) (gName 1)))
  (tRet (tLst (tCons (tCB (rListQ K) (tCons (tVar 0) tNil)) (tCons (tC (.int 0)) (tCons (tC (.int 0)) (tCons (tVar 1) tNil)))))))
theorem begin_reads {vs : List V} {Q : VK} {E : XK} (h : spBegin K vs H Q E) : tBegin K { nx := fun _ H' => Q .non H', rt := Q } (L2.start ["script", "seed", "cell"] vs) H := by
  obtain ⟨a, ns, rfl, hS, hl, q⟩ := h
  refine ⟨_, rfl, a, rfl, ⟨_, hS⟩, for_list (K := K) (a := a) (xs := ns.map V.int) (fun i σ H' => ∃ (c : Option V) (seed : Int), σ = [some (.ref a), some (.int seed), c] ∧ H' = H ∧ 0 ≤ seed ∧ seed < 2147483647)
    ⟨none, 1, rfl, rfl, by decide, by decide⟩ (fun i σ H' _ ⟨_, _, _, e, _⟩ => by rw [e]; exact hS) ?_ ?_⟩
  · rintro i y σ H' hi ⟨c, seed, rfl, rfl, h0, h1⟩
    obtain ⟨z, rfl⟩ : ∃ z, y = V.int z := by
      rw [List.getElem?_map] at hi
      cases e : ns[i]? with
      | none => rw [e] at hi; cases hi
      | some z => rw [e] at hi; exact ⟨z, (Option.some.inj hi).symm⟩
    refine ⟨_, rfl, seed, 69621, rfl, rfl, .inr ⟨by decide, by decide⟩, _, rfl, .inl ⟨z, rfl, z, 2147483629, rfl, rfl, (by show (0 : Int) < 2147483629; decide), _, _, rfl, rfl, _, _, rfl, rfl, _, _, rfl, rfl, (by show (0 : Int) < 2147483647; decide), ?_⟩⟩
    exact ⟨_, _, rfl, rfl, Int.emod_nonneg _ (by decide), Int.emod_lt_of_pos _ (by decide)⟩
  · rintro σ H' ⟨c, seed, rfl, rfl, h0, h1⟩
    refine ⟨_, rfl, a, _, rfl, .inl hS, fun s hs => ⟨_, rfl, (by show 4 ≤ sizeLine; decide), fun p hp => ?_⟩⟩
    have hps : s ≠ p := fun e => by rw [← e, upd_same] at hp; cases hp
    refine q p s _ seed (fun b o e => ?_) hps.symm upd_same (by rw [upd_ne hps, upd_same]) h0 h1
    rw [upd_ne (ne_of_none (by rw [upd_ne (ne_of_none e hs)]; exact e) hp), upd_ne (ne_of_none e hs)]
    exact e

/-! ### the law: its draws, then the rest as data -/
def spLaw (K : PySem.W.Frag) : Sp := fun vs H Q _ => ∃ (a : Addr) (ns : List Int), vs = [.ref a] ∧ SqL K H a (ns.map V.int) ∧ ns.length ≤ 63 ∧ ∀ H', Q (.bl true) H'
def drK (n : Nat) : List Kd := .dat :: .res :: List.replicate (n - 2) .dat
def drRho (n : Nat) : Rho := none :: some .none :: List.replicate (n - 2) none
theorem law_reads {N : List Str} {κb κc κn : List Kd} {tb : TS} {m : MS Dr} {vs : List V} {Q : VK} {E : XK} (hN : 2 ≤ N.length) (h : spLaw K vs H Q E)
    (ok : ∀ dp sp, OkS K (drR dp sp) ⟨fun _ _ _ _ => False, cn⟩ κb κc .dat (drK N.length) tb m κn) (hm : ∀ st : Dr, ∃ st', m (drRho N.length) st = .ok (.rt (.bool true)) st') :
    tSeq (tAsg (tCall (spBegin K) [] E0 (tCons (tVar 0) tNil)) (gName 1)) tb { nx := fun _ H' => Q .non H', rt := Q } (L2.start N vs) H := by
  obtain ⟨a, ns, rfl, hS, hl, q⟩ := h
  have hs : (L2.start N [V.ref a])[0]? = some (some (.ref a)) := rfl
  refine ⟨_, hs, a, ns, rfl, hS, hl, fun p s H' seed sm hps hp hsp h0 h1 => ?_⟩
  have hin : In (drR p s) (fun _ => none) H' ⟨ns, 0, 0, seed⟩ := ⟨fun a o h => (by cases h), ⟨hp, hsp, ⟨Int.le_refl 0, h0, h1, hl⟩, hps⟩, fun _ _ => rfl⟩
  obtain ⟨st', hm'⟩ := hm ⟨ns, 0, 0, seed⟩
  have len : (L2.start N [V.ref a]).length = N.length := by
    unfold L2.start
    simp
    omega
  refine ok p s (fun _ => none) H' ⟨ns, 0, 0, seed⟩ (fun _ => none) H' _ (drRho N.length) ⟨ns, 0, 0, seed⟩ _ ⟨fun _ => 0, Out.refl hin, ?_, fun i d hi => ?_, fun i j d e hi hj ki kj => ?_⟩ ?_
  · rw [List.length_set, len]
    unfold drRho
    simp
    omega
  · have e1 : i = 1 ∧ d = .none := by
      unfold drRho at hi
      match i, hi with
      | 0, hi => cases hi
      | 1, hi => exact ⟨rfl, (Option.some.inj (Option.some.inj hi)).symm⟩
      | i + 2, hi =>
        rw [List.getElem?_cons_succ, List.getElem?_cons_succ, List.getElem?_replicate] at hi
        split at hi <;> cases hi
    obtain ⟨rfl, rfl⟩ := e1
    exact ⟨.ref p, List.getElem?_set_self (by rw [len]; omega), rfl, rfl⟩
  · have e1 : i = 1 := by
      unfold drRho at hi
      match i, hi with
      | 0, hi => cases hi
      | 1, hi => rfl
      | i + 2, hi =>
        rw [List.getElem?_cons_succ, List.getElem?_cons_succ, List.getElem?_replicate] at hi
        split at hi <;> cases hi
    subst e1
    cases ki
  · rw [hm']
    intro v S2 H2 o2 ro
    cases ro
    exact q H2
end
end B

namespace B
open PySem L2
section
variable {K : PySem.W.Frag} {W : Type} {R : Rs W} {C : Cl} {κ : List Kd} {S H : Hp}
variable {κb κc κ1 κ2 : List Kd} {rk : Kd}
/-! ### the words' names -/
def mOp (g : Op2) (a b : ME W) : ME W := m2 a b fun d e => lift (g d e)
def mOpL (g : D → D → Option (List D)) (a b : ME W) : ME W := m2 a b fun d e => lift ((g d e).map .list)
def mOpU (g : D → D → Option (List D)) (a b : ME W) : ME W := m2 a b fun d e => lift ((g d e).map .tuple)
def mCB (g : OpN) (m : Rho → M W (List D)) : ME W := fun ρ => bnd (m ρ) fun ds => lift (g ds)
def mCBL (g : List D → Option (List D)) (m : Rho → M W (List D)) : ME W := fun ρ => bnd (m ρ) fun ds => lift ((g ds).map .list)
def mCBU (g : List D → Option (List D)) (m : Rho → M W (List D)) : ME W := fun ρ => bnd (m ρ) fun ds => lift ((g ds).map .tuple)
def mCall (F : List D → M W D) (m : Rho → M W (List D)) : ME W := fun ρ => bnd (m ρ) fun ds => noX (F ds)
def mCallX (F : List D → M W D) (m : Rho → M W (List D)) : ME W := fun ρ => bnd (m ρ) F
def mAndV (a b : ME W) : ME W := fun ρ => bnd (mB a ρ) fun c => if c then b ρ else ret (.bool false)
def mOrV (a b : ME W) : ME W := fun ρ => bnd (mB a ρ) fun c => if c then ret (.bool true) else b ρ
def mNotV (a : ME W) : ME W := fun ρ => bnd (mB a ρ) fun c => ret (.bool (!c))
def asL : D → M W (List D) | .list ds => ret ds | _ => stk
def asT : D → M W (List D) | .tuple ds => ret ds | _ => stk
def asS : D → M W (List D) | .str x => ret (signsOf x) | _ => stk
def srcL (m : ME W) : Rho → M W (List D) := fun ρ => bnd (m ρ) asL
def srcT (m : ME W) : Rho → M W (List D) := fun ρ => bnd (m ρ) asT
def srcS (m : ME W) : Rho → M W (List D) := fun ρ => bnd (m ρ) asS
theorem gOp {ta tb : TE} {ka kb : Kd} {ma mb : ME W} {g : Op2} {r : R2} (hr : OpP K r g) (ha : OkE K R C κ ta ka ma) (hb : OkE K R C κ tb kb mb) (na : ka ≠ .own := by decide) (nr : ka ≠ .res := by decide) (nb : kb ≠ .res := by decide) : OkE K R C κ (tOp r ta tb) .dat (mOp g ma mb) := okOp hr ha hb na nr nb
theorem gOpL {ta tb : TE} {ka kb : Kd} {ma mb : ME W} {g : D → D → Option (List D)} {r : R2} (hr : OpL K r g) (ha : OkE K R C κ ta ka ma) (hb : OkE K R C κ tb kb mb) (na : ka ≠ .own := by decide) (nr : ka ≠ .res := by decide) (nb : kb ≠ .res := by decide) : OkE K R C κ (tOp r ta tb) .own (mOpL g ma mb) := okOpL hr ha hb na nr nb
theorem gOpU {ta tb : TE} {ka kb : Kd} {ma mb : ME W} {g : D → D → Option (List D)} {r : R2} (hr : OpU K r g) (ha : OkE K R C κ ta ka ma) (hb : OkE K R C κ tb kb mb) (na : ka ≠ .own := by decide) (nr : ka ≠ .res := by decide) (nb : kb ≠ .res := by decide) : OkE K R C κ (tOp r ta tb) .dat (mOpU g ma mb) := okOpU hr ha hb na nr nb
theorem gCB {ta : TA} {ks : List Kd} {m : Rho → M W (List D)} {r : Rb} {g : OpN} (hr : CbP K r g) (h : OkA K R C κ ta ks m) (hk : ∀ k ∈ ks, k ≠ .res := by decide) : OkE K R C κ (tCB r ta) .dat (mCB g m) := okCB hr h hk
theorem gCBL {ta : TA} {ks : List Kd} {m : Rho → M W (List D)} {r : Rb} {g : List D → Option (List D)} (hr : CbL K r g) (h : OkA K R C κ ta ks m) (hk : ∀ k ∈ ks, k ≠ .res := by decide) : OkE K R C κ (tCB r ta) .own (mCBL g m) := okCBL hr h hk
theorem gCBU {ta : TA} {ks : List Kd} {m : Rho → M W (List D)} {r : Rb} {g : List D → Option (List D)} (hr : CbU K r g) (h : OkA K R C κ ta ks m) (hk : ∀ k ∈ ks, k ≠ .res := by decide) : OkE K R C κ (tCB r ta) .dat (mCBU g m) := okCBU hr h hk
theorem gAndV {t u : TE} {ka : Kd} {a b : ME W} (h1 : OkE K R C κ t ka a) (h2 : OkE K R C κ u .dat b) (na : ka ≠ .res := by decide) : OkE K R C κ (tAndV t u) .dat (mAndV a b) := by
  have := okAndV h1 h2 na
  simp only [if_true] at this
  exact this
theorem gOrV {t u : TE} {ka : Kd} {a b : ME W} (h1 : OkE K R C κ t ka a) (h2 : OkE K R C κ u .dat b) (na : ka ≠ .res := by decide) : OkE K R C κ (tOrV t u) .dat (mOrV a b) := by
  have := okOrV h1 h2 na
  simp only [if_true] at this
  exact this
theorem gNotV {t : TE} {ka : Kd} {a : ME W} (h1 : OkE K R C κ t ka a) (na : ka ≠ .res := by decide) : OkE K R C κ (tNotV t) .dat (mNotV a) := okNotV h1 na
theorem asL_eq : (fun d => match d with | .list ds => ret ds | _ => stk : D → M W (List D)) = asL := by funext d; cases d <;> rfl
theorem asT_eq : (fun d => match d with | .tuple ds => ret ds | _ => stk : D → M W (List D)) = asT := by funext d; cases d <;> rfl
theorem asS_eq : (fun d => match d with | .str x => ret (signsOf x) | _ => stk : D → M W (List D)) = asS := by funext d; cases d <;> rfl
theorem gIDat {tl : TE} {m : ME W} (h : OkE K R C κ tl .dat m) : OkI K R C κ (iList K tl) (srcL m) := by
  unfold srcL
  rw [← asL_eq]
  exact okIDat h
theorem gIBor {i : Nat} (hk : kd κ i = .bor := by rfl) : OkI K R C κ (iList K (tVar i)) (srcL (mVar i)) := by
  unfold srcL
  rw [← asL_eq]
  exact okIBor hk
theorem gIOwn {i : Nat} (hk : kd κ i = .own := by rfl) : OkIc K R C κ (iList K (tVar i)) (srcL (mVar i)) := by
  unfold srcL
  rw [← asL_eq]
  exact okIOwn hk
theorem gITup {tl : TE} {m : ME W} (h : OkE K R C κ tl .dat m) : OkI K R C κ (iTup K tl) (srcT m) := by
  unfold srcT
  rw [← asT_eq]
  exact okITup h
theorem gIStr {te : TE} {m : ME W} {k : Kd} (h : OkE K R C κ te k m) (hk : k ≠ .res := by decide) : OkI K R C κ (iStr te) (srcS m) := by
  unfold srcS
  rw [← asS_eq]
  exact okIStr h hk

/-- the promise, wherever the draws stand -/
def spD (K : PySem.W.Frag) (cn : String → Value → Prop) (x : Bool) (κs : List Kd) (rk : Kd) (F : List D → M Dr D) : Sp := fun vs H Q E => ∃ dp sp, spB K (drR dp sp) cn x κs rk F vs H Q E
theorem spD_len {cn : String → Value → Prop} {x : Bool} {κs : List Kd} {F : List D → M Dr D} {ps : List Str} (hl : κs.length = ps.length) : ∀ vs H Q E, spD K cn x κs rk F vs H Q E → vs.length = ps.length := fun vs H Q E ⟨_, _, h⟩ => sp_len hl vs H Q E h
theorem gCall {dp sp : Addr} {ta : TA} {ks : List Kd} {m : Rho → M Dr (List D)} {cn : String → Value → Prop} {rk : Kd} {F : List D → M Dr D} {E : XK} (h : OkA K (drR dp sp) C κ ta ks m) (hk : ∀ k ∈ ks, k ≠ .own := by decide) :
    OkE K (drR dp sp) C κ (tCall (spD K cn false ks rk F) [] E ta) rk (mCall F m) := by
  intro S0 H0 w0 S H σ ρ w Q rl q
  refine h S0 H0 w0 S H σ ρ w _ rl ?_
  unfold mCall at q
  cases e : m ρ w with
  | stuck => simp only [bnd_stuck e] at q; exact q.elim
  | exc c fs w1 => simp only [bnd_exc e] at q; exact q
  | ok ds w1 =>
    simp only [bnd_ok e, noX] at q
    intro vs S1 H1 r1 s1 o1
    rw [List.append_nil]
    refine ⟨dp, sp, S1, w1, ds, r1.out.in_, resAll_arg r1 hk o1, ?_⟩
    cases e2 : F ds w1 with
    | stuck => rw [e2] at q; exact q.elim
    | exc c fs w2 => rw [e2] at q; exact q.elim
    | ok d w2 =>
      rw [e2] at q
      exact fun v S2 H2 u2 o2 => q v S2 H2 (r1.after u2) (fun a o z => u2.sub0 a o (s1 a o z)) (o2.res r1 u2)
theorem gCallX {dp sp : Addr} {ta : TA} {ks : List Kd} {m : Rho → M Dr (List D)} {rk : Kd} {F : List D → M Dr D} (h : OkA K (drR dp sp) C κ ta ks m) (hk : ∀ k ∈ ks, k ≠ .own := by decide) :
    OkE K (drR dp sp) C κ (tCallS (spD K C.cn true ks rk F) (WE C.wx) ta) rk (mCallX F m) := by
  intro S0 H0 w0 S H σ ρ w Q rl q
  refine h S0 H0 w0 S H σ ρ w _ rl ?_
  unfold mCallX at q
  cases e : m ρ w with
  | stuck => simp only [bnd_stuck e] at q; exact q.elim
  | exc c fs w1 => simp only [bnd_exc e] at q; exact q
  | ok ds w1 =>
    simp only [bnd_ok e] at q
    intro vs S1 H1 r1 s1 o1
    refine ⟨dp, sp, S1, w1, ds, r1.out.in_, resAll_arg r1 hk o1, ?_⟩
    cases e2 : F ds w1 with
    | stuck => rw [e2] at q; exact q.elim
    | exc c fs w2 =>
      rw [e2] at q
      exact ⟨rfl, fun cls dd S2 H2 u2 hc hx => q cls dd S2 H2 (r1.after u2) hc hx⟩
    | ok d w2 =>
      rw [e2] at q
      exact fun v S2 H2 u2 o2 => q v S2 H2 (r1.after u2) (fun a o z => u2.sub0 a o (s1 a o z)) (o2.res r1 u2)
section
variable {X : Cx} {pos : Pos}
theorem pgN {i : Nat} {x : Str} (hN : X.N.Nodup) (hi : X.N[i]? = some x) (hx : Loc X.env.scope x) (hf : X.fn x = true ∨ X.env.scope.names.lookup x = some .local) : PG X (.Name x pos) (gName i) := pg_name hN hi hx hf
theorem pgsC {e : Expr} {es : List Expr} {t : TG} {u : TGs} (h1 : PG X e t) (h2 : PGs X es u) (hs : (assignEach (e :: es) X.env).map (·.2) = assign e X.env :: (assignEach es X.env).map (·.2)) : PGs X (e :: es) (gCons t u) := pgs_cons h1 h2 hs
theorem pgT {es : List Expr} {k : Nat} {t : TGs} {n : Nat} (hc : X.calm = true) (h : PGs X es t) (hn : (assignEach es X.env).length = n) (hst : (assignEach es X.env).findIdx? (·.1) = none) (hK : X.K = K) : PG X (.Tuple es k pos) (gTup K n t) := by
  subst hK
  exact pg_tup hc h hn hst
theorem opEq (hu : X.A.units + 64 < cLine) (hK : X.K = K) : OpR X (compareOp .Eq) (rEqD K) := by
  subst hK
  exact op_eqD hu
theorem opNe (hu : X.A.units + 64 < cLine) (hK : X.K = K) : OpR X (compareOp .NotEq) (rNeD K) := by
  subst hK
  exact op_neD hu
end
/-! ### built-ins -/
theorem seenAll_1 {vs : List V} {d : D} (h : SeenAll K S H vs [d]) : ∃ v, vs = [v] ∧ Seen K S H v d := by
  cases h with
  | cons h1 h2 => cases h2; exact ⟨_, rfl, h1⟩
theorem seenAll_2 {vs : List V} {d e : D} (h : SeenAll K S H vs [d, e]) : ∃ v u, vs = [v, u] ∧ Seen K S H v d ∧ Seen K S H u e := by
  cases h with
  | cons h1 h2 =>
    obtain ⟨u, rfl, h3⟩ := seenAll_1 h2
    exact ⟨_, u, rfl, h1, h3⟩
def gLen : OpN | [.list ds] => some (.int ds.length) | [.tuple ds] => some (.int ds.length) | _ => none
theorem cLen : CbP K (rLenQ K) gLen := by
  intro S H vs ds z Q sub hs hf q
  unfold gLen at hf
  split at hf
  · cases hf
    obtain ⟨v, rfl, h⟩ := seenAll_1 hs
    obtain ⟨p, us, rfl, h1, h2⟩ := seen_list sub h
    refine ⟨p, us, rfl, .inl (SqL.of h1), ?_⟩
    rw [dvs_len h2]
    exact q _ (.int _)
  · cases hf
    obtain ⟨v, rfl, h⟩ := seenAll_1 hs
    obtain ⟨p, us, rfl, h1, _, h2⟩ := seen_tup sub h
    refine ⟨p, us, rfl, .inr h1, ?_⟩
    rw [dvs_len h2]
    exact q _ (.int _)
  · cases hf
def gLenS : OpN | [.str x] => if x.length ≤ 1000000 then some (.int x.length) else none | _ => none
theorem cLenS : CbP K (fun xs H Q => ∃ z, xs = [.str z] ∧ z.length ≤ sizeLine ∧ Q (.int z.length) H) gLenS := by
  intro S H vs ds z Q sub hs hf q
  unfold gLenS at hf
  split at hf
  · split at hf
    · rename_i hl
      cases hf
      obtain ⟨v, rfl, h⟩ := seenAll_1 hs
      rw [seen_str h]
      exact ⟨_, rfl, sz_le hl, q _ (.int _)⟩
    · cases hf
  · cases hf
def gAbs : OpN | [.int i] => some (.int (if i < 0 then -i else i)) | _ => none
theorem cAbs : CbP K rAbs1 gAbs := by
  intro S H vs ds z Q sub hs hf q
  unfold gAbs at hf
  split at hf
  · cases hf
    obtain ⟨v, rfl, h⟩ := seenAll_1 hs
    rw [seen_int h]
    exact ⟨_, rfl, q _ (.int _)⟩
  · cases hf
def gMax2 : OpN | [.int i, .int j] => some (.int (if j > i then j else i)) | _ => none
theorem cMax2 : CbP K (fun xs H Q => ∃ i j, xs = [.int i, .int j] ∧ Q (.int (if j > i then j else i)) H) gMax2 := by
  intro S H vs ds z Q sub hs hf q
  unfold gMax2 at hf
  split at hf
  · cases hf
    obtain ⟨v, u, rfl, h1, h2⟩ := seenAll_2 hs
    rw [seen_int h1, seen_int h2]
    exact ⟨_, _, rfl, q _ (.int _)⟩
  · cases hf
def gMin2 : OpN | [.int i, .int j] => some (.int (if j < i then j else i)) | _ => none
theorem cMin2 : CbP K (fun xs H Q => ∃ i j, xs = [.int i, .int j] ∧ Q (.int (if j < i then j else i)) H) gMin2 := by
  intro S H vs ds z Q sub hs hf q
  unfold gMin2 at hf
  split at hf
  · cases hf
    obtain ⟨v, u, rfl, h1, h2⟩ := seenAll_2 hs
    rw [seen_int h1, seen_int h2]
    exact ⟨_, _, rfl, q _ (.int _)⟩
  · cases hf
def gInt1 : OpN | [.int i] => some (.int i) | [.bool b] => some (.int (if b = true then 1 else 0)) | _ => none
theorem cInt1 : CbP K rInt1 gInt1 := by
  intro S H vs ds z Q sub hs hf q
  unfold gInt1 at hf
  split at hf
  · cases hf
    obtain ⟨v, rfl, h⟩ := seenAll_1 hs
    rw [seen_int h]
    exact .inl ⟨_, rfl, q _ (.int _)⟩
  · cases hf
    obtain ⟨v, rfl, h⟩ := seenAll_1 hs
    rw [seen_bl h]
    exact .inr ⟨_, rfl, q _ (.int _)⟩
  · cases hf
/-- a list of ints -/
def intsD : List D → Option (List Int)
  | [] => some []
  | .int i :: ds => (intsD ds).map (i :: ·)
  | _ :: _ => none
theorem intsD_map : ∀ {ds : List D} {ns : List Int}, intsD ds = some ns → ds = ns.map .int
  | [], ns, h => by cases h; rfl
  | .int i :: ds, ns, h => by
    unfold intsD at h
    cases e : intsD ds with
    | none => rw [e] at h; cases h
    | some ms => rw [e] at h; cases h; rw [intsD_map e]; rfl
@[simp] theorem intsD_of (ns : List Int) : intsD (ns.map .int) = some ns := by
  induction ns with
  | nil => rfl
  | cons n ns ih => show (intsD (ns.map .int)).map (n :: ·) = _; rw [ih]; rfl
def blsD : List D → Option (List Bool)
  | [] => some []
  | .bool i :: ds => (blsD ds).map (i :: ·)
  | _ :: _ => none
theorem blsD_map : ∀ {ds : List D} {ns : List Bool}, blsD ds = some ns → ds = ns.map .bool
  | [], ns, h => by cases h; rfl
  | .bool i :: ds, ns, h => by
    unfold blsD at h
    cases e : blsD ds with
    | none => rw [e] at h; cases h
    | some ms => rw [e] at h; cases h; rw [blsD_map e]; rfl
@[simp] theorem blsD_of (ns : List Bool) : blsD (ns.map .bool) = some ns := by
  induction ns with
  | nil => rfl
  | cons n ns ih => show (blsD (ns.map .bool)).map (n :: ·) = _; rw [ih]; rfl
def strsD : List D → Option (List Str)
  | [] => some []
  | .str i :: ds => (strsD ds).map (i :: ·)
  | _ :: _ => none
theorem strsD_map : ∀ {ds : List D} {ns : List Str}, strsD ds = some ns → ds = ns.map .str
  | [], ns, h => by cases h; rfl
  | .str i :: ds, ns, h => by
    unfold strsD at h
    cases e : strsD ds with
    | none => rw [e] at h; cases h
    | some ms => rw [e] at h; cases h; rw [strsD_map e]; rfl
@[simp] theorem strsD_of (ns : List Str) : strsD (ns.map .str) = some ns := by
  induction ns with
  | nil => rfl
  | cons n ns ih => show (strsD (ns.map .str)).map (n :: ·) = _; rw [ih]; rfl
def maxI : List Int → Int
  | [] => 0
  | [a] => a
  | a :: b :: r => max a (maxI (b :: r))
def minI : List Int → Int
  | [] => 0
  | [a] => a
  | a :: b :: r => min a (minI (b :: r))
theorem maxI_le : ∀ {ns : List Int} {y : Int}, y ∈ ns → y ≤ maxI ns
  | [a], y, h => by
    rw [List.mem_singleton] at h
    rw [h]; exact Int.le_refl _
  | a :: b :: r, y, h => by
    show y ≤ max a (maxI (b :: r))
    rcases List.mem_cons.mp h with rfl | h
    · exact Int.le_max_left _ _
    · exact Int.le_trans (maxI_le h) (Int.le_max_right _ _)
theorem maxI_mem : ∀ {ns : List Int}, ns ≠ [] → maxI ns ∈ ns
  | [a], _ => List.mem_singleton.mpr rfl
  | a :: b :: r, _ => by
    show max a (maxI (b :: r)) ∈ a :: b :: r
    have ih : maxI (b :: r) ∈ b :: r := maxI_mem (List.cons_ne_nil _ _)
    by_cases h : a ≤ maxI (b :: r)
    · rw [Int.max_eq_right h]; exact List.mem_cons_of_mem _ ih
    · rw [Int.max_eq_left (by omega)]; exact List.mem_cons_self
theorem minI_le : ∀ {ns : List Int} {y : Int}, y ∈ ns → minI ns ≤ y
  | [a], y, h => by
    rw [List.mem_singleton] at h
    rw [h]; exact Int.le_refl _
  | a :: b :: r, y, h => by
    show min a (minI (b :: r)) ≤ y
    rcases List.mem_cons.mp h with rfl | h
    · exact Int.min_le_left _ _
    · exact Int.le_trans (Int.min_le_right _ _) (minI_le h)
theorem minI_mem : ∀ {ns : List Int}, ns ≠ [] → minI ns ∈ ns
  | [a], _ => List.mem_singleton.mpr rfl
  | a :: b :: r, _ => by
    show min a (minI (b :: r)) ∈ a :: b :: r
    have ih : minI (b :: r) ∈ b :: r := minI_mem (List.cons_ne_nil _ _)
    by_cases h : a ≤ minI (b :: r)
    · rw [Int.min_eq_left h]; exact List.mem_cons_self
    · rw [Int.min_eq_right (by omega)]; exact List.mem_cons_of_mem _ ih
def gMaxL : OpN | [.list ds] => (intsD ds).bind fun ns => if ns = [] then none else some (.int (maxI ns)) | _ => none
def gMinL : OpN | [.list ds] => (intsD ds).bind fun ns => if ns = [] then none else some (.int (minI ns)) | _ => none
def gSumL : OpN | [.list ds] => (intsD ds).map fun ns => .int ns.sum | _ => none
def gAnyL : OpN | [.list ds] => (blsD ds).map fun bs => .bool (bs.any id) | _ => none
def gAllL : OpN | [.list ds] => (blsD ds).map fun bs => .bool (bs.all id) | _ => none
theorem cMaxL : CbP K (rMax K) gMaxL := by
  intro S H vs ds z Q sub hs hf q
  unfold gMaxL at hf
  split at hf
  · rename_i ds'
    cases e : intsD ds' with
    | none => rw [e] at hf; cases hf
    | some ns =>
      rw [e] at hf
      have hf : (if ns = [] then none else some (PyData.int (maxI ns))) = some z := hf
      by_cases hn : ns = []
      · rw [if_pos hn] at hf; cases hf
      · rw [if_neg hn] at hf
        cases hf
        obtain ⟨v, rfl, h⟩ := seenAll_1 hs
        obtain ⟨p, us, rfl, h1, h2⟩ := seen_list sub h
        rw [intsD_map e] at h2
        rw [dvs_ints h2] at h1
        refine ⟨p, ns, rfl, SqL.of h1, List.length_pos_iff.mpr hn, fun m hm hl => ?_⟩
        have e1 : m = maxI ns := Int.le_antisymm (maxI_le hm) (hl _ (maxI_mem hn))
        rw [e1]
        exact q _ (.int _)
  · cases hf
theorem cMinL : CbP K (rMin K) gMinL := by
  intro S H vs ds z Q sub hs hf q
  unfold gMinL at hf
  split at hf
  · rename_i ds'
    cases e : intsD ds' with
    | none => rw [e] at hf; cases hf
    | some ns =>
      rw [e] at hf
      have hf : (if ns = [] then none else some (PyData.int (minI ns))) = some z := hf
      by_cases hn : ns = []
      · rw [if_pos hn] at hf; cases hf
      · rw [if_neg hn] at hf
        cases hf
        obtain ⟨v, rfl, h⟩ := seenAll_1 hs
        obtain ⟨p, us, rfl, h1, h2⟩ := seen_list sub h
        rw [intsD_map e] at h2
        rw [dvs_ints h2] at h1
        refine ⟨p, ns, rfl, SqL.of h1, List.length_pos_iff.mpr hn, fun m hm hl => ?_⟩
        have e1 : m = minI ns := Int.le_antisymm (hl _ (minI_mem hn)) (minI_le hm)
        rw [e1]
        exact q _ (.int _)
  · cases hf
theorem cSumL : CbP K (rSum K) gSumL := by
  intro S H vs ds z Q sub hs hf q
  unfold gSumL at hf
  split at hf
  · rename_i ds'
    cases e : intsD ds' with
    | none => rw [e] at hf; cases hf
    | some ns =>
      rw [e] at hf
      cases hf
      obtain ⟨v, rfl, h⟩ := seenAll_1 hs
      obtain ⟨p, us, rfl, h1, h2⟩ := seen_list sub h
      rw [intsD_map e] at h2
      rw [dvs_ints h2] at h1
      exact ⟨p, ns, rfl, SqL.of h1, q _ (.int _)⟩
  · cases hf
theorem cAnyL : CbP K (rAny K) gAnyL := by
  intro S H vs ds z Q sub hs hf q
  unfold gAnyL at hf
  split at hf
  · rename_i ds'
    cases e : blsD ds' with
    | none => rw [e] at hf; cases hf
    | some ns =>
      rw [e] at hf
      cases hf
      obtain ⟨v, rfl, h⟩ := seenAll_1 hs
      obtain ⟨p, us, rfl, h1, h2⟩ := seen_list sub h
      rw [blsD_map e] at h2
      rw [dvs_bls h2] at h1
      exact ⟨p, ns, rfl, SqL.of h1, q _ (.bl _)⟩
  · cases hf
theorem cAllL : CbP K (rAll K) gAllL := by
  intro S H vs ds z Q sub hs hf q
  unfold gAllL at hf
  split at hf
  · rename_i ds'
    cases e : blsD ds' with
    | none => rw [e] at hf; cases hf
    | some ns =>
      rw [e] at hf
      cases hf
      obtain ⟨v, rfl, h⟩ := seenAll_1 hs
      obtain ⟨p, us, rfl, h1, h2⟩ := seen_list sub h
      rw [blsD_map e] at h2
      rw [dvs_bls h2] at h1
      exact ⟨p, ns, rfl, SqL.of h1, q _ (.bl _)⟩
  · cases hf
def gListOf : List D → Option (List D) | [.list ds] => some ds | [.tuple ds] => some ds | _ => none
theorem cList : CbL K (rListQ K) gListOf := by
  intro S H vs ds z Q sub hs hf q
  unfold gListOf at hf
  split at hf
  · cases hf
    obtain ⟨v, rfl, h⟩ := seenAll_1 hs
    obtain ⟨p, us, rfl, h1, h2⟩ := seen_list sub h
    exact ⟨p, us, rfl, .inl (SqL.of h1), fun l hl => q l us hl h2⟩
  · cases hf
    obtain ⟨v, rfl, h⟩ := seenAll_1 hs
    obtain ⟨p, us, rfl, h1, _, h2⟩ := seen_tup sub h
    exact ⟨p, us, rfl, .inr h1, fun l hl => q l us hl h2⟩
  · cases hf
def rTupQ (K : PySem.W.Frag) : Rb := fun xs H Q => ∃ p ys, xs = [.ref p] ∧ ((SqL K H p ys ∧ ∀ l, H l = none → Q (.ref l) (upd H l (.tup ys))) ∨ (SqT K H p ys ∧ Q (.ref p) H))
theorem cTuple : CbU K (rTupQ K) gListOf := by
  intro S H vs ds z Q sub hs hf q q2
  unfold gListOf at hf
  split at hf
  · cases hf
    obtain ⟨v, rfl, h⟩ := seenAll_1 hs
    obtain ⟨p, us, rfl, h1, h2⟩ := seen_list sub h
    exact ⟨p, us, rfl, .inl ⟨SqL.of h1, fun l hl => q l us hl h2⟩⟩
  · cases hf
    obtain ⟨v, rfl, h⟩ := seenAll_1 hs
    obtain ⟨p, us, rfl, h1, h3, h2⟩ := seen_tup sub h
    exact ⟨p, us, rfl, .inr ⟨h1, q2 _ (.tup h3 h2)⟩⟩
  · cases hf
end
end B

namespace B
open PySem L2
section
variable {X : Cx} {K : PySem.W.Frag}
/-! ### the rules, K told apart (within a comprehension the context is another) -/
theorem kIxL (hK : X.K = K) : IxR X (rIxL K) := by subst hK; exact ix_list
theorem kIxT (hK : X.K = K) : IxR X (rIxT K) := by subst hK; exact ix_tup
theorem kIn (hK : X.K = K) : OpR X (compareOp .In) (rIn K false) := by subst hK; exact op_in_seq
theorem kNotIn (hK : X.K = K) : OpR X (compareOp .NotIn) (rIn K true) := by subst hK; exact op_notIn_seq
theorem kInD (hu : X.A.units + 65 < cLine) (hK : X.K = K) : OpR X (compareOp .In) (rInD K) := by subst hK; exact op_inD hu
theorem kNotInD (hu : X.A.units + 65 < cLine) (hK : X.K = K) : OpR X (compareOp .NotIn) (rNotInD K) := by subst hK; exact op_notInD hu
theorem kLen (hK : X.K = K) : CallR X (.builtin "len") (rLenQ K) := by subst hK; exact call_len_seq
theorem kListOf (hK : X.K = K) : CallR X (.type "list") (rListQ K) := by subst hK; exact call_list_of
theorem kTupOf (hK : X.K = K) : CallR X (.type "tuple") (rTupQ K) := by subst hK; exact call_tuple_of
theorem kMaxL (hc : X.calm = true) (hK : X.K = K) : CallR X (.builtin "max") (rMax K) := by subst hK; exact cr_max hc
theorem kMinL (hc : X.calm = true) (hK : X.K = K) : CallR X (.builtin "min") (rMin K) := by subst hK; exact cr_min hc
theorem kSumL (hc : X.calm = true) (hK : X.K = K) : CallR X (.builtin "sum") (rSum K) := by subst hK; exact cr_sum hc
theorem kAnyL (hc : X.calm = true) (hK : X.K = K) : CallR X (.builtin "any") (rAny K) := by subst hK; exact cr_any hc
theorem kAllL (hc : X.calm = true) (hK : X.K = K) : CallR X (.builtin "all") (rAll K) := by subst hK; exact cr_all hc
theorem kCatT (hK : X.K = K) : OpR X (binaryOp .Add) (rCatA K) := by subst hK; exact op_catA
theorem kRepT (hK : X.K = K) : OpR X (binaryOp .Mult) (rRepT K) := by subst hK; exact op_repT
theorem kSlT (hK : X.K = K) : SlR X (rSlA K) := by subst hK; exact sl_tupA
theorem kSlL (hK : X.K = K) : SlR X (rSlL K) := by subst hK; exact sl_list
theorem kTruth {a : Expr} {ta : TE} (hK : X.K = K) (ha : PE X a ta) (he : ∀ whole, isTrue a X.env whole = (do let v ← whole; standAt a.pos; holding [v] (truthy v))) :
    PT X a (fun σ H Q => ta σ H fun x H' => ∃ k, TruV K x H' k ∧ Q k H') := by subst hK; exact pt_truth ha he
end
section
variable {K : PySem.W.Frag} {W : Type} {R : Rs W} {C : Cl} {κ : List Kd} {S H : Hp}
/-! ### texts -/
def isText : D → Bool | .str _ => true | _ => false
def gAddS : Op2 | .str x, .str y => if x.length + y.length ≤ 1000000 then some (.str (x ++ y)) else none | _, _ => none
theorem oAddS : OpP K (fun x y H Q => ∃ i j, x = .str i ∧ y = .str j ∧ i.length + j.length ≤ sizeLine ∧ Q (.str (i ++ j)) H) gAddS := by
  intro S H x y d e u Q sub hx hy h q
  unfold gAddS at h; split at h
  · split at h
    · rename_i c
      cases h
      rw [seen_str hx, seen_str hy]
      exact ⟨_, _, rfl, rfl, sz_le c, q _ (.str _)⟩
    · cases h
  · cases h
def gIxS : Op2 | .str x, .int i => if x.length ≤ 1000000 then (atI x.cps.toList i).map fun c => .str ⟨#[c]⟩ else none | _, _ => none
theorem oIxS : OpP K rIxS gIxS := by
  intro S H x y d e u Q sub hx hy h q
  unfold gIxS at h; split at h
  · rename_i z i
    split at h
    · rename_i c
      cases e2 : atI z.cps.toList i with
      | none => rw [e2] at h; cases h
      | some k =>
        rw [e2] at h
        cases h
        rw [seen_str hx, seen_int hy]
        exact ⟨_, _, k, rfl, rfl, sz_le c, e2, q _ (.str _)⟩
    · cases h
  · cases h
def gLtS : Op2 | .str x, .str y => some (.bool (decide (x.cps.toList < y.cps.toList))) | _, _ => none
theorem oLtS : OpP K (fun x y H Q => ∃ i j, x = .str i ∧ y = .str j ∧ Q (.bl (decide (i.cps.toList < j.cps.toList))) H) gLtS := by
  intro S H x y d e u Q sub hx hy h q
  unfold gLtS at h; split at h
  · cases h
    rw [seen_str hx, seen_str hy]
    exact ⟨_, _, rfl, rfl, q _ (.bl _)⟩
  · cases h
/-- one sign in a text -/
def oneOf (x : Str) : Option Nat := match x.cps.toList with | [c] => some c | _ => none
theorem oneOf_is {x : Str} {c : Nat} (h : oneOf x = some c) : x = ⟨#[c]⟩ := by
  unfold oneOf at h
  split at h
  · rename_i a e
    cases h
    obtain ⟨b⟩ := x
    congr 1
    apply Array.ext'
    exact e
  · cases h
@[simp] theorem oneOf_mk (c : Nat) : oneOf ⟨#[c]⟩ = some c := rfl
def gInC : Op2 | .str x, .str z => (oneOf x).map fun c => .bool (decide (c ∈ z.cps.toList)) | _, _ => none
def gNotInC : Op2 | .str x, .str z => (oneOf x).map fun c => .bool (!decide (c ∈ z.cps.toList)) | _, _ => none
theorem oInC : OpP K (fun x y H Q => ∃ (c : Nat) (z : Str), x = .str ⟨#[c]⟩ ∧ y = .str z ∧ Q (.bl (decide (c ∈ z.cps.toList))) H) gInC := by
  intro S H x y d e u Q sub hx hy h q
  unfold gInC at h; split at h
  · rename_i a b
    cases ec : oneOf a with
    | none => rw [ec] at h; cases h
    | some c =>
      rw [ec] at h
      cases h
      rw [seen_str hx, seen_str hy, oneOf_is ec]
      exact ⟨_, _, rfl, rfl, q _ (.bl _)⟩
  · cases h
theorem oNotInC : OpP K (fun x y H Q => ∃ (c : Nat) (z : Str), x = .str ⟨#[c]⟩ ∧ y = .str z ∧ Q (.bl (!decide (c ∈ z.cps.toList))) H) gNotInC := by
  intro S H x y d e u Q sub hx hy h q
  unfold gNotInC at h; split at h
  · rename_i a b
    cases ec : oneOf a with
    | none => rw [ec] at h; cases h
    | some c =>
      rw [ec] at h
      cases h
      rw [seen_str hx, seen_str hy, oneOf_is ec]
      exact ⟨_, _, rfl, rfl, q _ (.bl _)⟩
  · cases h
def gOrd : OpN | [.str x] => if x.length = 1 then some (.int (x.cps.getD 0 0 : Nat)) else none | _ => none
theorem cOrd : CbP K (fun xs H Q => ∃ x, xs = [.str x] ∧ x.length = 1 ∧ Q (.int (x.cps.getD 0 0 : Nat)) H) gOrd := by
  intro S H vs ds z Q sub hs hf q
  unfold gOrd at hf
  split at hf
  · split at hf
    · rename_i hl
      cases hf
      obtain ⟨v, rfl, h⟩ := seenAll_1 hs
      rw [seen_str h]
      exact ⟨_, rfl, hl, q _ (.int _)⟩
    · cases hf
  · cases hf
/-- str(n): below 10 ^ 500 -/
def gStrI : OpN | [.int i] => if i.natAbs.log2 < 1920 then some (.str (toString i)) else none | _ => none
theorem cStrI : CbP K (fun xs H Q => ∃ i, xs = [.int i] ∧ i.natAbs.log2 < 1920 ∧ Q (.str (toString i)) H) gStrI := by
  intro S H vs ds z Q sub hs hf q
  unfold gStrI at hf
  split at hf
  · split at hf
    · rename_i hl
      cases hf
      obtain ⟨v, rfl, h⟩ := seenAll_1 hs
      rw [seen_int h]
      exact ⟨_, rfl, hl, q _ (.str _)⟩
    · cases hf
  · cases hf

/-! ### None, in a tuple, tuples -/
def gIsN : Op2 | .none, .none => some (.bool true) | _, .none => some (.bool false) | _, _ => none
def gNotN : Op2 | .none, .none => some (.bool false) | _, .none => some (.bool true) | _, _ => none
theorem seen_notNone {v : V} {d : D} (hd : d ≠ .none) (h : Seen K S H v d) : v ≠ .non := by
  rcases h with h | ⟨p, ho, rfl, _, _⟩
  · cases h with
    | non => exact absurd rfl hd
    | _ => exact fun z => by cases z
  · exact fun z => by cases z
theorem oIsN : OpP K (fun x y H Q => y = .non ∧ Q (.bl (decide (x = .non))) H) gIsN := by
  intro S H x y d e u Q sub hx hy h q
  unfold gIsN at h
  split at h
  · cases h
    rw [seen_none hx, seen_none hy]
    exact ⟨rfl, q _ (.bl _)⟩
  · rename_i hd
    cases h
    rw [seen_none hy, decide_eq_false (seen_notNone (fun z => hd z) hx)]
    exact ⟨rfl, q _ (.bl _)⟩
  · cases h
theorem oNotN : OpP K (fun x y H Q => y = .non ∧ Q (.bl (!decide (x = .non))) H) gNotN := by
  intro S H x y d e u Q sub hx hy h q
  unfold gNotN at h
  split at h
  · cases h
    rw [seen_none hx, seen_none hy]
    exact ⟨rfl, q _ (.bl _)⟩
  · rename_i hd
    cases h
    rw [seen_none hy, decide_eq_false (seen_notNone (fun z => hd z) hx)]
    exact ⟨rfl, q _ (.bl _)⟩
  · cases h
def flatD : D → Bool | .none => true | .bool _ => true | .int _ => true | .str _ => true | _ => false
theorem flat_dv {v : V} {d : D} (h : DV K S v d) (f : flatD d = true) : flatV v = true := by
  cases h with
  | lst _ _ => cases f
  | tup _ _ => cases f
  | _ => rfl
theorem eqV_dv {v u : V} {d e : D} (h : DV K S v d) (h2 : DV K S u e) (f : flatD d = true) (f2 : flatD e = true) : eqV v u = PyData.eqv d e := by
  cases h with
  | lst _ _ => cases f
  | tup _ _ => cases f
  | _ =>
    cases h2 with
    | lst _ _ => cases f2
    | tup _ _ => cases f2
    | _ => simp only [eqV, PyData.eqv]
theorem inV_dvs {v : V} {d : D} (h : DV K S v d) (f : flatD d = true) : ∀ {us : List V} {es : List D}, DVs K S us es → es.all flatD = true → us.all flatV = true ∧ inV v us = es.any fun y => PyData.eqv y d
  | _, _, .nil, _ => ⟨rfl, rfl⟩
  | _, _, .cons h1 h2, fs => by
    rw [List.all_cons, Bool.and_eq_true] at fs
    obtain ⟨g1, g2⟩ := inV_dvs h f h2 fs.2
    refine ⟨by rw [List.all_cons, flat_dv h1 fs.1, g1]; rfl, ?_⟩
    unfold inV at g2 ⊢
    rw [List.any_cons, List.any_cons, g2, eqV_dv h1 h fs.1 f]
def gInT : Op2 | d, .tuple es => if flatD d = true ∧ es.all flatD = true then some (.bool (es.any fun y => PyData.eqv y d)) else none | _, _ => none
def gNotInT : Op2 | d, .tuple es => if flatD d = true ∧ es.all flatD = true then some (.bool (!es.any fun y => PyData.eqv y d)) else none | _, _ => none
theorem flat_seen {v : V} {d : D} (f : flatD d = true) (h : Seen K S H v d) : DV K S v d := by
  rcases h with h | ⟨p, ho, _, _, h⟩
  · exact h
  · cases ho <;> cases d <;> first | exact h.elim | cases f
theorem oInT : OpP K (rIn K false) gInT := by
  intro S H x y d e u Q sub hx hy h q
  unfold gInT at h
  split at h
  · split at h
    · rename_i c
      cases h
      obtain ⟨p, vs, rfl, h1, _, h2⟩ := seen_tup sub hy
      have hd := flat_seen c.1 hx
      obtain ⟨g1, g2⟩ := inV_dvs hd c.1 h2 c.2
      refine ⟨p, vs, rfl, .inr h1, flat_dv hd c.1, g1, ?_⟩
      rw [if_neg Bool.false_ne_true, g2]
      exact q _ (.bl _)
    · cases h
  · cases h
theorem oNotInT : OpP K (rIn K true) gNotInT := by
  intro S H x y d e u Q sub hx hy h q
  unfold gNotInT at h
  split at h
  · split at h
    · rename_i c
      cases h
      obtain ⟨p, vs, rfl, h1, _, h2⟩ := seen_tup sub hy
      have hd := flat_seen c.1 hx
      obtain ⟨g1, g2⟩ := inV_dvs hd c.1 h2 c.2
      refine ⟨p, vs, rfl, .inr h1, flat_dv hd c.1, g1, ?_⟩
      rw [if_pos rfl, g2]
      exact q _ (.bl _)
    · cases h
  · cases h
def gInD : Op2 | d, .list es => if SeqAt.shaped d = true ∧ SeqAt.shaped (.list es) = true then some (.bool (es.any fun z => PyData.eqv z d)) else none | _, _ => none
def gNotInD : Op2 | d, .list es => if SeqAt.shaped d = true ∧ SeqAt.shaped (.list es) = true then some (.bool (!es.any fun z => PyData.eqv z d)) else none | _, _ => none
theorem oInD : OpP K (rInD K) gInD := by
  intro S H x y d e u Q sub hx hy h q
  unfold gInD at h
  split at h
  · split at h
    · rename_i c
      cases h
      exact ⟨_, _, seen_dp sub hx, seen_dp sub hy, c.1, c.2, q _ (.bl _)⟩
    · cases h
  · cases h
theorem oNotInD : OpP K (rNotInD K) gNotInD := by
  intro S H x y d e u Q sub hx hy h q
  unfold gNotInD at h
  split at h
  · split at h
    · rename_i c
      cases h
      exact ⟨_, _, seen_dp sub hx, seen_dp sub hy, c.1, c.2, q _ (.bl _)⟩
    · cases h
  · cases h
def gCatT : D → D → Option (List D) | .tuple a, .tuple b => if a.length + b.length ≤ 1000000 then some (a ++ b) else none | _, _ => none
theorem oCatT : OpU K (rCatA K) gCatT := by
  intro S H x y d e u Q sub hx hy h q q2
  unfold gCatT at h
  split at h
  · split at h
    · rename_i c
      cases h
      obtain ⟨p, vs, rfl, h1, s1, h2⟩ := seen_tup sub hx
      obtain ⟨p', vs', rfl, h1', s1', h2'⟩ := seen_tup sub hy
      refine ⟨p, p', vs, vs', rfl, rfl, h1, h1', by rw [dvs_len h2, dvs_len h2']; exact sz_le c, fun e => ?_, fun _ e => ?_, fun _ _ p hp => q p _ hp (dvs_app h2 h2')⟩
      · subst e
        cases h2
        exact q2 _ (.tup s1' h2')
      · subst e
        cases h2'
        rw [List.append_nil] at q2
        exact q2 _ (.tup s1 h2)
    · cases h
  · cases h
def gRepT : D → D → Option (List D) | .tuple a, .int k => if a ≠ [] ∧ 2 ≤ k ∧ k ≤ 1000 ∧ a.length ≤ 1000 then some (List.replicate k.toNat a).flatten else none | _, _ => none
theorem dvs_rep {vs : List V} {ds : List D} (h : DVs K S vs ds) : ∀ n, DVs K S (List.replicate n vs).flatten (List.replicate n ds).flatten
  | 0 => .nil
  | n + 1 => by
    rw [List.replicate_succ, List.replicate_succ, List.flatten_cons, List.flatten_cons]
    exact dvs_app h (dvs_rep h n)
theorem oRepT : OpU K (rRepT K) gRepT := by
  intro S H x y d e u Q sub hx hy h q q2
  unfold gRepT at h
  split at h
  · split at h
    · rename_i c
      cases h
      obtain ⟨p, vs, rfl, h1, s1, h2⟩ := seen_tup sub hx
      rw [seen_int hy]
      have hl := dvs_len h2
      exact ⟨p, _, vs, rfl, rfl, h1, fun e => c.1 (by rw [e] at h2; cases h2; rfl), c.2.1, c.2.2.1, by rw [hl]; exact c.2.2.2, fun p hp => q p _ hp (dvs_rep h2 _)⟩
    · cases h
  · cases h
def gRep : D → D → Option (List D) | .list a, .int k => if -1000000 ≤ k ∧ k ≤ 1000000 ∧ a.length * k.toNat ≤ 1000000 then some (List.replicate k.toNat a).flatten else none | _, _ => none

/-! ### minus, chains, truth -/
def mNeg (m : ME W) : ME W := fun ρ => bnd (m ρ) fun d => match d with | .int i => ret (.int (-i)) | _ => stk
theorem gNeg {te : TE} {k : Kd} {m : ME W} (h : OkE K R C κ te k m) (hk : k ≠ .res := by decide) : OkE K R C κ (tUn (rU fun i => .int (-i)) te) .dat (mNeg m) := by
  intro S0 H0 w0 S H σ ρ w Q rl q
  refine h S0 H0 w0 S H σ ρ w _ rl ?_
  unfold mNeg at q
  cases e : m ρ w with
  | stuck => rw [bnd_stuck e] at q; exact q.elim
  | exc c fs w1 => rw [bnd_exc e] at q; exact q
  | ok d w1 =>
    rw [bnd_ok e] at q
    intro v S1 H1 r1 s1 o1
    cases d with
    | int i => exact ⟨i, seen_int (o1.seen r1 hk), q _ S1 H1 r1 s1 (.int _)⟩
    | _ => exact q.elim
def mChn (f g : Op2) (ma mb mc : ME W) : ME W := fun ρ => bnd (ma ρ) fun d => bnd (mb ρ) fun e => bnd (lift (f d e)) fun z => match z with
  | .bool b => if b then bnd (mc ρ) fun u => lift (g e u) else ret (.bool false)
  | _ => stk
theorem gChain {ta tb tc : TE} {kc : Kd} {ma mb mc : ME W} {f g : Op2} {r r' : R2} (hf : OpP K r f) (hg : OpP K r' g) (ha : OkE K R C κ ta .dat ma) (hb : OkE K R C κ tb .dat mb) (hc : OkE K R C κ tc kc mc) (nc : kc ≠ .res := by decide) :
    OkE K R C κ (tChain r r' ta tb tc) .dat (mChn f g ma mb mc) := by
  intro S0 H0 w0 S H σ ρ w Q rl q
  refine ha S0 H0 w0 S H σ ρ w _ rl ?_
  unfold mChn at q
  cases e1 : ma ρ w with
  | stuck => rw [bnd_stuck e1] at q; exact q.elim
  | exc c fs w1 => rw [bnd_exc e1] at q; exact q
  | ok d w1 =>
    rw [bnd_ok e1] at q
    intro x S1 H1 r1 s1 o1
    refine hb S0 H0 w0 S1 H1 σ ρ w1 _ r1 ?_
    cases e2 : mb ρ w1 with
    | stuck => rw [bnd_stuck e2] at q; exact q.elim
    | exc c fs w2 => rw [bnd_exc e2] at q; exact q
    | ok e w2 =>
      rw [bnd_ok e2] at q
      intro y S2 H2 r2 s2 o2
      have o1' : DV K S2 x d := dp_mono s2 _ _ o1
      cases e3 : f d e with
      | none => rw [e3, lift_none, bnd_stk] at q; exact q.elim
      | some z =>
        rw [e3, lift_some, bnd_ret] at q
        refine hf S2 H2 x y d e z _ r2.out.sub (.inl o1') (.inl o2) e3 fun v hv => ?_
        cases z with
        | bool b =>
          cases hv
          refine ⟨b, rfl, ?_⟩
          have q' : PostE K R C κ S0 H0 w0 S2 σ ρ .dat Q ((if b = true then bnd (mc ρ) fun u => lift (g e u) else ret (.bool false) : M W D) w2) := postE_mono (fun a o z => s2 a o (s1 a o z)) q
          cases b with
          | false =>
            rw [if_neg (by decide)] at q' ⊢
            exact q' (.bl false) S2 H2 r2 (fun _ _ h => h) (.bl _)
          | true =>
            rw [if_pos rfl] at q' ⊢
            refine hc S0 H0 w0 S2 H2 σ ρ w2 _ r2 ?_
            cases e4 : mc ρ w2 with
            | stuck => rw [bnd_stuck e4] at q'; exact q'.elim
            | exc c fs w3 => rw [bnd_exc e4] at q'; exact q'
            | ok u w3 =>
              rw [bnd_ok e4] at q'
              intro y3 S3 H3 r3 s3 o3
              cases e5 : g e u with
              | none => rw [e5, lift_none] at q'; exact q'.elim
              | some z2 =>
                rw [e5, lift_some] at q'
                exact hg S3 H3 y y3 e u z2 Q r3.out.sub (.inl (dp_mono s3 _ _ o2)) (o3.seen r3 nc) e5 fun v2 hv2 => q' v2 S3 H3 r3 s3 hv2
        | _ => exact q.elim
def truD : D → Option Bool | .none => some false | .bool b => some b | .int i => some (i != 0) | .str x => if x.length ≤ 1000000 then some ((x.length : Int) != 0) else none | .list ds => some (!ds.isEmpty) | .tuple ds => some (!ds.isEmpty) | .dict _ => none
def mTruth (m : ME W) : Rho → M W Bool := fun ρ => bnd (m ρ) fun d => lift (truD d)
theorem gTruth {te : TE} {k : Kd} {m : ME W} (h : OkE K R C κ te k m) (hk : k ≠ .res := by decide) : OkT K R C κ (fun σ H Q => te σ H fun x H' => ∃ k, TruV K x H' k ∧ Q k H') (mTruth m) := by
  intro S0 H0 w0 S H σ ρ w Q rl q
  refine h S0 H0 w0 S H σ ρ w _ rl ?_
  unfold mTruth at q
  cases e : m ρ w with
  | stuck => rw [bnd_stuck e] at q; exact q.elim
  | exc c fs w1 => rw [bnd_exc e] at q; exact q
  | ok d w1 =>
    rw [bnd_ok e] at q
    intro v S1 H1 r1 s1 o1
    have o2 := o1.seen r1 hk
    have sub := r1.out.sub
    cases d with
    | none => rw [seen_none o2]; exact ⟨false, rfl, q S1 H1 r1 s1⟩
    | bool b => rw [seen_bl o2]; exact ⟨b, rfl, q S1 H1 r1 s1⟩
    | int i => rw [seen_int o2]; exact ⟨_, rfl, q S1 H1 r1 s1⟩
    | str x =>
      rw [seen_str o2]
      have q' : PostT K R C κ S0 H0 w0 S σ ρ Q ((lift (if x.length ≤ 1000000 then some ((x.length : Int) != 0) else none) : M W Bool) w1) := q
      by_cases hl : x.length ≤ 1000000
      · rw [if_pos hl] at q'
        exact ⟨_, ⟨sz_le hl, rfl⟩, q' S1 H1 r1 s1⟩
      · rw [if_neg hl] at q'; exact q'.elim
    | list ds =>
      obtain ⟨p, vs, rfl, h1, h2⟩ := seen_list sub o2
      have e3 : vs.isEmpty = ds.isEmpty := by cases h2 <;> rfl
      exact ⟨!vs.isEmpty, .inl ⟨vs, SqL.of h1, rfl⟩, by rw [e3]; exact q S1 H1 r1 s1⟩
    | tuple ds =>
      obtain ⟨p, vs, rfl, h1, _, h2⟩ := seen_tup sub o2
      have e3 : vs.isEmpty = ds.isEmpty := by cases h2 <;> rfl
      exact ⟨!vs.isEmpty, .inr (.inl ⟨vs, h1, rfl⟩), by rw [e3]; exact q S1 H1 r1 s1⟩
    | dict _ => exact q.elim

/-! ### slices -/
abbrev Rsl := V → Option Int → Option Int → Hp → VK → Prop
def OkO (K : PySem.W.Frag) (R : Rs W) (C : Cl) (κ : List Kd) (t : TO) (m : Rho → M W (Option Int)) : Prop :=
  ∀ S0 H0 w0 S H σ ρ w Q, Rel K R κ S0 H0 w0 S H σ ρ w → (match m ρ w with
    | .ok o w' => ∀ S' H', Rel K R κ S0 H0 w0 S' H' σ ρ w' → (∀ a o, S a = some o → S' a = some o) → Q o H'
    | .exc c fs w' => ∀ cls dd S' H', Rel K R κ S0 H0 w0 S' H' σ ρ w' → C.cn c cls → XOk K S' H' dd fs → C.wx cls (some dd) σ H'
    | .stuck => False) → t σ H Q
def mNoP : Rho → M W (Option Int) := fun _ => ret none
def mPart (m : ME W) : Rho → M W (Option Int) := fun ρ => bnd (m ρ) fun d => match d with | .int i => ret (some i) | _ => stk
theorem gNoP : OkO K R C κ tNoPart (mNoP : Rho → M W (Option Int)) := by
  intro S0 H0 w0 S H σ ρ w Q rl q
  exact q S H rl fun _ _ h => h
theorem gPart {te : TE} {k : Kd} {m : ME W} (h : OkE K R C κ te k m) (hk : k ≠ .res := by decide) : OkO K R C κ (tPart te) (mPart m) := by
  intro S0 H0 w0 S H σ ρ w Q rl q
  refine h S0 H0 w0 S H σ ρ w _ rl ?_
  unfold mPart at q
  cases e : m ρ w with
  | stuck => rw [bnd_stuck e] at q; exact q.elim
  | exc c fs w1 => rw [bnd_exc e] at q; exact q
  | ok d w1 =>
    rw [bnd_ok e] at q
    intro v S1 H1 r1 s1 o1
    cases d with
    | int i => exact ⟨i, seen_int (o1.seen r1 hk), q S1 H1 r1 s1⟩
    | _ => exact q.elim
def SlP (K : PySem.W.Frag) (r : Rsl) (g : D → Option Int → Option Int → Option D) : Prop :=
  ∀ S H x d lo hi z (Q : VK), (∀ a o, S a = some o → H a = some o) → Seen K S H x d → g d lo hi = some z → (∀ v, DV K S v z → Q v H) → r x lo hi H Q
def SlLs (K : PySem.W.Frag) (r : Rsl) (g : D → Option Int → Option Int → Option (List D)) : Prop :=
  ∀ S H x d lo hi z (Q : VK), (∀ a o, S a = some o → H a = some o) → Seen K S H x d → g d lo hi = some z → (∀ p vs, H p = none → DVs K S vs z → Q (.ref p) (upd H p (.lst vs))) → r x lo hi H Q
def SlTs (K : PySem.W.Frag) (r : Rsl) (g : D → Option Int → Option Int → Option (List D)) : Prop :=
  ∀ S H x d lo hi z (Q : VK), (∀ a o, S a = some o → H a = some o) → Seen K S H x d → g d lo hi = some z → (∀ p vs, H p = none → DVs K S vs z → Q (.ref p) (upd H p (.tup vs))) → (∀ v, DV K S v (.tuple z) → Q v H) → r x lo hi H Q
def mSl (f : D → Option Int → Option Int → M W D) (m : ME W) (l h : Rho → M W (Option Int)) : ME W := fun ρ => bnd (m ρ) fun d => bnd (l ρ) fun lo => bnd (h ρ) fun hi => f d lo hi
theorem gSl' {te : TE} {tl th : TO} {k rk : Kd} {m : ME W} {l h : Rho → M W (Option Int)} {r : Rsl} {f : D → Option Int → Option Int → M W D} (he : OkE K R C κ te k m) (hl : OkO K R C κ tl l) (hh : OkO K R C κ th h) (nk : k ≠ .own) (nr : k ≠ .res)
    (hr : ∀ S0 H0 w0 S H σ ρ w x d lo hi Q, Rel K R κ S0 H0 w0 S H σ ρ w → Seen K S H x d → PostE K R C κ S0 H0 w0 S σ ρ rk Q (f d lo hi w) → r x lo hi H Q) : OkE K R C κ (tSl r te tl th) rk (mSl f m l h) := by
  intro S0 H0 w0 S H σ ρ w Q rl q
  refine he S0 H0 w0 S H σ ρ w _ rl ?_
  unfold mSl at q
  cases e : m ρ w with
  | stuck => rw [bnd_stuck e] at q; exact q.elim
  | exc c fs w1 => rw [bnd_exc e] at q; exact q
  | ok d w1 =>
    rw [bnd_ok e] at q
    intro x S1 H1 r1 s1 o1
    refine hl S0 H0 w0 S1 H1 σ ρ w1 _ r1 ?_
    cases e2 : l ρ w1 with
    | stuck => rw [bnd_stuck e2] at q; exact q.elim
    | exc c fs w2 => rw [bnd_exc e2] at q; exact q
    | ok lo w2 =>
      rw [bnd_ok e2] at q
      intro S2 H2 r2 s2
      refine hh S0 H0 w0 S2 H2 σ ρ w2 _ r2 ?_
      cases e3 : h ρ w2 with
      | stuck => rw [bnd_stuck e3] at q; exact q.elim
      | exc c fs w3 => rw [bnd_exc e3] at q; exact q
      | ok hi w3 =>
        rw [bnd_ok e3] at q
        intro S3 H3 r3 s3
        exact hr S0 H0 w0 S3 H3 σ ρ w3 x d lo hi Q r3 ((ResOk.mono nk (fun a o z => s3 a o (s2 a o z)) o1 : ResOk K R κ S0 H0 w0 S3 H3 σ ρ w3 k x d).seen r3 nr) (postE_mono (fun a o z => s3 a o (s2 a o (s1 a o z))) q)
def liftP (g : D → Option Int → Option Int → Option D) : D → Option Int → Option Int → M W D := fun d lo hi => lift (g d lo hi)
def liftL (g : D → Option Int → Option Int → Option (List D)) : D → Option Int → Option Int → M W D := fun d lo hi => lift ((g d lo hi).map .list)
def liftT (g : D → Option Int → Option Int → Option (List D)) : D → Option Int → Option Int → M W D := fun d lo hi => lift ((g d lo hi).map .tuple)
theorem gSl {te : TE} {tl th : TO} {k : Kd} {m : ME W} {l h : Rho → M W (Option Int)} {r : Rsl} {g : D → Option Int → Option Int → Option D} (hr : SlP K r g) (he : OkE K R C κ te k m) (hl : OkO K R C κ tl l) (hh : OkO K R C κ th h) (nk : k ≠ .own := by decide) (nr : k ≠ .res := by decide) :
    OkE K R C κ (tSl r te tl th) .dat (mSl (liftP g) m l h) := by
  refine gSl' he hl hh nk nr fun S0 H0 w0 S H σ ρ w x d lo hi Q rl hx q => ?_
  unfold liftP at q
  cases e : g d lo hi with
  | none => rw [e] at q; exact q.elim
  | some z => rw [e] at q; exact hr S H x d lo hi z Q rl.out.sub hx e fun v hv => q v S H rl (fun _ _ h => h) hv
theorem gSlL {te : TE} {tl th : TO} {k : Kd} {m : ME W} {l h : Rho → M W (Option Int)} {r : Rsl} {g : D → Option Int → Option Int → Option (List D)} (hr : SlLs K r g) (he : OkE K R C κ te k m) (hl : OkO K R C κ tl l) (hh : OkO K R C κ th h) (nk : k ≠ .own := by decide) (nr : k ≠ .res := by decide) :
    OkE K R C κ (tSl r te tl th) .own (mSl (liftL g) m l h) := by
  refine gSl' he hl hh nk nr fun S0 H0 w0 S H σ ρ w x d lo hi Q rl hx q => ?_
  unfold liftL at q
  cases e : g d lo hi with
  | none => rw [e] at q; exact q.elim
  | some z => rw [e] at q; exact hr S H x d lo hi z Q rl.out.sub hx e fun p us hp hv => q (.ref p) S _ (rl.allocOwn hp) (fun _ _ h => h) (res_new rl hp hv)
theorem gSlT {te : TE} {tl th : TO} {k : Kd} {m : ME W} {l h : Rho → M W (Option Int)} {r : Rsl} {g : D → Option Int → Option Int → Option (List D)} (hr : SlTs K r g) (he : OkE K R C κ te k m) (hl : OkO K R C κ tl l) (hh : OkO K R C κ th h) (nk : k ≠ .own := by decide) (nr : k ≠ .res := by decide) :
    OkE K R C κ (tSl r te tl th) .dat (mSl (liftT g) m l h) := by
  refine gSl' he hl hh nk nr fun S0 H0 w0 S H σ ρ w x d lo hi Q rl hx q => ?_
  unfold liftT at q
  cases e : g d lo hi with
  | none => rw [e] at q; exact q.elim
  | some z =>
    rw [e] at q
    refine hr S H x d lo hi z Q rl.out.sub hx e (fun p us hp hv => ?_) fun v hv => q v S H rl (fun _ _ h => h) hv
    have e := le_upd (ho := .tup us) (rl.out.s_none hp)
    exact q (.ref p) _ _ (rl.alloc hp) e (.tup (SqT.of upd_same) (dpAll_mono e _ _ hv))
def cutD (ds : List D) (lo hi : Option Int) : List D := (ds.drop (HT.sIx ds.length 0 lo)).take (HT.sIx ds.length ds.length hi - HT.sIx ds.length 0 lo)
theorem dvs_cut {vs : List V} {ds : List D} (h : DVs K S vs ds) (lo hi : Option Int) : DVs K S (cutV vs lo hi) (cutD ds lo hi) := by
  unfold cutV cutD
  rw [dvs_len h]
  exact dvs_take _ (dvs_drop _ h)
def gSlTup : D → Option Int → Option Int → Option (List D) | .tuple ds, lo, hi => some (cutD ds lo hi) | _, _, _ => none
def gSlLst : D → Option Int → Option Int → Option (List D) | .list ds, lo, hi => some (cutD ds lo hi) | _, _, _ => none
def gSlStr : D → Option Int → Option Int → Option D | .str x, lo, hi => if x.length ≤ 1000000 then some (.str (cutS x lo hi)) else none | _, _, _ => none
theorem oSlT : SlTs K (rSlA K) gSlTup := by
  intro S H x d lo hi z Q sub hx h q q2
  unfold gSlTup at h
  split at h
  · rename_i ds
    cases h
    obtain ⟨p, vs, rfl, h1, s1, h2⟩ := seen_tup sub hx
    refine ⟨p, vs, rfl, h1, fun hw => q2 _ ?_, fun _ p hp => q p _ hp (dvs_cut h2 lo hi)⟩
    have e : cutD ds lo hi = ds := by
      unfold cutD
      rw [← dvs_len h2, hw.1, hw.2, List.drop_zero, Nat.sub_zero, dvs_len h2, List.take_length]
    rw [e]
    exact .tup s1 h2
  · cases h
theorem oSlL : SlLs K (rSlL K) gSlLst := by
  intro S H x d lo hi z Q sub hx h q
  unfold gSlLst at h
  split at h
  · cases h
    obtain ⟨p, vs, rfl, h1, h2⟩ := seen_list sub hx
    exact ⟨p, vs, rfl, SqL.of h1, fun p hp => q p _ hp (dvs_cut h2 lo hi)⟩
  · cases h
theorem oSlS : SlP K rSlS gSlStr := by
  intro S H x d lo hi z Q sub hx h q
  unfold gSlStr at h
  split at h
  · split at h
    · rename_i c
      cases h
      rw [seen_str hx]
      exact ⟨_, rfl, sz_le c, q _ (.str _)⟩
    · cases h
  · cases h
end
section
theorem sqT_mk {K : PySem.W.Frag} {S : Hp} {a : Addr} {xs : List V} {od : Option Addr} {its : Array Value} {n : Nat} {sl : Array (Option Value)} (l : K.lookup a = some ⟨.type "tuple", od, .seq its n, sl⟩) (v : Vals xs its.toList) (hl : xs.length ≤ sizeLine) : SqT K S a xs :=
  .inr ⟨_, its, n, l, rfl, rfl, by rw [← Array.length_toList, ← v.length]; exact hl, v⟩
theorem law_end {l : PySem.W.OpenLaw} {w : World} {K : PySem.W.Frag} {mg : Str → Option Value} {k : Nat} {fa : Addr} (hfa : mg "law" = some (.ref fa)) (g : Good l.prog w K mg CX0 k "law" ["script"] (spLaw K)) :
    ∃ fd : FuncData, (∀ (s : Shared) (v : Value), BindsTo s fd ⟨[v], []⟩ [("script", v)]) ∧ ∀ base : Heap, K.In base → base.Ns mainGlobals mg → FnOk l.prog w K mg base CX0 k fa fd ["script"] (spLaw K) := by
  obtain ⟨fd, hb, h⟩ := Good.law hfa g
  exact ⟨fd, fun s v => .of_eq (hb [v] rfl), h⟩
theorem hu65 {k : Nat} {A : Around} (h : Room k A) : A.units + 65 < cLine := by have := h.un; omega
end
end B

namespace K03
open PySem L2 B
noncomputable def B_mark_behind : MS Dr :=
  (mRet (mCB gMax2 (mCons (mVar 0) (mCons (mOp gMns (mVar 1) (mVar 2)) mNil))))
noncomputable def F_mark_behind : List D → M Dr D := mFn .dat 3 B_mark_behind
noncomputable def B_accepted : MS Dr :=
  (mSeq (mAsg 2 (mC (.int (-1))))
    (mSeq (mAsg 3 (mLst mNil))
    (mSeq (mFor (srcL (mVar 0)) (gN 4) (mIfS (mB (mOp gGe (mOp gIxT (mVar 4) (mC (.int 0))) (mVar 2))) (mSeq (mMut 3 gApp (mCons (mVar 4) mNil))
    (mAsg 2 (mCall F_mark_behind (mCons (mVar 2) (mCons (mOp gIxT (mVar 4) (mC (.int 0))) (mCons (mVar 1) mNil)))))) mNx))
    (mRet (mTup (mCons (mVar 3) (mCons (mOp gMns (mCB gLen (mCons (mVar 0) mNil)) (mCB gLen (mCons (mVar 3) mNil))) mNil)))))))
noncomputable def F_accepted : List D → M Dr D := mFn .dat 5 B_accepted
noncomputable def B_least_lag : MS Dr :=
  (mSeq (mAsg 1 (mC (.int 0)))
    (mSeq (mAsg 2 (mC (.int 0)))
    (mSeq (mFor (srcL (mVar 0)) (gT 2 (gCons' (gN 3) (gCons' (gN 4) gNil'))) (mSeq (mAsg 2 (mCB gMax2 (mCons (mVar 2) (mCons (mOp gMns (mVar 1) (mVar 3)) mNil))))
    (mAsg 1 (mCB gMax2 (mCons (mVar 1) (mCons (mVar 3) mNil))))))
    (mRet (mVar 2)))))
noncomputable def F_least_lag : List D → M Dr D := mFn .dat 5 B_least_lag
noncomputable def B__law_pick : MS Dr :=
  (mRet (mOp gIxL (mVar 1) (mCall fTake (mCons (mVar 0) (mCons (mCB gLen (mCons (mVar 1) mNil)) mNil)))))
noncomputable def F__law_pick : List D → M Dr D := mFn .dat 2 B__law_pick
noncomputable def B__law_events : MS Dr :=
  (mSeq (mAsg 4 (mLst mNil))
    (mSeq (mFor (srcR1 (mCons (mCall fTake (mCons (mVar 0) (mCons (mOp gAdd (mVar 2) (mC (.int 1))) mNil))) mNil)) (gN 5) (mSeq (mAsg 6 (mCBU gListOf (mCons (mLc (srcT (mVar 1)) [7, 8] (gT 2 (gCons' (gN 7) (gCons' (gN 8) gNil'))) mYes (mIf (mB (mOp gEq (mVar 8) (mC (.str "text")))) (mCall F__law_pick (mCons (mVar 0) (mCons (mLst (mCons (mC (.str "a")) (mCons (mC (.str "b")) (mCons (mC (.str "c d")) mNil)))) mNil))) (mOp gMns (mCall fTake (mCons (mVar 0) (mCons (mC (.int 9)) mNil))) (mC (.int 2))))) mNil)))
    (mMut 4 gApp (mCons (mTup (mCons (mCall fTake (mCons (mVar 0) (mCons (mVar 3) mNil))) (mCons (mVar 6) mNil))) mNil))))
    (mRet (mVar 4))))
noncomputable def F__law_events : List D → M Dr D := mFn .own 9 B__law_events
noncomputable def B__law_accepted : MS Dr :=
  (mSeq (mAsg 2 (mLst mNil))
    (mSeq (mFor (srcR1 (mCons (mCB gLen (mCons (mVar 0) mNil)) mNil)) (gN 3) (mSeq (mAsg 4 (mLc (srcL (mVar 2)) [6] (gN 6) mYes (mOp gIxT (mVar 6) (mC (.int 0)))))
    (mSeq (mAsg 5 (mCB gMaxL (mCons (mOpL gCat (mLst (mCons (mOp gMns (mC (.int 0)) (mC (.int 1))) mNil)) (mLc (srcL (mVar 4)) [7] (gN 7) mYes (mOp gMns (mVar 7) (mVar 1)))) mNil)))
    (mIfS (mB (mOp gGe (mOp gIxT (mOp gIxL (mVar 0) (mVar 3)) (mC (.int 0))) (mVar 5))) (mMut 2 gApp (mCons (mOp gIxL (mVar 0) (mVar 3)) mNil)) mNx))))
    (mRet (mTup (mCons (mVar 2) (mCons (mOp gMns (mCB gLen (mCons (mVar 0) mNil)) (mCB gLen (mCons (mVar 2) mNil))) mNil))))))
noncomputable def F__law_accepted : List D → M Dr D := mFn .dat 8 B__law_accepted
noncomputable def B_law : MS Dr :=
  (mSeq (mFor (srcR1 (mCons (mC (.int 5)) mNil)) (gN 2) (mSeq (mAsg 3 (mCall F__law_events (mCons (mVar 1) (mCons (mTup (mCons (mTup (mCons (mC (.str "a")) (mCons (mC (.str "int")) mNil))) mNil)) (mCons (mC (.int 12)) (mCons (mC (.int 30)) mNil))))))
    (mSeq (mAsg 4 (mCall fTake (mCons (mVar 1) (mCons (mC (.int 12)) mNil))))
    (mSeq (mIfS (mB (mOp gNe (mCall F_accepted (mCons (mVar 3) (mCons (mVar 4) mNil))) (mCall F__law_accepted (mCons (mVar 3) (mCons (mVar 4) mNil))))) (mRet (mC (.bool false))) mNx)
    (mSeq (mAsg 5 (mC (.int 0)))
    (mSeq (mWhile (mB (mOp gGt (mOp gIxT (mCall F__law_accepted (mCons (mVar 3) (mCons (mVar 5) mNil))) (mC (.int 1))) (mC (.int 0)))) (mAsg 5 (mOp gAdd (mVar 5) (mC (.int 1)))))
    (mIfS (mOr (mB (mOp gNe (mCall F_least_lag (mCons (mVar 3) mNil)) (mVar 5))) (mB (mOp gNe (mCall F_accepted (mCons (mVar 3) (mCons (mOp gAdd (mVar 5) (mCall fTake (mCons (mVar 1) (mCons (mC (.int 5)) mNil)))) mNil))) (mTup (mCons (mVar 3) (mCons (mC (.int 0)) mNil)))))) (mRet (mC (.bool false))) mNx)))))))
    (mRet (mAndV (mOp gEq (mCall F_least_lag (mCons (mLst mNil) mNil)) (mC (.int 0))) (mOp gEq (mCall F_accepted (mCons (mLst mNil) (mCons (mC (.int 5)) mNil))) (mTup (mCons (mLst mNil) (mCons (mC (.int 0)) mNil)))))))
end K03

namespace K03
open PySem L2 B
def topS (i : Nat) : Stmt := PySem.Challenge.pw_latewater_k03_feeds_and_marks.main.body.getD i (.Pass ⟨0, 0, 0, 0⟩)
abbrev s__law_begin : Stmt := topS 6
abbrev s__law_take : Stmt := topS 7
abbrev s_mark_behind : Stmt := topS 2
abbrev s_accepted : Stmt := topS 3
abbrev s_least_lag : Stmt := topS 4
abbrev s__law_pick : Stmt := topS 8
abbrev s__law_events : Stmt := topS 9
abbrev s__law_accepted : Stmt := topS 10
abbrev s_law : Stmt := topS 11
structure Top (K : PySem.W.Frag) (mg : Str → Option Value) : Prop where
  d_mark_behind : Df K mg "mark_behind" s_mark_behind ["mark", "time", "lag"]
  d_accepted : Df K mg "accepted" s_accepted ["events", "lag"]
  d_least_lag : Df K mg "least_lag" s_least_lag ["events"]
  d__law_begin : Df K mg "_law_begin" s__law_begin ["script"]
  d__law_take : Df K mg "_law_take" s__law_take ["d", "many"]
  d__law_pick : Df K mg "_law_pick" s__law_pick ["d", "menu"]
  d__law_events : Df K mg "_law_events" s__law_events ["d", "fields", "most", "span"]
  d__law_accepted : Df K mg "_law_accepted" s__law_accepted ["events", "lag"]
  d_law : Df K mg "law" s_law ["script"]
  b_abs : mg "abs" = none
  b_int : mg "int" = none
  b_len : mg "len" = none
  b_list : mg "list" = none
  b_max : mg "max" = none
  b_range : mg "range" = none
  b_tuple : mg "tuple" = none
  c_NO_MARK : ∃ t, mg "NO_MARK" = some (.int (-1) t)
section
variable {P : Program} {w : World} {K : PySem.W.Frag} {mg : Str → Option Value} {cn : String → Value → Prop}
theorem sc__law_take : FnScope ["d", "many", "small", "digit"] ["d", "many"] (defScope s__law_take) := ⟨rfl, rfl, rfl, by decide +kernel, rfl, by decide +kernel, by decide +kernel⟩
theorem hand__law_take (T : Top K mg) : Good P w K mg CX0 1 "_law_take" ["d", "many"] (spD K cn false [.res, .dat] .dat fTake) := by
  refine T.d__law_take.good fun f fd F base => F.ok sc__law_take (spD_len rfl) (fun cdv A outer s H vs Q E hr h => ?_)
  refine ⟨tTake K, pss_cons (ps_if (PW.pt (pw_and (pt_cmpR op_eq (pe_ix ix_list (pv 0) pe_int (fun _ _ => rfl)) pe_int (nomark _)) (pw_and1 (pt_cmpR op_lt (pe_ix ix_list (pv 0) pe_int (fun _ _ => rfl)) (pe_callB call_len_seq (by rfl) T.b_len bt_len (pa_cons (pe_ix ix_list (pv 0) pe_int (fun _ _ => rfl)) pa_nil)) (nomark _)))))
      (pss_cons (ps_asg (pe_callB call_abs (by rfl) T.b_abs bt_abs (pa_cons (pe_callTy call_int1 (by rfl) T.b_int bt_int (pa_cons (pe_ix ix_list (pe_ix ix_list (pv 0) pe_int (fun _ _ => rfl)) (pe_ix ix_list (pv 0) pe_int (fun _ _ => rfl)) (fun _ _ => rfl)) pa_nil)) pa_nil)) (pg_sub (pv 0) pe_int set_list))
      (pss_cons (ps_asg (pe_op op_add (pe_ix ix_list (pv 0) pe_int (fun _ _ => rfl)) pe_int) (pg_sub (pv 0) pe_int set_list))
      (pss_one (ps_if (pt_cmpR op_lt (pe_ix ix_list (pv 0) pe_int (fun _ _ => rfl)) (pe_op op_pow pe_int pe_int) (nomark _))
        (pss_cons (ps_set (i := 2) sc__law_take.nd rfl (.inl rfl) (pe_callTy call_int1 (by rfl) T.b_int bt_int (pa_cons (pe_ix ix_list (pv 0) pe_int (fun _ _ => rfl)) pa_nil)))
        (pss_cons (ps_asg pe_int (pg_sub (pv 0) pe_int set_list))
        (pss_one (ps_ret (pe_op op_mod (pv 2) (pv 1)))))) pss_nil)))) pss_nil)
    (pss_cons (ps_if (pt_cmpR op_gt (pe_ix ix_list (pv 0) pe_int (fun _ _ => rfl)) pe_int (nomark _))
      (pss_cons (ps_set (i := 3) sc__law_take.nd rfl (.inl rfl) (pe_op op_mod (pe_callTy call_int1 (by rfl) T.b_int bt_int (pa_cons (pe_ix ix_list (pv 0) pe_int (fun _ _ => rfl)) pa_nil)) (pv 1)))
      (pss_cons (ps_asg (pe_op op_fdiv (pe_callTy call_int1 (by rfl) T.b_int bt_int (pa_cons (pe_ix ix_list (pv 0) pe_int (fun _ _ => rfl)) pa_nil)) (pv 1)) (pg_sub (pv 0) pe_int set_list))
      (pss_one (ps_ret (pv 3))))) pss_nil)
    (pss_cons (ps_asg (pe_op op_mod (pe_callTy call_int1 (by rfl) T.b_int bt_int (pa_cons (pe_op op_add (pe_op op_mul (pe_ix ix_list (pv 0) pe_int (fun _ _ => rfl)) pe_int) pe_int) pa_nil)) pe_int) (pg_sub (pv 0) pe_int set_list))
    (pss_one (ps_ret (pe_op op_mod (pe_callTy call_int1 (by rfl) T.b_int bt_int (pa_cons (pe_op op_fdiv (pe_ix ix_list (pv 0) pe_int (fun _ _ => rfl)) pe_int) pa_nil)) (pv 1)))))), ?_⟩
  obtain ⟨dp, sp, h⟩ := h
  exact take_reads h
theorem sc__law_begin : FnScope ["script", "seed", "cell"] ["script"] (defScope s__law_begin) := ⟨rfl, rfl, rfl, by decide +kernel, rfl, by decide +kernel, by decide +kernel⟩
theorem hand__law_begin (T : Top K mg) : Good P w K mg CX0 1 "_law_begin" ["script"] (spBegin K) := by
  refine T.d__law_begin.good fun f fd F base => F.ok sc__law_begin (fun vs H Q E h => ?_) (fun cdv A outer s H vs Q E hr h => ?_)
  · obtain ⟨a, ns, rfl, _⟩ := h
    rfl
  exact ⟨tBegin K, pss_cons (ps_set (i := 1) sc__law_begin.nd rfl (.inl rfl) pe_int)
    (pss_cons (ps_for PassesOwn.never rfl (pi_list (pv 0)) (pg_name (i := 2) sc__law_begin.nd rfl (.inl rfl))
      (pss_one (ps_set (i := 1) sc__law_begin.nd rfl (.inl rfl) (pe_op op_mod (pe_op op_add (pe_op op_add (pe_op op_mul (pv 1) pe_int) (pe_op op_mod (pe_callTy call_int1 (by rfl) T.b_int bt_int (pa_cons (pv 2) pa_nil)) pe_int)) pe_int) pe_int))))
    (pss_one (ps_ret (pe_lst (pa_cons (pe_callTy call_list_of (by rfl) T.b_list bt_list (pa_cons (pv 0) pa_nil)) (pa_cons pe_int (pa_cons pe_int (pa_cons (pv 1) pa_nil)))))))), begin_reads h⟩

theorem sc_mark_behind : FnScope ["mark", "time", "lag"] ["mark", "time", "lag"] (defScope s_mark_behind) := ⟨rfl, rfl, rfl, by decide +kernel, rfl, by decide +kernel, by decide +kernel⟩
theorem ok_mark_behind 
    (T : Top K mg) : Good P w K mg CX0 1 "mark_behind" ["mark", "time", "lag"] (spD K cn false [.dat, .dat, .dat] .dat F_mark_behind) := by
  refine T.d_mark_behind.good fun f fd F base => F.ok sc_mark_behind (spD_len rfl) (fun cdv A outer s H vs Q E hr h => ?_)
  refine ⟨_, (pss_one (ps_ret (pe_callB (call_max2 rfl) (by rfl) T.b_max bt_max (pa_cons (pv 0) (pa_cons (pe_op op_sub (pv 1) (pv 2)) pa_nil))))), ?_⟩
  obtain ⟨dp, sp, h⟩ := h
  exact fn0 (m := B_mark_behind) (rk := .dat) (κb := [.dat, .dat, .dat]) (κc := [.dat, .dat, .dat]) (κ := [.dat, .dat, .dat]) (κn := [.dat, .dat, .dat]) ((okRet (gCB cMax2 (okCons (okVar (by rfl)) (okCons (gOp oSub (okVar (by rfl)) (okVar (by rfl))) okNil))))) h
theorem sc_accepted : FnScope ["events", "lag", "mark", "found", "event"] ["events", "lag"] (defScope s_accepted) := ⟨rfl, rfl, rfl, by decide +kernel, rfl, by decide +kernel, by decide +kernel⟩
theorem ok_accepted 
    (T : Top K mg)
    (h_mark_behind : Good P w K mg CX0 1 "mark_behind" ["mark", "time", "lag"] (spD K cn false [.dat, .dat, .dat] .dat F_mark_behind)) : Good P w K mg CX0 2 "accepted" ["events", "lag"] (spD K cn false [.dat, .dat] .dat F_accepted) := by
  obtain ⟨tk_NO_MARK, hc_NO_MARK⟩ := T.c_NO_MARK
  obtain ⟨a_mark_behind, fd_mark_behind, g_mark_behind, k_mark_behind, b_mark_behind, _, G_mark_behind⟩ := h_mark_behind
  refine T.d_accepted.good fun f fd F base => F.ok sc_accepted (spD_len rfl) (fun cdv A outer s H vs Q E hr h => ?_)
  refine ⟨_, (pss_cons (ps_set (i := 2) sc_accepted.nd rfl (Or.inl rfl) (pe_glob (v := .int (-1)) (by rfl) hc_NO_MARK ⟨_, rfl⟩))
    (pss_cons (ps_set (i := 3) sc_accepted.nd rfl (Or.inl rfl) (pe_lst pa_nil))
    (pss_cons (ps_for PassesOwn.never rfl (pi_list (pv 0)) (pgN (i := 4) sc_accepted.nd rfl (Or.inl rfl) (Or.inl rfl)) (pss_one (ps_if (pt_cmpR op_ge (pe_ix (kIxT (K := K) rfl) (pv 4) pe_int (fun _ _ => rfl)) (pv 2) (nomark _)) (pss_cons (ps_expr (pe_bm PySem.F.plainAttrs_list PySem.F.slot_list_append PySem.F.type_list_append mt_append (pv 3) (pa_cons (pv 4) pa_nil)))
    (pss_one (ps_set (i := 2) sc_accepted.nd rfl (Or.inl rfl) (pe_call (G_mark_behind base) (hr.mono (by decide)) (by rfl) g_mark_behind k_mark_behind b_mark_behind .nil pass0 (pa_cons (pv 2) (pa_cons (pe_ix (kIxT (K := K) rfl) (pv 4) pe_int (fun _ _ => rfl)) (pa_cons (pv 1) pa_nil))))))) pss_nil)))
    (pss_one (ps_ret (pe_tup (pa_cons (pv 3) (pa_cons (pe_op op_sub (pe_callB (kLen (K := K) rfl) (by rfl) T.b_len bt_len (pa_cons (pv 0) pa_nil)) (pe_callB (kLen (K := K) rfl) (by rfl) T.b_len bt_len (pa_cons (pv 3) pa_nil))) pa_nil)))))))), ?_⟩
  obtain ⟨dp, sp, h⟩ := h
  exact fn0 (m := B_accepted) (rk := .dat) (κb := [.dat, .dat, .dat, .dat, .dat]) (κc := [.dat, .dat, .dat, .dat, .dat]) (κ := [.dat, .dat, .dat, .dat, .dat]) (κn := [.dat, .dat, .dat, .dat, .dat]) ((okSeq (okAsg (i := 2) okInt)
    (okSeq (okAsgOwn (i := 3) (okLst okNil))
    (okSeq (okFor (gIDat (okVar (by rfl))) okGName (okIfS (okTest (gOp oGe (gOp oIxT (okVar (by rfl)) okInt) (okVar (by rfl)))) (okSeq (okMutD muApp (okCons (okVar (by rfl)) okNil))
    (okAsg (i := 2) (gCall (okCons (okVar (by rfl)) (okCons (gOp oIxT (okVar (by rfl)) okInt) (okCons (okVar (by rfl)) okNil)))))) okNext))
    (OkS.freeze (i := 3) (okRet (okTup (okCons (okVar (by rfl)) (okCons (gOp oSub (gCB cLen (okCons (okVar (by rfl)) okNil)) (gCB cLen (okCons (okVar (by rfl)) okNil))) okNil))))))))) h
theorem sc_least_lag : FnScope ["events", "most", "lag", "time", "_"] ["events"] (defScope s_least_lag) := ⟨rfl, rfl, rfl, by decide +kernel, rfl, by decide +kernel, by decide +kernel⟩
theorem ok_least_lag 
    (T : Top K mg) : Good P w K mg CX0 1 "least_lag" ["events"] (spD K cn false [.dat] .dat F_least_lag) := by
  refine T.d_least_lag.good fun f fd F base => F.ok sc_least_lag (spD_len rfl) (fun cdv A outer s H vs Q E hr h => ?_)
  refine ⟨_, (pss_cons (ps_set (i := 1) sc_least_lag.nd rfl (Or.inl rfl) pe_int)
    (pss_cons (ps_set (i := 2) sc_least_lag.nd rfl (Or.inl rfl) pe_int)
    (pss_cons (ps_for PassesOwn.never rfl (pi_list (pv 0)) (pgT (K := K) (n := 2) rfl (pgsC (pgN (i := 3) sc_least_lag.nd rfl (Or.inl rfl) (Or.inl rfl)) (pgsC (pgN (i := 4) sc_least_lag.nd rfl (Or.inl rfl) (Or.inl rfl)) pgs_nil rfl) rfl) rfl rfl rfl) (pss_cons (ps_set (i := 2) sc_least_lag.nd rfl (Or.inl rfl) (pe_callB (call_max2 rfl) (by rfl) T.b_max bt_max (pa_cons (pv 2) (pa_cons (pe_op op_sub (pv 1) (pv 3)) pa_nil))))
    (pss_one (ps_set (i := 1) sc_least_lag.nd rfl (Or.inl rfl) (pe_callB (call_max2 rfl) (by rfl) T.b_max bt_max (pa_cons (pv 1) (pa_cons (pv 3) pa_nil)))))))
    (pss_one (ps_ret (pv 2)))))), ?_⟩
  obtain ⟨dp, sp, h⟩ := h
  exact fn0 (m := B_least_lag) (rk := .dat) (κb := [.dat, .dat, .dat, .dat, .dat]) (κc := [.dat, .dat, .dat, .dat, .dat]) (κ := [.dat, .dat, .dat, .dat, .dat]) (κn := [.dat, .dat, .dat, .dat, .dat]) ((okSeq (okAsg (i := 1) okInt)
    (okSeq (okAsg (i := 2) okInt)
    (okSeq (okFor (gIDat (okVar (by rfl))) (okGTup (okGCons okGName (okGCons okGName okGNil))) (okSeq (okAsg (i := 2) (gCB cMax2 (okCons (okVar (by rfl)) (okCons (gOp oSub (okVar (by rfl)) (okVar (by rfl))) okNil))))
    (okAsg (i := 1) (gCB cMax2 (okCons (okVar (by rfl)) (okCons (okVar (by rfl)) okNil))))))
    (okRet (okVar (by rfl))))))) h
theorem sc__law_pick : FnScope ["d", "menu"] ["d", "menu"] (defScope s__law_pick) := ⟨rfl, rfl, rfl, by decide +kernel, rfl, by decide +kernel, by decide +kernel⟩
theorem ok__law_pick 
    (T : Top K mg)
    (h__law_take : Good P w K mg CX0 1 "_law_take" ["d", "many"] (spD K cn false [.res, .dat] .dat fTake)) : Good P w K mg CX0 2 "_law_pick" ["d", "menu"] (spD K cn false [.res, .dat] .dat F__law_pick) := by
  obtain ⟨a__law_take, fd__law_take, g__law_take, k__law_take, b__law_take, _, G__law_take⟩ := h__law_take
  refine T.d__law_pick.good fun f fd F base => F.ok sc__law_pick (spD_len rfl) (fun cdv A outer s H vs Q E hr h => ?_)
  refine ⟨_, (pss_one (ps_ret (pe_ix (kIxL (K := K) rfl) (pv 1) (pe_call (G__law_take base) (hr.mono (by decide)) (by rfl) g__law_take k__law_take b__law_take .nil pass0 (pa_cons (pv 0) (pa_cons (pe_callB (kLen (K := K) rfl) (by rfl) T.b_len bt_len (pa_cons (pv 1) pa_nil)) pa_nil))) (fun _ _ => rfl)))), ?_⟩
  obtain ⟨dp, sp, h⟩ := h
  exact fn0 (m := B__law_pick) (rk := .dat) (κb := [.res, .dat]) (κc := [.res, .dat]) (κ := [.res, .dat]) (κn := [.res, .dat]) ((okRet (gOp oIxL (okVar (by rfl)) (gCall (okCons (okRes (by rfl)) (okCons (gCB cLen (okCons (okVar (by rfl)) okNil)) okNil)))))) h
theorem sc__law_events : FnScope ["d", "fields", "most", "span", "events", "k", "row", "name", "kind"] ["d", "fields", "most", "span"] (defScope s__law_events) := ⟨rfl, rfl, rfl, by decide +kernel, rfl, by decide +kernel, by decide +kernel⟩
theorem ok__law_events 
    (T : Top K mg)
    (h__law_take : Good P w K mg CX0 1 "_law_take" ["d", "many"] (spD K cn false [.res, .dat] .dat fTake))
    (h__law_pick : Good P w K mg CX0 2 "_law_pick" ["d", "menu"] (spD K cn false [.res, .dat] .dat F__law_pick)) : Good P w K mg CX0 3 "_law_events" ["d", "fields", "most", "span"] (spD K cn false [.res, .dat, .dat, .dat] .own F__law_events) := by
  obtain ⟨a__law_take, fd__law_take, g__law_take, k__law_take, b__law_take, _, G__law_take⟩ := h__law_take
  obtain ⟨a__law_pick, fd__law_pick, g__law_pick, k__law_pick, b__law_pick, _, G__law_pick⟩ := h__law_pick
  refine T.d__law_events.good fun f fd F base => F.ok sc__law_events (spD_len rfl) (fun cdv A outer s H vs Q E hr h => ?_)
  refine ⟨_, (pss_cons (ps_set (i := 4) sc__law_events.nd rfl (Or.inl rfl) (pe_lst pa_nil))
    (pss_cons (ps_for PassesOwn.never rfl (pi_range1 (by rfl) T.b_range (pa_cons (pe_call (G__law_take base) (hr.mono (by decide)) (by rfl) g__law_take k__law_take b__law_take .nil pass0 (pa_cons (pv 0) (pa_cons (pe_op op_add (pv 2) pe_int) pa_nil))) pa_nil)) (pgN (i := 5) sc__law_events.nd rfl (Or.inl rfl) (Or.inl rfl)) (pss_cons (ps_set (i := 6) sc__law_events.nd rfl (Or.inl rfl) (pe_callTy (kTupOf (K := K) rfl) (by rfl) T.b_tuple bt_tuple (pa_cons (pe_lc (own := [("name", 7), ("kind", 8)]) rfl sc__law_events.nd (pi_tup (pv 1)) (blkOk_by (own := [("name", 7), ("kind", 8)]) (N := ["d", "fields", "most", "span", "events", "k", "row", "name", "kind"]) (sc := defScope s__law_events) (by decide +kernel)) (fun _ _ _ _ _ => by exact (pgT (K := K) (n := 2) rfl (pgsC (pgN (i := 7) sc__law_events.nd rfl (Or.inl rfl) (Or.inr rfl)) (pgsC (pgN (i := 8) sc__law_events.nd rfl (Or.inl rfl) (Or.inr rfl)) pgs_nil rfl) rfl) rfl rfl rfl)) (fun _ _ _ _ _ => by exact pts_nil) (fun _ _ _ _ _ => by exact (pe_ifExp (pt_cmpR (opEq (K := K) hr.units rfl) (pv 8) pe_str (nomark _)) (pe_call (G__law_pick base) (hr.mono (by decide)) (by rfl) g__law_pick k__law_pick b__law_pick .nil pass0 (pa_cons (pv 0) (pa_cons (pe_lst (pa_cons pe_str (pa_cons pe_str (pa_cons pe_str pa_nil)))) pa_nil))) (pe_op op_sub (pe_call (G__law_take base) (hr.mono (by decide)) (by rfl) g__law_take k__law_take b__law_take .nil pass0 (pa_cons (pv 0) (pa_cons pe_int pa_nil))) pe_int)))) pa_nil)))
    (pss_one (ps_expr (pe_bm PySem.F.plainAttrs_list PySem.F.slot_list_append PySem.F.type_list_append mt_append (pv 4) (pa_cons (pe_tup (pa_cons (pe_call (G__law_take base) (hr.mono (by decide)) (by rfl) g__law_take k__law_take b__law_take .nil pass0 (pa_cons (pv 0) (pa_cons (pv 3) pa_nil))) (pa_cons (pv 6) pa_nil))) pa_nil))))))
    (pss_one (ps_ret (pv 4))))), ?_⟩
  obtain ⟨dp, sp, h⟩ := h
  exact fn0 (m := B__law_events) (rk := .own) (κb := [.res, .dat, .dat, .dat, .dat, .dat, .dat, .dat, .dat]) (κc := [.res, .dat, .dat, .dat, .dat, .dat, .dat, .dat, .dat]) (κ := [.res, .dat, .dat, .dat, .dat, .dat, .dat, .dat, .dat]) (κn := [.res, .dat, .dat, .dat, .dat, .dat, .dat, .dat, .dat]) ((okSeq (okAsgOwn (i := 4) (okLst okNil))
    (okSeq (okFor (okIR1 (okCons (gCall (okCons (okRes (by rfl)) (okCons (gOp oAdd (okVar (by rfl)) okInt) okNil))) okNil)) okGName (okSeq (okAsg (i := 6) (gCBU cTuple (okLast (okLc (vs := [7, 8]) (OkI.c (gITup (okVar (by rfl)))) (okGTup (okGCons okGName (okGCons okGName okGNil))) okYes (okIf (okTest (gOp oEq (okVar (by rfl)) okStr)) (gCall (okCons (okRes (by rfl)) (okCons ((okLst (okCons okStr (okCons okStr (okCons okStr okNil))))).dat okNil))) (gOp oSub (gCall (okCons (okRes (by rfl)) (okCons okInt okNil))) okInt))))))
    (okMutD muApp (okCons (okTup (okCons (gCall (okCons (okRes (by rfl)) (okCons (okVar (by rfl)) okNil))) (okCons (okVar (by rfl)) okNil))) okNil))))
    (okRetOwn (i := 4))))) h
theorem sc__law_accepted : FnScope ["events", "lag", "found", "k", "times", "mark", "event", "time"] ["events", "lag"] (defScope s__law_accepted) := ⟨rfl, rfl, rfl, by decide +kernel, rfl, by decide +kernel, by decide +kernel⟩
theorem ok__law_accepted 
    (T : Top K mg) : Good P w K mg CX0 1 "_law_accepted" ["events", "lag"] (spD K cn false [.dat, .dat] .dat F__law_accepted) := by
  refine T.d__law_accepted.good fun f fd F base => F.ok sc__law_accepted (spD_len rfl) (fun cdv A outer s H vs Q E hr h => ?_)
  refine ⟨_, (pss_cons (ps_set (i := 2) sc__law_accepted.nd rfl (Or.inl rfl) (pe_lst pa_nil))
    (pss_cons (ps_for PassesOwn.never rfl (pi_range1 (by rfl) T.b_range (pa_cons (pe_callB (kLen (K := K) rfl) (by rfl) T.b_len bt_len (pa_cons (pv 0) pa_nil)) pa_nil)) (pgN (i := 3) sc__law_accepted.nd rfl (Or.inl rfl) (Or.inl rfl)) (pss_cons (ps_setLc (i := 4) (own := [("event", 6)]) rfl sc__law_accepted.nd rfl rfl (sw_true rfl rfl rfl (by decide +kernel)) (pi_list (pv 2)) (blkOk_by (own := [("event", 6)]) (N := ["events", "lag", "found", "k", "times", "mark", "event", "time"]) (sc := defScope s__law_accepted) (by decide +kernel)) (fun _ _ _ _ _ => by exact (pgN (i := 6) sc__law_accepted.nd rfl (Or.inl rfl) (Or.inr rfl))) (fun _ _ _ _ _ => by exact pts_nil) (fun _ _ _ _ _ => by exact (pe_ix (kIxT (K := K) rfl) (pv 6) pe_int (fun _ _ => rfl))))
    (pss_cons (ps_set (i := 5) sc__law_accepted.nd rfl (Or.inl rfl) (pe_callB (kMaxL (K := K) rfl rfl) (by rfl) T.b_max bt_max (pa_cons (pe_op op_cat (pe_lst (pa_cons (pe_op op_sub pe_int pe_int) pa_nil)) (pe_lc (own := [("time", 7)]) rfl sc__law_accepted.nd (pi_list (pv 4)) (blkOk_by (own := [("time", 7)]) (N := ["events", "lag", "found", "k", "times", "mark", "event", "time"]) (sc := defScope s__law_accepted) (by decide +kernel)) (fun _ _ _ _ _ => by exact (pgN (i := 7) sc__law_accepted.nd rfl (Or.inl rfl) (Or.inr rfl))) (fun _ _ _ _ _ => by exact pts_nil) (fun _ _ _ _ _ => by exact (pe_op op_sub (pv 7) (pv 1))))) pa_nil)))
    (pss_one (ps_if (pt_cmpR op_ge (pe_ix (kIxT (K := K) rfl) (pe_ix (kIxL (K := K) rfl) (pv 0) (pv 3) (fun _ _ => rfl)) pe_int (fun _ _ => rfl)) (pv 5) (nomark _)) (pss_one (ps_expr (pe_bm PySem.F.plainAttrs_list PySem.F.slot_list_append PySem.F.type_list_append mt_append (pv 2) (pa_cons (pe_ix (kIxL (K := K) rfl) (pv 0) (pv 3) (fun _ _ => rfl)) pa_nil)))) pss_nil)))))
    (pss_one (ps_ret (pe_tup (pa_cons (pv 2) (pa_cons (pe_op op_sub (pe_callB (kLen (K := K) rfl) (by rfl) T.b_len bt_len (pa_cons (pv 0) pa_nil)) (pe_callB (kLen (K := K) rfl) (by rfl) T.b_len bt_len (pa_cons (pv 2) pa_nil))) pa_nil))))))), ?_⟩
  obtain ⟨dp, sp, h⟩ := h
  exact fn0 (m := B__law_accepted) (rk := .dat) (κb := [.dat, .dat, .dat, .dat, .dat, .dat, .dat, .dat]) (κc := [.dat, .dat, .dat, .dat, .dat, .dat, .dat, .dat]) (κ := [.dat, .dat, .dat, .dat, .dat, .dat, .dat, .dat]) (κn := [.dat, .dat, .dat, .dat, .dat, .dat, .dat, .dat]) ((okSeq (okAsgOwn (i := 2) (okLst okNil))
    (okSeq (okFor (okIR1 (okCons (gCB cLen (okCons (okVar (by rfl)) okNil)) okNil)) okGName (okSeq (okAsg (i := 4) ((okLc (vs := [6]) gIOwn okGName okYes (gOp oIxT (okVar (by rfl)) okInt))).dat)
    (okSeq (okAsg (i := 5) (gCB cMaxL (okLast (gOpL oCat ((okLst (okCons (gOp oSub okInt okInt) okNil))).dat (okLc (vs := [7]) (OkI.c (gIDat (okVar (by rfl)))) okGName okYes (gOp oSub (okVar (by rfl)) (okVar (by rfl))))))))
    (okIfS (okTest (gOp oGe (gOp oIxT (gOp oIxL (okVar (by rfl)) (okVar (by rfl))) okInt) (okVar (by rfl)))) (okMutD muApp (okCons (gOp oIxL (okVar (by rfl)) (okVar (by rfl))) okNil)) okNext))))
    (OkS.freeze (i := 2) (okRet (okTup (okCons (okVar (by rfl)) (okCons (gOp oSub (gCB cLen (okCons (okVar (by rfl)) okNil)) (gCB cLen (okCons (okVar (by rfl)) okNil))) okNil)))))))) h
theorem sc_law : FnScope ["script", "d", "turn", "events", "lag", "least"] ["script"] (defScope s_law) := ⟨rfl, rfl, rfl, by decide +kernel, rfl, by decide +kernel, by decide +kernel⟩
theorem ok_law (T : Top K mg)
    (h__law_begin : Good P w K mg CX0 1 "_law_begin" ["script"] (spBegin K))
    (h__law_events : Good P w K mg CX0 3 "_law_events" ["d", "fields", "most", "span"] (spD K cn false [.res, .dat, .dat, .dat] .own F__law_events))
    (h__law_take : Good P w K mg CX0 1 "_law_take" ["d", "many"] (spD K cn false [.res, .dat] .dat fTake))
    (h_accepted : Good P w K mg CX0 2 "accepted" ["events", "lag"] (spD K cn false [.dat, .dat] .dat F_accepted))
    (h__law_accepted : Good P w K mg CX0 1 "_law_accepted" ["events", "lag"] (spD K cn false [.dat, .dat] .dat F__law_accepted))
    (h_least_lag : Good P w K mg CX0 1 "least_lag" ["events"] (spD K cn false [.dat] .dat F_least_lag))
    (hm : ∀ st : Dr, ∃ st', B_law (drRho 6) st = .ok (.rt (.bool true)) st') : Good P w K mg CX0 4 "law" ["script"] (spLaw K) := by
  obtain ⟨a__law_begin, fd__law_begin, g__law_begin, k__law_begin, b__law_begin, _, G__law_begin⟩ := h__law_begin
  obtain ⟨a__law_events, fd__law_events, g__law_events, k__law_events, b__law_events, _, G__law_events⟩ := h__law_events
  obtain ⟨a__law_take, fd__law_take, g__law_take, k__law_take, b__law_take, _, G__law_take⟩ := h__law_take
  obtain ⟨a_accepted, fd_accepted, g_accepted, k_accepted, b_accepted, _, G_accepted⟩ := h_accepted
  obtain ⟨a__law_accepted, fd__law_accepted, g__law_accepted, k__law_accepted, b__law_accepted, _, G__law_accepted⟩ := h__law_accepted
  obtain ⟨a_least_lag, fd_least_lag, g_least_lag, k_least_lag, b_least_lag, _, G_least_lag⟩ := h_least_lag
  refine T.d_law.good fun f fd F base => F.ok sc_law (fun vs H Q E h => ?_) (fun cdv A outer s H vs Q E hr h => ?_)
  · obtain ⟨a, ns, rfl, _⟩ := h
    rfl
  refine ⟨_, pss_cons (ps_set (i := 1) sc_law.nd rfl (Or.inl rfl) (pe_call (G__law_begin base) (hr.mono (by decide)) (by rfl) g__law_begin k__law_begin b__law_begin .nil pass0 (pa_cons (pv 0) pa_nil)))
    (pss_cons (ps_for PassesOwn.never rfl (pi_range1 (by rfl) T.b_range (pa_cons pe_int pa_nil)) (pgN (i := 2) sc_law.nd rfl (Or.inl rfl) (Or.inl rfl)) (pss_cons (ps_set (i := 3) sc_law.nd rfl (Or.inl rfl) (pe_call (G__law_events base) (hr.mono (by decide)) (by rfl) g__law_events k__law_events b__law_events .nil pass0 (pa_cons (pv 1) (pa_cons (pe_tup (pa_cons (pe_tup (pa_cons pe_str (pa_cons pe_str pa_nil))) pa_nil)) (pa_cons pe_int (pa_cons pe_int pa_nil))))))
    (pss_cons (ps_set (i := 4) sc_law.nd rfl (Or.inl rfl) (pe_call (G__law_take base) (hr.mono (by decide)) (by rfl) g__law_take k__law_take b__law_take .nil pass0 (pa_cons (pv 1) (pa_cons pe_int pa_nil))))
    (pss_cons (ps_if (pt_cmpR (opNe (K := K) hr.units rfl) (pe_call (G_accepted base) (hr.mono (by decide)) (by rfl) g_accepted k_accepted b_accepted .nil pass0 (pa_cons (pv 3) (pa_cons (pv 4) pa_nil))) (pe_call (G__law_accepted base) (hr.mono (by decide)) (by rfl) g__law_accepted k__law_accepted b__law_accepted .nil pass0 (pa_cons (pv 3) (pa_cons (pv 4) pa_nil))) (nomark _)) (pss_one (ps_ret pe_bl)) pss_nil)
    (pss_cons (ps_set (i := 5) sc_law.nd rfl (Or.inl rfl) pe_int)
    (pss_cons (ps_while PassesOwn.never (pt_cmpR op_gt (pe_ix (kIxT (K := K) rfl) (pe_call (G__law_accepted base) (hr.mono (by decide)) (by rfl) g__law_accepted k__law_accepted b__law_accepted .nil pass0 (pa_cons (pv 3) (pa_cons (pv 5) pa_nil))) pe_int (fun _ _ => rfl)) pe_int (nomark _)) (pss_one (ps_set (i := 5) sc_law.nd rfl (Or.inl rfl) (pe_op op_add (pv 5) pe_int))))
    (pss_one (ps_if (PW.pt (pw_or (pt_cmpR (opNe (K := K) hr.units rfl) (pe_call (G_least_lag base) (hr.mono (by decide)) (by rfl) g_least_lag k_least_lag b_least_lag .nil pass0 (pa_cons (pv 3) pa_nil)) (pv 5) (nomark _)) (pw_or1 (pt_cmpR (opNe (K := K) hr.units rfl) (pe_call (G_accepted base) (hr.mono (by decide)) (by rfl) g_accepted k_accepted b_accepted .nil pass0 (pa_cons (pv 3) (pa_cons (pe_op op_add (pv 5) (pe_call (G__law_take base) (hr.mono (by decide)) (by rfl) g__law_take k__law_take b__law_take .nil pass0 (pa_cons (pv 1) (pa_cons pe_int pa_nil)))) pa_nil))) (pe_tup (pa_cons (pv 3) (pa_cons pe_int pa_nil))) (nomark _))))) (pss_one (ps_ret pe_bl)) pss_nil))))))))
    (pss_one (ps_ret (pe_and (pe_cmpR (opEq (K := K) hr.units rfl) (pe_call (G_least_lag base) (hr.mono (by decide)) (by rfl) g_least_lag k_least_lag b_least_lag .nil pass0 (pa_cons (pe_lst pa_nil) pa_nil)) pe_int (nomark _)) (pe_one (pe_cmpR (opEq (K := K) hr.units rfl) (pe_call (G_accepted base) (hr.mono (by decide)) (by rfl) g_accepted k_accepted b_accepted .nil pass0 (pa_cons (pe_lst pa_nil) (pa_cons pe_int pa_nil))) (pe_tup (pa_cons (pe_lst pa_nil) (pa_cons pe_int pa_nil))) (nomark _))))))), ?_⟩
  exact law_reads (cn := cn) (m := B_law) (κb := [.dat, .res, .dat, .dat, .dat, .dat]) (κc := [.dat, .res, .dat, .dat, .dat, .dat]) (κn := [.dat, .res, .dat, .dat, .dat, .dat]) (by decide) h (fun dp sp => (okSeq (okFor (okIR1 (okCons okInt okNil)) okGName (okSeq (okAsg (i := 3) ((gCall (okCons (okRes (by rfl)) (okCons (okTup (okCons (okTup (okCons okStr (okCons okStr okNil))) okNil)) (okCons okInt (okCons okInt okNil)))))).dat)
    (okSeq (okAsg (i := 4) (gCall (okCons (okRes (by rfl)) (okCons okInt okNil))))
    (okSeq (okIfS (okTest (gOp oNe (gCall (okCons (okVar (by rfl)) (okCons (okVar (by rfl)) okNil))) (gCall (okCons (okVar (by rfl)) (okCons (okVar (by rfl)) okNil))))) (okRet okBl) okNext)
    (okSeq (okAsg (i := 5) okInt)
    (okSeq (okWhile (okTest (gOp oGt (gOp oIxT (gCall (okCons (okVar (by rfl)) (okCons (okVar (by rfl)) okNil))) okInt) okInt)) (okAsg (i := 5) (gOp oAdd (okVar (by rfl)) okInt)))
    (okIfS (okOr (okTest (gOp oNe (gCall (okCons (okVar (by rfl)) okNil)) (okVar (by rfl)))) (okTest (gOp oNe (gCall (okCons (okVar (by rfl)) (okCons (gOp oAdd (okVar (by rfl)) (gCall (okCons (okRes (by rfl)) (okCons okInt okNil)))) okNil))) (okTup (okCons (okVar (by rfl)) (okCons okInt okNil)))))) (okRet okBl) okNext)))))))
    (okRet (gAndV (gOp oEq (gCall (okCons ((okLst okNil)).dat okNil)) okInt) (gOp oEq (gCall (okCons ((okLst okNil)).dat (okCons okInt okNil))) (okTup (okCons ((okLst okNil)).dat (okCons okInt okNil)))))))) hm
end
theorem all_ok {P : Program} {w : World} {K : PySem.W.Frag} {mg : Str → Option Value} (T : Top K mg) (hm : ∀ st : Dr, ∃ st', B_law (drRho 6) st = .ok (.rt (.bool true)) st') : Good P w K mg CX0 4 "law" ["script"] (spLaw K) := by
  let cn : String → Value → Prop := fun _ _ => False
  have G__law_begin : Good P w K mg CX0 1 "_law_begin" ["script"] (spBegin K) := hand__law_begin T
  have G__law_take : Good P w K mg CX0 1 "_law_take" ["d", "many"] (spD K cn false [.res, .dat] .dat fTake) := hand__law_take T
  have G_mark_behind : Good P w K mg CX0 1 "mark_behind" ["mark", "time", "lag"] (spD K cn false [.dat, .dat, .dat] .dat F_mark_behind) := ok_mark_behind T
  have G_accepted : Good P w K mg CX0 2 "accepted" ["events", "lag"] (spD K cn false [.dat, .dat] .dat F_accepted) := ok_accepted T G_mark_behind
  have G_least_lag : Good P w K mg CX0 1 "least_lag" ["events"] (spD K cn false [.dat] .dat F_least_lag) := ok_least_lag T
  have G__law_pick : Good P w K mg CX0 2 "_law_pick" ["d", "menu"] (spD K cn false [.res, .dat] .dat F__law_pick) := ok__law_pick T G__law_take
  have G__law_events : Good P w K mg CX0 3 "_law_events" ["d", "fields", "most", "span"] (spD K cn false [.res, .dat, .dat, .dat] .own F__law_events) := ok__law_events T G__law_take G__law_pick
  have G__law_accepted : Good P w K mg CX0 1 "_law_accepted" ["events", "lag"] (spD K cn false [.dat, .dat] .dat F__law_accepted) := ok__law_accepted T
  exact ok_law (cn := cn) T G__law_begin G__law_events G__law_take G_accepted G__law_accepted G_least_lag hm

end K03
namespace K03
open PySem L2 B
theorem top_mk {K : PySem.W.Frag} {h : Heap} {mg : Str → Option Value} (X : K.In h) (G : h.Ns mainGlobals mg)
    {f1 : Addr} {od1 an1 : Option Addr} {sl1 : Array (Option Value)} {oc1 kV1 dc1 pm1 cd1 ct1 : Value}
    {f2 : Addr} {od2 an2 : Option Addr} {sl2 : Array (Option Value)} {oc2 kV2 dc2 pm2 cd2 ct2 : Value}
    {f3 : Addr} {od3 an3 : Option Addr} {sl3 : Array (Option Value)} {oc3 kV3 dc3 pm3 cd3 ct3 : Value}
    {f4 : Addr} {od4 an4 : Option Addr} {sl4 : Array (Option Value)} {oc4 kV4 dc4 pm4 cd4 ct4 : Value}
    {f5 : Addr} {od5 an5 : Option Addr} {sl5 : Array (Option Value)} {oc5 kV5 dc5 pm5 cd5 ct5 : Value}
    {f6 : Addr} {od6 an6 : Option Addr} {sl6 : Array (Option Value)} {oc6 kV6 dc6 pm6 cd6 ct6 : Value}
    {f7 : Addr} {od7 an7 : Option Addr} {sl7 : Array (Option Value)} {oc7 kV7 dc7 pm7 cd7 ct7 : Value}
    {f8 : Addr} {od8 an8 : Option Addr} {sl8 : Array (Option Value)} {oc8 kV8 dc8 pm8 cd8 ct8 : Value}
    {f9 : Addr} {od9 an9 : Option Addr} {sl9 : Array (Option Value)} {oc9 kV9 dc9 pm9 cd9 ct9 : Value}
    {tk_NO_MARK : Tok}
    (a1 : PySem.W.nsIn K mainGlobals "mark_behind" = some (some (.ref f1))) (l1 : K.lookup f1 = some ⟨oc1, od1, .func (PySem.W.fnOf "mark_behind" "mark_behind" (defArgs s_mark_behind) (defBody s_mark_behind) (defScope s_mark_behind) .none kV1 dc1 pm1 an1 cd1 ct1), sl1⟩) (c1 : PySem.W.codeIn K cd1 "mark_behind" = true) (k1 : PySem.W.keepIn K (.ref f1) = true)
    (a2 : PySem.W.nsIn K mainGlobals "accepted" = some (some (.ref f2))) (l2 : K.lookup f2 = some ⟨oc2, od2, .func (PySem.W.fnOf "accepted" "accepted" (defArgs s_accepted) (defBody s_accepted) (defScope s_accepted) .none kV2 dc2 pm2 an2 cd2 ct2), sl2⟩) (c2 : PySem.W.codeIn K cd2 "accepted" = true) (k2 : PySem.W.keepIn K (.ref f2) = true)
    (a3 : PySem.W.nsIn K mainGlobals "least_lag" = some (some (.ref f3))) (l3 : K.lookup f3 = some ⟨oc3, od3, .func (PySem.W.fnOf "least_lag" "least_lag" (defArgs s_least_lag) (defBody s_least_lag) (defScope s_least_lag) .none kV3 dc3 pm3 an3 cd3 ct3), sl3⟩) (c3 : PySem.W.codeIn K cd3 "least_lag" = true) (k3 : PySem.W.keepIn K (.ref f3) = true)
    (a4 : PySem.W.nsIn K mainGlobals "_law_begin" = some (some (.ref f4))) (l4 : K.lookup f4 = some ⟨oc4, od4, .func (PySem.W.fnOf "_law_begin" "_law_begin" (defArgs s__law_begin) (defBody s__law_begin) (defScope s__law_begin) .none kV4 dc4 pm4 an4 cd4 ct4), sl4⟩) (c4 : PySem.W.codeIn K cd4 "_law_begin" = true) (k4 : PySem.W.keepIn K (.ref f4) = true)
    (a5 : PySem.W.nsIn K mainGlobals "_law_take" = some (some (.ref f5))) (l5 : K.lookup f5 = some ⟨oc5, od5, .func (PySem.W.fnOf "_law_take" "_law_take" (defArgs s__law_take) (defBody s__law_take) (defScope s__law_take) .none kV5 dc5 pm5 an5 cd5 ct5), sl5⟩) (c5 : PySem.W.codeIn K cd5 "_law_take" = true) (k5 : PySem.W.keepIn K (.ref f5) = true)
    (a6 : PySem.W.nsIn K mainGlobals "_law_pick" = some (some (.ref f6))) (l6 : K.lookup f6 = some ⟨oc6, od6, .func (PySem.W.fnOf "_law_pick" "_law_pick" (defArgs s__law_pick) (defBody s__law_pick) (defScope s__law_pick) .none kV6 dc6 pm6 an6 cd6 ct6), sl6⟩) (c6 : PySem.W.codeIn K cd6 "_law_pick" = true) (k6 : PySem.W.keepIn K (.ref f6) = true)
    (a7 : PySem.W.nsIn K mainGlobals "_law_events" = some (some (.ref f7))) (l7 : K.lookup f7 = some ⟨oc7, od7, .func (PySem.W.fnOf "_law_events" "_law_events" (defArgs s__law_events) (defBody s__law_events) (defScope s__law_events) .none kV7 dc7 pm7 an7 cd7 ct7), sl7⟩) (c7 : PySem.W.codeIn K cd7 "_law_events" = true) (k7 : PySem.W.keepIn K (.ref f7) = true)
    (a8 : PySem.W.nsIn K mainGlobals "_law_accepted" = some (some (.ref f8))) (l8 : K.lookup f8 = some ⟨oc8, od8, .func (PySem.W.fnOf "_law_accepted" "_law_accepted" (defArgs s__law_accepted) (defBody s__law_accepted) (defScope s__law_accepted) .none kV8 dc8 pm8 an8 cd8 ct8), sl8⟩) (c8 : PySem.W.codeIn K cd8 "_law_accepted" = true) (k8 : PySem.W.keepIn K (.ref f8) = true)
    (a9 : PySem.W.nsIn K mainGlobals "law" = some (some (.ref f9))) (l9 : K.lookup f9 = some ⟨oc9, od9, .func (PySem.W.fnOf "law" "law" (defArgs s_law) (defBody s_law) (defScope s_law) .none kV9 dc9 pm9 an9 cd9 ct9), sl9⟩) (c9 : PySem.W.codeIn K cd9 "law" = true) (k9 : PySem.W.keepIn K (.ref f9) = true)
    (z_abs : PySem.W.nsIn K mainGlobals "abs" = some none)
    (z_int : PySem.W.nsIn K mainGlobals "int" = some none)
    (z_len : PySem.W.nsIn K mainGlobals "len" = some none)
    (z_list : PySem.W.nsIn K mainGlobals "list" = some none)
    (z_max : PySem.W.nsIn K mainGlobals "max" = some none)
    (z_range : PySem.W.nsIn K mainGlobals "range" = some none)
    (z_tuple : PySem.W.nsIn K mainGlobals "tuple" = some none)
    (u_NO_MARK : PySem.W.nsIn K mainGlobals "NO_MARK" = some (some (.int (-1) tk_NO_MARK))) : Top K mg :=
  { d_mark_behind := df_mk (st := s_mark_behind) X G a1 l1 c1 k1 fun _ _ _ _ _ _ us hl => match us, hl with | [_, _, _], _ => rfl,
    d_accepted := df_mk (st := s_accepted) X G a2 l2 c2 k2 fun _ _ _ _ _ _ us hl => match us, hl with | [_, _], _ => rfl,
    d_least_lag := df_mk (st := s_least_lag) X G a3 l3 c3 k3 fun _ _ _ _ _ _ us hl => match us, hl with | [_], _ => rfl,
    d__law_begin := df_mk (st := s__law_begin) X G a4 l4 c4 k4 fun _ _ _ _ _ _ us hl => match us, hl with | [_], _ => rfl,
    d__law_take := df_mk (st := s__law_take) X G a5 l5 c5 k5 fun _ _ _ _ _ _ us hl => match us, hl with | [_, _], _ => rfl,
    d__law_pick := df_mk (st := s__law_pick) X G a6 l6 c6 k6 fun _ _ _ _ _ _ us hl => match us, hl with | [_, _], _ => rfl,
    d__law_events := df_mk (st := s__law_events) X G a7 l7 c7 k7 fun _ _ _ _ _ _ us hl => match us, hl with | [_, _, _, _], _ => rfl,
    d__law_accepted := df_mk (st := s__law_accepted) X G a8 l8 c8 k8 fun _ _ _ _ _ _ us hl => match us, hl with | [_, _], _ => rfl,
    d_law := df_mk (st := s_law) X G a9 l9 c9 k9 fun _ _ _ _ _ _ us hl => match us, hl with | [_], _ => rfl,
    b_abs := PySem.W.mg_none_of X G z_abs,
    b_int := PySem.W.mg_none_of X G z_int,
    b_len := PySem.W.mg_none_of X G z_len,
    b_list := PySem.W.mg_none_of X G z_list,
    b_max := PySem.W.mg_none_of X G z_max,
    b_range := PySem.W.mg_none_of X G z_range,
    b_tuple := PySem.W.mg_none_of X G z_tuple,
    c_NO_MARK := ⟨_, PySem.W.mg_of X G u_NO_MARK⟩ }
end K03

/-! what the words compute, said without the program: sure answers (Pu), answers over any draws (Tot) -/
namespace B
open PySem L2
instance : Inhabited Dr := ⟨⟨[], 0, 0, 0⟩⟩
section
variable {W α β : Type} {ρ : Rho} {g : Op2} {a b c : ME W}
def Pu (m : M W α) (P : α → Prop) : Prop := ∃ z, m = ret z ∧ P z
def Tot (m : M W α) (P : α → Prop) : Prop := ∀ w, ∃ z w', m w = .ok z w' ∧ P z
theorem Pu.of {m : M W α} {z : α} {P : α → Prop} (h : m = ret z) (p : P z) : Pu m P := ⟨z, h, p⟩
theorem Pu.tot {m : M W α} {P : α → Prop} (h : Pu m P) : Tot m P := fun w => by
  obtain ⟨z, rfl, p⟩ := h
  exact ⟨z, w, rfl, p⟩
theorem Pu.mono {m : M W α} {P Q : α → Prop} (h : Pu m P) (f : ∀ z, P z → Q z) : Pu m Q := by
  obtain ⟨z, e, p⟩ := h
  exact ⟨z, e, f z p⟩
theorem Tot.mono {m : M W α} {P Q : α → Prop} (h : Tot m P) (f : ∀ z, P z → Q z) : Tot m Q := fun w => by
  obtain ⟨z, w', e, p⟩ := h w
  exact ⟨z, w', e, f z p⟩
theorem Pu.ret {z : α} {P : α → Prop} (p : P z) : Pu (ret z : M W α) P := ⟨z, rfl, p⟩
theorem Tot.ret {z : α} {P : α → Prop} (p : P z) : Tot (ret z : M W α) P := (Pu.ret p).tot
theorem Pu.bnd {m : M W α} {f : α → M W β} {P : α → Prop} {Q : β → Prop} (h : Pu m P) (k : ∀ z, P z → Pu (f z) Q) : Pu (bnd m f) Q := by
  obtain ⟨z, rfl, p⟩ := h
  exact k z p
theorem Tot.bnd {m : M W α} {f : α → M W β} {P : α → Prop} {Q : β → Prop} (h : Tot m P) (k : ∀ z, P z → Tot (f z) Q) : Tot (bnd m f) Q := fun w => by
  obtain ⟨z, w', e, p⟩ := h w
  rw [bnd_ok e]
  exact k z p w'
theorem Tot.noX {m : M W α} {P : α → Prop} (h : Tot m P) : Tot (noX m) P := fun w => by
  obtain ⟨z, w', e, p⟩ := h w
  exact ⟨z, w', by unfold B.noX; rw [e], p⟩
theorem Pu.noX {m : M W α} {P : α → Prop} (h : Pu m P) : Pu (noX m) P := by
  obtain ⟨z, rfl, p⟩ := h
  exact ⟨z, rfl, p⟩
theorem noX_res (m : M W α) (w : W) : noX m w = m w ∨ (noX m w = .stuck ∧ ∃ c fs w', m w = .exc c fs w') := by
  unfold B.noX
  cases e : m w with
  | ok a w' => exact .inl rfl
  | exc c fs w' => exact .inr ⟨rfl, c, fs, w', rfl⟩
  | stuck => exact .inl rfl
@[simp] theorem tot_noX_iff {m : M W α} {P : α → Prop} : Tot (B.noX m) P = Tot m P := by
  refine propext ⟨fun h w => ?_, Tot.noX⟩
  obtain ⟨z, w', e, p⟩ := h w
  rcases noX_res m w with q | ⟨q, _⟩
  · exact ⟨z, w', q.symm.trans e, p⟩
  · rw [q] at e; cases e
@[simp] theorem tot_bnd_noX_iff {m : M W α} {f : α → M W β} {P : β → Prop} : Tot (B.bnd (B.noX m) f) P = Tot (B.bnd m f) P := by
  refine propext ⟨fun h w => ?_, fun h w => ?_⟩
  · obtain ⟨z, w', e, p⟩ := h w
    rcases noX_res m w with q | ⟨q, _⟩
    · refine ⟨z, w', Eq.trans ?_ e, p⟩
      unfold B.bnd; rw [q]
    · rw [bnd_stuck q] at e; cases e
  · obtain ⟨z, w', e, p⟩ := h w
    rcases noX_res m w with q | ⟨q, c, fs, w2, q2⟩
    · refine ⟨z, w', Eq.trans ?_ e, p⟩
      unfold B.bnd; rw [q]
    · rw [bnd_exc q2] at e; cases e
theorem tot_take {d : D} {m : Int} (h0 : 0 < m) (h1 : m ≤ 100000000) : Tot (fTake [d, .int m]) fun z => ∃ n : Int, z = .int n ∧ 0 ≤ n ∧ n < m := fun w => by
  obtain ⟨l, h⟩ := drawn_lt w h0
  exact ⟨_, _, if_pos (show Lines 0 1073741824 m from ⟨h0, by omega⟩), _, rfl, l, h⟩

/-! ### the words at a state -/
@[simp] theorem x_bnd {γ : Type} (x : M W α) (f : α → M W β) (g : β → M W γ) : bnd (bnd x f) g = bnd x fun a => bnd (f a) g := bnd_bnd x f g
@[simp] theorem x_Var (i : Nat) : (mVar i : ME W) ρ = match ρ[i]? with | some (some d) => ret d | _ => stk := (rfl)
@[simp] theorem x_C (d : D) : (mC d : ME W) ρ = ret d := (rfl)
@[simp] theorem x_Op : mOp g a b ρ = bnd (a ρ) fun d => bnd (b ρ) fun e => lift (g d e) := (rfl)
@[simp] theorem x_OpL {g : D → D → Option (List D)} : mOpL g a b ρ = bnd (a ρ) fun d => bnd (b ρ) fun e => lift ((g d e).map .list) := (rfl)
@[simp] theorem x_OpU {g : D → D → Option (List D)} : mOpU g a b ρ = bnd (a ρ) fun d => bnd (b ρ) fun e => lift ((g d e).map .tuple) := (rfl)
@[simp] theorem x_CB {g : OpN} {m : Rho → M W (List D)} : mCB g m ρ = bnd (m ρ) fun ds => lift (g ds) := (rfl)
@[simp] theorem x_CBL {g : List D → Option (List D)} {m : Rho → M W (List D)} : mCBL g m ρ = bnd (m ρ) fun ds => lift ((g ds).map .list) := (rfl)
@[simp] theorem x_CBU {g : List D → Option (List D)} {m : Rho → M W (List D)} : mCBU g m ρ = bnd (m ρ) fun ds => lift ((g ds).map .tuple) := (rfl)
@[simp] theorem x_Call {F : List D → M W D} {m : Rho → M W (List D)} : mCall F m ρ = bnd (m ρ) fun ds => noX (F ds) := (rfl)
@[simp] theorem x_CallX {F : List D → M W D} {m : Rho → M W (List D)} : mCallX F m ρ = bnd (m ρ) F := (rfl)
@[simp] theorem x_AndV : mAndV a b ρ = bnd (mB a ρ) fun c => if c then b ρ else ret (.bool false) := (rfl)
@[simp] theorem x_OrV : mOrV a b ρ = bnd (mB a ρ) fun c => if c then ret (.bool true) else b ρ := (rfl)
@[simp] theorem x_NotV : mNotV a ρ = bnd (mB a ρ) fun c => ret (.bool (!c)) := (rfl)
@[simp] theorem x_srcL : srcL a ρ = bnd (a ρ) asL := (rfl)
@[simp] theorem x_srcT : srcT a ρ = bnd (a ρ) asT := (rfl)
@[simp] theorem x_srcS : srcS a ρ = bnd (a ρ) asS := (rfl)
@[simp] theorem x_asL (ds : List D) : (asL (.list ds) : M W (List D)) = ret ds := (rfl)
@[simp] theorem x_asT (ds : List D) : (asT (.tuple ds) : M W (List D)) = ret ds := (rfl)
@[simp] theorem x_asS (x : Str) : (asS (.str x) : M W (List D)) = ret (signsOf x) := (rfl)
def isB : D → M W Bool | .bool b => ret b | _ => stk
@[simp] theorem x_isB (b : Bool) : (isB (.bool b) : M W Bool) = ret b := (rfl)
@[simp] theorem x_B : mB a ρ = bnd (a ρ) isB := by
  unfold mB
  congr 1
@[simp] theorem x_And {a b : Rho → M W Bool} : mAnd a b ρ = bnd (a ρ) fun c => if c then b ρ else ret false := (rfl)
@[simp] theorem x_Or {a b : Rho → M W Bool} : mOr a b ρ = bnd (a ρ) fun c => if c then ret true else b ρ := (rfl)
@[simp] theorem x_Not {a : Rho → M W Bool} : mNot a ρ = bnd (a ρ) fun c => ret (!c) := (rfl)
@[simp] theorem x_OfB {m : Rho → M W Bool} : mOfB m ρ = bnd (m ρ) fun b => ret (.bool b) := (rfl)
@[simp] theorem x_If {m : Rho → M W Bool} : mIf m a b ρ = bnd (m ρ) fun k => if k then a ρ else b ρ := (rfl)
@[simp] theorem x_Nil : (mNil : Rho → M W (List D)) ρ = ret [] := (rfl)
@[simp] theorem x_Cons {r : Rho → M W (List D)} : mCons a r ρ = bnd (a ρ) fun d => bnd (r ρ) fun ds => ret (d :: ds) := (rfl)
@[simp] theorem x_Tup {m : Rho → M W (List D)} : mTup m ρ = bnd (m ρ) fun ds => if ds.length ≤ 1000000 then ret (.tuple ds) else stk := (rfl)
@[simp] theorem x_Lst {m : Rho → M W (List D)} : mLst m ρ = bnd (m ρ) fun ds => if ds.length ≤ 1000000 then ret (.list ds) else stk := (rfl)
@[simp] theorem x_Nx : (mNx : MS W) ρ = ret (.nx ρ) := (rfl)
@[simp] theorem x_Drop : mDrop a ρ = bnd (a ρ) fun _ => ret (.nx ρ) := (rfl)
@[simp] theorem x_Ret : mRet a ρ = bnd (a ρ) fun d => ret (.rt d) := (rfl)
@[simp] theorem x_RetN : (mRetN : MS W) ρ = ret (.rt .none) := (rfl)
@[simp] theorem x_IfS {c : Rho → M W Bool} {m n : MS W} : mIfS c m n ρ = bnd (c ρ) fun b => if b then m ρ else n ρ := (rfl)
@[simp] theorem x_Asg {i : Nat} : mAsg i a ρ = bnd (a ρ) fun d => ret (.nx (ρ.set i (some d))) := (rfl)
@[simp] theorem x_AsgT {g : D → Rho → Option Rho} : mAsgT g a ρ = bnd (a ρ) fun d => bnd (lift (g d ρ)) fun ρ' => ret (.nx ρ') := (rfl)
@[simp] theorem x_Aug {i : Nat} : mAug i g a ρ = bnd (mVar i ρ) fun d => bnd (a ρ) fun e => bnd (lift (g d e)) fun z => ret (.nx (ρ.set i (some z))) := (rfl)
@[simp] theorem x_Mut {i : Nat} {f : D → List D → Option D} {m : Rho → M W (List D)} : mMut i f m ρ = bnd (mVar i ρ) fun d => bnd (m ρ) fun es => bnd (lift (f d es)) fun z => ret (.nx (ρ.set i (some z))) := (rfl)
@[simp] theorem x_gN (i : Nat) (d : D) : gN i d ρ = some (ρ.set i (some d)) := (rfl)
@[simp] theorem x_gNil : gNil' [] ρ = some ρ := (rfl)
@[simp] theorem x_gCons {f : D → Rho → Option Rho} {fs : List D → Rho → Option Rho} (d : D) (ds : List D) : gCons' f fs (d :: ds) ρ = (f d ρ).bind (fs ds) := (rfl)
@[simp] theorem x_gT {n : Nat} {fs : List D → Rho → Option Rho} (ds : List D) : gT n fs (.tuple ds) ρ = if ds.length = n then fs ds ρ else none := (rfl)
@[simp] theorem x_For {src : Rho → M W (List D)} {g : D → Rho → Option Rho} {b : MS W} : mFor src g b ρ = bnd (src ρ) fun ds => mForL g b ds ρ := (rfl)
@[simp] theorem x_ForNil {g : D → Rho → Option Rho} {b : MS W} : mForL g b [] ρ = ret (.nx ρ) := (rfl)
def goOn (k : MS W) : O → M W O
  | .nx ρ' => k ρ'
  | o => ret o
@[simp] theorem x_goNx (k : MS W) : goOn k (.nx ρ) = k ρ := (rfl)
@[simp] theorem x_goRt (k : MS W) (d : D) : goOn k (.rt d) = ret (.rt d) := (rfl)
@[simp] theorem x_goBk (k : MS W) : goOn k (.bk ρ) = ret (.bk ρ) := (rfl)
@[simp] theorem x_goCt (k : MS W) : goOn k (.ct ρ) = ret (.ct ρ) := (rfl)
@[simp] theorem x_Seq {m n : MS W} : mSeq m n ρ = bnd (m ρ) (goOn n) := by
  unfold mSeq
  congr 1
  funext o
  cases o <;> rfl
def goLoop (k : MS W) : O → M W O
  | .nx ρ' => k ρ'
  | .ct ρ' => k ρ'
  | .bk ρ' => ret (.nx ρ')
  | .rt d => ret (.rt d)
@[simp] theorem x_loNx (k : MS W) : goLoop k (.nx ρ) = k ρ := (rfl)
@[simp] theorem x_loRt (k : MS W) (d : D) : goLoop k (.rt d) = ret (.rt d) := (rfl)
@[simp] theorem x_loBk (k : MS W) : goLoop k (.bk ρ) = ret (.nx ρ) := (rfl)
@[simp] theorem x_loCt (k : MS W) : goLoop k (.ct ρ) = k ρ := (rfl)
@[simp] theorem x_ForCons {g : D → Rho → Option Rho} {b : MS W} (d : D) (ds : List D) : mForL g b (d :: ds) ρ = bnd (lift (g d ρ)) fun ρ1 => bnd (b ρ1) (goLoop (mForL g b ds)) := by
  show (bnd (lift (g d ρ)) fun ρ1 => bnd (b ρ1) fun o => match o with
    | .nx ρ2 => mForL g b ds ρ2
    | .ct ρ2 => mForL g b ds ρ2
    | .bk ρ2 => ret (.nx ρ2)
    | .rt d => ret (.rt d)) = _
  congr 1
noncomputable def rng1 : List D → M W (List D)
  | [.int j] => if Lines (-1000000000) 1000000000 j then ret (intsFrom 0 j.toNat) else stk
  | _ => stk
theorem x_rng1 (j : Int) : (rng1 [.int j] : M W (List D)) = if Lines (-1000000000) 1000000000 j then ret (intsFrom 0 j.toNat) else stk := rfl
@[simp] theorem x_srcR1 {m : Rho → M W (List D)} : srcR1 m ρ = bnd (m ρ) rng1 := by
  unfold srcR1 rng1
  rfl
noncomputable def rng2 : List D → M W (List D)
  | [.int i, .int j] => if Lines (-1000000000) 1000000000 i ∧ Lines (-1000000000) 1000000000 j then ret (intsFrom i (j - i).toNat) else stk
  | _ => stk
theorem x_rng2 (i j : Int) : (rng2 [.int i, .int j] : M W (List D)) = if Lines (-1000000000) 1000000000 i ∧ Lines (-1000000000) 1000000000 j then ret (intsFrom i (j - i).toNat) else stk := rfl
@[simp] theorem x_srcR2 {m : Rho → M W (List D)} : srcR2 m ρ = bnd (m ρ) rng2 := by
  unfold srcR2 rng2
  rfl
@[simp] theorem x_Lc {src : Rho → M W (List D)} {vs : List Nat} {f : D → Rho → Option Rho} {tt : Rho → M W Bool} {e : ME W} : mLc src vs f tt e ρ = bnd (src ρ) fun ds => if ds.length ≤ 1000000 then bnd (mLcL f tt e (wipeR ρ vs) ds) fun xs => ret (.list xs) else stk := (rfl)
@[simp] theorem x_wipe0 : wipeR ρ [] = ρ := (rfl)
@[simp] theorem x_wipe (v : Nat) (vs : List Nat) : wipeR ρ (v :: vs) = (wipeR ρ vs).set v none := (rfl)
@[simp] theorem x_Yes : (mYes : Rho → M W Bool) ρ = ret true := (rfl)
@[simp] theorem x_LcNil {f : D → Rho → Option Rho} {tt : Rho → M W Bool} {e : ME W} : mLcL f tt e ρ [] = ret [] := (rfl)
@[simp] theorem x_LcCons {f : D → Rho → Option Rho} {tt : Rho → M W Bool} {e : ME W} (d : D) (ds : List D) : mLcL f tt e ρ (d :: ds) = bnd (lift (f d ρ)) fun ρ1 => bnd (noX (tt ρ1)) fun b => if b then bnd (noX (e ρ1)) fun x => bnd (mLcL f tt e ρ ds) fun xs => ret (x :: xs) else mLcL f tt e ρ ds := (rfl)
def ngD : D → M W D | .int i => ret (.int (-i)) | _ => stk
@[simp] theorem x_ngD (i : Int) : (ngD (.int i) : M W D) = ret (.int (-i)) := (rfl)
@[simp] theorem x_Neg : mNeg a ρ = bnd (a ρ) ngD := by
  unfold mNeg
  congr 1
@[simp] theorem x_Truth : mTruth a ρ = bnd (a ρ) fun d => lift (truD d) := (rfl)
@[simp] theorem x_NoP : (mNoP : Rho → M W (Option Int)) ρ = ret none := (rfl)
def ptD : D → M W (Option Int) | .int i => ret (some i) | _ => stk
@[simp] theorem x_ptD (i : Int) : (ptD (.int i) : M W (Option Int)) = ret (some i) := (rfl)
@[simp] theorem x_Part : mPart a ρ = bnd (a ρ) ptD := by
  unfold mPart
  congr 1
@[simp] theorem x_Sl {f : D → Option Int → Option Int → M W D} {l h : Rho → M W (Option Int)} : mSl f a l h ρ = bnd (a ρ) fun d => bnd (l ρ) fun lo => bnd (h ρ) fun hi => f d lo hi := (rfl)
@[simp] theorem x_liftP {g : D → Option Int → Option Int → Option D} (d : D) (lo hi : Option Int) : (liftP g d lo hi : M W D) = lift (g d lo hi) := (rfl)
@[simp] theorem x_liftL {g : D → Option Int → Option Int → Option (List D)} (d : D) (lo hi : Option Int) : (liftL g d lo hi : M W D) = lift ((g d lo hi).map .list) := (rfl)
@[simp] theorem x_liftT {g : D → Option Int → Option Int → Option (List D)} (d : D) (lo hi : Option Int) : (liftT g d lo hi : M W D) = lift ((g d lo hi).map .tuple) := (rfl)
def outF (rk : Kd) : O → M W D
  | .rt d => ret d
  | .nx _ => if rk = .dat then ret .none else stk
  | _ => stk
@[simp] theorem x_outRt (rk : Kd) (d : D) : (outF rk (.rt d) : M W D) = ret d := (rfl)
@[simp] theorem x_outNx : (outF .dat (.nx ρ) : M W D) = ret .none := (rfl)
@[simp] theorem x_Fn {rk : Kd} {n : Nat} {m : MS W} (ds : List D) : mFn rk n m ds = bnd (m (startR n ds)) (outF rk) := by
  unfold mFn
  congr 1
@[simp] theorem x_start (n : Nat) (ds : List D) : startR n ds = ds.map some ++ List.replicate (n - ds.length) none := (rfl)

/-! ### the operators -/
@[simp] theorem o_Add (i j : Int) : gAdd (.int i) (.int j) = some (.int (i + j)) := (rfl)
@[simp] theorem o_Mns (i j : Int) : gMns (.int i) (.int j) = some (.int (i - j)) := (rfl)
theorem o_Mul {i j : Int} (h : -1000000000000 ≤ i) (h2 : i ≤ 1000000000000) : gMul (.int i) (.int j) = some (.int (i * j)) := if_pos (.inl ⟨by omega, by omega⟩)
theorem o_Mul' {i j : Int} (h : -1000000000000 ≤ j) (h2 : j ≤ 1000000000000) : gMul (.int i) (.int j) = some (.int (i * j)) := if_pos (.inr ⟨by omega, by omega⟩)
@[simp] theorem o_Mod (i j : Int) : gMod (.int i) (.int j) = if 0 < j then some (.int (i % j)) else none := (rfl)
theorem o_Div {i j : Int} (h : 0 < j) (h2 : j ≤ 1000000000) : gDiv (.int i) (.int j) = some (.int (i / j)) := if_pos ⟨h, by omega⟩
@[simp] theorem o_Lt (i j : Int) : gLt (.int i) (.int j) = some (.bool (decide (i < j))) := (rfl)
@[simp] theorem o_Le (i j : Int) : gLe (.int i) (.int j) = some (.bool (decide (i ≤ j))) := (rfl)
@[simp] theorem o_Gt (i j : Int) : gGt (.int i) (.int j) = some (.bool (decide (j < i))) := (rfl)
@[simp] theorem o_Ge (i j : Int) : gGe (.int i) (.int j) = some (.bool (decide (j ≤ i))) := (rfl)
@[simp] theorem o_IxL (ds : List D) (i : Int) : gIxL (.list ds) (.int i) = atI ds i := (rfl)
@[simp] theorem o_IxT (ds : List D) (i : Int) : gIxT (.tuple ds) (.int i) = atI ds i := (rfl)
@[simp] theorem o_Cat (x y : List D) : gCat (.list x) (.list y) = if x.length + y.length ≤ 1000000 then some (x ++ y) else none := (rfl)
@[simp] theorem o_CatT (x y : List D) : gCatT (.tuple x) (.tuple y) = if x.length + y.length ≤ 1000000 then some (x ++ y) else none := (rfl)
@[simp] theorem o_App (ds : List D) (e : D) : gApp (.list ds) [e] = if ds.length < 1000000 then some (.list (ds ++ [e])) else none := (rfl)
@[simp] theorem o_Ext (ds es : List D) : gExt (.list ds) [.list es] = if ds.length + es.length ≤ 1000000 then some (.list (ds ++ es)) else none := (rfl)
@[simp] theorem o_LenL (ds : List D) : gLen [.list ds] = some (.int ds.length) := (rfl)
@[simp] theorem o_LenT (ds : List D) : gLen [.tuple ds] = some (.int ds.length) := (rfl)
@[simp] theorem o_LenS (x : Str) : gLenS [.str x] = if x.length ≤ 1000000 then some (.int x.length) else none := (rfl)
@[simp] theorem o_Abs (i : Int) : gAbs [.int i] = some (.int (if i < 0 then -i else i)) := (rfl)
@[simp] theorem o_Max2 (i j : Int) : gMax2 [.int i, .int j] = some (.int (max i j)) := by
  show some (PyData.int (if j > i then j else i)) = _
  congr 2
  split <;> omega
@[simp] theorem o_Min2 (i j : Int) : gMin2 [.int i, .int j] = some (.int (min i j)) := by
  show some (PyData.int (if j < i then j else i)) = _
  congr 2
  split <;> omega
@[simp] theorem o_Int1 (i : Int) : gInt1 [.int i] = some (.int i) := (rfl)
@[simp] theorem o_Int1b (b : Bool) : gInt1 [.bool b] = some (.int (if b = true then 1 else 0)) := (rfl)
@[simp] theorem o_ListL (ds : List D) : gListOf [.list ds] = some ds := (rfl)
@[simp] theorem o_ListT (ds : List D) : gListOf [.tuple ds] = some ds := (rfl)
theorem o_MaxL (ns : List Int) (h : ns ≠ []) : gMaxL [.list (ns.map .int)] = some (.int (maxI ns)) := by
  show (intsD (ns.map .int)).bind _ = _
  rw [intsD_of]
  exact if_neg h
theorem o_MinL (ns : List Int) (h : ns ≠ []) : gMinL [.list (ns.map .int)] = some (.int (minI ns)) := by
  show (intsD (ns.map .int)).bind _ = _
  rw [intsD_of]
  exact if_neg h
@[simp] theorem o_SumL (ns : List Int) : gSumL [.list (ns.map .int)] = some (.int ns.sum) := by
  show (intsD (ns.map .int)).map _ = _
  rw [intsD_of]
  rfl
@[simp] theorem o_AnyL (bs : List Bool) : gAnyL [.list (bs.map .bool)] = some (.bool (bs.any id)) := by
  show (blsD (bs.map .bool)).map _ = _
  rw [blsD_of]
  rfl
@[simp] theorem o_AllL (bs : List Bool) : gAllL [.list (bs.map .bool)] = some (.bool (bs.all id)) := by
  show (blsD (bs.map .bool)).map _ = _
  rw [blsD_of]
  rfl
theorem atI_of {α : Type} {xs : List α} {i : Int} {n : Nat} (e : i = (n : Int)) (h : n < xs.length) : atI xs i = some xs[n] := by
  subst e
  exact atI_nat (List.getElem?_eq_getElem h)
@[simp] theorem atI_0 {α : Type} (x : α) (xs : List α) : atI (x :: xs) 0 = some x := atI_nat (j := 0) rfl
@[simp] theorem atI_1 {α : Type} (x y : α) (xs : List α) : atI (x :: y :: xs) 1 = some y := atI_nat (j := 1) rfl
@[simp] theorem atI_2 {α : Type} (x y z : α) (xs : List α) : atI (x :: y :: z :: xs) 2 = some z := atI_nat (j := 2) rfl
@[simp] theorem atI_3 {α : Type} (x y z u : α) (xs : List α) : atI (x :: y :: z :: u :: xs) 3 = some u := atI_nat (j := 3) rfl
@[simp] theorem atI_4 {α : Type} (x y z u v : α) (xs : List α) : atI (x :: y :: z :: u :: v :: xs) 4 = some v := atI_nat (j := 4) rfl
theorem atI_mid {α : Type} (xs ys : List α) (x : α) : atI (xs ++ x :: ys) (xs.length : Int) = some x := atI_nat (by rw [List.getElem?_append_right (Nat.le_refl _), Nat.sub_self]; rfl)

/-! ### shapes -/
def Sh (n : Nat) (d : D) : Prop := d.canLay0 = true ∧ d.depth ≤ n
theorem sh_shaped {n : Nat} {d : D} (h : Sh n d) (hn : n ≤ 64 := by decide) : SeqAt.shaped d = true := by
  unfold SeqAt.shaped
  rw [h.1, decide_eq_true (Nat.le_trans h.2 hn)]
  rfl
theorem sh_int (i : Int) : Sh 0 (.int i) := ⟨rfl, Nat.le_refl _⟩
theorem sh_bool (i : Bool) : Sh 0 (.bool i) := ⟨rfl, Nat.le_refl _⟩
theorem sh_none : Sh 0 .none := ⟨rfl, Nat.le_refl _⟩
theorem sh_str {x : Str} (h : PyData.strOk x = true) : Sh 0 (.str x) := ⟨by unfold PyData.canLay0; exact h, Nat.le_refl _⟩
theorem Sh.le {m n : Nat} {d : D} (h : Sh m d) (hn : m ≤ n) : Sh n d := ⟨h.1, Nat.le_trans h.2 hn⟩
theorem sh_all {n : Nat} : ∀ {ds : List D}, (∀ d ∈ ds, Sh n d) → PyData.canLayAll0 ds = true ∧ PyData.depthAll ds ≤ n
  | [], _ => ⟨rfl, Nat.zero_le _⟩
  | d :: ds, h => by
    obtain ⟨a, b⟩ := sh_all fun e he => h e (List.mem_cons_of_mem _ he)
    obtain ⟨c, e⟩ := h d List.mem_cons_self
    refine ⟨by rw [PyData.canLayAll0, a, c]; rfl, ?_⟩
    rw [PyData.depthAll]
    exact Nat.max_le.mpr ⟨e, b⟩
theorem sh_list {n : Nat} {ds : List D} (h : ∀ d ∈ ds, Sh n d) : Sh (n + 1) (.list ds) := by
  obtain ⟨a, b⟩ := sh_all h
  exact ⟨by rw [PyData.canLay0]; exact a, by rw [PyData.depth]; exact Nat.succ_le_succ b⟩
theorem sh_tup {n : Nat} {ds : List D} (h : ∀ d ∈ ds, Sh n d) : Sh (n + 1) (.tuple ds) := by
  obtain ⟨a, b⟩ := sh_all h
  exact ⟨by rw [PyData.canLay0]; exact a, by rw [PyData.depth]; exact Nat.succ_le_succ b⟩
theorem sh_refl {n : Nat} {d : D} (h : Sh n d) : PyData.eqv d d = true := SeqAt.eqv_refl d h.1
theorem o_EqSame {n : Nat} {d : D} (h : Sh n d) (hn : n ≤ 64 := by decide) : gEq d d = some (.bool true) := by
  unfold gEq
  rw [if_pos ⟨sh_shaped h hn, sh_shaped h hn⟩, sh_refl h]
theorem o_NeSame {n : Nat} {d : D} (h : Sh n d) (hn : n ≤ 64 := by decide) : gNe d d = some (.bool false) := by
  unfold gNe
  rw [if_pos ⟨sh_shaped h hn, sh_shaped h hn⟩, sh_refl h]
  rfl
@[simp] theorem o_EqI (i j : Int) : gEq (.int i) (.int j) = some (.bool (decide (i = j))) := by
  show some (PyData.bool (PyData.eqv (.int i) (.int j))) = _
  rw [PyData.eqv, PySem.W.beq_decide]
@[simp] theorem o_NeI (i j : Int) : gNe (.int i) (.int j) = some (.bool (!decide (i = j))) := by
  show some (PyData.bool (!PyData.eqv (.int i) (.int j))) = _
  rw [PyData.eqv, PySem.W.beq_decide]
theorem o_EqS {x y : Str} (hx : PyData.strOk x = true) (hy : PyData.strOk y = true) : gEq (.str x) (.str y) = some (.bool (decide (x = y))) := by
  unfold gEq
  rw [if_pos ⟨sh_shaped (sh_str hx), sh_shaped (sh_str hy)⟩, PyData.eqv, PySem.W.beq_decide]
theorem o_NeS {x y : Str} (hx : PyData.strOk x = true) (hy : PyData.strOk y = true) : gNe (.str x) (.str y) = some (.bool (!decide (x = y))) := by
  unfold gNe
  rw [if_pos ⟨sh_shaped (sh_str hx), sh_shaped (sh_str hy)⟩, PyData.eqv, PySem.W.beq_decide]

theorem rng1_of {j : Int} (h0 : -100000 ≤ j) (h1 : j ≤ 10000000) : (rng1 [.int j] : M Dr (List D)) = ret (intsFrom 0 j.toNat) := if_pos ⟨by omega, by omega⟩
theorem rng1_nat {n : Nat} (h1 : n ≤ 10000000) : (rng1 [.int n] : M Dr (List D)) = ret (intsFrom 0 n) := by
  rw [rng1_of (by omega) (by omega), Int.toNat_natCast]
theorem rng2_of {i j : Int} (h0 : -100000 ≤ i) (h1 : i ≤ 10000000) (h2 : -100000 ≤ j) (h3 : j ≤ 10000000) : (rng2 [.int i, .int j] : M Dr (List D)) = ret (intsFrom i (j - i).toNat) := if_pos ⟨⟨by omega, by omega⟩, by omega, by omega⟩
/-! ### loops -/
@[simp] theorem intsFrom_0 (lo : Int) : intsFrom lo 0 = [] := rfl
theorem intsFrom_cons (lo : Int) (n : Nat) : intsFrom lo (n + 1) = .int lo :: intsFrom (lo + 1) n := by
  unfold intsFrom
  rw [List.range_succ_eq_map, List.map_cons, List.map_map]
  congr 1
  · simp
  · refine List.map_congr_left fun i _ => ?_
    show PyData.int (lo + ((i + 1 : Nat) : Int)) = PyData.int (lo + 1 + (i : Int))
    congr 1
    push_cast
    omega
/-- after one item -/
def After (I : Rho → Prop) : O → Prop
  | .nx ρ => I ρ
  | .ct ρ => I ρ
  | _ => False
theorem pu_for {g : D → Rho → Option Rho} {b : MS W} : ∀ {xs : List D} {I : Nat → Rho → Prop} {ρ : Rho}, I 0 ρ → (∀ i d ρ, xs[i]? = some d → I i ρ → Pu (bnd (lift (g d ρ)) b) (After (I (i + 1)))) → ∃ ρ', mForL g b xs ρ = ret (.nx ρ') ∧ I xs.length ρ'
  | [], I, ρ, h0, _ => ⟨ρ, rfl, h0⟩
  | x :: xs, I, ρ, h0, hs => by
    obtain ⟨o, e, p⟩ := hs 0 x ρ rfl h0
    rw [x_ForCons, ← bnd_bnd, e, bnd_ret]
    have step : ∀ ρ1, I 1 ρ1 → ∃ ρ', mForL g b xs ρ1 = ret (.nx ρ') ∧ I (x :: xs).length ρ' := fun ρ1 h1 =>
      pu_for (I := fun i => I (i + 1)) h1 fun i d ρ hi h => hs (i + 1) d ρ (by rw [List.getElem?_cons_succ]; exact hi) h
    cases o with
    | nx ρ1 => exact step ρ1 p
    | ct ρ1 => exact step ρ1 p
    | bk _ => exact p.elim
    | rt _ => exact p.elim
/-- one item of many, any end -/
def AfterX (I : Rho → Prop) (B : Rho → Prop) (R : D → Prop) : O → Prop
  | .nx ρ => I ρ
  | .ct ρ => I ρ
  | .bk ρ => B ρ
  | .rt d => R d
def EndX (B : Rho → Prop) (R : D → Prop) : O → Prop
  | .nx ρ => B ρ
  | .rt d => R d
  | _ => False
theorem tot_forX {g : D → Rho → Option Rho} {b : MS W} {B : Rho → Prop} {R : D → Prop} : ∀ {xs : List D} {I : Nat → Rho → Prop} {ρ : Rho}, I 0 ρ → (∀ i d ρ, xs[i]? = some d → I i ρ → Tot (bnd (lift (g d ρ)) b) (AfterX (I (i + 1)) B R)) →
    (∀ ρ, I xs.length ρ → B ρ) → Tot (mForL g b xs ρ) (EndX B R)
  | [], I, ρ, h0, _, hB => .ret (hB ρ h0)
  | x :: xs, I, ρ, h0, hs, hB => by
    rw [x_ForCons, ← bnd_bnd]
    refine (hs 0 x ρ rfl h0).bnd fun o p => ?_
    have step : ∀ ρ1, I 1 ρ1 → Tot (mForL g b xs ρ1) (EndX B R) := fun ρ1 h1 =>
      tot_forX (I := fun i => I (i + 1)) h1 (fun i d ρ hi h => hs (i + 1) d ρ (by rw [List.getElem?_cons_succ]; exact hi) h) hB
    cases o with
    | nx ρ1 => exact step ρ1 p
    | ct ρ1 => exact step ρ1 p
    | bk ρ1 => exact .ret (P := EndX B R) (z := O.nx ρ1) p
    | rt d => exact .ret (P := EndX B R) (z := O.rt d) p
theorem tot_for {g : D → Rho → Option Rho} {b : MS W} {xs : List D} {I : Nat → Rho → Prop} {ρ : Rho} (h0 : I 0 ρ) (hs : ∀ i d ρ, xs[i]? = some d → I i ρ → Tot (bnd (lift (g d ρ)) b) (After (I (i + 1)))) : Tot (mForL g b xs ρ) fun o => ∃ ρ', o = .nx ρ' ∧ I xs.length ρ' :=
  (tot_forX (B := I xs.length) (R := fun _ => False) h0 (fun i d ρ hi h => (hs i d ρ hi h).mono fun o p => by cases o <;> first | exact p | exact False.elim p) fun _ h => h).mono fun o p => by
    cases o with
    | nx ρ1 => exact ⟨ρ1, rfl, p⟩
    | ct _ => exact p.elim
    | bk _ => exact p.elim
    | rt _ => exact p.elim
theorem x_While1 {c : Rho → M W Bool} {b : MS W} (n : Nat) : mWhileN c b (n + 1) ρ = bnd (c ρ) fun k => if k then bnd (b ρ) (goLoop (mWhileN c b n)) else ret (.nx ρ) := by
  show (bnd (c ρ) fun k => if k then bnd (b ρ) fun o => match o with
    | .nx ρ2 => mWhileN c b n ρ2
    | .ct ρ2 => mWhileN c b n ρ2
    | .bk ρ2 => ret (.nx ρ2)
    | .rt d => ret (.rt d) else ret (.nx ρ)) = _
  congr 1
/-- a while that gets nearer its end with each turn -/
theorem tot_while {c : Rho → M W Bool} {b : MS W} {I B : Rho → Prop} {R : D → Prop} {μ : Rho → Nat}
    (hs : ∀ ρ, I ρ → Tot (bnd (c ρ) fun k => if k then b ρ else ret (.bk ρ)) (AfterX (fun ρ' => I ρ' ∧ μ ρ' < μ ρ) B R)) {ρ : Rho} (h0 : I ρ) : Tot (mWhile c b ρ) (EndX B R) := fun w => by
  have key : ∀ n ρ, μ ρ < n → I ρ → ∀ w, ∃ z w', mWhileN c b n ρ w = .ok z w' ∧ EndX B R z := by
    intro n
    induction n with
    | zero => intro ρ h; omega
    | succ n ih =>
      intro ρ hn hI w
      obtain ⟨o, w1, e, p⟩ := hs ρ hI w
      rw [x_While1]
      cases ec : c ρ w with
      | stuck => rw [bnd_stuck ec] at e; cases e
      | exc cc fs w2 => rw [bnd_exc ec] at e; cases e
      | ok k w2 =>
        rw [bnd_ok ec] at e ⊢
        cases k with
        | false =>
          cases e
          exact ⟨_, _, rfl, p⟩
        | true =>
          have e' : b ρ w2 = .ok o w1 := e
          show ∃ z w', bnd (b ρ) (goLoop (mWhileN c b n)) w2 = _ ∧ _
          rw [bnd_ok e']
          cases o with
          | nx ρ1 => exact ih ρ1 (Nat.lt_of_lt_of_le p.2 (Nat.le_of_lt_succ hn)) p.1 w1
          | ct ρ1 => exact ih ρ1 (Nat.lt_of_lt_of_le p.2 (Nat.le_of_lt_succ hn)) p.1 w1
          | bk ρ1 => exact ⟨_, _, rfl, p⟩
          | rt d => exact ⟨_, _, rfl, p⟩
  obtain ⟨z, w', e, p⟩ := key (μ ρ + 1) ρ (Nat.lt_succ_self _) h0 w
  exact ⟨z, w', mWhile_eq e (fun q => by cases q), p⟩
theorem pu_while {c : Rho → M W Bool} {b : MS W} {I B : Rho → Prop} {μ : Rho → Nat}
    (hs : ∀ ρ, I ρ → Pu (bnd (c ρ) fun k => if k then b ρ else ret (.bk ρ)) (AfterX (fun ρ' => I ρ' ∧ μ ρ' < μ ρ) B fun _ => False)) {ρ : Rho} (h0 : I ρ) : ∃ ρ', mWhile c b ρ = ret (.nx ρ') ∧ B ρ' := by
  have key : ∀ n ρ, μ ρ < n → I ρ → ∃ ρ', B ρ' ∧ ∀ w, mWhileN c b n ρ w = .ok (.nx ρ') w := by
    intro n
    induction n with
    | zero => intro ρ h; omega
    | succ n ih =>
      intro ρ hn hI
      obtain ⟨o, e, p⟩ := hs ρ hI
      have e' : ∀ w, bnd (c ρ) (fun k => if k then b ρ else ret (.bk ρ)) w = .ok o w := fun w => by rw [e]; rfl
      have stp : ∀ ρ', (∀ w, ∀ w1, b ρ w = .ok o w1 → ∀ w2, c ρ w2 = .ok true w → goLoop (mWhileN c b n) o w1 = .ok (.nx ρ') w1) → (∀ ρ1, o = .bk ρ1 → ρ1 = ρ') → ∀ w, mWhileN c b (n + 1) ρ w = .ok (.nx ρ') w := by
        intro ρ' h1 h2 w
        have ew := e' w
        rw [x_While1]
        cases ec : c ρ w with
        | stuck => rw [bnd_stuck ec] at ew; cases ew
        | exc cc fs w2 => rw [bnd_exc ec] at ew; cases ew
        | ok k w2 =>
          rw [bnd_ok ec] at ew ⊢
          cases k with
          | false =>
            have : (Res.ok (O.bk ρ) w2 : Res W O) = .ok o w := ew
            cases this
            rw [h2 ρ rfl]
            rfl
          | true =>
            have eb : b ρ w2 = .ok o w := ew
            show bnd (b ρ) (goLoop (mWhileN c b n)) w2 = _
            rw [bnd_ok eb]
            exact h1 w2 w eb w ec
      cases o with
      | nx ρ1 =>
        obtain ⟨ρ', hB, h⟩ := ih ρ1 (Nat.lt_of_lt_of_le p.2 (Nat.le_of_lt_succ hn)) p.1
        exact ⟨ρ', hB, stp ρ' (fun _ w1 _ _ _ => h w1) fun _ z => by cases z⟩
      | ct ρ1 =>
        obtain ⟨ρ', hB, h⟩ := ih ρ1 (Nat.lt_of_lt_of_le p.2 (Nat.le_of_lt_succ hn)) p.1
        exact ⟨ρ', hB, stp ρ' (fun _ w1 _ _ _ => h w1) fun _ z => by cases z⟩
      | bk ρ1 => exact ⟨ρ1, p, stp ρ1 (fun _ w1 _ _ _ => rfl) fun _ z => by cases z; rfl⟩
      | rt d => exact p.elim
  obtain ⟨ρ', hB, h⟩ := key (μ ρ + 1) ρ (Nat.lt_succ_self _) h0
  exact ⟨ρ', funext fun w => mWhile_eq (h w) (fun q => by cases q), hB⟩

/-! ### comprehensions -/
theorem pu_lc {f : D → Rho → Option Rho} {tt : Rho → M W Bool} {e : ME W} {p : D → Bool} {h : D → D} : ∀ {xs : List D}, (∀ d ∈ xs, ∃ ρ1, f d ρ = some ρ1 ∧ tt ρ1 = ret (p d) ∧ (p d = true → e ρ1 = ret (h d))) → mLcL f tt e ρ xs = ret ((xs.filter p).map h)
  | [], _ => rfl
  | x :: xs, hs => by
    obtain ⟨ρ1, h1, h2, h3⟩ := hs x List.mem_cons_self
    have ih := pu_lc fun d hd => hs d (List.mem_cons_of_mem _ hd)
    unfold mLcL
    rw [h1, lift_some, bnd_ret, h2, noX_ret, bnd_ret, ih]
    cases hp : p x with
    | false => rw [List.filter_cons_of_neg (by rw [hp]; exact Bool.false_ne_true)]; rfl
    | true =>
      rw [List.filter_cons_of_pos hp, List.map_cons, h3 hp]
      rfl
theorem pu_lcY {f : D → Rho → Option Rho} {e : ME W} {h : D → D} {xs : List D} (hs : ∀ d ∈ xs, ∃ ρ1, f d ρ = some ρ1 ∧ e ρ1 = ret (h d)) : mLcL f mYes e ρ xs = ret (xs.map h) := by
  have := pu_lc (W := W) (ρ := ρ) (f := f) (tt := mYes) (e := e) (p := fun _ => true) (h := h) (xs := xs) fun d hd => by
    obtain ⟨ρ1, h1, h2⟩ := hs d hd
    exact ⟨ρ1, h1, rfl, fun _ => h2⟩
  rw [this, List.filter_eq_self.mpr fun _ _ => rfl]
theorem pu_lcM [Inhabited W] {γ : Type} {enc : γ → D} {f : D → Rho → Option Rho} {e : ME W} {h : γ → D} {xs : List γ} (hs : ∀ x ∈ xs, bnd (lift (f (enc x) ρ)) e = ret (h x)) : mLcL f mYes e ρ (xs.map enc) = ret (xs.map h) := by
  induction xs with
  | nil => rfl
  | cons x xs ih =>
    have h1 := hs x List.mem_cons_self
    have h2 := ih fun y hy => hs y (List.mem_cons_of_mem _ hy)
    rw [List.map_cons]
    unfold mLcL
    cases hf : f (enc x) ρ with
    | none =>
      rw [hf] at h1
      have := congrFun h1 default
      cases this
    | some ρ1 =>
      rw [hf, lift_some, bnd_ret] at h1
      rw [lift_some, bnd_ret, x_Yes, noX_ret, bnd_ret, if_pos rfl, h1, noX_ret, bnd_ret, h2]
      rfl
inductive All2 (P : α → β → Prop) : List α → List β → Prop
  | nil : All2 P [] []
  | cons {a b as bs} : P a b → All2 P as bs → All2 P (a :: as) (b :: bs)
theorem All2.len {P : α → β → Prop} {as : List α} {bs : List β} (h : All2 P as bs) : bs.length = as.length := by
  induction h with
  | nil => rfl
  | cons _ _ ih => rw [List.length_cons, List.length_cons, ih]
theorem tot_lcY {f : D → Rho → Option Rho} {e : ME W} {P : D → D → Prop} : ∀ {xs : List D}, (∀ d ∈ xs, ∃ ρ1, f d ρ = some ρ1 ∧ Tot (e ρ1) (P d)) → Tot (mLcL f mYes e ρ xs) (All2 P xs)
  | [], _ => .ret .nil
  | x :: xs, hs => by
    obtain ⟨ρ1, h1, h2⟩ := hs x List.mem_cons_self
    have ih := tot_lcY fun d hd => hs d (List.mem_cons_of_mem _ hd)
    unfold mLcL
    rw [h1, lift_some, bnd_ret, x_Yes, noX_ret, bnd_ret, if_pos rfl]
    refine h2.noX.bnd fun z p => ih.bnd fun zs ps => .ret (.cons p ps)
end
end B

namespace K03
open PySem L2 B
abbrev Ev := Int × D
def ev (p : Ev) : D := .tuple [.int p.1, p.2]
def evs (es : List Ev) : D := .list (es.map ev)
def acc (lag : Int) : Int → List Ev → List Ev
  | _, [] => []
  | m, e :: es => if m ≤ e.1 then e :: acc lag (max m (e.1 - lag)) es else acc lag m es
theorem acc_len (lag : Int) : ∀ (m : Int) (es : List Ev), (acc lag m es).length ≤ es.length
  | _, [] => Nat.le_refl _
  | m, e :: es => by
    unfold acc
    split
    · exact Nat.succ_le_succ (acc_len lag _ es)
    · exact Nat.le_succ_of_le (acc_len lag _ es)
theorem mark_behind_eq (m t l : Int) : F_mark_behind [.int m, .int t, .int l] = ret (.int (max m (t - l))) := by
  simp [F_mark_behind, B_mark_behind]
theorem acc_loop (lag : Int) (E : D) : ∀ (es found : List Ev) (m : Int) (x : Option D), found.length + es.length ≤ 1000000 → ∃ m' x', mForL (gN 4) (mIfS (mB (mOp gGe (mOp gIxT (mVar 4) (mC (.int 0))) (mVar 2))) (mSeq (mMut 3 gApp (mCons (mVar 4) mNil))
    (mAsg 2 (mCall F_mark_behind (mCons (mVar 2) (mCons (mOp gIxT (mVar 4) (mC (.int 0))) (mCons (mVar 1) mNil)))))) mNx) (es.map ev) [some E, some (.int lag), some (.int m), some (evs found), x]
    = ret (.nx [some E, some (.int lag), m', some (evs (found ++ acc lag m es)), x'])
  | [], found, m, x, _ => ⟨some (.int m), x, by simp [acc]⟩
  | e :: es, found, m, x, h => by
    rw [List.length_cons] at h
    by_cases hm : m ≤ e.1
    · obtain ⟨m', x', ih⟩ := acc_loop lag E es (found ++ [e]) (max m (e.1 - lag)) (some (ev e)) (by rw [List.length_append]; simp; omega)
      refine ⟨m', x', ?_⟩
      have hl : found.length < 1000000 := by omega
      rw [List.append_assoc] at ih
      simp [ev, hm, mark_behind_eq, evs, hl, acc]
      simpa [ev, evs] using ih
    · obtain ⟨m', x', ih⟩ := acc_loop lag E es found m (some (ev e)) (by omega)
      refine ⟨m', x', ?_⟩
      simp [ev, hm, acc]
      simpa [ev, evs] using ih
theorem accepted_eq (es : List Ev) (lag : Int) (h : es.length ≤ 1000000) : F_accepted [evs es, .int lag] = ret (.tuple [evs (acc lag (-1) es), .int (es.length - (acc lag (-1) es).length)]) := by
  obtain ⟨m', x', e⟩ := acc_loop lag (evs es) es [] (-1) none (by simpa using h)
  simp [F_accepted, B_accepted]
  simp only [evs] at e ⊢
  simp at e ⊢
  rw [e]
  simp
def lagOf : Int → Int → List Ev → Int
  | _, lag, [] => lag
  | most, lag, e :: es => lagOf (max most e.1) (max lag (most - e.1)) es
theorem lag_loop (E : D) : ∀ (es : List Ev) (most lag : Int) (x y : Option D), ∃ m' x' y', mForL (gT 2 (gCons' (gN 3) (gCons' (gN 4) gNil'))) (mSeq (mAsg 2 (mCB gMax2 (mCons (mVar 2) (mCons (mOp gMns (mVar 1) (mVar 3)) mNil))))
    (mAsg 1 (mCB gMax2 (mCons (mVar 1) (mCons (mVar 3) mNil))))) (es.map ev) [some E, some (.int most), some (.int lag), x, y] = (ret (.nx [some E, m', some (.int (lagOf most lag es)), x', y']) : M Dr O)
  | [], most, lag, x, y => ⟨some (.int most), x, y, by simp [lagOf]⟩
  | e :: es, most, lag, x, y => by
    obtain ⟨m', x', y', ih⟩ := lag_loop E es (max most e.1) (max lag (most - e.1)) (some (.int e.1)) (some e.2)
    refine ⟨m', x', y', ?_⟩
    simp [ev, lagOf]
    simpa [ev] using ih
theorem least_lag_eq (es : List Ev) : F_least_lag [evs es] = ret (.int (lagOf 0 0 es)) := by
  obtain ⟨m', x', y', e⟩ := lag_loop (evs es) es 0 0 none none
  simp [F_least_lag, B_least_lag]
  simp only [evs] at e ⊢
  simp at e ⊢
  rw [e]
  simp
theorem maxI_snoc (b : Int) : ∀ (a : Int) (xs : List Int), maxI (a :: (xs ++ [b])) = max (maxI (a :: xs)) b
  | a, [] => rfl
  | a, x :: xs => by
    show max a (maxI (x :: (xs ++ [b]))) = max (max a (maxI (x :: xs))) b
    rw [maxI_snoc b x xs, Int.max_assoc]
def markOf (lag : Int) (found : List Ev) : Int := maxI (-1 :: found.map fun e => e.1 - lag)
theorem law_acc_loop (lag : Int) : ∀ (rest done found : List Ev) (x3 x4 x5 : Option D), found.length ≤ done.length → done.length + rest.length ≤ 999999 → ∃ x3' x4' x5', mForL (gN 3) (mSeq (mAsg 4 (mLc (srcL (mVar 2)) [6] (gN 6) mYes (mOp gIxT (mVar 6) (mC (.int 0)))))
    (mSeq (mAsg 5 (mCB gMaxL (mCons (mOpL gCat (mLst (mCons (mOp gMns (mC (.int 0)) (mC (.int 1))) mNil)) (mLc (srcL (mVar 4)) [7] (gN 7) mYes (mOp gMns (mVar 7) (mVar 1)))) mNil)))
    (mIfS (mB (mOp gGe (mOp gIxT (mOp gIxL (mVar 0) (mVar 3)) (mC (.int 0))) (mVar 5))) (mMut 2 gApp (mCons (mOp gIxL (mVar 0) (mVar 3)) mNil)) mNx))) (intsFrom done.length rest.length) [some (evs (done ++ rest)), some (.int lag), some (evs found), x3, x4, x5, none, none]
    = (ret (.nx [some (evs (done ++ rest)), some (.int lag), some (evs (found ++ acc lag (markOf lag found) rest)), x3', x4', x5', none, none]) : M Dr O)
  | [], done, found, x3, x4, x5, _, _ => ⟨x3, x4, x5, by simp [acc]⟩
  | e :: rest, done, found, x3, x4, x5, hf, hl => by
    rw [List.length_cons] at hl
    have h1 : ∀ r0 r1 r2 r3 r4 r5 : Option D, mLcL (gN 6) mYes (mOp gIxT (mVar 6) (mC (.int 0))) [r0, r1, r2, r3, r4, r5, none, none] (found.map ev) = (ret (found.map fun e => .int e.1) : M Dr _) := fun r0 r1 r2 r3 r4 r5 =>
      pu_lcM (enc := ev) fun x _ => by simp [ev]
    have h2 : ∀ r0 r2 r3 r4 r5 : Option D, mLcL (gN 7) mYes (mOp gMns (mVar 7) (mVar 1)) [r0, some (.int lag), r2, r3, r4, r5, none, none] (found.map fun e => .int e.1) = (ret (found.map fun e => .int (e.1 - lag)) : M Dr _) := fun r0 r2 r3 r4 r5 =>
      pu_lcM (enc := fun e : Ev => .int e.1) fun x _ => by simp
    have h3 : atI ((done ++ e :: rest).map ev) (done.length : Int) = some (ev e) := by
      have := atI_mid (done.map ev) (rest.map ev) (ev e)
      rw [List.length_map] at this
      rw [List.map_append, List.map_cons]
      exact this
    have h4 : gMaxL [.list (.int (-1) :: found.map fun e => .int (e.1 - lag))] = some (.int (markOf lag found)) := by
      have := o_MaxL (-1 :: found.map fun e => e.1 - lag) (List.cons_ne_nil _ _)
      rw [List.map_cons, List.map_map] at this
      exact this
    have hs : markOf lag (found ++ [e]) = max (markOf lag found) (e.1 - lag) := by
      unfold markOf
      rw [List.map_append]
      exact maxI_snoc _ _ _
    have b1 : found.length ≤ 1000000 := by omega
    have b2 : 1 + found.length ≤ 1000000 := by omega
    have b3 : found.length < 1000000 := by omega
    by_cases hm : markOf lag found ≤ e.1
    · obtain ⟨x3', x4', x5', ih⟩ := law_acc_loop lag rest (done ++ [e]) (found ++ [e]) (some (.int done.length)) (some (.list (found.map fun e => .int e.1))) (some (.int (markOf lag found))) (by simp; omega) (by simp; omega)
      refine ⟨x3', x4', x5', ?_⟩
      rw [List.length_cons, intsFrom_cons]
      simp only [evs] at ih ⊢
      simp only [List.map_append, List.map_cons] at h3
      simp [h1, h2, h3, h4, b1, b2, b3, hm, acc] at ih ⊢
      simp [h1, h2, h3, h4, b1, b2, b3, hm, acc, ev] at ih ⊢
      rw [hs] at ih
      exact ih
    · obtain ⟨x3', x4', x5', ih⟩ := law_acc_loop lag rest (done ++ [e]) found (some (.int done.length)) (some (.list (found.map fun e => .int e.1))) (some (.int (markOf lag found))) (by simp; omega) (by simp; omega)
      refine ⟨x3', x4', x5', ?_⟩
      rw [List.length_cons, intsFrom_cons]
      simp only [evs] at ih ⊢
      simp only [List.map_append, List.map_cons] at h3
      simp [h1, h2, h3, h4, b1, b2, b3, hm, acc] at ih ⊢
      simp [h1, h2, h3, h4, b1, b2, b3, hm, acc, ev] at ih ⊢
      exact ih
theorem law_accepted_eq (es : List Ev) (lag : Int) (h : es.length ≤ 999999) : F__law_accepted [evs es, .int lag] = ret (.tuple [evs (acc lag (-1) es), .int (es.length - (acc lag (-1) es).length)]) := by
  obtain ⟨x3, x4, x5, e⟩ := law_acc_loop lag es [] [] none none none (Nat.le_refl _) (by simpa using h)
  have hm : markOf lag [] = -1 := rfl
  simp [F__law_accepted, B__law_accepted]
  simp only [evs] at e ⊢
  simp [rng1_nat (show es.length ≤ 10000000 by omega), hm] at e ⊢
  rw [e]
  simp
theorem lagOf_ge : ∀ (es : List Ev) (most lag : Int), lag ≤ lagOf most lag es
  | [], _, _ => Int.le_refl _
  | e :: es, most, lag => Int.le_trans (Int.le_max_left _ _) (lagOf_ge es _ _)
theorem acc_all (n : Int) : ∀ (es : List Ev) (m most lag : Int), (∀ e ∈ es, 0 ≤ e.1) → m ≤ max (most - n) 0 → lagOf most lag es ≤ n → acc n m es = es
  | [], _, _, _, _, _, _ => rfl
  | e :: es, m, most, lag, h0, hm, hl => by
    have h1 := h0 e List.mem_cons_self
    unfold lagOf at hl
    have h2 := Int.le_trans (lagOf_ge es _ _) hl
    unfold acc
    rw [if_pos (by omega), acc_all n es (max m (e.1 - n)) (max most e.1) (max lag (most - e.1)) (fun e he => h0 e (List.mem_cons_of_mem _ he)) (by omega) hl]
theorem acc_some (n : Int) : ∀ (es : List Ev) (m most lag : Int), (∀ e ∈ es, 0 ≤ e.1) → most - n ≤ max m 0 → lag ≤ n → n < lagOf most lag es → (acc n m es).length < es.length
  | [], _, _, _, _, _, h, hl => absurd hl (by unfold lagOf; omega)
  | e :: es, m, most, lag, h0, hm, h, hl => by
    have h1 := h0 e List.mem_cons_self
    unfold lagOf at hl
    unfold acc
    split
    · exact Nat.succ_lt_succ (acc_some n es _ (max most e.1) (max lag (most - e.1)) (fun e he => h0 e (List.mem_cons_of_mem _ he)) (by omega) (by omega) hl)
    · exact Nat.lt_succ_of_le (acc_len n m es)
def good (es : List Ev) : Prop := es.length ≤ 100 ∧ ∀ e ∈ es, 0 ≤ e.1 ∧ Sh 1 e.2
theorem sh_evs {es : List Ev} (h : ∀ e ∈ es, Sh 1 e.2) : Sh 3 (evs es) := sh_list fun d hd => by
  obtain ⟨e, he, rfl⟩ := List.mem_map.mp hd
  exact sh_tup fun x hx => by
    simp at hx
    rcases hx with rfl | rfl
    · exact (sh_int _).le (by decide)
    · exact h e he
theorem acc_sub (lag : Int) : ∀ (m : Int) (es : List Ev), ∀ e ∈ acc lag m es, e ∈ es
  | _, [], _, h => by unfold acc at h; exact h
  | m, x :: es, e, h => by
    unfold acc at h
    split at h
    · rcases List.mem_cons.mp h with rfl | h
      · exact List.mem_cons_self
      · exact List.mem_cons_of_mem _ (acc_sub lag _ es e h)
    · exact List.mem_cons_of_mem _ (acc_sub lag _ es e h)
def evI (i : Nat) (ρ : Rho) : Prop := ∃ es x5 x6, ρ = [some .none, some (.tuple [.tuple [.str "a", .str "int"]]), some (.int 12), some (.int 30), some (evs es), x5, x6, none, none] ∧ es.length = i ∧ ∀ e ∈ es, 0 ≤ e.1 ∧ Sh 1 e.2
def lawI (i : Nat) (ρ : Rho) : Prop := ∃ x2 x3 x4 x5, ρ = [none, some .none, x2, x3, x4, x5]
def lagI (d : D) (es : List Ev) (lag : Int) (ρ : Rho) : Prop := ∃ n : Int, ρ = [none, some .none, some d, some (evs es), some (.int lag), some (.int n)] ∧ 0 ≤ n ∧ n ≤ lagOf 0 0 es
def lagB (d : D) (es : List Ev) (lag : Int) (ρ : Rho) : Prop := ρ = [none, some .none, some d, some (evs es), some (.int lag), some (.int (lagOf 0 0 es))]
def lagM (es : List Ev) : Rho → Nat | [_, _, _, _, _, some (.int n)] => (lagOf 0 0 es - n).toNat | _ => 0
def no (_ : D) : Prop := False
theorem law_events_tot : Tot (F__law_events [.none, .tuple [.tuple [.str "a", .str "int"]], .int 12, .int 30]) fun d => ∃ es, d = evs es ∧ good es := by
  simp [F__law_events, B__law_events]
  refine (tot_take (by decide) (by decide)).bnd ?_
  rintro _ ⟨n, rfl, h0, h1⟩
  simp [rng1_of (j := n) (by omega) (by omega)]
  refine (tot_for (I := evI) ⟨[], none, none, rfl, rfl, by simp⟩ ?_).bnd ?_
  · rintro i d ρ hi ⟨es, x5, x6, rfl, rfl, hg⟩
    obtain ⟨h2, rfl⟩ := intsFrom_get hi
    have hs : gEq (.str "int") (.str "text") = some (.bool false) := by
      rw [o_EqS (by decide +kernel) (by decide +kernel)]
      rfl
    have hb : es.length < 1000000 := by omega
    simp [hs]
    refine (tot_take (by decide) (by decide)).bnd ?_
    rintro _ ⟨x, rfl, g0, g1⟩
    simp
    refine (tot_take (by decide) (by decide)).bnd ?_
    rintro _ ⟨t, rfl, k0, k1⟩
    simp [evs, hb]
    refine Tot.ret ?_
    refine ⟨es ++ [(t, .tuple [.int (x - 2)])], _, _, by simp [evs, ev]; exact ⟨rfl, rfl⟩, by simp, ?_⟩
    intro e he
    rcases List.mem_append.mp he with he | he
    · exact hg _ he
    · rw [List.mem_singleton] at he
      subst he
      exact ⟨k0, sh_tup fun d hd => by rw [List.mem_singleton] at hd; subst hd; exact sh_int _⟩
  · rintro _ ⟨ρ, rfl, es, x5, x6, rfl, hl, hg⟩
    simp
    refine Tot.ret ⟨es, rfl, ?_, hg⟩
    rw [hl, intsFrom_len]
    omega
theorem law_true : ∀ st : Dr, ∃ st', B_law (drRho 6) st = .ok (.rt (.bool true)) st' := by
  have key : Tot (B_law (drRho 6)) fun o => o = .rt (.bool true) := by
    have hlag0 : F_least_lag [.list []] = ret (.int 0) := least_lag_eq []
    have hacc0 : F_accepted [.list [], .int 5] = ret (.tuple [.list [], .int 0]) := by
      have := accepted_eq [] 5 (Nat.zero_le _)
      simpa [evs, acc] using this
    have heq0 : gEq (.tuple [.list [], .int 0]) (.tuple [.list [], .int 0]) = some (.bool true) := o_EqSame (n := 2) ⟨by decide, by decide⟩
    unfold B_law
    rw [show drRho 6 = [none, some .none, none, none, none, none] from rfl]
    simp [rng1_of (j := 5) (by omega) (by omega)]
    refine (tot_for (I := lawI) ⟨none, none, none, none, rfl⟩ ?_).bnd ?_
    · rintro i d ρ hi ⟨x2, x3, x4, x5, rfl⟩
      simp
      refine law_events_tot.bnd ?_
      rintro _ ⟨es, rfl, hg⟩
      simp
      refine (tot_take (by decide) (by decide)).bnd ?_
      rintro _ ⟨lag, rfl, l0, l1⟩
      have hl : es.length ≤ 999999 := by have := hg.1; omega
      have hsh : ∀ n : Int, Sh 4 (.tuple [evs (acc n (-1) es), .int (es.length - (acc n (-1) es).length)]) := fun n => sh_tup fun x hx => by
        simp at hx
        rcases hx with rfl | rfl
        · exact sh_evs fun e he => (hg.2 e (acc_sub _ _ _ e he)).2
        · exact (sh_int _).le (by decide)
      simp [accepted_eq es lag (by omega), law_accepted_eq es lag hl, o_NeSame (hsh lag)]
      have hL0 : 0 ≤ lagOf 0 0 es := lagOf_ge es 0 0
      have hall : ∀ n, lagOf 0 0 es ≤ n → acc n (-1) es = es := fun n hn => acc_all n es (-1) 0 0 (fun e he => (hg.2 e he).1) (by omega) hn
      have hsome : ∀ n, 0 ≤ n → n < lagOf 0 0 es → (acc n (-1) es).length < es.length := fun n h0 hn => acc_some n es (-1) 0 0 (fun e he => (hg.2 e he).1) (by omega) h0 hn
      refine (tot_while (I := lagI d es lag) (B := lagB d es lag) (R := no) (μ := lagM es) ?_ ⟨0, rfl, Int.le_refl _, hL0⟩).bnd ?_
      · rintro ρ ⟨n, rfl, n0, n1⟩
        simp [law_accepted_eq es n hl]
        by_cases hn : n < lagOf 0 0 es
        · have := hsome n n0 hn
          simp [this]
          refine Tot.ret ⟨⟨n + 1, rfl, by omega, by omega⟩, ?_⟩
          show (lagOf 0 0 es - (n + 1)).toNat < (lagOf 0 0 es - n).toNat
          omega
        · obtain rfl : n = lagOf 0 0 es := by omega
          have hh := hall (lagOf 0 0 es) (Int.le_refl _)
          rw [hh]
          simp
          exact Tot.ret rfl
      · intro o ho
        cases o with
        | nx ρ =>
          obtain rfl : ρ = _ := ho
          simp [least_lag_eq]
          refine (tot_take (by decide) (by decide)).bnd ?_
          rintro _ ⟨k, rfl, k0, k1⟩
          have hq : gNe (.tuple [evs es, .int 0]) (.tuple [evs es, .int 0]) = some (.bool false) := by
            have := hsh (lagOf 0 0 es)
            rw [hall _ (Int.le_refl _), Int.sub_self] at this
            exact o_NeSame this
          simp [accepted_eq es (lagOf 0 0 es + k) (by omega), hall (lagOf 0 0 es + k) (by omega), hq]
          exact Tot.ret ⟨_, _, _, _, rfl⟩
        | _ => exact ho.elim
    · rintro _ ⟨ρ, rfl, x2, x3, x4, x5, rfl⟩
      simp [hlag0, hacc0, heq0]
      exact Tot.ret rfl
  intro st
  obtain ⟨z, st', e, rfl⟩ := key st
  exact ⟨st', e⟩
end K03

open PySem PySem.W PyProof.Rows
set_option maxRecDepth 100000 in
set_option maxHeartbeats 0 in
theorem PySem.Challenge.cw_latewater_k03_feeds_and_marks_holds : PySem.Challenge.rw_latewater_k03_feeds_and_marks.Holds := by
  w_on; o_law; k_head; (case hw => w_witness2)
  k_fill
  refine L2.walk_of (l := PySem.Challenge.rw_latewater_k03_feeds_and_marks) (n := 63) (k := 4) (x := "script") (CX := fun _ => L2.CX0) (sp := fun w => B.spLaw _) rfl (by decide) rfl ⟨rfl, by decide, by decide⟩ (fun w h Y => PySem.W.kIn_of Y) ?F (fun _ _ a ns hl _ hS => ⟨a, ns, rfl, hS, hl, fun _ => rfl⟩) (fun _ _ _ _ _ h => h)
  case F =>
    intro w mg fa h KX G hmg
    refine B.law_end hmg (K03.all_ok ?T K03.law_true)
    case T =>
      refine' K03.top_mk KX G ?a1 ?l1 ?c1 ?k1 ?a2 ?l2 ?c2 ?k2 ?a3 ?l3 ?c3 ?k3 ?a4 ?l4 ?c4 ?k4 ?a5 ?l5 ?c5 ?k5 ?a6 ?l6 ?c6 ?k6 ?a7 ?l7 ?c7 ?k7 ?a8 ?l8 ?c8 ?k8 ?a9 ?l9 ?c9 ?k9 ?z_abs ?z_int ?z_len ?z_list ?z_max ?z_range ?z_tuple ?u_NO_MARK
      (case a1 => k_is)
      (case l1 => k_is)
      (case c1 => k_is)
      (case k1 => k_is)
      (case a2 => k_is)
      (case l2 => k_is)
      (case c2 => k_is)
      (case k2 => k_is)
      (case a3 => k_is)
      (case l3 => k_is)
      (case c3 => k_is)
      (case k3 => k_is)
      (case a4 => k_is)
      (case l4 => k_is)
      (case c4 => k_is)
      (case k4 => k_is)
      (case a5 => k_is)
      (case l5 => k_is)
      (case c5 => k_is)
      (case k5 => k_is)
      (case a6 => k_is)
      (case l6 => k_is)
      (case c6 => k_is)
      (case k6 => k_is)
      (case a7 => k_is)
      (case l7 => k_is)
      (case c7 => k_is)
      (case k7 => k_is)
      (case a8 => k_is)
      (case l8 => k_is)
      (case c8 => k_is)
      (case k8 => k_is)
      (case a9 => k_is)
      (case l9 => k_is)
      (case c9 => k_is)
      (case k9 => k_is)
      (case z_abs => k_is)
      (case z_int => k_is)
      (case z_len => k_is)
      (case z_list => k_is)
      (case z_max => k_is)
      (case z_range => k_is)
      (case z_tuple => k_is)
      (case u_NO_MARK => k_is)

