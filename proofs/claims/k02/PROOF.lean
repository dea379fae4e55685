import PyProof.Rows.All
import Wide.All
import OpenK.AllK
import Wide.FinOn
import HandS.ForMost
import HandS.ForExc
import HandS.Deep
import HandS.TupAny
import HandS.TupMul
import HandS.Text
import KE.KExcSuper
import HandS.ExcField
import HandS.TupSets
import HandS.SortInts
import HandS.Style
import KE.DatumMore
import HandS.Strs
import HandS.IsInst
import HandS.WordsDict
import HandS.DictComp
import PyProof.StrOps2
import HandS.Zip
import HandS.Dict
import HandS.ExcIs
import HandS.Star
import HandS.TryOnly
import KE.GoesEnum
import HandS.Iter
import HandS.Exc
import HandS.ExcCtx
import HandS.SetTxt0
import HandS.SetFor
import HandS.More
import KE.SortData
import HandS.RaiseMore
import HandS.SuiteRaise
import HandS.ExcInit
import HandS.StrMore
import HandS.Codes
import PySem.Challenge.RW_latewater_k02_texts_of_events
set_option Elab.async false
set_option linter.all false
set_option maxRecDepth 100000
set_option maxHeartbeats 4000000
/-! B: readings told of data. A slot holds data (dat: it stands in the still part S and never changes), a list of the def's own (own: nobody else knows it), or a caller's list that is only read (bor). -/
namespace B
open PySem L2

abbrev D := PyData
/-- between two lines; nothing evaluates it -/
def Lines (lo hi j : Int) : Prop := lo < j ∧ j < hi
noncomputable instance (lo hi j : Int) : Decidable (Lines lo hi j) := Classical.propDecidable _
abbrev Rho := List (Option D)

inductive Res (W α : Type) where
  | ok (a : α) (w : W)
  | exc (c : String) (fs : List (Str × D)) (w : W)
  | stuck

abbrev M (W α : Type) := W → Res W α

section
variable {W α β : Type}
def ret (a : α) : M W α := fun w => .ok a w
def stk : M W α := fun _ => .stuck
def bnd (x : M W α) (f : α → M W β) : M W β := fun w => match x w with
  | .ok a w' => f a w'
  | .exc c fs w' => .exc c fs w'
  | .stuck => .stuck
@[simp] theorem bnd_ret (a : α) (f : α → M W β) : bnd (ret a) f = f a := (rfl)
@[simp] theorem bnd_stk (f : α → M W β) : bnd (stk : M W α) f = stk := (rfl)
theorem bnd_ok {x : M W α} {f : α → M W β} {w w' : W} {a : α} (h : x w = .ok a w') : bnd x f w = f a w' := by unfold bnd; rw [h]
theorem bnd_exc {x : M W α} {f : α → M W β} {w w' : W} {c : String} {fs : List (Str × D)} (h : x w = .exc c fs w') : bnd x f w = .exc c fs w' := by unfold bnd; rw [h]
theorem bnd_bnd {γ : Type} (x : M W α) (f : α → M W β) (g : β → M W γ) : bnd (bnd x f) g = bnd x fun a => bnd (f a) g := by
  funext w
  show (match (match x w with | .ok a w' => f a w' | .exc c fs w' => .exc c fs w' | .stuck => .stuck) with | .ok a w' => g a w' | .exc c fs w' => .exc c fs w' | .stuck => .stuck) = (match x w with | .ok a w' => bnd (f a) g w' | .exc c fs w' => .exc c fs w' | .stuck => .stuck)
  cases x w <;> rfl
theorem bnd_stuck {x : M W α} {f : α → M W β} {w : W} (h : x w = .stuck) : bnd x f w = .stuck := by unfold bnd; rw [h]
end

abbrev ME (W : Type) := Rho → M W D

/-- the things that a def shares with its callers and may change (the law's draws) -/
structure Rs (W : Type) where
  root : Addr
  ok : W → Hp → Prop
  fp : W → Addr → Prop
  loc : ∀ w H H', ok w H → (∀ a, fp w a → H' a = H a) → ok w H'
  dom : ∀ w H a, ok w H → fp w a → H a ≠ none

inductive Kd where
  | dat | own | bor | res
  deriving DecidableEq

def keyD : Key → PyData
  | .inl i => .int i
  | .inr x => .str x
mutual
/-- the value v is the datum d, all of it in the still part S (or written) -/
inductive DV (K : PySem.W.Frag) (S : Hp) : V → PyData → Prop
  | non : DV K S .non .none
  | bl (b : Bool) : DV K S (.bl b) (.bool b)
  | int (i : Int) : DV K S (.int i) (.int i)
  | str (x : Str) : DV K S (.str x) (.str x)
  | lst {a : Addr} {xs : List V} {ds : List PyData} : S a = some (.lst xs) → DVs K S xs ds → DV K S (.ref a) (.list ds)
  | tup {a : Addr} {xs : List V} {ds : List PyData} : SqT K S a xs → DVs K S xs ds → DV K S (.ref a) (.tuple ds)
  | dct {a : Addr} {kvs : List (Key × V)} {ps : List (PyData × PyData)} : S a = some (.dK kvs) → DVd K S kvs ps → DV K S (.ref a) (.dict ps)
inductive DVs (K : PySem.W.Frag) (S : Hp) : List V → List PyData → Prop
  | nil : DVs K S [] []
  | cons {v : V} {vs : List V} {d : PyData} {ds : List PyData} : DV K S v d → DVs K S vs ds → DVs K S (v :: vs) (d :: ds)
inductive DVd (K : PySem.W.Frag) (S : Hp) : List (Key × V) → List (PyData × PyData) → Prop
  | nil : DVd K S [] []
  | cons {k : Key} {v : V} {kvs : List (Key × V)} {d : PyData} {ps : List (PyData × PyData)} : DV K S v d → DVd K S kvs ps → DVd K S ((k, v) :: kvs) ((keyD k, d) :: ps)
end

section
variable (K : PySem.W.Frag) {W : Type} (R : Rs W)

/-- what a list of one's own holds -/
def OwnRep (S : Hp) : HO → D → Prop
  | .lst vs, .list ds => DVs K S vs ds
  | .dK kvs, .dict ps => DVd K S kvs ps
  | _, _ => False

/-- what is so since the def was entered (H0, its still part S0, the shared things w0) -/
structure Out (S0 H0 : Hp) (w0 : W) (S H : Hp) (w : W) : Prop where
  sub : ∀ a o, S a = some o → H a = some o
  sub0 : ∀ a o, S0 a = some o → S a = some o
  new : ∀ a, S a ≠ none → S0 a = none → H0 a = none
  keep : ∀ a o, H0 a = some o → ¬ R.fp w0 a → H a = some o
  stay : ∀ a, H0 a ≠ none → H a ≠ none
  res : R.ok w H
  resS : ∀ a, R.fp w a → S a = none
  resN : ∀ a, R.fp w a → ¬ R.fp w0 a → H0 a = none

def kd (κ : List Kd) (i : Nat) : Kd := κ.getD i .dat

/-- a slot's value -/
def SlotOk (S0 H0 : Hp) (w0 : W) (S H : Hp) (w : W) (p : Addr) : Kd → V → D → Prop
  | .dat, v, d => DV K S v d
  | .own, v, d => v = .ref p ∧ S p = none ∧ H0 p = none ∧ ¬ R.fp w p ∧ ∃ ho, H p = some ho ∧ OwnRep K S ho d
  | .bor, v, d => ∃ q ho, v = .ref q ∧ H0 q = some ho ∧ ¬ R.fp w0 q ∧ OwnRep K S ho d
  | .res, v, d => v = .ref R.root ∧ d = .none

structure RelA (κ : List Kd) (oa : Nat → Addr) (S0 H0 : Hp) (w0 : W) (S H : Hp) (σ : St) (ρ : Rho) (w : W) : Prop where
  out : Out R S0 H0 w0 S H w
  len : ρ.length = σ.length
  slot : ∀ i d, ρ[i]? = some (some d) → ∃ v, σ[i]? = some (some v) ∧ SlotOk K R S0 H0 w0 S H w (oa i) (kd κ i) v d
  inj : ∀ i j d e, ρ[i]? = some (some d) → ρ[j]? = some (some e) → kd κ i = .own → kd κ j = .own → oa i = oa j → i = j

def Rel (κ : List Kd) (S0 H0 : Hp) (w0 : W) (S H : Hp) (σ : St) (ρ : Rho) (w : W) : Prop := ∃ oa, RelA K R κ oa S0 H0 w0 S H σ ρ w

/-- what an expression hands on -/
def ResOk (κ : List Kd) (S0 H0 : Hp) (w0 : W) (S H : Hp) (σ : St) (ρ : Rho) (w : W) : Kd → V → D → Prop
  | .dat, v, d => DV K S v d
  | .own, v, d => ∃ p ho, v = .ref p ∧ S p = none ∧ H0 p = none ∧ ¬ R.fp w p ∧ H p = some ho ∧ OwnRep K S ho d ∧ ∀ i e, ρ[i]? = some (some e) → kd κ i = .own → σ[i]? ≠ some (some (.ref p))
  | .bor, v, d => ∃ i, ρ[i]? = some (some d) ∧ σ[i]? = some (some v) ∧ (kd κ i = .own ∨ kd κ i = .bor)
  | .res, v, d => v = .ref R.root ∧ d = .none

structure Cl where
  wx : WX
  cn : String → Value → Prop

/-- an exception as the handler meets it -/
def FlatV : V → D → Prop
  | .int i, .int j => i = j
  | .str x, .str y => x = y
  | _, _ => False
/-- its dict holds flat data, field by field -/
def FlatF : List (Str × V) → List (Str × D) → Prop
  | [], [] => True
  | (f, v) :: vs, (g, d) :: ds => f = g ∧ FlatV v d ∧ FlatF vs ds
  | _, _ => False
def XOk (S H : Hp) (w : W) (dd : Addr) (fs : List (Str × D)) : Prop := ∃ vs : List (Str × V), H dd = some (.xd vs) ∧ S dd = none ∧ ¬ R.fp w dd ∧ FlatF vs fs

variable (C : Cl)

def PostE (κ : List Kd) (S0 H0 : Hp) (w0 : W) (S : Hp) (σ : St) (ρ : Rho) (rk : Kd) (Q : VK) : Res W D → Prop
  | .ok d w' => ∀ v S' H', Rel K R κ S0 H0 w0 S' H' σ ρ w' → (∀ a o, S a = some o → S' a = some o) → ResOk K R κ S0 H0 w0 S' H' σ ρ w' rk v d → Q v H'
  | .exc c fs w' => ∀ cls dd S' H', Rel K R κ S0 H0 w0 S' H' σ ρ w' → C.cn c cls → XOk R S' H' w' dd fs → C.wx cls (some dd) σ H'
  | .stuck => False

def OkE (κ : List Kd) (t : TE) (rk : Kd) (m : ME W) : Prop :=
  ∀ S0 H0 w0 S H σ ρ w Q, Rel K R κ S0 H0 w0 S H σ ρ w → PostE K R C κ S0 H0 w0 S σ ρ rk Q (m ρ w) → t σ H Q

def PostT (κ : List Kd) (S0 H0 : Hp) (w0 : W) (S : Hp) (σ : St) (ρ : Rho) (Q : Bool → Hp → Prop) : Res W Bool → Prop
  | .ok b w' => ∀ S' H', Rel K R κ S0 H0 w0 S' H' σ ρ w' → (∀ a o, S a = some o → S' a = some o) → Q b H'
  | .exc c fs w' => ∀ cls dd S' H', Rel K R κ S0 H0 w0 S' H' σ ρ w' → C.cn c cls → XOk R S' H' w' dd fs → C.wx cls (some dd) σ H'
  | .stuck => False
def OkT (κ : List Kd) (t : TT) (m : Rho → M W Bool) : Prop :=
  ∀ S0 H0 w0 S H σ ρ w Q, Rel K R κ S0 H0 w0 S H σ ρ w → PostT K R C κ S0 H0 w0 S σ ρ Q (m ρ w) → t σ H Q

/-- arguments: each with its kind -/
inductive ResAll (κ : List Kd) (S0 H0 : Hp) (w0 : W) (S H : Hp) (σ : St) (ρ : Rho) (w : W) : List Kd → List V → List D → Prop
  | nil : ResAll κ S0 H0 w0 S H σ ρ w [] [] []
  | cons {k ks v vs d ds} : ResOk K R κ S0 H0 w0 S H σ ρ w k v d → ResAll κ S0 H0 w0 S H σ ρ w ks vs ds → ResAll κ S0 H0 w0 S H σ ρ w (k :: ks) (v :: vs) (d :: ds)
def PostA (κ : List Kd) (S0 H0 : Hp) (w0 : W) (S : Hp) (σ : St) (ρ : Rho) (ks : List Kd) (Q : List V → Hp → Prop) : Res W (List D) → Prop
  | .ok ds w' => ∀ vs S' H', Rel K R κ S0 H0 w0 S' H' σ ρ w' → (∀ a o, S a = some o → S' a = some o) → ResAll K R κ S0 H0 w0 S' H' σ ρ w' ks vs ds → Q vs H'
  | .exc c fs w' => ∀ cls dd S' H', Rel K R κ S0 H0 w0 S' H' σ ρ w' → C.cn c cls → XOk R S' H' w' dd fs → C.wx cls (some dd) σ H'
  | .stuck => False
def OkA (κ : List Kd) (t : TA) (ks : List Kd) (m : Rho → M W (List D)) : Prop :=
  ∀ S0 H0 w0 S H σ ρ w Q, Rel K R κ S0 H0 w0 S H σ ρ w → PostA K R C κ S0 H0 w0 S σ ρ ks Q (m ρ w) → t σ H Q

/-- statements -/
inductive O where
  | nx (ρ : Rho) | rt (d : D) | bk (ρ : Rho) | ct (ρ : Rho)
abbrev MS (W : Type) := Rho → M W O

def RetOk (H0 S H : Hp) (w : W) : Kd → V → D → Prop
  | .dat, v, d => DV K S v d
  | .own, v, d => ∃ p ho, v = .ref p ∧ S p = none ∧ H0 p = none ∧ ¬ R.fp w p ∧ H p = some ho ∧ OwnRep K S ho d
  | .bor, _, _ => False
  | .res, _, _ => False

def PostS (κn κb κc : List Kd) (rk : Kd) (S0 H0 : Hp) (w0 : W) (S : Hp) (E : Ends) : Res W O → Prop
  | .ok (.nx ρ') w' => ∀ σ' S' H', Rel K R κn S0 H0 w0 S' H' σ' ρ' w' → (∀ a o, S a = some o → S' a = some o) → E.nx σ' H'
  | .ok (.rt d) w' => ∀ v S' H', Out R S0 H0 w0 S' H' w' → RetOk K R H0 S' H' w' rk v d → E.rt v H'
  | .ok (.bk ρ') w' => ∀ σ' S' H', Rel K R κb S0 H0 w0 S' H' σ' ρ' w' → (∀ a o, S a = some o → S' a = some o) → E.bk σ' H'
  | .ok (.ct ρ') w' => ∀ σ' S' H', Rel K R κc S0 H0 w0 S' H' σ' ρ' w' → (∀ a o, S a = some o → S' a = some o) → E.ct σ' H'
  | .exc c fs w' => ∀ cls dd σ' S' H', Out R S0 H0 w0 S' H' w' → C.cn c cls → XOk R S' H' w' dd fs → C.wx cls (some dd) σ' H'
  | .stuck => False
def OkS (κb κc : List Kd) (rk : Kd) (κ : List Kd) (t : TS) (m : MS W) (κn : List Kd) : Prop :=
  ∀ S0 H0 w0 S H σ ρ w E, Rel K R κ S0 H0 w0 S H σ ρ w → PostS K R C κn κb κc rk S0 H0 w0 S E (m ρ w) → t E σ H
end
end B

namespace B
open PySem L2

section
variable {K : PySem.W.Frag} {W : Type} {R : Rs W}

mutual
theorem dp_mono {S S' : Hp} (e : ∀ a o, S a = some o → S' a = some o) : ∀ (d : PyData) (v : V), DV K S v d → DV K S' v d
  | .none, _, h => by cases h; exact .non
  | .bool b, _, h => by cases h; exact .bl b
  | .int i, _, h => by cases h; exact .int i
  | .str x, _, h => by cases h; exact .str x
  | .list ds, _, h => by
    cases h with
    | lst hs ha => exact .lst (e _ _ hs) (dpAll_mono e ds _ ha)
  | .tuple ds, _, h => by
    cases h with
    | tup hs ha =>
      refine .tup ?_ (dpAll_mono e ds _ ha)
      rcases hs with (h | ⟨o, h⟩) | h
      · exact .inl (.inl (e _ _ h))
      · exact .inl (.inr ⟨o, e _ _ h⟩)
      · exact .inr h
  | .dict ps, _, h => by
    cases h with
    | dct hs ha => exact .dct (e _ _ hs) (dpD_mono e ps _ ha)
theorem dpAll_mono {S S' : Hp} (e : ∀ a o, S a = some o → S' a = some o) : ∀ (ds : List PyData) (vs : List V), DVs K S vs ds → DVs K S' vs ds
  | [], _, h => by cases h; exact .nil
  | d :: ds, _, h => by
    cases h with
    | cons h1 h2 => exact .cons (dp_mono e d _ h1) (dpAll_mono e ds _ h2)
theorem dpD_mono {S S' : Hp} (e : ∀ a o, S a = some o → S' a = some o) : ∀ (ps : List (PyData × PyData)) (kvs : List (Key × V)), DVd K S kvs ps → DVd K S' kvs ps
  | [], _, h => by cases h; exact .nil
  | (_, d) :: ps, _, h => by
    cases h with
    | cons h1 h2 => exact .cons (dp_mono e d _ h1) (dpD_mono e ps _ h2)
end

theorem own_mono {S S' : Hp} (e : ∀ a o, S a = some o → S' a = some o) {ho : HO} {d : D} (h : OwnRep K S ho d) : OwnRep K S' ho d := by
  cases ho with
  | lst vs =>
    cases d with
    | list ds => exact dpAll_mono e _ _ h
    | _ => exact h.elim
  | dK kvs =>
    cases d with
    | dict ps => exact dpD_mono e _ _ h
    | _ => exact h.elim
  | _ => exact h.elim
/-- an own thing that stands still is data -/
theorem own_data {S S' : Hp} (e : ∀ a o, S a = some o → S' a = some o) {p : Addr} {ho : HO} {d : D} (hp : S' p = some ho) (h : OwnRep K S ho d) : DV K S' (.ref p) d := by
  cases ho with
  | lst vs =>
    cases d with
    | list ds => exact .lst hp (dpAll_mono e _ _ h)
    | _ => exact h.elim
  | dK kvs =>
    cases d with
    | dict ps => exact .dct hp (dpD_mono e _ _ h)
    | _ => exact h.elim
  | _ => exact h.elim

variable {κ : List Kd} {S0 H0 S H S' H' : Hp} {w0 w w' : W} {σ : L2.St} {ρ : Rho} {oa : Nat → Addr} {p : Addr} {ho ho' : HO}

theorem ne_p (h : H p = none) {a : Addr} {o : HO} (q : H a = some o) : a ≠ p := fun e => by rw [e, h] at q; cases q

/-- a new object, still from now on -/
theorem Out.alloc (o : Out R S0 H0 w0 S H w) (hp : H p = none) : Out R S0 H0 w0 (upd S p ho) (upd H p ho) w where
  sub := fun a u h => by
    by_cases e : a = p
    · subst e; rw [upd_same] at h ⊢; exact h
    · rw [upd_ne e] at h ⊢; exact o.sub a u h
  sub0 := fun a u h => by
    have := o.sub a u (o.sub0 a u h)
    rw [upd_ne (ne_p hp this)]; exact o.sub0 a u h
  new := fun a h h0 => by
    by_cases e : a = p
    · subst e
      cases q : H0 a with
      | none => rfl
      | some u => exact absurd hp (o.stay a (by rw [q]; exact Option.some_ne_none _))
    · rw [upd_ne e] at h; exact o.new a h h0
  keep := fun a u h hf => by
    have := o.keep a u h hf
    rw [upd_ne (ne_p hp this)]; exact this
  stay := fun a h => by
    by_cases e : a = p
    · subst e; rw [upd_same]; exact Option.some_ne_none _
    · rw [upd_ne e]; exact o.stay a h
  res := R.loc w H _ o.res fun a ha => upd_ne fun e => R.dom w H a o.res ha (by rw [e]; exact hp)
  resS := fun a ha => by
    rw [upd_ne fun e => R.dom w H a o.res ha (by rw [e]; exact hp)]; exact o.resS a ha
  resN := o.resN

/-- a new object that may change -/
theorem Out.allocOwn (o : Out R S0 H0 w0 S H w) (hp : H p = none) : Out R S0 H0 w0 S (upd H p ho) w where
  sub := fun a u h => by
    have := o.sub a u h
    rw [upd_ne (ne_p hp this)]; exact this
  sub0 := o.sub0
  new := o.new
  keep := fun a u h hf => by
    have := o.keep a u h hf
    rw [upd_ne (ne_p hp this)]; exact this
  stay := fun a h => by
    by_cases e : a = p
    · subst e; rw [upd_same]; exact Option.some_ne_none _
    · rw [upd_ne e]; exact o.stay a h
  res := R.loc w H _ o.res fun a ha => upd_ne fun e => R.dom w H a o.res ha (by rw [e]; exact hp)
  resS := o.resS
  resN := o.resN

/-- an own object changes -/
theorem Out.write (o : Out R S0 H0 w0 S H w) (hs : S p = none) (h0 : H0 p = none) (hf : ¬ R.fp w p) : Out R S0 H0 w0 S (upd H p ho) w where
  sub := fun a u h => by
    rw [upd_ne fun e => by rw [e, hs] at h; cases h]; exact o.sub a u h
  sub0 := o.sub0
  new := o.new
  keep := fun a u h hf => by
    rw [upd_ne fun e => by rw [e, h0] at h; cases h]; exact o.keep a u h hf
  stay := fun a h => by
    by_cases e : a = p
    · subst e; rw [upd_same]; exact Option.some_ne_none _
    · rw [upd_ne e]; exact o.stay a h
  res := R.loc w H _ o.res fun a ha => upd_ne fun e => hf (by rw [← e]; exact ha)
  resS := o.resS
  resN := o.resN

/-- an own object is still from now on -/
theorem Out.freeze (o : Out R S0 H0 w0 S H w) (hs : S p = none) (h0 : H0 p = none) (hf : ¬ R.fp w p) (hp : H p = some ho) : Out R S0 H0 w0 (upd S p ho) H w where
  sub := fun a u h => by
    by_cases e : a = p
    · subst e; rw [upd_same] at h; rw [hp]; exact h
    · rw [upd_ne e] at h; exact o.sub a u h
  sub0 := fun a u h => by
    have := o.sub0 a u h
    rw [upd_ne (ne_p hs this)]; exact this
  new := fun a h h0' => by
    by_cases e : a = p
    · subst e; exact h0
    · rw [upd_ne e] at h; exact o.new a h h0'
  keep := o.keep
  stay := o.stay
  res := o.res
  resS := fun a ha => by
    rw [upd_ne fun e => hf (by rw [← e]; exact ha)]; exact o.resS a ha
  resN := o.resN

theorem le_upd (hp : S p = none) : ∀ a o, S a = some o → upd S p ho a = some o := fun a o h => by rw [upd_ne (ne_p hp h)]; exact h

theorem Out.s_none (o : Out R S0 H0 w0 S H w) (hp : H p = none) : S p = none := by
  cases q : S p with
  | none => rfl
  | some u => rw [o.sub p u q] at hp; cases hp
theorem Out.h0_none (o : Out R S0 H0 w0 S H w) (hp : H p = none) : H0 p = none := by
  cases q : H0 p with
  | none => rfl
  | some u => exact absurd hp (o.stay p (by rw [q]; exact Option.some_ne_none _))
theorem Out.nofp (o : Out R S0 H0 w0 S H w) (hp : H p = none) : ¬ R.fp w p := fun e => R.dom w H p o.res e hp

theorem slot_alloc {k : Kd} {v : V} {d : D} {q : Addr} (o : Out R S0 H0 w0 S H w) (hp : H p = none) (h : SlotOk K R S0 H0 w0 S H w q k v d) : SlotOk K R S0 H0 w0 (upd S p ho) (upd H p ho) w q k v d := by
  have e := le_upd (ho := ho) (o.s_none hp)
  cases k with
  | dat => exact dp_mono e _ _ h
  | own =>
    obtain ⟨h1, h2, h3, h4, u, h5, h6⟩ := h
    have hq : q ≠ p := ne_p hp h5
    exact ⟨h1, by rw [upd_ne hq]; exact h2, h3, h4, u, by rw [upd_ne hq]; exact h5, own_mono e h6⟩
  | bor =>
    obtain ⟨r, u, h1, h2, h3, h4⟩ := h
    exact ⟨r, u, h1, h2, h3, own_mono e h4⟩
  | res => exact h
theorem slot_allocOwn {k : Kd} {v : V} {d : D} {q : Addr} (hp : H p = none) (h : SlotOk K R S0 H0 w0 S H w q k v d) : SlotOk K R S0 H0 w0 S (upd H p ho) w q k v d := by
  cases k with
  | dat => exact h
  | own =>
    obtain ⟨h1, h2, h3, h4, u, h5, h6⟩ := h
    exact ⟨h1, h2, h3, h4, u, by rw [upd_ne (ne_p hp h5)]; exact h5, h6⟩
  | bor => exact h
  | res => exact h
theorem slot_write {k : Kd} {v : V} {d : D} {q : Addr} (hq : k = .own → q ≠ p) (h : SlotOk K R S0 H0 w0 S H w q k v d) : SlotOk K R S0 H0 w0 S (upd H p ho) w q k v d := by
  cases k with
  | dat => exact h
  | own =>
    obtain ⟨h1, h2, h3, h4, u, h5, h6⟩ := h
    exact ⟨h1, h2, h3, h4, u, by rw [upd_ne (hq rfl)]; exact h5, h6⟩
  | bor => exact h
  | res => exact h
theorem slot_freeze {k : Kd} {v : V} {d : D} {q : Addr} (hs : S p = none) (hq : k = .own → q ≠ p) (h : SlotOk K R S0 H0 w0 S H w q k v d) : SlotOk K R S0 H0 w0 (upd S p ho) H w q k v d := by
  have e := le_upd (ho := ho) hs
  cases k with
  | dat => exact dp_mono e _ _ h
  | own =>
    obtain ⟨h1, h2, h3, h4, u, h5, h6⟩ := h
    exact ⟨h1, by rw [upd_ne (hq rfl)]; exact h2, h3, h4, u, h5, own_mono e h6⟩
  | bor =>
    obtain ⟨r, u, h1, h2, h3, h4⟩ := h
    exact ⟨r, u, h1, h2, h3, own_mono e h4⟩
  | res => exact h

theorem Rel.alloc (r : Rel K R κ S0 H0 w0 S H σ ρ w) (hp : H p = none) : Rel K R κ S0 H0 w0 (upd S p ho) (upd H p ho) σ ρ w := by
  obtain ⟨oa, r⟩ := r
  exact ⟨oa, r.out.alloc hp, r.len, fun i d h => let ⟨v, h1, h2⟩ := r.slot i d h; ⟨v, h1, slot_alloc r.out hp h2⟩, r.inj⟩
theorem Rel.allocOwn (r : Rel K R κ S0 H0 w0 S H σ ρ w) (hp : H p = none) : Rel K R κ S0 H0 w0 S (upd H p ho) σ ρ w := by
  obtain ⟨oa, r⟩ := r
  exact ⟨oa, r.out.allocOwn hp, r.len, fun i d h => let ⟨v, h1, h2⟩ := r.slot i d h; ⟨v, h1, slot_allocOwn hp h2⟩, r.inj⟩
theorem Rel.out (r : Rel K R κ S0 H0 w0 S H σ ρ w) : Out R S0 H0 w0 S H w := let ⟨_, r⟩ := r; r.out
theorem Rel.len (r : Rel K R κ S0 H0 w0 S H σ ρ w) : ρ.length = σ.length := let ⟨_, r⟩ := r; r.len

/-- a result of an own kind, as data -/
theorem ResOk.freeze {v : V} {d : D} (r : Rel K R κ S0 H0 w0 S H σ ρ w) (h : ResOk K R κ S0 H0 w0 S H σ ρ w .own v d) :
    ∃ S', Rel K R κ S0 H0 w0 S' H σ ρ w ∧ (∀ a o, S a = some o → S' a = some o) ∧ DV K S' v d := by
  obtain ⟨oa, r⟩ := r
  obtain ⟨p, ho, rfl, hs, h0, hf, hh, hr, hn⟩ := h
  refine ⟨upd S p ho, ⟨oa, r.out.freeze hs h0 hf hh, r.len, fun i e h => ?_, r.inj⟩, le_upd hs, ?_⟩
  · obtain ⟨v, h1, h2⟩ := r.slot i e h
    refine ⟨v, h1, slot_freeze hs (fun hk ea => ?_) h2⟩
    rw [hk] at h2
    obtain ⟨hv, _⟩ := h2
    rw [hv, ea] at h1
    exact hn i e h hk h1
  · exact own_data (le_upd (ho := ho) hs) upd_same hr

theorem ResOk.mono {rk : Kd} {v : V} {d : D} (hk : rk ≠ .own) (e : ∀ a o, S a = some o → S' a = some o) (h : ResOk K R κ S0 H0 w0 S H σ ρ w rk v d) : ResOk K R κ S0 H0 w0 S' H' σ ρ w' rk v d := by
  cases rk with
  | dat => exact dp_mono e _ _ h
  | own => exact absurd rfl hk
  | bor => exact h
  | res => exact h

theorem kd_set_same {i : Nat} {k : Kd} (hi : i < κ.length) : kd (κ.set i k) i = k := by
  unfold kd
  rw [List.getD_eq_getElem?_getD, List.getElem?_set_self hi]
  rfl
theorem kd_set_ne {i j : Nat} {k : Kd} (h : i ≠ j) : kd (κ.set i k) j = kd κ j := by
  unfold kd
  rw [List.getD_eq_getElem?_getD, List.getElem?_set_ne h, ← List.getD_eq_getElem?_getD]

/-- a slot gets data -/
theorem Rel.setDat {i : Nat} {v : V} {d : D} (r : Rel K R κ S0 H0 w0 S H σ ρ w) (hi : i < κ.length) (h : DV K S v d) : Rel K R (κ.set i .dat) S0 H0 w0 S H (σ.set i (some v)) (ρ.set i (some d)) w := by
  obtain ⟨oa, r⟩ := r
  refine ⟨oa, r.out, by rw [List.length_set, List.length_set]; exact r.len, fun j e hj => ?_, fun j l e f hj hl kj kl => ?_⟩
  · by_cases hij : i = j
    · subst hij
      have hlt : i < ρ.length := by
        by_cases q : i < ρ.length
        · exact q
        · rw [List.getElem?_eq_none (by rw [List.length_set]; omega)] at hj; cases hj
      rw [List.getElem?_set_self hlt] at hj
      cases hj
      refine ⟨v, List.getElem?_set_self (by rw [← r.len]; exact hlt), ?_⟩
      rw [kd_set_same hi]
      exact h
    · rw [List.getElem?_set_ne hij] at hj
      rw [List.getElem?_set_ne hij, kd_set_ne hij]
      exact r.slot j e hj
  · have own_ne : ∀ {m : Nat}, kd (κ.set i .dat) m = .own → i ≠ m := fun q e => by rw [← e, kd_set_same hi] at q; cases q
    have a1 := own_ne kj
    have a2 := own_ne kl
    rw [List.getElem?_set_ne a1] at hj
    rw [List.getElem?_set_ne a2] at hl
    rw [kd_set_ne a1] at kj
    rw [kd_set_ne a2] at kl
    exact r.inj j l e f hj hl kj kl
/-- a slot gets a list of its own -/
theorem Rel.setOwn {i : Nat} {v : V} {d : D} (r : Rel K R κ S0 H0 w0 S H σ ρ w) (hi : i < κ.length) (h : ResOk K R κ S0 H0 w0 S H σ ρ w .own v d) : Rel K R (κ.set i .own) S0 H0 w0 S H (σ.set i (some v)) (ρ.set i (some d)) w := by
  obtain ⟨oa, r⟩ := r
  obtain ⟨p, ho, rfl, hs, h0, hf, hh, hr, hn⟩ := h
  have ha : ∀ j e, ρ[j]? = some (some e) → kd κ j = .own → oa j ≠ p := fun j e hj hk q => by
    obtain ⟨v, h1, h2⟩ := r.slot j e hj
    rw [hk] at h2
    obtain ⟨hv, _⟩ := h2
    rw [hv, q] at h1
    exact hn j e hj hk h1
  refine ⟨fun j => if j = i then p else oa j, r.out, by rw [List.length_set, List.length_set]; exact r.len, fun j e hj => ?_, fun j l e f hj hl kj kl hjl => ?_⟩
  · by_cases hij : i = j
    · subst hij
      have hlt : i < ρ.length := by
        by_cases q : i < ρ.length
        · exact q
        · rw [List.getElem?_eq_none (by rw [List.length_set]; omega)] at hj; cases hj
      rw [List.getElem?_set_self hlt] at hj
      cases hj
      refine ⟨.ref p, List.getElem?_set_self (by rw [← r.len]; exact hlt), ?_⟩
      rw [kd_set_same hi, if_pos rfl]
      exact ⟨rfl, hs, h0, hf, ho, hh, hr⟩
    · rw [List.getElem?_set_ne hij] at hj
      rw [List.getElem?_set_ne hij, kd_set_ne hij, if_neg (fun e => hij e.symm)]
      exact r.slot j e hj
  · by_cases ej : i = j
    · by_cases el : i = l
      · exact ej.symm.trans el
      · rw [List.getElem?_set_ne el] at hl
        rw [kd_set_ne el] at kl
        rw [if_pos ej.symm, if_neg (fun e => el e.symm)] at hjl
        exact absurd hjl.symm (ha l f hl kl)
    · rw [List.getElem?_set_ne ej] at hj
      rw [kd_set_ne ej] at kj
      rw [if_neg (fun e => ej e.symm)] at hjl
      by_cases el : i = l
      · rw [if_pos el.symm] at hjl
        exact absurd hjl (ha j e hj kj)
      · rw [List.getElem?_set_ne el] at hl
        rw [kd_set_ne el] at kl
        rw [if_neg (fun e => el e.symm)] at hjl
        exact r.inj j l e f hj hl kj kl hjl
/-- a slot is forgotten -/
theorem Rel.drop {i : Nat} (r : Rel K R κ S0 H0 w0 S H σ ρ w) : Rel K R κ S0 H0 w0 S H σ (ρ.set i none) w := by
  obtain ⟨oa, r⟩ := r
  have old : ∀ {j e}, (ρ.set i none)[j]? = some (some e) → ρ[j]? = some (some e) := fun {j e} hj => by
    by_cases hij : i = j
    · subst hij
      by_cases q : i < ρ.length
      · rw [List.getElem?_set_self q] at hj; cases hj
      · rw [List.getElem?_eq_none (by rw [List.length_set]; omega)] at hj; cases hj
    · rw [List.getElem?_set_ne hij] at hj; exact hj
  exact ⟨oa, r.out, by rw [List.length_set]; exact r.len, fun j e hj => r.slot j e (old hj), fun j l e f hj hl kj kl => r.inj j l e f (old hj) (old hl) kj kl⟩
/-- an own slot is still from now on -/
theorem Rel.freeze {i : Nat} (r : Rel K R κ S0 H0 w0 S H σ ρ w) (hk : kd κ i = .own) (hi : i < κ.length) : ∃ S', Rel K R (κ.set i .dat) S0 H0 w0 S' H σ ρ w ∧ ∀ a o, S a = some o → S' a = some o := by
  obtain ⟨oa, r⟩ := r
  cases hρ : ρ[i]? with
  | none =>
    refine ⟨S, ⟨oa, r.out, r.len, fun j e hj => ?_, fun j l e f hj hl kj kl => ?_⟩, fun _ _ h => h⟩
    · have : i ≠ j := fun q => by rw [← q, hρ] at hj; cases hj
      rw [kd_set_ne this]; exact r.slot j e hj
    · have a1 : i ≠ j := fun q => by rw [← q, hρ] at hj; cases hj
      have a2 : i ≠ l := fun q => by rw [← q, hρ] at hl; cases hl
      rw [kd_set_ne a1] at kj
      rw [kd_set_ne a2] at kl
      exact r.inj j l e f hj hl kj kl
  | some x =>
    cases x with
    | none =>
      refine ⟨S, ⟨oa, r.out, r.len, fun j e hj => ?_, fun j l e f hj hl kj kl => ?_⟩, fun _ _ h => h⟩
      · have : i ≠ j := fun q => by rw [← q, hρ] at hj; cases hj
        rw [kd_set_ne this]; exact r.slot j e hj
      · have a1 : i ≠ j := fun q => by rw [← q, hρ] at hj; cases hj
        have a2 : i ≠ l := fun q => by rw [← q, hρ] at hl; cases hl
        rw [kd_set_ne a1] at kj
        rw [kd_set_ne a2] at kl
        exact r.inj j l e f hj hl kj kl
    | some d =>
      obtain ⟨v, h1, h2⟩ := r.slot i d hρ
      rw [hk] at h2
      obtain ⟨hv, hs, h0, hf, ho, hh, hr⟩ := h2
      have e := le_upd (ho := ho) hs
      refine ⟨upd S (oa i) ho, ⟨oa, r.out.freeze hs h0 hf hh, r.len, fun j e' hj => ?_, fun j l e f hj hl kj kl => ?_⟩, e⟩
      · by_cases hij : i = j
        · subst hij
          rw [hρ] at hj
          cases hj
          refine ⟨v, h1, ?_⟩
          rw [kd_set_same hi, hv]
          exact own_data e upd_same hr
        · obtain ⟨u, g1, g2⟩ := r.slot j e' hj
          rw [kd_set_ne hij]
          exact ⟨u, g1, slot_freeze hs (fun kj q => hij (r.inj i j d e' hρ hj hk kj q.symm)) g2⟩
      · have own_ne : ∀ {m : Nat}, kd (κ.set i .dat) m = .own → i ≠ m := fun q e => by rw [← e, kd_set_same hi] at q; cases q
        have a1 := own_ne kj
        have a2 := own_ne kl
        rw [kd_set_ne a1] at kj
        rw [kd_set_ne a2] at kl
        exact r.inj j l e f hj hl kj kl
/-- an own slot's list changes -/
theorem Rel.write {i : Nat} {d d' : D} (r : Rel K R κ S0 H0 w0 S H σ ρ w) (hk : kd κ i = .own) (hρ : ρ[i]? = some (some d)) :
    ∃ p ho, σ[i]? = some (some (.ref p)) ∧ H p = some ho ∧ OwnRep K S ho d ∧ ∀ ho', OwnRep K S ho' d' → Rel K R κ S0 H0 w0 S (upd H p ho') σ (ρ.set i (some d')) w := by
  obtain ⟨oa, r⟩ := r
  obtain ⟨v, h1, h2⟩ := r.slot i d hρ
  rw [hk] at h2
  obtain ⟨hv, hs, h0, hf, ho, hh, hr⟩ := h2
  rw [hv] at h1
  have hlt : i < ρ.length := (List.getElem?_eq_some_iff.mp hρ).1
  have back : ∀ {j e}, (ρ.set i (some d'))[j]? = some (some e) → ∃ e', ρ[j]? = some (some e') := fun {j e} hj => by
    by_cases hij : i = j
    · subst hij; exact ⟨d, hρ⟩
    · rw [List.getElem?_set_ne hij] at hj; exact ⟨e, hj⟩
  refine ⟨oa i, ho, h1, hh, hr, fun ho' hr' => ⟨oa, r.out.write hs h0 hf, by rw [List.length_set]; exact r.len, fun j e hj => ?_, fun j l e f hj hl kj kl q => ?_⟩⟩
  · by_cases hij : i = j
    · subst hij
      rw [List.getElem?_set_self hlt] at hj
      cases hj
      refine ⟨_, h1, ?_⟩
      rw [hk]
      exact ⟨rfl, hs, h0, hf, ho', upd_same, hr'⟩
    · rw [List.getElem?_set_ne hij] at hj
      obtain ⟨u, g1, g2⟩ := r.slot j e hj
      exact ⟨u, g1, slot_write (fun kj q => hij (r.inj i j d e hρ hj hk kj q.symm)) g2⟩
  · obtain ⟨e', hj'⟩ := back hj
    obtain ⟨f', hl'⟩ := back hl
    exact r.inj j l e' f' hj' hl' kj kl q
end
end B

namespace B
open PySem L2

section
variable {K : PySem.W.Frag} {W : Type} {R : Rs W} {C : Cl}
variable {κ : List Kd} {S0 H0 S H S' H' : Hp} {w0 w w' : W} {σ : L2.St} {ρ : Rho}

/-! ### what is seen of a value: data, or a list that may change -/
def Seen (K : PySem.W.Frag) (S H : Hp) (v : V) (d : D) : Prop := DV K S v d ∨ ∃ p ho, v = .ref p ∧ H p = some ho ∧ OwnRep K S ho d

theorem ResOk.seen {rk : Kd} {v : V} {d : D} (r : Rel K R κ S0 H0 w0 S H σ ρ w) (hk : rk ≠ .res) (h : ResOk K R κ S0 H0 w0 S H σ ρ w rk v d) : Seen K S H v d := by
  cases rk with
  | dat => exact .inl h
  | own =>
    obtain ⟨p, ho, h1, _, _, _, h2, h3, _⟩ := h
    exact .inr ⟨p, ho, h1, h2, h3⟩
  | bor =>
    obtain ⟨i, h1, h2, h3⟩ := h
    obtain ⟨oa, r⟩ := r
    obtain ⟨u, g1, g2⟩ := r.slot i d h1
    rw [h2] at g1
    have e : v = u := Option.some.inj (Option.some.inj g1)
    subst e
    rcases h3 with h3 | h3
    · rw [h3] at g2
      obtain ⟨k1, _, _, _, ho, k2, k3⟩ := g2
      exact .inr ⟨_, ho, k1, k2, k3⟩
    · rw [h3] at g2
      obtain ⟨q, ho, k1, k2, k3, k4⟩ := g2
      exact .inr ⟨q, ho, k1, r.out.keep q ho k2 k3, k4⟩
  | res => exact absurd rfl hk

theorem seen_int {v : V} {i : Int} (h : Seen K S H v (.int i)) : v = .int i := by
  rcases h with h | ⟨p, ho, _, _, h⟩
  · cases h; rfl
  · cases ho <;> exact h.elim
theorem seen_bl {v : V} {b : Bool} (h : Seen K S H v (.bool b)) : v = .bl b := by
  rcases h with h | ⟨p, ho, _, _, h⟩
  · cases h; rfl
  · cases ho <;> exact h.elim
theorem seen_str {v : V} {x : Str} (h : Seen K S H v (.str x)) : v = .str x := by
  rcases h with h | ⟨p, ho, _, _, h⟩
  · cases h; rfl
  · cases ho <;> exact h.elim
theorem seen_none {v : V} (h : Seen K S H v .none) : v = .non := by
  rcases h with h | ⟨p, ho, _, _, h⟩
  · cases h; rfl
  · cases ho <;> exact h.elim
theorem seen_list {v : V} {ds : List D} (sub : ∀ a o, S a = some o → H a = some o) (h : Seen K S H v (.list ds)) : ∃ p vs, v = .ref p ∧ H p = some (.lst vs) ∧ DVs K S vs ds := by
  rcases h with h | ⟨p, ho, h1, h2, h⟩
  · cases h with
    | lst h1 h2 => exact ⟨_, _, rfl, sub _ _ h1, h2⟩
  · cases ho with
    | lst vs => exact ⟨p, vs, h1, h2, h⟩
    | _ => exact h.elim
theorem sqT_sub {a : Addr} {xs : List V} (sub : ∀ a o, S a = some o → H a = some o) (hs : SqT K S a xs) : SqT K H a xs := by
  rcases hs with (h | ⟨o, h⟩) | h
  · exact .inl (.inl (sub _ _ h))
  · exact .inl (.inr ⟨o, sub _ _ h⟩)
  · exact .inr h
theorem seen_tup {v : V} {ds : List D} (sub : ∀ a o, S a = some o → H a = some o) (h : Seen K S H v (.tuple ds)) : ∃ p vs, v = .ref p ∧ SqT K H p vs ∧ SqT K S p vs ∧ DVs K S vs ds := by
  rcases h with h | ⟨p, ho, h1, h2, h⟩
  · cases h with
    | tup h1 h2 => exact ⟨_, _, rfl, sqT_sub sub h1, h1, h2⟩
  · cases ho <;> exact h.elim
theorem seen_dat {v : V} {d : D} (hd : ∀ ds, d ≠ .list ds) (hd2 : ∀ ds, d ≠ .dict ds) (h : Seen K S H v d) : DV K S v d := by
  rcases h with h | ⟨p, ho, h1, h2, h⟩
  · exact h
  · cases ho with
    | lst vs =>
      cases d with
      | list ds => exact absurd rfl (hd ds)
      | _ => exact h.elim
    | dK kvs =>
      cases d with
      | dict ps => exact absurd rfl (hd2 ps)
      | _ => exact h.elim
    | _ => exact h.elim

mutual
theorem dv_dp (sub : ∀ a o, S a = some o → H a = some o) : ∀ (d : PyData) (v : V), d.canLay0 = true → DV K S v d → Dp K H v d
  | .none, _, _, h => by cases h; exact .non
  | .bool b, _, _, h => by cases h; exact .bl b
  | .int i, _, _, h => by cases h; exact .int i
  | .str x, _, _, h => by cases h; exact .str x
  | .list ds, _, c, h => by
    unfold PyData.canLay0 at c
    cases h with
    | lst hs ha => exact .lst (SqL.of (sub _ _ hs)) (dvs_dp sub ds _ c ha)
  | .tuple ds, _, c, h => by
    unfold PyData.canLay0 at c
    cases h with
    | tup hs ha => exact .tup (sqT_sub sub hs) (dvs_dp sub ds _ c ha)
  | .dict _, _, c, _ => by
    unfold PyData.canLay0 at c
    cases c
theorem dvs_dp (sub : ∀ a o, S a = some o → H a = some o) : ∀ (ds : List PyData) (vs : List V), PyData.canLayAll0 ds = true → DVs K S vs ds → DpAll K H vs ds
  | [], _, _, h => by cases h; exact .nil
  | d :: ds, _, c, h => by
    unfold PyData.canLayAll0 at c
    obtain ⟨c1, c2⟩ := Bool.and_eq_true_iff.mp c
    cases h with
    | cons h1 h2 => exact .cons (dv_dp sub d _ c1 h1) (dvs_dp sub ds _ c2 h2)
end
theorem seen_dp {v : V} {d : D} (sub : ∀ a o, S a = some o → H a = some o) (hc : SeqAt.shaped d = true) (h : Seen K S H v d) : Dp K H v d := by
  have c := SeqAt.canLay_of_shaped hc
  rcases h with h | ⟨p, ho, h1, h2, h⟩
  · exact dv_dp sub d v c h
  · cases d with
    | list ds =>
      cases ho with
      | lst vs =>
        subst h1
        unfold PyData.canLay0 at c
        exact .lst (SqL.of h2) (dvs_dp sub _ _ c h)
      | _ => exact h.elim
    | dict ps =>
      unfold PyData.canLay0 at c
      cases c
    | _ => cases ho <;> exact h.elim

theorem dvs_len : ∀ {vs : List V} {ds : List D}, DVs K S vs ds → vs.length = ds.length
  | _, _, .nil => rfl
  | _, _, .cons _ h => by rw [List.length_cons, List.length_cons, dvs_len h]
theorem dvs_get : ∀ {vs : List V} {ds : List D} {i : Nat} {d : D}, DVs K S vs ds → ds[i]? = some d → ∃ v, vs[i]? = some v ∧ DV K S v d
  | _, _, i, d, .nil, h => by simp at h
  | _, _, 0, d, .cons h1 h2, h => by
    rw [List.getElem?_cons_zero] at h
    cases h
    exact ⟨_, rfl, h1⟩
  | _, _, i + 1, d, .cons h1 h2, h => by
    rw [List.getElem?_cons_succ] at h
    obtain ⟨v, g1, g2⟩ := dvs_get h2 h
    exact ⟨v, by rw [List.getElem?_cons_succ]; exact g1, g2⟩
theorem dvs_get' : ∀ {vs : List V} {ds : List D} {i : Nat} {v : V}, DVs K S vs ds → vs[i]? = some v → ∃ d, ds[i]? = some d ∧ DV K S v d
  | _, _, i, d, .nil, h => by simp at h
  | _, _, 0, d, .cons h1 h2, h => by
    rw [List.getElem?_cons_zero] at h
    cases h
    exact ⟨_, rfl, h1⟩
  | _, _, i + 1, d, .cons h1 h2, h => by
    rw [List.getElem?_cons_succ] at h
    obtain ⟨v, g1, g2⟩ := dvs_get' h2 h
    exact ⟨v, by rw [List.getElem?_cons_succ]; exact g1, g2⟩
theorem dvs_app : ∀ {vs us : List V} {ds es : List D}, DVs K S vs ds → DVs K S us es → DVs K S (vs ++ us) (ds ++ es)
  | _, _, _, _, .nil, h => h
  | _, _, _, _, .cons h1 h2, h => .cons h1 (dvs_app h2 h)
theorem dvs_take : ∀ {vs : List V} {ds : List D} (n : Nat), DVs K S vs ds → DVs K S (vs.take n) (ds.take n)
  | _, _, 0, _ => .nil
  | _, _, n + 1, .nil => .nil
  | _, _, n + 1, .cons h1 h2 => .cons h1 (dvs_take n h2)
theorem dvs_drop : ∀ {vs : List V} {ds : List D} (n : Nat), DVs K S vs ds → DVs K S (vs.drop n) (ds.drop n)
  | _, _, 0, h => h
  | _, _, n + 1, .nil => .nil
  | _, _, n + 1, .cons h1 h2 => dvs_drop n h2
theorem dvs_set : ∀ {vs : List V} {ds : List D} {v : V} {d : D} (i : Nat), DVs K S vs ds → DV K S v d → DVs K S (vs.set i v) (ds.set i d)
  | _, _, _, _, _, .nil, _ => .nil
  | _, _, _, _, 0, .cons h1 h2, h => .cons h h2
  | _, _, _, _, n + 1, .cons h1 h2, h => .cons h1 (dvs_set n h2 h)
theorem dvs_erase : ∀ {vs : List V} {ds : List D} (i : Nat), DVs K S vs ds → DVs K S (vs.eraseIdx i) (ds.eraseIdx i)
  | _, _, _, .nil => .nil
  | _, _, 0, .cons h1 h2 => h2
  | _, _, n + 1, .cons h1 h2 => .cons h1 (dvs_erase n h2)
theorem dvs_rev {vs : List V} {ds : List D} (h : DVs K S vs ds) : DVs K S vs.reverse ds.reverse := by
  induction vs generalizing ds with
  | nil => cases h; exact .nil
  | cons v vs ih =>
    cases h with
    | cons h1 h2 =>
      rw [List.reverse_cons, List.reverse_cons]
      exact dvs_app (ih h2) (.cons h1 .nil)
theorem dvs_ints : ∀ {vs : List V} {ns : List Int}, DVs K S vs (ns.map .int) → vs = ns.map V.int
  | _, [], h => by cases h; rfl
  | _, n :: ns, h => by
    cases h with
    | cons h1 h2 =>
      cases h1
      rw [dvs_ints h2]; rfl
theorem dvs_strs : ∀ {vs : List V} {ns : List Str}, DVs K S vs (ns.map .str) → vs = ns.map V.str
  | _, [], h => by cases h; rfl
  | _, n :: ns, h => by
    cases h with
    | cons h1 h2 =>
      cases h1
      rw [dvs_strs h2]; rfl
theorem dvs_bls : ∀ {vs : List V} {ns : List Bool}, DVs K S vs (ns.map .bool) → vs = ns.map V.bl
  | _, [], h => by cases h; rfl
  | _, n :: ns, h => by
    cases h with
    | cons h1 h2 =>
      cases h1
      rw [dvs_bls h2]; rfl

/-! ### names and constants -/
def mVar (i : Nat) : ME W := fun ρ => match ρ[i]? with
  | some (some d) => ret d
  | _ => stk
theorem okVar {i : Nat} (hk : kd κ i = .dat) : OkE K R C κ (tVar i) .dat (mVar i) := by
  intro S0 H0 w0 S H σ ρ w Q r h
  unfold mVar at h
  cases e : ρ[i]? with
  | none => rw [e] at h; exact h.elim
  | some x =>
    cases x with
    | none => rw [e] at h; exact h.elim
    | some d =>
      rw [e] at h
      obtain ⟨oa, r'⟩ := id r
      obtain ⟨v, h1, h2⟩ := r'.slot i d e
      rw [hk] at h2
      exact ⟨v, h1, h v S H r (fun _ _ q => q) h2⟩
theorem okBor {i : Nat} (hk : kd κ i = .own ∨ kd κ i = .bor) : OkE K R C κ (tVar i) .bor (mVar i) := by
  intro S0 H0 w0 S H σ ρ w Q r h
  unfold mVar at h
  cases e : ρ[i]? with
  | none => rw [e] at h; exact h.elim
  | some x =>
    cases x with
    | none => rw [e] at h; exact h.elim
    | some d =>
      rw [e] at h
      obtain ⟨oa, r'⟩ := id r
      obtain ⟨v, h1, h2⟩ := r'.slot i d e
      exact ⟨v, h1, h v S H r (fun _ _ q => q) ⟨i, e, h1, hk⟩⟩
theorem okRes {i : Nat} (hk : kd κ i = .res) : OkE K R C κ (tVar i) .res (mVar i) := by
  intro S0 H0 w0 S H σ ρ w Q r h
  unfold mVar at h
  cases e : ρ[i]? with
  | none => rw [e] at h; exact h.elim
  | some x =>
    cases x with
    | none => rw [e] at h; exact h.elim
    | some d =>
      rw [e] at h
      obtain ⟨oa, r'⟩ := id r
      obtain ⟨v, h1, h2⟩ := r'.slot i d e
      rw [hk] at h2
      exact ⟨v, h1, h v S H r (fun _ _ q => q) h2⟩
def mC (d : D) : ME W := fun _ => ret d
theorem okC {v : V} {d : D} (hv : ∀ S, DV K S v d) : OkE K R C κ (tC v) .dat (mC d) := by
  intro S0 H0 w0 S H σ ρ w Q r h
  exact h v S H r (fun _ _ q => q) (hv S)
theorem okInt {i : Int} : OkE K R C κ (tC (.int i)) .dat (mC (.int i)) := okC fun _ => .int i
theorem okStr {x : Str} : OkE K R C κ (tC (.str x)) .dat (mC (.str x)) := okC fun _ => .str x
theorem okBl {b : Bool} : OkE K R C κ (tC (.bl b)) .dat (mC (.bool b)) := okC fun _ => .bl b
theorem okNon : OkE K R C κ (tC .non) .dat (mC .none) := okC fun _ => .non
theorem OkE.dat {t : TE} {m : ME W} (h : OkE K R C κ t .own m) : OkE K R C κ t .dat m := by
  intro S0 H0 w0 S H σ ρ w Q r q
  refine h S0 H0 w0 S H σ ρ w Q r ?_
  cases e : m ρ w with
  | ok d w' =>
    rw [e] at q
    intro v S' H' r' s' ro
    obtain ⟨S2, r2, s2, hd⟩ := ro.freeze r'
    exact q v S2 H' r2 (fun a o z => s2 a o (s' a o z)) hd
  | exc c fs w' => rw [e] at q; exact q
  | stuck => rw [e] at q; exact q

/-! ### an answer behind another -/
theorem post_bnd {α : Type} {κ : List Kd} {rk : Kd} {Q : VK} {x : M W D} {f : D → M W D} (h : PostE K R C κ S0 H0 w0 S σ ρ rk Q (bnd x f w)) :
    PostE K R C κ S0 H0 w0 S σ ρ .dat Q (.stuck : Res W D) ∨ True := .inr trivial

/-! ### operators by values -/
abbrev Op2 := D → D → Option D
def lift {α : Type} (o : Option α) : M W α := match o with
  | some z => ret z
  | none => stk
@[simp] theorem lift_some {α : Type} (z : α) : (lift (some z) : M W α) = ret z := (rfl)
@[simp] theorem lift_none {α : Type} : (lift (none : Option α) : M W α) = stk := (rfl)

/-- an operator whose answer is data that stands already, or a scalar -/
def OpP (K : PySem.W.Frag) (r : R2) (g : Op2) : Prop :=
  ∀ S H x y d e z (Q : VK), (∀ a o, S a = some o → H a = some o) → Seen K S H x d → Seen K S H y e → g d e = some z → (∀ v, DV K S v z → Q v H) → r x y H Q
/-- .. a new list -/
def OpL (K : PySem.W.Frag) (r : R2) (g : D → D → Option (List D)) : Prop :=
  ∀ S H x y d e z (Q : VK), (∀ a o, S a = some o → H a = some o) → Seen K S H x d → Seen K S H y e → g d e = some z → (∀ p vs, H p = none → DVs K S vs z → Q (.ref p) (upd H p (.lst vs))) → r x y H Q
/-- .. a tuple, new or not -/
def OpU (K : PySem.W.Frag) (r : R2) (g : D → D → Option (List D)) : Prop :=
  ∀ S H x y d e z (Q : VK), (∀ a o, S a = some o → H a = some o) → Seen K S H x d → Seen K S H y e → g d e = some z → (∀ p vs, H p = none → DVs K S vs z → Q (.ref p) (upd H p (.tup vs))) → (∀ v, DV K S v (.tuple z) → Q v H) → r x y H Q

def m2 (ma mb : ME W) (f : D → D → M W D) : ME W := fun ρ => bnd (ma ρ) fun d => bnd (mb ρ) fun e => f d e

/-- two operands, the left one no new list -/
theorem ok2 {ta tb : TE} {ka kb rk : Kd} {ma mb : ME W} {f : D → D → M W D} {r : R2} (ha : OkE K R C κ ta ka ma) (hb : OkE K R C κ tb kb mb) (na : ka ≠ .own) (nr : ka ≠ .res) (nb : kb ≠ .res)
    (hr : ∀ S0 H0 w0 S H σ ρ w x y d e Q, Rel K R κ S0 H0 w0 S H σ ρ w → Seen K S H x d → Seen K S H y e → PostE K R C κ S0 H0 w0 S σ ρ rk Q (f d e w) → r x y H Q) :
    OkE K R C κ (tOp r ta tb) rk (m2 ma mb f) := by
  intro S0 H0 w0 S H σ ρ w Q rl h
  refine ha S0 H0 w0 S H σ ρ w _ rl ?_
  unfold m2 at h
  cases ea : ma ρ w with
  | stuck => rw [bnd_stuck ea] at h; exact h.elim
  | exc c fs w1 => rw [bnd_exc ea] at h; exact h
  | ok d w1 =>
    rw [bnd_ok ea] at h
    intro x S1 H1 r1 s1 o1
    refine hb S0 H0 w0 S1 H1 σ ρ w1 _ r1 ?_
    cases eb : mb ρ w1 with
    | stuck => rw [bnd_stuck eb] at h; exact h.elim
    | exc c fs w2 => rw [bnd_exc eb] at h; exact h
    | ok e w2 =>
      rw [bnd_ok eb] at h
      intro y S2 H2 r2 s2 o2
      refine hr S0 H0 w0 S2 H2 σ ρ w2 x y d e Q r2 ((ResOk.mono na s2 o1 : ResOk K R κ S0 H0 w0 S2 H2 σ ρ w2 ka x d).seen r2 nr) (o2.seen r2 nb) ?_
      cases ef : f d e w2 with
      | stuck => rw [ef] at h; exact h.elim
      | exc c fs w3 =>
        rw [ef] at h
        exact h
      | ok z w3 =>
        rw [ef] at h
        exact fun v S3 H3 r3 s3 o3 => h v S3 H3 r3 (fun a o q => s3 a o (s2 a o (s1 a o q))) o3
theorem okOp {ta tb : TE} {ka kb : Kd} {ma mb : ME W} {g : Op2} {r : R2} (hr : OpP K r g) (ha : OkE K R C κ ta ka ma) (hb : OkE K R C κ tb kb mb) (na : ka ≠ .own := by decide) (nr : ka ≠ .res := by decide) (nb : kb ≠ .res := by decide) :
    OkE K R C κ (tOp r ta tb) .dat (m2 ma mb fun d e => lift (g d e)) := by
  refine ok2 ha hb na nr nb fun S0 H0 w0 S H σ ρ w x y d e Q rl hx hy h => ?_
  cases q : g d e with
  | none => simp only [q, lift_none] at h; exact h.elim
  | some z =>
    simp only [q, lift_some] at h
    exact hr S H x y d e z Q rl.out.sub hx hy q fun v hv => h v S H rl (fun _ _ z => z) hv
theorem okOpL {ta tb : TE} {ka kb : Kd} {ma mb : ME W} {g : D → D → Option (List D)} {r : R2} (hr : OpL K r g) (ha : OkE K R C κ ta ka ma) (hb : OkE K R C κ tb kb mb) (na : ka ≠ .own := by decide) (nr : ka ≠ .res := by decide) (nb : kb ≠ .res := by decide) :
    OkE K R C κ (tOp r ta tb) .own (m2 ma mb fun d e => lift ((g d e).map .list)) := by
  refine ok2 ha hb na nr nb fun S0 H0 w0 S H σ ρ w x y d e Q rl hx hy h => ?_
  cases q : g d e with
  | none => simp only [q, Option.map_none, lift_none] at h; exact h.elim
  | some z =>
    simp only [q, Option.map_some, lift_some] at h
    refine hr S H x y d e z Q rl.out.sub hx hy q fun p vs hp hv => h (.ref p) S _ (rl.allocOwn hp) (fun _ _ z => z) ?_
    refine ⟨p, _, rfl, rl.out.s_none hp, rl.out.h0_none hp, rl.out.nofp hp, upd_same, hv, fun i e' hi hk hs => ?_⟩
    obtain ⟨oa, rl⟩ := rl
    obtain ⟨v, g1, g2⟩ := rl.slot i e' hi
    rw [hk] at g2
    obtain ⟨k1, _, _, _, ho, k2, _⟩ := g2
    rw [hs] at g1
    have e1 : V.ref p = v := Option.some.inj (Option.some.inj g1)
    rw [← e1] at k1
    have e2 : p = oa i := V.ref.inj k1
    rw [← e2, hp] at k2
    cases k2
theorem okOpU {ta tb : TE} {ka kb : Kd} {ma mb : ME W} {g : D → D → Option (List D)} {r : R2} (hr : OpU K r g) (ha : OkE K R C κ ta ka ma) (hb : OkE K R C κ tb kb mb) (na : ka ≠ .own := by decide) (nr : ka ≠ .res := by decide) (nb : kb ≠ .res := by decide) :
    OkE K R C κ (tOp r ta tb) .dat (m2 ma mb fun d e => lift ((g d e).map .tuple)) := by
  refine ok2 ha hb na nr nb fun S0 H0 w0 S H σ ρ w x y d e Q rl hx hy h => ?_
  cases q : g d e with
  | none => simp only [q, Option.map_none, lift_none] at h; exact h.elim
  | some z =>
    simp only [q, Option.map_some, lift_some] at h
    refine hr S H x y d e z Q rl.out.sub hx hy q (fun p vs hp hv => h (.ref p) _ _ (rl.alloc hp) (le_upd (rl.out.s_none hp)) ?_) (fun v hv => h v S H rl (fun _ _ z => z) hv)
    exact .tup (SqT.of upd_same) (dpAll_mono (le_upd (rl.out.s_none hp)) _ _ hv)

/-! the operators -/
def gAdd : Op2 | .int i, .int j => some (.int (i + j)) | _, _ => none
def gMns : Op2 | .int i, .int j => some (.int (i - j)) | _, _ => none
noncomputable def gMul : Op2 | .int i, .int j => if Lines (-(2 ^ 64)) (2 ^ 64) i ∨ Lines (-(2 ^ 64)) (2 ^ 64) j then some (.int (i * j)) else none | _, _ => none
def gMod : Op2 | .int i, .int j => if 0 < j then some (.int (i % j)) else none | _, _ => none
noncomputable def gDiv : Op2 | .int i, .int j => if Lines 0 1073741824 j then some (.int (i / j)) else none | _, _ => none
def gLt : Op2 | .int i, .int j => some (.bool (decide (i < j))) | _, _ => none
def gLe : Op2 | .int i, .int j => some (.bool (decide (i ≤ j))) | _, _ => none
def gGt : Op2 | .int i, .int j => some (.bool (decide (j < i))) | _, _ => none
def gGe : Op2 | .int i, .int j => some (.bool (decide (j ≤ i))) | _, _ => none
def gEq : Op2 := fun d e => if SeqAt.shaped d = true ∧ SeqAt.shaped e = true then some (.bool (PyData.eqv d e)) else none
def gNe : Op2 := fun d e => if SeqAt.shaped d = true ∧ SeqAt.shaped e = true then some (.bool (!PyData.eqv d e)) else none

theorem opI0 {g : Int → Int → V} {z : Int → Int → D} {f : Op2} (hz : ∀ i j S, DV K S (g i j) (z i j)) (hf : ∀ d e y, f d e = some y → ∃ i j, d = .int i ∧ e = .int j ∧ y = z i j) : OpP K (rI0 g) f := by
  intro S H x y d e u Q sub hx hy h q
  obtain ⟨i, j, rfl, rfl, rfl⟩ := hf d e u h
  rw [seen_int hx, seen_int hy]
  exact ⟨i, j, rfl, rfl, q _ (hz i j S)⟩
theorem opI {c : Int → Int → Prop} {g : Int → Int → V} {z : Int → Int → D} {f : Op2} (hz : ∀ i j S, DV K S (g i j) (z i j)) (hf : ∀ d e y, f d e = some y → ∃ i j, d = .int i ∧ e = .int j ∧ c i j ∧ y = z i j) : OpP K (rI c g) f := by
  intro S H x y d e u Q sub hx hy h q
  obtain ⟨i, j, rfl, rfl, hc, rfl⟩ := hf d e u h
  rw [seen_int hx, seen_int hy]
  exact ⟨i, j, rfl, rfl, hc, q _ (hz i j S)⟩
theorem oAdd : OpP K (rI0 fun i j => .int (i + j)) gAdd := opI0 (z := fun i j => .int (i + j)) (fun _ _ _ => .int _) fun d e y h => by
  unfold gAdd at h; split at h
  · exact ⟨_, _, rfl, rfl, (Option.some.inj h).symm⟩
  · cases h
theorem oSub : OpP K (rI0 fun i j => .int (i - j)) gMns := opI0 (z := fun i j => .int (i - j)) (fun _ _ _ => .int _) fun d e y h => by
  unfold gMns at h; split at h
  · exact ⟨_, _, rfl, rfl, (Option.some.inj h).symm⟩
  · cases h
theorem oMul : OpP K (rI CMul fun i j => .int (i * j)) gMul := opI (z := fun i j => .int (i * j)) (fun _ _ _ => .int _) fun d e y h => by
  unfold gMul at h; split at h
  · split at h
    · rename_i c
      exact ⟨_, _, rfl, rfl, by unfold CMul; exact c, (Option.some.inj h).symm⟩
    · cases h
  · cases h
theorem oMod : OpP K (rI (fun _ j => 0 < j) fun i j => .int (i % j)) gMod := opI (z := fun i j => .int (i % j)) (fun _ _ _ => .int _) fun d e y h => by
  unfold gMod at h; split at h
  · split at h
    · rename_i c
      exact ⟨_, _, rfl, rfl, c, (Option.some.inj h).symm⟩
    · cases h
  · cases h
theorem oDiv : OpP K (rI CDiv fun i j => .int (i / j)) gDiv := opI (z := fun i j => .int (i / j)) (fun _ _ _ => .int _) fun d e y h => by
  unfold gDiv at h; split at h
  · split at h
    · rename_i c
      exact ⟨_, _, rfl, rfl, by unfold CDiv; exact c, (Option.some.inj h).symm⟩
    · cases h
  · cases h
theorem oLt : OpP K (rI0 fun i j => .bl (decide (i < j))) gLt := opI0 (z := fun i j => .bool (decide (i < j))) (fun _ _ _ => .bl _) fun d e y h => by
  unfold gLt at h; split at h
  · exact ⟨_, _, rfl, rfl, (Option.some.inj h).symm⟩
  · cases h
theorem oLe : OpP K (rI0 fun i j => .bl (decide (i ≤ j))) gLe := opI0 (z := fun i j => .bool (decide (i ≤ j))) (fun _ _ _ => .bl _) fun d e y h => by
  unfold gLe at h; split at h
  · exact ⟨_, _, rfl, rfl, (Option.some.inj h).symm⟩
  · cases h
theorem oGt : OpP K (rI0 fun i j => .bl (decide (j < i))) gGt := opI0 (z := fun i j => .bool (decide (j < i))) (fun _ _ _ => .bl _) fun d e y h => by
  unfold gGt at h; split at h
  · exact ⟨_, _, rfl, rfl, (Option.some.inj h).symm⟩
  · cases h
theorem oGe : OpP K (rI0 fun i j => .bl (decide (j ≤ i))) gGe := opI0 (z := fun i j => .bool (decide (j ≤ i))) (fun _ _ _ => .bl _) fun d e y h => by
  unfold gGe at h; split at h
  · exact ⟨_, _, rfl, rfl, (Option.some.inj h).symm⟩
  · cases h
theorem oEq : OpP K (rEqD K) gEq := by
  intro S H x y d e u Q sub hx hy h q
  unfold gEq at h; split at h
  · rename_i c
    cases h
    exact ⟨d, e, seen_dp sub c.1 hx, seen_dp sub c.2 hy, c.1, c.2, q _ (.bl _)⟩
  · cases h
theorem oNe : OpP K (rNeD K) gNe := by
  intro S H x y d e u Q sub hx hy h q
  unfold gNe at h; split at h
  · rename_i c
    cases h
    exact ⟨d, e, seen_dp sub c.1 hx, seen_dp sub c.2 hy, c.1, c.2, q _ (.bl _)⟩
  · cases h
def gIxL : Op2 | .list ds, .int i => atI ds i | _, _ => none
def gIxT : Op2 | .tuple ds, .int i => atI ds i | _, _ => none
theorem dvs_at {vs : List V} {ds : List D} {i : Int} {z : D} (h : DVs K S vs ds) (hz : atI ds i = some z) : ∃ v, atI vs i = some v ∧ DV K S v z := by
  unfold atI at hz ⊢
  rw [dvs_len h]
  cases e : ixN ds.length i with
  | none => rw [e] at hz; cases hz
  | some j =>
    rw [e] at hz
    exact dvs_get h hz
theorem oIxL : OpP K (rIxL K) gIxL := by
  intro S H x y d e u Q sub hx hy h q
  unfold gIxL at h; split at h
  · obtain ⟨p, vs, rfl, h1, h2⟩ := seen_list sub hx
    rw [seen_int hy]
    obtain ⟨v, g1, g2⟩ := dvs_at h2 h
    exact ⟨p, vs, _, v, rfl, rfl, SqL.of h1, g1, q v g2⟩
  · cases h
theorem oIxT : OpP K (rIxT K) gIxT := by
  intro S H x y d e u Q sub hx hy h q
  unfold gIxT at h; split at h
  · obtain ⟨p, vs, rfl, h1, _, h2⟩ := seen_tup sub hx
    rw [seen_int hy]
    obtain ⟨v, g1, g2⟩ := dvs_at h2 h
    exact ⟨p, vs, _, v, rfl, rfl, h1, g1, q v g2⟩
  · cases h
def gCat : D → D → Option (List D) | .list a, .list b => if a.length + b.length ≤ 1000000 then some (a ++ b) else none | _, _ => none
theorem sz_le {n : Nat} (h : n ≤ 1000000) : n ≤ sizeLine := Nat.le_trans h (by decide)
theorem oCat : OpL K rCat gCat := by
  intro S H x y d e u Q sub hx hy h q
  unfold gCat at h; split at h
  · split at h
    · rename_i c
      cases h
      obtain ⟨p, vs, rfl, h1, h2⟩ := seen_list sub hx
      obtain ⟨p', vs', rfl, h1', h2'⟩ := seen_list sub hy
      refine ⟨p, p', vs, vs', rfl, rfl, h1, h1', ?_, fun l hl => q l _ hl (dvs_app h2 h2')⟩
      rw [dvs_len h2, dvs_len h2']
      exact sz_le c
    · cases h
  · cases h

/-! ### tests -/
def mB (m : ME W) : Rho → M W Bool := fun ρ => bnd (m ρ) fun d => match d with
  | .bool b => ret b
  | _ => stk
theorem okTest' {t : TE} {tt : TT} {k : Kd} {m : ME W} (h : OkE K R C κ t k m) (hk : k ≠ .res) (ht : ∀ σ H Q, t σ H (fun x H' => ∃ b, x = .bl b ∧ Q b H') → tt σ H Q) : OkT K R C κ tt (mB m) := by
  intro S0 H0 w0 S H σ ρ w Q rl q
  refine ht σ H Q (h S0 H0 w0 S H σ ρ w _ rl ?_)
  unfold mB at q
  cases e : m ρ w with
  | stuck => rw [bnd_stuck e] at q; exact q.elim
  | exc c fs w1 => rw [bnd_exc e] at q; exact q
  | ok d w1 =>
    rw [bnd_ok e] at q
    intro v S1 H1 r1 s1 o1
    cases d with
    | bool b =>
      have e1 := seen_bl (o1.seen r1 hk)
      exact ⟨b, e1, q S1 H1 r1 s1⟩
    | _ => exact q.elim
theorem okTest {t : TE} {k : Kd} {m : ME W} (h : OkE K R C κ t k m) (hk : k ≠ .res := by decide) : OkT K R C κ (tTest t) (mB m) := okTest' h hk fun _ _ _ h => h
theorem okTB {t : TE} {k : Kd} {m : ME W} (h : OkE K R C κ t k m) (hk : k ≠ .res := by decide) : OkT K R C κ (tB t) (mB m) := okTest' h hk fun _ _ _ h => h
theorem okT_then {t : TT} {m : Rho → M W Bool} {β : Type} (h : OkT K R C κ t m) {Q : Bool → Hp → Prop} (rl : Rel K R κ S0 H0 w0 S H σ ρ w)
    (hs : m ρ w ≠ .stuck) (hx : ∀ c fs w', m ρ w = .exc c fs w' → ∀ cls dd S' H', Rel K R κ S0 H0 w0 S' H' σ ρ w' → C.cn c cls → XOk R S' H' w' dd fs → C.wx cls (some dd) σ H')
    (ho : ∀ b w', m ρ w = .ok b w' → ∀ S' H', Rel K R κ S0 H0 w0 S' H' σ ρ w' → (∀ a o, S a = some o → S' a = some o) → Q b H') : t σ H Q := by
  refine h S0 H0 w0 S H σ ρ w Q rl ?_
  cases e : m ρ w with
  | stuck => exact absurd e hs
  | exc c fs w' => exact hx c fs w' e
  | ok b w' => exact ho b w' e
def mAnd (a b : Rho → M W Bool) : Rho → M W Bool := fun ρ => bnd (a ρ) fun c => if c then b ρ else ret false
def mOr (a b : Rho → M W Bool) : Rho → M W Bool := fun ρ => bnd (a ρ) fun c => if c then ret true else b ρ
def mNot (a : Rho → M W Bool) : Rho → M W Bool := fun ρ => bnd (a ρ) fun c => ret (!c)
theorem postT_mono {Q : Bool → Hp → Prop} {r : Res W Bool} {S1 : Hp} (s1 : ∀ a o, S a = some o → S1 a = some o) (h : PostT K R C κ S0 H0 w0 S σ ρ Q r) : PostT K R C κ S0 H0 w0 S1 σ ρ Q r := by
  cases r with
  | stuck => exact h
  | exc c fs w' => exact h
  | ok b w' => exact fun S' H' r' s' => h S' H' r' fun a o z => s' a o (s1 a o z)
theorem postE_mono {Q : VK} {rk : Kd} {r : Res W D} {S1 : Hp} (s1 : ∀ a o, S a = some o → S1 a = some o) (h : PostE K R C κ S0 H0 w0 S σ ρ rk Q r) : PostE K R C κ S0 H0 w0 S1 σ ρ rk Q r := by
  cases r with
  | stuck => exact h
  | exc c fs w' => exact h
  | ok b w' => exact fun v S' H' r' s' => h v S' H' r' fun a o z => s' a o (s1 a o z)
theorem okAnd {t u : TT} {a b : Rho → M W Bool} (h1 : OkT K R C κ t a) (h2 : OkT K R C κ u b) : OkT K R C κ (tAnd t u) (mAnd a b) := by
  intro S0 H0 w0 S H σ ρ w Q rl q
  refine h1 S0 H0 w0 S H σ ρ w _ rl ?_
  unfold mAnd at q
  cases e : a ρ w with
  | stuck => rw [bnd_stuck e] at q; exact q.elim
  | exc c fs w1 => rw [bnd_exc e] at q; exact q
  | ok c w1 =>
    rw [bnd_ok e] at q
    intro S1 H1 r1 s1
    cases c with
    | true => exact h2 S0 H0 w0 S1 H1 σ ρ w1 Q r1 (postT_mono s1 q)
    | false => exact q S1 H1 r1 s1
theorem okOr {t u : TT} {a b : Rho → M W Bool} (h1 : OkT K R C κ t a) (h2 : OkT K R C κ u b) : OkT K R C κ (tOr t u) (mOr a b) := by
  intro S0 H0 w0 S H σ ρ w Q rl q
  refine h1 S0 H0 w0 S H σ ρ w _ rl ?_
  unfold mOr at q
  cases e : a ρ w with
  | stuck => rw [bnd_stuck e] at q; exact q.elim
  | exc c fs w1 => rw [bnd_exc e] at q; exact q
  | ok c w1 =>
    rw [bnd_ok e] at q
    intro S1 H1 r1 s1
    cases c with
    | false => exact h2 S0 H0 w0 S1 H1 σ ρ w1 Q r1 (postT_mono s1 q)
    | true => exact q S1 H1 r1 s1
theorem okNot {t : TT} {a : Rho → M W Bool} (h1 : OkT K R C κ t a) : OkT K R C κ (tNot t) (mNot a) := by
  intro S0 H0 w0 S H σ ρ w Q rl q
  refine h1 S0 H0 w0 S H σ ρ w _ rl ?_
  unfold mNot at q
  cases e : a ρ w with
  | stuck => rw [bnd_stuck e] at q; exact q.elim
  | exc c fs w1 => rw [bnd_exc e] at q; exact q
  | ok c w1 =>
    rw [bnd_ok e] at q
    exact fun S1 H1 r1 s1 => q S1 H1 r1 s1
/-- as values (bools) -/
def mOfB (m : Rho → M W Bool) : ME W := fun ρ => bnd (m ρ) fun b => ret (.bool b)
theorem okAndV {t u : TE} {ka kb : Kd} {a b : ME W} (h1 : OkE K R C κ t ka a) (h2 : OkE K R C κ u kb b) (na : ka ≠ .res := by decide) : OkE K R C κ (tAndV t u) kb (fun ρ => bnd (mB a ρ) fun c => if c then b ρ else if kb = .dat then ret (.bool false) else stk) := by
  intro S0 H0 w0 S H σ ρ w Q rl q
  refine h1 S0 H0 w0 S H σ ρ w _ rl ?_
  simp only [mB, bnd_bnd] at q
  cases e : a ρ w with
  | stuck => rw [bnd_stuck e] at q; exact q.elim
  | exc c fs w1 => rw [bnd_exc e] at q; exact q
  | ok d w1 =>
    rw [bnd_ok e] at q
    intro v S1 H1 r1 s1 o1
    cases d with
    | bool c =>
      have e1 := seen_bl (o1.seen r1 na)
      refine ⟨c, e1, ?_⟩
      cases c with
      | true => exact h2 S0 H0 w0 S1 H1 σ ρ w1 Q r1 (postE_mono s1 q)
      | false =>
        have q' : PostE K R C κ S0 H0 w0 S σ ρ kb Q ((if kb = .dat then ret (.bool false) else stk : M W D) w1) := q
        by_cases hk : kb = .dat
        · subst hk
          exact q' (.bl false) S1 H1 r1 s1 (.bl false)
        · rw [if_neg hk] at q'; exact q'.elim
    | _ => exact q.elim
theorem okOrV {t u : TE} {ka kb : Kd} {a b : ME W} (h1 : OkE K R C κ t ka a) (h2 : OkE K R C κ u kb b) (na : ka ≠ .res := by decide) : OkE K R C κ (tOrV t u) kb (fun ρ => bnd (mB a ρ) fun c => if c then (if kb = .dat then ret (.bool true) else stk) else b ρ) := by
  intro S0 H0 w0 S H σ ρ w Q rl q
  refine h1 S0 H0 w0 S H σ ρ w _ rl ?_
  simp only [mB, bnd_bnd] at q
  cases e : a ρ w with
  | stuck => rw [bnd_stuck e] at q; exact q.elim
  | exc c fs w1 => rw [bnd_exc e] at q; exact q
  | ok d w1 =>
    rw [bnd_ok e] at q
    intro v S1 H1 r1 s1 o1
    cases d with
    | bool c =>
      have e1 := seen_bl (o1.seen r1 na)
      refine ⟨c, e1, ?_⟩
      cases c with
      | false => exact h2 S0 H0 w0 S1 H1 σ ρ w1 Q r1 (postE_mono s1 q)
      | true =>
        have q' : PostE K R C κ S0 H0 w0 S σ ρ kb Q ((if kb = .dat then ret (.bool true) else stk : M W D) w1) := q
        by_cases hk : kb = .dat
        · subst hk
          exact q' (.bl true) S1 H1 r1 s1 (.bl true)
        · rw [if_neg hk] at q'; exact q'.elim
    | _ => exact q.elim
theorem okNotV {t : TE} {ka : Kd} {a : ME W} (h1 : OkE K R C κ t ka a) (na : ka ≠ .res := by decide) : OkE K R C κ (tNotV t) .dat (fun ρ => bnd (mB a ρ) fun c => ret (.bool (!c))) := by
  intro S0 H0 w0 S H σ ρ w Q rl q
  refine h1 S0 H0 w0 S H σ ρ w _ rl ?_
  simp only [mB, bnd_bnd] at q
  cases e : a ρ w with
  | stuck => rw [bnd_stuck e] at q; exact q.elim
  | exc c fs w1 => rw [bnd_exc e] at q; exact q
  | ok d w1 =>
    rw [bnd_ok e] at q
    intro v S1 H1 r1 s1 o1
    cases d with
    | bool c => exact ⟨c, seen_bl (o1.seen r1 na), q _ S1 H1 r1 s1 (.bl _)⟩
    | _ => exact q.elim
def mIf (c : Rho → M W Bool) (a b : ME W) : ME W := fun ρ => bnd (c ρ) fun k => if k then a ρ else b ρ
theorem okIf {t : TT} {ta tb : TE} {k : Kd} {c : Rho → M W Bool} {a b : ME W} (hc : OkT K R C κ t c) (h1 : OkE K R C κ ta k a) (h2 : OkE K R C κ tb k b) : OkE K R C κ (tIf t ta tb) k (mIf c a b) := by
  intro S0 H0 w0 S H σ ρ w Q rl q
  refine hc S0 H0 w0 S H σ ρ w _ rl ?_
  unfold mIf at q
  cases e : c ρ w with
  | stuck => rw [bnd_stuck e] at q; exact q.elim
  | exc c fs w1 => rw [bnd_exc e] at q; exact q
  | ok c w1 =>
    rw [bnd_ok e] at q
    intro S1 H1 r1 s1
    cases c with
    | true => exact h1 S0 H0 w0 S1 H1 σ ρ w1 Q r1 (postE_mono s1 q)
    | false => exact h2 S0 H0 w0 S1 H1 σ ρ w1 Q r1 (postE_mono s1 q)

/-! ### chains: a < b < c -/
def mChain (f g : Op2) (ma mb mc : ME W) : ME W := fun ρ => bnd (ma ρ) fun d => bnd (mb ρ) fun e => bnd (lift (f d e)) fun z => match z with
  | .bool true => bnd (mc ρ) fun u => lift (g e u)
  | .bool false => ret (.bool false)
  | _ => stk

/-! ### arguments, displays -/
def mNil : Rho → M W (List D) := fun _ => ret []
def mCons (a : ME W) (r : Rho → M W (List D)) : Rho → M W (List D) := fun ρ => bnd (a ρ) fun d => bnd (r ρ) fun ds => ret (d :: ds)
theorem okNil : OkA K R C κ tNil [] mNil := by
  intro S0 H0 w0 S H σ ρ w Q rl q
  exact q [] S H rl (fun _ _ z => z) .nil
theorem resAll_mono {ks : List Kd} {vs : List V} {ds : List D} (hk : ∀ k ∈ ks, k ≠ .own) (e : ∀ a o, S a = some o → S' a = some o) (h : ResAll K R κ S0 H0 w0 S H σ ρ w ks vs ds) : ResAll K R κ S0 H0 w0 S' H' σ ρ w' ks vs ds := by
  induction h with
  | nil => exact .nil
  | cons h1 h2 ih => exact .cons (ResOk.mono (hk _ List.mem_cons_self) e h1) (ih fun k h => hk k (List.mem_cons_of_mem _ h))
/-- all but the last are no new lists -/
theorem okCons {te : TE} {tr : TA} {k : Kd} {ks : List Kd} {me : ME W} {mr : Rho → M W (List D)} (he : OkE K R C κ te k me) (hr : OkA K R C κ tr ks mr) (hk : k ≠ .own := by decide) : OkA K R C κ (tCons te tr) (k :: ks) (mCons me mr) := by
  intro S0 H0 w0 S H σ ρ w Q rl q
  refine he S0 H0 w0 S H σ ρ w _ rl ?_
  unfold mCons at q
  cases e : me ρ w with
  | stuck => rw [bnd_stuck e] at q; exact q.elim
  | exc c fs w1 => rw [bnd_exc e] at q; exact q
  | ok d w1 =>
    rw [bnd_ok e] at q
    intro v S1 H1 r1 s1 o1
    refine hr S0 H0 w0 S1 H1 σ ρ w1 _ r1 ?_
    cases e2 : mr ρ w1 with
    | stuck => rw [bnd_stuck e2] at q; exact q.elim
    | exc c fs w2 => rw [bnd_exc e2] at q; exact q
    | ok ds w2 =>
      rw [bnd_ok e2] at q
      intro vs S2 H2 r2 s2 o2
      exact q (v :: vs) S2 H2 r2 (fun a o z => s2 a o (s1 a o z)) (.cons (ResOk.mono hk s2 o1) o2)
/-- one argument, of any kind -/
theorem okLast {te : TE} {k : Kd} {me : ME W} (he : OkE K R C κ te k me) : OkA K R C κ (tCons te tNil) [k] (mCons me mNil) := by
  intro S0 H0 w0 S H σ ρ w Q rl q
  refine he S0 H0 w0 S H σ ρ w _ rl ?_
  unfold mCons at q
  cases e : me ρ w with
  | stuck => rw [bnd_stuck e] at q; exact q.elim
  | exc c fs w1 => rw [bnd_exc e] at q; exact q
  | ok d w1 =>
    rw [bnd_ok e] at q
    exact fun v S1 H1 r1 s1 o1 => q [v] S1 H1 r1 s1 (.cons o1 .nil)
theorem resAll_dats {vs : List V} {ds : List D} : ∀ {ks : List Kd}, (∀ k ∈ ks, k = .dat) → ResAll K R κ S0 H0 w0 S H σ ρ w ks vs ds → DVs K S vs ds := by
  intro ks hk h
  induction h with
  | nil => exact .nil
  | cons h1 h2 ih =>
    have e := hk _ List.mem_cons_self
    subst e
    exact .cons h1 (ih fun k h => hk k (List.mem_cons_of_mem _ h))
def mTup (m : Rho → M W (List D)) : ME W := fun ρ => bnd (m ρ) fun ds => if ds.length ≤ 1000000 then ret (.tuple ds) else stk
def mLst (m : Rho → M W (List D)) : ME W := fun ρ => bnd (m ρ) fun ds => if ds.length ≤ 1000000 then ret (.list ds) else stk
theorem fresh_slot (rl : Rel K R κ S0 H0 w0 S H σ ρ w) {p : Addr} (hp : H p = none) : ∀ i e, ρ[i]? = some (some e) → kd κ i = .own → σ[i]? ≠ some (some (.ref p)) := fun i e' hi hk hs => by
  obtain ⟨oa, rl⟩ := rl
  obtain ⟨v, g1, g2⟩ := rl.slot i e' hi
  rw [hk] at g2
  obtain ⟨k1, _, _, _, ho, k2, _⟩ := g2
  rw [hs] at g1
  have e1 : V.ref p = v := Option.some.inj (Option.some.inj g1)
  rw [← e1] at k1
  have e2 : p = oa i := V.ref.inj k1
  rw [← e2, hp] at k2
  cases k2
theorem res_new (rl : Rel K R κ S0 H0 w0 S H σ ρ w) {p : Addr} {ho : HO} {d : D} (hp : H p = none) (hr : OwnRep K S ho d) : ResOk K R κ S0 H0 w0 S (upd H p ho) σ ρ w .own (.ref p) d :=
  ⟨p, ho, rfl, rl.out.s_none hp, rl.out.h0_none hp, rl.out.nofp hp, upd_same, hr, fresh_slot rl hp⟩
theorem okTup {ta : TA} {ks : List Kd} {m : Rho → M W (List D)} (h : OkA K R C κ ta ks m) (hk : ∀ k ∈ ks, k = .dat := by decide) : OkE K R C κ (tTup ta) .dat (mTup m) := by
  intro S0 H0 w0 S H σ ρ w Q rl q
  refine h S0 H0 w0 S H σ ρ w _ rl ?_
  unfold mTup at q
  cases e : m ρ w with
  | stuck => rw [bnd_stuck e] at q; exact q.elim
  | exc c fs w1 => rw [bnd_exc e] at q; exact q
  | ok ds w1 =>
    rw [bnd_ok e] at q
    intro vs S1 H1 r1 s1 o1
    have hv := resAll_dats hk o1
    by_cases hl : ds.length ≤ 1000000
    · rw [if_pos hl] at q
      refine ⟨by rw [dvs_len hv]; exact sz_le hl, fun p hp => ?_⟩
      have e := le_upd (ho := .tup vs) (r1.out.s_none hp)
      exact q (.ref p) _ _ (r1.alloc hp) (fun a o z => e a o (s1 a o z)) (.tup (SqT.of upd_same) (dpAll_mono e _ _ hv))
    · rw [if_neg hl] at q; exact q.elim
theorem okLst {ta : TA} {ks : List Kd} {m : Rho → M W (List D)} (h : OkA K R C κ ta ks m) (hk : ∀ k ∈ ks, k = .dat := by decide) : OkE K R C κ (tLst ta) .own (mLst m) := by
  intro S0 H0 w0 S H σ ρ w Q rl q
  refine h S0 H0 w0 S H σ ρ w _ rl ?_
  unfold mLst at q
  cases e : m ρ w with
  | stuck => rw [bnd_stuck e] at q; exact q.elim
  | exc c fs w1 => rw [bnd_exc e] at q; exact q
  | ok ds w1 =>
    rw [bnd_ok e] at q
    intro vs S1 H1 r1 s1 o1
    have hv := resAll_dats hk o1
    by_cases hl : ds.length ≤ 1000000
    · rw [if_pos hl] at q
      exact ⟨by rw [dvs_len hv]; exact sz_le hl, fun p hp => q (.ref p) _ _ (r1.allocOwn hp) s1 (res_new r1 hp hv)⟩
    · rw [if_neg hl] at q; exact q.elim

/-! ### built-ins by values -/
inductive SeenAll (K : PySem.W.Frag) (S H : Hp) : List V → List D → Prop
  | nil : SeenAll K S H [] []
  | cons {v vs d ds} : Seen K S H v d → SeenAll K S H vs ds → SeenAll K S H (v :: vs) (d :: ds)
theorem resAll_seen (rl : Rel K R κ S0 H0 w0 S H σ ρ w) {vs : List V} {ds : List D} {ks : List Kd} (hk : ∀ k ∈ ks, k ≠ .res) (h : ResAll K R κ S0 H0 w0 S H σ ρ w ks vs ds) : SeenAll K S H vs ds := by
  induction h with
  | nil => exact .nil
  | cons h1 h2 ih => exact .cons (h1.seen rl (hk _ List.mem_cons_self)) (ih fun k h => hk k (List.mem_cons_of_mem _ h))
abbrev Rb := List V → Hp → VK → Prop
abbrev OpN := List D → Option D
def CbP (K : PySem.W.Frag) (r : Rb) (g : OpN) : Prop :=
  ∀ S H vs ds z (Q : VK), (∀ a o, S a = some o → H a = some o) → SeenAll K S H vs ds → g ds = some z → (∀ v, DV K S v z → Q v H) → r vs H Q
def CbL (K : PySem.W.Frag) (r : Rb) (g : List D → Option (List D)) : Prop :=
  ∀ S H vs ds z (Q : VK), (∀ a o, S a = some o → H a = some o) → SeenAll K S H vs ds → g ds = some z → (∀ p us, H p = none → DVs K S us z → Q (.ref p) (upd H p (.lst us))) → r vs H Q
def CbU (K : PySem.W.Frag) (r : Rb) (g : List D → Option (List D)) : Prop :=
  ∀ S H vs ds z (Q : VK), (∀ a o, S a = some o → H a = some o) → SeenAll K S H vs ds → g ds = some z → (∀ p us, H p = none → DVs K S us z → Q (.ref p) (upd H p (.tup us))) → (∀ v, DV K S v (.tuple z) → Q v H) → r vs H Q
theorem okCB' {ta : TA} {ks : List Kd} {m : Rho → M W (List D)} {r : Rb} {rk : Kd} {f : List D → M W D} (h : OkA K R C κ ta ks m) (hk : ∀ k ∈ ks, k ≠ .res)
    (hr : ∀ S0 H0 w0 S H σ ρ w vs ds Q, Rel K R κ S0 H0 w0 S H σ ρ w → SeenAll K S H vs ds → PostE K R C κ S0 H0 w0 S σ ρ rk Q (f ds w) → r vs H Q) : OkE K R C κ (tCB r ta) rk (fun ρ => bnd (m ρ) f) := by
  intro S0 H0 w0 S H σ ρ w Q rl q
  refine h S0 H0 w0 S H σ ρ w _ rl ?_
  cases e : m ρ w with
  | stuck => simp only [bnd_stuck e] at q; exact q.elim
  | exc c fs w1 => simp only [bnd_exc e] at q; exact q
  | ok ds w1 =>
    simp only [bnd_ok e] at q
    intro vs S1 H1 r1 s1 o1
    exact hr S0 H0 w0 S1 H1 σ ρ w1 vs ds Q r1 (resAll_seen r1 hk o1) (postE_mono s1 q)
theorem okCB {ta : TA} {ks : List Kd} {m : Rho → M W (List D)} {r : Rb} {g : OpN} (hr : CbP K r g) (h : OkA K R C κ ta ks m) (hk : ∀ k ∈ ks, k ≠ .res := by decide) : OkE K R C κ (tCB r ta) .dat (fun ρ => bnd (m ρ) fun ds => lift (g ds)) := by
  refine okCB' h hk fun S0 H0 w0 S H σ ρ w vs ds Q rl hs q => ?_
  cases e : g ds with
  | none => simp only [e, lift_none] at q; exact q.elim
  | some z =>
    simp only [e, lift_some] at q
    exact hr S H vs ds z Q rl.out.sub hs e fun v hv => q v S H rl (fun _ _ z => z) hv
theorem okCBL {ta : TA} {ks : List Kd} {m : Rho → M W (List D)} {r : Rb} {g : List D → Option (List D)} (hr : CbL K r g) (h : OkA K R C κ ta ks m) (hk : ∀ k ∈ ks, k ≠ .res := by decide) : OkE K R C κ (tCB r ta) .own (fun ρ => bnd (m ρ) fun ds => lift ((g ds).map .list)) := by
  refine okCB' h hk fun S0 H0 w0 S H σ ρ w vs ds Q rl hs q => ?_
  cases e : g ds with
  | none => simp only [e, Option.map_none, lift_none] at q; exact q.elim
  | some z =>
    simp only [e, Option.map_some, lift_some] at q
    exact hr S H vs ds z Q rl.out.sub hs e fun p us hp hv => q (.ref p) S _ (rl.allocOwn hp) (fun _ _ z => z) (res_new rl hp hv)
theorem okCBU {ta : TA} {ks : List Kd} {m : Rho → M W (List D)} {r : Rb} {g : List D → Option (List D)} (hr : CbU K r g) (h : OkA K R C κ ta ks m) (hk : ∀ k ∈ ks, k ≠ .res := by decide) : OkE K R C κ (tCB r ta) .dat (fun ρ => bnd (m ρ) fun ds => lift ((g ds).map .tuple)) := by
  refine okCB' h hk fun S0 H0 w0 S H σ ρ w vs ds Q rl hs q => ?_
  cases e : g ds with
  | none => simp only [e, Option.map_none, lift_none] at q; exact q.elim
  | some z =>
    simp only [e, Option.map_some, lift_some] at q
    refine hr S H vs ds z Q rl.out.sub hs e (fun p us hp hv => ?_) fun v hv => q v S H rl (fun _ _ z => z) hv
    have e := le_upd (ho := .tup us) (rl.out.s_none hp)
    exact q (.ref p) _ _ (rl.alloc hp) e (.tup (SqT.of upd_same) (dpAll_mono e _ _ hv))
end
end B

namespace B
open PySem L2

section
variable {K : PySem.W.Frag} {W : Type} {R : Rs W} {C : Cl}
variable {κ : List Kd} {S0 H0 S H S' H' : Hp} {w0 w w' : W} {σ : L2.St} {ρ : Rho}

/-! ### calls of the program's own defs -/
def ArgOk (K : PySem.W.Frag) (R : Rs W) (S H : Hp) (w : W) : Kd → V → D → Prop
  | .dat, v, d => DV K S v d
  | .own, _, _ => False
  | .bor, v, d => ∃ q ho, v = .ref q ∧ H q = some ho ∧ ¬ R.fp w q ∧ OwnRep K S ho d
  | .res, v, d => v = .ref R.root ∧ d = .none
inductive ArgAll (K : PySem.W.Frag) (R : Rs W) (S H : Hp) (w : W) : List Kd → List V → List D → Prop
  | nil : ArgAll K R S H w [] [] []
  | cons {k ks v vs d ds} : ArgOk K R S H w k v d → ArgAll K R S H w ks vs ds → ArgAll K R S H w (k :: ks) (v :: vs) (d :: ds)
structure In (R : Rs W) (S H : Hp) (w : W) : Prop where
  sub : ∀ a o, S a = some o → H a = some o
  res : R.ok w H
  resS : ∀ a, R.fp w a → S a = none
def PostF (K : PySem.W.Frag) (R : Rs W) (cn : String → Value → Prop) (x : Bool) (rk : Kd) (S H : Hp) (w : W) (Q : VK) (E : XK) : Res W D → Prop
  | .ok d w' => ∀ v S' H', Out R S H w S' H' w' → RetOk K R H S' H' w' rk v d → Q v H'
  | .exc c fs w' => x = true ∧ ∀ cls dd S' H', Out R S H w S' H' w' → cn c cls → XOk R S' H' w' dd fs → E cls (some dd) H'
  | .stuck => False
/-- the promise: the def answers what F says -/
def spB (K : PySem.W.Frag) (R : Rs W) (cn : String → Value → Prop) (x : Bool) (κs : List Kd) (rk : Kd) (F : List D → M W D) : Sp := fun vs H Q E =>
  ∃ S w ds, In R S H w ∧ ArgAll K R S H w κs vs ds ∧ PostF K R cn x rk S H w Q E (F ds w)

theorem Out.refl (i : In R S H w) : Out R S H w S H w :=
  ⟨i.sub, fun _ _ h => h, fun a h h0 => absurd h0 h, fun _ _ h _ => h, fun _ h => h, i.res, i.resS, fun a h h0 => absurd h h0⟩
theorem Out.in_ (o : Out R S0 H0 w0 S H w) : In R S H w := ⟨o.sub, o.res, o.resS⟩
theorem Out.trans (o : Out R S0 H0 w0 S H w) (u : Out R S H w S' H' w') : Out R S0 H0 w0 S' H' w' where
  sub := u.sub
  sub0 := fun a x h => u.sub0 a x (o.sub0 a x h)
  new := fun a h h0 => by
    cases q : S a with
    | none =>
      have := u.new a h q
      cases q2 : H0 a with
      | none => rfl
      | some y => exact absurd this (o.stay a (by rw [q2]; exact Option.some_ne_none _))
    | some y => exact o.new a (by rw [q]; exact Option.some_ne_none _) h0
  keep := fun a x h hf => u.keep a x (o.keep a x h hf) fun hf2 => by
    have := o.resN a hf2 hf
    rw [this] at h; cases h
  stay := fun a h => u.stay a (o.stay a h)
  res := u.res
  resS := u.resS
  resN := fun a h h0 => by
    by_cases q : R.fp w a
    · exact o.resN a q h0
    · have := u.resN a h q
      cases q2 : H0 a with
      | none => rfl
      | some y => exact absurd this (o.stay a (by rw [q2]; exact Option.some_ne_none _))
theorem Rel.after (r : Rel K R κ S0 H0 w0 S H σ ρ w) (u : Out R S H w S' H' w') : Rel K R κ S0 H0 w0 S' H' σ ρ w' := by
  obtain ⟨oa, r⟩ := r
  refine ⟨oa, r.out.trans u, r.len, fun i d h => ?_, r.inj⟩
  obtain ⟨v, h1, h2⟩ := r.slot i d h
  refine ⟨v, h1, ?_⟩
  cases hk : kd κ i with
  | dat =>
    rw [hk] at h2
    exact dp_mono u.sub0 _ _ h2
  | own =>
    rw [hk] at h2
    obtain ⟨g1, g2, g3, g4, ho, g5, g6⟩ := h2
    refine ⟨g1, ?_, g3, fun hf => ?_, ho, u.keep _ _ g5 g4, own_mono u.sub0 g6⟩
    · cases q : S' (oa i) with
      | none => rfl
      | some y =>
        have := u.new _ (by rw [q]; exact Option.some_ne_none _) g2
        rw [this] at g5; cases g5
    · have := u.resN _ hf g4
      rw [this] at g5; cases g5
  | bor =>
    rw [hk] at h2
    obtain ⟨q, ho, g1, g2, g3, g4⟩ := h2
    exact ⟨q, ho, g1, g2, g3, own_mono u.sub0 g4⟩
  | res => rw [hk] at h2; exact h2
theorem RetOk.res {rk : Kd} {v : V} {d : D} (r : Rel K R κ S0 H0 w0 S H σ ρ w) (u : Out R S H w S' H' w') (h : RetOk K R H S' H' w' rk v d) : ResOk K R κ S0 H0 w0 S' H' σ ρ w' rk v d := by
  cases rk with
  | dat => exact h
  | own =>
    obtain ⟨p, ho, g1, g2, g3, g4, g5, g6⟩ := h
    refine ⟨p, ho, g1, g2, r.out.h0_none g3, g4, g5, g6, fun i e hi hk hs => ?_⟩
    exact fresh_slot r g3 i e hi hk hs
  | bor => exact h.elim
  | res => exact h.elim
theorem ResOk.arg {k : Kd} {v : V} {d : D} (r : Rel K R κ S0 H0 w0 S H σ ρ w) (hk : k ≠ .own) (h : ResOk K R κ S0 H0 w0 S H σ ρ w k v d) : ArgOk K R S H w k v d := by
  cases k with
  | dat => exact h
  | own => exact absurd rfl hk
  | bor =>
    obtain ⟨i, h1, h2, h3⟩ := h
    obtain ⟨oa, r⟩ := r
    obtain ⟨u, g1, g2⟩ := r.slot i d h1
    rw [h2] at g1
    have e : v = u := Option.some.inj (Option.some.inj g1)
    subst e
    rcases h3 with h3 | h3
    · rw [h3] at g2
      obtain ⟨k1, _, _, k4, ho, k2, k3⟩ := g2
      exact ⟨_, ho, k1, k2, k4, k3⟩
    · rw [h3] at g2
      obtain ⟨q, ho, k1, k2, k3, k4⟩ := g2
      refine ⟨q, ho, k1, r.out.keep q ho k2 k3, fun hf => ?_, k4⟩
      have := r.out.resN q hf k3
      rw [this] at k2; cases k2
  | res => exact h
theorem resAll_arg {ks : List Kd} {vs : List V} {ds : List D} (r : Rel K R κ S0 H0 w0 S H σ ρ w) (hk : ∀ k ∈ ks, k ≠ .own) (h : ResAll K R κ S0 H0 w0 S H σ ρ w ks vs ds) : ArgAll K R S H w ks vs ds := by
  induction h with
  | nil => exact .nil
  | cons h1 h2 ih => exact .cons (h1.arg r (hk _ List.mem_cons_self)) (ih fun k h => hk k (List.mem_cons_of_mem _ h))

/-- a callee that lets nothing out -/
def noX {α : Type} (x : M W α) : M W α := fun w => match x w with
  | .exc _ _ _ => .stuck
  | r => r
theorem noX_ok {α : Type} {x : M W α} {a : α} (h : x w = .ok a w') : noX x w = .ok a w' := by unfold noX; rw [h]
@[simp] theorem noX_ret {α : Type} (a : α) : noX (ret a : M W α) = ret a := (rfl)
theorem okCall0 {ta : TA} {ks : List Kd} {m : Rho → M W (List D)} {cn : String → Value → Prop} {rk : Kd} {F : List D → M W D} {E : XK} (h : OkA K R C κ ta ks m) (hk : ∀ k ∈ ks, k ≠ .own := by decide) :
    OkE K R C κ (tCall (spB K R cn false ks rk F) [] E ta) rk (fun ρ => bnd (m ρ) fun ds => noX (F ds)) := by
  intro S0 H0 w0 S H σ ρ w Q rl q
  refine h S0 H0 w0 S H σ ρ w _ rl ?_
  cases e : m ρ w with
  | stuck => simp only [bnd_stuck e] at q; exact q.elim
  | exc c fs w1 => simp only [bnd_exc e] at q; exact q
  | ok ds w1 =>
    simp only [bnd_ok e, noX] at q
    intro vs S1 H1 r1 s1 o1
    rw [List.append_nil]
    refine ⟨S1, w1, ds, r1.out.in_, resAll_arg r1 hk o1, ?_⟩
    cases e2 : F ds w1 with
    | stuck => rw [e2] at q; exact q.elim
    | exc c fs w2 => rw [e2] at q; exact q.elim
    | ok d w2 =>
      rw [e2] at q
      exact fun v S2 H2 u2 o2 => q v S2 H2 (r1.after u2) (fun a o z => u2.sub0 a o (s1 a o z)) (o2.res r1 u2)
theorem okCallX {ta : TA} {ks : List Kd} {m : Rho → M W (List D)} {rk : Kd} {F : List D → M W D} (h : OkA K R C κ ta ks m) (hk : ∀ k ∈ ks, k ≠ .own := by decide) :
    OkE K R C κ (tCallS (spB K R C.cn true ks rk F) (WE C.wx) ta) rk (fun ρ => bnd (m ρ) F) := by
  intro S0 H0 w0 S H σ ρ w Q rl q
  refine h S0 H0 w0 S H σ ρ w _ rl ?_
  cases e : m ρ w with
  | stuck => simp only [bnd_stuck e] at q; exact q.elim
  | exc c fs w1 => simp only [bnd_exc e] at q; exact q
  | ok ds w1 =>
    simp only [bnd_ok e] at q
    intro vs S1 H1 r1 s1 o1
    refine ⟨S1, w1, ds, r1.out.in_, resAll_arg r1 hk o1, ?_⟩
    cases e2 : F ds w1 with
    | stuck => rw [e2] at q; exact q.elim
    | exc c fs w2 =>
      rw [e2] at q
      exact ⟨rfl, fun cls dd S2 H2 u2 hc hx => q cls dd S2 H2 (r1.after u2) hc hx⟩
    | ok d w2 =>
      rw [e2] at q
      exact fun v S2 H2 u2 o2 => q v S2 H2 (r1.after u2) (fun a o z => u2.sub0 a o (s1 a o z)) (o2.res r1 u2)

/-! ### statements -/
variable {κb κc κ1 κ2 : List Kd} {rk : Kd}
def mSeq (m n : MS W) : MS W := fun ρ => bnd (m ρ) fun o => match o with
  | .nx ρ' => n ρ'
  | .rt d => ret (.rt d)
  | .bk ρ' => ret (.bk ρ')
  | .ct ρ' => ret (.ct ρ')
theorem postS_mono {κn : List Kd} {E : Ends} {r : Res W O} {S1 : Hp} (s1 : ∀ a o, S a = some o → S1 a = some o) (h : PostS K R C κn κb κc rk S0 H0 w0 S E r) : PostS K R C κn κb κc rk S0 H0 w0 S1 E r := by
  cases r with
  | stuck => exact h
  | exc c fs w' => exact h
  | ok o w' =>
    cases o with
    | nx ρ' => exact fun σ' S' H' r' s' => h σ' S' H' r' fun a o z => s' a o (s1 a o z)
    | rt d => exact h
    | bk ρ' => exact fun σ' S' H' r' s' => h σ' S' H' r' fun a o z => s' a o (s1 a o z)
    | ct ρ' => exact fun σ' S' H' r' s' => h σ' S' H' r' fun a o z => s' a o (s1 a o z)
theorem okSeq {t u : TS} {m n : MS W} (h1 : OkS K R C κb κc rk κ t m κ1) (h2 : OkS K R C κb κc rk κ1 u n κ2) :
    OkS K R C κb κc rk κ (tSeq t u) (mSeq m n) κ2 := by
  intro S0 H0 w0 S H σ ρ w E rl q
  refine h1 S0 H0 w0 S H σ ρ w { E with nx := u E } rl ?_
  unfold mSeq at q
  cases e : m ρ w with
  | stuck => rw [bnd_stuck e] at q; exact q.elim
  | exc c fs w1 => rw [bnd_exc e] at q; exact q
  | ok o w1 =>
    rw [bnd_ok e] at q
    cases o with
    | nx ρ' =>
      intro σ' S1 H1 r1 s1
      exact h2 S0 H0 w0 S1 H1 σ' ρ' w1 E r1 (postS_mono s1 q)
    | rt d => exact q
    | bk ρ' => exact q
    | ct ρ' => exact q
def mNx : MS W := fun ρ => ret (.nx ρ)
theorem okNext : OkS K R C κb κc rk κ tNext mNx κ := by
  intro S0 H0 w0 S H σ ρ w E rl q
  exact q σ S H rl fun _ _ h => h
theorem okBreak : OkS K R C κ κc rk κ tBreak (fun ρ => ret (.bk ρ)) κ1 := by
  intro S0 H0 w0 S H σ ρ w E rl q
  exact q σ S H rl fun _ _ h => h
theorem okCont : OkS K R C κb κ rk κ tCont (fun ρ => ret (.ct ρ)) κ1 := by
  intro S0 H0 w0 S H σ ρ w E rl q
  exact q σ S H rl fun _ _ h => h
/-- an own slot becomes data ahead of a statement -/
theorem OkS.freeze {t : TS} {m : MS W} {i : Nat} (h : OkS K R C κb κc rk (κ.set i .dat) t m κ2) (hk : kd κ i = .own := by rfl) (hi : i < κ.length := by decide) : OkS K R C κb κc rk κ t m κ2 := by
  intro S0 H0 w0 S H σ ρ w E rl q
  obtain ⟨S1, r1, s1⟩ := rl.freeze hk hi
  exact h S0 H0 w0 S1 H σ ρ w E r1 (postS_mono s1 q)
/-- .. behind it -/
theorem OkS.freezeN {t : TS} {m : MS W} {i : Nat} (h : OkS K R C κb κc rk κ t m κ2) (hk : kd κ2 i = .own := by rfl) (hi : i < κ2.length := by decide) : OkS K R C κb κc rk κ t m (κ2.set i .dat) := by
  intro S0 H0 w0 S H σ ρ w E rl q
  refine h S0 H0 w0 S H σ ρ w E rl ?_
  cases e : m ρ w with
  | stuck => rw [e] at q; exact q
  | exc c fs w1 => rw [e] at q; exact q
  | ok o w1 =>
    rw [e] at q
    cases o with
    | nx ρ' =>
      intro σ' S1 H1 r1 s1
      obtain ⟨S2, r2, s2⟩ := r1.freeze hk hi
      exact q σ' S2 H1 r2 fun a o z => s2 a o (s1 a o z)
    | rt d => exact q
    | bk ρ' => exact q
    | ct ρ' => exact q
/-- behind a statement that never goes on, anything -/
theorem OkS.never {t : TS} {m : MS W} (h : OkS K R C κb κc rk κ t m κ1) (hn : ∀ ρ w ρ' w', m ρ w ≠ .ok (.nx ρ') w') : OkS K R C κb κc rk κ t m κ2 := by
  intro S0 H0 w0 S H σ ρ w E rl q
  refine h S0 H0 w0 S H σ ρ w E rl ?_
  cases e : m ρ w with
  | stuck => rw [e] at q; exact q
  | exc c fs w1 => rw [e] at q; exact q
  | ok o w1 =>
    rw [e] at q
    cases o with
    | nx ρ' => exact absurd e (hn ρ w ρ' w1)
    | rt d => exact q
    | bk ρ' => exact q
    | ct ρ' => exact q
theorem okPass : OkS K R C κb κc rk κ tNext mNx κ := okNext
def mDrop (m : ME W) : MS W := fun ρ => bnd (m ρ) fun _ => ret (.nx ρ)
theorem okDrop {te : TE} {k : Kd} {m : ME W} (h : OkE K R C κ te k m) : OkS K R C κb κc rk κ (tDrop te) (mDrop m) κ := by
  intro S0 H0 w0 S H σ ρ w E rl q
  refine h S0 H0 w0 S H σ ρ w _ rl ?_
  unfold mDrop at q
  cases e : m ρ w with
  | stuck => rw [bnd_stuck e] at q; exact q.elim
  | exc c fs w1 => rw [bnd_exc e] at q; exact fun cls dd S' H' r' hc hx => q cls dd σ S' H' r'.out hc hx
  | ok d w1 =>
    rw [bnd_ok e] at q
    exact fun v S1 H1 r1 s1 o1 => q σ S1 H1 r1 s1
def mRet (m : ME W) : MS W := fun ρ => bnd (m ρ) fun d => ret (.rt d)
theorem ResOk.ret {v : V} {d : D} (hk : rk = .dat ∨ rk = .own) (h : ResOk K R κ S0 H0 w0 S H σ ρ w rk v d) : RetOk K R H0 S H w rk v d := by
  rcases hk with rfl | rfl
  · exact h
  · obtain ⟨p, ho, g1, g2, g3, g4, g5, g6, _⟩ := h
    exact ⟨p, ho, g1, g2, g3, g4, g5, g6⟩
theorem okRet {te : TE} {m : ME W} (h : OkE K R C κ te rk m) (hk : rk = .dat ∨ rk = .own := by decide) : OkS K R C κb κc rk κ (tRet te) (mRet m) κ2 := by
  intro S0 H0 w0 S H σ ρ w E rl q
  refine h S0 H0 w0 S H σ ρ w _ rl ?_
  unfold mRet at q
  cases e : m ρ w with
  | stuck => rw [bnd_stuck e] at q; exact q.elim
  | exc c fs w1 => rw [bnd_exc e] at q; exact fun cls dd S' H' r' hc hx => q cls dd σ S' H' r'.out hc hx
  | ok d w1 =>
    rw [bnd_ok e] at q
    exact fun v S1 H1 r1 s1 o1 => q v S1 H1 r1.out (o1.ret hk)
/-- an own slot's list handed back -/
theorem okRetOwn {i : Nat} (hk : kd κ i = .own := by rfl) : OkS K R C κb κc .own κ (tRet (tVar i)) (mRet (mVar i)) κ2 := by
  intro S0 H0 w0 S H σ ρ w E rl q
  unfold mRet mVar at q
  cases e : ρ[i]? with
  | none => simp only [e, bnd_stk] at q; exact q.elim
  | some x =>
    cases x with
    | none => simp only [e, bnd_stk] at q; exact q.elim
    | some d =>
      simp only [e, bnd_ret] at q
      obtain ⟨oa, r'⟩ := id rl
      obtain ⟨v, h1, h2⟩ := r'.slot i d e
      rw [hk] at h2
      obtain ⟨g1, g2, g3, g4, ho, g5, g6⟩ := h2
      exact ⟨v, h1, q v S H r'.out ⟨_, ho, g1, g2, g3, g4, g5, g6⟩⟩
def mRetN : MS W := fun _ => ret (.rt .none)
theorem okRetN : OkS K R C κb κc .dat κ tRetN mRetN κ2 := by
  intro S0 H0 w0 S H σ ρ w E rl q
  exact q .non S H rl.out .non
def mIfS (c : Rho → M W Bool) (m n : MS W) : MS W := fun ρ => bnd (c ρ) fun b => if b then m ρ else n ρ
theorem okIfS {tc : TT} {t u : TS} {c : Rho → M W Bool} {m n : MS W} (hc : OkT K R C κ tc c) (h1 : OkS K R C κb κc rk κ t m κ2) (h2 : OkS K R C κb κc rk κ u n κ2) : OkS K R C κb κc rk κ (tIfS tc t u) (mIfS c m n) κ2 := by
  intro S0 H0 w0 S H σ ρ w E rl q
  refine hc S0 H0 w0 S H σ ρ w _ rl ?_
  unfold mIfS at q
  cases e : c ρ w with
  | stuck => rw [bnd_stuck e] at q; exact q.elim
  | exc c fs w1 => rw [bnd_exc e] at q; exact fun cls dd S' H' r' hc hx => q cls dd σ S' H' r'.out hc hx
  | ok b w1 =>
    rw [bnd_ok e] at q
    intro S1 H1 r1 s1
    cases b with
    | true => exact h1 S0 H0 w0 S1 H1 σ ρ w1 E r1 (postS_mono s1 q)
    | false => exact h2 S0 H0 w0 S1 H1 σ ρ w1 E r1 (postS_mono s1 q)
def mAsg (i : Nat) (m : ME W) : MS W := fun ρ => bnd (m ρ) fun d => ret (.nx (ρ.set i (some d)))
theorem okAsg {te : TE} {i : Nat} {m : ME W} (h : OkE K R C κ te .dat m) (hi : i < κ.length := by decide) : OkS K R C κb κc rk κ (tAsg te (gName i)) (mAsg i m) (κ.set i .dat) := by
  intro S0 H0 w0 S H σ ρ w E rl q
  refine h S0 H0 w0 S H σ ρ w _ rl ?_
  unfold mAsg at q
  cases e : m ρ w with
  | stuck => rw [bnd_stuck e] at q; exact q.elim
  | exc c fs w1 => rw [bnd_exc e] at q; exact fun cls dd S' H' r' hc hx => q cls dd σ S' H' r'.out hc hx
  | ok d w1 =>
    rw [bnd_ok e] at q
    exact fun v S1 H1 r1 s1 o1 => q _ S1 H1 (r1.setDat hi o1) s1
theorem okAsgOwn {te : TE} {i : Nat} {m : ME W} (h : OkE K R C κ te .own m) (hi : i < κ.length := by decide) : OkS K R C κb κc rk κ (tAsg te (gName i)) (mAsg i m) (κ.set i .own) := by
  intro S0 H0 w0 S H σ ρ w E rl q
  refine h S0 H0 w0 S H σ ρ w _ rl ?_
  unfold mAsg at q
  cases e : m ρ w with
  | stuck => rw [bnd_stuck e] at q; exact q.elim
  | exc c fs w1 => rw [bnd_exc e] at q; exact fun cls dd S' H' r' hc hx => q cls dd σ S' H' r'.out hc hx
  | ok d w1 =>
    rw [bnd_ok e] at q
    exact fun v S1 H1 r1 s1 o1 => q _ S1 H1 (r1.setOwn hi o1) s1

/-! targets of data -/
/-- but for the slots as, the same -/
def But (as : List Nat) (σ σ' : L2.St) : Prop := σ'.length = σ.length ∧ ∀ i, i ∉ as → σ'[i]? = σ[i]?
theorem But.refl {σ : L2.St} : But [] σ σ := ⟨rfl, fun _ _ => rfl⟩
/-- a target: what it makes of the slots -/
def OkG (κ : List Kd) (g : TG) (f : D → Rho → Option Rho) (κ' : List Kd) (as : List Nat) : Prop :=
  ∀ S0 H0 w0 S H σ ρ w v d ρ' (Q : L2.St → Hp → Prop), Rel K R κ S0 H0 w0 S H σ ρ w → DV K S v d → f d ρ = some ρ' → (∀ σ', But as σ σ' → Rel K R κ' S0 H0 w0 S H σ' ρ' w → Q σ' H) → g v σ H Q
def OkGs (κ : List Kd) (g : TGs) (f : List D → Rho → Option Rho) (κ' : List Kd) (as : List Nat) : Prop :=
  ∀ S0 H0 w0 S H σ ρ w vs ds ρ' (Q : L2.St → Hp → Prop), Rel K R κ S0 H0 w0 S H σ ρ w → DVs K S vs ds → f ds ρ = some ρ' → (∀ σ', But as σ σ' → Rel K R κ' S0 H0 w0 S H σ' ρ' w → Q σ' H) → g vs σ H Q
def gN (i : Nat) : D → Rho → Option Rho := fun d ρ => some (ρ.set i (some d))
theorem okGName {i : Nat} (hi : i < κ.length := by decide) : OkG (K := K) (R := R) κ (gName i) (gN i) (κ.set i .dat) [i] := by
  intro S0 H0 w0 S H σ ρ w v d ρ' Q rl hv hf q
  cases hf
  exact q _ ⟨List.length_set .., fun j hj => List.getElem?_set_ne fun e => hj (by rw [e]; exact List.mem_cons_self)⟩ (rl.setDat hi hv)
def gNil' : List D → Rho → Option Rho | [], ρ => some ρ | _, _ => none
def gCons' (f : D → Rho → Option Rho) (fs : List D → Rho → Option Rho) : List D → Rho → Option Rho
  | d :: ds, ρ => (f d ρ).bind (fs ds)
  | [], _ => none
theorem okGNil : OkGs (K := K) (R := R) κ gNil gNil' κ [] := by
  intro S0 H0 w0 S H σ ρ w vs ds ρ' Q rl hv hf q
  cases hv with
  | nil => cases hf; exact ⟨rfl, q σ .refl rl⟩
  | cons _ _ => cases hf
theorem okGCons {t : TG} {u : TGs} {f : D → Rho → Option Rho} {fs : List D → Rho → Option Rho} {as bs : List Nat} (h1 : OkG (K := K) (R := R) κ t f κ1 as) (h2 : OkGs (K := K) (R := R) κ1 u fs κ2 bs) : OkGs (K := K) (R := R) κ (gCons t u) (gCons' f fs) κ2 (as ++ bs) := by
  intro S0 H0 w0 S H σ ρ w vs ds ρ' Q rl hv hf q
  cases hv with
  | nil => cases hf
  | cons g1 g2 =>
    rename_i v vs d ds
    have hf' : (f d ρ).bind (fs ds) = some ρ' := hf
    cases e : f d ρ with
    | none => rw [e] at hf'; cases hf'
    | some ρ1 =>
      rw [e] at hf'
      exact ⟨v, vs, rfl, h1 S0 H0 w0 S H σ ρ w v d ρ1 _ rl g1 e fun σ1 l1 r1 => h2 S0 H0 w0 S H σ1 ρ1 w vs ds ρ' Q r1 g2 hf' fun σ2 l2 r2 => q σ2 ⟨l2.1.trans l1.1, fun j hj => (l2.2 j fun z => hj (List.mem_append_right _ z)).trans (l1.2 j fun z => hj (List.mem_append_left _ z))⟩ r2⟩
def gT (n : Nat) (fs : List D → Rho → Option Rho) : D → Rho → Option Rho
  | .tuple ds, ρ => if ds.length = n then fs ds ρ else none
  | _, _ => none
theorem okGTup {t : TGs} {n : Nat} {fs : List D → Rho → Option Rho} {as : List Nat} (h : OkGs (K := K) (R := R) κ t fs κ2 as) : OkG (K := K) (R := R) κ (gTup K n t) (gT n fs) κ2 as := by
  intro S0 H0 w0 S H σ ρ w v d ρ' Q rl hv hf q
  unfold gT at hf
  split at hf
  · split at hf
    · rename_i hl
      cases hv with
      | tup g1 g2 => exact ⟨_, _, rfl, sqT_sub rl.out.sub g1, by rw [dvs_len g2]; exact hl, h S0 H0 w0 S H σ ρ w _ _ ρ' Q rl g2 hf q⟩
    · cases hf
  · cases hf
def mAsgT (g : D → Rho → Option Rho) (m : ME W) : MS W := fun ρ => bnd (m ρ) fun d => bnd (lift (g d ρ)) fun ρ' => ret (.nx ρ')
theorem okAsgT {te : TE} {g : TG} {f : D → Rho → Option Rho} {m : ME W} {as : List Nat} (h : OkE K R C κ te .dat m) (hg : OkG (K := K) (R := R) κ g f κ2 as) : OkS K R C κb κc rk κ (tAsg te g) (mAsgT f m) κ2 := by
  intro S0 H0 w0 S H σ ρ w E rl q
  refine h S0 H0 w0 S H σ ρ w _ rl ?_
  unfold mAsgT at q
  cases e : m ρ w with
  | stuck => rw [bnd_stuck e] at q; exact q.elim
  | exc c fs w1 => rw [bnd_exc e] at q; exact fun cls dd S' H' r' hc hx => q cls dd σ S' H' r'.out hc hx
  | ok d w1 =>
    rw [bnd_ok e] at q
    intro v S1 H1 r1 s1 o1
    cases e2 : f d ρ with
    | none => rw [e2, lift_none, bnd_stk] at q; exact q.elim
    | some ρ' =>
      rw [e2, lift_some, bnd_ret] at q
      exact hg S0 H0 w0 S1 H1 σ ρ w1 v d ρ' _ r1 o1 e2 fun σ' _ r' => q σ' S1 H1 r' s1

/-! name op= e -/
def mAug (i : Nat) (g : Op2) (m : ME W) : MS W := fun ρ => bnd (mVar i ρ) fun d => bnd (m ρ) fun e => bnd (lift (g d e)) fun z => ret (.nx (ρ.set i (some z)))
theorem okAug {te : TE} {i : Nat} {k : Kd} {m : ME W} {ti : TIp} {g : Op2} (hr : OpP K ti g) (h : OkE K R C κ te k m) (hk : kd κ i = .dat := by rfl) (hk2 : k ≠ .res := by decide) (hi : i < κ.length := by decide) : OkS K R C κb κc rk κ (tAug i te ti) (mAug i g m) (κ.set i .dat) := by
  intro S0 H0 w0 S H σ ρ w E rl q
  unfold mAug mVar at q
  cases e0 : ρ[i]? with
  | none => simp only [e0, bnd_stk] at q; exact q.elim
  | some x =>
    cases x with
    | none => simp only [e0, bnd_stk] at q; exact q.elim
    | some d =>
      simp only [e0, bnd_ret] at q
      obtain ⟨oa, r'⟩ := id rl
      obtain ⟨v, h1, h2⟩ := r'.slot i d e0
      rw [hk] at h2
      refine ⟨v, h1, h S0 H0 w0 S H σ ρ w _ rl ?_⟩
      cases e : m ρ w with
      | stuck => rw [bnd_stuck e] at q; exact q.elim
      | exc c fs w1 => rw [bnd_exc e] at q; exact fun cls dd S' H' r' hc hx => q cls dd σ S' H' r'.out hc hx
      | ok d2 w1 =>
        rw [bnd_ok e] at q
        intro v2 S1 H1 r1 s1 o1
        cases e2 : g d d2 with
        | none => rw [e2, lift_none, bnd_stk] at q; exact q.elim
        | some z =>
          rw [e2, lift_some, bnd_ret] at q
          exact hr S1 H1 v v2 d d2 z _ r1.out.sub (.inl (dp_mono s1 _ _ h2)) (o1.seen r1 hk2) e2 fun u hu => q _ S1 H1 (r1.setDat hi hu) s1
theorem oIpAdd : OpP K (ipI fun i j => i + j) gAdd := by
  intro S H x y d e u Q sub hx hy h q
  unfold gAdd at h; split at h
  · cases h
    rw [seen_int hx, seen_int hy]
    exact ⟨_, _, rfl, rfl, q _ (.int _)⟩
  · cases h
theorem oIpSub : OpP K (ipI fun i j => i - j) gMns := by
  intro S H x y d e u Q sub hx hy h q
  unfold gMns at h; split at h
  · cases h
    rw [seen_int hx, seen_int hy]
    exact ⟨_, _, rfl, rfl, q _ (.int _)⟩
  · cases h

/-! an own list changes: x.append(e), x.extend(e) -/
/-- a list, or stuck -/
def theL : D → M W D | .list ds => ret (.list ds) | _ => stk
def mMut (i : Nat) (f : D → List D → Option D) (m : Rho → M W (List D)) : MS W := fun ρ => bnd (mVar i ρ) fun d => bnd (theL d) fun d => bnd (m ρ) fun es => bnd (lift (f d es)) fun z => ret (.nx (ρ.set i (some z)))
def gApp : D → List D → Option D | .list ds, [e] => if ds.length < 1000000 then some (.list (ds ++ [e])) else none | _, _ => none
def gExt : D → List D → Option D | .list ds, [.list es] => if ds.length + es.length ≤ 1000000 then some (.list (ds ++ es)) else none | _, _ => none
def MutP (K : PySem.W.Frag) (r : V → List V → Hp → VK → Prop) (f : D → List D → Option D) : Prop :=
  ∀ S H p vs ds us es z (Q : VK), (∀ a o, S a = some o → H a = some o) → H p = some (.lst vs) → DVs K S vs ds → SeenAll K S H us es → f (.list ds) es = some z →
    (∀ vs' ds', z = .list ds' → DVs K S vs' ds' → Q .non (upd H p (.lst vs'))) → r (.ref p) us H Q
/-- .. its arguments data -/
def MutD (K : PySem.W.Frag) (r : V → List V → Hp → VK → Prop) (f : D → List D → Option D) : Prop :=
  ∀ S H p vs ds us es z (Q : VK), (∀ a o, S a = some o → H a = some o) → H p = some (.lst vs) → DVs K S vs ds → DVs K S us es → f (.list ds) es = some z →
    (∀ vs' ds', z = .list ds' → DVs K S vs' ds' → Q .non (upd H p (.lst vs'))) → r (.ref p) us H Q
theorem ownRep_list {ho : HO} {ds : List D} (h : OwnRep K S ho (.list ds)) : ∃ vs, ho = .lst vs ∧ DVs K S vs ds := by
  cases ho with
  | lst vs => exact ⟨vs, rfl, h⟩
  | _ => exact h.elim
theorem okMut' {ta : TA} {ks : List Kd} {i : Nat} {m : Rho → M W (List D)} {r : V → List V → Hp → VK → Prop} {f : D → List D → Option D} (h : OkA K R C κ ta ks m) (hk : kd κ i = .own)
    (hr : ∀ S0 H0 w0 S H σ ρ w p vs ds us es z (Q : VK), Rel K R κ S0 H0 w0 S H σ ρ w → H p = some (.lst vs) → DVs K S vs ds → ResAll K R κ S0 H0 w0 S H σ ρ w ks us es → f (.list ds) es = some z →
      (∀ vs' ds', z = .list ds' → DVs K S vs' ds' → Q .non (upd H p (.lst vs'))) → r (.ref p) us H Q) :
    OkS K R C κb κc rk κ (tDrop (tBM K "list" r (tVar i) ta)) (mMut i f m) κ := by
  intro S0 H0 w0 S H σ ρ w E rl q
  unfold mMut mVar at q
  cases e0 : ρ[i]? with
  | none => simp only [e0, bnd_stk] at q; exact q.elim
  | some x =>
    cases x with
    | none => simp only [e0, bnd_stk] at q; exact q.elim
    | some d =>
      simp only [e0, bnd_ret] at q
      obtain ⟨p, ho, hσ, hp, hr0, hwr⟩ := rl.write hk e0 (d' := d)
      obtain ⟨ds, rfl⟩ : ∃ ds, d = .list ds := by cases d <;> first | exact ⟨_, rfl⟩ | exact q.elim
      have q : PostS K R C κ κb κc rk S0 H0 w0 S E (bnd (m ρ) (fun es => bnd (lift (f (.list ds) es)) fun z => ret (.nx (ρ.set i (some z)))) w) := q
      obtain ⟨vs, rfl, hv⟩ := ownRep_list hr0
      refine ⟨_, hσ, .inl ⟨rfl, _, .inl (.inl hp)⟩, h S0 H0 w0 S H σ ρ w _ rl ?_⟩
      cases e : m ρ w with
      | stuck => rw [bnd_stuck e] at q; exact q.elim
      | exc c fs w1 => rw [bnd_exc e] at q; exact fun cls dd S' H' r' hc hx => q cls dd σ S' H' r'.out hc hx
      | ok es w1 =>
        rw [bnd_ok e] at q
        intro us S1 H1 r1 s1 o1
        cases e2 : f (.list ds) es with
        | none => rw [e2, lift_none, bnd_stk] at q; exact q.elim
        | some z =>
          rw [e2, lift_some, bnd_ret] at q
          obtain ⟨p', ho', hσ', hp', hr', hwr'⟩ := r1.write hk e0 (d' := z)
          rw [hσ] at hσ'
          have ep : p = p' := V.ref.inj (Option.some.inj (Option.some.inj hσ'))
          subst ep
          obtain ⟨vs1, rfl, hv1⟩ := ownRep_list hr'
          refine hr S0 H0 w0 S1 H1 σ ρ w1 p vs1 ds us es z _ r1 hp' hv1 o1 e2 fun vs' ds' ez hv' => ?_
          subst ez
          exact q σ S1 _ (hwr' (.lst vs') hv') s1
theorem okMut {ta : TA} {ks : List Kd} {i : Nat} {m : Rho → M W (List D)} {r : V → List V → Hp → VK → Prop} {f : D → List D → Option D} (hr : MutP K r f) (h : OkA K R C κ ta ks m) (hk : kd κ i = .own := by rfl) (hks : ∀ k ∈ ks, k ≠ .res := by decide) :
    OkS K R C κb κc rk κ (tDrop (tBM K "list" r (tVar i) ta)) (mMut i f m) κ :=
  okMut' h hk fun S0 H0 w0 S H σ ρ w p vs ds us es z Q rl hp hv ho hf q => hr S H p vs ds us es z Q rl.out.sub hp hv (resAll_seen rl hks ho) hf q
theorem okMutD {ta : TA} {ks : List Kd} {i : Nat} {m : Rho → M W (List D)} {r : V → List V → Hp → VK → Prop} {f : D → List D → Option D} (hr : MutD K r f) (h : OkA K R C κ ta ks m) (hk : kd κ i = .own := by rfl) (hks : ∀ k ∈ ks, k = .dat := by decide) :
    OkS K R C κb κc rk κ (tDrop (tBM K "list" r (tVar i) ta)) (mMut i f m) κ :=
  okMut' h hk fun S0 H0 w0 S H σ ρ w p vs ds us es z Q rl hp hv ho hf q => hr S H p vs ds us es z Q rl.out.sub hp hv (resAll_dats hks ho) hf q
theorem sz_lt' {n : Nat} (h : n < 1000000) : n < sizeLine := Nat.lt_of_lt_of_le h (by decide)
theorem muApp : MutD K rAppend gApp := by
  intro S H p vs ds us es z Q sub hp hv hu hf q
  unfold gApp at hf
  split at hf
  · rename_i ed
    cases ed
    split at hf
    · rename_i hl
      cases hf
      cases hu with
      | cons g1 g2 =>
        cases g2
        exact ⟨p, vs, _, rfl, rfl, hp, by rw [dvs_len hv]; exact sz_lt' hl, q _ _ rfl (dvs_app hv (.cons g1 .nil))⟩
    · cases hf
  · cases hf
theorem muExt : MutP K rExtend gExt := by
  intro S H p vs ds us es z Q sub hp hv hu hf q
  unfold gExt at hf
  split at hf
  · rename_i ed
    cases ed
    split at hf
    · rename_i hl
      cases hf
      cases hu with
      | cons g1 g2 =>
        cases g2
        obtain ⟨p2, vs2, rfl, h2, hv2⟩ := seen_list sub g1
        refine ⟨p, p2, vs, vs2, rfl, rfl, hp, h2, ?_, q _ _ rfl (dvs_app hv hv2)⟩
        rw [dvs_len hv, dvs_len hv2]
        exact sz_le hl
    · cases hf
  · cases hf

/-! x[i] = e, x an own list -/
def mSetI (i : Nat) (mi me : ME W) : MS W := fun ρ => bnd (me ρ) fun e => bnd (mVar i ρ) fun d => bnd (mi ρ) fun k => match d, k with
  | .list ds, .int j => bnd (lift (ixN ds.length j)) fun n => ret (.nx (ρ.set i (some (.list (ds.set n e)))))
  | _, _ => stk
theorem okSetI {te ti : TE} {i : Nat} {ki : Kd} {mi me : ME W} (he : OkE K R C κ te .dat me) (hi : OkE K R C κ ti ki mi) (hk : kd κ i = .own := by rfl) (hki : ki ≠ .res := by decide) :
    OkS K R C κb κc rk κ (tAsg te (gSub (tVar i) ti rSetL)) (mSetI i mi me) κ := by
  intro S0 H0 w0 S H σ ρ w E rl q
  refine he S0 H0 w0 S H σ ρ w _ rl ?_
  unfold mSetI at q
  cases e : me ρ w with
  | stuck => rw [bnd_stuck e] at q; exact q.elim
  | exc c fs w1 => rw [bnd_exc e] at q; exact fun cls dd S' H' r' hc hx => q cls dd σ S' H' r'.out hc hx
  | ok u w1 =>
    rw [bnd_ok e] at q
    intro v S1 H1 r1 s1 o1
    unfold mVar at q
    cases e0 : ρ[i]? with
    | none => simp only [e0, bnd_stk] at q; exact q.elim
    | some x =>
      cases x with
      | none => simp only [e0, bnd_stk] at q; exact q.elim
      | some d =>
        simp only [e0, bnd_ret] at q
        obtain ⟨p, ho, hσ, hp, hr0, hwr⟩ := r1.write hk e0 (d' := d)
        refine ⟨_, hσ, hi S0 H0 w0 S1 H1 σ ρ w1 _ r1 ?_⟩
        cases e2 : mi ρ w1 with
        | stuck => rw [bnd_stuck e2] at q; exact q.elim
        | exc c fs w2 => rw [bnd_exc e2] at q; exact fun cls dd S' H' r' hc hx => q cls dd σ S' H' r'.out hc hx
        | ok k w2 =>
          rw [bnd_ok e2] at q
          intro vk S2 H2 r2 s2 o2
          cases d with
          | list ds =>
            cases k with
            | int j =>
              cases e3 : ixN ds.length j with
              | none => simp only [e3, lift_none, bnd_stk] at q; exact q.elim
              | some n =>
                simp only [e3, lift_some, bnd_ret] at q
                obtain ⟨p', ho', hσ', hp', hr', hwr'⟩ := r2.write hk e0 (d' := .list (ds.set n u))
                rw [hσ] at hσ'
                have ep : p = p' := V.ref.inj (Option.some.inj (Option.some.inj hσ'))
                subst ep
                obtain ⟨vs1, rfl, hv1⟩ := ownRep_list hr'
                rw [seen_int (o2.seen r2 hki)]
                exact ⟨p, vs1, j, n, rfl, rfl, hp', by rw [dvs_len hv1]; exact e3, q σ S2 _ (hwr' (.lst (vs1.set n v)) (dvs_set n hv1 (dp_mono s2 _ _ o1))) fun a o z => s2 a o (s1 a o z)⟩
            | _ => exact q.elim
          | _ => exact q.elim
end
end B

namespace B
open PySem L2

section
variable {K : PySem.W.Frag} {W : Type} {R : Rs W} {C : Cl}
variable {κ : List Kd} {S0 H0 S H S' H' : Hp} {w0 w w' : W} {σ : L2.St} {ρ : Rho}
variable {κb κc κ1 κ2 : List Kd} {rk : Kd}

/-! ### what is walked -/
def Yields (K : PySem.W.Frag) (R : Rs W) (J : It) (S0 H0 : Hp) (w0 : W) (S1 : Hp) (ds : List D) : Prop :=
  ∀ i S H w, Out R S0 H0 w0 S H w → (∀ a o, S1 a = some o → S a = some o) →
    (ds.length ≤ i → J.stop i H) ∧ ∀ d, ds[i]? = some d → J.go i H ∧ ∀ x H', J.yld i H x H' →
      (H' = H ∧ DV K S x d) ∨ ∃ p us es, H p = none ∧ H' = upd H p (.tup us) ∧ x = .ref p ∧ d = .tuple es ∧ DVs K S us es
def PostI (K : PySem.W.Frag) (R : Rs W) (C : Cl) (κ : List Kd) (S0 H0 : Hp) (w0 : W) (S : Hp) (σ : L2.St) (ρ : Rho) (Rf : It → Hp → Prop) : Res W (List D) → Prop
  | .ok ds w' => ∀ J S' H', Rel K R κ S0 H0 w0 S' H' σ ρ w' → (∀ a o, S a = some o → S' a = some o) → Yields K R J S0 H0 w0 S' ds → Rf J H'
  | .exc c fs w' => ∀ cls dd S' H', Rel K R κ S0 H0 w0 S' H' σ ρ w' → C.cn c cls → XOk R S' H' w' dd fs → C.wx cls (some dd) σ H'
  | .stuck => False
def OkI (K : PySem.W.Frag) (R : Rs W) (C : Cl) (κ : List Kd) (wi : TI) (m : Rho → M W (List D)) : Prop :=
  ∀ S0 H0 w0 S H σ ρ w Rf, Rel K R κ S0 H0 w0 S H σ ρ w → PostI K R C κ S0 H0 w0 S σ ρ Rf (m ρ w) → wi σ H Rf

/-! ### for -/
def mForL (g : D → Rho → Option Rho) (b : MS W) : List D → MS W
  | [], ρ => ret (.nx ρ)
  | d :: ds, ρ => bnd (lift (g d ρ)) fun ρ1 => bnd (b ρ1) fun o => match o with
    | .nx ρ2 => mForL g b ds ρ2
    | .ct ρ2 => mForL g b ds ρ2
    | .bk ρ2 => ret (.nx ρ2)
    | .rt d => ret (.rt d)
def mFor (src : Rho → M W (List D)) (g : D → Rho → Option Rho) (b : MS W) : MS W := fun ρ => bnd (src ρ) fun ds => mForL g b ds ρ

theorem okFor {wi : TI} {g : TG} {tb : TS} {src : Rho → M W (List D)} {f : D → Rho → Option Rho} {b : MS W} {as : List Nat} (hi : OkI K R C κ wi src) (hg : OkG (K := K) (R := R) κ g f κ1 as) (hb : OkS K R C κ κ rk κ1 tb b κ) :
    OkS K R C κb κc rk κ (tFor wi g tb) (mFor src f b) κ := by
  intro S0 H0 w0 S H σ ρ w E rl q
  refine hi S0 H0 w0 S H σ ρ w _ rl ?_
  unfold mFor at q
  cases e : src ρ w with
  | stuck => rw [bnd_stuck e] at q; exact q.elim
  | exc c fs w1 => rw [bnd_exc e] at q; exact fun cls dd S' H' r' hc hx => q cls dd σ S' H' r'.out hc hx
  | ok ds w1 =>
    rw [bnd_ok e] at q
    intro J S1 H1 r1 s1 y
    refine ⟨fun i m σ H => ∃ S ρ w, Rel K R κ S0 H0 w0 S H σ ρ w ∧ (∀ a o, S1 a = some o → S a = some o) ∧ m = ds.length - i ∧ i ≤ ds.length ∧ PostS K R C κ κb κc rk S0 H0 w0 S E (mForL f b (ds.drop i) ρ w),
      ⟨ds.length, S1, ρ, w1, r1, fun _ _ h => h, by omega, Nat.zero_le _, postS_mono s1 q⟩, ?_⟩
    rintro i m σ2 H2 ⟨S2, ρ2, w2, r2, s2, rfl, hi, q2⟩
    obtain ⟨yStop, yGo⟩ := y i S2 H2 w2 r2.out s2
    by_cases hlt : i < ds.length
    · rw [List.drop_eq_getElem_cons hlt] at q2
      obtain ⟨hgo, hy⟩ := yGo ds[i] (List.getElem?_eq_getElem hlt)
      refine .inr ⟨hgo, fun σ' H' => ∃ S ρ w, Rel K R κ S0 H0 w0 S H' σ' ρ w ∧ (∀ a o, S1 a = some o → S a = some o) ∧ PostS K R C κ κb κc rk S0 H0 w0 S E (mForL f b (ds.drop (i + 1)) ρ w),
        fun σ' H' ⟨S, ρ, w, a, b', c⟩ => ⟨ds.length - (i + 1), by omega, S, ρ, w, a, b', rfl, hlt, c⟩, fun x H' hyl => ?_⟩
      have key : ∀ S3 H3, Rel K R κ S0 H0 w0 S3 H3 σ2 ρ2 w2 → (∀ a o, S2 a = some o → S3 a = some o) → DV K S3 x ds[i] →
          g x σ2 H3 fun σ2 H2 => tb { E with nx := fun σ' H' => ∃ S ρ w, Rel K R κ S0 H0 w0 S H' σ' ρ w ∧ (∀ a o, S1 a = some o → S a = some o) ∧ PostS K R C κ κb κc rk S0 H0 w0 S E (mForL f b (ds.drop (i + 1)) ρ w), ct := fun σ' H' => ∃ S ρ w, Rel K R κ S0 H0 w0 S H' σ' ρ w ∧ (∀ a o, S1 a = some o → S a = some o) ∧ PostS K R C κ κb κc rk S0 H0 w0 S E (mForL f b (ds.drop (i + 1)) ρ w), bk := E.nx } σ2 H2 := by
        intro S3 H3 r3 s3 hv
        have q3 : PostS K R C κ κb κc rk S0 H0 w0 S3 E ((bnd (lift (f ds[i] ρ2)) fun ρ1 => bnd (b ρ1) fun o => match o with
          | .nx ρ2 => mForL f b (ds.drop (i + 1)) ρ2
          | .ct ρ2 => mForL f b (ds.drop (i + 1)) ρ2
          | .bk ρ2 => ret (.nx ρ2)
          | .rt d => ret (.rt d) : M W O) w2) := postS_mono s3 q2
        cases eg : f ds[i] ρ2 with
        | none => rw [eg, lift_none, bnd_stk] at q3; exact q3.elim
        | some ρ3 =>
          rw [eg, lift_some, bnd_ret] at q3
          refine hg S0 H0 w0 S3 H3 σ2 ρ2 w2 x ds[i] ρ3 _ r3 hv eg fun σ4 _ r4 => ?_
          refine hb S0 H0 w0 S3 H3 σ4 ρ3 w2 _ r4 ?_
          cases eb : b ρ3 w2 with
          | stuck => rw [bnd_stuck eb] at q3; exact q3.elim
          | exc c fs w5 => rw [bnd_exc eb] at q3; exact q3
          | ok o w5 =>
            rw [bnd_ok eb] at q3
            cases o with
            | nx ρ5 => exact fun σ5 S5 H5 r5 s5 => ⟨S5, ρ5, w5, r5, fun a o z => s5 a o (s3 a o (s2 a o z)), postS_mono s5 q3⟩
            | ct ρ5 => exact fun σ5 S5 H5 r5 s5 => ⟨S5, ρ5, w5, r5, fun a o z => s5 a o (s3 a o (s2 a o z)), postS_mono s5 q3⟩
            | bk ρ5 => exact fun σ5 S5 H5 r5 s5 => q3 σ5 S5 H5 r5 s5
            | rt d => exact q3
      rcases hy x H' hyl with ⟨rfl, hv⟩ | ⟨p, us, es, hp, rfl, rfl, ed, hv⟩
      · exact key S2 H' r2 (fun _ _ h => h) hv
      · have e := le_upd (ho := .tup us) (r2.out.s_none hp)
        refine key _ _ (r2.alloc hp) e ?_
        rw [ed]
        exact .tup (SqT.of upd_same) (dpAll_mono e _ _ hv)
    · have ei : i = ds.length := by omega
      subst ei
      rw [List.drop_length] at q2
      exact .inl ⟨yStop (Nat.le_refl _), q2 σ2 S2 H2 r2 fun _ _ h => h⟩

/-! ### while -/
def mWhileN (c : Rho → M W Bool) (b : MS W) : Nat → MS W
  | 0, _ => stk
  | n + 1, ρ => bnd (c ρ) fun k => if k then bnd (b ρ) fun o => match o with
    | .nx ρ2 => mWhileN c b n ρ2
    | .ct ρ2 => mWhileN c b n ρ2
    | .bk ρ2 => ret (.nx ρ2)
    | .rt d => ret (.rt d) else ret (.nx ρ)
theorem mWhileN_more {c : Rho → M W Bool} {b : MS W} : ∀ {n : Nat} {ρ : Rho} {w : W} {r : Res W O}, mWhileN c b n ρ w = r → r ≠ .stuck → mWhileN c b (n + 1) ρ w = r
  | 0, ρ, w, r, h, hr => absurd h.symm hr
  | n + 1, ρ, w, r, h, hr => by
    unfold mWhileN at h ⊢
    cases e : c ρ w with
    | stuck => rw [bnd_stuck e] at h; exact absurd h.symm hr
    | exc cc fs w1 => rw [bnd_exc e] at h ⊢; exact h
    | ok k w1 =>
      rw [bnd_ok e] at h ⊢
      cases k with
      | false => exact h
      | true =>
        have h' : bnd (b ρ) (fun o => match o with
          | .nx ρ2 => mWhileN c b n ρ2
          | .ct ρ2 => mWhileN c b n ρ2
          | .bk ρ2 => ret (.nx ρ2)
          | .rt d => ret (.rt d)) w1 = r := h
        show bnd (b ρ) (fun o => match o with
          | .nx ρ2 => mWhileN c b (n + 1) ρ2
          | .ct ρ2 => mWhileN c b (n + 1) ρ2
          | .bk ρ2 => ret (.nx ρ2)
          | .rt d => ret (.rt d)) w1 = r
        cases e2 : b ρ w1 with
        | stuck => rw [bnd_stuck e2] at h'; exact absurd h'.symm hr
        | exc cc fs w2 => rw [bnd_exc e2] at h' ⊢; exact h'
        | ok o w2 =>
          rw [bnd_ok e2] at h' ⊢
          cases o with
          | nx ρ2 => exact mWhileN_more h' hr
          | ct ρ2 => exact mWhileN_more h' hr
          | bk ρ2 => exact h'
          | rt d => exact h'
theorem mWhileN_le {c : Rho → M W Bool} {b : MS W} {n : Nat} {ρ : Rho} {w : W} {r : Res W O} (h : mWhileN c b n ρ w = r) (hr : r ≠ .stuck) : ∀ k, mWhileN c b (n + k) ρ w = r
  | 0 => h
  | k + 1 => mWhileN_more (mWhileN_le h hr k) hr
open Classical in
noncomputable def mWhile (c : Rho → M W Bool) (b : MS W) : MS W := fun ρ w => if h : ∃ n, mWhileN c b n ρ w ≠ .stuck then mWhileN c b (Classical.choose h) ρ w else .stuck
theorem mWhile_eq {c : Rho → M W Bool} {b : MS W} {n : Nat} {ρ : Rho} {w : W} {r : Res W O} (h : mWhileN c b n ρ w = r) (hr : r ≠ .stuck) : mWhile c b ρ w = r := by
  unfold mWhile
  have hn : ∃ n, mWhileN c b n ρ w ≠ .stuck := ⟨n, by rw [h]; exact hr⟩
  rw [dif_pos hn]
  have h2 := Classical.choose_spec hn
  have h3 := mWhileN_le (b := b) (c := c) rfl h2 n
  have h4 := mWhileN_le h hr (Classical.choose hn)
  rw [Nat.add_comm] at h3
  exact h3.symm.trans h4
theorem okWhileN {tc : TT} {tb : TS} {c : Rho → M W Bool} {b : MS W} (hc : OkT K R C κ tc c) (hb : OkS K R C κ κ rk κ tb b κ) (n : Nat) : OkS K R C κb κc rk κ (tWhile tc tb) (mWhileN c b n) κ := by
  intro S0 H0 w0 S H σ ρ w E rl q
  refine ⟨fun m σ H => ∃ S ρ w, Rel K R κ S0 H0 w0 S H σ ρ w ∧ PostS K R C κ κb κc rk S0 H0 w0 S E (mWhileN c b m ρ w), ⟨n, S, ρ, w, rl, q⟩, ?_⟩
  rintro m σ2 H2 ⟨S2, ρ2, w2, r2, q2⟩
  cases m with
  | zero => exact q2.elim
  | succ m =>
    unfold mWhileN at q2
    refine hc S0 H0 w0 S2 H2 σ2 ρ2 w2 _ r2 ?_
    cases e : c ρ2 w2 with
    | stuck => rw [bnd_stuck e] at q2; exact q2.elim
    | exc cc fs w3 => rw [bnd_exc e] at q2; exact fun cls dd S' H' r' hc hx => q2 cls dd σ2 S' H' r'.out hc hx
    | ok k w3 =>
      rw [bnd_ok e] at q2
      intro S3 H3 r3 s3
      cases k with
      | false => exact q2 σ2 S3 H3 r3 s3
      | true =>
        have q3 : PostS K R C κ κb κc rk S0 H0 w0 S2 E (bnd (b ρ2) (fun o => match o with
          | .nx ρ2 => mWhileN c b m ρ2
          | .ct ρ2 => mWhileN c b m ρ2
          | .bk ρ2 => ret (.nx ρ2)
          | .rt d => ret (.rt d)) w3) := q2
        refine ⟨fun σ' H' => ∃ S ρ w, Rel K R κ S0 H0 w0 S H' σ' ρ w ∧ PostS K R C κ κb κc rk S0 H0 w0 S E (mWhileN c b m ρ w), fun σ' H' h => ⟨m, Nat.lt_succ_self _, h⟩, ?_⟩
        refine hb S0 H0 w0 S3 H3 σ2 ρ2 w3 _ r3 ?_
        cases eb : b ρ2 w3 with
        | stuck => rw [bnd_stuck eb] at q3; exact q3.elim
        | exc cc fs w5 => rw [bnd_exc eb] at q3; exact q3
        | ok o w5 =>
          rw [bnd_ok eb] at q3
          cases o with
          | nx ρ5 => exact fun σ5 S5 H5 r5 s5 => ⟨S5, ρ5, w5, r5, postS_mono (fun a o z => s5 a o (s3 a o z)) q3⟩
          | ct ρ5 => exact fun σ5 S5 H5 r5 s5 => ⟨S5, ρ5, w5, r5, postS_mono (fun a o z => s5 a o (s3 a o z)) q3⟩
          | bk ρ5 => exact fun σ5 S5 H5 r5 s5 => q3 σ5 S5 H5 r5 fun a o z => s5 a o (s3 a o z)
          | rt d => exact q3
theorem okWhile {tc : TT} {tb : TS} {c : Rho → M W Bool} {b : MS W} (hc : OkT K R C κ tc c) (hb : OkS K R C κ κ rk κ tb b κ) : OkS K R C κb κc rk κ (tWhile tc tb) (mWhile c b) κ := by
  intro S0 H0 w0 S H σ ρ w E rl q
  by_cases h : ∃ n, mWhileN c b n ρ w ≠ .stuck
  · have e : mWhile c b ρ w = mWhileN c b (Classical.choose h) ρ w := by unfold mWhile; rw [dif_pos h]
    rw [e] at q
    exact okWhileN hc hb _ S0 H0 w0 S H σ ρ w E rl q
  · have e : mWhile c b ρ w = .stuck := by unfold mWhile; rw [dif_neg h]
    rw [e] at q
    exact q.elim

/-! ### sources -/
theorem okIDat {tl : TE} {m : ME W} (h : OkE K R C κ tl .dat m) : OkI K R C κ (iList K tl) (fun ρ => bnd (m ρ) fun d => match d with
    | .list ds => ret ds
    | _ => stk) := by
  intro S0 H0 w0 S H σ ρ w Rf rl q
  refine h S0 H0 w0 S H σ ρ w _ rl ?_
  cases e : m ρ w with
  | stuck => simp only [bnd_stuck e] at q; exact q.elim
  | exc c fs w1 => simp only [bnd_exc e] at q; exact q
  | ok d w1 =>
    simp only [bnd_ok e] at q
    intro v S1 H1 r1 s1 o1
    cases d with
    | list ds =>
      cases o1 with
      | lst h1 h2 =>
        rename_i a vs
        refine ⟨a, rfl, ⟨vs, SqL.of (r1.out.sub _ _ h1)⟩, q _ S1 H1 r1 s1 fun i S2 H2 w2 o2 s2 => ?_⟩
        have hL : SqL K H2 a vs := SqL.of (o2.sub _ _ (s2 _ _ h1))
        have hh : H2 a = some (.lst vs) := o2.sub _ _ (s2 _ _ h1)
        refine ⟨fun hi => ⟨vs, hL, by rw [dvs_len h2]; exact hi⟩, fun d hd => ?_⟩
        obtain ⟨v, g1, g2⟩ := dvs_get h2 hd
        refine ⟨⟨vs, v, hL, g1⟩, fun x H' hy => .inl ⟨hy.1, ?_⟩⟩
        have := hy.2 vs hL
        rw [g1] at this
        cases this
        exact dp_mono s2 _ _ g2
    | _ => exact q.elim
/-- a caller's list -/
theorem okIBor {i : Nat} (hk : kd κ i = .bor := by rfl) : OkI K R C κ (iList K (tVar i)) (fun ρ => bnd (mVar i ρ) fun d => match d with
    | .list ds => ret ds
    | _ => stk) := by
  intro S0 H0 w0 S H σ ρ w Rf rl q
  unfold mVar at q
  cases e : ρ[i]? with
  | none => simp only [e, bnd_stk] at q; exact q.elim
  | some x =>
    cases x with
    | none => simp only [e, bnd_stk] at q; exact q.elim
    | some d =>
      simp only [e, bnd_ret] at q
      obtain ⟨oa, r'⟩ := id rl
      obtain ⟨v, h1, h2⟩ := r'.slot i d e
      rw [hk] at h2
      obtain ⟨a, ho, rfl, g2, g3, g4⟩ := h2
      obtain ⟨ds, rfl⟩ : ∃ ds, d = .list ds := by cases d <;> first | exact ⟨_, rfl⟩ | exact q.elim
      obtain ⟨vs, rfl, hv⟩ := ownRep_list g4
      refine ⟨_, h1, a, rfl, ⟨vs, SqL.of (r'.out.keep _ _ g2 g3)⟩, q _ S H rl (fun _ _ h => h) fun i S2 H2 w2 o2 s2 => ?_⟩
      have hh : H2 a = some (.lst vs) := o2.keep _ _ g2 g3
      have hL : SqL K H2 a vs := SqL.of hh
      refine ⟨fun hi => ⟨vs, hL, by rw [dvs_len hv]; exact hi⟩, fun d hd => ?_⟩
      obtain ⟨v, g1, g2⟩ := dvs_get hv hd
      refine ⟨⟨vs, v, hL, g1⟩, fun x H' hy => .inl ⟨hy.1, ?_⟩⟩
      have := hy.2 vs hL
      rw [g1] at this
      cases this
      exact dp_mono s2 _ _ g2
theorem okITup {tl : TE} {m : ME W} (h : OkE K R C κ tl .dat m) : OkI K R C κ (iTup K tl) (fun ρ => bnd (m ρ) fun d => match d with
    | .tuple ds => ret ds
    | _ => stk) := by
  intro S0 H0 w0 S H σ ρ w Rf rl q
  refine h S0 H0 w0 S H σ ρ w _ rl ?_
  cases e : m ρ w with
  | stuck => simp only [bnd_stuck e] at q; exact q.elim
  | exc c fs w1 => simp only [bnd_exc e] at q; exact q
  | ok d w1 =>
    simp only [bnd_ok e] at q
    intro v S1 H1 r1 s1 o1
    cases d with
    | tuple ds =>
      cases o1 with
      | tup h1 h2 =>
        rename_i a vs
        refine ⟨a, rfl, ⟨vs, sqT_sub r1.out.sub h1⟩, q _ S1 H1 r1 s1 fun i S2 H2 w2 o2 s2 => ?_⟩
        have hL : SqT K H2 a vs := sqT_sub o2.sub (sqT_sub s2 h1)
        refine ⟨fun hi => ⟨vs, hL, by rw [dvs_len h2]; exact hi⟩, fun d hd => ?_⟩
        obtain ⟨v, g1, g2⟩ := dvs_get h2 hd
        refine ⟨⟨vs, v, hL, g1⟩, fun x H' hy => .inl ⟨hy.1, ?_⟩⟩
        have := hy.2 vs hL
        rw [g1] at this
        cases this
        exact dp_mono s2 _ _ g2
    | _ => exact q.elim
def intsFrom (lo : Int) (n : Nat) : List D := (List.range n).map fun i : Nat => PyData.int (lo + (i : Int))
theorem intsFrom_len (lo : Int) (n : Nat) : (intsFrom lo n).length = n := by unfold intsFrom; rw [List.length_map, List.length_range]
theorem intsFrom_get {lo : Int} {n i : Nat} {d : D} (h : (intsFrom lo n)[i]? = some d) : i < n ∧ d = .int (lo + i) := by
  unfold intsFrom at h
  rw [List.getElem?_map] at h
  by_cases hi : i < n
  · rw [List.getElem?_range hi] at h
    exact ⟨hi, (Option.some.inj h).symm⟩
  · rw [List.getElem?_eq_none (by rw [List.length_range]; omega)] at h
    cases h
theorem yields_range {lo : Int} {n : Nat} {S1 : Hp} : Yields K R (Itr lo n) S0 H0 w0 S1 (intsFrom lo n) := by
  intro i S2 H2 w2 o2 s2
  refine ⟨fun hi => by rw [intsFrom_len] at hi; exact hi, fun d hd => ?_⟩
  obtain ⟨h1, rfl⟩ := intsFrom_get hd
  refine ⟨h1, fun x H' hy => .inl ⟨hy.1, ?_⟩⟩
  rw [hy.2]
  exact .int _
noncomputable def srcR1 (m : Rho → M W (List D)) : Rho → M W (List D) := fun ρ => bnd (m ρ) fun ds => match ds with
  | [.int j] => if Lines (-1000000000) 1000000000 j then ret (intsFrom 0 j.toNat) else stk
  | _ => stk
noncomputable def srcR2 (m : Rho → M W (List D)) : Rho → M W (List D) := fun ρ => bnd (m ρ) fun ds => match ds with
  | [.int i, .int j] => if Lines (-1000000000) 1000000000 i ∧ Lines (-1000000000) 1000000000 j then ret (intsFrom i (j - i).toNat) else stk
  | _ => stk
theorem okIR1 {ta : TA} {m : Rho → M W (List D)} {k : Kd} (h : OkA K R C κ ta [k] m) (hk : k ≠ .res := by decide) : OkI K R C κ (iRng1 ta) (srcR1 m) := by
  intro S0 H0 w0 S H σ ρ w Rf rl q
  refine h S0 H0 w0 S H σ ρ w _ rl ?_
  unfold srcR1 at q
  cases e : m ρ w with
  | stuck => simp only [bnd_stuck e] at q; exact q.elim
  | exc c fs w1 => simp only [bnd_exc e] at q; exact q
  | ok ds w1 =>
    simp only [bnd_ok e] at q
    intro vs S1 H1 r1 s1 o1
    split at q
    · rename_i j
      split at q
      · rename_i hj
        have hj' : -1000000000 < j ∧ j < 1000000000 := hj
        cases o1 with
        | cons g1 g2 =>
          cases g2
          rw [seen_int (g1.seen r1 hk)]
          exact ⟨j, rfl, by omega, by omega, q _ S1 H1 r1 s1 yields_range⟩
      · exact q.elim
    · exact q.elim
theorem okIR2 {ta : TA} {m : Rho → M W (List D)} {k1 k2 : Kd} (h : OkA K R C κ ta [k1, k2] m) (hk1 : k1 ≠ .res := by decide) (hk2 : k2 ≠ .res := by decide) : OkI K R C κ (iRng2 ta) (srcR2 m) := by
  intro S0 H0 w0 S H σ ρ w Rf rl q
  refine h S0 H0 w0 S H σ ρ w _ rl ?_
  unfold srcR2 at q
  cases e : m ρ w with
  | stuck => simp only [bnd_stuck e] at q; exact q.elim
  | exc c fs w1 => simp only [bnd_exc e] at q; exact q
  | ok ds w1 =>
    simp only [bnd_ok e] at q
    intro vs S1 H1 r1 s1 o1
    split at q
    · rename_i i j
      split at q
      · rename_i hj
        have hj' : (-1000000000 < i ∧ i < 1000000000) ∧ (-1000000000 < j ∧ j < 1000000000) := hj
        cases o1 with
        | cons g1 g2 =>
          cases g2 with
          | cons g2 g3 =>
            cases g3
            rw [seen_int (g1.seen r1 hk1), seen_int (g2.seen r1 hk2)]
            exact ⟨i, j, rfl, by omega, q _ S1 H1 r1 s1 yields_range⟩
      · exact q.elim
    · exact q.elim
/-- a text, sign by sign -/
def signsOf (x : Str) : List D := x.cps.toList.map fun c => PyData.str ⟨#[c]⟩
theorem okIStr {te : TE} {m : ME W} {k : Kd} (h : OkE K R C κ te k m) (hk : k ≠ .res := by decide) : OkI K R C κ (iStr te) (fun ρ => bnd (m ρ) fun d => match d with
    | .str x => ret (signsOf x)
    | _ => stk) := by
  intro S0 H0 w0 S H σ ρ w Rf rl q
  refine h S0 H0 w0 S H σ ρ w _ rl ?_
  cases e : m ρ w with
  | stuck => simp only [bnd_stuck e] at q; exact q.elim
  | exc c fs w1 => simp only [bnd_exc e] at q; exact q
  | ok d w1 =>
    simp only [bnd_ok e] at q
    intro v S1 H1 r1 s1 o1
    cases d with
    | str x =>
      refine ⟨x, seen_str (o1.seen r1 hk), q _ S1 H1 r1 s1 fun i S2 H2 w2 o2 s2 => ⟨fun hi => ?_, fun d hd => ?_⟩⟩
      · unfold signsOf at hi
        rw [List.length_map, Array.length_toList] at hi
        exact hi
      · unfold signsOf at hd
        rw [List.getElem?_map, Array.getElem?_toList] at hd
        cases e2 : x.cps[i]? with
        | none => rw [e2] at hd; cases hd
        | some c =>
          rw [e2] at hd
          cases hd
          refine ⟨(Array.getElem?_eq_some_iff.mp e2).1, fun y H' hy => .inl ⟨hy.1, ?_⟩⟩
          obtain ⟨_, c', g1, rfl⟩ := hy
          rw [e2] at g1
          cases g1
          exact .str _
    | _ => exact q.elim

/-! ### comprehensions -/
/-- what a comprehension walks (the slots stand still meanwhile) -/
def YieldsC (K : PySem.W.Frag) (R : Rs W) (κ : List Kd) (σ : L2.St) (ρ : Rho) (J : It) (S0 H0 : Hp) (w0 : W) (S1 : Hp) (ds : List D) : Prop :=
  ∀ i S H w, Rel K R κ S0 H0 w0 S H σ ρ w → (∀ a o, S1 a = some o → S a = some o) →
    (ds.length ≤ i → J.stop i H) ∧ ∀ d, ds[i]? = some d → J.go i H ∧ ∀ x H', J.yld i H x H' →
      (H' = H ∧ DV K S x d) ∨ ∃ p us es, H p = none ∧ H' = upd H p (.tup us) ∧ x = .ref p ∧ d = .tuple es ∧ DVs K S us es
def PostIc (K : PySem.W.Frag) (R : Rs W) (C : Cl) (κ : List Kd) (S0 H0 : Hp) (w0 : W) (S : Hp) (σ : L2.St) (ρ : Rho) (Rf : It → Hp → Prop) : Res W (List D) → Prop
  | .ok ds w' => ∀ J S' H', Rel K R κ S0 H0 w0 S' H' σ ρ w' → (∀ a o, S a = some o → S' a = some o) → YieldsC K R κ σ ρ J S0 H0 w0 S' ds → Rf J H'
  | .exc c fs w' => ∀ cls dd S' H', Rel K R κ S0 H0 w0 S' H' σ ρ w' → C.cn c cls → XOk R S' H' w' dd fs → C.wx cls (some dd) σ H'
  | .stuck => False
def OkIc (K : PySem.W.Frag) (R : Rs W) (C : Cl) (κ : List Kd) (wi : TI) (m : Rho → M W (List D)) : Prop :=
  ∀ S0 H0 w0 S H σ ρ w Rf, Rel K R κ S0 H0 w0 S H σ ρ w → PostIc K R C κ S0 H0 w0 S σ ρ Rf (m ρ w) → wi σ H Rf
theorem OkI.c {wi : TI} {m : Rho → M W (List D)} (h : OkI K R C κ wi m) : OkIc K R C κ wi m := by
  intro S0 H0 w0 S H σ ρ w Rf rl q
  refine h S0 H0 w0 S H σ ρ w Rf rl ?_
  cases e : m ρ w with
  | stuck => rw [e] at q; exact q
  | exc c fs w1 => rw [e] at q; exact q
  | ok ds w1 =>
    rw [e] at q
    exact fun J S' H' r' s' y => q J S' H' r' s' fun i S H w r => y i S H w r.out
theorem okIOwn {i : Nat} (hk : kd κ i = .own := by rfl) : OkIc K R C κ (iList K (tVar i)) (fun ρ => bnd (mVar i ρ) fun d => match d with
    | .list ds => ret ds
    | _ => stk) := by
  intro S0 H0 w0 S H σ ρ w Rf rl q
  unfold mVar at q
  cases e : ρ[i]? with
  | none => simp only [e, bnd_stk] at q; exact q.elim
  | some x =>
    cases x with
    | none => simp only [e, bnd_stk] at q; exact q.elim
    | some d =>
      simp only [e, bnd_ret] at q
      obtain ⟨p, ho, hσ, hp, hr0, _⟩ := rl.write hk e (d' := d)
      obtain ⟨ds, rfl⟩ : ∃ ds, d = .list ds := by cases d <;> first | exact ⟨_, rfl⟩ | exact q.elim
      obtain ⟨vs, rfl, hv⟩ := ownRep_list hr0
      refine ⟨_, hσ, p, rfl, ⟨vs, SqL.of hp⟩, q _ S H rl (fun _ _ h => h) fun j S2 H2 w2 r2 s2 => ?_⟩
      obtain ⟨p2, ho2, hσ2, hp2, hr2, _⟩ := r2.write hk e (d' := .list ds)
      rw [hσ] at hσ2
      have ep : p = p2 := V.ref.inj (Option.some.inj (Option.some.inj hσ2))
      subst ep
      obtain ⟨us, rfl, hv2⟩ := ownRep_list hr2
      have hL : SqL K H2 p us := SqL.of hp2
      refine ⟨fun hi => ⟨us, hL, by rw [dvs_len hv2]; exact hi⟩, fun d hd => ?_⟩
      obtain ⟨v, g1, g2⟩ := dvs_get hv2 hd
      refine ⟨⟨us, v, hL, g1⟩, fun x H' hy => .inl ⟨hy.1, ?_⟩⟩
      have := hy.2 us hL
      rw [g1] at this
      cases this
      exact g2
/-- within a block the def's own lists are only read -/
def blkK (κ : List Kd) : List Kd := κ.map fun k => if k = .own then .bor else k
theorem kd_blk (κ : List Kd) (i : Nat) : kd (blkK κ) i = if kd κ i = .own then .bor else kd κ i := by
  unfold kd blkK
  rw [List.getD_eq_getElem?_getD, List.getD_eq_getElem?_getD, List.getElem?_map]
  cases e : κ[i]? with
  | none => simp
  | some k => simp
def wipeR (ρ : Rho) : List Nat → Rho
  | [] => ρ
  | v :: vs => (wipeR ρ vs).set v none
theorem wipeR_len (ρ : Rho) : ∀ vs, (wipeR ρ vs).length = ρ.length
  | [] => rfl
  | v :: vs => by unfold wipeR; rw [List.length_set, wipeR_len ρ vs]
theorem wipeR_some {ρ : Rho} {i : Nat} {d : D} : ∀ {vs : List Nat}, (wipeR ρ vs)[i]? = some (some d) → ρ[i]? = some (some d) ∧ i ∉ vs
  | [], h => ⟨h, by simp⟩
  | v :: vs, h => by
    unfold wipeR at h
    by_cases hi : v = i
    · subst hi
      by_cases hv : v < (wipeR ρ vs).length
      · rw [List.getElem?_set_self hv] at h; cases h
      · rw [List.getElem?_eq_none (by rw [List.length_set]; omega)] at h; cases h
    · rw [List.getElem?_set_ne hi] at h
      obtain ⟨h1, h2⟩ := wipeR_some h
      exact ⟨h1, by simp only [List.mem_cons, not_or]; exact ⟨fun e => hi e.symm, h2⟩⟩
theorem wipe_other {σ : L2.St} {i : Nat} : ∀ {vs : List Nat}, i ∉ vs → (wipe σ vs)[i]? = σ[i]?
  | [], _ => rfl
  | v :: vs, h => by
    simp only [List.mem_cons, not_or] at h
    unfold wipe
    rw [List.getElem?_set_ne fun e => h.1 e.symm]
    exact wipe_other h.2
theorem wipe_in {σ : L2.St} {i : Nat} : ∀ {vs : List Nat}, i ∈ vs → (wipe σ vs)[i]? = if i < σ.length then some none else none
  | v :: vs, h => by
    unfold wipe
    by_cases e : v = i
    · subst e
      by_cases hl : v < σ.length
      · rw [if_pos hl, List.getElem?_set_self (by rw [wipe_length]; exact hl)]
      · rw [if_neg hl, List.getElem?_eq_none (by rw [List.length_set, wipe_length]; omega)]
    · rw [List.getElem?_set_ne e]
      exact wipe_in (by rcases List.mem_cons.mp h with q | q; exact absurd q.symm e; exact q)
theorem but_wipe {σ σ' : L2.St} {as vs : List Nat} (h : But as (wipe σ vs) σ') (hs : ∀ i ∈ as, i ∈ vs) : wipe σ' vs = wipe σ vs := by
  apply List.ext_getElem?
  intro i
  have hl : σ'.length = σ.length := by rw [h.1, wipe_length]
  by_cases hi : i ∈ vs
  · rw [wipe_in hi, wipe_in hi, hl]
  · rw [wipe_other hi, h.2 i fun z => hi (hs i z)]
/-- into a block: a new base -/
theorem Rel.block (r : Rel K R κ S0 H0 w0 S H σ ρ w) (vs : List Nat) : Rel K R (blkK κ) S H w S H (wipe σ vs) (wipeR ρ vs) w := by
  obtain ⟨oa, r⟩ := r
  refine ⟨oa, Out.refl r.out.in_, by rw [wipeR_len, wipe_length]; exact r.len, fun i d h => ?_, fun i j d e hi hj ki kj => ?_⟩
  · obtain ⟨h1, h2⟩ := wipeR_some h
    obtain ⟨v, g1, g2⟩ := r.slot i d h1
    refine ⟨v, by rw [wipe_other h2]; exact g1, ?_⟩
    rw [kd_blk]
    cases hk : kd κ i with
    | dat => rw [hk] at g2; exact g2
    | own =>
      rw [hk] at g2
      obtain ⟨k1, _, _, k4, ho, k2, k3⟩ := g2
      exact ⟨_, ho, k1, k2, k4, k3⟩
    | bor =>
      rw [hk] at g2
      obtain ⟨q, ho, k1, k2, k3, k4⟩ := g2
      refine ⟨q, ho, k1, r.out.keep q ho k2 k3, fun hf => ?_, k4⟩
      have := r.out.resN q hf k3
      rw [this] at k2; cases k2
    | res => rw [hk] at g2; exact g2
  · rw [kd_blk] at ki
    split at ki
    · cases ki
    · rename_i h; exact absurd ki h
def Cl.no (C : Cl) : Cl := ⟨fun _ _ _ _ => False, C.cn⟩
def mLcL (f : D → Rho → Option Rho) (tt : Rho → M W Bool) (e : ME W) (ρ : Rho) : List D → M W (List D)
  | [] => ret []
  | d :: ds => bnd (lift (f d ρ)) fun ρ1 => bnd (noX (tt ρ1)) fun b => if b then bnd (noX (e ρ1)) fun x => bnd (mLcL f tt e ρ ds) fun xs => ret (x :: xs) else mLcL f tt e ρ ds
def mLc (src : Rho → M W (List D)) (vs : List Nat) (f : D → Rho → Option Rho) (tt : Rho → M W Bool) (e : ME W) : ME W := fun ρ => bnd (src ρ) fun ds => if ds.length ≤ 1000000 then bnd (mLcL f tt e (wipeR ρ vs) ds) fun xs => ret (.list xs) else stk
def mYes : Rho → M W Bool := fun _ => ret true
theorem okYes : OkT K R C κ tYes mYes := by
  intro S0 H0 w0 S H σ ρ w Q rl q
  exact q S H rl fun _ _ h => h
theorem noX_inv {α : Type} {x : M W α} {f : α → M W D} {w : W} : (∃ a w', x w = .ok a w' ∧ noX x w = .ok a w') ∨ noX x w = .stuck := by
  unfold noX
  cases e : x w with
  | ok a w' => exact .inl ⟨a, w', rfl, rfl⟩
  | exc c fs w' => exact .inr rfl
  | stuck => exact .inr rfl
theorem bnd_inv {α β : Type} {x : M W α} {f : α → M W β} {w : W} (hx : ∀ c fs w', x w ≠ .exc c fs w') (h : bnd x f w ≠ .stuck) : ∃ a w', x w = .ok a w' ∧ bnd x f w = f a w' := by
  cases e : x w with
  | ok a w' => exact ⟨a, w', rfl, bnd_ok e⟩
  | exc c fs w' => exact absurd e (hx c fs w')
  | stuck => exact absurd (bnd_stuck e) h
theorem noX_noexc {α : Type} {x : M W α} {w : W} : ∀ c fs w', noX x w ≠ .exc c fs w' := by
  intro c fs w' h
  unfold noX at h
  cases e : x w with
  | ok a w1 => rw [e] at h; cases h
  | exc c fs w1 => rw [e] at h; cases h
  | stuck => rw [e] at h; cases h
theorem noX_from {α : Type} {x : M W α} {w w' : W} {a : α} (h : noX x w = .ok a w') : x w = .ok a w' := by
  unfold noX at h
  cases e : x w with
  | ok b w1 => rw [e] at h; exact h
  | exc c fs w1 => rw [e] at h; cases h
  | stuck => rw [e] at h; cases h
theorem lift_noexc {α : Type} {o : Option α} {w : W} : ∀ c fs w', (lift o : M W α) w ≠ .exc c fs w' := by
  intro c fs w' h
  cases o <;> cases h
theorem lift_from {α : Type} {o : Option α} {w w' : W} {a : α} (h : (lift o : M W α) w = .ok a w') : o = some a ∧ w' = w := by
  cases o with
  | none => cases h
  | some b => cases h; exact ⟨rfl, rfl⟩
theorem mLcL_noexc {f : D → Rho → Option Rho} {tt : Rho → M W Bool} {e : ME W} {ρ : Rho} : ∀ {ds : List D} {w : W} c fs w', mLcL f tt e ρ ds w ≠ .exc c fs w'
  | [], _, _, _, _ => by intro h; cases h
  | d :: ds, w, c, fs, w' => by
    intro h
    unfold mLcL at h
    obtain ⟨ρ1, w1, e1, h1⟩ := bnd_inv lift_noexc (by rw [h]; intro z; cases z)
    rw [h1] at h
    obtain ⟨b, w2, e2, h2⟩ := bnd_inv noX_noexc (by rw [h]; intro z; cases z)
    rw [h2] at h
    cases b with
    | false => exact mLcL_noexc c fs w' h
    | true =>
      have h' : bnd (noX (e ρ1)) (fun x => bnd (mLcL f tt e ρ ds) fun xs => ret (x :: xs)) w2 = .exc c fs w' := h
      obtain ⟨x, w3, e3, h3⟩ := bnd_inv noX_noexc (by rw [h']; intro z; cases z)
      rw [h3] at h'
      obtain ⟨xs, w4, e4, h4⟩ := bnd_inv (fun c fs w' => mLcL_noexc c fs w') (by rw [h']; intro z; cases z)
      rw [h4] at h'
      cases h'
theorem okLc {wi : TI} {g : TG} {tt : TT} {te : TE} {src : Rho → M W (List D)} {f : D → Rho → Option Rho} {mt : Rho → M W Bool} {me : ME W} {as vs : List Nat} (hi : OkIc K R C κ wi src) (hg : OkG (K := K) (R := R) (blkK κ) g f κ1 as)
    (ht : OkT K R C.no κ1 tt mt) (he : OkE K R C.no κ1 te .dat me) (hv : ∀ i ∈ as, i ∈ vs := by decide) : OkE K R C κ (tLc wi g tt te vs) .own (mLc src vs f mt me) := by
  intro S0 H0 w0 S H σ ρ w Q rl q
  refine hi S0 H0 w0 S H σ ρ w _ rl ?_
  unfold mLc at q
  cases e : src ρ w with
  | stuck => rw [bnd_stuck e] at q; exact q.elim
  | exc c fs w1 => rw [bnd_exc e] at q; exact q
  | ok ds w1 =>
    rw [bnd_ok e] at q
    intro J S1 H1 r1 s1 y L hL
    by_cases hz : ds.length ≤ 1000000
    · rw [if_pos hz] at q
      have hSL : S1 L = none := r1.out.s_none hL
      have hfL : ¬ R.fp w1 L := r1.out.nofp hL
      -- what is left to be made
      refine ⟨fun i m H => ∃ S w accV acc, Rel K R κ S0 H0 w0 S H σ ρ w ∧ (∀ a o, S1 a = some o → S a = some o) ∧ m = ds.length - i ∧ i ≤ ds.length ∧ H L = some (.lst accV) ∧ S L = none ∧ ¬ R.fp w L ∧ DVs K S accV acc ∧ acc.length ≤ i ∧
          PostE K R C κ S0 H0 w0 S σ ρ .own Q (bnd (mLcL f mt me (wipeR ρ vs) (ds.drop i)) (fun xs => ret (.list (acc ++ xs))) w),
        ⟨ds.length, S1, w1, [], [], r1.allocOwn hL, fun _ _ h => h, by omega, Nat.zero_le _, upd_same, hSL, hfL, .nil, Nat.zero_le _, postE_mono s1 q⟩, ?_⟩
      rintro i m H2 ⟨S2, w2, accV, acc, r2, s2, rfl, hi, hD, hS2, hf2, hacc, hal, q2⟩
      obtain ⟨yStop, yGo⟩ := y i S2 H2 w2 r2 s2
      by_cases hlt : i < ds.length
      · rw [List.drop_eq_getElem_cons hlt] at q2
        obtain ⟨hgo, hy⟩ := yGo ds[i] (List.getElem?_eq_getElem hlt)
        refine .inr ⟨hgo, fun H => ∃ S w accV acc, Rel K R κ S0 H0 w0 S H σ ρ w ∧ (∀ a o, S1 a = some o → S a = some o) ∧ H L = some (.lst accV) ∧ S L = none ∧ ¬ R.fp w L ∧ DVs K S accV acc ∧ acc.length ≤ i + 1 ∧
          PostE K R C κ S0 H0 w0 S σ ρ .own Q (bnd (mLcL f mt me (wipeR ρ vs) (ds.drop (i + 1))) (fun xs => ret (.list (acc ++ xs))) w),
          fun H' ⟨S, w, aV, a, x1, x2, x3, x4, x5, x6, x7, x8⟩ => ⟨ds.length - (i + 1), by omega, S, w, aV, a, x1, x2, rfl, hlt, x3, x4, x5, x6, x7, x8⟩, fun x H' hyl => ?_⟩
        have key : ∀ S3 H3, Rel K R κ S0 H0 w0 S3 H3 σ ρ w2 → (∀ a o, S2 a = some o → S3 a = some o) → H3 L = some (.lst accV) → S3 L = none → DV K S3 x ds[i] →
            g x (wipe σ vs) H3 fun σ2 H2 => wipe σ2 vs = wipe σ vs ∧ tt σ2 H2 fun b H3 => if b = true then te σ2 H3 fun y H4 => ∃ acc, H4 L = some (.lst acc) ∧ acc.length < sizeLine ∧
              (∃ S w accV acc', Rel K R κ S0 H0 w0 S (upd H4 L (.lst (acc ++ [y]))) σ ρ w ∧ (∀ a o, S1 a = some o → S a = some o) ∧ upd H4 L (.lst (acc ++ [y])) L = some (.lst accV) ∧ S L = none ∧ ¬ R.fp w L ∧ DVs K S accV acc' ∧ acc'.length ≤ i + 1 ∧
                PostE K R C κ S0 H0 w0 S σ ρ .own Q (bnd (mLcL f mt me (wipeR ρ vs) (ds.drop (i + 1))) (fun xs => ret (.list (acc' ++ xs))) w))
              else (∃ S w accV acc', Rel K R κ S0 H0 w0 S H3 σ ρ w ∧ (∀ a o, S1 a = some o → S a = some o) ∧ H3 L = some (.lst accV) ∧ S L = none ∧ ¬ R.fp w L ∧ DVs K S accV acc' ∧ acc'.length ≤ i + 1 ∧
                PostE K R C κ S0 H0 w0 S σ ρ .own Q (bnd (mLcL f mt me (wipeR ρ vs) (ds.drop (i + 1))) (fun xs => ret (.list (acc' ++ xs))) w)) := by
          intro S3 H3 r3 s3 hD3 hS3 hv3
          have q3 : PostE K R C κ S0 H0 w0 S3 σ ρ .own Q (bnd (bnd (lift (f ds[i] (wipeR ρ vs))) fun ρ1 => bnd (noX (mt ρ1)) fun b => if b then bnd (noX (me ρ1)) fun x => bnd (mLcL f mt me (wipeR ρ vs) (ds.drop (i + 1))) fun xs => ret (x :: xs) else mLcL f mt me (wipeR ρ vs) (ds.drop (i + 1))) (fun xs => ret (.list (acc ++ xs))) w2) := postE_mono s3 q2
          rw [bnd_bnd] at q3
          cases eg : f ds[i] (wipeR ρ vs) with
          | none => rw [eg, lift_none, bnd_stk] at q3; exact q3.elim
          | some ρ1 =>
            rw [eg, lift_some, bnd_ret, bnd_bnd] at q3
            refine hg S3 H3 w2 S3 H3 _ _ w2 x ds[i] ρ1 _ (r3.block vs) hv3 eg fun σ4 b4 r4 => ⟨but_wipe b4 hv, ?_⟩
            refine ht S3 H3 w2 S3 H3 σ4 ρ1 w2 _ r4 ?_
            cases et : mt ρ1 w2 with
            | stuck => rw [bnd_stuck (x := noX (mt ρ1)) (by unfold noX; rw [et])] at q3; exact q3.elim
            | exc c fs w5 => rw [bnd_stuck (x := noX (mt ρ1)) (by unfold noX; rw [et])] at q3; exact q3.elim
            | ok b w5 =>
              rw [bnd_ok (x := noX (mt ρ1)) (noX_ok et)] at q3
              intro S5 H5 r5 s5
              have k5 : H5 L = some (.lst accV) ∧ S5 L = none ∧ ¬ R.fp w5 L := by
                refine ⟨r5.out.keep L _ hD3 hf2, ?_, fun hf => ?_⟩
                · cases z : S5 L with
                  | none => rfl
                  | some u =>
                    have := r5.out.new L (by rw [z]; exact Option.some_ne_none _) hS3
                    rw [this] at hD3; cases hD3
                · have := r5.out.resN L hf hf2
                  rw [this] at hD3; cases hD3
              cases b with
              | false =>
                show (if false = true then _ else _)
                rw [if_neg (by decide)]
                have r5' := r3.after r5.out
                exact ⟨S5, w5, accV, acc, r5', fun a o z => s5 a o (s3 a o (s2 a o z)), k5.1, k5.2.1, k5.2.2, dpAll_mono (fun a o z => s5 a o (s3 a o z)) _ _ hacc, by omega, postE_mono s5 q3⟩
              | true =>
                show (if true = true then _ else _)
                rw [if_pos rfl]
                have q5 : PostE K R C κ S0 H0 w0 S5 σ ρ .own Q (bnd (bnd (noX (me ρ1)) fun x => bnd (mLcL f mt me (wipeR ρ vs) (ds.drop (i + 1))) fun xs => ret (x :: xs)) (fun xs => ret (.list (acc ++ xs))) w5) := postE_mono s5 q3
                rw [bnd_bnd] at q5
                refine he S3 H3 w2 S5 H5 σ4 ρ1 w5 _ r5 ?_
                cases ee : me ρ1 w5 with
                | stuck => rw [bnd_stuck (x := noX (me ρ1)) (by unfold noX; rw [ee])] at q5; exact q5.elim
                | exc c fs w6 => rw [bnd_stuck (x := noX (me ρ1)) (by unfold noX; rw [ee])] at q5; exact q5.elim
                | ok d w6 =>
                  rw [bnd_ok (x := noX (me ρ1)) (noX_ok ee), bnd_bnd] at q5
                  intro yv S6 H6 r6 s6 o6
                  have k6 : H6 L = some (.lst accV) ∧ S6 L = none ∧ ¬ R.fp w6 L := by
                    refine ⟨r6.out.keep L _ hD3 hf2, ?_, fun hf => ?_⟩
                    · cases z : S6 L with
                      | none => rfl
                      | some u =>
                        have := r6.out.new L (by rw [z]; exact Option.some_ne_none _) hS3
                        rw [this] at hD3; cases hD3
                    · have := r6.out.resN L hf hf2
                      rw [this] at hD3; cases hD3
                  have r6' := r3.after r6.out
                  have h0L : H0 L = none := r1.out.h0_none hL
                  have hcv : DVs K S6 accV acc := dpAll_mono (fun a o z => s6 a o (s5 a o (s3 a o z))) _ _ hacc
                  refine ⟨accV, k6.1, ?_, S6, w6, accV ++ [yv], acc ++ [d], ?_, fun a o z => s6 a o (s5 a o (s3 a o (s2 a o z))), upd_same, k6.2.1, k6.2.2, dvs_app hcv (.cons o6 .nil), ?_, ?_⟩
                  · rw [dvs_len hcv]
                    exact sz_lt' (by omega)
                  · obtain ⟨oa, r7⟩ := r6'
                    refine ⟨oa, r7.out.write k6.2.1 h0L k6.2.2, r7.len, fun j e hj => ?_, r7.inj⟩
                    obtain ⟨u, g1, g2⟩ := r7.slot j e hj
                    refine ⟨u, g1, slot_write (fun kj ej => ?_) g2⟩
                    -- an own slot's list stood before L was made
                    obtain ⟨oa1, r1'⟩ := id r1
                    obtain ⟨u1, g3, g4⟩ := r1'.slot j e hj
                    rw [kj] at g4 g2
                    obtain ⟨v1, _, _, _, ho1, v5, _⟩ := g4
                    obtain ⟨v2, _⟩ := g2
                    rw [g1] at g3
                    cases g3
                    rw [v2] at v1
                    have := V.ref.inj v1
                    rw [ej] at this
                    rw [← this, hL] at v5
                    cases v5
                  · rw [List.length_append]
                    show acc.length + 1 ≤ i + 1
                    omega
                  · have q6 := postE_mono s6 q5
                    simp only [bnd_bnd, bnd_ret, List.append_assoc, List.singleton_append] at q6 ⊢
                    exact q6
        rcases hy x H' hyl with ⟨rfl, hv'⟩ | ⟨p, us, es, hp, rfl, rfl, ed, hv'⟩
        · exact key S2 H' r2 (fun _ _ h => h) hD hS2 hv'
        · have hpL : L ≠ p := ne_p hp hD
          have e := le_upd (ho := .tup us) (r2.out.s_none hp)
          refine key _ _ (r2.alloc hp) e (by rw [upd_ne hpL]; exact hD) (by rw [upd_ne hpL]; exact hS2) ?_
          rw [ed]
          exact .tup (SqT.of upd_same) (dpAll_mono e _ _ hv')
      · have ei : i = ds.length := by omega
        subst ei
        rw [List.drop_length] at q2
        have q3 : PostE K R C κ S0 H0 w0 S2 σ ρ .own Q (.ok (.list (acc ++ [])) w2) := q2
        rw [List.append_nil] at q3
        refine .inl ⟨yStop (Nat.le_refl _), q3 (.ref L) S2 H2 r2 (fun _ _ h => h) ⟨L, _, rfl, hS2, r1.out.h0_none hL, hf2, hD, hacc, fun j e' hj hk hs => ?_⟩⟩
        exact fresh_slot r1 hL j e' hj hk hs
    · rw [if_neg hz] at q; exact q.elim
end
end B

namespace B
open PySem L2

section
variable {K : PySem.W.Frag} {W : Type} {R : Rs W} {C : Cl}
variable {κ κs κn κb κc : List Kd} {S H : Hp} {w : W} {rk : Kd}

def startR (n : Nat) (ds : List D) : Rho := ds.map some ++ List.replicate (n - ds.length) none
def mFn (rk : Kd) (n : Nat) (m : MS W) : List D → M W D := fun ds => bnd (m (startR n ds)) fun o => match o with
  | .rt d => ret d
  | .nx _ => if rk = .dat then ret .none else stk
  | _ => stk
theorem argAll_len {vs : List V} {ds : List D} (h : ArgAll K R S H w κs vs ds) : vs.length = κs.length ∧ ds.length = κs.length := by
  induction h with
  | nil => exact ⟨rfl, rfl⟩
  | cons _ _ ih => exact ⟨by rw [List.length_cons, List.length_cons, ih.1], by rw [List.length_cons, List.length_cons, ih.2]⟩
theorem argAll_get {vs : List V} {ds : List D} (h : ArgAll K R S H w κs vs ds) : ∀ (i : Nat) (d : D), ds[i]? = some d → ∃ v k, vs[i]? = some v ∧ κs[i]? = some k ∧ ArgOk K R S H w k v d := by
  induction h with
  | nil => intro i d h; simp at h
  | cons h1 _ ih =>
    intro i d h
    cases i with
    | zero =>
      rw [List.getElem?_cons_zero] at h
      cases h
      exact ⟨_, _, rfl, rfl, h1⟩
    | succ i =>
      rw [List.getElem?_cons_succ] at h
      obtain ⟨v, k, g1, g2, g3⟩ := ih i d h
      exact ⟨v, k, by rw [List.getElem?_cons_succ]; exact g1, by rw [List.getElem?_cons_succ]; exact g2, g3⟩
theorem rel_start {N : List Str} {vs : List V} {ds : List D} (i : In R S H w) (h : ArgAll K R S H w κs vs ds) (hκ : κ = κs ++ List.replicate (N.length - κs.length) .dat) :
    Rel K R κ S H w S H (L2.start N vs) (startR N.length ds) w := by
  obtain ⟨l1, l2⟩ := argAll_len h
  have low : ∀ j d, (startR N.length ds)[j]? = some (some d) → ds[j]? = some d := fun j d hj => by
    unfold startR at hj
    rw [List.getElem?_append] at hj
    split at hj
    · rw [List.getElem?_map] at hj
      cases e : ds[j]? with
      | none => rw [e] at hj; cases hj
      | some x => rw [e] at hj; cases hj; rfl
    · rw [List.getElem?_replicate] at hj
      split at hj <;> cases hj
  have hk : ∀ j k, κs[j]? = some k → kd κ j = k := fun j k hj => by
    have hl : j < κs.length := (List.getElem?_eq_some_iff.mp hj).1
    unfold kd
    rw [List.getD_eq_getElem?_getD, hκ, List.getElem?_append_left hl, hj]
    rfl
  refine ⟨fun _ => 0, Out.refl i, by unfold startR L2.start; simp [l1, l2], fun j d hj => ?_, fun j l d e hj hl kj kl => ?_⟩
  · obtain ⟨v, k, g1, g2, g3⟩ := argAll_get h j d (low j d hj)
    refine ⟨v, ?_, ?_⟩
    · unfold L2.start
      have hl : j < vs.length := (List.getElem?_eq_some_iff.mp g1).1
      rw [List.getElem?_append_left (by rw [List.length_map]; exact hl), List.getElem?_map, g1]
      rfl
    · rw [hk j k g2]
      cases k with
      | dat => exact g3
      | own => exact g3.elim
      | bor => exact g3
      | res => exact g3
  · obtain ⟨v, k, _, g2, g3⟩ := argAll_get h j d (low j d hj)
    rw [hk j k g2] at kj
    subst kj
    exact g3.elim
theorem fn_core {N : List Str} {vs : List V} {t : TS} {m : MS W} {x : Bool} {Q : VK} {E : XK} {cn : String → Value → Prop} (hC : C.cn = cn) (hx : ∀ cls d σ H', (x = true ∧ E cls d H') → C.wx cls d σ H')
    (ok : OkS K R C κb κc rk κ t m κn) (hκ : κ = κs ++ List.replicate (N.length - κs.length) .dat) (h : spB K R cn x κs rk (mFn rk N.length m) vs H Q E) :
    t { nx := fun _ H' => Q .non H', rt := Q } (L2.start N vs) H := by
  obtain ⟨S, w, ds, i, ha, q⟩ := h
  refine ok S H w S H _ _ w _ (rel_start i ha hκ) ?_
  unfold mFn at q
  cases e : m (startR N.length ds) w with
  | stuck => rw [bnd_stuck e] at q; exact q.elim
  | exc c fs w1 =>
    rw [bnd_exc e] at q
    exact fun cls dd σ' S' H' o hc hxo => hx _ _ _ _ ⟨q.1, q.2 cls dd S' H' o (by rw [← hC]; exact hc) hxo⟩
  | ok o w1 =>
    rw [bnd_ok e] at q
    cases o with
    | nx ρ' =>
      intro σ' S' H' r' _
      by_cases hr : rk = .dat
      · subst hr
        exact q .non S' H' r'.out .non
      · simp only [if_neg hr] at q
        exact q.elim
    | rt d => exact fun v S' H' o' ro => q v S' H' o' ro
    | bk ρ' => exact q.elim
    | ct ρ' => exact q.elim
/-- nothing leaves the def -/
theorem fn0 {N : List Str} {vs : List V} {t : TS} {m : MS W} {Q : VK} {E : XK} {cn : String → Value → Prop} (ok : OkS K R ⟨fun _ _ _ _ => False, cn⟩ κb κc rk κ t m κn) (h : spB K R cn false κs rk (mFn rk N.length m) vs H Q E)
    (hκ : κ = κs ++ List.replicate (N.length - κs.length) .dat := by rfl) : t { nx := fun _ H' => Q .non H', rt := Q } (L2.start N vs) H :=
  fn_core (C := ⟨fun _ _ _ _ => False, cn⟩) (cn := cn) rfl (fun _ _ _ _ z => by cases z.1) ok hκ h
/-- what leaves it is wished for -/
theorem fnX {N : List Str} {vs : List V} {t : TS} {m : MS W} {Q : VK} {E : XK} {cn : String → Value → Prop} (ok : OkS K R ⟨fun cls d _ H => E cls d H, cn⟩ κb κc rk κ t m κn) (h : spB K R cn true κs rk (mFn rk N.length m) vs H Q E)
    (hκ : κ = κs ++ List.replicate (N.length - κs.length) .dat := by rfl) : t { nx := fun _ H' => Q .non H', rt := Q } (L2.start N vs) H :=
  fn_core (C := ⟨fun cls d _ H => E cls d H, cn⟩) (cn := cn) rfl (fun _ _ _ _ z => z.2) ok hκ h
theorem sp_len {cn : String → Value → Prop} {x : Bool} {F : List D → M W D} {ps : List Str} (hl : κs.length = ps.length) : ∀ vs H Q E, spB K R cn x κs rk F vs H Q E → vs.length = ps.length := fun vs H Q E h => by
  obtain ⟨S, w, ds, i, ha, q⟩ := h
  rw [(argAll_len ha).1, hl]
/-- another function with the same answers -/
theorem sp_imp {cn : String → Value → Prop} {x : Bool} {F G : List D → M W D} (h : ∀ ds w, G ds w ≠ .stuck → F ds w = G ds w) : ∀ vs H Q E, spB K R cn x κs rk G vs H Q E → spB K R cn x κs rk F vs H Q E := fun vs H Q E hq => by
  obtain ⟨S, w, ds, i, ha, q⟩ := hq
  refine ⟨S, w, ds, i, ha, ?_⟩
  rw [h ds w fun z => by rw [z] at q; exact q]
  exact q
end

/-! ### the law's draws -/
structure Dr where
  cells : List Int
  i : Nat
  cur : Int
  seed : Int
def Dr.fits (s : Dr) : Prop := 0 ≤ s.cur ∧ 0 ≤ s.seed ∧ s.seed < 2147483647 ∧ s.cells.length ≤ 63
def drR (dp sp : Addr) : Rs Dr where
  root := dp
  ok := fun s H => H dp = some (.lst [.ref sp, .int s.i, .int s.cur, .int s.seed]) ∧ H sp = some (.lst (s.cells.map V.int)) ∧ s.fits ∧ dp ≠ sp
  fp := fun _ a => a = dp ∨ a = sp
  loc := fun s H H' h e => ⟨by rw [e dp (.inl rfl)]; exact h.1, by rw [e sp (.inr rfl)]; exact h.2.1, h.2.2⟩
  dom := fun s H a h ha => by
    rcases ha with rfl | rfl
    · rw [h.1]; exact Option.some_ne_none _
    · rw [h.2.1]; exact Option.some_ne_none _
def bigLine : Int := 1000000000000000000
def nextSeed (x : Int) : Int := (x * 48271 + 11) % 2147483647
def cellAt (s : Dr) : Int := ((s.cells.getD s.i 0).natAbs : Nat)
/-- a draw: what it gives, what is left -/
def drawn (s : Dr) (many : Int) : Int × Dr :=
  if s.cur = 0 ∧ s.i < s.cells.length then
    if cellAt s < bigLine then (cellAt s % many, { s with cur := 0, i := s.i + 1 })
    else (cellAt s % many, { s with cur := cellAt s / many, i := s.i + 1 })
  else if 0 < s.cur then (s.cur % many, { s with cur := s.cur / many })
  else (nextSeed s.seed / 3 % many, { s with seed := nextSeed s.seed })
theorem drawn_lt (s : Dr) {many : Int} (h : 0 < many) : 0 ≤ (drawn s many).1 ∧ (drawn s many).1 < many := by
  have key : ∀ x : Int, 0 ≤ x % many ∧ x % many < many := fun x => ⟨Int.emod_nonneg _ (Int.ne_of_gt h), Int.emod_lt_of_pos _ h⟩
  unfold drawn
  by_cases c1 : s.cur = 0 ∧ s.i < s.cells.length
  · rw [if_pos c1]
    by_cases c2 : cellAt s < bigLine
    · rw [if_pos c2]; exact key _
    · rw [if_neg c2]; exact key _
  · rw [if_neg c1]
    by_cases c2 : 0 < s.cur
    · rw [if_pos c2]; exact key _
    · rw [if_neg c2]; exact key _
/-- _law_take -/
noncomputable def fTake : List D → M Dr D
  | [_, .int many] => fun s => if Lines 0 1073741824 many then .ok (.int (drawn s many).1) (drawn s many).2 else .stuck
  | _ => stk
end B

namespace B
open PySem L2
theorem bt_len : bootBuiltins "len" = some (.builtin "len") := by decide +kernel
theorem bt_abs : bootBuiltins "abs" = some (.builtin "abs") := by decide +kernel
theorem bt_max : bootBuiltins "max" = some (.builtin "max") := by decide +kernel
theorem bt_min : bootBuiltins "min" = some (.builtin "min") := by decide +kernel
theorem bt_sum : bootBuiltins "sum" = some (.builtin "sum") := by decide +kernel
theorem bt_any : bootBuiltins "any" = some (.builtin "any") := by decide +kernel
theorem bt_all : bootBuiltins "all" = some (.builtin "all") := by decide +kernel
theorem bt_ord : bootBuiltins "ord" = some (.builtin "ord") := by decide +kernel
theorem bt_sorted : bootBuiltins "sorted" = some (.builtin "sorted") := by decide +kernel
theorem bt_divmod : bootBuiltins "divmod" = some (.builtin "divmod") := by decide +kernel
theorem bt_isinstance : bootBuiltins "isinstance" = some (.builtin "isinstance") := by decide +kernel
theorem bt_int : bootBuiltins "int" = some (.type "int") := by decide +kernel
theorem bt_str : bootBuiltins "str" = some (.type "str") := by decide +kernel
theorem bt_bool : bootBuiltins "bool" = some (.type "bool") := by decide +kernel
theorem bt_list : bootBuiltins "list" = some (.type "list") := by decide +kernel
theorem bt_tuple : bootBuiltins "tuple" = some (.type "tuple") := by decide +kernel
theorem bt_set : bootBuiltins "set" = some (.type "set") := by decide +kernel
theorem bt_dict : bootBuiltins "dict" = some (.type "dict") := by decide +kernel

section
variable (P : Program) (w : World) (K : PySem.W.Frag) (mg : Str → Option Value)
/-- a def of the text, as the top left it -/
def Df (x : Str) (st : Stmt) (ps : List Str) : Prop := ∃ f fd, mg x = some (.ref f) ∧ Fun K x x st f fd ∧ Binds K fd ps [] ∧ ∀ us : List Value, us.length = ps.length → bindArgs fd ⟨us, []⟩ = pure (ps.zip us)
/-- .. that keeps a promise -/
def Good (CX : CXT) (k : Nat) (x : Str) (ps : List Str) (sp : Sp) : Prop := ∃ f fd, mg x = some (.ref f) ∧ PySem.W.keepIn K (.ref f) = true ∧ Binds K fd ps [] ∧ (∀ us : List Value, us.length = ps.length → bindArgs fd ⟨us, []⟩ = pure (ps.zip us)) ∧ ∀ base : Heap, FnOk P w K mg base CX k f fd ps sp
end
section
variable {P : Program} {w : World} {K : PySem.W.Frag} {mg : Str → Option Value}
theorem Df.good {CX : CXT} {k : Nat} {x : Str} {st : Stmt} {ps : List Str} {sp : Sp} (d : Df K mg x st ps) (h : ∀ f fd, Fun K x x st f fd → ∀ base : Heap, FnOk P w K mg base CX k f fd ps sp) : Good P w K mg CX k x ps sp := by
  obtain ⟨f, fd, h1, h2, h3, h4⟩ := d
  exact ⟨f, fd, h1, h2.kp, h3, h4, h f fd h2⟩
theorem Good.imp {CX : CXT} {k : Nat} {x : Str} {ps : List Str} {sp sp' : Sp} (g : Good P w K mg CX k x ps sp) (h : ∀ vs H Q E, sp' vs H Q E → sp vs H Q E) : Good P w K mg CX k x ps sp' := by
  obtain ⟨f, fd, h1, h2, h3, h5, h4⟩ := g
  exact ⟨f, fd, h1, h2, h3, h5, fun b => (h4 b).imp h⟩
theorem Good.mono {CX : CXT} {j k : Nat} {x : Str} {ps : List Str} {sp : Sp} (g : Good P w K mg CX j x ps sp) (h : j ≤ k) : Good P w K mg CX k x ps sp := by
  obtain ⟨f, fd, h1, h2, h3, h5, h4⟩ := g
  exact ⟨f, fd, h1, h2, h3, h5, fun b => (h4 b).mono h⟩
theorem df_mk {x : Str} {st : Stmt} {ps : List Str} {h : Heap} (X : K.In h) (G : h.Ns mainGlobals mg) {f : Addr} {oc : Value} {od an : Option Addr} {osl : Array (Option Value)} {kV doc pm cdv ct : Value}
    (a : PySem.W.nsIn K mainGlobals x = some (some (.ref f))) (l : K.lookup f = some ⟨oc, od, .func (PySem.W.fnOf x x (defArgs st) (defBody st) (defScope st) .none kV doc pm an cdv ct), osl⟩)
    (c : PySem.W.codeIn K cdv x = true) (k : PySem.W.keepIn K (.ref f) = true)
    (hb : ∀ (kV doc pm : Value) (an : Option Addr) (cdv ct : Value) (us : List Value), us.length = ps.length → bindArgs (PySem.W.fnOf x x (defArgs st) (defBody st) (defScope st) .none kV doc pm an cdv ct) ⟨us, []⟩ = pure (ps.zip us)) : Df K mg x st ps :=
  ⟨f, _, PySem.W.mg_of X G a, fun_mk (st := st) l c k, (fun_mk (st := st) l c k).binds hb, hb _ _ _ _ _ _⟩
/-- the law's own def, for the walk's end -/
theorem Good.law {l : PySem.W.OpenLaw} {CX : CXT} {k : Nat} {x : Str} {ps : List Str} {sp : Sp} {fa : Addr} (hfa : mg x = some (.ref fa)) (g : Good l.prog w K mg CX k x ps sp) :
    ∃ fd : FuncData, (∀ us : List Value, us.length = ps.length → bindArgs fd ⟨us, []⟩ = pure (ps.zip us)) ∧ ∀ base : Heap, K.In base → base.Ns mainGlobals mg → FnOk l.prog w K mg base CX k fa fd ps sp := by
  obtain ⟨f, fd, h1, h2, h3, h5, h4⟩ := g
  have e := hfa.symm.trans h1
  cases e
  exact ⟨fd, h5, fun b _ _ => h4 b⟩
end
end B

namespace B
open PySem L2
section
variable {K : PySem.W.Frag} {dp sp : Addr} {cn : String → Value → Prop} {H : Hp}
def rInt1 : Rb := fun xs H Q => (∃ i, xs = [.int i] ∧ Q (.int i) H) ∨ ∃ k, xs = [.bl k] ∧ Q (.int (if k = true then 1 else 0)) H
def rLenQ (K : PySem.W.Frag) : Rb := fun xs H Q => ∃ p ys, xs = [.ref p] ∧ (SqL K H p ys ∨ SqT K H p ys) ∧ Q (.int ys.length) H
def rAbs1 : Rb := fun xs H Q => ∃ i, xs = [.int i] ∧ Q (.int (if i < 0 then -i else i)) H
abbrev dAt (K : PySem.W.Frag) (j : Int) : TE := tOp (rIxL K) (tVar 0) (tC (.int j))
def tTake (K : PySem.W.Frag) : TS :=
  tSeq (tIfS (tAnd (tTest (tOp rEq (dAt K 2) (tC (.int 0)))) (tTest (tOp (rI0 fun i j => .bl (decide (i < j))) (dAt K 1) (tCB (rLenQ K) (tCons (dAt K 0) tNil)))))
    (tSeq (tAsg (tCB rAbs1 (tCons (tCB rInt1 (tCons (tOp (rIxL K) (dAt K 0) (dAt K 1)) tNil)) tNil)) (gSub (tVar 0) (tC (.int 2)) rSetL))
    (tSeq (tAsg (tOp (rI0 fun i j => .int (i + j)) (dAt K 1) (tC (.int 1))) (gSub (tVar 0) (tC (.int 1)) rSetL))
    (tIfS (tTest (tOp (rI0 fun i j => .bl (decide (i < j))) (dAt K 2) (tOp (rI CPow fun i j => .int (i ^ j.toNat)) (tC (.int 10)) (tC (.int 18)))))
      (tSeq (tAsg (tCB rInt1 (tCons (dAt K 2) tNil)) (gName 2)) (tSeq (tAsg (tC (.int 0)) (gSub (tVar 0) (tC (.int 2)) rSetL)) (tRet (tOp (rI (fun _ j => 0 < j) fun i j => .int (i % j)) (tVar 2) (tVar 1))))) tNext))) tNext)
  (tSeq (tIfS (tTest (tOp (rI0 fun i j => .bl (decide (j < i))) (dAt K 2) (tC (.int 0))))
    (tSeq (tAsg (tOp (rI (fun _ j => 0 < j) fun i j => .int (i % j)) (tCB rInt1 (tCons (dAt K 2) tNil)) (tVar 1)) (gName 3))
    (tSeq (tAsg (tOp (rI CDiv fun i j => .int (i / j)) (tCB rInt1 (tCons (dAt K 2) tNil)) (tVar 1)) (gSub (tVar 0) (tC (.int 2)) rSetL)) (tRet (tVar 3)))) tNext)
  (tSeq (tAsg (tOp (rI (fun _ j => 0 < j) fun i j => .int (i % j)) (tCB rInt1 (tCons (tOp (rI0 fun i j => .int (i + j)) (tOp (rI CMul fun i j => .int (i * j)) (dAt K 3) (tC (.int 48271))) (tC (.int 11))) tNil)) (tC (.int 2147483647))) (gSub (tVar 0) (tC (.int 3)) rSetL))
  (tRet (tOp (rI (fun _ j => 0 < j) fun i j => .int (i % j)) (tCB rInt1 (tCons (tOp (rI CDiv fun i j => .int (i / j)) (dAt K 3) (tC (.int 3))) tNil)) (tVar 1)))))
theorem pow18 : (10 : Int) ^ (18 : Int).toNat = bigLine := by decide +kernel
theorem pow18V : V.int ((10 : Int) ^ (18 : Int).toNat) = V.int bigLine := congrArg V.int pow18
theorem cpow18 : CPow 10 18 := ⟨by decide, by decide, by decide +kernel⟩
theorem take_reads {vs : List V} {Q : VK} {E : XK} (h : spB K (drR dp sp) cn false [.res, .dat] .dat fTake vs H Q E) : tTake K { nx := fun _ H' => Q .non H', rt := Q } (L2.start ["d", "many", "small", "digit"] vs) H := by
  obtain ⟨S, st, ds, hin, ha, q⟩ := h
  cases ha with
  | cons h1 h2 =>
  cases h2 with
  | cons h2 h3 =>
  cases h3
  obtain ⟨rfl, rfl⟩ := h1
  rename_i v d
  have hd : ∃ many, d = .int many ∧ 0 < many ∧ many < 1073741824 := by
    cases d with
    | int many =>
      by_cases hm : Lines 0 1073741824 many
      · exact ⟨many, rfl, hm⟩
      · have q' := q
        simp only [fTake, if_neg hm] at q'
        exact q'.elim
    | _ => exact q.elim
  obtain ⟨many, rfl, hm⟩ := hd
  cases h2
  simp only [fTake, if_pos (show Lines 0 1073741824 many from hm)] at q
  obtain ⟨Hd, Hs, hf, hne⟩ := hin.res
  have hS : ∀ a o, S a = some o → a ≠ dp := fun a o ha e => by
    have := hin.resS dp (.inl rfl)
    rw [← e, ha] at this; cases this
  -- what is handed back
  have fin : ∀ (s' : Dr) (n : Int), drawn st many = (n, s') → s'.cells = st.cells → s'.fits → ∀ H', (∀ a, a ≠ dp → H' a = H a) → H' dp = some (.lst [.ref sp, .int s'.i, .int s'.cur, .int s'.seed]) → Q (.int n) H' := by
    intro s' n e ec hf' H' hk hdp
    rw [e] at q
    refine q (.int n) S H' ⟨fun a o ha => by rw [hk a (hS a o ha)]; exact hin.sub a o ha, fun _ _ h => h, fun a h h0 => absurd h0 h, fun a o ha hf => ?_, fun a ha => ?_, ⟨hdp, ?_, hf', hne⟩, hin.resS, fun a h h0 => absurd h h0⟩ (.int n)
    · rw [hk a fun e => hf (.inl e)]; exact ha
    · by_cases ea : a = dp
      · rw [ea, hdp]; exact Option.some_ne_none _
      · rw [hk a ea]; exact ha
    · rw [hk sp hne.symm, ec]; exact Hs
  obtain ⟨f1, f2, f3, f4⟩ := hf
  have un1 : ∀ {o : HO} {a : Addr}, a ≠ dp → upd H dp o a = H a := fun h => upd_ne h
  -- behind the first if
  have rest : ¬ (st.cur = 0 ∧ st.i < st.cells.length) → (tSeq (tIfS (tTest (tOp (rI0 fun i j => .bl (decide (j < i))) (dAt K 2) (tC (.int 0))))
    (tSeq (tAsg (tOp (rI (fun _ j => 0 < j) fun i j => .int (i % j)) (tCB rInt1 (tCons (dAt K 2) tNil)) (tVar 1)) (gName 3))
    (tSeq (tAsg (tOp (rI CDiv fun i j => .int (i / j)) (tCB rInt1 (tCons (dAt K 2) tNil)) (tVar 1)) (gSub (tVar 0) (tC (.int 2)) rSetL)) (tRet (tVar 3)))) tNext)
  (tSeq (tAsg (tOp (rI (fun _ j => 0 < j) fun i j => .int (i % j)) (tCB rInt1 (tCons (tOp (rI0 fun i j => .int (i + j)) (tOp (rI CMul fun i j => .int (i * j)) (dAt K 3) (tC (.int 48271))) (tC (.int 11))) tNil)) (tC (.int 2147483647))) (gSub (tVar 0) (tC (.int 3)) rSetL))
  (tRet (tOp (rI (fun _ j => 0 < j) fun i j => .int (i % j)) (tCB rInt1 (tCons (tOp (rI CDiv fun i j => .int (i / j)) (dAt K 3) (tC (.int 3))) tNil)) (tVar 1)))))
      { nx := fun _ H' => Q .non H', rt := Q } [some (.ref dp), some (.int many), none, none] H := by
    intro hc
    refine ⟨_, rfl, dp, _, 2, _, rfl, rfl, SqL.of Hd, rfl, st.cur, 0, rfl, rfl, _, rfl, ?_⟩
    by_cases hp : 0 < st.cur
    · rw [decide_eq_true hp]
      refine iteT ?_
      refine ⟨_, rfl, dp, _, 2, _, rfl, rfl, SqL.of Hd, rfl, .inl ⟨st.cur, rfl, _, rfl, st.cur, many, rfl, rfl, hm.1, ?_⟩⟩
      refine ⟨_, rfl, dp, _, 2, _, rfl, rfl, SqL.of Hd, rfl, .inl ⟨st.cur, rfl, _, rfl, st.cur, many, rfl, rfl, hm, ?_⟩⟩
      refine ⟨_, rfl, dp, _, 2, 2, rfl, rfl, Hd, rfl, _, rfl, ?_⟩
      refine fin { st with cur := st.cur / many } (st.cur % many) ?_ rfl ⟨Int.ediv_nonneg f1 (Int.le_of_lt hm.1), f2, f3, f4⟩ _ (fun a h => upd_ne h) upd_same
      unfold drawn
      rw [if_neg hc, if_pos hp]
    · rw [decide_eq_false hp]
      refine iteF ?_
      refine ⟨_, rfl, dp, _, 3, _, rfl, rfl, SqL.of Hd, rfl, st.seed, 48271, rfl, rfl, .inr ⟨by decide, by decide⟩, _, _, rfl, rfl, .inl ⟨_, rfl, _, _, rfl, rfl, (by show (0 : Int) < 2147483647; decide), ?_⟩⟩
      refine ⟨_, rfl, dp, _, 3, 3, rfl, rfl, Hd, rfl, ?_⟩
      refine ⟨_, rfl, dp, _, 3, .int (nextSeed st.seed), rfl, rfl, SqL.of upd_same, rfl, nextSeed st.seed, 3, rfl, rfl, ⟨by decide, by decide⟩, .inl ⟨_, rfl, _, rfl, nextSeed st.seed / 3, many, rfl, rfl, hm.1, ?_⟩⟩
      refine fin { st with seed := nextSeed st.seed } (nextSeed st.seed / 3 % many) ?_ rfl ⟨f1, Int.emod_nonneg _ (by decide), Int.emod_lt_of_pos _ (by decide), f4⟩ _ (fun a h => upd_ne h) upd_same
      unfold drawn
      rw [if_neg hc, if_neg hp]
  refine ⟨_, rfl, dp, _, 2, _, rfl, rfl, SqL.of Hd, rfl, rfl, _, rfl, ?_⟩
  by_cases h0 : st.cur = 0
  · have e0 : decide (V.int st.cur = V.int 0) = true := decide_eq_true (by rw [h0])
    rw [e0]
    refine iteT ?_
    refine ⟨_, rfl, dp, _, 1, _, rfl, rfl, SqL.of Hd, rfl, _, rfl, dp, _, 0, _, rfl, rfl, SqL.of Hd, rfl, sp, _, rfl, .inl (SqL.of Hs), st.i, _, rfl, rfl, _, rfl, ?_⟩
    rw [List.length_map]
    by_cases hi : st.i < st.cells.length
    · rw [decide_eq_true (show (st.i : Int) < (st.cells.length : Int) from Int.ofNat_lt.mpr hi)]
      refine iteT ?_
      have hc : (st.cells.map V.int)[st.i]? = some (.int st.cells[st.i]) := by rw [List.getElem?_map, List.getElem?_eq_getElem hi] <;> rfl
      have ec : st.cells.getD st.i 0 = st.cells[st.i] := by rw [List.getD_eq_getElem?_getD, List.getElem?_eq_getElem hi] <;> rfl
      have ea : (if st.cells[st.i] < 0 then -st.cells[st.i] else st.cells[st.i]) = cellAt st := by
        unfold cellAt
        rw [ec]
        split <;> omega
      refine ⟨_, rfl, dp, _, 0, _, rfl, rfl, SqL.of Hd, rfl, _, rfl, dp, _, 1, _, rfl, rfl, SqL.of Hd, rfl, sp, _, st.i, _, rfl, rfl, SqL.of Hs, atI_nat hc, .inl ⟨_, rfl, _, rfl, ?_⟩⟩
      rw [ea]
      refine ⟨_, rfl, dp, _, 2, 2, rfl, rfl, Hd, rfl, ?_⟩
      refine ⟨_, rfl, dp, _, 1, .int st.i, rfl, rfl, SqL.of upd_same, rfl, st.i, 1, rfl, rfl, ?_⟩
      refine ⟨_, rfl, dp, _, 1, 1, rfl, rfl, upd_same, rfl, ?_⟩
      have hup : ∀ a, a ≠ dp → (upd (upd H dp (.lst ([V.ref sp, .int st.i, .int st.cur, .int st.seed].set 2 (.int (cellAt st))))) dp (.lst (([V.ref sp, .int st.i, .int st.cur, .int st.seed].set 2 (.int (cellAt st))).set 1 (.int ((st.i : Int) + 1))))) a = H a := fun a h => by rw [upd_ne h, upd_ne h]
      refine ⟨_, rfl, dp, _, 2, .int (cellAt st), rfl, rfl, SqL.of upd_same, rfl, 10, 18, rfl, rfl, cpow18, cellAt st, bigLine, rfl, pow18V, _, rfl, ?_⟩
      have hd : drawn st many = if cellAt st < bigLine then (cellAt st % many, { st with cur := 0, i := st.i + 1 }) else (cellAt st % many, { st with cur := cellAt st / many, i := st.i + 1 }) := by
        unfold drawn
        rw [if_pos ⟨h0, hi⟩]
      have cn0 : 0 ≤ cellAt st := Int.natCast_nonneg _
      have hBL : (0 : Int) < bigLine := by decide +kernel
      generalize bigLine = BL at hd hBL ⊢
      by_cases hb : cellAt st < BL
      · rw [decide_eq_true hb]
        refine iteT ?_
        rw [if_pos hb] at hd
        refine ⟨_, rfl, dp, _, 2, _, rfl, rfl, SqL.of upd_same, rfl, .inl ⟨_, rfl, ?_⟩⟩
        refine ⟨_, rfl, dp, _, 2, 2, rfl, rfl, upd_same, rfl, ?_⟩
        refine ⟨_, rfl, _, rfl, cellAt st, many, rfl, rfl, hm.1, ?_⟩
        exact fin { st with cur := 0, i := st.i + 1 } (cellAt st % many) hd rfl ⟨Int.le_refl 0, f2, f3, f4⟩ _ (fun a h => by rw [upd_ne h]; exact hup a h) upd_same
      · rw [decide_eq_false hb]
        refine iteF ?_
        rw [if_neg hb] at hd
        have hp : 0 < cellAt st := by
          have : (0 : Int) < BL := hBL
          omega
        -- the second if, behind the first one's stores
        refine ⟨_, rfl, dp, _, 2, _, rfl, rfl, SqL.of upd_same, rfl, cellAt st, 0, rfl, rfl, _, rfl, ?_⟩
        rw [decide_eq_true hp]
        refine iteT ?_
        refine ⟨_, rfl, dp, _, 2, _, rfl, rfl, SqL.of upd_same, rfl, .inl ⟨cellAt st, rfl, _, rfl, cellAt st, many, rfl, rfl, hm.1, ?_⟩⟩
        refine ⟨_, rfl, dp, _, 2, _, rfl, rfl, SqL.of upd_same, rfl, .inl ⟨cellAt st, rfl, _, rfl, cellAt st, many, rfl, rfl, hm, ?_⟩⟩
        refine ⟨_, rfl, dp, _, 2, 2, rfl, rfl, upd_same, rfl, _, rfl, ?_⟩
        exact fin { st with cur := cellAt st / many, i := st.i + 1 } (cellAt st % many) hd rfl ⟨Int.ediv_nonneg cn0 (Int.le_of_lt hm.1), f2, f3, f4⟩ _ (fun a h => by rw [upd_ne h]; exact hup a h) upd_same
    · rw [decide_eq_false (show ¬ (st.i : Int) < (st.cells.length : Int) from fun h => hi (Int.ofNat_lt.mp h))]
      exact iteF (rest fun h => hi h.2)
  · have e0 : decide (V.int st.cur = V.int 0) = false := decide_eq_false fun h => h0 (V.int.inj h)
    rw [e0]
    exact iteF (iteF (rest fun h => h0 h.1))

/-! ### _law_begin -/
def rListQ (K : PySem.W.Frag) : Rb := fun xs H Q => ∃ p ys, xs = [.ref p] ∧ (SqL K H p ys ∨ SqT K H p ys) ∧ ∀ l, H l = none → Q (.ref l) (upd H l (.lst ys))
def spBegin (K : PySem.W.Frag) : Sp := fun vs H Q _ => ∃ (a : Addr) (ns : List Int), vs = [.ref a] ∧ SqL K H a (ns.map V.int) ∧ ns.length ≤ 63 ∧
  ∀ p s H' seed, Same H H' → p ≠ s → H' p = some (.lst [.ref s, .int 0, .int 0, .int seed]) → H' s = some (.lst (ns.map V.int)) → 0 ≤ seed → seed < 2147483647 → Q (.ref p) H'
def tBegin (K : PySem.W.Frag) : TS :=
  tSeq (tAsg (tC (.int 1)) (gName 1))
  (tSeq (tFor (iList K (tVar 0)) (gName 2) (tAsg (tOp (rI (fun _ j => 0 < j) fun i j => .int (i % j)) (tOp (rI0 fun i j => .int (i + j)) (tOp (rI0 fun i j => .int (i + j)) (tOp (rI CMul fun i j => .int (i * j)) (tVar 1) (tC (.int 69621)))
      (tOp (rI (fun _ j => 0 < j) fun i j => .int (i % j)) (tCB rInt1 (tCons (tVar 2) tNil)) (tC (.int 2147483629)))) (tC (.int 7))) (tC (.int 2147483647))) (gName 1)))
  (tRet (tLst (tCons (tCB (rListQ K) (tCons (tVar 0) tNil)) (tCons (tC (.int 0)) (tCons (tC (.int 0)) (tCons (tVar 1) tNil)))))))
theorem begin_reads {vs : List V} {Q : VK} {E : XK} (h : spBegin K vs H Q E) : tBegin K { nx := fun _ H' => Q .non H', rt := Q } (L2.start ["script", "seed", "cell"] vs) H := by
  obtain ⟨a, ns, rfl, hS, hl, q⟩ := h
  refine ⟨_, rfl, a, rfl, ⟨_, hS⟩, for_list (K := K) (a := a) (xs := ns.map V.int) (fun i σ H' => ∃ (c : Option V) (seed : Int), σ = [some (.ref a), some (.int seed), c] ∧ H' = H ∧ 0 ≤ seed ∧ seed < 2147483647)
    ⟨none, 1, rfl, rfl, by decide, by decide⟩ (fun i σ H' _ ⟨_, _, _, e, _⟩ => by rw [e]; exact hS) ?_ ?_⟩
  · rintro i y σ H' hi ⟨c, seed, rfl, rfl, h0, h1⟩
    obtain ⟨z, rfl⟩ : ∃ z, y = V.int z := by
      rw [List.getElem?_map] at hi
      cases e : ns[i]? with
      | none => rw [e] at hi; cases hi
      | some z => rw [e] at hi; exact ⟨z, (Option.some.inj hi).symm⟩
    refine ⟨_, rfl, seed, 69621, rfl, rfl, .inr ⟨by decide, by decide⟩, _, rfl, .inl ⟨z, rfl, z, 2147483629, rfl, rfl, (by show (0 : Int) < 2147483629; decide), _, _, rfl, rfl, _, _, rfl, rfl, _, _, rfl, rfl, (by show (0 : Int) < 2147483647; decide), ?_⟩⟩
    exact ⟨_, _, rfl, rfl, Int.emod_nonneg _ (by decide), Int.emod_lt_of_pos _ (by decide)⟩
  · rintro σ H' ⟨c, seed, rfl, rfl, h0, h1⟩
    refine ⟨_, rfl, a, _, rfl, .inl hS, fun s hs => ⟨_, rfl, (by show 4 ≤ sizeLine; decide), fun p hp => ?_⟩⟩
    have hps : s ≠ p := fun e => by rw [← e, upd_same] at hp; cases hp
    refine q p s _ seed (fun b o e => ?_) hps.symm upd_same (by rw [upd_ne hps, upd_same]) h0 h1
    rw [upd_ne (ne_of_none (by rw [upd_ne (ne_of_none e hs)]; exact e) hp), upd_ne (ne_of_none e hs)]
    exact e

/-! ### the law: its draws, then the rest as data -/
def spLaw (K : PySem.W.Frag) : Sp := fun vs H Q _ => ∃ (a : Addr) (ns : List Int), vs = [.ref a] ∧ SqL K H a (ns.map V.int) ∧ ns.length ≤ 63 ∧ ∀ H', Q (.bl true) H'
def drK (n : Nat) : List Kd := .dat :: .res :: List.replicate (n - 2) .dat
def drRho (n : Nat) : Rho := none :: some .none :: List.replicate (n - 2) none
theorem law_reads {N : List Str} {κb κc κn : List Kd} {tb : TS} {m : MS Dr} {vs : List V} {Q : VK} {E : XK} (hN : 2 ≤ N.length) (h : spLaw K vs H Q E)
    (ok : ∀ dp sp, OkS K (drR dp sp) ⟨fun _ _ _ _ => False, cn⟩ κb κc .dat (drK N.length) tb m κn) (hm : ∀ st : Dr, ∃ st', m (drRho N.length) st = .ok (.rt (.bool true)) st') :
    tSeq (tAsg (tCall (spBegin K) [] E0 (tCons (tVar 0) tNil)) (gName 1)) tb { nx := fun _ H' => Q .non H', rt := Q } (L2.start N vs) H := by
  obtain ⟨a, ns, rfl, hS, hl, q⟩ := h
  have hs : (L2.start N [V.ref a])[0]? = some (some (.ref a)) := rfl
  refine ⟨_, hs, a, ns, rfl, hS, hl, fun p s H' seed sm hps hp hsp h0 h1 => ?_⟩
  have hin : In (drR p s) (fun _ => none) H' ⟨ns, 0, 0, seed⟩ := ⟨fun a o h => (by cases h), ⟨hp, hsp, ⟨Int.le_refl 0, h0, h1, hl⟩, hps⟩, fun _ _ => rfl⟩
  obtain ⟨st', hm'⟩ := hm ⟨ns, 0, 0, seed⟩
  have len : (L2.start N [V.ref a]).length = N.length := by
    unfold L2.start
    simp
    omega
  refine ok p s (fun _ => none) H' ⟨ns, 0, 0, seed⟩ (fun _ => none) H' _ (drRho N.length) ⟨ns, 0, 0, seed⟩ _ ⟨fun _ => 0, Out.refl hin, ?_, fun i d hi => ?_, fun i j d e hi hj ki kj => ?_⟩ ?_
  · rw [List.length_set, len]
    unfold drRho
    simp
    omega
  · have e1 : i = 1 ∧ d = .none := by
      unfold drRho at hi
      match i, hi with
      | 0, hi => cases hi
      | 1, hi => exact ⟨rfl, (Option.some.inj (Option.some.inj hi)).symm⟩
      | i + 2, hi =>
        rw [List.getElem?_cons_succ, List.getElem?_cons_succ, List.getElem?_replicate] at hi
        split at hi <;> cases hi
    obtain ⟨rfl, rfl⟩ := e1
    exact ⟨.ref p, List.getElem?_set_self (by rw [len]; omega), rfl, rfl⟩
  · have e1 : i = 1 := by
      unfold drRho at hi
      match i, hi with
      | 0, hi => cases hi
      | 1, hi => rfl
      | i + 2, hi =>
        rw [List.getElem?_cons_succ, List.getElem?_cons_succ, List.getElem?_replicate] at hi
        split at hi <;> cases hi
    subst e1
    cases ki
  · rw [hm']
    intro v S2 H2 o2 ro
    cases ro
    exact q H2
end
end B

namespace B
open PySem L2
section
variable {K : PySem.W.Frag} {W : Type} {R : Rs W} {C : Cl} {κ : List Kd} {S H : Hp}
variable {κb κc κ1 κ2 : List Kd} {rk : Kd}
/-! ### the words' names -/
def mOp (g : Op2) (a b : ME W) : ME W := m2 a b fun d e => lift (g d e)
def mOpL (g : D → D → Option (List D)) (a b : ME W) : ME W := m2 a b fun d e => lift ((g d e).map .list)
def mOpU (g : D → D → Option (List D)) (a b : ME W) : ME W := m2 a b fun d e => lift ((g d e).map .tuple)
def mCB (g : OpN) (m : Rho → M W (List D)) : ME W := fun ρ => bnd (m ρ) fun ds => lift (g ds)
def mCBL (g : List D → Option (List D)) (m : Rho → M W (List D)) : ME W := fun ρ => bnd (m ρ) fun ds => lift ((g ds).map .list)
def mCBU (g : List D → Option (List D)) (m : Rho → M W (List D)) : ME W := fun ρ => bnd (m ρ) fun ds => lift ((g ds).map .tuple)
def mCall (F : List D → M W D) (m : Rho → M W (List D)) : ME W := fun ρ => bnd (m ρ) fun ds => noX (F ds)
def mCallX (F : List D → M W D) (m : Rho → M W (List D)) : ME W := fun ρ => bnd (m ρ) F
def mAndV (a b : ME W) : ME W := fun ρ => bnd (mB a ρ) fun c => if c then b ρ else ret (.bool false)
def mOrV (a b : ME W) : ME W := fun ρ => bnd (mB a ρ) fun c => if c then ret (.bool true) else b ρ
def mNotV (a : ME W) : ME W := fun ρ => bnd (mB a ρ) fun c => ret (.bool (!c))
def asL : D → M W (List D) | .list ds => ret ds | _ => stk
def asT : D → M W (List D) | .tuple ds => ret ds | _ => stk
def asS : D → M W (List D) | .str x => ret (signsOf x) | _ => stk
def srcL (m : ME W) : Rho → M W (List D) := fun ρ => bnd (m ρ) asL
def srcT (m : ME W) : Rho → M W (List D) := fun ρ => bnd (m ρ) asT
def srcS (m : ME W) : Rho → M W (List D) := fun ρ => bnd (m ρ) asS
theorem gOp {ta tb : TE} {ka kb : Kd} {ma mb : ME W} {g : Op2} {r : R2} (hr : OpP K r g) (ha : OkE K R C κ ta ka ma) (hb : OkE K R C κ tb kb mb) (na : ka ≠ .own := by decide) (nr : ka ≠ .res := by decide) (nb : kb ≠ .res := by decide) : OkE K R C κ (tOp r ta tb) .dat (mOp g ma mb) := okOp hr ha hb na nr nb
theorem gOpL {ta tb : TE} {ka kb : Kd} {ma mb : ME W} {g : D → D → Option (List D)} {r : R2} (hr : OpL K r g) (ha : OkE K R C κ ta ka ma) (hb : OkE K R C κ tb kb mb) (na : ka ≠ .own := by decide) (nr : ka ≠ .res := by decide) (nb : kb ≠ .res := by decide) : OkE K R C κ (tOp r ta tb) .own (mOpL g ma mb) := okOpL hr ha hb na nr nb
theorem gOpU {ta tb : TE} {ka kb : Kd} {ma mb : ME W} {g : D → D → Option (List D)} {r : R2} (hr : OpU K r g) (ha : OkE K R C κ ta ka ma) (hb : OkE K R C κ tb kb mb) (na : ka ≠ .own := by decide) (nr : ka ≠ .res := by decide) (nb : kb ≠ .res := by decide) : OkE K R C κ (tOp r ta tb) .dat (mOpU g ma mb) := okOpU hr ha hb na nr nb
theorem gCB {ta : TA} {ks : List Kd} {m : Rho → M W (List D)} {r : Rb} {g : OpN} (hr : CbP K r g) (h : OkA K R C κ ta ks m) (hk : ∀ k ∈ ks, k ≠ .res := by decide) : OkE K R C κ (tCB r ta) .dat (mCB g m) := okCB hr h hk
theorem gCBL {ta : TA} {ks : List Kd} {m : Rho → M W (List D)} {r : Rb} {g : List D → Option (List D)} (hr : CbL K r g) (h : OkA K R C κ ta ks m) (hk : ∀ k ∈ ks, k ≠ .res := by decide) : OkE K R C κ (tCB r ta) .own (mCBL g m) := okCBL hr h hk
theorem gCBU {ta : TA} {ks : List Kd} {m : Rho → M W (List D)} {r : Rb} {g : List D → Option (List D)} (hr : CbU K r g) (h : OkA K R C κ ta ks m) (hk : ∀ k ∈ ks, k ≠ .res := by decide) : OkE K R C κ (tCB r ta) .dat (mCBU g m) := okCBU hr h hk
theorem gAndV {t u : TE} {ka : Kd} {a b : ME W} (h1 : OkE K R C κ t ka a) (h2 : OkE K R C κ u .dat b) (na : ka ≠ .res := by decide) : OkE K R C κ (tAndV t u) .dat (mAndV a b) := by
  have := okAndV h1 h2 na
  simp only [if_true] at this
  exact this
theorem gOrV {t u : TE} {ka : Kd} {a b : ME W} (h1 : OkE K R C κ t ka a) (h2 : OkE K R C κ u .dat b) (na : ka ≠ .res := by decide) : OkE K R C κ (tOrV t u) .dat (mOrV a b) := by
  have := okOrV h1 h2 na
  simp only [if_true] at this
  exact this
theorem gNotV {t : TE} {ka : Kd} {a : ME W} (h1 : OkE K R C κ t ka a) (na : ka ≠ .res := by decide) : OkE K R C κ (tNotV t) .dat (mNotV a) := okNotV h1 na
theorem asL_eq : (fun d => match d with | .list ds => ret ds | _ => stk : D → M W (List D)) = asL := by funext d; cases d <;> rfl
theorem asT_eq : (fun d => match d with | .tuple ds => ret ds | _ => stk : D → M W (List D)) = asT := by funext d; cases d <;> rfl
theorem asS_eq : (fun d => match d with | .str x => ret (signsOf x) | _ => stk : D → M W (List D)) = asS := by funext d; cases d <;> rfl
theorem gIDat {tl : TE} {m : ME W} (h : OkE K R C κ tl .dat m) : OkI K R C κ (iList K tl) (srcL m) := by
  unfold srcL
  rw [← asL_eq]
  exact okIDat h
theorem gIBor {i : Nat} (hk : kd κ i = .bor := by rfl) : OkI K R C κ (iList K (tVar i)) (srcL (mVar i)) := by
  unfold srcL
  rw [← asL_eq]
  exact okIBor hk
theorem gIOwn {i : Nat} (hk : kd κ i = .own := by rfl) : OkIc K R C κ (iList K (tVar i)) (srcL (mVar i)) := by
  unfold srcL
  rw [← asL_eq]
  exact okIOwn hk
theorem gITup {tl : TE} {m : ME W} (h : OkE K R C κ tl .dat m) : OkI K R C κ (iTup K tl) (srcT m) := by
  unfold srcT
  rw [← asT_eq]
  exact okITup h
theorem gIStr {te : TE} {m : ME W} {k : Kd} (h : OkE K R C κ te k m) (hk : k ≠ .res := by decide) : OkI K R C κ (iStr te) (srcS m) := by
  unfold srcS
  rw [← asS_eq]
  exact okIStr h hk

/-- the promise, wherever the draws stand -/
def spD (K : PySem.W.Frag) (cn : String → Value → Prop) (x : Bool) (κs : List Kd) (rk : Kd) (F : List D → M Dr D) : Sp := fun vs H Q E => ∃ dp sp, spB K (drR dp sp) cn x κs rk F vs H Q E
theorem spD_len {cn : String → Value → Prop} {x : Bool} {κs : List Kd} {F : List D → M Dr D} {ps : List Str} (hl : κs.length = ps.length) : ∀ vs H Q E, spD K cn x κs rk F vs H Q E → vs.length = ps.length := fun vs H Q E ⟨_, _, h⟩ => sp_len hl vs H Q E h
theorem gCall {dp sp : Addr} {ta : TA} {ks : List Kd} {m : Rho → M Dr (List D)} {cn : String → Value → Prop} {rk : Kd} {F : List D → M Dr D} {E : XK} (h : OkA K (drR dp sp) C κ ta ks m) (hk : ∀ k ∈ ks, k ≠ .own := by decide) :
    OkE K (drR dp sp) C κ (tCall (spD K cn false ks rk F) [] E ta) rk (mCall F m) := by
  intro S0 H0 w0 S H σ ρ w Q rl q
  refine h S0 H0 w0 S H σ ρ w _ rl ?_
  unfold mCall at q
  cases e : m ρ w with
  | stuck => simp only [bnd_stuck e] at q; exact q.elim
  | exc c fs w1 => simp only [bnd_exc e] at q; exact q
  | ok ds w1 =>
    simp only [bnd_ok e, noX] at q
    intro vs S1 H1 r1 s1 o1
    rw [List.append_nil]
    refine ⟨dp, sp, S1, w1, ds, r1.out.in_, resAll_arg r1 hk o1, ?_⟩
    cases e2 : F ds w1 with
    | stuck => rw [e2] at q; exact q.elim
    | exc c fs w2 => rw [e2] at q; exact q.elim
    | ok d w2 =>
      rw [e2] at q
      exact fun v S2 H2 u2 o2 => q v S2 H2 (r1.after u2) (fun a o z => u2.sub0 a o (s1 a o z)) (o2.res r1 u2)
theorem gCallX {dp sp : Addr} {ta : TA} {ks : List Kd} {m : Rho → M Dr (List D)} {rk : Kd} {F : List D → M Dr D} (h : OkA K (drR dp sp) C κ ta ks m) (hk : ∀ k ∈ ks, k ≠ .own := by decide) :
    OkE K (drR dp sp) C κ (tCallS (spD K C.cn true ks rk F) (WE C.wx) ta) rk (mCallX F m) := by
  intro S0 H0 w0 S H σ ρ w Q rl q
  refine h S0 H0 w0 S H σ ρ w _ rl ?_
  unfold mCallX at q
  cases e : m ρ w with
  | stuck => simp only [bnd_stuck e] at q; exact q.elim
  | exc c fs w1 => simp only [bnd_exc e] at q; exact q
  | ok ds w1 =>
    simp only [bnd_ok e] at q
    intro vs S1 H1 r1 s1 o1
    refine ⟨dp, sp, S1, w1, ds, r1.out.in_, resAll_arg r1 hk o1, ?_⟩
    cases e2 : F ds w1 with
    | stuck => rw [e2] at q; exact q.elim
    | exc c fs w2 =>
      rw [e2] at q
      exact ⟨rfl, fun cls dd S2 H2 u2 hc hx => q cls dd S2 H2 (r1.after u2) hc hx⟩
    | ok d w2 =>
      rw [e2] at q
      exact fun v S2 H2 u2 o2 => q v S2 H2 (r1.after u2) (fun a o z => u2.sub0 a o (s1 a o z)) (o2.res r1 u2)
section
variable {X : Cx} {pos : Pos}
theorem pgN {i : Nat} {x : Str} (hN : X.N.Nodup) (hi : X.N[i]? = some x) (hx : Loc X.env.scope x) (hf : X.fn x = true ∨ X.env.scope.names.lookup x = some .local) : PG X (.Name x pos) (gName i) := pg_name hN hi hx hf
theorem pgsC {e : Expr} {es : List Expr} {t : TG} {u : TGs} (h1 : PG X e t) (h2 : PGs X es u) (hs : (assignEach (e :: es) X.env).map (·.2) = assign e X.env :: (assignEach es X.env).map (·.2)) : PGs X (e :: es) (gCons t u) := pgs_cons h1 h2 hs
theorem pgT {es : List Expr} {k : Nat} {t : TGs} {n : Nat} (hc : X.calm = true) (h : PGs X es t) (hn : (assignEach es X.env).length = n) (hst : (assignEach es X.env).findIdx? (·.1) = none) (hK : X.K = K) : PG X (.Tuple es k pos) (gTup K n t) := by
  subst hK
  exact pg_tup hc h hn hst
theorem opEq (hu : X.A.units + 64 < cLine) (hK : X.K = K) : OpR X (compareOp .Eq) (rEqD K) := by
  subst hK
  exact op_eqD hu
theorem opNe (hu : X.A.units + 64 < cLine) (hK : X.K = K) : OpR X (compareOp .NotEq) (rNeD K) := by
  subst hK
  exact op_neD hu
end
/-! ### built-ins -/
theorem seenAll_1 {vs : List V} {d : D} (h : SeenAll K S H vs [d]) : ∃ v, vs = [v] ∧ Seen K S H v d := by
  cases h with
  | cons h1 h2 => cases h2; exact ⟨_, rfl, h1⟩
theorem seenAll_2 {vs : List V} {d e : D} (h : SeenAll K S H vs [d, e]) : ∃ v u, vs = [v, u] ∧ Seen K S H v d ∧ Seen K S H u e := by
  cases h with
  | cons h1 h2 =>
    obtain ⟨u, rfl, h3⟩ := seenAll_1 h2
    exact ⟨_, u, rfl, h1, h3⟩
def gLen : OpN | [.list ds] => some (.int ds.length) | [.tuple ds] => some (.int ds.length) | _ => none
theorem cLen : CbP K (rLenQ K) gLen := by
  intro S H vs ds z Q sub hs hf q
  unfold gLen at hf
  split at hf
  · cases hf
    obtain ⟨v, rfl, h⟩ := seenAll_1 hs
    obtain ⟨p, us, rfl, h1, h2⟩ := seen_list sub h
    refine ⟨p, us, rfl, .inl (SqL.of h1), ?_⟩
    rw [dvs_len h2]
    exact q _ (.int _)
  · cases hf
    obtain ⟨v, rfl, h⟩ := seenAll_1 hs
    obtain ⟨p, us, rfl, h1, _, h2⟩ := seen_tup sub h
    refine ⟨p, us, rfl, .inr h1, ?_⟩
    rw [dvs_len h2]
    exact q _ (.int _)
  · cases hf
def gLenS : OpN | [.str x] => if x.length ≤ 1000000 then some (.int x.length) else none | _ => none
theorem cLenS : CbP K (fun xs H Q => ∃ z, xs = [.str z] ∧ z.length ≤ sizeLine ∧ Q (.int z.length) H) gLenS := by
  intro S H vs ds z Q sub hs hf q
  unfold gLenS at hf
  split at hf
  · split at hf
    · rename_i hl
      cases hf
      obtain ⟨v, rfl, h⟩ := seenAll_1 hs
      rw [seen_str h]
      exact ⟨_, rfl, sz_le hl, q _ (.int _)⟩
    · cases hf
  · cases hf
def gAbs : OpN | [.int i] => some (.int (if i < 0 then -i else i)) | _ => none
theorem cAbs : CbP K rAbs1 gAbs := by
  intro S H vs ds z Q sub hs hf q
  unfold gAbs at hf
  split at hf
  · cases hf
    obtain ⟨v, rfl, h⟩ := seenAll_1 hs
    rw [seen_int h]
    exact ⟨_, rfl, q _ (.int _)⟩
  · cases hf
def gMax2 : OpN | [.int i, .int j] => some (.int (if j > i then j else i)) | _ => none
theorem cMax2 : CbP K (fun xs H Q => ∃ i j, xs = [.int i, .int j] ∧ Q (.int (if j > i then j else i)) H) gMax2 := by
  intro S H vs ds z Q sub hs hf q
  unfold gMax2 at hf
  split at hf
  · cases hf
    obtain ⟨v, u, rfl, h1, h2⟩ := seenAll_2 hs
    rw [seen_int h1, seen_int h2]
    exact ⟨_, _, rfl, q _ (.int _)⟩
  · cases hf
def gMin2 : OpN | [.int i, .int j] => some (.int (if j < i then j else i)) | _ => none
theorem cMin2 : CbP K (fun xs H Q => ∃ i j, xs = [.int i, .int j] ∧ Q (.int (if j < i then j else i)) H) gMin2 := by
  intro S H vs ds z Q sub hs hf q
  unfold gMin2 at hf
  split at hf
  · cases hf
    obtain ⟨v, u, rfl, h1, h2⟩ := seenAll_2 hs
    rw [seen_int h1, seen_int h2]
    exact ⟨_, _, rfl, q _ (.int _)⟩
  · cases hf
def gInt1 : OpN | [.int i] => some (.int i) | [.bool b] => some (.int (if b = true then 1 else 0)) | _ => none
theorem cInt1 : CbP K rInt1 gInt1 := by
  intro S H vs ds z Q sub hs hf q
  unfold gInt1 at hf
  split at hf
  · cases hf
    obtain ⟨v, rfl, h⟩ := seenAll_1 hs
    rw [seen_int h]
    exact .inl ⟨_, rfl, q _ (.int _)⟩
  · cases hf
    obtain ⟨v, rfl, h⟩ := seenAll_1 hs
    rw [seen_bl h]
    exact .inr ⟨_, rfl, q _ (.int _)⟩
  · cases hf
/-- a list of ints -/
def intsD : List D → Option (List Int)
  | [] => some []
  | .int i :: ds => (intsD ds).map (i :: ·)
  | _ :: _ => none
theorem intsD_map : ∀ {ds : List D} {ns : List Int}, intsD ds = some ns → ds = ns.map .int
  | [], ns, h => by cases h; rfl
  | .int i :: ds, ns, h => by
    unfold intsD at h
    cases e : intsD ds with
    | none => rw [e] at h; cases h
    | some ms => rw [e] at h; cases h; rw [intsD_map e]; rfl
@[simp] theorem intsD_of (ns : List Int) : intsD (ns.map .int) = some ns := by
  induction ns with
  | nil => rfl
  | cons n ns ih => show (intsD (ns.map .int)).map (n :: ·) = _; rw [ih]; rfl
def blsD : List D → Option (List Bool)
  | [] => some []
  | .bool i :: ds => (blsD ds).map (i :: ·)
  | _ :: _ => none
theorem blsD_map : ∀ {ds : List D} {ns : List Bool}, blsD ds = some ns → ds = ns.map .bool
  | [], ns, h => by cases h; rfl
  | .bool i :: ds, ns, h => by
    unfold blsD at h
    cases e : blsD ds with
    | none => rw [e] at h; cases h
    | some ms => rw [e] at h; cases h; rw [blsD_map e]; rfl
@[simp] theorem blsD_of (ns : List Bool) : blsD (ns.map .bool) = some ns := by
  induction ns with
  | nil => rfl
  | cons n ns ih => show (blsD (ns.map .bool)).map (n :: ·) = _; rw [ih]; rfl
def strsD : List D → Option (List Str)
  | [] => some []
  | .str i :: ds => (strsD ds).map (i :: ·)
  | _ :: _ => none
theorem strsD_map : ∀ {ds : List D} {ns : List Str}, strsD ds = some ns → ds = ns.map .str
  | [], ns, h => by cases h; rfl
  | .str i :: ds, ns, h => by
    unfold strsD at h
    cases e : strsD ds with
    | none => rw [e] at h; cases h
    | some ms => rw [e] at h; cases h; rw [strsD_map e]; rfl
@[simp] theorem strsD_of (ns : List Str) : strsD (ns.map .str) = some ns := by
  induction ns with
  | nil => rfl
  | cons n ns ih => show (strsD (ns.map .str)).map (n :: ·) = _; rw [ih]; rfl
def maxI : List Int → Int
  | [] => 0
  | [a] => a
  | a :: b :: r => max a (maxI (b :: r))
def minI : List Int → Int
  | [] => 0
  | [a] => a
  | a :: b :: r => min a (minI (b :: r))
theorem maxI_le : ∀ {ns : List Int} {y : Int}, y ∈ ns → y ≤ maxI ns
  | [a], y, h => by
    rw [List.mem_singleton] at h
    rw [h]; exact Int.le_refl _
  | a :: b :: r, y, h => by
    show y ≤ max a (maxI (b :: r))
    rcases List.mem_cons.mp h with rfl | h
    · exact Int.le_max_left _ _
    · exact Int.le_trans (maxI_le h) (Int.le_max_right _ _)
theorem maxI_mem : ∀ {ns : List Int}, ns ≠ [] → maxI ns ∈ ns
  | [a], _ => List.mem_singleton.mpr rfl
  | a :: b :: r, _ => by
    show max a (maxI (b :: r)) ∈ a :: b :: r
    have ih : maxI (b :: r) ∈ b :: r := maxI_mem (List.cons_ne_nil _ _)
    by_cases h : a ≤ maxI (b :: r)
    · rw [Int.max_eq_right h]; exact List.mem_cons_of_mem _ ih
    · rw [Int.max_eq_left (by omega)]; exact List.mem_cons_self
theorem minI_le : ∀ {ns : List Int} {y : Int}, y ∈ ns → minI ns ≤ y
  | [a], y, h => by
    rw [List.mem_singleton] at h
    rw [h]; exact Int.le_refl _
  | a :: b :: r, y, h => by
    show min a (minI (b :: r)) ≤ y
    rcases List.mem_cons.mp h with rfl | h
    · exact Int.min_le_left _ _
    · exact Int.le_trans (Int.min_le_right _ _) (minI_le h)
theorem minI_mem : ∀ {ns : List Int}, ns ≠ [] → minI ns ∈ ns
  | [a], _ => List.mem_singleton.mpr rfl
  | a :: b :: r, _ => by
    show min a (minI (b :: r)) ∈ a :: b :: r
    have ih : minI (b :: r) ∈ b :: r := minI_mem (List.cons_ne_nil _ _)
    by_cases h : a ≤ minI (b :: r)
    · rw [Int.min_eq_left h]; exact List.mem_cons_self
    · rw [Int.min_eq_right (by omega)]; exact List.mem_cons_of_mem _ ih
def gMaxL : OpN | [.list ds] => (intsD ds).bind fun ns => if ns = [] then none else some (.int (maxI ns)) | _ => none
def gMinL : OpN | [.list ds] => (intsD ds).bind fun ns => if ns = [] then none else some (.int (minI ns)) | _ => none
def gSumL : OpN | [.list ds] => (intsD ds).map fun ns => .int ns.sum | _ => none
def gAnyL : OpN | [.list ds] => (blsD ds).map fun bs => .bool (bs.any id) | _ => none
def gAllL : OpN | [.list ds] => (blsD ds).map fun bs => .bool (bs.all id) | _ => none
theorem cMaxL : CbP K (rMax K) gMaxL := by
  intro S H vs ds z Q sub hs hf q
  unfold gMaxL at hf
  split at hf
  · rename_i ds'
    cases e : intsD ds' with
    | none => rw [e] at hf; cases hf
    | some ns =>
      rw [e] at hf
      have hf : (if ns = [] then none else some (PyData.int (maxI ns))) = some z := hf
      by_cases hn : ns = []
      · rw [if_pos hn] at hf; cases hf
      · rw [if_neg hn] at hf
        cases hf
        obtain ⟨v, rfl, h⟩ := seenAll_1 hs
        obtain ⟨p, us, rfl, h1, h2⟩ := seen_list sub h
        rw [intsD_map e] at h2
        rw [dvs_ints h2] at h1
        refine ⟨p, ns, rfl, SqL.of h1, List.length_pos_iff.mpr hn, fun m hm hl => ?_⟩
        have e1 : m = maxI ns := Int.le_antisymm (maxI_le hm) (hl _ (maxI_mem hn))
        rw [e1]
        exact q _ (.int _)
  · cases hf
theorem cMinL : CbP K (rMin K) gMinL := by
  intro S H vs ds z Q sub hs hf q
  unfold gMinL at hf
  split at hf
  · rename_i ds'
    cases e : intsD ds' with
    | none => rw [e] at hf; cases hf
    | some ns =>
      rw [e] at hf
      have hf : (if ns = [] then none else some (PyData.int (minI ns))) = some z := hf
      by_cases hn : ns = []
      · rw [if_pos hn] at hf; cases hf
      · rw [if_neg hn] at hf
        cases hf
        obtain ⟨v, rfl, h⟩ := seenAll_1 hs
        obtain ⟨p, us, rfl, h1, h2⟩ := seen_list sub h
        rw [intsD_map e] at h2
        rw [dvs_ints h2] at h1
        refine ⟨p, ns, rfl, SqL.of h1, List.length_pos_iff.mpr hn, fun m hm hl => ?_⟩
        have e1 : m = minI ns := Int.le_antisymm (hl _ (minI_mem hn)) (minI_le hm)
        rw [e1]
        exact q _ (.int _)
  · cases hf
theorem cSumL : CbP K (rSum K) gSumL := by
  intro S H vs ds z Q sub hs hf q
  unfold gSumL at hf
  split at hf
  · rename_i ds'
    cases e : intsD ds' with
    | none => rw [e] at hf; cases hf
    | some ns =>
      rw [e] at hf
      cases hf
      obtain ⟨v, rfl, h⟩ := seenAll_1 hs
      obtain ⟨p, us, rfl, h1, h2⟩ := seen_list sub h
      rw [intsD_map e] at h2
      rw [dvs_ints h2] at h1
      exact ⟨p, ns, rfl, SqL.of h1, q _ (.int _)⟩
  · cases hf
theorem cAnyL : CbP K (rAny K) gAnyL := by
  intro S H vs ds z Q sub hs hf q
  unfold gAnyL at hf
  split at hf
  · rename_i ds'
    cases e : blsD ds' with
    | none => rw [e] at hf; cases hf
    | some ns =>
      rw [e] at hf
      cases hf
      obtain ⟨v, rfl, h⟩ := seenAll_1 hs
      obtain ⟨p, us, rfl, h1, h2⟩ := seen_list sub h
      rw [blsD_map e] at h2
      rw [dvs_bls h2] at h1
      exact ⟨p, ns, rfl, SqL.of h1, q _ (.bl _)⟩
  · cases hf
theorem cAllL : CbP K (rAll K) gAllL := by
  intro S H vs ds z Q sub hs hf q
  unfold gAllL at hf
  split at hf
  · rename_i ds'
    cases e : blsD ds' with
    | none => rw [e] at hf; cases hf
    | some ns =>
      rw [e] at hf
      cases hf
      obtain ⟨v, rfl, h⟩ := seenAll_1 hs
      obtain ⟨p, us, rfl, h1, h2⟩ := seen_list sub h
      rw [blsD_map e] at h2
      rw [dvs_bls h2] at h1
      exact ⟨p, ns, rfl, SqL.of h1, q _ (.bl _)⟩
  · cases hf
def gListOf : List D → Option (List D) | [.list ds] => some ds | [.tuple ds] => some ds | _ => none
theorem cList : CbL K (rListQ K) gListOf := by
  intro S H vs ds z Q sub hs hf q
  unfold gListOf at hf
  split at hf
  · cases hf
    obtain ⟨v, rfl, h⟩ := seenAll_1 hs
    obtain ⟨p, us, rfl, h1, h2⟩ := seen_list sub h
    exact ⟨p, us, rfl, .inl (SqL.of h1), fun l hl => q l us hl h2⟩
  · cases hf
    obtain ⟨v, rfl, h⟩ := seenAll_1 hs
    obtain ⟨p, us, rfl, h1, _, h2⟩ := seen_tup sub h
    exact ⟨p, us, rfl, .inr h1, fun l hl => q l us hl h2⟩
  · cases hf
def rTupQ (K : PySem.W.Frag) : Rb := fun xs H Q => ∃ p ys, xs = [.ref p] ∧ ((SqL K H p ys ∧ ∀ l, H l = none → Q (.ref l) (upd H l (.tup ys))) ∨ (SqT K H p ys ∧ Q (.ref p) H))
theorem cTuple : CbU K (rTupQ K) gListOf := by
  intro S H vs ds z Q sub hs hf q q2
  unfold gListOf at hf
  split at hf
  · cases hf
    obtain ⟨v, rfl, h⟩ := seenAll_1 hs
    obtain ⟨p, us, rfl, h1, h2⟩ := seen_list sub h
    exact ⟨p, us, rfl, .inl ⟨SqL.of h1, fun l hl => q l us hl h2⟩⟩
  · cases hf
    obtain ⟨v, rfl, h⟩ := seenAll_1 hs
    obtain ⟨p, us, rfl, h1, h3, h2⟩ := seen_tup sub h
    exact ⟨p, us, rfl, .inr ⟨h1, q2 _ (.tup h3 h2)⟩⟩
  · cases hf
end
end B

namespace B
open PySem L2
section
variable {X : Cx} {K : PySem.W.Frag}
/-! ### the rules, K told apart (within a comprehension the context is another) -/
theorem kIxL (hK : X.K = K) : IxR X (rIxL K) := by subst hK; exact ix_list
theorem kIxT (hK : X.K = K) : IxR X (rIxT K) := by subst hK; exact ix_tup
theorem kIn (hK : X.K = K) : OpR X (compareOp .In) (rIn K false) := by subst hK; exact op_in_seq
theorem kNotIn (hK : X.K = K) : OpR X (compareOp .NotIn) (rIn K true) := by subst hK; exact op_notIn_seq
theorem kInD (hu : X.A.units + 65 < cLine) (hK : X.K = K) : OpR X (compareOp .In) (rInD K) := by subst hK; exact op_inD hu
theorem kNotInD (hu : X.A.units + 65 < cLine) (hK : X.K = K) : OpR X (compareOp .NotIn) (rNotInD K) := by subst hK; exact op_notInD hu
theorem kLen (hK : X.K = K) : CallR X (.builtin "len") (rLenQ K) := by subst hK; exact call_len_seq
theorem kListOf (hK : X.K = K) : CallR X (.type "list") (rListQ K) := by subst hK; exact call_list_of
theorem kTupOf (hK : X.K = K) : CallR X (.type "tuple") (rTupQ K) := by subst hK; exact call_tuple_of
theorem kMaxL (hc : X.calm = true) (hK : X.K = K) : CallR X (.builtin "max") (rMax K) := by subst hK; exact cr_max hc
theorem kMinL (hc : X.calm = true) (hK : X.K = K) : CallR X (.builtin "min") (rMin K) := by subst hK; exact cr_min hc
theorem kSumL (hc : X.calm = true) (hK : X.K = K) : CallR X (.builtin "sum") (rSum K) := by subst hK; exact cr_sum hc
theorem kAnyL (hc : X.calm = true) (hK : X.K = K) : CallR X (.builtin "any") (rAny K) := by subst hK; exact cr_any hc
theorem kAllL (hc : X.calm = true) (hK : X.K = K) : CallR X (.builtin "all") (rAll K) := by subst hK; exact cr_all hc
theorem kCatT (hK : X.K = K) : OpR X (binaryOp .Add) (rCatA K) := by subst hK; exact op_catA
theorem kRepT (hK : X.K = K) : OpR X (binaryOp .Mult) (rRepT K) := by subst hK; exact op_repT
theorem kSlT (hK : X.K = K) : SlR X (rSlA K) := by subst hK; exact sl_tupA
theorem kSlL (hK : X.K = K) : SlR X (rSlL K) := by subst hK; exact sl_list
theorem kTruth {a : Expr} {ta : TE} (hK : X.K = K) (ha : PE X a ta) (he : ∀ whole, isTrue a X.env whole = (do let v ← whole; standAt a.pos; holding [v] (truthy v))) :
    PT X a (fun σ H Q => ta σ H fun x H' => ∃ k, TruV K x H' k ∧ Q k H') := by subst hK; exact pt_truth ha he
end
section
variable {K : PySem.W.Frag} {W : Type} {R : Rs W} {C : Cl} {κ : List Kd} {S H : Hp}
/-! ### texts -/
def isText : D → Bool | .str _ => true | _ => false
def gAddS : Op2 | .str x, .str y => if x.length + y.length ≤ 1000000 then some (.str (x ++ y)) else none | _, _ => none
theorem oAddS : OpP K (fun x y H Q => ∃ i j, x = .str i ∧ y = .str j ∧ i.length + j.length ≤ sizeLine ∧ Q (.str (i ++ j)) H) gAddS := by
  intro S H x y d e u Q sub hx hy h q
  unfold gAddS at h; split at h
  · split at h
    · rename_i c
      cases h
      rw [seen_str hx, seen_str hy]
      exact ⟨_, _, rfl, rfl, sz_le c, q _ (.str _)⟩
    · cases h
  · cases h
def gIxS : Op2 | .str x, .int i => if x.length ≤ 1000000 then (atI x.cps.toList i).map fun c => .str ⟨#[c]⟩ else none | _, _ => none
theorem oIxS : OpP K rIxS gIxS := by
  intro S H x y d e u Q sub hx hy h q
  unfold gIxS at h; split at h
  · rename_i z i
    split at h
    · rename_i c
      cases e2 : atI z.cps.toList i with
      | none => rw [e2] at h; cases h
      | some k =>
        rw [e2] at h
        cases h
        rw [seen_str hx, seen_int hy]
        exact ⟨_, _, k, rfl, rfl, sz_le c, e2, q _ (.str _)⟩
    · cases h
  · cases h
def gLtS : Op2 | .str x, .str y => some (.bool (decide (x.cps.toList < y.cps.toList))) | _, _ => none
theorem oLtS : OpP K (fun x y H Q => ∃ i j, x = .str i ∧ y = .str j ∧ Q (.bl (decide (i.cps.toList < j.cps.toList))) H) gLtS := by
  intro S H x y d e u Q sub hx hy h q
  unfold gLtS at h; split at h
  · cases h
    rw [seen_str hx, seen_str hy]
    exact ⟨_, _, rfl, rfl, q _ (.bl _)⟩
  · cases h
/-- one sign in a text -/
def oneOf (x : Str) : Option Nat := match x.cps.toList with | [c] => some c | _ => none
theorem oneOf_is {x : Str} {c : Nat} (h : oneOf x = some c) : x = ⟨#[c]⟩ := by
  unfold oneOf at h
  split at h
  · rename_i a e
    cases h
    obtain ⟨b⟩ := x
    congr 1
    apply Array.ext'
    exact e
  · cases h
@[simp] theorem oneOf_mk (c : Nat) : oneOf ⟨#[c]⟩ = some c := (rfl)
def gInC : Op2 | .str x, .str z => (oneOf x).map fun c => .bool (decide (c ∈ z.cps.toList)) | _, _ => none
def gNotInC : Op2 | .str x, .str z => (oneOf x).map fun c => .bool (!decide (c ∈ z.cps.toList)) | _, _ => none
theorem oInC : OpP K (fun x y H Q => ∃ (c : Nat) (z : Str), x = .str ⟨#[c]⟩ ∧ y = .str z ∧ Q (.bl (decide (c ∈ z.cps.toList))) H) gInC := by
  intro S H x y d e u Q sub hx hy h q
  unfold gInC at h; split at h
  · rename_i a b
    cases ec : oneOf a with
    | none => rw [ec] at h; cases h
    | some c =>
      rw [ec] at h
      cases h
      rw [seen_str hx, seen_str hy, oneOf_is ec]
      exact ⟨_, _, rfl, rfl, q _ (.bl _)⟩
  · cases h
theorem oNotInC : OpP K (fun x y H Q => ∃ (c : Nat) (z : Str), x = .str ⟨#[c]⟩ ∧ y = .str z ∧ Q (.bl (!decide (c ∈ z.cps.toList))) H) gNotInC := by
  intro S H x y d e u Q sub hx hy h q
  unfold gNotInC at h; split at h
  · rename_i a b
    cases ec : oneOf a with
    | none => rw [ec] at h; cases h
    | some c =>
      rw [ec] at h
      cases h
      rw [seen_str hx, seen_str hy, oneOf_is ec]
      exact ⟨_, _, rfl, rfl, q _ (.bl _)⟩
  · cases h
def gOrd : OpN | [.str x] => if x.length = 1 then some (.int (x.cps.getD 0 0 : Nat)) else none | _ => none
theorem cOrd : CbP K (fun xs H Q => ∃ x, xs = [.str x] ∧ x.length = 1 ∧ Q (.int (x.cps.getD 0 0 : Nat)) H) gOrd := by
  intro S H vs ds z Q sub hs hf q
  unfold gOrd at hf
  split at hf
  · split at hf
    · rename_i hl
      cases hf
      obtain ⟨v, rfl, h⟩ := seenAll_1 hs
      rw [seen_str h]
      exact ⟨_, rfl, hl, q _ (.int _)⟩
    · cases hf
  · cases hf
/-- str(n): below 10 ^ 500 -/
def gStrI : OpN | [.int i] => if i.natAbs.log2 < 1920 then some (.str (toString i)) else none | _ => none
theorem cStrI : CbP K (fun xs H Q => ∃ i, xs = [.int i] ∧ i.natAbs.log2 < 1920 ∧ Q (.str (toString i)) H) gStrI := by
  intro S H vs ds z Q sub hs hf q
  unfold gStrI at hf
  split at hf
  · split at hf
    · rename_i hl
      cases hf
      obtain ⟨v, rfl, h⟩ := seenAll_1 hs
      rw [seen_int h]
      exact ⟨_, rfl, hl, q _ (.str _)⟩
    · cases hf
  · cases hf

/-! ### None, in a tuple, tuples -/
def gIsN : Op2 | .none, .none => some (.bool true) | _, .none => some (.bool false) | _, _ => none
def gNotN : Op2 | .none, .none => some (.bool false) | _, .none => some (.bool true) | _, _ => none
theorem seen_notNone {v : V} {d : D} (hd : d ≠ .none) (h : Seen K S H v d) : v ≠ .non := by
  rcases h with h | ⟨p, ho, rfl, _, _⟩
  · cases h with
    | non => exact absurd rfl hd
    | _ => exact fun z => by cases z
  · exact fun z => by cases z
theorem oIsN : OpP K (fun x y H Q => y = .non ∧ Q (.bl (decide (x = .non))) H) gIsN := by
  intro S H x y d e u Q sub hx hy h q
  unfold gIsN at h
  split at h
  · cases h
    rw [seen_none hx, seen_none hy]
    exact ⟨rfl, q _ (.bl _)⟩
  · rename_i hd
    cases h
    rw [seen_none hy, decide_eq_false (seen_notNone (fun z => hd z) hx)]
    exact ⟨rfl, q _ (.bl _)⟩
  · cases h
theorem oNotN : OpP K (fun x y H Q => y = .non ∧ Q (.bl (!decide (x = .non))) H) gNotN := by
  intro S H x y d e u Q sub hx hy h q
  unfold gNotN at h
  split at h
  · cases h
    rw [seen_none hx, seen_none hy]
    exact ⟨rfl, q _ (.bl _)⟩
  · rename_i hd
    cases h
    rw [seen_none hy, decide_eq_false (seen_notNone (fun z => hd z) hx)]
    exact ⟨rfl, q _ (.bl _)⟩
  · cases h
def flatD : D → Bool | .none => true | .bool _ => true | .int _ => true | .str _ => true | _ => false
theorem flat_dv {v : V} {d : D} (h : DV K S v d) (f : flatD d = true) : flatV v = true := by
  cases h with
  | lst _ _ => cases f
  | tup _ _ => cases f
  | dct _ _ => cases f
  | _ => rfl
theorem eqV_dv {v u : V} {d e : D} (h : DV K S v d) (h2 : DV K S u e) (f : flatD d = true) (f2 : flatD e = true) : eqV v u = PyData.eqv d e := by
  cases h with
  | lst _ _ => cases f
  | tup _ _ => cases f
  | _ =>
    cases h2 with
    | lst _ _ => cases f2
    | tup _ _ => cases f2
    | _ => simp only [eqV, PyData.eqv]
theorem inV_dvs {v : V} {d : D} (h : DV K S v d) (f : flatD d = true) : ∀ {us : List V} {es : List D}, DVs K S us es → es.all flatD = true → us.all flatV = true ∧ inV v us = es.any fun y => PyData.eqv y d
  | _, _, .nil, _ => ⟨rfl, rfl⟩
  | _, _, .cons h1 h2, fs => by
    rw [List.all_cons, Bool.and_eq_true] at fs
    obtain ⟨g1, g2⟩ := inV_dvs h f h2 fs.2
    refine ⟨by rw [List.all_cons, flat_dv h1 fs.1, g1]; rfl, ?_⟩
    unfold inV at g2 ⊢
    rw [List.any_cons, List.any_cons, g2, eqV_dv h1 h fs.1 f]
def gInT : Op2 | d, .tuple es => if flatD d = true ∧ es.all flatD = true then some (.bool (es.any fun y => PyData.eqv y d)) else none | _, _ => none
def gNotInT : Op2 | d, .tuple es => if flatD d = true ∧ es.all flatD = true then some (.bool (!es.any fun y => PyData.eqv y d)) else none | _, _ => none
theorem flat_seen {v : V} {d : D} (f : flatD d = true) (h : Seen K S H v d) : DV K S v d := by
  rcases h with h | ⟨p, ho, _, _, h⟩
  · exact h
  · cases ho <;> cases d <;> first | exact h.elim | cases f
theorem oInT : OpP K (rIn K false) gInT := by
  intro S H x y d e u Q sub hx hy h q
  unfold gInT at h
  split at h
  · split at h
    · rename_i c
      cases h
      obtain ⟨p, vs, rfl, h1, _, h2⟩ := seen_tup sub hy
      have hd := flat_seen c.1 hx
      obtain ⟨g1, g2⟩ := inV_dvs hd c.1 h2 c.2
      refine ⟨p, vs, rfl, .inr h1, flat_dv hd c.1, g1, ?_⟩
      rw [if_neg Bool.false_ne_true, g2]
      exact q _ (.bl _)
    · cases h
  · cases h
theorem oNotInT : OpP K (rIn K true) gNotInT := by
  intro S H x y d e u Q sub hx hy h q
  unfold gNotInT at h
  split at h
  · split at h
    · rename_i c
      cases h
      obtain ⟨p, vs, rfl, h1, _, h2⟩ := seen_tup sub hy
      have hd := flat_seen c.1 hx
      obtain ⟨g1, g2⟩ := inV_dvs hd c.1 h2 c.2
      refine ⟨p, vs, rfl, .inr h1, flat_dv hd c.1, g1, ?_⟩
      rw [if_pos rfl, g2]
      exact q _ (.bl _)
    · cases h
  · cases h
def gInD : Op2 | d, .list es => if SeqAt.shaped d = true ∧ SeqAt.shaped (.list es) = true then some (.bool (es.any fun z => PyData.eqv z d)) else none | _, _ => none
def gNotInD : Op2 | d, .list es => if SeqAt.shaped d = true ∧ SeqAt.shaped (.list es) = true then some (.bool (!es.any fun z => PyData.eqv z d)) else none | _, _ => none
theorem oInD : OpP K (rInD K) gInD := by
  intro S H x y d e u Q sub hx hy h q
  unfold gInD at h
  split at h
  · split at h
    · rename_i c
      cases h
      exact ⟨_, _, seen_dp sub c.1 hx, seen_dp sub c.2 hy, c.1, c.2, q _ (.bl _)⟩
    · cases h
  · cases h
theorem oNotInD : OpP K (rNotInD K) gNotInD := by
  intro S H x y d e u Q sub hx hy h q
  unfold gNotInD at h
  split at h
  · split at h
    · rename_i c
      cases h
      exact ⟨_, _, seen_dp sub c.1 hx, seen_dp sub c.2 hy, c.1, c.2, q _ (.bl _)⟩
    · cases h
  · cases h
def gCatT : D → D → Option (List D) | .tuple a, .tuple b => if a.length + b.length ≤ 1000000 then some (a ++ b) else none | _, _ => none
theorem oCatT : OpU K (rCatA K) gCatT := by
  intro S H x y d e u Q sub hx hy h q q2
  unfold gCatT at h
  split at h
  · split at h
    · rename_i c
      cases h
      obtain ⟨p, vs, rfl, h1, s1, h2⟩ := seen_tup sub hx
      obtain ⟨p', vs', rfl, h1', s1', h2'⟩ := seen_tup sub hy
      refine ⟨p, p', vs, vs', rfl, rfl, h1, h1', by rw [dvs_len h2, dvs_len h2']; exact sz_le c, fun e => ?_, fun _ e => ?_, fun _ _ p hp => q p _ hp (dvs_app h2 h2')⟩
      · subst e
        cases h2
        exact q2 _ (.tup s1' h2')
      · subst e
        cases h2'
        rw [List.append_nil] at q2
        exact q2 _ (.tup s1 h2)
    · cases h
  · cases h
def gRepT : D → D → Option (List D) | .tuple a, .int k => if a ≠ [] ∧ 2 ≤ k ∧ k ≤ 1000 ∧ a.length ≤ 1000 then some (List.replicate k.toNat a).flatten else none | _, _ => none
theorem dvs_rep {vs : List V} {ds : List D} (h : DVs K S vs ds) : ∀ n, DVs K S (List.replicate n vs).flatten (List.replicate n ds).flatten
  | 0 => .nil
  | n + 1 => by
    rw [List.replicate_succ, List.replicate_succ, List.flatten_cons, List.flatten_cons]
    exact dvs_app h (dvs_rep h n)
theorem oRepT : OpU K (rRepT K) gRepT := by
  intro S H x y d e u Q sub hx hy h q q2
  unfold gRepT at h
  split at h
  · split at h
    · rename_i c
      cases h
      obtain ⟨p, vs, rfl, h1, s1, h2⟩ := seen_tup sub hx
      rw [seen_int hy]
      have hl := dvs_len h2
      exact ⟨p, _, vs, rfl, rfl, h1, fun e => c.1 (by rw [e] at h2; cases h2; rfl), c.2.1, c.2.2.1, by rw [hl]; exact c.2.2.2, fun p hp => q p _ hp (dvs_rep h2 _)⟩
    · cases h
  · cases h
def gRep : D → D → Option (List D) | .list a, .int k => if -1000000 ≤ k ∧ k ≤ 1000000 ∧ a.length * k.toNat ≤ 1000000 then some (List.replicate k.toNat a).flatten else none | _, _ => none

/-! ### minus, chains, truth -/
def mNeg (m : ME W) : ME W := fun ρ => bnd (m ρ) fun d => match d with | .int i => ret (.int (-i)) | _ => stk
theorem gNeg {te : TE} {k : Kd} {m : ME W} (h : OkE K R C κ te k m) (hk : k ≠ .res := by decide) : OkE K R C κ (tUn (rU fun i => .int (-i)) te) .dat (mNeg m) := by
  intro S0 H0 w0 S H σ ρ w Q rl q
  refine h S0 H0 w0 S H σ ρ w _ rl ?_
  unfold mNeg at q
  cases e : m ρ w with
  | stuck => rw [bnd_stuck e] at q; exact q.elim
  | exc c fs w1 => rw [bnd_exc e] at q; exact q
  | ok d w1 =>
    rw [bnd_ok e] at q
    intro v S1 H1 r1 s1 o1
    cases d with
    | int i => exact ⟨i, seen_int (o1.seen r1 hk), q _ S1 H1 r1 s1 (.int _)⟩
    | _ => exact q.elim
def mChn (f g : Op2) (ma mb mc : ME W) : ME W := fun ρ => bnd (ma ρ) fun d => bnd (mb ρ) fun e => bnd (lift (f d e)) fun z => match z with
  | .bool b => if b then bnd (mc ρ) fun u => lift (g e u) else ret (.bool false)
  | _ => stk
theorem gChain {ta tb tc : TE} {kc : Kd} {ma mb mc : ME W} {f g : Op2} {r r' : R2} (hf : OpP K r f) (hg : OpP K r' g) (ha : OkE K R C κ ta .dat ma) (hb : OkE K R C κ tb .dat mb) (hc : OkE K R C κ tc kc mc) (nc : kc ≠ .res := by decide) :
    OkE K R C κ (tChain r r' ta tb tc) .dat (mChn f g ma mb mc) := by
  intro S0 H0 w0 S H σ ρ w Q rl q
  refine ha S0 H0 w0 S H σ ρ w _ rl ?_
  unfold mChn at q
  cases e1 : ma ρ w with
  | stuck => rw [bnd_stuck e1] at q; exact q.elim
  | exc c fs w1 => rw [bnd_exc e1] at q; exact q
  | ok d w1 =>
    rw [bnd_ok e1] at q
    intro x S1 H1 r1 s1 o1
    refine hb S0 H0 w0 S1 H1 σ ρ w1 _ r1 ?_
    cases e2 : mb ρ w1 with
    | stuck => rw [bnd_stuck e2] at q; exact q.elim
    | exc c fs w2 => rw [bnd_exc e2] at q; exact q
    | ok e w2 =>
      rw [bnd_ok e2] at q
      intro y S2 H2 r2 s2 o2
      have o1' : DV K S2 x d := dp_mono s2 _ _ o1
      cases e3 : f d e with
      | none => rw [e3, lift_none, bnd_stk] at q; exact q.elim
      | some z =>
        rw [e3, lift_some, bnd_ret] at q
        refine hf S2 H2 x y d e z _ r2.out.sub (.inl o1') (.inl o2) e3 fun v hv => ?_
        cases z with
        | bool b =>
          cases hv
          refine ⟨b, rfl, ?_⟩
          have q' : PostE K R C κ S0 H0 w0 S2 σ ρ .dat Q ((if b = true then bnd (mc ρ) fun u => lift (g e u) else ret (.bool false) : M W D) w2) := postE_mono (fun a o z => s2 a o (s1 a o z)) q
          cases b with
          | false =>
            rw [if_neg (by decide)] at q' ⊢
            exact q' (.bl false) S2 H2 r2 (fun _ _ h => h) (.bl _)
          | true =>
            rw [if_pos rfl] at q' ⊢
            refine hc S0 H0 w0 S2 H2 σ ρ w2 _ r2 ?_
            cases e4 : mc ρ w2 with
            | stuck => rw [bnd_stuck e4] at q'; exact q'.elim
            | exc c fs w3 => rw [bnd_exc e4] at q'; exact q'
            | ok u w3 =>
              rw [bnd_ok e4] at q'
              intro y3 S3 H3 r3 s3 o3
              cases e5 : g e u with
              | none => rw [e5, lift_none] at q'; exact q'.elim
              | some z2 =>
                rw [e5, lift_some] at q'
                exact hg S3 H3 y y3 e u z2 Q r3.out.sub (.inl (dp_mono s3 _ _ o2)) (o3.seen r3 nc) e5 fun v2 hv2 => q' v2 S3 H3 r3 s3 hv2
        | _ => exact q.elim
def truD : D → Option Bool | .none => some false | .bool b => some b | .int i => some (i != 0) | .str x => if x.length ≤ 1000000 then some ((x.length : Int) != 0) else none | .list ds => some (!ds.isEmpty) | .tuple ds => some (!ds.isEmpty) | .dict _ => none
def mTruth (m : ME W) : Rho → M W Bool := fun ρ => bnd (m ρ) fun d => lift (truD d)
theorem gTruth {te : TE} {k : Kd} {m : ME W} (h : OkE K R C κ te k m) (hk : k ≠ .res := by decide) : OkT K R C κ (fun σ H Q => te σ H fun x H' => ∃ k, TruV K x H' k ∧ Q k H') (mTruth m) := by
  intro S0 H0 w0 S H σ ρ w Q rl q
  refine h S0 H0 w0 S H σ ρ w _ rl ?_
  unfold mTruth at q
  cases e : m ρ w with
  | stuck => rw [bnd_stuck e] at q; exact q.elim
  | exc c fs w1 => rw [bnd_exc e] at q; exact q
  | ok d w1 =>
    rw [bnd_ok e] at q
    intro v S1 H1 r1 s1 o1
    have o2 := o1.seen r1 hk
    have sub := r1.out.sub
    cases d with
    | none => rw [seen_none o2]; exact ⟨false, rfl, q S1 H1 r1 s1⟩
    | bool b => rw [seen_bl o2]; exact ⟨b, rfl, q S1 H1 r1 s1⟩
    | int i => rw [seen_int o2]; exact ⟨_, rfl, q S1 H1 r1 s1⟩
    | str x =>
      rw [seen_str o2]
      have q' : PostT K R C κ S0 H0 w0 S σ ρ Q ((lift (if x.length ≤ 1000000 then some ((x.length : Int) != 0) else none) : M W Bool) w1) := q
      by_cases hl : x.length ≤ 1000000
      · rw [if_pos hl] at q'
        exact ⟨_, ⟨sz_le hl, rfl⟩, q' S1 H1 r1 s1⟩
      · rw [if_neg hl] at q'; exact q'.elim
    | list ds =>
      obtain ⟨p, vs, rfl, h1, h2⟩ := seen_list sub o2
      have e3 : vs.isEmpty = ds.isEmpty := by cases h2 <;> rfl
      exact ⟨!vs.isEmpty, .inl ⟨vs, SqL.of h1, rfl⟩, by rw [e3]; exact q S1 H1 r1 s1⟩
    | tuple ds =>
      obtain ⟨p, vs, rfl, h1, _, h2⟩ := seen_tup sub o2
      have e3 : vs.isEmpty = ds.isEmpty := by cases h2 <;> rfl
      exact ⟨!vs.isEmpty, .inr (.inl ⟨vs, h1, rfl⟩), by rw [e3]; exact q S1 H1 r1 s1⟩
    | dict _ => exact q.elim

/-! ### slices -/
abbrev Rsl := V → Option Int → Option Int → Hp → VK → Prop
def OkO (K : PySem.W.Frag) (R : Rs W) (C : Cl) (κ : List Kd) (t : TO) (m : Rho → M W (Option Int)) : Prop :=
  ∀ S0 H0 w0 S H σ ρ w Q, Rel K R κ S0 H0 w0 S H σ ρ w → (match m ρ w with
    | .ok o w' => ∀ S' H', Rel K R κ S0 H0 w0 S' H' σ ρ w' → (∀ a o, S a = some o → S' a = some o) → Q o H'
    | .exc c fs w' => ∀ cls dd S' H', Rel K R κ S0 H0 w0 S' H' σ ρ w' → C.cn c cls → XOk R S' H' w' dd fs → C.wx cls (some dd) σ H'
    | .stuck => False) → t σ H Q
def mNoP : Rho → M W (Option Int) := fun _ => ret none
def mPart (m : ME W) : Rho → M W (Option Int) := fun ρ => bnd (m ρ) fun d => match d with | .int i => ret (some i) | _ => stk
theorem gNoP : OkO K R C κ tNoPart (mNoP : Rho → M W (Option Int)) := by
  intro S0 H0 w0 S H σ ρ w Q rl q
  exact q S H rl fun _ _ h => h
theorem gPart {te : TE} {k : Kd} {m : ME W} (h : OkE K R C κ te k m) (hk : k ≠ .res := by decide) : OkO K R C κ (tPart te) (mPart m) := by
  intro S0 H0 w0 S H σ ρ w Q rl q
  refine h S0 H0 w0 S H σ ρ w _ rl ?_
  unfold mPart at q
  cases e : m ρ w with
  | stuck => rw [bnd_stuck e] at q; exact q.elim
  | exc c fs w1 => rw [bnd_exc e] at q; exact q
  | ok d w1 =>
    rw [bnd_ok e] at q
    intro v S1 H1 r1 s1 o1
    cases d with
    | int i => exact ⟨i, seen_int (o1.seen r1 hk), q S1 H1 r1 s1⟩
    | _ => exact q.elim
def SlP (K : PySem.W.Frag) (r : Rsl) (g : D → Option Int → Option Int → Option D) : Prop :=
  ∀ S H x d lo hi z (Q : VK), (∀ a o, S a = some o → H a = some o) → Seen K S H x d → g d lo hi = some z → (∀ v, DV K S v z → Q v H) → r x lo hi H Q
def SlLs (K : PySem.W.Frag) (r : Rsl) (g : D → Option Int → Option Int → Option (List D)) : Prop :=
  ∀ S H x d lo hi z (Q : VK), (∀ a o, S a = some o → H a = some o) → Seen K S H x d → g d lo hi = some z → (∀ p vs, H p = none → DVs K S vs z → Q (.ref p) (upd H p (.lst vs))) → r x lo hi H Q
def SlTs (K : PySem.W.Frag) (r : Rsl) (g : D → Option Int → Option Int → Option (List D)) : Prop :=
  ∀ S H x d lo hi z (Q : VK), (∀ a o, S a = some o → H a = some o) → Seen K S H x d → g d lo hi = some z → (∀ p vs, H p = none → DVs K S vs z → Q (.ref p) (upd H p (.tup vs))) → (∀ v, DV K S v (.tuple z) → Q v H) → r x lo hi H Q
def mSl (f : D → Option Int → Option Int → M W D) (m : ME W) (l h : Rho → M W (Option Int)) : ME W := fun ρ => bnd (m ρ) fun d => bnd (l ρ) fun lo => bnd (h ρ) fun hi => f d lo hi
theorem gSl' {te : TE} {tl th : TO} {k rk : Kd} {m : ME W} {l h : Rho → M W (Option Int)} {r : Rsl} {f : D → Option Int → Option Int → M W D} (he : OkE K R C κ te k m) (hl : OkO K R C κ tl l) (hh : OkO K R C κ th h) (nk : k ≠ .own) (nr : k ≠ .res)
    (hr : ∀ S0 H0 w0 S H σ ρ w x d lo hi Q, Rel K R κ S0 H0 w0 S H σ ρ w → Seen K S H x d → PostE K R C κ S0 H0 w0 S σ ρ rk Q (f d lo hi w) → r x lo hi H Q) : OkE K R C κ (tSl r te tl th) rk (mSl f m l h) := by
  intro S0 H0 w0 S H σ ρ w Q rl q
  refine he S0 H0 w0 S H σ ρ w _ rl ?_
  unfold mSl at q
  cases e : m ρ w with
  | stuck => rw [bnd_stuck e] at q; exact q.elim
  | exc c fs w1 => rw [bnd_exc e] at q; exact q
  | ok d w1 =>
    rw [bnd_ok e] at q
    intro x S1 H1 r1 s1 o1
    refine hl S0 H0 w0 S1 H1 σ ρ w1 _ r1 ?_
    cases e2 : l ρ w1 with
    | stuck => rw [bnd_stuck e2] at q; exact q.elim
    | exc c fs w2 => rw [bnd_exc e2] at q; exact q
    | ok lo w2 =>
      rw [bnd_ok e2] at q
      intro S2 H2 r2 s2
      refine hh S0 H0 w0 S2 H2 σ ρ w2 _ r2 ?_
      cases e3 : h ρ w2 with
      | stuck => rw [bnd_stuck e3] at q; exact q.elim
      | exc c fs w3 => rw [bnd_exc e3] at q; exact q
      | ok hi w3 =>
        rw [bnd_ok e3] at q
        intro S3 H3 r3 s3
        exact hr S0 H0 w0 S3 H3 σ ρ w3 x d lo hi Q r3 ((ResOk.mono nk (fun a o z => s3 a o (s2 a o z)) o1 : ResOk K R κ S0 H0 w0 S3 H3 σ ρ w3 k x d).seen r3 nr) (postE_mono (fun a o z => s3 a o (s2 a o (s1 a o z))) q)
def liftP (g : D → Option Int → Option Int → Option D) : D → Option Int → Option Int → M W D := fun d lo hi => lift (g d lo hi)
def liftL (g : D → Option Int → Option Int → Option (List D)) : D → Option Int → Option Int → M W D := fun d lo hi => lift ((g d lo hi).map .list)
def liftT (g : D → Option Int → Option Int → Option (List D)) : D → Option Int → Option Int → M W D := fun d lo hi => lift ((g d lo hi).map .tuple)
theorem gSl {te : TE} {tl th : TO} {k : Kd} {m : ME W} {l h : Rho → M W (Option Int)} {r : Rsl} {g : D → Option Int → Option Int → Option D} (hr : SlP K r g) (he : OkE K R C κ te k m) (hl : OkO K R C κ tl l) (hh : OkO K R C κ th h) (nk : k ≠ .own := by decide) (nr : k ≠ .res := by decide) :
    OkE K R C κ (tSl r te tl th) .dat (mSl (liftP g) m l h) := by
  refine gSl' he hl hh nk nr fun S0 H0 w0 S H σ ρ w x d lo hi Q rl hx q => ?_
  unfold liftP at q
  cases e : g d lo hi with
  | none => rw [e] at q; exact q.elim
  | some z => rw [e] at q; exact hr S H x d lo hi z Q rl.out.sub hx e fun v hv => q v S H rl (fun _ _ h => h) hv
theorem gSlL {te : TE} {tl th : TO} {k : Kd} {m : ME W} {l h : Rho → M W (Option Int)} {r : Rsl} {g : D → Option Int → Option Int → Option (List D)} (hr : SlLs K r g) (he : OkE K R C κ te k m) (hl : OkO K R C κ tl l) (hh : OkO K R C κ th h) (nk : k ≠ .own := by decide) (nr : k ≠ .res := by decide) :
    OkE K R C κ (tSl r te tl th) .own (mSl (liftL g) m l h) := by
  refine gSl' he hl hh nk nr fun S0 H0 w0 S H σ ρ w x d lo hi Q rl hx q => ?_
  unfold liftL at q
  cases e : g d lo hi with
  | none => rw [e] at q; exact q.elim
  | some z => rw [e] at q; exact hr S H x d lo hi z Q rl.out.sub hx e fun p us hp hv => q (.ref p) S _ (rl.allocOwn hp) (fun _ _ h => h) (res_new rl hp hv)
theorem gSlT {te : TE} {tl th : TO} {k : Kd} {m : ME W} {l h : Rho → M W (Option Int)} {r : Rsl} {g : D → Option Int → Option Int → Option (List D)} (hr : SlTs K r g) (he : OkE K R C κ te k m) (hl : OkO K R C κ tl l) (hh : OkO K R C κ th h) (nk : k ≠ .own := by decide) (nr : k ≠ .res := by decide) :
    OkE K R C κ (tSl r te tl th) .dat (mSl (liftT g) m l h) := by
  refine gSl' he hl hh nk nr fun S0 H0 w0 S H σ ρ w x d lo hi Q rl hx q => ?_
  unfold liftT at q
  cases e : g d lo hi with
  | none => rw [e] at q; exact q.elim
  | some z =>
    rw [e] at q
    refine hr S H x d lo hi z Q rl.out.sub hx e (fun p us hp hv => ?_) fun v hv => q v S H rl (fun _ _ h => h) hv
    have e := le_upd (ho := .tup us) (rl.out.s_none hp)
    exact q (.ref p) _ _ (rl.alloc hp) e (.tup (SqT.of upd_same) (dpAll_mono e _ _ hv))
def cutD (ds : List D) (lo hi : Option Int) : List D := (ds.drop (HT.sIx ds.length 0 lo)).take (HT.sIx ds.length ds.length hi - HT.sIx ds.length 0 lo)
theorem dvs_cut {vs : List V} {ds : List D} (h : DVs K S vs ds) (lo hi : Option Int) : DVs K S (cutV vs lo hi) (cutD ds lo hi) := by
  unfold cutV cutD
  rw [dvs_len h]
  exact dvs_take _ (dvs_drop _ h)
def gSlTup : D → Option Int → Option Int → Option (List D) | .tuple ds, lo, hi => some (cutD ds lo hi) | _, _, _ => none
def gSlLst : D → Option Int → Option Int → Option (List D) | .list ds, lo, hi => some (cutD ds lo hi) | _, _, _ => none
def gSlStr : D → Option Int → Option Int → Option D | .str x, lo, hi => if x.length ≤ 1000000 then some (.str (cutS x lo hi)) else none | _, _, _ => none
theorem oSlT : SlTs K (rSlA K) gSlTup := by
  intro S H x d lo hi z Q sub hx h q q2
  unfold gSlTup at h
  split at h
  · rename_i ds
    cases h
    obtain ⟨p, vs, rfl, h1, s1, h2⟩ := seen_tup sub hx
    refine ⟨p, vs, rfl, h1, fun hw => q2 _ ?_, fun _ p hp => q p _ hp (dvs_cut h2 lo hi)⟩
    have e : cutD ds lo hi = ds := by
      unfold cutD
      rw [← dvs_len h2, hw.1, hw.2, List.drop_zero, Nat.sub_zero, dvs_len h2, List.take_length]
    rw [e]
    exact .tup s1 h2
  · cases h
theorem oSlL : SlLs K (rSlL K) gSlLst := by
  intro S H x d lo hi z Q sub hx h q
  unfold gSlLst at h
  split at h
  · cases h
    obtain ⟨p, vs, rfl, h1, h2⟩ := seen_list sub hx
    exact ⟨p, vs, rfl, SqL.of h1, fun p hp => q p _ hp (dvs_cut h2 lo hi)⟩
  · cases h
theorem oSlS : SlP K rSlS gSlStr := by
  intro S H x d lo hi z Q sub hx h q
  unfold gSlStr at h
  split at h
  · split at h
    · rename_i c
      cases h
      rw [seen_str hx]
      exact ⟨_, rfl, sz_le c, q _ (.str _)⟩
    · cases h
  · cases h
end
section
theorem sqT_mk {K : PySem.W.Frag} {S : Hp} {a : Addr} {xs : List V} {od : Option Addr} {its : Array Value} {n : Nat} {sl : Array (Option Value)} (l : K.lookup a = some ⟨.type "tuple", od, .seq its n, sl⟩) (v : Vals xs its.toList) (hl : xs.length ≤ sizeLine) : SqT K S a xs :=
  .inr ⟨_, its, n, l, rfl, rfl, by rw [← Array.length_toList, ← v.length]; exact hl, v⟩
theorem law_end {l : PySem.W.OpenLaw} {w : World} {K : PySem.W.Frag} {mg : Str → Option Value} {k : Nat} {fa : Addr} (hfa : mg "law" = some (.ref fa)) (g : Good l.prog w K mg CX0 k "law" ["script"] (spLaw K)) :
    ∃ fd : FuncData, (∀ (s : Shared) (v : Value), BindsTo s fd ⟨[v], []⟩ [("script", v)]) ∧ ∀ base : Heap, K.In base → base.Ns mainGlobals mg → FnOk l.prog w K mg base CX0 k fa fd ["script"] (spLaw K) := by
  obtain ⟨fd, hb, h⟩ := Good.law hfa g
  exact ⟨fd, fun s v => .of_eq (hb [v] rfl), h⟩
theorem hu65 {k : Nat} {A : Around} (h : Room k A) : A.units + 65 < cLine := by have := h.un; omega
end
end B

/-! own errors: class C(..ValueError..) whose __init__ says super().__init__(f'refused: {code}') and keeps the code -/
namespace BX
open PySem PySem.W PySem.Calls PyProof.Rows PySem.HandSPX
def eA (p1 p2 : Pos) : Arguments := { posonlyargs := [], args := [{ arg := "self", annotation := none, pos := p1 }, { arg := "code", annotation := none, pos := p2 }], vararg := none, kwonlyargs := [], kw_defaults := [], kwarg := none, defaults := [] }
def eM (m0 m1 m2 m3 : Pos) : PySem.Expr := .JoinedStr [.Constant (.str "refused: ") 0 m0, .FormattedValue (.Name "code" m1) (-1) none m2] m3
def eI (p0 p1 p2 p3 p4 : Pos) (msg : PySem.Expr) : Stmt := .Expr (.Call (.Attribute (.Call (.Name "super" p0) [] [] p1) "__init__" p2) [msg] [] p3) p4
def eF (f : Str) (q1 q2 q3 q4 : Pos) : Stmt := .Assign [.Attribute (.Name "self" q1) f q2] (.Name f q3) q4
def eS : Scope := { kind := .function, names := [(PySem.Str.ofString "self", .local), (PySem.Str.ofString "code", .local), (PySem.Str.ofString "__class__", .free), (PySem.Str.ofString "super", .globalImplicit)], isGenerator := false, isCoroutine := false, more := [] }
/-- what the written part says of an own error class at C -/
structure ErrCls (P : Program) (K : Frag) (C : Addr) : Prop where
  cls : ∃ nm q N bs bm sn sub ab col dd k0 k1 k2 k3 k5, K.lookup C = some (excClassObj nm q C N bs bm true sn sub ab col dd k0 k1 k2 k3 k5 "ValueError.__new__") ∧ refsVE bm = true
  sa : findIn K (.ref C) "__setattr__" = some (some (.builtin "object.__setattr__"))
  ga : findIn K (.ref C) "__getattribute__" = some (some (.builtin "BaseException.__getattribute__"))
  gg : findIn K (.ref C) "__getattr__" = some none
  kC : keepIn K (.ref C) = true
  exC : subIn K (.ref C) (.type "BaseException") = some true
  veC : subIn K (.ref C) (.type "ValueError") = some true
  seC : mroIn K C (.ref C) = some true
  tyC : typeIn K (.ref C) = some (.type "type")
  hdC : hasDictIn K C = true
  sup : ks_superIn K C C "__init__" = some (some (.builtin "ValueError.__init__"))
  opq : nsIn K cStatics "thirdparty.any" = some none
  nos : nsIn K mainGlobals "super" = some none
  top : (P.main.scope.names.lookup ("super" : Str)).isSome = false
/-- .. and of its __init__ -/
structure ErrFn (P : Program) (K : Frag) (C fI : Addr) (qual : Str) (args : Arguments) (body : List Stmt) (scope : Scope) : Prop where
  iC : findIn K (.ref C) "__init__" = some (some (.ref fI))
  tI : typeIn K (.ref fI) = some (.type "function")
  fn : ∃ (oc : Value) (od an : Option Addr) (doc pm ct : Value) (cda cc : Addr) (osl : Array (Option Value)) (vs : Array Value) (file : Str) (tf : Tok) (ccl cl : Value) (cdd cld : Option Addr) (ccs csl : Array (Option Value)),
    K.lookup fI = some ⟨oc, od, .func (ksFn "__init__" qual args body scope .none .none doc pm an (.ref cda) ct cc), osl⟩ ∧ codeIn K (.ref cda) qual = true ∧
    K.lookup cda = some ⟨ccl, cdd, .fields vs, ccs⟩ ∧ vs[2]? = some (.str file tf) ∧ ((P.main.file : Str) == file) = true ∧ K.lookup cc = some ⟨cl, cld, .cell (some (.ref C)), csl⟩
section
variable {prog : Program} {w : World} {M : Model} {A : Around} {E : Value → Shared → Prop} {R : Result → Shared → Prop} {s : Shared} {K : Frag} {mg mb : Str → Option Value} {C fI : Addr}
theorem clsIn_of {nm q : Str} {C N : Addr} {bs bm : List Value} {hd : Bool} {sn : List Str} {sub : List Value} {ab : Bool} {col : Option Bool} {dd : Option Addr} {k0 k1 k2 k3 k5 : Option Value} {nw : String} (h : K.lookup C = some (excClassObj nm q C N bs bm hd sn sub ab col dd k0 k1 k2 k3 k5 nw)) :
    clsIn K C = some { name := nm, bases := bs, mro := .ref C :: bm, ns := N, qualname := q, hasDict := hd, slotNames := sn, subclasses := sub, abstract := ab, collection := col, hasDel := false } := by
  unfold clsIn
  rw [h] <;> rfl
/-- the built-in __init__ bound to the exception, called -/
theorem call_mw {h : Heap} {g : Array GenState} {d : Drawn} {t : Nat} {os : OsState} {nm q : Str} {C N : Addr} {bs bm : List Value} {hdct : Bool} {sn : List Str} {sub : List Value} {ab : Bool} {col : Option Bool} {dd : Option Addr} {k0 k1 k2 k3 k5 : Option Value}
    {u e t0 : Addr} {rest : List Value} {Q : Value → Shared → Prop}
    (hC : h.get? C = some (excClassObj nm q C N bs bm hdct sn sub ab col dd k0 k1 k2 k3 k5 "ValueError.__new__")) (he : h.get? e = some (excO C t0)) (hu : h.get? u = some (kxs_mw "ValueError.__init__" e)) (hz : rest.length ≤ sizeLine)
    (hq : ∀ h' t1, (∀ b o, b ≠ e → h.get? b = some o → h'.get? b = some o) → h'.get? e = some (excO C t1) → Q .none ⟨h', g, d, t, os⟩) : wpAny (model prog w) A (call (.ref u) rest) Q E ⟨h, g, d, t, os⟩ := by
  refine wpAny_call (codeAny_of_tree ?_)
  show wpAny _ A.in1 (callAny (.ref u) (Args.mk rest [])) _ _ _
  simp only [callAny]
  refine wpAny_bind (wpAny_load hu ?_)
  have d1 : (Value.type "method-wrapper" == Value.type "method" || Value.type "method-wrapper" == Value.type "builtin_function_or_method" || Value.type "method-wrapper" == Value.type "method-wrapper") = true := by decide
  simp only [kxs_mw, d1, if_true]
  refine KFB.if_so (by decide) ?_
  refine wpAny_bind (check_bound_init F.excBase_ValueError.toExcCallFacts hC he rfl ?_)
  refine wpAny_bind (wpAny_pure (wpAny_pure ?_))
  refine ⟨plainId_quiet F.excBase_ValueError.init.plain _, codeAny_builtin F.excBase_ValueError.initEntry ?_⟩
  exact exc_init_tree (cls := .ref C) (t0 := t0) (dv := none) (c2 := .none) (c3 := .none) (b4 := .bool false) he hz fun h' k e' _ => hq h' _ k e'
/-- super().__init__(msg), the message's text never asked for again -/
theorem super_init {L x t0 : Addr} {m : Str → Option Value} {qual : Str} {args : Arguments} {body : List Stmt} {scope : Scope} {p0 p1 p2 p3 p4 : Pos} {msg : PySem.Expr} {Q : Flow → Shared → Prop} {oc ccl cl doc pm ct : Value} {od an cdd cld : Option Addr} {osl ccs csl : Array (Option Value)} {cda cc : Addr} {vs : Array Value} {file : Str} {tf : Tok} {bd : List Stmt} {ar : Arg}
    (T : ErrCls prog K C) (X : K.In s.heap) (hL : s.heap.Ns L m) (hs : m ar.arg = some (.ref x)) (hx : s.heap.get? x = some (excO C t0)) (G : s.heap.Ns mainGlobals mg) (hb : s.heap.Ns builtinsNs mb) (hbs : mb "super" = some (.type "super"))
    (hf : K.lookup fI = some ⟨oc, od, .func (ksFn "__init__" qual args bd scope .none .none doc pm an (.ref cda) ct cc), osl⟩) (hp : (args.posonlyargs ++ args.args).head? = some ar)
    (hcode : K.lookup cda = some ⟨ccl, cdd, .fields vs, ccs⟩) (hvs : vs[2]? = some (.str file tf)) (hfile : ((prog.main.file : Str) == file) = true) (hcell : K.lookup cc = some ⟨cl, cld, .cell (some (.ref C)), csl⟩)
    (hks : scope.names.lookup ("super" : Str) = some .globalImplicit) (hkc : scope.names.lookup ("__class__" : Str) = some .free) (hka : scope.names.lookup ar.arg = some .local) (hk : scope.kind = .function)
    (hm : ∀ (s' : Shared) (P : Value → Shared → Prop), s'.heap.Ns L m → (∀ v tk, P v { s' with toks := tk }) → wpAny (model prog w) A (eval msg (ksEnv qual scope L fI (.ref cda) cc)) P E s')
    (he : starEach [msg] (ksEnv qual scope L fI (.ref cda) cc) = (false, eval msg (ksEnv qual scope L fI (.ref cda) cc)) :: starEach [] (ksEnv qual scope L fI (.ref cda) cc))
    (hi : interactive (ksEnv qual scope L fI (.ref cda) cc) = false) {pl : Sem Bool} (hcall : eval (.Call (.Attribute (.Call (.Name "super" p0) [] [] p1) "__init__" p2) [msg] [] p3) (ksEnv qual scope L fI (.ref cda) cc) = (do
      let ov ← attributeBase (.Call (.Name "super" p0) [] [] p1) "__init__" (ksEnv qual scope L fI (.ref cda) cc) (eval (.Call (.Name "super" p0) [] [] p1) (ksEnv qual scope L fI (.ref cda) cc))
      standAt p2.atName
      let (f, first) ← holding [ov] (getMethod ov "__init__" pl)
      callWith p3 f first (backTo p3 (starEach [msg] (ksEnv qual scope L fI (.ref cda) cc))) []))
    (h : ∀ h' t1 tk, (∀ b o, b ≠ x → s.heap.get? b = some o → h'.get? b = some o) → h'.get? x = some (excO C t1) → Q .next { s with heap := h', toks := tk }) :
    _root_.PySem.wpAt (model prog w) A (.func body (ksEnv qual scope L fI (.ref cda) cc)) (exec (eI p0 p1 p2 p3 p4 msg) (ksEnv qual scope L fI (.ref cda) cc)) Q E s := by
  obtain ⟨nm, q, N, bs, bm, sn, sub, ab, col, dd, k0, k1, k2, k3, k5, hC, hbm⟩ := T.cls
  have hcl := clsIn_of hC
  have xC : x ≠ C := fun z => by
    have y := X _ _ hC
    rw [← z, hx] at y
    cases y
  obtain ⟨hh, g, d, tk, os⟩ := s
  show _root_.PySem.wpAt _ _ _ (exec (.Expr (.Call (.Attribute (.Call (.Name "super" p0) [] [] p1) "__init__" p2) [msg] [] p3) p4) _) _ _ _
  refine ks_wpAt_Expr_any (ks_wpAt_MethodCall (ks_wpAt_super_base (env := ksEnv qual scope L fI (.ref cda) cc) hks hkc (by decide) rfl (X _ _ hf) rfl hp rfl (X _ _ hcode) rfl hvs hfile T.top ?_) hcall) hi
  refine ks_loadName_global hk hks (loadGlobal_builtin (env := ksEnv qual scope L fI (.ref cda) cc) G (mg_none_of X G T.nos) hb hbs ⟨rfl, ?_⟩)
  refine wpAny_loadName_free hk hkc rfl ⟨_, X _ _ hcell, rfl⟩ ?_
  refine wpAny_loadName_local hk hka hL hs ?_
  refine ks_wpAny_isType_cls (X _ _ hC) rfl ⟨rfl, ?_⟩
  refine ks_wpAny_call_super (X _ _ hC) rfl hx rfl (fun c z => by cases z) (looks_mroIn X T.seC) fun h1 e1 k1' => ?_
  have X1 : K.In h1 := X.keeps k1'
  have hx1 := k1' _ _ hx
  have I1 : InstAt h1 x (excO C t0) C none := ⟨hx1, rfl, rfl, trivial⟩
  have hal : alongIn K "__init__" (((.ref C :: bm).dropWhile (· != .ref C)).drop 1) = some (some (.builtin "ValueError.__init__")) := by
    have z := T.sup
    unfold ks_superIn at z
    rw [hcl] at z
    exact z
  refine kxs_getMethod kxs_ValueError e1 (looks_opaque X1 T.opq) (l₀ := .ref C :: bm) (fun A Q E s k q => wpAny_bind ((looks_clsIn X1 hcl) A _ E s k (wpAny_pure q))) rfl X1 hal (I1.type.andThen (looks_subIn X1 T.veC)) xC (by decide) ?_
  rw [he]
  refine kxs_callWith (i := "ValueError.__init__") (x := x) rfl (evalArgs_plain ?_)
  have n1 : hh.objs.size < h1.objs.size := Heap.lt_size e1
  have up : ∀ b o, hh.get? b = some o → (h1.push (kxs_mw "ValueError.__init__" x)).get? b = some o := fun b o e => Heap.get?_push_of_some _ (k1' b o e)
  refine Calls.spliced_cons (hm _ _ (hL.keeps up) fun v tk => ?_)
  refine Calls.spliced_nil ⟨Heap.get?_push_at rfl rfl, ?_⟩
  refine call_mw (up _ _ (X _ _ hC)) (up _ _ hx) (Heap.get?_push_at rfl rfl) (by show 1 ≤ sizeLine; decide) fun h' t1 k e => ?_
  exact h h' t1 _ (fun b o hb z => k b o hb (up b o z)) e
/-- the message's reading -/
theorem msg_code {env : Env} {L : Addr} {m : Str → Option Value} {y : Str} {tv : Tok} {m0 m1 m2 m3 : Pos} {P : Value → Shared → Prop} (hn : s.heap.Ns env.locals m) (hv : m "code" = some (.str y tv)) (hz : y.length ≤ 1000)
    (hk : env.scope.kind = .function) (hl : env.kindOf "code" = some .local) (h : ∀ v tk, P v { s with toks := tk }) : wpAny (model prog w) A (eval (eM m0 m1 m2 m3) env) P E s := by
  have z1 : sizeLine = 16777216 := sizeLine_eq
  have z0 : (("refused: " : Str)).length = 9 := by decide +kernel
  have ap : ∀ a b : Str, (a ++ b).length = a.length + b.length := fun a b => by
    show (a.cps ++ b.cps).size = _
    rw [Array.size_append]; rfl
  unfold eM
  refine wpAny_JoinedStr ?_
  refine wpAny_Constant_str ⟨_, _, rfl, by rw [ap, z0, z1]; show 0 + 9 ≤ _; omega, ?_⟩
  have fin : ∀ (s1 : Shared), s1.heap = s.heap → s1.gens = s.gens → s1.drawn = s.drawn → s1.os = s.os → ((Str.empty ++ ("refused: " : Str)) ++ y).length ≤ sizeLine ∧ P (.str ((Str.empty ++ ("refused: " : Str)) ++ y) s1.toks) { s1 with toks := s1.toks + 1 } := fun s1 e1 e2 e3 e4 => by
    refine ⟨?_, ?_⟩
    · rw [ap, ap, z0, z1]
      show 0 + 9 + y.length ≤ _
      omega
    · obtain ⟨h1, h2, h3, h4, h5⟩ := s1
      cases e1; cases e2; cases e3; cases e4
      exact h _ _
  have len2 : ((Str.empty ++ ("refused: " : Str)) ++ y).length ≤ sizeLine := by
    rw [ap, ap, z0, z1]
    show 0 + 9 + y.length ≤ _
    omega
  refine wpAny_FormattedValue_plain (wpAny_Name (wpAny_loadName_local hk hl (hn : ({ s with toks := s.toks + 1 } : Shared).heap.Ns env.locals m) hv ?_))
  refine wpAny_formatField_str ⟨y, _, rfl, len2, ?_⟩ ⟨y, _, rfl, len2, ?_⟩ (by rw [z1]; omega)
  · exact fin _ rfl rfl rfl rfl
  · exact fin _ rfl rfl rfl rfl
structure InitEnd (h h' : Heap) (x C dx : Addr) (m : Str → Option Value) : Prop where
  keep : ∀ b o, b ≠ x → h.get? b = some o → h'.get? b = some o
  obj : ∃ t1 : Addr, h'.get? x = some { cls := .ref C, dict := some dx, data := .fields #[.ref t1, .none, .none, .none, .bool false, .none] }
  dbig : h.objs.size ≤ dx
  dne : dx ≠ x
  ns : h'.Ns1 dx m
/-- the text of an __init__ of one field -/
structure ErrFn1 (P : Program) (K : Frag) (C fI : Addr) : Prop where
  toCls : ErrCls P K C
  no : findIn K (.ref C) "code" = some none
  fn : ∃ (qual : Str) (p1 p2 a0 a1 a2 a3 a4 m0 m1 m2 m3 q1 q2 q3 q4 : Pos), ErrFn P K C fI qual (eA p1 p2) [eI a0 a1 a2 a3 a4 (eM m0 m1 m2 m3), eF "code" q1 q2 q3 q4] eS ∧
    ∀ (L : Addr) (cda : Value) (cc : Addr), ∃ pl : Sem Bool, eval (.Call (.Attribute (.Call (.Name "super" a0) [] [] a1) "__init__" a2) [eM m0 m1 m2 m3] [] a3) (ksEnv qual eS L fI cda cc) = (do
      let ov ← attributeBase (.Call (.Name "super" a0) [] [] a1) "__init__" (ksEnv qual eS L fI cda cc) (eval (.Call (.Name "super" a0) [] [] a1) (ksEnv qual eS L fI cda cc))
      standAt a2.atName
      let (f, first) ← holding [ov] (getMethod ov "__init__" pl)
      callWith a3 f first (backTo a3 (starEach [eM m0 m1 m2 m3] (ksEnv qual eS L fI cda cc))) [])
theorem init_code (T : ErrFn1 prog K C fI) {x t0 : Addr} {y : Str} {tv : Tok} (X : K.In s.heap) (hlim : s.heap.NoLimit) (G : s.heap.Ns mainGlobals mg) (hb : s.heap.Ns builtinsNs mb) (hbs : mb "super" = some (.type "super")) (hx : s.heap.get? x = some (excO C t0)) (hnx : K.lookup x = none) (hz : y.length ≤ 1000) (hroom : A.depth < recursionLimit)
    (hq : ∀ h' tk dx, InitEnd s.heap h' x C dx (fun n => if n = "code" then some (.str y tv) else none) → R (.ok (.ret .none)) { s with heap := h', toks := tk }) :
    codeAny (model prog w) A (.call (.ref fI) ⟨[.ref x, .str y tv], []⟩) R s := by
  obtain ⟨qual, p1, p2, a0, a1, a2, a3, a4, m0, m1, m2, m3, q1, q2, q3, q4, ⟨iC, tI, oc, od, an, doc, pm, ct, cda, cc, osl, vs, file, tf, ccl, cl, cdd, cld, ccs, csl, ho, hcd, hcode, hvs, hfile, hcell⟩, hcall⟩ := T.fn
  have TC := T.toCls
  obtain ⟨nm, q, N, bs, bm, sn, sub, ab, col, dd, k0, k1, k2, k3, k5, hC, hbm⟩ := TC.cls
  have hcl := clsIn_of hC
  refine ks_codeAny_call_defAt (fd := ksFn "__init__" qual (eA p1 p2) [eI a0 a1 a2 a3 a4 (eM m0 m1 m2 m3), eF "code" q1 q2 q3 q4] eS .none .none doc pm an (.ref cda) ct cc) (body := [eI a0 a1 a2 a3 a4 (eM m0 m1 m2 m3), eF "code" q1 q2 q3 q4]) (binds := [("self", .ref x), ("code", .str y tv)])
    hroom (X _ _ ho) rfl hlim (codeRec_of X hcd) rfl (BindsTo.of_eq (by first | rfl | with_unfolding_all rfl)) (by show ∀ z ∈ eS.names, z.2 ≠ .cell; decide) (by intro z hz; simp at hz; rcases hz with rfl | rfl <;> rfl) (fun h₀ hns k₀ => ?_)
  obtain ⟨pl, hc⟩ := hcall s.heap.objs.size (.ref cda) cc
  have xL : s.heap.objs.size ≠ x := Nat.ne_of_gt (Heap.lt_size hx)
  refine ks_wpAt_execs_cons (super_init (mg := mg) (mb := mb) (ar := { arg := "self", annotation := none, pos := p1 }) TC (X.keeps k₀) hns (by first | rfl | with_unfolding_all rfl | kernel_rfl) (k₀ _ _ hx) (G.keeps k₀) (hb.keeps k₀) hbs ho rfl hcode hvs hfile hcell rfl rfl rfl rfl
    (fun s' P hn h => msg_code (L := s.heap.objs.size) hn (by first | rfl | with_unfolding_all rfl | kernel_rfl) hz rfl rfl h) rfl rfl hc fun h1 t1 tk1 k1' hx1 => ?_)
  have old : ∀ b o, b ≠ x → s.heap.get? b = some o → h1.get? b = some o := fun b o hb e => k1' b o hb (k₀ b o e)
  have X1 : K.In h1 := fun b o e => old b o (fun z => by rw [z, hnx] at e; cases e) (X b o e)
  have hn1 : h1.Ns s.heap.objs.size (fun z => ([("self", .ref x), ("code", .str y tv)] : List (Str × Value)).reverse.lookup z) := by
    obtain ⟨o, es, ep, e, r⟩ := hns
    exact ⟨o, es, ep, k1' _ _ xL e, r⟩
  refine _root_.PySem.wpAt_of_wpAny (wpAny_execs_cons ?_)
  show wpAny _ _ (exec (.Assign [.Attribute (.Name "self" q1) "code" q2] (.Name "code" q3) q4) _) _ _ _
  refine plainObj_wpAny_Assign_Attribute (wpAny_Name (wpAny_loadName_local rfl rfl hn1 (v := .str y tv) (by first | rfl | with_unfolding_all rfl | kernel_rfl) (wpAny_Name (wpAny_loadName_local rfl rfl hn1 (v := .ref x) (by first | rfl | with_unfolding_all rfl | kernel_rfl) ?_))))
  refine set_plain X1 (ox := excO C t1) (od := none) ⟨hx1, rfl, rfl, trivial⟩ TC.sa ?_
  refine exc_osa X1 hx1 hcl (show refsVE (.ref C :: bm) = true from hbm) rfl T.no fun h3 tk3 dx k3 dn dne hx3 hn3 => ?_
  refine wpAny_execs_nil (hq h3 tk3 dx ⟨fun b o hb e => k3 b o hb (old b o hb e), ⟨t1, hx3⟩, ?_, dne, hn3⟩)
  obtain ⟨o, es, ep, e, r⟩ := hn1
  exact Nat.le_of_lt (Nat.lt_of_lt_of_le (Heap.lt_size e) dn)
/-- C(code) -/
theorem made_code (T : ErrFn1 prog K C fI) {y : Str} {tv : Tok} (X : K.In s.heap) (hlim : s.heap.NoLimit) (G : s.heap.Ns mainGlobals mg) (hb : s.heap.Ns builtinsNs mb) (hbs : mb "super" = some (.type "super")) (hz : y.length ≤ 1000) (iC : findIn K (.ref C) "__init__" = some (some (.ref fI))) (tI : typeIn K (.ref fI) = some (.type "function")) (hroom : A.depth + 1 < recursionLimit)
    (hq : ∀ h' tk e d, (∀ b o, s.heap.get? b = some o → h'.get? b = some o) → s.heap.objs.size ≤ e → (∃ t1 : Addr, h'.get? e = some { cls := .ref C, dict := some d, data := .fields #[.ref t1, .none, .none, .none, .bool false, .none] }) → s.heap.objs.size ≤ d → d ≠ e →
      h'.Ns1 d (fun n => if n = "code" then some (.str y tv) else none) → R (.ok (.ret (.ref e))) { s with heap := h', toks := tk }) :
    codeAny (model prog w) A (.call (.ref C) ⟨[.str y tv], []⟩) R s := by
  obtain ⟨nm, q, N, bs, bm, sn, sub, ab, col, dd, k0, k1, k2, k3, k5, hC, hbm⟩ := T.toCls.cls
  obtain ⟨hp, g, dr, tk, os⟩ := s
  have k : ∀ b o, hp.get? b = some o → ((hp.push (kdv_tup [.str y tv])).push (excO C hp.objs.size)).get? b = some o := fun b o e => Heap.get?_push_of_some _ (Heap.get?_push_of_some _ e)
  have hget : ((hp.push (kdv_tup [.str y tv])).push (excO C hp.objs.size)).get? (hp.objs.size + 1) = some (excO C hp.objs.size) := by heap_get
  have hnx : K.lookup (hp.objs.size + 1) = none := by
    cases e : K.lookup (hp.objs.size + 1) with
    | none => rfl
    | some o => exact absurd (Nat.lt_of_succ_lt (Heap.lt_size (show hp.get? (hp.objs.size + 1) = some o from X _ _ e))) (Nat.lt_irrefl _)
  refine call_own F.excBase_ValueError (fun X => refsVE_contains X bm hbm) (X _ _ hC) (looks_findIn X iC) (fun self => bind_fn X self tI) (by show 1 ≤ sizeLine; decide) ?_
  refine init_code (mg := mg) (mb := mb) (s := ⟨(hp.push (kdv_tup [.str y tv])).push (excO C hp.objs.size), g, dr, tk, os⟩) T (X.keeps k) (hlim.keeps k) (G.keeps k) (hb.keeps k) hbs hget hnx hz hroom fun h' tk' dx ⟨k', hx, dn, dne, hns⟩ => ?_
  refine ⟨rfl, hq h' tk' (hp.objs.size + 1) dx (fun b o e => k' b o (Nat.ne_of_lt (Nat.lt_succ_of_lt (Heap.lt_size e))) (k b o e)) (Nat.le_succ _) hx ?_ dne hns⟩
  have q : ((hp.push (kdv_tup [.str y tv])).push (excO C hp.objs.size)).objs.size ≤ dx := dn
  rw [Heap.size_push, Heap.size_push] at q
  show hp.objs.size ≤ dx
  omega
end
end BX
namespace B
open PySem L2
theorem relO_code {v : V} {v' : Value} (r : RelV v v') (f : Str) : RelO (List.lookup f [(("code" : Str), v)]) (if f = "code" then some v' else none) := by
  by_cases hw : f = "code"
  · subst hw
    rw [if_pos rfl, show List.lookup ("code" : Str) [(("code" : Str), v)] = some v by simp [List.lookup]]
    exact r
  · have qw : (f == ("code" : Str)) = false := by simpa using hw
    rw [if_neg hw, show List.lookup f [(("code" : Str), v)] = none by simp [List.lookup, qw]]
    trivial
section
variable {X : Cx} {C fI : Addr}
/-- the reading of C(code) -/
def tMkE (C : Addr) (ta : TA) : L2.St → Hp → XK → Prop := fun σ H Q => ta σ H fun vs H1 => ∃ y : Str, vs = [.str y] ∧ y.length ≤ 1000 ∧ ∀ d, H1 d = none → Q (.ref C) (some d) (upd H1 d (.xd [(("code" : Str), .str y)]))
theorem bt_super : bootBuiltins "super" = some (.type "super") := by decide +kernel
theorem pmk_err {x : Str} {e : PySem.Expr} {ta : TA} {p pos : Pos} {k : Nat} (T : BX.ErrFn1 X.prog X.K C fI) (hm : X.mg x = some (.ref C)) (hr : Room k X.A) (ha : PA X [e] ta) (hg : Gl X x := by rfl) (hdb : (x == ("__debug__" : Str)) = false := by decide)
    (he : starEach (e :: []) X.env = (false, eval e X.env) :: starEach [] X.env := by rfl) (hpl : (backTo pos (starEach [] X.env)).any (·.1) = false := by rfl) :
    PMk X (.Call (.Name x p) [e] [] pos) (tMkE C ta) := by
  intro pins s σ H Q I h
  obtain ⟨qual, p1, p2, a0, a1, a2, a3, a4, m0, m1, m2, m3, q1, q2, q3, q4, ⟨iC, tI, _⟩, _⟩ := T.fn
  refine wpAny_Call_Name_kw (ld_glob I hg hm ?_ hdb)
  refine PySem.W.callWith_K (h₀ := X.base) I.ok.mod.kin T.toCls.kC (thn (ha.run pos pins s σ H _ I h) fun us s1 hh => ?_) he hpl
  obtain ⟨vs, H1, I1, r1, y, ev, hz, q1⟩ := hh
  subst ev
  refine ⟨I1.kIn, ?_⟩
  cases r1 with
  | cons rv rn =>
    rename_i v' us'
    cases rn
    obtain ⟨tv, rfl⟩ := rv
    have hlim := I1.nolimit
    obtain ⟨mb, hb1, hb2⟩ := I1.mod.blt
    have G := I1.mod.glob.keeps I1.bk
    have hbb := hb1.keeps I1.bk
    obtain ⟨hp, g, dr, tk, os⟩ := s1
    show wpAny _ _ (call (.ref C) [.str y tv]) _ _ _
    refine wpAny_call (BX.made_code (mg := X.mg) (mb := mb) T I1.kIn hlim G hbb ((hb2 _ (by decide)).trans bt_super) hz iC tI (by have := hr.dp; omega) fun h' tk' e d kp be ⟨t1, hoe⟩ bd dne hns => ?_)
    show MkP X pins σ Q (.ref e) ⟨h', g, dr, tk', os⟩
    obtain ⟨G', g1, g2⟩ := restrict h' fun b => decide (b ≠ e)
    have gk : ∀ b, b ≠ e → G'.get? b = h'.get? b := fun b hb => g1 b (decide_eq_true hb)
    have ge : G'.get? e = none := g2 e (by simp)
    have od : ∀ b o, hp.get? b = some o → G'.get? b = some o := fun b o q => (gk b (Nat.ne_of_lt (Nat.lt_of_lt_of_le (Heap.lt_size q) be))).trans (kp b o q)
    have ob : ObjOk X.prog X.w (upd H1 d (.xd [(("code" : Str), .str y)])) G' d (.xd [(("code" : Str), .str y)]) := ⟨_, hns.at (fun o q => (gk d dne).trans q), fun f => relO_code (v := .str y) (v' := .str y tv) ⟨tv, rfl⟩ f⟩
    have J : Inv X pins σ (upd H1 d (.xd [(("code" : Str), .str y)])) ⟨G', g, dr, tk', os⟩ := I1.laid (t' := tk') od bd ob
    refine ⟨e, _, _, ⟨G', g, dr, tk', os⟩, _, .ref C, some d, rfl, J, fun b o q => ?_, ge, hoe, ⟨rfl, rfl⟩, rfl, rfl, ?_, rfl, I1.bare, raises_own T.toCls.exC T.toCls.tyC, q1 d (I1.hok.fresh bd)⟩
    · by_cases hb : b = e
      · have q' : G'.get? b = some o := q
        rw [hb, ge] at q'; cases q'
      · exact (gk b hb).symm.trans q
    · rw [upd_ne (Ne.symm dne)]
      exact I1.hok.fresh be
end
end B

/-! raise, try .. except -/
namespace B
open PySem L2
section
variable {K : PySem.W.Frag} {W : Type} {R : Rs W} {C : Cl} {κ κ2 κb κc κn : List Kd} {rk : Kd}
/-! ### raise -/
def rzD (c : String) : D → M W O
  | .str y => if y.length ≤ 1000 then fun w => .exc c [("code", .str y)] w else stk
  | _ => stk
def mRaise (c : String) (m : ME W) : MS W := fun ρ => bnd (m ρ) (rzD c)
def tRz (a : Addr) (wx : WX) (te : TE) : TS := fun _ σ H => tMkE a (tCons te tNil) σ H fun cls d H' => wx cls d σ H'

/-- as OkS, where what leaves it finds the slots as they were at the entry -/
def PostX (K : PySem.W.Frag) (R : Rs W) (C : Cl) (κn κb κc : List Kd) (rk : Kd) (κ : List Kd) (S0 H0 : Hp) (w0 : W) (S : Hp) (σ : L2.St) (ρ : Rho) (E : Ends) : Res W O → Prop
  | .exc c fs w' => ∀ cls dd S' H', Rel K R κ S0 H0 w0 S' H' σ ρ w' → C.cn c cls → XOk R S' H' w' dd fs → C.wx cls (some dd) σ H'
  | r => PostS K R C κn κb κc rk S0 H0 w0 S E r
def OkSx (K : PySem.W.Frag) (R : Rs W) (C : Cl) (κb κc : List Kd) (rk : Kd) (κ : List Kd) (t : TS) (m : MS W) (κn : List Kd) : Prop :=
  ∀ S0 H0 w0 S H σ ρ w E, Rel K R κ S0 H0 w0 S H σ ρ w → PostX K R C κn κb κc rk κ S0 H0 w0 S σ ρ E (m ρ w) → t E σ H
theorem postX_mono {S0 H0 : Hp} {w0 : W} {S S1 : Hp} {σ : L2.St} {ρ : Rho} {E : Ends} (e : ∀ a o, S a = some o → S1 a = some o) {r : Res W O} (q : PostX K R C κn κb κc rk κ S0 H0 w0 S σ ρ E r) : PostX K R C κn κb κc rk κ S0 H0 w0 S1 σ ρ E r := by
  cases r with
  | exc c fs w' => exact q
  | stuck => exact q
  | ok o w' => exact postS_mono e q
theorem OkSx.weak {t : TS} {m : MS W} (h : OkSx K R C κb κc rk κ t m κn) : OkS K R C κb κc rk κ t m κn := by
  intro S0 H0 w0 S H σ ρ w E rl q
  refine h S0 H0 w0 S H σ ρ w E rl ?_
  cases e : m ρ w with
  | exc c fs w' =>
    rw [e] at q
    exact fun cls dd S' H' r' hc hx => q cls dd σ S' H' r'.out hc hx
  | stuck => rw [e] at q; exact q
  | ok o w' => rw [e] at q; exact q
theorem xRaise {a : Addr} {te : TE} {m : ME W} {c : String} (h : OkE K R C κ te .dat m) (hc : C.cn c (.ref a)) : OkSx K R C κb κc rk κ (tRz a C.wx te) (mRaise c m) κn := by
  intro S0 H0 w0 S H σ ρ w E rl q
  show te σ H fun v H1 => tNil σ H1 fun vs H2 => _
  refine h S0 H0 w0 S H σ ρ w _ rl ?_
  unfold mRaise at q
  cases e : m ρ w with
  | stuck => rw [bnd_stuck e] at q; exact q.elim
  | exc c fs w1 => rw [bnd_exc e] at q; exact q
  | ok d w1 =>
    rw [bnd_ok e] at q
    intro v S1 H1 r1 s1 o1
    show tNil σ H1 _
    unfold rzD at q
    split at q
    · rename_i y
      split at q
      · rename_i hy
        cases o1
        refine ⟨y, rfl, hy, fun dd hd => ?_⟩
        refine q (.ref a) dd S1 (upd H1 dd (.xd [(("code" : Str), .str y)])) (r1.allocOwn hd) hc ⟨_, upd_same, r1.out.s_none hd, r1.out.nofp hd, rfl, rfl, trivial⟩
      · exact q.elim
    · exact q.elim
theorem okRaise {a : Addr} {te : TE} {m : ME W} {c : String} (h : OkE K R C κ te .dat m) (hc : C.cn c (.ref a)) : OkS K R C κb κc rk κ (tRz a C.wx te) (mRaise c m) κn := (xRaise h hc).weak
theorem xRet {te : TE} {m : ME W} (h : OkE K R C κ te rk m) (hk : rk = .dat ∨ rk = .own := by decide) : OkSx K R C κb κc rk κ (tRet te) (mRet m) κ2 := by
  intro S0 H0 w0 S H σ ρ w E rl q
  refine h S0 H0 w0 S H σ ρ w _ rl ?_
  unfold mRet at q
  cases e : m ρ w with
  | stuck => rw [bnd_stuck e] at q; exact q.elim
  | exc c fs w1 => rw [bnd_exc e] at q; exact q
  | ok d w1 =>
    rw [bnd_ok e] at q
    exact fun v S1 H1 r1 s1 o1 => q v S1 H1 r1.out (o1.ret hk)
theorem xDrop {te : TE} {k : Kd} {m : ME W} (h : OkE K R C κ te k m) : OkSx K R C κb κc rk κ (tDrop te) (mDrop m) κ := by
  intro S0 H0 w0 S H σ ρ w E rl q
  refine h S0 H0 w0 S H σ ρ w _ rl ?_
  unfold mDrop at q
  cases e : m ρ w with
  | stuck => rw [bnd_stuck e] at q; exact q.elim
  | exc c fs w1 => rw [bnd_exc e] at q; exact q
  | ok d w1 =>
    rw [bnd_ok e] at q
    exact fun v S1 H1 r1 s1 o1 => q σ S1 H1 r1 s1
theorem xNext : OkSx K R C κb κc rk κ tNext mNx κ := by
  intro S0 H0 w0 S H σ ρ w E rl q
  exact q σ S H rl fun _ _ h => h
theorem xIfS {tc : TT} {t u : TS} {c : Rho → M W Bool} {m n : MS W} (hc : OkT K R C κ tc c) (h1 : OkSx K R C κb κc rk κ t m κ2) (h2 : OkSx K R C κb κc rk κ u n κ2) : OkSx K R C κb κc rk κ (tIfS tc t u) (mIfS c m n) κ2 := by
  intro S0 H0 w0 S H σ ρ w E rl q
  refine hc S0 H0 w0 S H σ ρ w _ rl ?_
  unfold mIfS at q
  cases e : c ρ w with
  | stuck => rw [bnd_stuck e] at q; exact q.elim
  | exc c fs w1 => rw [bnd_exc e] at q; exact q
  | ok b w1 =>
    rw [bnd_ok e] at q
    intro S1 H1 r1 s1
    cases b with
    | true => exact h1 S0 H0 w0 S1 H1 σ ρ w1 E r1 (postX_mono s1 q)
    | false => exact h2 S0 H0 w0 S1 H1 σ ρ w1 E r1 (postX_mono s1 q)

/-! ### within except .. as e -/
/-- what is shared in there: e is the root, its dict stands -/
def hdR (R : Rs W) (a dd : Addr) (vs : List (Str × V)) : Rs W where
  root := a
  ok w H := R.ok w H ∧ H dd = some (.xd vs) ∧ ¬ R.fp w dd
  fp w b := R.fp w b ∨ b = dd
  loc w H H' h e := ⟨R.loc w H H' h.1 fun b hb => e b (.inl hb), by rw [e dd (.inr rfl)]; exact h.2.1, h.2.2⟩
  dom w H b h hb := by
    rcases hb with hb | rfl
    · exact R.dom w H b h.1 hb
    · rw [h.2.1]; exact Option.some_ne_none _
/-- the slots that the handler may read, e itself in slot i -/
def hdRho (ρ : Rho) (fx : List Nat) (i : Nat) : Rho := (ρ.zipIdx.map fun p => if fx.contains p.2 then p.1 else none).set i (some .none)
def hdK (n i : Nat) : List Kd := (List.replicate n Kd.dat).set i .res
def mXf (i : Nat) (f : Str) (fs : List (Str × D)) : ME W := fun ρ => bnd (mVar i ρ) fun _ => lift (fs.lookup f)
theorem flat_lookup {f : Str} : ∀ {vs : List (Str × V)} {fs : List (Str × D)} {d : D}, FlatF vs fs → fs.lookup f = some d → ∃ v, vs.lookup f = some v ∧ FlatV v d
  | [], [], d, _, h => by cases h
  | [], _ :: _, d, h, _ => h.elim
  | _ :: _, [], d, h, _ => h.elim
  | (g, v) :: vs, (g', e) :: fs, d, ⟨h1, h2, h3⟩, h => by
    subst h1
    rw [List.lookup_cons] at h ⊢
    cases hg : f == g with
    | true =>
      rw [hg] at h
      cases h
      exact ⟨v, rfl, h2⟩
    | false =>
      rw [hg] at h
      exact flat_lookup h3 h
theorem flatV_dv {S : Hp} : ∀ {v : V} {d : D}, FlatV v d → DV K S v d
  | .int _, .int _, h => by cases h; exact .int _
  | .str _, .str _, h => by cases h; exact .str _
variable {S0 H0 S H : Hp} {w0 w : W} {σ : L2.St} {ρ : Rho}
theorem okXf {a dd Cc : Addr} {vs : List (Str × V)} {fs : List (Str × D)} {cls : Value} {f : Str} {i : Nat} (hc : cls = .ref Cc) (hf : FlatF vs fs) (hk : kd κ i = .res := by rfl) :
    OkE K (hdR R a dd vs) C κ (tXf a cls (some dd) Cc f (tVar i)) .dat (mXf i f fs) := by
  intro S0 H0 w0 S H σ ρ w Q rl q
  have r0 := rl
  obtain ⟨oa, r⟩ := rl
  unfold mXf mVar at q
  cases e : ρ[i]? with
  | none => simp only [e] at q; exact q.elim
  | some o =>
    cases o with
    | none => simp only [e] at q; exact q.elim
    | some d0 =>
      simp only [e, bnd_ret] at q
      obtain ⟨v, g1, g2⟩ := r.slot i d0 e
      rw [hk] at g2
      obtain ⟨rfl, _⟩ := g2
      cases l : fs.lookup f with
      | none => rw [l] at q; exact q.elim
      | some d =>
        rw [l] at q
        obtain ⟨v, l2, fv⟩ := flat_lookup hf l
        exact ⟨_, g1, rfl, hc, dd, vs, v, rfl, r.out.res.2.1, l2, q v S H r0 (fun _ _ h => h) (flatV_dv fv)⟩
theorem out_hd {a dd : Addr} {vs : List (Str × V)} {S' H' : Hp} {w' : W} (h0 : H dd = some (.xd vs)) (nf : ¬ R.fp w dd) (o : Out (hdR R a dd vs) S H w S' H' w') : Out R S H w S' H' w' where
  sub := o.sub
  sub0 := o.sub0
  new := o.new
  keep := fun b x hb hf => by
    by_cases e : b = dd
    · rw [e, h0] at hb
      cases hb
      rw [e]
      exact o.res.2.1
    · exact o.keep b x hb fun z => z.elim hf e
  stay := o.stay
  res := o.res.1
  resS := fun b hb => o.resS b (.inl hb)
  resN := fun b hb hn => by
    by_cases e : b = dd
    · exact absurd (e ▸ hb) o.res.2.2
    · exact o.resN b (.inl hb) fun z => z.elim hn e
theorem hdRho_get {fx : List Nat} {i j : Nat} {d : D} (h : (hdRho ρ fx i)[j]? = some (some d)) : (j = i ∧ d = .none ∧ i < ρ.length) ∨ (j ≠ i ∧ j ∈ fx ∧ ρ[j]? = some (some d)) := by
  unfold hdRho at h
  rw [List.getElem?_set] at h
  by_cases e : i = j
  · rw [if_pos e] at h
    split at h
    · rename_i hl
      cases h
      rw [List.length_map, List.length_zipIdx] at hl
      exact .inl ⟨e.symm, rfl, by omega⟩
    · cases h
  · rw [if_neg e, List.getElem?_map, List.getElem?_zipIdx] at h
    refine .inr ⟨fun z => e z.symm, ?_⟩
    cases q : ρ[j]? with
    | none => rw [q] at h; cases h
    | some o =>
      rw [q] at h
      simp only [Option.map_some, Nat.zero_add] at h
      by_cases m : fx.contains j = true
      · rw [if_pos m] at h
        exact ⟨List.contains_iff_mem.mp m, by rw [← h]⟩
      · rw [if_neg m] at h; cases h
theorem rel_hd {n : Nat} {a dd : Addr} {vs : List (Str × V)} {fx : List Nat} {i : Nat} (hi : i < n) (r : Rel K R κ S0 H0 w0 S H σ ρ w) (hd : H dd = some (.xd vs)) (hs : S dd = none) (nf : ¬ R.fp w dd) (hfx : ∀ j ∈ fx, kd κ j = .dat) :
    Rel K (hdR R a dd vs) (hdK n i) S H w S H (σ.set i (some (.ref a))) (hdRho ρ fx i) w := by
  obtain ⟨oa, r⟩ := r
  have kk : ∀ j, kd (hdK n i) j = if j = i then .res else .dat := fun j => by
    unfold kd hdK
    rw [List.getD_eq_getElem?_getD, List.getElem?_set]
    by_cases e : i = j
    · subst e
      rw [if_pos rfl, List.length_replicate, if_pos hi, if_pos rfl]
      rfl
    · rw [if_neg e, if_neg fun z => e z.symm, List.getElem?_replicate]
      split <;> rfl
  refine ⟨oa, Out.refl ⟨r.out.sub, ⟨r.out.res, hd, nf⟩, fun b hb => ?_⟩, ?_, fun j d hj => ?_, fun j l d e hj hl kj kl => ?_⟩
  · rcases hb with hb | rfl
    · exact r.out.resS b hb
    · exact hs
  · unfold hdRho
    rw [List.length_set, List.length_set, List.length_map, List.length_zipIdx]
    exact r.len
  · rcases hdRho_get hj with ⟨rfl, rfl, hl⟩ | ⟨hji, hm, hρ⟩
    · refine ⟨.ref a, List.getElem?_set_self (by rw [← r.len]; exact hl), ?_⟩
      rw [kk, if_pos rfl]
      exact ⟨rfl, rfl⟩
    · obtain ⟨v, g1, g2⟩ := r.slot j d hρ
      refine ⟨v, by rw [List.getElem?_set_ne (Ne.symm hji)]; exact g1, ?_⟩
      rw [kk, if_neg hji]
      rw [hfx j hm] at g2
      exact g2
  · rw [kk] at kj
    split at kj <;> cases kj
/-- try: body; except X as e: return .. -/
def mTry (catch_ : String → Bool) (fx : List Nat) (i : Nat) (mb : MS W) (mh : List (Str × D) → ME W) : MS W := fun ρ w => match mb ρ w with
  | .exc nm fs w' => if catch_ nm then bnd (noX (mh fs (hdRho ρ fx i))) (fun d => ret (.rt d)) w' else .exc nm fs w'
  | r => r
def tTry (K : PySem.W.Frag) (tb : WX → TS) (c : Value) (i : Nat) (tE : Addr → Value → Option Addr → TE) (wx : WX) : TS := fun D σ H => tb (wAs K c i (fun a cls d => tRet (tE a cls d)) wx D) D σ H
theorem okTry {n : Nat} {tb : WX → TS} {mb : MS W} {i : Nat} {c : Value} {tE : Addr → Value → Option Addr → TE} {mh : List (Str × D) → ME W} {catch_ : String → Bool} {fx : List Nat} {cn : String → Value → Prop} {wx : WX}
    (hb : ∀ wx, OkSx K R ⟨wx, cn⟩ κb κc .dat κ (tb wx) mb κn) (hcat : ∀ nm cls, cn nm cls → PySem.W.exmOne K cls c = some (catch_ nm))
    (hh : ∀ nm a cls dd vs fs, cn nm cls → catch_ nm = true → FlatF vs fs → OkE K (hdR R a dd vs) ⟨fun _ _ _ _ => False, cn⟩ (hdK n i) (tE a cls (some dd)) .dat (mh fs))
    (hfx : ∀ j ∈ fx, kd κ j = .dat := by decide) (hi : i < n := by decide) :
    OkS K R ⟨wx, cn⟩ κb κc .dat κ (tTry K tb c i tE wx) (mTry catch_ fx i mb mh) κn := by
  intro S0 H0 w0 S H σ ρ w E rl q
  refine hb (wAs K c i (fun a cls d => tRet (tE a cls d)) wx E) S0 H0 w0 S H σ ρ w E rl ?_
  unfold mTry at q
  cases e : mb ρ w with
  | stuck => rw [e] at q; exact q
  | ok o w1 =>
    rw [e] at q
    cases o <;> exact q
  | exc nm fs w1 =>
    rw [e] at q
    intro cls dd S' H' r1 hc ⟨vs, x1, x2, x3, x4⟩
    refine ⟨catch_ nm, hcat nm cls hc, fun hy a ha => ?_, fun hno => ?_⟩
    · simp only [if_pos hy] at q
      have rh := rel_hd (n := n) (a := a) (i := i) hi r1 x1 x2 x3 hfx
      refine hh nm a cls dd vs fs hc hy x4 S' H' w1 S' H' _ _ w1 _ rh ?_
      cases e2 : mh fs (hdRho ρ fx i) w1 with
      | stuck => rw [bnd_stuck (show noX (mh fs (hdRho ρ fx i)) w1 = .stuck by unfold noX; rw [e2])] at q; exact q.elim
      | exc c2 f2 w2 => rw [bnd_stuck (show noX (mh fs (hdRho ρ fx i)) w1 = .stuck by unfold noX; rw [e2])] at q; exact q.elim
      | ok d w2 =>
        rw [bnd_ok (show noX (mh fs (hdRho ρ fx i)) w1 = .ok d w2 by unfold noX; rw [e2])] at q
        intro v S2 H2 r2 s2 o2
        exact q v S2 H2 (r1.out.trans (out_hd x1 x3 r2.out)) o2
    · simp only [if_neg (show ¬ catch_ nm = true by rw [hno]; exact Bool.false_ne_true)] at q
      exact q cls dd σ S' H' r1.out hc ⟨vs, x1, x2, x3, x4⟩
end
end B

/-! more words: sorted, sets of tuples, [::-1], dicts of the module -/
namespace B
open PySem L2
theorem psx {X : Cx} {ss : List Stmt} {t u : TS} (h : PSs X ss t) (e : t = u) : PSs X ss u := e ▸ h
theorem pex {X : Cx} {x : PySem.Expr} {t u : TE} (h : PE X x t) (e : t = u) : PE X x u := e ▸ h
/-- the classes of the raised errors, by their names -/
def cnOf (L : List String) (mg : Str → Option Value) : String → Value → Prop := fun nm cls => nm ∈ L ∧ mg (Str.ofString nm) = some cls
theorem cn_is {L : List String} {mg : Str → Option Value} {nm x : String} {cls : Value} {a : Addr} (hc : cnOf L mg nm cls) (hy : (nm == x) = true) (hm : mg (Str.ofString x) = some (.ref a)) : cls = .ref a := by
  have e : nm = x := by simpa using hy
  subst e
  have q := hc.2
  rw [hm] at q
  exact (Option.some.inj q).symm
theorem xf_of {P : Program} {K : PySem.W.Frag} {C : Addr} (T : BX.ErrCls P K C) : XfC K C := ⟨T.ga, T.gg, T.exC, T.hdC⟩
theorem exm_mk {K : PySem.W.Frag} {A S : Addr} {b : Bool} (h1 : PySem.W.subIn K (.ref S) (.type "BaseException") = some true) (h2 : PySem.W.isClsIn K S = true) (h3 : PySem.W.typeIn K (.ref S) = some (.type "type")) (h4 : PySem.W.subIn K (.ref A) (.ref S) = some b) :
    PySem.W.exmOne K (.ref A) (.ref S) = some b := by
  have e1 : (PySem.W.subIn K (.ref S) (.type "BaseException") == some true) = true := by rw [h1] <;> rfl
  have h2' : (PySem.W.clsIn K S).isSome = true := h2
  have e2 : ((PySem.W.clsIn K S).isSome && PySem.W.typeIn K (.ref S) == some (.type "type")) = true := by rw [h2', h3] <;> rfl
  unfold PySem.W.exmOne PySem.W.kitCls
  simp only [e1, e2, if_true]
  exact h4
section
variable {K : PySem.W.Frag} {W : Type} {R : Rs W} {C : Cl} {κ : List Kd} {S H : Hp}
/-! ### sorted -/
def sortI (ns : List Int) : List Int := ns.mergeSort fun a b => decide (a ≤ b)
theorem sortI_perm (ns : List Int) : (sortI ns).Perm ns := List.mergeSort_perm _ _
theorem sortI_sorted (ns : List Int) : (sortI ns).Pairwise (· ≤ ·) :=
  (List.pairwise_mergeSort (le := fun a b : Int => decide (a ≤ b)) (fun a b c h1 h2 => decide_eq_true (Int.le_trans (of_decide_eq_true h1) (of_decide_eq_true h2))) (fun a b => by
    rcases Int.le_total a b with h | h
    · rw [decide_eq_true h]; rfl
    · rw [decide_eq_true h, Bool.or_true]) ns).imp fun h => of_decide_eq_true h
theorem sorted_uniq {l m : List Int} (p : l.Perm m) (hl : l.Pairwise (· ≤ ·)) (hm : m.Pairwise (· ≤ ·)) : l = m := List.Perm.eq_of_pairwise (fun a b _ _ h1 h2 => Int.le_antisymm h1 h2) hl hm p
def gSortI : List D → Option (List D) | [.list ds] => (intsD ds).map fun ns => (sortI ns).map .int | _ => none
theorem dvs_of_ints {S : Hp} : ∀ (ns : List Int), DVs K S (ns.map V.int) (ns.map .int)
  | [] => .nil
  | n :: ns => .cons (.int n) (dvs_of_ints ns)
theorem cSortI : CbL K (rSortedI K) gSortI := by
  intro S H vs ds z Q sub hs hf q
  unfold gSortI at hf
  split at hf
  · rename_i ds
    cases e : intsD ds with
    | none => rw [e] at hf; cases hf
    | some ns =>
      rw [e] at hf
      cases hf
      obtain ⟨v, rfl, h⟩ := seenAll_1 hs
      obtain ⟨p, us, rfl, h1, h2⟩ := seen_list sub h
      rw [intsD_map e] at h2
      rw [dvs_ints h2] at h1
      refine ⟨p, ns, rfl, SqL.of h1, fun ns' l pm sd hl => ?_⟩
      rw [sorted_uniq (pm.trans (sortI_perm ns).symm) sd (sortI_sorted ns)]
      exact q l _ hl (dvs_of_ints _)
  · cases hf
theorem kSortI {X : Cx} (hK : X.K = K) : CallR X (.builtin "sorted") (rSortedI K) := by subst hK; exact cr_sortedI
/-! ### xs[::-1] -/
def revD : D → M W D | .list ds => ret (.list ds.reverse) | _ => stk
def mRevL (a : ME W) : ME W := fun ρ => bnd (a ρ) revD
theorem okRevL {te : TE} {k : Kd} {m : ME W} (h : OkE K R C κ te k m) (hk : k ≠ .res := by decide) : OkE K R C κ (tRevL K te) .own (mRevL m) := by
  intro S0 H0 w0 S H σ ρ w Q rl q
  refine h S0 H0 w0 S H σ ρ w _ rl ?_
  unfold mRevL at q
  cases e : m ρ w with
  | stuck => rw [bnd_stuck e] at q; exact q.elim
  | exc c fs w1 => rw [bnd_exc e] at q; exact q
  | ok d w1 =>
    rw [bnd_ok e] at q
    intro v S1 H1 r1 s1 o1
    cases d with
    | list ds =>
      obtain ⟨p, us, rfl, h1, h2⟩ := seen_list r1.out.sub (o1.seen r1 hk)
      exact ⟨p, us, rfl, SqL.of h1, fun l hl => q (.ref l) S1 _ (r1.allocOwn hl) s1 (res_new r1 hl (dvs_rev h2))⟩
    | _ => exact q.elim
theorem kRevL {X : Cx} {e : PySem.Expr} {te : TE} {k : Nat} {p1 p2 p3 pos : Pos} (hK : X.K = K) (he : PE X e te) : PE X (.Subscript e (.Slice none none (some (.UnaryOp .USub (.Constant (.int 1) k p1) p2)) p3) pos) (tRevL K te) := by subst hK; exact pe_revL he
/-! ### sorted(set(..)) of short tuples of ints -/
def insS (x : Int) : List Int → List Int
  | [] => [x]
  | y :: r => if x < y then x :: y :: r else if x = y then y :: r else y :: insS x r
def setS : List Int → List Int
  | [] => []
  | x :: r => insS x (setS r)
theorem mem_insS {x z : Int} : ∀ {l : List Int}, z ∈ insS x l ↔ z = x ∨ z ∈ l
  | [] => by simp [insS]
  | y :: r => by
    unfold insS
    split
    · simp
    · split
      · rename_i h; subst h; simp
      · rw [List.mem_cons, mem_insS, List.mem_cons]
        constructor
        · rintro (h | h | h) <;> simp [h]
        · rintro (h | h | h) <;> simp [h]
theorem mem_setS {z : Int} : ∀ {l : List Int}, z ∈ setS l ↔ z ∈ l
  | [] => Iff.rfl
  | y :: r => by unfold setS; rw [mem_insS, mem_setS, List.mem_cons]
theorem insS_sorted {x : Int} : ∀ {l : List Int}, l.Pairwise (· < ·) → (insS x l).Pairwise (· < ·)
  | [], _ => List.pairwise_singleton _ _
  | y :: r, h => by
    obtain ⟨h1, h2⟩ := List.pairwise_cons.mp h
    unfold insS
    split
    · rename_i hx
      refine List.pairwise_cons.mpr ⟨fun z hz => ?_, h⟩
      rcases List.mem_cons.mp hz with rfl | hz
      · exact hx
      · exact Int.lt_trans hx (h1 z hz)
    · split
      · exact h
      · refine List.pairwise_cons.mpr ⟨fun z hz => ?_, insS_sorted h2⟩
        rcases mem_insS.mp hz with rfl | hz
        · omega
        · exact h1 z hz
theorem setS_sorted : ∀ (l : List Int), (setS l).Pairwise (· < ·)
  | [] => .nil
  | x :: r => insS_sorted (setS_sorted r)
theorem strict_uniq {l m : List Int} (hl : l.Pairwise (· < ·)) (hm : m.Pairwise (· < ·)) (h : ∀ z, z ∈ l ↔ z ∈ m) : l = m := by
  have nd : ∀ {l : List Int}, l.Pairwise (· < ·) → l.Nodup := fun h => h.imp fun h => Int.ne_of_lt h
  exact List.Perm.eq_of_pairwise (fun a b _ _ h1 h2 => absurd (Int.lt_trans h1 h2) (Int.lt_irrefl _)) hl hm ((List.perm_ext_iff_of_nodup (nd hl) (nd hm)).mpr h)
theorem code_inj {B : Int} : ∀ {a b : List Int}, a.length = b.length → TS.Bd B a → TS.Bd B b → TS.code B a = TS.code B b → a = b
  | [], [], _, _, _, _ => rfl
  | [], _ :: _, h, _, _, _ => by cases h
  | _ :: _, [], h, _, _, _ => by cases h
  | d :: r, e :: q, h, ha, hb, hc => by
    have hl : r.length = q.length := by simpa using h
    have h1 : d = e := by
      rcases Int.lt_trichotomy d e with z | z | z
      · exact absurd hc (Int.ne_of_lt (TS.code_lt hl ha.tail hb.tail z))
      · exact z
      · exact absurd hc.symm (Int.ne_of_lt (TS.code_lt hl.symm hb.tail ha.tail z))
    subst h1
    unfold TS.code at hc
    rw [hl] at hc
    rw [code_inj hl ha.tail hb.tail (by omega)]
def sortU (B : Int) (ks : List (List Int)) : List (List Int) := (setS (ks.map (TS.code B))).map fun c => (ks.find? fun k => TS.code B k == c).getD []
theorem sortU_uniq {B : Int} {d : Nat} {L M : List (List Int)} (hL : ∀ k ∈ L, k.length = d ∧ TS.Bd B k) (nd : M.Nodup) (hm : ∀ k, k ∈ M ↔ k ∈ L) (pw : M.Pairwise fun a b => TS.code B a ≤ TS.code B b) : M = sortU B L := by
  have inj : ∀ a ∈ L, ∀ b ∈ L, TS.code B a = TS.code B b → a = b := fun a ha b hb h => code_inj ((hL a ha).1.trans (hL b hb).1.symm) (hL a ha).2 (hL b hb).2 h
  have st : (M.map (TS.code B)).Pairwise (· < ·) := by
    rw [List.pairwise_map]
    have : M.Pairwise fun a b => a ≠ b ∧ TS.code B a ≤ TS.code B b := nd.imp₂ (fun _ _ h1 h2 => ⟨h1, h2⟩) pw
    refine List.Pairwise.imp_of_mem ?_ this
    intro a b ha hb ⟨h1, h2⟩
    rcases Int.lt_or_eq_of_le h2 with h | h
    · exact h
    · exact absurd (inj a ((hm a).mp ha) b ((hm b).mp hb) h) h1
  have e : M.map (TS.code B) = setS (L.map (TS.code B)) := strict_uniq st (setS_sorted _) fun z => by
    rw [mem_setS, List.mem_map, List.mem_map]
    exact ⟨fun ⟨k, h1, h2⟩ => ⟨k, (hm k).mp h1, h2⟩, fun ⟨k, h1, h2⟩ => ⟨k, (hm k).mpr h1, h2⟩⟩
  unfold sortU
  rw [← e, List.map_map]
  conv => lhs; rw [← List.map_id M]
  refine List.map_congr_left fun k hk => ?_
  show k = (L.find? fun k2 => TS.code B k2 == TS.code B k).getD []
  cases q : L.find? fun k2 => TS.code B k2 == TS.code B k with
  | none => exact absurd (List.find?_eq_none.mp q k ((hm k).mp hk)) (by simp)
  | some k2 =>
    have h1 := List.mem_of_find?_eq_some q
    have h2 : TS.code B k2 = TS.code B k := by simpa using List.find?_some q
    exact (inj k2 h1 k ((hm k).mp hk) h2).symm
def intTs : List D → Option (List (List Int))
  | [] => some []
  | .tuple ds :: r => (intsD ds).bind fun k => (intTs r).map (k :: ·)
  | _ :: _ => none
theorem intTs_map : ∀ {ds : List D} {L : List (List Int)}, intTs ds = some L → ds = L.map fun k => .tuple (k.map .int)
  | [], L, h => by cases h; rfl
  | .tuple ds :: r, L, h => by
    unfold intTs at h
    cases e : intsD ds with
    | none => rw [e] at h; cases h
    | some k =>
      rw [e, Option.bind_some] at h
      cases e2 : intTs r with
      | none => rw [e2] at h; cases h
      | some L2 => rw [e2] at h; cases h; rw [intTs_map e2, intsD_map e]; rfl
@[simp] theorem intTs_of : ∀ L : List (List Int), intTs (L.map fun k => .tuple (k.map .int)) = some L
  | [] => rfl
  | k :: L => by
    show (intsD (k.map .int)).bind (fun k => (intTs (L.map fun k => .tuple (k.map .int))).map (k :: ·)) = _
    rw [intsD_of, intTs_of L]
    rfl
open Classical in
noncomputable def gSortSet (d : Nat) (B : Int) : D → Option (List D)
  | .list ds => (intTs ds).bind fun L => if L.length < 64 ∧ 1 ≤ d ∧ ∀ k ∈ L, k.length = d ∧ TS.Bd B k then some ((sortU B L).map fun k => .tuple (k.map .int)) else none
  | _ => none
noncomputable def mSortSet (d : Nat) (B : Int) (m : ME W) : ME W := fun ρ => bnd (m ρ) fun x => lift ((gSortSet d B x).map .list)
theorem tups_refs : ∀ {us : List V} {L : List (List Int)}, DVs K S us (L.map fun k => .tuple (k.map .int)) → ∃ ks : List (Addr × List Int), us = (ks.map fun p => V.ref p.1) ∧ (∀ p ∈ ks, SqT K S p.1 (p.2.map V.int)) ∧ ks.map (·.2) = L
  | [], [], _ => ⟨[], rfl, fun _ h => (nomatch h), rfl⟩
  | [], _ :: _, h => by cases h
  | _ :: _, [], h => by cases h
  | _ :: us, k :: L, .cons h1 h2 => by
    obtain ⟨ks, rfl, h3, rfl⟩ := tups_refs h2
    cases h1 with
    | tup g1 g2 =>
      rename_i a xs
      rw [dvs_ints g2] at g1
      refine ⟨(a, k) :: ks, rfl, fun p hp => ?_, rfl⟩
      rcases List.mem_cons.mp hp with rfl | hp
      · exact g1
      · exact h3 p hp
theorem dvs_refs : ∀ {ks : List (Addr × List Int)}, (∀ p ∈ ks, SqT K S p.1 (p.2.map V.int)) → DVs K S (ks.map fun p => V.ref p.1) ((ks.map (·.2)).map fun k => .tuple (k.map .int))
  | [], _ => .nil
  | p :: ks, h => .cons (.tup (h p List.mem_cons_self) (dvs_of_ints _)) (dvs_refs fun q hq => h q (List.mem_cons_of_mem _ hq))
theorem okSortSet {P : Program} {w : World} {te : TE} {k : Kd} {m : ME W} {d : Nat} {bd : Int} (h : OkE K R C κ te k m) (hk : k ≠ .res := by decide) :
    OkE K R C κ (tCB (rSortedT K P w) (tCons (tCB (rSetOfT K P w) (tCons te tNil)) tNil)) .own (mSortSet d bd m) := by
  intro S0 H0 w0 S H σ ρ w1 Q rl q
  show te σ H fun x H1 => _
  refine h S0 H0 w0 S H σ ρ w1 _ rl ?_
  unfold mSortSet at q
  cases e : m ρ w1 with
  | stuck => rw [bnd_stuck e] at q; exact q.elim
  | exc c fs w2 => rw [bnd_exc e] at q; exact q
  | ok x w2 =>
    rw [bnd_ok e] at q
    intro v S1 H1 r1 s1 o1
    unfold gSortSet at q
    split at q
    · rename_i ds
      cases eL : intTs ds with
      | none => rw [eL] at q; exact q.elim
      | some L =>
        rw [eL, Option.bind_some] at q
        split at q
        · rename_i hg
          obtain ⟨g1, g2, g3⟩ := hg
          obtain ⟨p, us, rfl, h1, h2⟩ := seen_list r1.out.sub (o1.seen r1 hk)
          rw [intTs_map eL] at h2
          obtain ⟨ks, rfl, hs, rfl⟩ := tups_refs h2
          refine ⟨p, ks, rfl, SqL.of h1, fun z hz => sqT_sub r1.out.sub (hs z hz), by simpa using g1, fun a Lk ha hsub hall => ?_⟩
          have r2 := r1.allocOwn (ho := SetTO P w a Lk) ha
          have hb : ∀ z ∈ Lk, z.2.length = d ∧ TS.Bd bd z.2 := fun z hz => g3 z.2 (List.mem_map.mpr ⟨z, hsub z hz, rfl⟩)
          refine ⟨a, Lk, d, bd, rfl, upd_same, fun z hz => sqT_sub r2.out.sub (hs z (hsub z hz)), g2, hb, fun L2 l pm nd _ pw hl => ?_⟩
          have e2 : L2.map (·.2) = sortU bd (ks.map (·.2)) := sortU_uniq g3 nd (fun k => ⟨fun hk => ?_, fun hk => ?_⟩) (List.pairwise_map.mpr pw)
          · have hv := dvs_refs (K := K) (S := S1) (ks := L2) fun z hz => hs z (hsub z (pm.mem_iff.mp hz))
            rw [e2] at hv
            exact q (.ref l) S1 _ (r2.allocOwn hl) s1 (res_new r2 hl hv)
          · obtain ⟨z, hz, rfl⟩ := List.mem_map.mp hk
            exact List.mem_map.mpr ⟨z, hsub z (pm.mem_iff.mp hz), rfl⟩
          · obtain ⟨z, hz, rfl⟩ := List.mem_map.mp hk
            exact ((pm.map (·.2)).mem_iff).mpr (hall z hz)
        · exact q.elim
    · exact q.elim
theorem kSetOfT {X : Cx} {P : Program} {w : World} (hc : X.calm = true) (hu : X.A.units + 64 < cLine) (hK : X.K = K) (hP : X.prog = P) (hw : X.w = w) : CallR X (.type "set") (rSetOfT K P w) := by
  subst hK hP hw; exact cr_setOfT hc hu
theorem kSortedT {X : Cx} {P : Program} {w : World} (hc : X.calm = true) (hK : X.K = K) (hP : X.prog = P) (hw : X.w = w) : CallR X (.builtin "sorted") (rSortedT K P w) := by
  subst hK hP hw; exact cr_sortedT hc
/-! ### D.get(x), D a dict that the module wrote: texts to ints -/
def KRel : Option D → Option Value → Prop
  | none, none => True
  | some (.int i), some v => ∃ t, v = .int i t
  | _, _ => False
def KgOk (K : PySem.W.Frag) (w : World) (ad : Addr) (kvs : List (Str × D)) : Prop := ∃ es n, KDict K w ad es n ∧ ∀ z : Str, ∃ r, PySem.W.nsIn K ad z = some r ∧ KRel (kvs.lookup z) r
def toV : Option D → V | some (.int i) => .int i | _ => .non
def toD' : Option D → D | some d => d | none => .none
def tKGet (kvs : List (Str × D)) (te : TE) : TE := fun σ H Q => te σ H fun y H2 => ∃ z : Str, y = .str z ∧ Q (toV (kvs.lookup z)) H2
theorem pe_kget {X : Cx} {e : PySem.Expr} {te : TE} {x : Str} {p1 apos cpos : Pos} {ad : Addr} {kvs : List (Str × D)} (T : KgOk X.K X.w ad kvs) (hm : X.mg x = some (.ref ad)) (hg : Gl X x) (he : PE X e te) (m : M1 X (.Name x p1) "get" apos e cpos) (hdb : (x == ("__debug__" : Str)) = false := by decide) :
    PE X (.Call (.Attribute (.Name x p1) "get" apos) [e] [] cpos) (tKGet kvs te) := by
  refine ⟨fun pins s σ H Q I h => ?_⟩
  obtain ⟨es, n, D, hz⟩ := T
  have hmap := fun (s : Shared) (J : PySem.W.Frag.In X.K s.heap) => PySem.W.mapOf_K (prog := X.prog) (w := X.w) J D.at_ D.lit
  refine wpAny_Call_method m.base m.few m.line PySem.F.plainAttrs_dict PySem.F.slot_dict_get PySem.F.type_dict_get (ld_glob I hg hm ⟨(hmap s I.kIn).typeIs, (hmap s I.kIn).noDict, ?_⟩ hdb)
  rw [m.trees]
  refine Calls.callWith_builtin rfl (Calls.evalArgs_plain (Calls.spliced_cons (thn (he.run pins s σ H _ I h) fun iv s2 ⟨y, H2, I2, ry, z, ey, q⟩ => Calls.spliced_nil ?_)))
  subst ey
  obtain ⟨t, rfl⟩ := ry
  obtain ⟨r, hr, kr⟩ := hz z
  refine call_meetsIn PySem.F.slot_dict_get (hmap s2 I2.kIn).typeIs PySem.F.entry_dict_get (PySem.F.args_dict_get_2 _ _) (meets_dict_get (strKind X.prog X.w) ad (strKind_is X.prog X.w z t) D.low) ⟨_, hmap s2 I2.kIn, ?_⟩
  rw [PySem.W.find_K D.at_ hr]
  refine ⟨toV (kvs.lookup z), H2, I2.tok _, ?_, q⟩
  cases hk : kvs.lookup z with
  | none =>
    rw [hk] at kr
    cases r with
    | none => rfl
    | some v => exact kr.elim
  | some d =>
    rw [hk] at kr
    cases d with
    | int i =>
      cases r with
      | none => exact kr.elim
      | some v => exact kr
    | _ => cases r <;> exact kr.elim
def intsOnly (kvs : List (Str × D)) : Bool := kvs.all fun p => match p.2 with | .int _ => true | _ => false
def kgD (kvs : List (Str × D)) : D → M W D | .str z => ret (toD' (kvs.lookup z)) | _ => stk
def mKGet (kvs : List (Str × D)) (m : ME W) : ME W := fun ρ => bnd (m ρ) (kgD kvs)
theorem lookup_only {kvs : List (Str × D)} (h : intsOnly kvs = true) {z : Str} {d : D} (l : kvs.lookup z = some d) : ∃ i, d = .int i := by
  induction kvs with
  | nil => cases l
  | cons p kvs ih =>
    obtain ⟨g, e⟩ := p
    unfold intsOnly at h
    rw [List.all_cons, Bool.and_eq_true] at h
    rw [List.lookup_cons] at l
    cases hg : z == g with
    | true =>
      rw [hg] at l
      cases l
      cases d with
      | int i => exact ⟨i, rfl⟩
      | _ => cases h.1
    | false =>
      rw [hg] at l
      exact ih h.2 l
theorem okKGet {te : TE} {m : ME W} {kvs : List (Str × D)} {k : Kd} (h : OkE K R C κ te k m) (hk : k ≠ .res := by decide) (ho : intsOnly kvs = true := by rfl) : OkE K R C κ (tKGet kvs te) .dat (mKGet kvs m) := by
  intro S0 H0 w0 S H σ ρ w Q rl q
  refine h S0 H0 w0 S H σ ρ w _ rl ?_
  unfold mKGet at q
  cases e : m ρ w with
  | stuck => rw [bnd_stuck e] at q; exact q.elim
  | exc c fs w1 => rw [bnd_exc e] at q; exact q
  | ok d w1 =>
    rw [bnd_ok e] at q
    intro v S1 H1 r1 s1 o1
    cases d with
    | str z =>
      refine ⟨z, seen_str (o1.seen r1 hk), q _ S1 H1 r1 s1 ?_⟩
      cases l : kvs.lookup z with
      | none => exact .non
      | some d =>
        obtain ⟨i, rfl⟩ := lookup_only ho l
        exact .int i
    | _ => exact q.elim
def EsOf : List DictEntry → List (Str × D) → Prop
  | [], [] => True
  | e :: es, (k, .int i) :: kvs => (∃ t, e.key = .str k t) ∧ (∃ t, e.val = .int i t) ∧ EsOf es kvs
  | _, _ => False
theorem esOf_find {z : Str} : ∀ {es : List DictEntry} {kvs : List (Str × D)}, EsOf es kvs → KRel (kvs.lookup z) ((es.find? (·.key.isStr z)).map (·.val)) ∧ es.any (·.refKey) = false
  | [], [], _ => ⟨trivial, rfl⟩
  | [], _ :: _, h => h.elim
  | _ :: _, [], h => h.elim
  | e :: es, (k, .int i) :: kvs, ⟨⟨t, h1⟩, ⟨u, h2⟩, h3⟩ => by
    obtain ⟨g1, g2⟩ := esOf_find (z := z) h3
    refine ⟨?_, ?_⟩
    · rw [List.lookup_cons, List.find?_cons]
      have hk : e.key.isStr z = (z == k) := by
        rw [h1]
        show (k == z) = (z == k)
        exact Bool.eq_iff_iff.mpr ⟨fun h => by rw [beq_iff_eq] at h ⊢; exact h.symm, fun h => by rw [beq_iff_eq] at h ⊢; exact h.symm⟩
      rw [hk]
      cases hz : z == k with
      | true => exact ⟨u, h2⟩
      | false => exact g1
    · rw [List.any_cons, g2]
      unfold DictEntry.refKey
      rw [h1]
      rfl
  | _ :: _, (_, .none) :: _, h => h.elim
  | _ :: _, (_, .bool _) :: _, h => h.elim
  | _ :: _, (_, .str _) :: _, h => h.elim
  | _ :: _, (_, .list _) :: _, h => h.elim
  | _ :: _, (_, .tuple _) :: _, h => h.elim
  | _ :: _, (_, .dict _) :: _, h => h.elim
theorem kg_mk {w : World} {ad : Addr} {es : Array DictEntry} {n : Nat} {kvs : List (Str × D)} (l : K.lookup ad = some ⟨.type "dict", none, .dict es n, #[]⟩) (lit : PySem.W.KeysLit w.params es.toList) (low : (ad == sysModules) = false) (h : EsOf es.toList kvs) : KgOk K w ad kvs := by
  refine ⟨es, n, ⟨l, lit, low⟩, fun z => ?_⟩
  obtain ⟨g1, g2⟩ := esOf_find (z := z) h
  refine ⟨(es.toList.find? (·.key.isStr z)).map (·.val), ?_, g1⟩
  unfold PySem.W.nsIn
  rw [l]
  show (match es.toList.find? (·.key.isStr z) with | some e => some (some e.val) | none => if es.toList.any (·.refKey) then none else some none) = _
  cases es.toList.find? (·.key.isStr z) with
  | some e => rfl
  | none => rw [g2]; rfl
end
end B

/-! what the words compute, said without the program: sure answers (Pu), answers over any draws (Tot) -/
namespace B
open PySem L2
instance : Inhabited Dr := ⟨⟨[], 0, 0, 0⟩⟩
section
variable {W α β : Type} {ρ : Rho} {g : Op2} {a b c : ME W}
def Pu (m : M W α) (P : α → Prop) : Prop := ∃ z, m = ret z ∧ P z
def Tot (m : M W α) (P : α → Prop) : Prop := ∀ w, ∃ z w', m w = .ok z w' ∧ P z
theorem Pu.of {m : M W α} {z : α} {P : α → Prop} (h : m = ret z) (p : P z) : Pu m P := ⟨z, h, p⟩
theorem Pu.tot {m : M W α} {P : α → Prop} (h : Pu m P) : Tot m P := fun w => by
  obtain ⟨z, rfl, p⟩ := h
  exact ⟨z, w, rfl, p⟩
theorem Pu.mono {m : M W α} {P Q : α → Prop} (h : Pu m P) (f : ∀ z, P z → Q z) : Pu m Q := by
  obtain ⟨z, e, p⟩ := h
  exact ⟨z, e, f z p⟩
theorem Tot.mono {m : M W α} {P Q : α → Prop} (h : Tot m P) (f : ∀ z, P z → Q z) : Tot m Q := fun w => by
  obtain ⟨z, w', e, p⟩ := h w
  exact ⟨z, w', e, f z p⟩
theorem Pu.ret {z : α} {P : α → Prop} (p : P z) : Pu (ret z : M W α) P := ⟨z, rfl, p⟩
theorem Tot.ret {z : α} {P : α → Prop} (p : P z) : Tot (ret z : M W α) P := (Pu.ret p).tot
theorem Pu.bnd {m : M W α} {f : α → M W β} {P : α → Prop} {Q : β → Prop} (h : Pu m P) (k : ∀ z, P z → Pu (f z) Q) : Pu (bnd m f) Q := by
  obtain ⟨z, rfl, p⟩ := h
  exact k z p
theorem Tot.bnd {m : M W α} {f : α → M W β} {P : α → Prop} {Q : β → Prop} (h : Tot m P) (k : ∀ z, P z → Tot (f z) Q) : Tot (bnd m f) Q := fun w => by
  obtain ⟨z, w', e, p⟩ := h w
  rw [bnd_ok e]
  exact k z p w'
theorem Tot.noX {m : M W α} {P : α → Prop} (h : Tot m P) : Tot (noX m) P := fun w => by
  obtain ⟨z, w', e, p⟩ := h w
  exact ⟨z, w', by unfold B.noX; rw [e], p⟩
theorem Pu.noX {m : M W α} {P : α → Prop} (h : Pu m P) : Pu (noX m) P := by
  obtain ⟨z, rfl, p⟩ := h
  exact ⟨z, rfl, p⟩
theorem noX_res (m : M W α) (w : W) : noX m w = m w ∨ (noX m w = .stuck ∧ ∃ c fs w', m w = .exc c fs w') := by
  unfold B.noX
  cases e : m w with
  | ok a w' => exact .inl rfl
  | exc c fs w' => exact .inr ⟨rfl, c, fs, w', rfl⟩
  | stuck => exact .inl rfl
@[simp] theorem tot_noX_iff {m : M W α} {P : α → Prop} : Tot (B.noX m) P = Tot m P := by
  refine propext ⟨fun h w => ?_, Tot.noX⟩
  obtain ⟨z, w', e, p⟩ := h w
  rcases noX_res m w with q | ⟨q, _⟩
  · exact ⟨z, w', q.symm.trans e, p⟩
  · rw [q] at e; cases e
@[simp] theorem tot_bnd_noX_iff {m : M W α} {f : α → M W β} {P : β → Prop} : Tot (B.bnd (B.noX m) f) P = Tot (B.bnd m f) P := by
  refine propext ⟨fun h w => ?_, fun h w => ?_⟩
  · obtain ⟨z, w', e, p⟩ := h w
    rcases noX_res m w with q | ⟨q, _⟩
    · refine ⟨z, w', Eq.trans ?_ e, p⟩
      unfold B.bnd; rw [q]
    · rw [bnd_stuck q] at e; cases e
  · obtain ⟨z, w', e, p⟩ := h w
    rcases noX_res m w with q | ⟨q, c, fs, w2, q2⟩
    · refine ⟨z, w', Eq.trans ?_ e, p⟩
      unfold B.bnd; rw [q]
    · rw [bnd_exc q2] at e; cases e
theorem tot_take {d : D} {m : Int} (h0 : 0 < m) (h1 : m ≤ 100000000) : Tot (fTake [d, .int m]) fun z => ∃ n : Int, z = .int n ∧ 0 ≤ n ∧ n < m := fun w => by
  obtain ⟨l, h⟩ := drawn_lt w h0
  exact ⟨_, _, if_pos (show Lines 0 1073741824 m from ⟨h0, by omega⟩), _, rfl, l, h⟩

/-! ### the words at a state -/
@[simp] theorem x_bnd {γ : Type} (x : M W α) (f : α → M W β) (g : β → M W γ) : bnd (bnd x f) g = bnd x fun a => bnd (f a) g := bnd_bnd x f g
@[simp] theorem x_Var (i : Nat) : (mVar i : ME W) ρ = match ρ[i]? with | some (some d) => ret d | _ => stk := (rfl)
@[simp] theorem x_C (d : D) : (mC d : ME W) ρ = ret d := (rfl)
@[simp] theorem x_Op : mOp g a b ρ = bnd (a ρ) fun d => bnd (b ρ) fun e => lift (g d e) := (rfl)
@[simp] theorem x_OpL {g : D → D → Option (List D)} : mOpL g a b ρ = bnd (a ρ) fun d => bnd (b ρ) fun e => lift ((g d e).map .list) := (rfl)
@[simp] theorem x_OpU {g : D → D → Option (List D)} : mOpU g a b ρ = bnd (a ρ) fun d => bnd (b ρ) fun e => lift ((g d e).map .tuple) := (rfl)
@[simp] theorem x_CB {g : OpN} {m : Rho → M W (List D)} : mCB g m ρ = bnd (m ρ) fun ds => lift (g ds) := (rfl)
@[simp] theorem x_CBL {g : List D → Option (List D)} {m : Rho → M W (List D)} : mCBL g m ρ = bnd (m ρ) fun ds => lift ((g ds).map .list) := (rfl)
@[simp] theorem x_CBU {g : List D → Option (List D)} {m : Rho → M W (List D)} : mCBU g m ρ = bnd (m ρ) fun ds => lift ((g ds).map .tuple) := (rfl)
@[simp] theorem x_Call {F : List D → M W D} {m : Rho → M W (List D)} : mCall F m ρ = bnd (m ρ) fun ds => noX (F ds) := (rfl)
@[simp] theorem x_CallX {F : List D → M W D} {m : Rho → M W (List D)} : mCallX F m ρ = bnd (m ρ) F := (rfl)
@[simp] theorem x_AndV : mAndV a b ρ = bnd (mB a ρ) fun c => if c then b ρ else ret (.bool false) := (rfl)
@[simp] theorem x_OrV : mOrV a b ρ = bnd (mB a ρ) fun c => if c then ret (.bool true) else b ρ := (rfl)
@[simp] theorem x_NotV : mNotV a ρ = bnd (mB a ρ) fun c => ret (.bool (!c)) := (rfl)
@[simp] theorem x_srcL : srcL a ρ = bnd (a ρ) asL := (rfl)
@[simp] theorem x_srcT : srcT a ρ = bnd (a ρ) asT := (rfl)
@[simp] theorem x_srcS : srcS a ρ = bnd (a ρ) asS := (rfl)
@[simp] theorem x_asL (ds : List D) : (asL (.list ds) : M W (List D)) = ret ds := (rfl)
@[simp] theorem x_asT (ds : List D) : (asT (.tuple ds) : M W (List D)) = ret ds := (rfl)
@[simp] theorem x_asS (x : Str) : (asS (.str x) : M W (List D)) = ret (signsOf x) := (rfl)
def isB : D → M W Bool | .bool b => ret b | _ => stk
@[simp] theorem x_isB (b : Bool) : (isB (.bool b) : M W Bool) = ret b := (rfl)
@[simp] theorem x_B : mB a ρ = bnd (a ρ) isB := by
  unfold mB
  congr 1
@[simp] theorem x_And {a b : Rho → M W Bool} : mAnd a b ρ = bnd (a ρ) fun c => if c then b ρ else ret false := (rfl)
@[simp] theorem x_Or {a b : Rho → M W Bool} : mOr a b ρ = bnd (a ρ) fun c => if c then ret true else b ρ := (rfl)
@[simp] theorem x_Not {a : Rho → M W Bool} : mNot a ρ = bnd (a ρ) fun c => ret (!c) := (rfl)
@[simp] theorem x_OfB {m : Rho → M W Bool} : mOfB m ρ = bnd (m ρ) fun b => ret (.bool b) := (rfl)
@[simp] theorem x_If {m : Rho → M W Bool} : mIf m a b ρ = bnd (m ρ) fun k => if k then a ρ else b ρ := (rfl)
@[simp] theorem x_Nil : (mNil : Rho → M W (List D)) ρ = ret [] := (rfl)
@[simp] theorem x_Cons {r : Rho → M W (List D)} : mCons a r ρ = bnd (a ρ) fun d => bnd (r ρ) fun ds => ret (d :: ds) := (rfl)
@[simp] theorem x_Tup {m : Rho → M W (List D)} : mTup m ρ = bnd (m ρ) fun ds => if ds.length ≤ 1000000 then ret (.tuple ds) else stk := (rfl)
@[simp] theorem x_Lst {m : Rho → M W (List D)} : mLst m ρ = bnd (m ρ) fun ds => if ds.length ≤ 1000000 then ret (.list ds) else stk := (rfl)
@[simp] theorem x_Nx : (mNx : MS W) ρ = ret (.nx ρ) := (rfl)
@[simp] theorem x_Drop : mDrop a ρ = bnd (a ρ) fun _ => ret (.nx ρ) := (rfl)
@[simp] theorem x_Ret : mRet a ρ = bnd (a ρ) fun d => ret (.rt d) := (rfl)
@[simp] theorem x_RetN : (mRetN : MS W) ρ = ret (.rt .none) := (rfl)
@[simp] theorem x_IfS {c : Rho → M W Bool} {m n : MS W} : mIfS c m n ρ = bnd (c ρ) fun b => if b then m ρ else n ρ := (rfl)
@[simp] theorem x_Asg {i : Nat} : mAsg i a ρ = bnd (a ρ) fun d => ret (.nx (ρ.set i (some d))) := (rfl)
@[simp] theorem x_AsgT {g : D → Rho → Option Rho} : mAsgT g a ρ = bnd (a ρ) fun d => bnd (lift (g d ρ)) fun ρ' => ret (.nx ρ') := (rfl)
@[simp] theorem x_Aug {i : Nat} : mAug i g a ρ = bnd (mVar i ρ) fun d => bnd (a ρ) fun e => bnd (lift (g d e)) fun z => ret (.nx (ρ.set i (some z))) := (rfl)
@[simp] theorem x_theL (ds : List D) : (theL (.list ds) : M W D) = ret (.list ds) := (rfl)
@[simp] theorem x_Mut {i : Nat} {f : D → List D → Option D} {m : Rho → M W (List D)} : mMut i f m ρ = bnd (mVar i ρ) fun d => bnd (theL d) fun d => bnd (m ρ) fun es => bnd (lift (f d es)) fun z => ret (.nx (ρ.set i (some z))) := (rfl)
@[simp] theorem x_gN (i : Nat) (d : D) : gN i d ρ = some (ρ.set i (some d)) := (rfl)
@[simp] theorem x_gNil : gNil' [] ρ = some ρ := (rfl)
@[simp] theorem x_gCons {f : D → Rho → Option Rho} {fs : List D → Rho → Option Rho} (d : D) (ds : List D) : gCons' f fs (d :: ds) ρ = (f d ρ).bind (fs ds) := (rfl)
@[simp] theorem x_gT {n : Nat} {fs : List D → Rho → Option Rho} (ds : List D) : gT n fs (.tuple ds) ρ = if ds.length = n then fs ds ρ else none := (rfl)
@[simp] theorem x_For {src : Rho → M W (List D)} {g : D → Rho → Option Rho} {b : MS W} : mFor src g b ρ = bnd (src ρ) fun ds => mForL g b ds ρ := (rfl)
@[simp] theorem x_ForNil {g : D → Rho → Option Rho} {b : MS W} : mForL g b [] ρ = ret (.nx ρ) := (rfl)
def goOn (k : MS W) : O → M W O
  | .nx ρ' => k ρ'
  | o => ret o
@[simp] theorem x_goNx (k : MS W) : goOn k (.nx ρ) = k ρ := (rfl)
@[simp] theorem x_goRt (k : MS W) (d : D) : goOn k (.rt d) = ret (.rt d) := (rfl)
@[simp] theorem x_goBk (k : MS W) : goOn k (.bk ρ) = ret (.bk ρ) := (rfl)
@[simp] theorem x_goCt (k : MS W) : goOn k (.ct ρ) = ret (.ct ρ) := (rfl)
@[simp] theorem x_Seq {m n : MS W} : mSeq m n ρ = bnd (m ρ) (goOn n) := by
  unfold mSeq
  congr 1
  funext o
  cases o <;> rfl
def goLoop (k : MS W) : O → M W O
  | .nx ρ' => k ρ'
  | .ct ρ' => k ρ'
  | .bk ρ' => ret (.nx ρ')
  | .rt d => ret (.rt d)
@[simp] theorem x_loNx (k : MS W) : goLoop k (.nx ρ) = k ρ := (rfl)
@[simp] theorem x_loRt (k : MS W) (d : D) : goLoop k (.rt d) = ret (.rt d) := (rfl)
@[simp] theorem x_loBk (k : MS W) : goLoop k (.bk ρ) = ret (.nx ρ) := (rfl)
@[simp] theorem x_loCt (k : MS W) : goLoop k (.ct ρ) = k ρ := (rfl)
@[simp] theorem x_ForCons {g : D → Rho → Option Rho} {b : MS W} (d : D) (ds : List D) : mForL g b (d :: ds) ρ = bnd (lift (g d ρ)) fun ρ1 => bnd (b ρ1) (goLoop (mForL g b ds)) := by
  show (bnd (lift (g d ρ)) fun ρ1 => bnd (b ρ1) fun o => match o with
    | .nx ρ2 => mForL g b ds ρ2
    | .ct ρ2 => mForL g b ds ρ2
    | .bk ρ2 => ret (.nx ρ2)
    | .rt d => ret (.rt d)) = _
  congr 1
noncomputable def rng1 : List D → M W (List D)
  | [.int j] => if Lines (-1000000000) 1000000000 j then ret (intsFrom 0 j.toNat) else stk
  | _ => stk
theorem x_rng1 (j : Int) : (rng1 [.int j] : M W (List D)) = if Lines (-1000000000) 1000000000 j then ret (intsFrom 0 j.toNat) else stk := rfl
@[simp] theorem x_srcR1 {m : Rho → M W (List D)} : srcR1 m ρ = bnd (m ρ) rng1 := by
  unfold srcR1 rng1
  rfl
noncomputable def rng2 : List D → M W (List D)
  | [.int i, .int j] => if Lines (-1000000000) 1000000000 i ∧ Lines (-1000000000) 1000000000 j then ret (intsFrom i (j - i).toNat) else stk
  | _ => stk
theorem x_rng2 (i j : Int) : (rng2 [.int i, .int j] : M W (List D)) = if Lines (-1000000000) 1000000000 i ∧ Lines (-1000000000) 1000000000 j then ret (intsFrom i (j - i).toNat) else stk := rfl
@[simp] theorem x_srcR2 {m : Rho → M W (List D)} : srcR2 m ρ = bnd (m ρ) rng2 := by
  unfold srcR2 rng2
  rfl
@[simp] theorem x_Lc {src : Rho → M W (List D)} {vs : List Nat} {f : D → Rho → Option Rho} {tt : Rho → M W Bool} {e : ME W} : mLc src vs f tt e ρ = bnd (src ρ) fun ds => if ds.length ≤ 1000000 then bnd (mLcL f tt e (wipeR ρ vs) ds) fun xs => ret (.list xs) else stk := (rfl)
@[simp] theorem x_wipe0 : wipeR ρ [] = ρ := (rfl)
@[simp] theorem x_wipe (v : Nat) (vs : List Nat) : wipeR ρ (v :: vs) = (wipeR ρ vs).set v none := (rfl)
@[simp] theorem x_Yes : (mYes : Rho → M W Bool) ρ = ret true := (rfl)
@[simp] theorem x_LcNil {f : D → Rho → Option Rho} {tt : Rho → M W Bool} {e : ME W} : mLcL f tt e ρ [] = ret [] := (rfl)
@[simp] theorem x_LcCons {f : D → Rho → Option Rho} {tt : Rho → M W Bool} {e : ME W} (d : D) (ds : List D) : mLcL f tt e ρ (d :: ds) = bnd (lift (f d ρ)) fun ρ1 => bnd (noX (tt ρ1)) fun b => if b then bnd (noX (e ρ1)) fun x => bnd (mLcL f tt e ρ ds) fun xs => ret (x :: xs) else mLcL f tt e ρ ds := (rfl)
def ngD : D → M W D | .int i => ret (.int (-i)) | _ => stk
@[simp] theorem x_ngD (i : Int) : (ngD (.int i) : M W D) = ret (.int (-i)) := (rfl)
@[simp] theorem x_Neg : mNeg a ρ = bnd (a ρ) ngD := by
  unfold mNeg
  congr 1
@[simp] theorem x_Truth : mTruth a ρ = bnd (a ρ) fun d => lift (truD d) := (rfl)
@[simp] theorem x_NoP : (mNoP : Rho → M W (Option Int)) ρ = ret none := (rfl)
def ptD : D → M W (Option Int) | .int i => ret (some i) | _ => stk
@[simp] theorem x_ptD (i : Int) : (ptD (.int i) : M W (Option Int)) = ret (some i) := (rfl)
@[simp] theorem x_Part : mPart a ρ = bnd (a ρ) ptD := by
  unfold mPart
  congr 1
@[simp] theorem x_Sl {f : D → Option Int → Option Int → M W D} {l h : Rho → M W (Option Int)} : mSl f a l h ρ = bnd (a ρ) fun d => bnd (l ρ) fun lo => bnd (h ρ) fun hi => f d lo hi := (rfl)
@[simp] theorem x_liftP {g : D → Option Int → Option Int → Option D} (d : D) (lo hi : Option Int) : (liftP g d lo hi : M W D) = lift (g d lo hi) := (rfl)
@[simp] theorem x_liftL {g : D → Option Int → Option Int → Option (List D)} (d : D) (lo hi : Option Int) : (liftL g d lo hi : M W D) = lift ((g d lo hi).map .list) := (rfl)
@[simp] theorem x_liftT {g : D → Option Int → Option Int → Option (List D)} (d : D) (lo hi : Option Int) : (liftT g d lo hi : M W D) = lift ((g d lo hi).map .tuple) := (rfl)
def outF (rk : Kd) : O → M W D
  | .rt d => ret d
  | .nx _ => if rk = .dat then ret .none else stk
  | _ => stk
@[simp] theorem x_outRt (rk : Kd) (d : D) : (outF rk (.rt d) : M W D) = ret d := (rfl)
@[simp] theorem x_outNx : (outF .dat (.nx ρ) : M W D) = ret .none := (rfl)
@[simp] theorem x_Fn {rk : Kd} {n : Nat} {m : MS W} (ds : List D) : mFn rk n m ds = bnd (m (startR n ds)) (outF rk) := by
  unfold mFn
  congr 1
@[simp] theorem x_start (n : Nat) (ds : List D) : startR n ds = ds.map some ++ List.replicate (n - ds.length) none := (rfl)

/-! ### errors -/
@[simp] theorem x_Raise {c : String} : mRaise c a ρ = bnd (a ρ) (rzD c) := (rfl)
theorem x_Try {c : String → Bool} {fx : List Nat} {i : Nat} {mb : MS W} {mh : List (Str × D) → ME W} {o : O} (h : mb ρ = ret o) : mTry c fx i mb mh ρ = ret o := by
  funext w
  unfold mTry
  rw [h]
  rfl
@[simp] theorem x_KGet {kvs : List (Str × D)} : mKGet kvs a ρ = bnd (a ρ) (kgD kvs) := (rfl)
@[simp] theorem x_RevL : mRevL a ρ = bnd (a ρ) revD := (rfl)
@[simp] theorem x_revD (ds : List D) : (revD (.list ds) : M W D) = ret (.list ds.reverse) := (rfl)
@[simp] theorem x_SortSet {d : Nat} {bd : Int} : mSortSet d bd a ρ = bnd (a ρ) fun x => lift ((gSortSet d bd x).map .list) := (rfl)
def chn (g : Op2) (e : D) (c : M W D) : D → M W D
  | .bool b => if b then bnd c fun u => lift (g e u) else ret (.bool false)
  | _ => stk
@[simp] theorem x_chnB (e : D) (c : M W D) (b : Bool) : chn g e c (.bool b) = if b then bnd c fun u => lift (g e u) else ret (.bool false) := (rfl)
@[simp] theorem x_Chn {f : Op2} : mChn f g a b c ρ = bnd (a ρ) fun d => bnd (b ρ) fun e => bnd (lift (f d e)) (chn g e (c ρ)) := by
  unfold mChn
  congr 1
def stI (i : Nat) (e : D) (ρ : Rho) : D → D → M W O
  | .list ds, .int j => bnd (lift (ixN ds.length j)) fun n => ret (.nx (ρ.set i (some (.list (ds.set n e)))))
  | _, _ => stk
@[simp] theorem x_stI {i : Nat} (e : D) (ds : List D) (j : Int) : (stI i e ρ (.list ds) (.int j) : M W O) = bnd (lift (ixN ds.length j)) fun n => ret (.nx (ρ.set i (some (.list (ds.set n e))))) := (rfl)
@[simp] theorem x_SetI {i : Nat} {mi me : ME W} : mSetI i mi me ρ = bnd (me ρ) fun e => bnd (mVar i ρ) fun d => bnd (mi ρ) fun k => stI i e ρ d k := by
  unfold mSetI
  congr 1
/-! ### the operators -/
@[simp] theorem o_Add (i j : Int) : gAdd (.int i) (.int j) = some (.int (i + j)) := (rfl)
@[simp] theorem o_Mns (i j : Int) : gMns (.int i) (.int j) = some (.int (i - j)) := (rfl)
theorem o_Mul {i j : Int} (h : -1000000000000 ≤ i) (h2 : i ≤ 1000000000000) : gMul (.int i) (.int j) = some (.int (i * j)) := if_pos (.inl ⟨by omega, by omega⟩)
theorem o_Mul' {i j : Int} (h : -1000000000000 ≤ j) (h2 : j ≤ 1000000000000) : gMul (.int i) (.int j) = some (.int (i * j)) := if_pos (.inr ⟨by omega, by omega⟩)
@[simp] theorem o_Mod (i j : Int) : gMod (.int i) (.int j) = if 0 < j then some (.int (i % j)) else none := (rfl)
theorem o_Div {i j : Int} (h : 0 < j) (h2 : j ≤ 1000000000) : gDiv (.int i) (.int j) = some (.int (i / j)) := if_pos ⟨h, by omega⟩
@[simp] theorem o_Lt (i j : Int) : gLt (.int i) (.int j) = some (.bool (decide (i < j))) := (rfl)
@[simp] theorem o_Le (i j : Int) : gLe (.int i) (.int j) = some (.bool (decide (i ≤ j))) := (rfl)
@[simp] theorem o_Gt (i j : Int) : gGt (.int i) (.int j) = some (.bool (decide (j < i))) := (rfl)
@[simp] theorem o_Ge (i j : Int) : gGe (.int i) (.int j) = some (.bool (decide (j ≤ i))) := (rfl)
@[simp] theorem o_IxL (ds : List D) (i : Int) : gIxL (.list ds) (.int i) = atI ds i := (rfl)
@[simp] theorem o_IxT (ds : List D) (i : Int) : gIxT (.tuple ds) (.int i) = atI ds i := (rfl)
@[simp] theorem o_Cat (x y : List D) : gCat (.list x) (.list y) = if x.length + y.length ≤ 1000000 then some (x ++ y) else none := (rfl)
@[simp] theorem o_CatT (x y : List D) : gCatT (.tuple x) (.tuple y) = if x.length + y.length ≤ 1000000 then some (x ++ y) else none := (rfl)
@[simp] theorem o_App (ds : List D) (e : D) : gApp (.list ds) [e] = if ds.length < 1000000 then some (.list (ds ++ [e])) else none := (rfl)
@[simp] theorem o_Ext (ds es : List D) : gExt (.list ds) [.list es] = if ds.length + es.length ≤ 1000000 then some (.list (ds ++ es)) else none := (rfl)
@[simp] theorem o_LenL (ds : List D) : gLen [.list ds] = some (.int ds.length) := (rfl)
@[simp] theorem o_LenT (ds : List D) : gLen [.tuple ds] = some (.int ds.length) := (rfl)
@[simp] theorem o_LenS (x : Str) : gLenS [.str x] = if x.length ≤ 1000000 then some (.int x.length) else none := (rfl)
@[simp] theorem o_Abs (i : Int) : gAbs [.int i] = some (.int (if i < 0 then -i else i)) := (rfl)
@[simp] theorem o_Max2 (i j : Int) : gMax2 [.int i, .int j] = some (.int (max i j)) := by
  show some (PyData.int (if j > i then j else i)) = _
  congr 2
  split <;> omega
@[simp] theorem o_Min2 (i j : Int) : gMin2 [.int i, .int j] = some (.int (min i j)) := by
  show some (PyData.int (if j < i then j else i)) = _
  congr 2
  split <;> omega
@[simp] theorem o_Int1 (i : Int) : gInt1 [.int i] = some (.int i) := (rfl)
@[simp] theorem o_Int1b (b : Bool) : gInt1 [.bool b] = some (.int (if b = true then 1 else 0)) := (rfl)
@[simp] theorem o_ListL (ds : List D) : gListOf [.list ds] = some ds := (rfl)
@[simp] theorem o_ListT (ds : List D) : gListOf [.tuple ds] = some ds := (rfl)
theorem o_MaxL (ns : List Int) (h : ns ≠ []) : gMaxL [.list (ns.map .int)] = some (.int (maxI ns)) := by
  show (intsD (ns.map .int)).bind _ = _
  rw [intsD_of]
  exact if_neg h
theorem o_MinL (ns : List Int) (h : ns ≠ []) : gMinL [.list (ns.map .int)] = some (.int (minI ns)) := by
  show (intsD (ns.map .int)).bind _ = _
  rw [intsD_of]
  exact if_neg h
@[simp] theorem o_SumL (ns : List Int) : gSumL [.list (ns.map .int)] = some (.int ns.sum) := by
  show (intsD (ns.map .int)).map _ = _
  rw [intsD_of]
  rfl
@[simp] theorem o_AnyL (bs : List Bool) : gAnyL [.list (bs.map .bool)] = some (.bool (bs.any id)) := by
  show (blsD (bs.map .bool)).map _ = _
  rw [blsD_of]
  rfl
theorem o_AnyM {γ : Type} (f : γ → Bool) (xs : List γ) : gAnyL [.list (xs.map fun x => .bool (f x))] = some (.bool (xs.any f)) := by
  have := o_AnyL (xs.map f)
  rw [List.map_map] at this
  refine Eq.trans this ?_
  rw [List.any_map]
  rfl
@[simp] theorem o_AllL (bs : List Bool) : gAllL [.list (bs.map .bool)] = some (.bool (bs.all id)) := by
  show (blsD (bs.map .bool)).map _ = _
  rw [blsD_of]
  rfl
theorem atI_of {α : Type} {xs : List α} {i : Int} {n : Nat} (e : i = (n : Int)) (h : n < xs.length) : atI xs i = some xs[n] := by
  subst e
  exact atI_nat (List.getElem?_eq_getElem h)
@[simp] theorem atI_0 {α : Type} (x : α) (xs : List α) : atI (x :: xs) 0 = some x := atI_nat (j := 0) rfl
@[simp] theorem atI_1 {α : Type} (x y : α) (xs : List α) : atI (x :: y :: xs) 1 = some y := atI_nat (j := 1) rfl
@[simp] theorem atI_2 {α : Type} (x y z : α) (xs : List α) : atI (x :: y :: z :: xs) 2 = some z := atI_nat (j := 2) rfl
@[simp] theorem atI_3 {α : Type} (x y z u : α) (xs : List α) : atI (x :: y :: z :: u :: xs) 3 = some u := atI_nat (j := 3) rfl
@[simp] theorem atI_4 {α : Type} (x y z u v : α) (xs : List α) : atI (x :: y :: z :: u :: v :: xs) 4 = some v := atI_nat (j := 4) rfl
theorem atI_mid {α : Type} (xs ys : List α) (x : α) : atI (xs ++ x :: ys) (xs.length : Int) = some x := atI_nat (by rw [List.getElem?_append_right (Nat.le_refl _), Nat.sub_self]; rfl)

/-! ### shapes -/
def Sh (n : Nat) (d : D) : Prop := d.canLay0 = true ∧ d.depth ≤ n
theorem sh_shaped {n : Nat} {d : D} (h : Sh n d) (hn : n ≤ 64 := by decide) : SeqAt.shaped d = true := by
  unfold SeqAt.shaped
  rw [h.1, decide_eq_true (Nat.le_trans h.2 hn)]
  rfl
theorem sh_int (i : Int) : Sh 0 (.int i) := ⟨rfl, Nat.le_refl _⟩
theorem sh_bool (i : Bool) : Sh 0 (.bool i) := ⟨rfl, Nat.le_refl _⟩
theorem sh_none : Sh 0 .none := ⟨rfl, Nat.le_refl _⟩
theorem sh_str {x : Str} (h : PyData.strOk x = true) : Sh 0 (.str x) := ⟨by unfold PyData.canLay0; exact h, Nat.le_refl _⟩
theorem Sh.le {m n : Nat} {d : D} (h : Sh m d) (hn : m ≤ n) : Sh n d := ⟨h.1, Nat.le_trans h.2 hn⟩
theorem sh_all {n : Nat} : ∀ {ds : List D}, (∀ d ∈ ds, Sh n d) → PyData.canLayAll0 ds = true ∧ PyData.depthAll ds ≤ n
  | [], _ => ⟨rfl, Nat.zero_le _⟩
  | d :: ds, h => by
    obtain ⟨a, b⟩ := sh_all fun e he => h e (List.mem_cons_of_mem _ he)
    obtain ⟨c, e⟩ := h d List.mem_cons_self
    refine ⟨by rw [PyData.canLayAll0, a, c]; rfl, ?_⟩
    rw [PyData.depthAll]
    exact Nat.max_le.mpr ⟨e, b⟩
theorem sh_list {n : Nat} {ds : List D} (h : ∀ d ∈ ds, Sh n d) : Sh (n + 1) (.list ds) := by
  obtain ⟨a, b⟩ := sh_all h
  exact ⟨by rw [PyData.canLay0]; exact a, by rw [PyData.depth]; exact Nat.succ_le_succ b⟩
theorem sh_tup {n : Nat} {ds : List D} (h : ∀ d ∈ ds, Sh n d) : Sh (n + 1) (.tuple ds) := by
  obtain ⟨a, b⟩ := sh_all h
  exact ⟨by rw [PyData.canLay0]; exact a, by rw [PyData.depth]; exact Nat.succ_le_succ b⟩
theorem sh_refl {n : Nat} {d : D} (h : Sh n d) : PyData.eqv d d = true := SeqAt.eqv_refl d h.1
theorem o_EqSame {n : Nat} {d : D} (h : Sh n d) (hn : n ≤ 64 := by decide) : gEq d d = some (.bool true) := by
  unfold gEq
  rw [if_pos ⟨sh_shaped h hn, sh_shaped h hn⟩, sh_refl h]
theorem o_NeSame {n : Nat} {d : D} (h : Sh n d) (hn : n ≤ 64 := by decide) : gNe d d = some (.bool false) := by
  unfold gNe
  rw [if_pos ⟨sh_shaped h hn, sh_shaped h hn⟩, sh_refl h]
  rfl
@[simp] theorem o_EqI (i j : Int) : gEq (.int i) (.int j) = some (.bool (decide (i = j))) := by
  show some (PyData.bool (PyData.eqv (.int i) (.int j))) = _
  rw [PyData.eqv, PySem.W.beq_decide]
@[simp] theorem o_NeI (i j : Int) : gNe (.int i) (.int j) = some (.bool (!decide (i = j))) := by
  show some (PyData.bool (!PyData.eqv (.int i) (.int j))) = _
  rw [PyData.eqv, PySem.W.beq_decide]
theorem o_EqS {x y : Str} (hx : PyData.strOk x = true) (hy : PyData.strOk y = true) : gEq (.str x) (.str y) = some (.bool (decide (x = y))) := by
  unfold gEq
  rw [if_pos ⟨sh_shaped (sh_str hx), sh_shaped (sh_str hy)⟩, PyData.eqv, PySem.W.beq_decide]
theorem o_NeS {x y : Str} (hx : PyData.strOk x = true) (hy : PyData.strOk y = true) : gNe (.str x) (.str y) = some (.bool (!decide (x = y))) := by
  unfold gNe
  rw [if_pos ⟨sh_shaped (sh_str hx), sh_shaped (sh_str hy)⟩, PyData.eqv, PySem.W.beq_decide]

theorem rng1_of {j : Int} (h0 : -100000 ≤ j) (h1 : j ≤ 10000000) : (rng1 [.int j] : M Dr (List D)) = ret (intsFrom 0 j.toNat) := if_pos ⟨by omega, by omega⟩
theorem rng1_nat {n : Nat} (h1 : n ≤ 10000000) : (rng1 [.int n] : M Dr (List D)) = ret (intsFrom 0 n) := by
  rw [rng1_of (by omega) (by omega), Int.toNat_natCast]
theorem rng2_of {i j : Int} (h0 : -100000 ≤ i) (h1 : i ≤ 10000000) (h2 : -100000 ≤ j) (h3 : j ≤ 10000000) : (rng2 [.int i, .int j] : M Dr (List D)) = ret (intsFrom i (j - i).toNat) := if_pos ⟨⟨by omega, by omega⟩, by omega, by omega⟩
/-! ### loops -/
@[simp] theorem intsFrom_0 (lo : Int) : intsFrom lo 0 = [] := (rfl)
theorem intsFrom_cons (lo : Int) (n : Nat) : intsFrom lo (n + 1) = .int lo :: intsFrom (lo + 1) n := by
  unfold intsFrom
  rw [List.range_succ_eq_map, List.map_cons, List.map_map]
  congr 1
  · simp
  · refine List.map_congr_left fun i _ => ?_
    show PyData.int (lo + ((i + 1 : Nat) : Int)) = PyData.int (lo + 1 + (i : Int))
    congr 1
    push_cast
    omega
/-- after one item -/
def After (I : Rho → Prop) : O → Prop
  | .nx ρ => I ρ
  | .ct ρ => I ρ
  | _ => False
theorem pu_for {g : D → Rho → Option Rho} {b : MS W} : ∀ {xs : List D} {I : Nat → Rho → Prop} {ρ : Rho}, I 0 ρ → (∀ i d ρ, xs[i]? = some d → I i ρ → Pu (bnd (lift (g d ρ)) b) (After (I (i + 1)))) → ∃ ρ', mForL g b xs ρ = ret (.nx ρ') ∧ I xs.length ρ'
  | [], I, ρ, h0, _ => ⟨ρ, rfl, h0⟩
  | x :: xs, I, ρ, h0, hs => by
    obtain ⟨o, e, p⟩ := hs 0 x ρ rfl h0
    rw [x_ForCons, ← bnd_bnd, e, bnd_ret]
    have step : ∀ ρ1, I 1 ρ1 → ∃ ρ', mForL g b xs ρ1 = ret (.nx ρ') ∧ I (x :: xs).length ρ' := fun ρ1 h1 =>
      pu_for (I := fun i => I (i + 1)) h1 fun i d ρ hi h => hs (i + 1) d ρ (by rw [List.getElem?_cons_succ]; exact hi) h
    cases o with
    | nx ρ1 => exact step ρ1 p
    | ct ρ1 => exact step ρ1 p
    | bk _ => exact p.elim
    | rt _ => exact p.elim
/-- one item of many, any end -/
def AfterX (I : Rho → Prop) (B : Rho → Prop) (R : D → Prop) : O → Prop
  | .nx ρ => I ρ
  | .ct ρ => I ρ
  | .bk ρ => B ρ
  | .rt d => R d
def EndX (B : Rho → Prop) (R : D → Prop) : O → Prop
  | .nx ρ => B ρ
  | .rt d => R d
  | _ => False
theorem tot_forX {g : D → Rho → Option Rho} {b : MS W} {B : Rho → Prop} {R : D → Prop} : ∀ {xs : List D} {I : Nat → Rho → Prop} {ρ : Rho}, I 0 ρ → (∀ i d ρ, xs[i]? = some d → I i ρ → Tot (bnd (lift (g d ρ)) b) (AfterX (I (i + 1)) B R)) →
    (∀ ρ, I xs.length ρ → B ρ) → Tot (mForL g b xs ρ) (EndX B R)
  | [], I, ρ, h0, _, hB => .ret (hB ρ h0)
  | x :: xs, I, ρ, h0, hs, hB => by
    rw [x_ForCons, ← bnd_bnd]
    refine (hs 0 x ρ rfl h0).bnd fun o p => ?_
    have step : ∀ ρ1, I 1 ρ1 → Tot (mForL g b xs ρ1) (EndX B R) := fun ρ1 h1 =>
      tot_forX (I := fun i => I (i + 1)) h1 (fun i d ρ hi h => hs (i + 1) d ρ (by rw [List.getElem?_cons_succ]; exact hi) h) hB
    cases o with
    | nx ρ1 => exact step ρ1 p
    | ct ρ1 => exact step ρ1 p
    | bk ρ1 => exact .ret (P := EndX B R) (z := O.nx ρ1) p
    | rt d => exact .ret (P := EndX B R) (z := O.rt d) p
theorem tot_for {g : D → Rho → Option Rho} {b : MS W} {xs : List D} {I : Nat → Rho → Prop} {ρ : Rho} (h0 : I 0 ρ) (hs : ∀ i d ρ, xs[i]? = some d → I i ρ → Tot (bnd (lift (g d ρ)) b) (After (I (i + 1)))) : Tot (mForL g b xs ρ) fun o => ∃ ρ', o = .nx ρ' ∧ I xs.length ρ' :=
  (tot_forX (B := I xs.length) (R := fun _ => False) h0 (fun i d ρ hi h => (hs i d ρ hi h).mono fun o p => by cases o <;> first | exact p | exact False.elim p) fun _ h => h).mono fun o p => by
    cases o with
    | nx ρ1 => exact ⟨ρ1, rfl, p⟩
    | ct _ => exact p.elim
    | bk _ => exact p.elim
    | rt _ => exact p.elim
theorem x_While1 {c : Rho → M W Bool} {b : MS W} (n : Nat) : mWhileN c b (n + 1) ρ = bnd (c ρ) fun k => if k then bnd (b ρ) (goLoop (mWhileN c b n)) else ret (.nx ρ) := by
  show (bnd (c ρ) fun k => if k then bnd (b ρ) fun o => match o with
    | .nx ρ2 => mWhileN c b n ρ2
    | .ct ρ2 => mWhileN c b n ρ2
    | .bk ρ2 => ret (.nx ρ2)
    | .rt d => ret (.rt d) else ret (.nx ρ)) = _
  congr 1
/-- a while that gets nearer its end with each turn -/
theorem tot_while {c : Rho → M W Bool} {b : MS W} {I B : Rho → Prop} {R : D → Prop} {μ : Rho → Nat}
    (hs : ∀ ρ, I ρ → Tot (bnd (c ρ) fun k => if k then b ρ else ret (.bk ρ)) (AfterX (fun ρ' => I ρ' ∧ μ ρ' < μ ρ) B R)) {ρ : Rho} (h0 : I ρ) : Tot (mWhile c b ρ) (EndX B R) := fun w => by
  have key : ∀ n ρ, μ ρ < n → I ρ → ∀ w, ∃ z w', mWhileN c b n ρ w = .ok z w' ∧ EndX B R z := by
    intro n
    induction n with
    | zero => intro ρ h; omega
    | succ n ih =>
      intro ρ hn hI w
      obtain ⟨o, w1, e, p⟩ := hs ρ hI w
      rw [x_While1]
      cases ec : c ρ w with
      | stuck => rw [bnd_stuck ec] at e; cases e
      | exc cc fs w2 => rw [bnd_exc ec] at e; cases e
      | ok k w2 =>
        rw [bnd_ok ec] at e ⊢
        cases k with
        | false =>
          cases e
          exact ⟨_, _, rfl, p⟩
        | true =>
          have e' : b ρ w2 = .ok o w1 := e
          show ∃ z w', bnd (b ρ) (goLoop (mWhileN c b n)) w2 = _ ∧ _
          rw [bnd_ok e']
          cases o with
          | nx ρ1 => exact ih ρ1 (Nat.lt_of_lt_of_le p.2 (Nat.le_of_lt_succ hn)) p.1 w1
          | ct ρ1 => exact ih ρ1 (Nat.lt_of_lt_of_le p.2 (Nat.le_of_lt_succ hn)) p.1 w1
          | bk ρ1 => exact ⟨_, _, rfl, p⟩
          | rt d => exact ⟨_, _, rfl, p⟩
  obtain ⟨z, w', e, p⟩ := key (μ ρ + 1) ρ (Nat.lt_succ_self _) h0 w
  exact ⟨z, w', mWhile_eq e (fun q => by cases q), p⟩
theorem pu_while {c : Rho → M W Bool} {b : MS W} {I B : Rho → Prop} {μ : Rho → Nat}
    (hs : ∀ ρ, I ρ → Pu (bnd (c ρ) fun k => if k then b ρ else ret (.bk ρ)) (AfterX (fun ρ' => I ρ' ∧ μ ρ' < μ ρ) B fun _ => False)) {ρ : Rho} (h0 : I ρ) : ∃ ρ', mWhile c b ρ = ret (.nx ρ') ∧ B ρ' := by
  have key : ∀ n ρ, μ ρ < n → I ρ → ∃ ρ', B ρ' ∧ ∀ w, mWhileN c b n ρ w = .ok (.nx ρ') w := by
    intro n
    induction n with
    | zero => intro ρ h; omega
    | succ n ih =>
      intro ρ hn hI
      obtain ⟨o, e, p⟩ := hs ρ hI
      have e' : ∀ w, bnd (c ρ) (fun k => if k then b ρ else ret (.bk ρ)) w = .ok o w := fun w => by rw [e]; rfl
      have stp : ∀ ρ', (∀ w, ∀ w1, b ρ w = .ok o w1 → ∀ w2, c ρ w2 = .ok true w → goLoop (mWhileN c b n) o w1 = .ok (.nx ρ') w1) → (∀ ρ1, o = .bk ρ1 → ρ1 = ρ') → ∀ w, mWhileN c b (n + 1) ρ w = .ok (.nx ρ') w := by
        intro ρ' h1 h2 w
        have ew := e' w
        rw [x_While1]
        cases ec : c ρ w with
        | stuck => rw [bnd_stuck ec] at ew; cases ew
        | exc cc fs w2 => rw [bnd_exc ec] at ew; cases ew
        | ok k w2 =>
          rw [bnd_ok ec] at ew ⊢
          cases k with
          | false =>
            have : (Res.ok (O.bk ρ) w2 : Res W O) = .ok o w := ew
            cases this
            rw [h2 ρ rfl]
            rfl
          | true =>
            have eb : b ρ w2 = .ok o w := ew
            show bnd (b ρ) (goLoop (mWhileN c b n)) w2 = _
            rw [bnd_ok eb]
            exact h1 w2 w eb w ec
      cases o with
      | nx ρ1 =>
        obtain ⟨ρ', hB, h⟩ := ih ρ1 (Nat.lt_of_lt_of_le p.2 (Nat.le_of_lt_succ hn)) p.1
        exact ⟨ρ', hB, stp ρ' (fun _ w1 _ _ _ => h w1) fun _ z => by cases z⟩
      | ct ρ1 =>
        obtain ⟨ρ', hB, h⟩ := ih ρ1 (Nat.lt_of_lt_of_le p.2 (Nat.le_of_lt_succ hn)) p.1
        exact ⟨ρ', hB, stp ρ' (fun _ w1 _ _ _ => h w1) fun _ z => by cases z⟩
      | bk ρ1 => exact ⟨ρ1, p, stp ρ1 (fun _ w1 _ _ _ => rfl) fun _ z => by cases z; rfl⟩
      | rt d => exact p.elim
  obtain ⟨ρ', hB, h⟩ := key (μ ρ + 1) ρ (Nat.lt_succ_self _) h0
  exact ⟨ρ', funext fun w => mWhile_eq (h w) (fun q => by cases q), hB⟩

/-! ### comprehensions -/
theorem pu_lc {f : D → Rho → Option Rho} {tt : Rho → M W Bool} {e : ME W} {p : D → Bool} {h : D → D} : ∀ {xs : List D}, (∀ d ∈ xs, ∃ ρ1, f d ρ = some ρ1 ∧ tt ρ1 = ret (p d) ∧ (p d = true → e ρ1 = ret (h d))) → mLcL f tt e ρ xs = ret ((xs.filter p).map h)
  | [], _ => rfl
  | x :: xs, hs => by
    obtain ⟨ρ1, h1, h2, h3⟩ := hs x List.mem_cons_self
    have ih := pu_lc fun d hd => hs d (List.mem_cons_of_mem _ hd)
    unfold mLcL
    rw [h1, lift_some, bnd_ret, h2, noX_ret, bnd_ret, ih]
    cases hp : p x with
    | false => rw [List.filter_cons_of_neg (by rw [hp]; exact Bool.false_ne_true)]; rfl
    | true =>
      rw [List.filter_cons_of_pos hp, List.map_cons, h3 hp]
      rfl
theorem pu_lcY {f : D → Rho → Option Rho} {e : ME W} {h : D → D} {xs : List D} (hs : ∀ d ∈ xs, ∃ ρ1, f d ρ = some ρ1 ∧ e ρ1 = ret (h d)) : mLcL f mYes e ρ xs = ret (xs.map h) := by
  have := pu_lc (W := W) (ρ := ρ) (f := f) (tt := mYes) (e := e) (p := fun _ => true) (h := h) (xs := xs) fun d hd => by
    obtain ⟨ρ1, h1, h2⟩ := hs d hd
    exact ⟨ρ1, h1, rfl, fun _ => h2⟩
  rw [this, List.filter_eq_self.mpr fun _ _ => rfl]
theorem pu_lcM [Inhabited W] {γ : Type} {enc : γ → D} {f : D → Rho → Option Rho} {e : ME W} {h : γ → D} {xs : List γ} (hs : ∀ x ∈ xs, bnd (lift (f (enc x) ρ)) e = ret (h x)) : mLcL f mYes e ρ (xs.map enc) = ret (xs.map h) := by
  induction xs with
  | nil => rfl
  | cons x xs ih =>
    have h1 := hs x List.mem_cons_self
    have h2 := ih fun y hy => hs y (List.mem_cons_of_mem _ hy)
    rw [List.map_cons]
    unfold mLcL
    cases hf : f (enc x) ρ with
    | none =>
      rw [hf] at h1
      have := congrFun h1 default
      cases this
    | some ρ1 =>
      rw [hf, lift_some, bnd_ret] at h1
      rw [lift_some, bnd_ret, x_Yes, noX_ret, bnd_ret, if_pos rfl, h1, noX_ret, bnd_ret, h2]
      rfl
theorem pu_lcF {γ : Type} {enc : γ → D} {f : D → Rho → Option Rho} {tt : Rho → M W Bool} {e : ME W} {p : γ → Bool} {h : γ → D} {xs : List γ} (hs : ∀ x ∈ xs, ∃ ρ1, f (enc x) ρ = some ρ1 ∧ tt ρ1 = ret (p x) ∧ (p x = true → e ρ1 = ret (h x))) : mLcL f tt e ρ (xs.map enc) = ret ((xs.filter p).map h) := by
  induction xs with
  | nil => rfl
  | cons x xs ih =>
    obtain ⟨ρ1, h1, h2, h3⟩ := hs x List.mem_cons_self
    have ih := ih fun y hy => hs y (List.mem_cons_of_mem _ hy)
    rw [List.map_cons]
    unfold mLcL
    rw [h1, lift_some, bnd_ret, h2, noX_ret, bnd_ret, ih]
    cases hp : p x with
    | false => rw [List.filter_cons_of_neg (by rw [hp]; exact Bool.false_ne_true)]; rfl
    | true =>
      rw [List.filter_cons_of_pos hp, List.map_cons, h3 hp]
      rfl
inductive All2 (P : α → β → Prop) : List α → List β → Prop
  | nil : All2 P [] []
  | cons {a b as bs} : P a b → All2 P as bs → All2 P (a :: as) (b :: bs)
theorem All2.len {P : α → β → Prop} {as : List α} {bs : List β} (h : All2 P as bs) : bs.length = as.length := by
  induction h with
  | nil => rfl
  | cons _ _ ih => rw [List.length_cons, List.length_cons, ih]
theorem tot_lcY {f : D → Rho → Option Rho} {e : ME W} {P : D → D → Prop} : ∀ {xs : List D}, (∀ d ∈ xs, ∃ ρ1, f d ρ = some ρ1 ∧ Tot (e ρ1) (P d)) → Tot (mLcL f mYes e ρ xs) (All2 P xs)
  | [], _ => .ret .nil
  | x :: xs, hs => by
    obtain ⟨ρ1, h1, h2⟩ := hs x List.mem_cons_self
    have ih := tot_lcY fun d hd => hs d (List.mem_cons_of_mem _ hd)
    unfold mLcL
    rw [h1, lift_some, bnd_ret, x_Yes, noX_ret, bnd_ret, if_pos rfl]
    refine h2.noX.bnd fun z p => ih.bnd fun zs ps => .ret (.cons p ps)
end
end B

/-! sets of texts, any number of them: how many there are -/
namespace BS
open PySem PySem.W PySem.Calls PyProof.Rows
def dstep {K : Type} [DecidableEq K] (acc : List K) (x : K) : List K := if x ∈ acc then acc else acc ++ [x]
def ddp {K : Type} [DecidableEq K] (xs : List K) : List K := xs.foldl dstep []
theorem ddp_take {K : Type} [DecidableEq K] {xs : List K} {i : Nat} {x : K} (h : xs[i]? = some x) : ddp (xs.take (i + 1)) = dstep (ddp (xs.take i)) x := by
  unfold ddp
  rw [List.take_add_one, h, List.foldl_append]
  rfl
theorem dstep_len {K : Type} [DecidableEq K] (acc : List K) (x : K) : (dstep acc x).length = if x ∈ acc then acc.length else acc.length + 1 := by
  unfold dstep
  split <;> simp
theorem mem_dstep {K : Type} [DecidableEq K] {acc : List K} {x k : K} : k ∈ dstep acc x ↔ k ∈ acc ∨ k = x := by
  unfold dstep
  split
  · rename_i h
    exact ⟨.inl, fun z => z.elim id fun e => e ▸ h⟩
  · rw [List.mem_append, List.mem_singleton]
theorem ddp_le {K : Type} [DecidableEq K] : ∀ (xs acc : List K), (xs.foldl dstep acc).length ≤ acc.length + xs.length
  | [], acc => Nat.le_refl _
  | x :: xs, acc => by
    have h := ddp_le xs (dstep acc x)
    have h2 := dstep_len acc x
    rw [List.foldl_cons, List.length_cons]
    split at h2 <;> omega
section
variable {prog : Program} {w : World} {A : Around} {R : Result → Shared → Prop} {It : Addr} {fp wr : List Addr} {G : Array GenState → Array GenState → Prop} {n : Nat} {Pv : Nat → Value → Prop} {Sv : Nat → Shared → Prop}
abbrev Holds (prog : Program) (w : World) (h : Heap) (D : Addr) (l : List Str) : Prop := h.SetOf (strKind prog w) D (fun k => decide (k ∈ l)) l.length
theorem Holds.moved {h h' : Heap} {D : Addr} {l : List Str} (x : Holds prog w h D l) (k : ∀ o, h.get? D = some o → h'.get? D = some o) : Holds prog w h' D l := by
  obtain ⟨o, es, ep, t, ho, r⟩ := x
  exact ⟨o, es, ep, t, k o ho, r⟩
/-- the loop of set(..) over a walk that gives texts -/
theorem setLoop (V : WalksS prog w A.in1 It fp wr G n Pv Sv) (D : Addr) (hD : D ∉ fp) (xs : List Str) (hx : xs.length = n) (hz : n + 1 < scanBound) (hv : ∀ i v, Pv i v → ∃ x t, xs[i]? = some x ∧ v = .str x t) :
    ∀ (k i : Nat) (u : Shared), n = i + k → Sv i u → Holds prog w u.heap D (ddp (xs.take i)) →
      (∀ u', Moved (D :: wr) G u u' → Holds prog w u'.heap D (ddp xs) → R (.ok (.ret .none)) u') → codeAny (model prog w) A (.builtin "set.update.loop" ⟨[.ref D, .ref It], []⟩) R u := by
  have dw : D ∉ wr := fun z => hD (V.sub _ z)
  have up : ∀ b ∈ wr, b ∈ D :: wr := fun b z => .tail _ z
  intro k
  induction k with
  | zero =>
    intro i u hk st hS fin
    obtain rfl : n = i := hk
    refine codeAny_builtin PyProof.Rows.F.entry_set_update_loop ?_
    rw [Around.under_plainId PyProof.Rows.F.plain_set_update_loop (Args.mk [.ref D, .ref It] [])]
    show wpAny (model prog w) A.in1 (pyNext (.ref It) >>= _) _ _ u
    refine wpAny_bind (V.done u _ _ st fun u1 mv => ?_)
    show wpAny (model prog w) A.in1 (ret Value.none) _ _ u1
    refine wpAny_pure (fin u1 (mv.mono up) ?_)
    have := hS.moved fun o => mv.heap D o dw
    rwa [← hx, List.take_length] at this
  | succ k ih =>
    intro i u hk st hS fin
    refine codeAny_builtin PyProof.Rows.F.entry_set_update_loop ?_
    rw [Around.under_plainId PyProof.Rows.F.plain_set_update_loop (Args.mk [.ref D, .ref It] [])]
    show wpAny (model prog w) A.in1 (pyNext (.ref It) >>= _) _ _ u
    refine wpAny_bind (V.item i u _ _ (by omega) st fun v u1 hp st1 mv => ?_)
    obtain ⟨x, t, hi, rfl⟩ := hv i v hp
    have h1 := hS.moved fun o => mv.heap D o dw
    have hle := ddp_le (xs.take i) []
    have htk : (xs.take i).length ≤ n := by rw [← hx]; exact List.length_take_le' _ _
    show wpAny (model prog w) A.in1 (holding [Value.str x t] (setAdd D (.str x t)) >>= _) _ _ u1
    refine wpAny_bind (wpAny_holding ?_)
    unfold setAdd
    refine wpAny_holding (wpAny_bind ((strKind prog w).pyHash (k := x) (strKind_is _ _ _ _) ?_))
    refine wpAny_setAddHashed_of (knd := strKind prog w) (s := { u1 with toks := u1.toks + 1 }) (strKind_is _ _ _ _) rfl h1 (by unfold ddp; rw [List.length_nil] at hle; omega) fun h2 sb s2 => ?_
    have h3 : Holds prog w h2 D (ddp (xs.take (i + 1))) := by
      rw [ddp_take hi]
      refine PyProof.Rows.SetOf_congr s2 (fun y => ?_) (by rw [dstep_len]; simp)
      rw [Bool.eq_iff_iff]
      simp [mem_dstep]
    refine wpAny_pure ⟨plainId_quiet PyProof.Rows.F.plain_set_update_loop _, ih (i + 1) _ (by omega) (V.frame _ u1 _ _ st1 (Nat.le_succ _) fun b hb o e => ?_) h3 fun u2 mv2 s3 => ?_⟩
    · rw [sb.2 b fun z => hD (z ▸ hb)]
      exact e
    · refine fin u2 (Moved.trans V.gtrans ((mv.mono up).then_heap (Nat.le_succ _) fun b o hb e => ?_) mv2) s3
      rw [sb.2 b fun z => hb (z ▸ .head _)]
      exact e
end
section
variable {prog : Program} {w : World} {A : Around} {E : Value → Shared → Prop} {s : Shared}
theorem strs_get : ∀ {us : List Value} {xs : List Str}, StrsAre us xs → ∀ (i : Nat) (v : Value), us[i]? = some v → ∃ x t, xs[i]? = some x ∧ v = .str x t
  | _, _, .nil, i, v, h => by simp at h
  | _, _, .cons y t r, 0, v, h => by
    rw [List.getElem?_cons_zero] at h
    cases h
    exact ⟨y, t, rfl, rfl⟩
  | _, _, .cons y t r, i + 1, v, h => by
    rw [List.getElem?_cons_succ] at h
    obtain ⟨x, u, h1, h2⟩ := strs_get r i v h
    exact ⟨x, u, by rw [List.getElem?_cons_succ]; exact h1, h2⟩
abbrev newSet (led : Bool) : Obj := { cls := .type "set", dict := none, data := .set #[] 0 (.fresh 0 0 led) }
set_option maxHeartbeats 6400000 in
theorem call_setS {l : Addr} {its : Array Value} {xs : List Str} {Q : Value → Shared → Prop} (hn : A.handled = none) (hl : s.heap.IsList l its) (hx : StrsAre its.toList xs) (hz : its.size + 1 < scanBound)
    (fin : ∀ (hB : Heap) (tk : Nat), Holds prog w hB s.heap.objs.size (ddp xs) → (∀ b o, s.heap.get? b = some o → hB.get? b = some o) → Q (.ref s.heap.objs.size) { s with heap := hB, toks := tk }) :
    wpAny (model prog w) A (call (.type "set") [.ref l]) Q E s := by
  have cs := PySem.F.called_set
  obtain ⟨c0, tail0, hmro⟩ := cs.mro
  have m1 := cs.made
  have m2 := cs.sub
  have m3 := cs.notType
  have m4 := cs.canCreate
  have m5 := PySem.F.typeCall_set_1 (.ref l)
  have m6 := cs.init.lookup
  refine wpAny_call (codeAny_of_tree ?_)
  show wpAny (model prog w) _ (callAny (.type "set") (Args.mk [.ref l] [])) _ _ s
  refine wpAny_pure ⟨Code.quiet_builtin _ (by decide +kernel), codeAny_builtin PySem.F.entry_type_call ?_⟩
  rw [Around.under_plain (weight_type_call_type "set" [.ref l] []) rfl]
  repeat (any_goals (first | assumption | wp_step))
  refine codeAny_mono (code_set_new_1 (.ref l) (E := E) (Q₁ := fun ob u => ∃ led : Bool, ob = .ref s.heap.objs.size ∧ u = { s with heap := s.heap.push (newSet led) }) fun led => ⟨led, rfl, rfl⟩) fun r u hr => ?_
  cases r with
  | error e => exact hr
  | ok fl =>
    cases fl with
    | next => exact hr.elim
    | brk => exact hr.elim
    | cont => exact hr.elim
    | ret ob =>
      obtain ⟨led, rfl, rfl⟩ := hr
      have gD : (s.heap.push (newSet led)).get? s.heap.objs.size = some (newSet led) := Heap.get?_push_size _ rfl
      have tD : Shared.TypeIs { s with heap := s.heap.push (newSet led) } (.ref s.heap.objs.size) "set" := ⟨_, gD, rfl⟩
      have m7 := cs.init.bind (.ref s.heap.objs.size)
      repeat (any_goals (first | assumption | wp_step))
      refine codeAny_mono (codeAny_call_builtin (R := wants (fun r2 u2 => r2 = .none ∧ ∃ hB tk, u2 = { s with heap := hB, toks := tk } ∧ Holds prog w hB s.heap.objs.size (ddp xs) ∧ ∀ b o, s.heap.get? b = some o → hB.get? b = some o) E) cs.init.plain PySem.F.entry_set_init (check_set_init_1 tD ?_)) fun r2 u2 hr2 => ?_
      · obtain ⟨⟨oc, od, dt, sl⟩, ho, hc, nn, hd⟩ := hl
        dsimp only at hc hd
        subst hc hd
        have ho2 : (s.heap.push (newSet led)).get? l = some { cls := .type "list", dict := od, data := .seq its nn, slots := sl } := Heap.get?_push_of_some _ ho
        have n1 := PySem.F.sub_list_set
        have n2 := PySem.F.sub_list_frozenset
        have n3 : (Value.type "list" == Value.type "dict") = false := by decide
        have il : (s.heap.push (newSet led)).IsList l its := ⟨_, ho2, rfl, nn, rfl⟩
        unfold Builtin.«set.__init__» noKeywords Builtin.Frozenset.updateFrom
        generalize hPy : pyIter = Py
        wp_walk
        subst hPy
        refine wpAny_pyIter_list il (wpAny_bind (wpAny_runValue ?_))
        have lD : l < s.heap.objs.size := Heap.lt_size ho
        have hn3 : A.in1.in1.in1.handled = none := by simp [hn]
        have e1 : (s.heap.push (newSet led)).objs.size = s.heap.objs.size + 1 := Heap.size_push _ _
        have ln : l ≠ (s.heap.push (newSet led)).objs.size := by rw [e1]; exact Nat.ne_of_lt (Nat.lt_succ_of_lt lD)
        have Dn : s.heap.objs.size ∉ [(s.heap.push (newSet led)).objs.size, l] := by
          rw [e1]
          simp only [List.mem_cons, List.not_mem_nil, or_false, not_or]
          exact ⟨Nat.ne_of_lt (Nat.lt_succ_self _), Nat.ne_of_gt lD⟩
        have lx : xs.length = its.size := by rw [← StrsAre.len_eq hx, Array.length_toList]
        refine setLoop ((Walks.list hn3 _ l ln its).toS) s.heap.objs.size Dn xs lx hz (fun i v hv => strs_get hx i v (by rw [Array.getElem?_toList]; exact hv)) its.size 0 _ (by omega) ⟨⟨_, Heap.get?_push_size _ rfl, rfl, rfl⟩, il.push _⟩ ?first ?last
        case first =>
          have gD2 : ((s.heap.push (newSet led)).push { cls := .type "list_iterator", data := .fields #[.ref l, .int 0 0] }).get? s.heap.objs.size = some (newSet led) := Heap.get?_push_of_some _ gD
          exact PyProof.Rows.SetOf_congr ((PyProof.Rows.setObjOf_fresh (knd := strKind prog w) led).setOf gD2 (by unfold scanBound; omega)) (fun _ => rfl) rfl
        case last =>
          intro u3 mv hS
          obtain ⟨hB, gB, dB, tB, oB⟩ := u3
          obtain rfl : gB = s.gens := mv.gens
          obtain rfl : dB = s.drawn := mv.drawn
          obtain rfl : oB = s.os := mv.os
          show wpAny (model prog w) _ _ _ _ _
          refine wpAny_pure ?_
          show wpAny (model prog w) _ (ret Value.none) _ _ _
          refine wpAny_pure ⟨rfl, hB, tB, rfl, hS, fun b o hb => ?_⟩
          have b1 := Heap.lt_size hb
          refine mv.heap b o ?_ (Heap.get?_push_of_some _ (Heap.get?_push_of_some _ hb))
          simp only [List.mem_cons, List.not_mem_nil, or_false, not_or]
          rw [e1]
          exact ⟨Nat.ne_of_lt b1, Nat.ne_of_lt (Nat.lt_succ_of_lt b1)⟩
      · cases r2 with
        | error e => exact hr2
        | ok fl2 =>
          cases fl2 with
          | next => exact hr2.elim
          | brk => exact hr2.elim
          | cont => exact hr2.elim
          | ret v2 =>
            obtain ⟨rfl, hB, tB, rfl, hS, kB⟩ := hr2
            repeat (any_goals (first | assumption | wp_step))
            exact fin _ _ hS kB
end
end BS

/-! words over texts: len(set(texts)), isinstance, join .. -/
namespace B
open PySem L2
section
variable {K : PySem.W.Frag} {W : Type} {R : Rs W} {C : Cl} {κ : List Kd} {S H : Hp}
/-! ### len(set(xs)) -/
def tLenS (K : PySem.W.Frag) (te : TE) : TE := fun σ H Q => te σ H fun x H1 => ∃ (l : Addr) (xs : List Str), x = .ref l ∧ SqL K H1 l (xs.map V.str) ∧ xs.length ≤ 4000 ∧ Q (.int (BS.ddp xs).length) H1
theorem strsAre_ofV : ∀ {ys : List Str} {us : List Value}, Vals (ys.map V.str) us → PyProof.Rows.StrsAre us ys
  | [], _, .nil => .nil
  | y :: ys, _, .cons r t => by
    obtain ⟨k, rfl⟩ := r
    exact .cons y k (strsAre_ofV t)
theorem pe_lenS {X : Cx} {e : PySem.Expr} {te : TE} {p p2 q pos : Pos} (hc : X.calm = true) (hg : Gl X "len") (hm : X.mg "len" = none) (hg2 : Gl X "set") (hm2 : X.mg "set" = none) (he : PE X e te)
    (ns : starEach [e] X.env = (false, eval e X.env) :: starEach [] X.env := by rfl) : PE X (.Call (.Name "len" p) [.Call (.Name "set" p2) [e] [] q] [] pos) (tLenS X.K te) := by
  refine ⟨fun pins s σ H Q I h => ?_⟩
  refine wpAny_Call_Name_kw (ld_blt I hg hm PySem.boot_len (PyProof.Rows.callWith_builtin1 (PyProof.Rows.args_cons ?_ rfl) rfl rfl))
  refine wpAny_Call_Name_kw (ld_blt I hg2 hm2 PyProof.Rows.boot_set (PyProof.Rows.callWith_type1 (PyProof.Rows.args_cons (thn (he.run pins s σ H _ I h) fun v s1 hv => PyProof.Rows.args_nil ?_) ns) ns rfl))
  obtain ⟨x, H1, I1, r1, l, xs, rfl, hq, hz, q1⟩ := hv
  obtain rfl : v = Value.ref l := r1
  obtain ⟨its, r, pl, _⟩ := I1.list hq
  have le : its.toArray.size = xs.length := by rw [List.size_toArray, ← r.length, List.length_map]
  refine BS.call_setS (I1.ok.hd hc) pl.isList (xs := xs) (by simpa using strsAre_ofV r) (by rw [le]; unfold scanBound; omega) fun h' tk hS hk => PyProof.Rows.args_nil ?_
  obtain ⟨o, es, ep, t, ho, hex, hd, _, _, _, hf, hn⟩ := hS
  have I2 : Inv X pins σ H1 { s1 with heap := h', toks := tk } := I1.kept hk
  have dl := BS.ddp_le xs []
  have sl : sizeLine = 16777216 := sizeLine_eq
  exact call_len_set ho hex hd hf (by rw [hn]; unfold BS.ddp; rw [List.length_nil] at dl; omega) ⟨.int (BS.ddp xs).length, H1, I2.tok _, ⟨_, by rw [hn]⟩, q1⟩
def lsD : D → M W D
  | .list ds => bnd (lift (strsD ds)) fun xs => if xs.length ≤ 4000 then ret (.int (BS.ddp xs).length) else stk
  | _ => stk
def mLenS (m : ME W) : ME W := fun ρ => bnd (m ρ) lsD
theorem dvs_strs' {S : Hp} : ∀ {vs : List V} {xs : List Str}, DVs K S vs (xs.map .str) → vs = xs.map V.str
  | [], [], _ => rfl
  | _ :: _, n :: ns, .cons h1 h2 => by cases h1; rw [dvs_strs' h2]; rfl
  | [], _ :: _, h => by cases h
  | _ :: _, [], h => by cases h
theorem okLenS {te : TE} {k : Kd} {m : ME W} (h : OkE K R C κ te k m) (hk : k ≠ .res := by decide) : OkE K R C κ (tLenS K te) .dat (mLenS m) := by
  intro S0 H0 w0 S H σ ρ w Q rl q
  refine h S0 H0 w0 S H σ ρ w _ rl ?_
  unfold mLenS at q
  cases e : m ρ w with
  | stuck => rw [bnd_stuck e] at q; exact q.elim
  | exc c fs w1 => rw [bnd_exc e] at q; exact q
  | ok d w1 =>
    rw [bnd_ok e] at q
    intro v S1 H1 r1 s1 o1
    cases d with
    | list ds =>
      unfold lsD at q
      cases e2 : strsD ds with
      | none => simp only [e2, lift_none, bnd_stk] at q; exact q.elim
      | some xs =>
        simp only [e2, lift_some, bnd_ret] at q
        split at q
        · rename_i hl
          obtain ⟨p, us, rfl, h1, h2⟩ := seen_list r1.out.sub (o1.seen r1 hk)
          rw [strsD_map e2] at h2
          rw [dvs_strs' h2] at h1
          exact ⟨p, xs, rfl, SqL.of h1, hl, q _ S1 H1 r1 s1 (.int _)⟩
        · exact q.elim
    | _ => exact q.elim
theorem kLenS {X : Cx} {e : PySem.Expr} {te : TE} {p p2 q pos : Pos} (hK : X.K = K) (hc : X.calm = true) (hg : Gl X "len") (hm : X.mg "len" = none) (hg2 : Gl X "set") (hm2 : X.mg "set" = none) (he : PE X e te)
    (ns : starEach [e] X.env = (false, eval e X.env) :: starEach [] X.env := by rfl) : PE X (.Call (.Name "len" p) [.Call (.Name "set" p2) [e] [] q] [] pos) (tLenS K te) := by subst hK; exact pe_lenS hc hg hm hg2 hm2 he ns
/-! ### isinstance(x, T), T a built-in type -/
def tnD : D → String
  | .none => "NoneType"
  | .bool _ => "bool"
  | .int _ => "int"
  | .str _ => "str"
  | .list _ => "list"
  | .tuple _ => "tuple"
  | .dict _ => "dict"
def isiB (T : String) : D → Option Bool
  | .dict _ => none
  | d => if T = "int" ∨ T = "bool" ∨ T = "str" ∨ T = "tuple" ∨ T = "list" then some (tnD d == T || (tnD d == "bool" && T == "int")) else none
theorem kit_ok (K : PySem.W.Frag) {T : String} {d : D} {b : Bool} (h : isiB T d = some b) : PySem.W.kitOne K (.type (tnD d)) (.type T) = some b := by
  have key : ∀ t : String, (t = "NoneType" ∨ t = "bool" ∨ t = "int" ∨ t = "str" ∨ t = "list" ∨ t = "tuple") → (T = "int" ∨ T = "bool" ∨ T = "str" ∨ T = "tuple" ∨ T = "list") → PySem.W.kitOne K (.type t) (.type T) = some (t == T || (t == "bool" && T == "int")) := by
    rintro t (rfl | rfl | rfl | rfl | rfl | rfl) (rfl | rfl | rfl | rfl | rfl) <;> first | rfl | kernel_rfl
  have g : ∀ d : D, isiB T d = some b → (∀ x, d ≠ .dict x) → PySem.W.kitOne K (.type (tnD d)) (.type T) = some b := by
    intro d h hd
    have h' : (if T = "int" ∨ T = "bool" ∨ T = "str" ∨ T = "tuple" ∨ T = "list" then some (tnD d == T || (tnD d == "bool" && T == "int")) else none) = some b := by
      cases d with
      | dict x => exact absurd rfl (hd x)
      | _ => exact h
    split at h'
    · rename_i hT
      rw [key (tnD d) (by cases d <;> first | exact absurd rfl (hd _) | simp [tnD]) hT]
      exact h'
    · cases h'
  refine g d h fun x e => ?_
  subst e
  cases h
theorem sqT_ty {a : Addr} {xs : List V} (h : SqT K H a xs) : TyX K H (.ref a) (.type "tuple") := by
  rcases h with (h | ⟨o, h⟩) | ⟨o, its, n, h1, h2, _⟩
  · exact .base (.tup h)
  · exact .fTuple h
  · exact .kTuple h1 h2
theorem seen_ty {v : V} {d : D} (sub : ∀ a o, S a = some o → H a = some o) (h : Seen K S H v d) (hd : ∀ x, d ≠ .dict x) : TyX K H v (.type (tnD d)) := by
  cases d with
  | none => rw [seen_none h]; exact .base .non
  | bool b => rw [seen_bl h]; exact .base (.bl b)
  | int i => rw [seen_int h]; exact .base (.int i)
  | str x => rw [seen_str h]; exact .base (.str x)
  | list ds =>
    obtain ⟨p, us, rfl, h1, _⟩ := seen_list sub h
    exact .base (.lst h1)
  | tuple ds =>
    obtain ⟨p, us, rfl, h1, _⟩ := seen_tup sub h
    exact sqT_ty h1
  | dict x => exact absurd rfl (hd x)
def mIsi (T : String) (m : ME W) : ME W := fun ρ => bnd (m ρ) fun d => lift ((isiB T d).map .bool)
theorem okIsi {T : String} {te : TE} {k : Kd} {m : ME W} (h : OkE K R C κ te k m) (hk : k ≠ .res := by decide) : OkE K R C κ (tCB (rIsi K) (tCons te (tCons (tC (.ty T)) tNil))) .dat (mIsi T m) := by
  intro S0 H0 w0 S H σ ρ w Q rl q
  show te σ H fun x H1 => _
  refine h S0 H0 w0 S H σ ρ w _ rl ?_
  unfold mIsi at q
  cases e : m ρ w with
  | stuck => rw [bnd_stuck e] at q; exact q.elim
  | exc c fs w1 => rw [bnd_exc e] at q; exact q
  | ok d w1 =>
    rw [bnd_ok e] at q
    intro v S1 H1 r1 s1 o1
    cases eb : isiB T d with
    | none => rw [eb] at q; exact q.elim
    | some b =>
      rw [eb] at q
      have hd : ∀ x, d ≠ .dict x := fun x z => by rw [z] at eb; cases eb
      exact ⟨v, .ty T, _, _, b, rfl, .ty T, seen_ty r1.out.sub (o1.seen r1 hk) hd, kit_ok K eb, q _ S1 H1 r1 s1 (.bl _)⟩
theorem kIsi {X : Cx} (hK : X.K = K) : CallR X (.builtin "isinstance") (rIsi K) := by subst hK; exact call_isi
/-! ### a text, so many times -/
def repS (x : Str) (n : Int) : Str := if n < 1 then Str.empty else if (n == 1 || x.length == 0) = true then x else ⟨(List.replicate n.toNat x.cps).foldl (· ++ ·) #[]⟩
def rRepS : R2 := fun x y H Q => ∃ (a : Str) (n : Int), x = .str a ∧ y = .int n ∧ -1000 ≤ n ∧ n ≤ 1000 ∧ a.length ≤ 1000 ∧ Q (.str (repS a n)) H
theorem foldl_size : ∀ (k : Nat) (a acc : Array Nat), ((List.replicate k a).foldl (· ++ ·) acc).size = acc.size + k * a.size
  | 0, a, acc => by simp
  | k + 1, a, acc => by
    rw [List.replicate_succ, List.foldl_cons, foldl_size k a (acc ++ a), Array.size_append, Nat.succ_mul]
    omega
theorem op_repS {X : Cx} : OpR X (binaryOp .Mult) rRepS := by
  intro pins s σ H x y v u Q I rx ry h
  obtain ⟨a, n, rfl, rfl, h1, h2, h3, q⟩ := h
  obtain ⟨t, rfl⟩ := rx
  obtain ⟨t2, rfl⟩ := ry
  have sl : sizeLine = 16777216 := sizeLine_eq
  have hm : a.length * n.toNat ≤ 1000 * 1000 := Nat.mul_le_mul h3 (by omega)
  refine PySem.P.mul_str (by
      have g1 : ¬ n < -(2 ^ 63 : Int) := by omega
      have g2 : ¬ n ≥ 2 ^ 63 := by omega
      rw [decide_eq_false g1, decide_eq_false g2]; rfl) (fun g1 _ g2 => ?_) (fun _ _ => ?_) ?_
  · have g3 : (1000 : Int) ≤ (2 ^ 63 - 1) / n := Int.le_ediv_of_mul_le (by omega) (by omega)
    omega
  · unfold PySem.Builtin.Str.tooLong
    rw [decide_eq_false]
    rw [sl]
    omega
  · unfold repS at q
    by_cases g1 : n < 1
    · rw [if_pos g1] at q ⊢
      exact ⟨by decide, .str Str.empty, H, I.tok _, ⟨_, rfl⟩, q⟩
    · rw [if_neg g1] at q ⊢
      by_cases g2 : (n == 1 || a.length == 0) = true
      · rw [if_pos g2] at q ⊢
        exact ⟨.str a, H, I, ⟨t, rfl⟩, q⟩
      · rw [if_neg g2] at q ⊢
        refine ⟨?_, .str ⟨(List.replicate n.toNat a.cps).foldl (· ++ ·) #[]⟩, H, I.tok _, ⟨_, rfl⟩, q⟩
        show ((List.replicate n.toNat a.cps).foldl (· ++ ·) #[]).size ≤ sizeLine
        rw [foldl_size, sl]
        have e : n.toNat * a.cps.size = a.length * n.toNat := Nat.mul_comm _ _
        show 0 + n.toNat * a.cps.size ≤ _
        omega
def gRepS : Op2 | .str x, .int n => if -1000 ≤ n ∧ n ≤ 1000 ∧ x.length ≤ 1000 then some (.str (repS x n)) else none | _, _ => none
theorem oRepS : OpP K rRepS gRepS := by
  intro S H v u d e z Q sub hv hu hf q
  unfold gRepS at hf
  split at hf
  · split at hf
    · rename_i hg
      cases hf
      exact ⟨_, _, seen_str hv, seen_int hu, hg.1, hg.2.1, hg.2.2, q _ (.str _)⟩
    · cases hf
  · cases hf
/-! ### sep.join(a list of texts) -/
def rJoinS (K : PySem.W.Frag) : V → List V → Hp → VK → Prop := fun x xs H Q => ∃ a p, ∃ ys : List Str, x = .str a ∧ xs = [.ref p] ∧ (SqL K H p (ys.map V.str) ∨ SqT K H p (ys.map V.str)) ∧ (ys.map (·.length)).sum + ys.length * a.length ≤ 16777216 ∧ Q (.str (Txt.join a ys)) H
theorem kJoin {X : Cx} {o e : PySem.Expr} {to te : TE} {apos pos : Pos} (hK : X.K = K) (ho : PE X o to) (he : PE X e te) (hs : starEach [e] X.env = [(false, eval e X.env)] := by rfl) (hbase : attributeBase o "join" X.env (eval o X.env) = eval o X.env := by rfl) (hline : (apos.endLine == pos.line) = true := by rfl) :
    PE X (.Call (.Attribute o "join" apos) [e] [] pos) (tM1 (rJoinS K) to te) := by subst hK; exact pe_join ho he hs hbase hline
def jnD (a : Str) : D → M W D
  | .list ds => bnd (lift (strsD ds)) fun ys => if (ys.map (·.length)).sum + ys.length * a.length ≤ 1000000 then ret (.str (Txt.join a ys)) else stk
  | _ => stk
def mJoin (a : Str) (m : ME W) : ME W := fun ρ => bnd (m ρ) (jnD a)
theorem okJoin {a : Str} {te : TE} {k : Kd} {m : ME W} (h : OkE K R C κ te k m) (hk : k ≠ .res := by decide) : OkE K R C κ (tM1 (rJoinS K) (tC (.str a)) te) .dat (mJoin a m) := by
  intro S0 H0 w0 S H σ ρ w Q rl q
  refine ⟨⟨a, rfl⟩, h S0 H0 w0 S H σ ρ w _ rl ?_⟩
  unfold mJoin at q
  cases e : m ρ w with
  | stuck => rw [bnd_stuck e] at q; exact q.elim
  | exc c fs w1 => rw [bnd_exc e] at q; exact q
  | ok d w1 =>
    rw [bnd_ok e] at q
    intro v S1 H1 r1 s1 o1
    cases d with
    | list ds =>
      unfold jnD at q
      cases e2 : strsD ds with
      | none => simp only [e2, lift_none, bnd_stk] at q; exact q.elim
      | some ys =>
        simp only [e2, lift_some, bnd_ret] at q
        split at q
        · rename_i hl
          obtain ⟨p, us, rfl, h1, h2⟩ := seen_list r1.out.sub (o1.seen r1 hk)
          rw [strsD_map e2] at h2
          rw [dvs_strs' h2] at h1
          exact ⟨a, p, ys, rfl, rfl, .inl (SqL.of h1), Nat.le_trans hl (by decide), q _ S1 H1 r1 s1 (.str _)⟩
        · exact q.elim
    | _ => exact q.elim
/-! ### zip -/
def zipD : List D → M W (List D)
  | [.tuple xs, .tuple ys] => ret (List.zipWith (fun a b => .tuple [a, b]) xs ys)
  | [.list xs, .list ys] => ret (List.zipWith (fun a b => .tuple [a, b]) xs ys)
  | _ => stk
def srcZip (m : Rho → M W (List D)) : Rho → M W (List D) := fun ρ => bnd (m ρ) zipD
theorem zip_get {xs ys : List D} {i : Nat} {d : D} (h : (List.zipWith (fun a b => PyData.tuple [a, b]) xs ys)[i]? = some d) : ∃ a b, xs[i]? = some a ∧ ys[i]? = some b ∧ d = .tuple [a, b] := by
  rw [List.getElem?_zipWith] at h
  cases e1 : xs[i]? with
  | none => rw [e1] at h; cases h
  | some a =>
    cases e2 : ys[i]? with
    | none => rw [e1, e2] at h; cases h
    | some b => rw [e1, e2] at h; cases h; exact ⟨a, b, rfl, rfl, rfl⟩
theorem okZip {ta : TA} {m : Rho → M W (List D)} (h : OkA K R C κ ta [.dat, .dat] m) : OkI K R C κ (RZ.iZipA K ta) (srcZip m) := by
  intro S0 H0 w0 S H σ ρ w Rf rl q
  refine h S0 H0 w0 S H σ ρ w _ rl ?_
  unfold srcZip at q
  cases e : m ρ w with
  | stuck => simp only [bnd_stuck e] at q; exact q.elim
  | exc c fs w1 => simp only [bnd_exc e] at q; exact q
  | ok ds w1 =>
    simp only [bnd_ok e] at q
    intro vs S1 H1 r1 s1 o1
    unfold zipD at q
    split at q
    · cases o1 with
      | cons g1 g2 =>
        cases g2 with
        | cons g2 g3 =>
          cases g3
          cases g1 with
          | tup a1 a2 =>
            cases g2 with
            | tup b1 b2 =>
              refine ⟨_, _, _, _, rfl, .inr ⟨sqT_sub r1.out.sub a1, sqT_sub r1.out.sub b1, q _ S1 H1 r1 s1 fun i S2 H2 w2 o2 s2 => ?_⟩⟩
              have hA := sqT_sub (fun a o z => o2.sub a o (s2 a o z)) a1
              have hB := sqT_sub (fun a o z => o2.sub a o (s2 a o z)) b1
              refine ⟨fun hi => ⟨_, _, hA, hB, ?_⟩, fun d hd => ?_⟩
              · rw [List.length_zipWith] at hi
                rw [dvs_len a2, dvs_len b2]
                omega
              · obtain ⟨da, db, e1, e2, rfl⟩ := zip_get hd
                obtain ⟨va, f1, f2⟩ := dvs_get a2 e1
                obtain ⟨vb, f3, f4⟩ := dvs_get b2 e2
                refine ⟨⟨_, _, _, _, hA, hB, f1, f3⟩, fun x H' hy => ?_⟩
                obtain ⟨T, x1, x2, rfl, hT, rfl, y1, y2⟩ := hy
                have z1 := y1 _ hA
                have z2 := y2 _ hB
                rw [f1] at z1
                rw [f3] at z2
                cases z1; cases z2
                exact .inr ⟨T, _, _, hT, rfl, rfl, rfl, .cons (dp_mono s2 _ _ f2) (.cons (dp_mono s2 _ _ f4) .nil)⟩
    · cases o1 with
      | cons g1 g2 =>
        cases g2 with
        | cons g2 g3 =>
          cases g3
          cases g1 with
          | lst a1 a2 =>
            cases g2 with
            | lst b1 b2 =>
              refine ⟨_, _, _, _, rfl, .inl ⟨SqL.of (r1.out.sub _ _ a1), SqL.of (r1.out.sub _ _ b1), q _ S1 H1 r1 s1 fun i S2 H2 w2 o2 s2 => ?_⟩⟩
              have hA : SqL K H2 _ _ := SqL.of (o2.sub _ _ (s2 _ _ a1))
              have hB : SqL K H2 _ _ := SqL.of (o2.sub _ _ (s2 _ _ b1))
              refine ⟨fun hi => ⟨_, _, hA, hB, ?_⟩, fun d hd => ?_⟩
              · rw [List.length_zipWith] at hi
                rw [dvs_len a2, dvs_len b2]
                omega
              · obtain ⟨da, db, e1, e2, rfl⟩ := zip_get hd
                obtain ⟨va, f1, f2⟩ := dvs_get a2 e1
                obtain ⟨vb, f3, f4⟩ := dvs_get b2 e2
                refine ⟨⟨_, _, _, _, hA, hB, f1, f3⟩, fun x H' hy => ?_⟩
                obtain ⟨T, x1, x2, rfl, hT, rfl, y1, y2⟩ := hy
                have z1 := y1 _ hA
                have z2 := y2 _ hB
                rw [f1] at z1
                rw [f3] at z2
                cases z1; cases z2
                exact .inr ⟨T, _, _, hT, rfl, rfl, rfl, .cons (dp_mono s2 _ _ f2) (.cons (dp_mono s2 _ _ f4) .nil)⟩
    · exact q.elim
theorem kZip {X : Cx} {e e2 : PySem.Expr} {ta : TA} {p pos tpos : Pos} {elts : List PySem.Expr} {kk : Nat} (hK : X.K = K) (hg : Gl X "zip") (hm : X.mg "zip" = none) (ha : PA X [e, e2] ta)
    (hs : starEach [e, e2] X.env = (false, eval e X.env) :: starEach [e2] X.env := by rfl) (hpl : (backTo pos (starEach [e2] X.env)).any (·.1) = false := by rfl) :
    PI X (.Tuple elts kk tpos) (.Call (.Name "zip" p) [e, e2] [] pos) (RZ.iZipA K ta) := by subst hK; exact RZ.pi_zipA hg hm ha hs hpl
end
end B

/-! dicts: keys ints or texts -/
namespace B
open PySem L2
section
variable {K : PySem.W.Frag} {W : Type} {R : Rs W} {C : Cl} {κ κ1 : List Kd} {S H : Hp}
def keyO : D → Option Key
  | .int i => some (.inl i)
  | .str x => some (.inr x)
  | _ => none
theorem keyO_dv {S : Hp} {v : V} {d : D} {k : Key} (h : DV K S v d) (e : keyO d = some k) : v = kV k ∧ d = keyD k := by
  cases d with
  | int i => cases e; cases h; exact ⟨rfl, rfl⟩
  | str x => cases e; cases h; exact ⟨rfl, rfl⟩
  | _ => cases e
@[simp] theorem keyO_D (k : Key) : keyO (keyD k) = some k := by cases k <;> rfl
/-- has it the key -/
def hasD (ps : List (D × D)) (k : Key) : Bool := ps.any fun p => decide (keyO p.1 = some k)
/-- x under k: in its place, or at the end -/
def putD (ps : List (D × D)) (k : Key) (x : D) : List (D × D) := if hasD ps k = true then ps.map (fun p => if keyO p.1 = some k then (p.1, x) else p) else ps ++ [(keyD k, x)]
def getD' (ps : List (D × D)) (k : Key) : Option D := (ps.find? fun p => decide (keyO p.1 = some k)).map (·.2)
theorem dvd_len {S : Hp} : ∀ {kvs : List (Key × V)} {ps : List (D × D)}, DVd K S kvs ps → kvs.length = ps.length
  | _, _, .nil => rfl
  | _, _, .cons _ h => by rw [List.length_cons, List.length_cons, dvd_len h]
theorem dec_key (k1 k : Key) : decide (keyO (keyD k1) = some k) = decide (k1 = k) := by
  rw [keyO_D]
  by_cases h : k1 = k
  · rw [decide_eq_true h, decide_eq_true (congrArg some h)]
  · rw [decide_eq_false h, decide_eq_false fun z => h (Option.some.inj z)]
theorem dvd_has {S : Hp} {k : Key} : ∀ {kvs : List (Key × V)} {ps : List (D × D)}, DVd K S kvs ps → (kvs.any fun kv => decide (kv.1 = k)) = hasD ps k
  | _, _, .nil => rfl
  | _, _, .cons (k := k1) h1 h2 => by
    unfold hasD
    rw [List.any_cons, List.any_cons, dvd_has h2, dec_key]
    rfl
theorem dvd_map {S : Hp} {k : Key} {v : V} {d : D} (hv : DV K S v d) : ∀ {kvs : List (Key × V)} {ps : List (D × D)}, DVd K S kvs ps → DVd K S (kvs.map fun kv => if kv.1 = k then (kv.1, v) else kv) (ps.map fun p => if keyO p.1 = some k then (p.1, d) else p)
  | _, _, .nil => .nil
  | _, _, .cons (k := k1) (v := v1) (d := d1) h1 h2 => by
    rw [List.map_cons, List.map_cons]
    by_cases h : k1 = k
    · rw [if_pos h, if_pos (by rw [keyO_D, h])]
      exact .cons hv (dvd_map hv h2)
    · rw [if_neg h, if_neg (by rw [keyO_D]; exact fun z => h (Option.some.inj z))]
      exact .cons h1 (dvd_map hv h2)
theorem dvd_app {S : Hp} {k : Key} {v : V} {d : D} (hv : DV K S v d) : ∀ {kvs : List (Key × V)} {ps : List (D × D)}, DVd K S kvs ps → DVd K S (kvs ++ [(k, v)]) (ps ++ [(keyD k, d)])
  | _, _, .nil => .cons hv .nil
  | _, _, .cons h1 h2 => .cons h1 (dvd_app hv h2)
theorem dvd_put {S : Hp} {k : Key} {v : V} {d : D} {kvs : List (Key × V)} {ps : List (D × D)} (hv : DV K S v d) (h : DVd K S kvs ps) : DVd K S (putK kvs k v) (putD ps k d) := by
  unfold putK putD
  rw [dvd_has h]
  split
  · exact dvd_map hv h
  · exact dvd_app hv h
theorem dvd_get {S : Hp} {k : Key} : ∀ {kvs : List (Key × V)} {ps : List (D × D)}, DVd K S kvs ps → (∀ d, getD' ps k = some d → ∃ v, valV kvs k = some v ∧ DV K S v d) ∧ (getD' ps k = none → valV kvs k = none)
  | _, _, .nil => ⟨fun _ h => (nomatch h), fun _ => rfl⟩
  | _, _, .cons (k := k1) (v := v1) (kvs := kvs) (d := d1) (ps := ps) h1 h2 => by
    obtain ⟨g1, g2⟩ := dvd_get h2
    by_cases h : k1 = k
    · have e1 : getD' ((keyD k1, d1) :: ps) k = some d1 := by
        unfold getD'
        rw [List.find?_cons_of_pos (by rw [dec_key]; exact decide_eq_true h)]
        rfl
      rw [e1, valV_pos h]
      exact ⟨fun d e => by cases e; exact ⟨v1, rfl, h1⟩, fun e => by cases e⟩
    · have e1 : getD' ((keyD k1, d1) :: ps) k = getD' ps k := by
        unfold getD'
        rw [List.find?_cons_of_neg (by rw [dec_key, decide_eq_false h]; exact Bool.false_ne_true)]
      rw [e1, valV_neg h]
      exact ⟨g1, g2⟩
theorem putD_len (ps : List (D × D)) (k : Key) (x : D) : (putD ps k x).length ≤ ps.length + 1 := by
  unfold putD
  split <;> simp
/-! ### {k: v for ..} -/
def putO (ps : List (D × D)) (k x : D) : Option (List (D × D)) := (keyO k).map fun k => putD ps k x
def mDcL (f : D → Rho → Option Rho) (tt : Rho → M W Bool) (mk me : ME W) (ρ : Rho) : List D → List (D × D) → M W (List (D × D))
  | [], acc => ret acc
  | d :: ds, acc => bnd (lift (f d ρ)) fun ρ1 => bnd (noX (tt ρ1)) fun b => if b then bnd (noX (mk ρ1)) fun k => bnd (noX (me ρ1)) fun x => bnd (lift (putO acc k x)) fun acc2 => mDcL f tt mk me ρ ds acc2 else mDcL f tt mk me ρ ds acc
def mDc (src : Rho → M W (List D)) (vs : List Nat) (f : D → Rho → Option Rho) (tt : Rho → M W Bool) (mk me : ME W) : ME W := fun ρ => bnd (src ρ) fun ds => if ds.length ≤ 1000000 then bnd (mDcL f tt mk me (wipeR ρ vs) ds []) fun ps => ret (.dict ps) else stk
theorem noX_at {α : Type} {m : M W α} {w : W} : (∃ a w', m w = .ok a w' ∧ noX m w = .ok a w') ∨ noX m w = .stuck := by
  unfold noX
  cases e : m w with
  | ok a w' => exact .inl ⟨a, w', rfl, rfl⟩
  | _ => exact .inr rfl
theorem okDc {wi : TI} {g : TG} {tt : TT} {tk te : TE} {src : Rho → M W (List D)} {f : D → Rho → Option Rho} {mt : Rho → M W Bool} {mk me : ME W} {as vs : List Nat} (hi : OkIc K R C κ wi src) (hg : OkG (K := K) (R := R) (blkK κ) g f κ1 as)
    (ht : OkT K R C.no κ1 tt mt) (hk : OkE K R C.no κ1 tk .dat mk) (he : OkE K R C.no κ1 te .dat me) (hv : ∀ i ∈ as, i ∈ vs := by decide) : OkE K R C κ (tDc wi g tt tk te vs) .own (mDc src vs f mt mk me) := by
  intro S0 H0 w0 S H σ ρ w Q rl q
  refine hi S0 H0 w0 S H σ ρ w _ rl ?_
  unfold mDc at q
  cases e : src ρ w with
  | stuck => rw [bnd_stuck e] at q; exact q.elim
  | exc c fs w1 => rw [bnd_exc e] at q; exact q
  | ok ds w1 =>
    rw [bnd_ok e] at q
    intro J S1 H1 r1 s1 y L hL
    by_cases hz : ds.length ≤ 1000000
    · rw [if_pos hz] at q
      have hSL : S1 L = none := r1.out.s_none hL
      have hfL : ¬ R.fp w1 L := r1.out.nofp hL
      have h0L : H0 L = none := r1.out.h0_none hL
      -- a turn's state: i items are done
      let T : Nat → Hp → Prop := fun i H => ∃ S w kvs acc, Rel K R κ S0 H0 w0 S H σ ρ w ∧ (∀ a o, S1 a = some o → S a = some o) ∧ H L = some (.dK kvs) ∧ S L = none ∧ ¬ R.fp w L ∧ DVd K S kvs acc ∧ acc.length ≤ i ∧
        PostE K R C κ S0 H0 w0 S σ ρ .own Q (bnd (mDcL f mt mk me (wipeR ρ vs) (ds.drop i) acc) (fun ps => ret (.dict ps)) w)
      refine ⟨fun i m H => T i H ∧ m = ds.length - i ∧ i ≤ ds.length, ⟨ds.length, ⟨S1, w1, [], [], r1.allocOwn hL, fun _ _ h => h, upd_same, hSL, hfL, .nil, Nat.zero_le _, postE_mono s1 q⟩, by omega, Nat.zero_le _⟩, ?_⟩
      rintro i m H2 ⟨⟨S2, w2, kvs, acc, r2, s2, hD, hS2, hf2, hacc, hal, q2⟩, rfl, hi⟩
      obtain ⟨yStop, yGo⟩ := y i S2 H2 w2 r2 s2
      by_cases hlt : i < ds.length
      · rw [List.drop_eq_getElem_cons hlt] at q2
        obtain ⟨hgo, hy⟩ := yGo ds[i] (List.getElem?_eq_getElem hlt)
        refine .inr ⟨hgo, T (i + 1), fun H' t => ⟨ds.length - (i + 1), by omega, t, rfl, hlt⟩, fun x H' hyl => ?_⟩
        have key : ∀ S3 H3, Rel K R κ S0 H0 w0 S3 H3 σ ρ w2 → (∀ a o, S2 a = some o → S3 a = some o) → H3 L = some (.dK kvs) → S3 L = none → DV K S3 x ds[i] →
            g x (wipe σ vs) H3 fun σ2 H2 => wipe σ2 vs = wipe σ vs ∧ tt σ2 H2 fun b H3 => if b = true then tk σ2 H3 fun y H4 => te σ2 H4 fun z H5 => ∃ kvs k, y = kV k ∧ H5 L = some (.dK kvs) ∧ kvs.length < sizeLine ∧ T (i + 1) (upd H5 L (.dK (putK kvs k z))) else T (i + 1) H3 := by
          intro S3 H3 r3 s3 hD3 hS3 hv3
          have q3 := postE_mono s3 q2
          -- L stays the comprehension's own
          have stay : ∀ {S5 H5 w5}, Out R S3 H3 w2 S5 H5 w5 → H5 L = some (.dK kvs) ∧ S5 L = none ∧ ¬ R.fp w5 L := fun {S5 H5 w5} o => by
            refine ⟨o.keep L _ hD3 hf2, ?_, fun hf => ?_⟩
            · cases z : S5 L with
              | none => rfl
              | some u =>
                have := o.new L (by rw [z]; exact Option.some_ne_none _) hS3
                rw [this] at hD3; cases hD3
            · have := o.resN L hf hf2
              rw [this] at hD3; cases hD3
          unfold mDcL at q3
          rw [bnd_bnd] at q3
          cases eg : f ds[i] (wipeR ρ vs) with
          | none => rw [eg, lift_none, bnd_stk] at q3; exact q3.elim
          | some ρ1 =>
            rw [eg, lift_some, bnd_ret, bnd_bnd] at q3
            refine hg S3 H3 w2 S3 H3 _ _ w2 x ds[i] ρ1 _ (r3.block vs) hv3 eg fun σ4 b4 r4 => ⟨but_wipe b4 hv, ?_⟩
            refine ht S3 H3 w2 S3 H3 σ4 ρ1 w2 _ r4 ?_
            cases et : mt ρ1 w2 with
            | stuck => rw [bnd_stuck (x := noX (mt ρ1)) (by unfold noX; rw [et])] at q3; exact q3.elim
            | exc c fs w5 => rw [bnd_stuck (x := noX (mt ρ1)) (by unfold noX; rw [et])] at q3; exact q3.elim
            | ok b w5 =>
              rw [bnd_ok (x := noX (mt ρ1)) (noX_ok et)] at q3
              intro S5 H5 r5 s5
              have k5 := stay r5.out
              cases b with
              | false =>
                show (if false = true then _ else _)
                rw [if_neg (by decide)]
                exact ⟨S5, w5, kvs, acc, r3.after r5.out, fun a o z => s5 a o (s3 a o (s2 a o z)), k5.1, k5.2.1, k5.2.2, dpD_mono (fun a o z => s5 a o (s3 a o z)) _ _ hacc, by omega, postE_mono s5 q3⟩
              | true =>
                show (if true = true then _ else _)
                rw [if_pos rfl]
                have q5 := postE_mono s5 q3
                simp only [if_true] at q5
                rw [bnd_bnd] at q5
                refine hk S3 H3 w2 S5 H5 σ4 ρ1 w5 _ r5 ?_
                cases ek : mk ρ1 w5 with
                | stuck => rw [bnd_stuck (x := noX (mk ρ1)) (by unfold noX; rw [ek])] at q5; exact q5.elim
                | exc c fs w6 => rw [bnd_stuck (x := noX (mk ρ1)) (by unfold noX; rw [ek])] at q5; exact q5.elim
                | ok dk w6 =>
                  rw [bnd_ok (x := noX (mk ρ1)) (noX_ok ek), bnd_bnd] at q5
                  intro kv S6 H6 r6 s6 o6
                  have q6 := postE_mono s6 q5
                  refine he S3 H3 w2 S6 H6 σ4 ρ1 w6 _ r6 ?_
                  cases ee : me ρ1 w6 with
                  | stuck => rw [bnd_stuck (x := noX (me ρ1)) (by unfold noX; rw [ee])] at q6; exact q6.elim
                  | exc c fs w7 => rw [bnd_stuck (x := noX (me ρ1)) (by unfold noX; rw [ee])] at q6; exact q6.elim
                  | ok d w7 =>
                    rw [bnd_ok (x := noX (me ρ1)) (noX_ok ee), bnd_bnd] at q6
                    intro yv S7 H7 r7 s7 o7
                    have q7 := postE_mono s7 q6
                    have k7 := stay r7.out
                    have r7' := r3.after r7.out
                    unfold putO at q7
                    cases eo : keyO dk with
                    | none => rw [eo, Option.map_none, lift_none, bnd_stk] at q7; exact q7.elim
                    | some kk =>
                      rw [eo, Option.map_some, lift_some, bnd_ret] at q7
                      obtain ⟨rfl, rfl⟩ := keyO_dv o6 eo
                      have hcv : DVd K S7 kvs acc := dpD_mono (fun a o z => s7 a o (s6 a o (s5 a o (s3 a o z)))) _ _ hacc
                      refine ⟨kvs, kk, rfl, k7.1, by rw [dvd_len hcv]; exact sz_lt' (by omega), S7, w7, putK kvs kk yv, putD acc kk d, ?_, fun a o z => s7 a o (s6 a o (s5 a o (s3 a o (s2 a o z)))), upd_same, k7.2.1, k7.2.2, dvd_put o7 hcv, Nat.le_trans (putD_len _ _ _) (by omega), q7⟩
                      obtain ⟨oa, r8⟩ := r7'
                      refine ⟨oa, r8.out.write k7.2.1 h0L k7.2.2, r8.len, fun j e hj => ?_, r8.inj⟩
                      obtain ⟨u, g1, g2⟩ := r8.slot j e hj
                      refine ⟨u, g1, slot_write (fun kj ej => ?_) g2⟩
                      obtain ⟨oa1, r1'⟩ := id r1
                      obtain ⟨u1, g3, g4⟩ := r1'.slot j e hj
                      rw [kj] at g4 g2
                      obtain ⟨v1, _, _, _, ho1, v5, _⟩ := g4
                      obtain ⟨v2, _⟩ := g2
                      rw [g1] at g3
                      cases g3
                      rw [v2] at v1
                      have := V.ref.inj v1
                      rw [ej] at this
                      rw [← this, hL] at v5
                      cases v5
        rcases hy x H' hyl with ⟨rfl, hv'⟩ | ⟨p, us, es, hp, rfl, rfl, ed, hv'⟩
        · exact key S2 H' r2 (fun _ _ h => h) hD hS2 hv'
        · have hpL : L ≠ p := ne_p hp hD
          have e := le_upd (ho := .tup us) (r2.out.s_none hp)
          refine key _ _ (r2.alloc hp) e (by rw [upd_ne hpL]; exact hD) (by rw [upd_ne hpL]; exact hS2) ?_
          rw [ed]
          exact .tup (SqT.of upd_same) (dpAll_mono e _ _ hv')
      · have ei : i = ds.length := by omega
        subst ei
        rw [List.drop_length] at q2
        have q3 : PostE K R C κ S0 H0 w0 S2 σ ρ .own Q (.ok (.dict acc) w2) := q2
        refine .inl ⟨yStop (Nat.le_refl _), q3 (.ref L) S2 H2 r2 (fun _ _ h => h) ⟨L, _, rfl, hS2, h0L, hf2, hD, hacc, fun j e' hj hk hs => ?_⟩⟩
        exact fresh_slot r1 hL j e' hj hk hs
    · rw [if_neg hz] at q; exact q.elim
theorem seen_dct {v : V} {ps : List (D × D)} (sub : ∀ a o, S a = some o → H a = some o) (h : Seen K S H v (.dict ps)) : ∃ p kvs, v = .ref p ∧ H p = some (.dK kvs) ∧ DVd K S kvs ps := by
  rcases h with h | ⟨p, ho, h1, h2, h⟩
  · cases h with
    | dct h1 h2 => exact ⟨_, _, rfl, sub _ _ h1, h2⟩
  · cases ho with
    | dK kvs => exact ⟨p, kvs, h1, h2, h⟩
    | _ => exact h.elim
def rLenD : Rb := fun xs H Q => ∃ a kvs, xs = [V.ref a] ∧ H a = some (.dK kvs) ∧ Q (.int kvs.length) H
def gLenD : OpN | [.dict ps] => some (.int ps.length) | _ => none
theorem cLenD : CbP K rLenD gLenD := by
  intro S H vs ds z Q sub hs hf q
  unfold gLenD at hf
  split at hf
  · cases hf
    obtain ⟨v, rfl, h⟩ := seenAll_1 hs
    obtain ⟨p, kvs, rfl, h1, h2⟩ := seen_dct sub h
    refine ⟨p, kvs, rfl, h1, ?_⟩
    rw [dvd_len h2]
    exact q _ (.int _)
  · cases hf
theorem kLenD {X : Cx} : CallR X (.builtin "len") rLenD := call_lenD
end
end B

/-! isinstance(e, C), e a caught error with fields -/
namespace BX
open PySem PySem.W PySem.Spec PySem.Calls PyProof.Rows
section
variable {prog : Program} {w : World} {A : Around} {E : Value → Shared → Prop} {s : Shared} {K : Frag} {x D : Addr} {ox od : Obj}
theorem class_of_err {Q : Option Value → Shared → Prop} (C : L2.ExcC K D) (X : K.In s.heap) (I : InstAt s.heap x ox D (some od)) (h : Q (some (.ref D)) { s with toks := s.toks + 1 }) : wpAny (model prog w) A (getAttr? (.ref x) "__class__") Q E s := by
  have isc : (clsIn K D).isSome = true := by
    obtain ⟨cd, hc, _⟩ := any_some C.hd
    rw [hc]; rfl
  have found : findObj K D (some od) "__class__" = some (.bind (.builtin "getset_descriptor.__get__") (.builtin "object.__class__")) := findObj_data isc C.ha C.hn C.ht
  obtain ⟨hh, gg, dd, tt, oo⟩ := s
  have t0 := I.type (M := model prog w)
  have t1 := looks_findIn (M := model prog w) X C.hg
  have t2 := looks_findIn (M := model prog w) X C.hk
  have t3 := looks_find (M := model prog w) X I found
  have isB : Looks (model prog w) hh (isInstance (.ref x) (.type "BaseException")) true := t0.andThen (looks_subIn X C.hs)
  have n2 : (Value.builtin "BaseException.__getattribute__" == Value.builtin "object.__getattribute__") = false := by decide +kernel
  have n1 : (onTheHeap (Value.ref D) && Value.builtin "BaseException.__getattribute__" == Value.builtin "object.__getattribute__") = false := by rw [n2]; rfl
  unfold getAttr? getAttrBy? getAttrBy
  refine wpAny_bind (wpAny_mkText (wpAny_bind (wpAny_attempt (wpAny_holding (wpAny_bind (t0.at (wpAny_bind (t1.at ?_))))))))
  show wpAny (model prog w) _ (if (onTheHeap (Value.ref D) && Value.builtin "BaseException.__getattribute__" == Value.builtin "object.__getattribute__") = true then _ else _) _ _ _
  rw [n1, if_neg Bool.false_ne_true]
  unfold getAttrByItsOwn hookBefore
  refine wpAny_bind ?_
  rw [if_pos (show onTheHeap (Value.ref D) = true from rfl)]
  refine t2.at (wpAny_bind (wpAny_attempt (wpAny_holding ?_)))
  unfold callGetattribute
  rw [if_neg (show ¬ ((false && onTheHeap (Value.builtin "BaseException.__getattribute__")) = true) from Bool.false_ne_true)]
  unfold boundAndCalled
  rw [PySem.F.excAttr_ValueError.ga.bind (.ref x)]
  refine wpAny_bind (wpAny_pure ?_)
  show wpAny (model prog w) _ (call (.builtin "BaseException.__getattribute__") [.ref x, .str "__class__" tt]) _ _ _
  refine wpAny_call (codeAny_call_builtin PySem.F.excAttr_ValueError.ga.plain PySem.F.entry_bexc_ga (@check_slot (model prog w) _ _ ⟨hh, gg, dd, tt + 1, oo⟩ "BaseException.__getattribute__" "BaseException" "__getattribute__" (.ref x) [.str "__class__" tt] [] _ (by decide +kernel) (by decide +kernel) isB (PySem.F.args_bexc_ga (.ref x) (.str "__class__" tt)) ?_))
  unfold Builtin.«object.__getattribute__»
  refine wpAny_bind (wpAny_of_eq (a := ((Value.ref x : Value), [Value.str "__class__" tt])) (by first | rfl | (simp only [slotArgs]; rfl)) (wpAny_bind (wpAny_pure (wpAny_bind (t0.at (wpAny_bind (t3.at ?_)))))))
  show wpAny (model prog w) _ (holding [Value.builtin "object.__class__"] (call (.builtin "getset_descriptor.__get__") [.builtin "object.__class__", .ref x, .ref D]) >>= ret) _ _ _
  refine wpAny_bind (wpAny_holding (wpAny_call (class_get (s := ⟨hh, gg, dd, tt + 1, oo⟩) (ox := ox) (od := some od) X I C.hm (wpAny_pure ?_))))
  show wpAny (model prog w) _ (handedOut (.ref D)) _ _ _
  rw [handedOut_of (v := .ref D) rfl]
  first
    | exact wpAny_pure (wpAny_pure h)
    | exact wpAny_pure h
    | exact wpAny_pure (wpAny_bind (wpAny_pure (wpAny_pure h)))
theorem kit_err (C : L2.ExcC K D) : KitX K (.ref x) (.ref D) (fun h => InstAt h x ox D (some od)) where
  ty := fun _ _ _ I => I.type
  it := by
    intro M h X _
    obtain ⟨cd, hc, _⟩ := any_some C.hd
    unfold clsIn at hc
    split at hc
    · rename_i c1 d1 cd1 sl1 ho
      intro A1 Q1 E1 s1 k q
      unfold isType loadHead
      exact wpAny_bind (wpAny_loadPart (k _ _ (X _ _ ho)) (wpAny_pure q))
    · cases hc
  ne := fun h tp d2 its n sl X htp => (handS_kitx_exc (ox := ox) (x := x) C.hg C.hk C.hs C.hd C.ha C.hn C.ht C.hm).ne h tp d2 its n sl X htp
  ca := fun X I k => class_of_err C X I k
end
end BX
namespace B
open PySem L2
section
variable {K : PySem.W.Frag} {W : Type} {R : Rs W} {C : Cl} {κ : List Kd}
/-- isinstance(e, c), e the error that the suite holds, with its dict -/
def rIsX (K : PySem.W.Frag) (D : Addr) (cls : Value) (d : Option Addr) (a : Addr) : List V → Hp → VK → Prop := fun xs H Q => ∃ (c : V) (cv : Value) (b : Bool) (dd : Addr) (fs : List (Str × V)), xs = [.ref a, c] ∧ cls = .ref D ∧ d = some dd ∧ H dd = some (.xd fs) ∧ (∀ u, RelV c u → u = cv) ∧ PySem.W.kitOne K (.ref D) cv = some b ∧ Q (.bl b) H
theorem call_isX {X : Cx} {a D : Addr} {cls : Value} {d : Option Addr} {oe : PySem.Obj} {pn : List (Addr × PySem.Obj)} (hK : X.K = K) (C : ExcC K D) (hz : Zc cls d oe) (hf : ∃ vs, oe.data = .fields vs) : CallR (X.suite a ((a, oe) :: pn)) (.builtin "isinstance") (rIsX K D cls d a) := by
  subst hK
  intro pins s σ H xs us Q I r h
  obtain ⟨c, cv, b, dd, fs, rfl, ec, ed, ea, hcv, e, q⟩ := h
  cases r with
  | cons rx rr =>
    cases rr with
    | cons rt rr =>
      cases rr
      cases rx
      have ec2 := hcv _ rt
      subst ec2
      subst ec
      subst ed
      obtain ⟨hget, _⟩ := I.pin (a, oe) (List.mem_append.mpr (.inl List.mem_cons_self))
      obtain ⟨vs, hv⟩ := hf
      obtain ⟨mA, hns, hr⟩ := (show ObjOk X.prog X.w H s.heap dd (.xd fs) from I.hok dd _ ea)
      obtain ⟨od, ho, hl⟩ := lookIn_ns hns
      have J : PySem.W.InstAt s.heap a oe D (some od) := ⟨hget, hz.1, by unfold PySem.W.notCls; rw [hv] <;> rfl, by rw [hz.2]; exact ho⟩
      exact PySem.W.kia_one (BX.kit_err C) I.kIn J e (fun z => nomatch z) fun tk => ⟨.bl b, H, I.kept (t' := tk) fun _ _ z => z, rfl, q⟩
def mIsX (i : Nat) (b : Bool) : ME W := fun ρ => bnd (mVar i ρ) fun _ => ret (.bool b)
theorem okIsX {a dd D : Addr} {vs : List (Str × V)} {cls : Value} {i : Nat} {aT : Addr} {b : Bool} (hc : cls = .ref D) (hb : PySem.W.kitOne K (.ref D) (.ref aT) = some b) (hk : kd κ i = .res := by rfl) :
    OkE K (hdR R a dd vs) C κ (tCB (rIsX K D cls (some dd) a) (tCons (tVar i) (tCons (tC (.ref aT)) tNil))) .dat (mIsX i b) := by
  intro S0 H0 w0 S H σ ρ w Q rl q
  have r0 := rl
  obtain ⟨oa, r⟩ := rl
  unfold mIsX mVar at q
  cases e : ρ[i]? with
  | none => simp only [e] at q; exact q.elim
  | some o =>
    cases o with
    | none => simp only [e] at q; exact q.elim
    | some d0 =>
      simp only [e, bnd_ret] at q
      obtain ⟨v, g1, g2⟩ := r.slot i d0 e
      rw [hk] at g2
      obtain ⟨rfl, _⟩ := g2
      exact ⟨_, g1, .ref aT, .ref aT, b, dd, vs, rfl, hc, rfl, r.out.res.2.1, fun u hu => hu, hb, q _ S H r0 (fun _ _ h => h) (.bl _)⟩
end
end B
namespace B
open PySem L2
theorem spD_stk {K : PySem.W.Frag} {cn : String → Value → Prop} {x : Bool} {κs : List Kd} {rk : Kd} {F : List D → M Dr D} (hF : F = fun _ => stk) {vs : List V} {H : Hp} {Q : VK} {E : XK} (h : spD K cn x κs rk F vs H Q E) : False := by
  subst hF
  obtain ⟨dp, sp, S, w, ds, i, ha, q⟩ := h
  exact q
end B

/-! deep in of tuples, list.index, + and < of ints or texts, stars in displays, lists unpacked -/
namespace B
open PySem L2
section
variable {K : PySem.W.Frag} {W : Type} {R : Rs W} {C : Cl} {κ κ1 κ2 : List Kd} {S H : Hp} {X : Cx}
/-! ### in, over a tuple of any depth -/
def rInU (K : PySem.W.Frag) : R2 := fun x y H Q => ∃ d ds, Dp K H x d ∧ Dp K H y (.tuple ds) ∧ SeqAt.shaped d = true ∧ SeqAt.shaped (.tuple ds) = true ∧ Q (.bl (ds.any fun z => PyData.eqv z d)) H
def rNotInU (K : PySem.W.Frag) : R2 := fun x y H Q => ∃ d ds, Dp K H x d ∧ Dp K H y (.tuple ds) ∧ SeqAt.shaped d = true ∧ SeqAt.shaped (.tuple ds) = true ∧ Q (.bl (!ds.any fun z => PyData.eqv z d)) H
theorem canT {ds : List PyData} (h : PyData.canLay0 (.tuple ds) = true) : PyData.canLayAll0 ds = true := by
  unfold PyData.canLay0 at h
  exact h
theorem kInU (hu : X.A.units + 65 < cLine) (hK : X.K = K) : OpR X (compareOp .In) (rInU K) := by
  subst hK
  intro pins s σ H x y v u Q I rx ry h
  obtain ⟨d, ds, hd, he, sd, se, q⟩ := h
  obtain ⟨as, r1⟩ := Dp.reads I d x v hd rx
  obtain ⟨bs, r2⟩ := Dp.reads I (.tuple ds) y u he ry
  exact SeqAt.in_tuple_reads r2 r1 (canT (SeqAt.canLay_of_shaped se)) (SeqAt.canLay_of_shaped sd) (PyProof.Rows.room_in_shaped sd hu) ⟨.bl _, H, I, rfl, q⟩
theorem kNotInU (hu : X.A.units + 65 < cLine) (hK : X.K = K) : OpR X (compareOp .NotIn) (rNotInU K) := by
  subst hK
  intro pins s σ H x y v u Q I rx ry h
  obtain ⟨d, ds, hd, he, sd, se, q⟩ := h
  obtain ⟨as, r1⟩ := Dp.reads I d x v hd rx
  obtain ⟨bs, r2⟩ := Dp.reads I (.tuple ds) y u he ry
  exact SeqAt.notIn_tuple_reads r2 r1 (canT (SeqAt.canLay_of_shaped se)) (SeqAt.canLay_of_shaped sd) (PyProof.Rows.room_in_shaped sd hu) ⟨.bl _, H, I, rfl, q⟩
def gInU : Op2 | d, .tuple es => if SeqAt.shaped d = true ∧ SeqAt.shaped (.tuple es) = true then some (.bool (es.any fun z => PyData.eqv z d)) else none | _, _ => none
def gNotInU : Op2 | d, .tuple es => if SeqAt.shaped d = true ∧ SeqAt.shaped (.tuple es) = true then some (.bool (!es.any fun z => PyData.eqv z d)) else none | _, _ => none
theorem oInU : OpP K (rInU K) gInU := by
  intro S H x y d e u Q sub hx hy h q
  unfold gInU at h
  split at h
  · split at h
    · rename_i c
      cases h
      exact ⟨_, _, seen_dp sub c.1 hx, seen_dp sub c.2 hy, c.1, c.2, q _ (.bl _)⟩
    · cases h
  · cases h
theorem oNotInU : OpP K (rNotInU K) gNotInU := by
  intro S H x y d e u Q sub hx hy h q
  unfold gNotInU at h
  split at h
  · split at h
    · rename_i c
      cases h
      exact ⟨_, _, seen_dp sub c.1 hx, seen_dp sub c.2 hy, c.1, c.2, q _ (.bl _)⟩
    · cases h
  · cases h
/-! ### one of two readings -/
def rOr (r t : R2) : R2 := fun x y H Q => r x y H Q ∨ t x y H Q
theorem opOr {f : Value → Value → Sem Value} {r t : R2} (h1 : OpR X f r) (h2 : OpR X f t) : OpR X f (rOr r t) := fun pins s σ H x y v u Q I rx ry h => h.elim (h1 pins s σ H x y v u Q I rx ry) (h2 pins s σ H x y v u Q I rx ry)
def gOr (f g : Op2) : Op2 := fun d e => match f d e with | some z => some z | none => g d e
theorem oOr {r t : R2} {f g : Op2} (h1 : OpP K r f) (h2 : OpP K t g) : OpP K (rOr r t) (gOr f g) := by
  intro S H x y d e z Q sub hx hy h q
  unfold gOr at h
  cases ef : f d e with
  | some u => rw [ef] at h; cases h; exact .inl (h1 S H x y d e _ Q sub hx hy ef q)
  | none => rw [ef] at h; exact .inr (h2 S H x y d e z Q sub hx hy h q)
def gAddX : Op2 := gOr gAdd gAddS
def gLtX : Op2 := gOr gLt gLtS
theorem oAddX : OpP K (rOr (rI0 fun i j => .int (i + j)) (fun x y H Q => ∃ i j, x = .str i ∧ y = .str j ∧ i.length + j.length ≤ sizeLine ∧ Q (.str (i ++ j)) H)) gAddX := oOr oAdd oAddS
theorem oLtX : OpP K (rOr (rI0 fun i j => .bl (decide (i < j))) (fun x y H Q => ∃ i j, x = .str i ∧ y = .str j ∧ Q (.bl (decide (i.cps.toList < j.cps.toList))) H)) gLtX := oOr oLt oLtS
@[simp] theorem o_AddXI (i j : Int) : gAddX (.int i) (.int j) = some (.int (i + j)) := (rfl)
@[simp] theorem o_AddXS (x y : Str) : gAddX (.str x) (.str y) = if x.length + y.length ≤ 1000000 then some (.str (x ++ y)) else none := (rfl)
@[simp] theorem o_LtXI (i j : Int) : gLtX (.int i) (.int j) = some (.bool (decide (i < j))) := (rfl)
@[simp] theorem o_LtXS (x y : Str) : gLtX (.str x) (.str y) = some (.bool (decide (x.cps.toList < y.cps.toList))) := (rfl)
/-! ### displays with stars: all data -/
def PostAd (K : PySem.W.Frag) (R : Rs W) (C : Cl) (κ : List Kd) (S0 H0 : Hp) (w0 : W) (S : Hp) (σ : L2.St) (ρ : Rho) (Q : List V → Hp → Prop) : Res W (List D) → Prop
  | .ok ds w' => ∀ vs S' H', Rel K R κ S0 H0 w0 S' H' σ ρ w' → (∀ a o, S a = some o → S' a = some o) → DVs K S' vs ds → Q vs H'
  | .exc c fs w' => ∀ cls dd S' H', Rel K R κ S0 H0 w0 S' H' σ ρ w' → C.cn c cls → XOk R S' H' w' dd fs → C.wx cls (some dd) σ H'
  | .stuck => False
def OkAd (K : PySem.W.Frag) (R : Rs W) (C : Cl) (κ : List Kd) (t : TA) (m : Rho → M W (List D)) : Prop :=
  ∀ S0 H0 w0 S H σ ρ w Q, Rel K R κ S0 H0 w0 S H σ ρ w → PostAd K R C κ S0 H0 w0 S σ ρ Q (m ρ w) → t σ H Q
theorem adNil : OkAd K R C κ tNil (mNil : Rho → M W (List D)) := by
  intro S0 H0 w0 S H σ ρ w Q rl q
  exact q [] S H rl (fun _ _ h => h) .nil
theorem adCons {te : TE} {t : TA} {m : ME W} {r : Rho → M W (List D)} (h : OkE K R C κ te .dat m) (hr : OkAd K R C κ t r) : OkAd K R C κ (tCons te t) (mCons m r) := by
  intro S0 H0 w0 S H σ ρ w Q rl q
  refine h S0 H0 w0 S H σ ρ w _ rl ?_
  unfold mCons at q
  cases e : m ρ w with
  | stuck => rw [bnd_stuck e] at q; exact q.elim
  | exc c fs w1 => rw [bnd_exc e] at q; exact q
  | ok d w1 =>
    rw [bnd_ok e] at q
    intro v S1 H1 r1 s1 o1
    refine hr S0 H0 w0 S1 H1 σ ρ w1 _ r1 ?_
    cases e2 : r ρ w1 with
    | stuck => rw [bnd_stuck e2] at q; exact q.elim
    | exc c fs w2 => rw [bnd_exc e2] at q; exact q
    | ok ds w2 =>
      rw [bnd_ok e2] at q
      intro vs S2 H2 r2 s2 o2
      exact q (v :: vs) S2 H2 r2 (fun a o z => s2 a o (s1 a o z)) (.cons (dp_mono s2 _ _ o1) o2)
def itemsD : D → M W (List D) | .list ds => ret ds | .tuple ds => ret ds | _ => stk
def mStar (a : ME W) (r : Rho → M W (List D)) : Rho → M W (List D) := fun ρ => bnd (a ρ) fun d => bnd (itemsD d) fun xs => bnd (r ρ) fun ys => ret (xs ++ ys)
theorem adStar {te : TE} {t : TA} {m : ME W} {r : Rho → M W (List D)} (h : OkE K R C κ te .dat m) (hr : OkAd K R C κ t r) : OkAd K R C κ (StX.tStar K te t) (mStar m r) := by
  intro S0 H0 w0 S H σ ρ w Q rl q
  refine h S0 H0 w0 S H σ ρ w _ rl ?_
  unfold mStar at q
  cases e : m ρ w with
  | stuck => rw [bnd_stuck e] at q; exact q.elim
  | exc c fs w1 => rw [bnd_exc e] at q; exact q
  | ok d w1 =>
    rw [bnd_ok e] at q
    intro v S1 H1 r1 s1 o1
    have go : ∀ (p : Addr) (us : List V) (xs : List D), v = .ref p → (SqT K H1 p us ∨ SqL K H1 p us) → DVs K S1 us xs → PostAd K R C κ S0 H0 w0 S σ ρ Q (bnd (r ρ) (fun ys => ret (xs ++ ys)) w1) → ∃ p xs, v = V.ref p ∧ (SqT K H1 p xs ∨ SqL K H1 p xs) ∧ t σ H1 fun ys H2 => Q (xs ++ ys) H2 := by
      intro p us xs hv hs hd q
      refine ⟨p, us, hv, hs, hr S0 H0 w0 S1 H1 σ ρ w1 _ r1 ?_⟩
      cases e2 : r ρ w1 with
      | stuck => rw [bnd_stuck e2] at q; exact q.elim
      | exc c fs w2 => rw [bnd_exc e2] at q; exact q
      | ok ds w2 =>
        rw [bnd_ok e2] at q
        intro vs S2 H2 r2 s2 o2
        exact q (us ++ vs) S2 H2 r2 (fun a o z => s2 a o (s1 a o z)) (dvs_app (dpAll_mono s2 _ _ hd) o2)
    cases d with
    | list ds =>
      cases o1 with
      | lst h1 h2 => exact go _ _ _ rfl (.inr (SqL.of (r1.out.sub _ _ h1))) h2 q
    | tuple ds =>
      cases o1 with
      | tup h1 h2 => exact go _ _ _ rfl (.inl (sqT_sub r1.out.sub h1)) h2 q
    | _ => exact q.elim
theorem adTup {ta : TA} {m : Rho → M W (List D)} (h : OkAd K R C κ ta m) : OkE K R C κ (tTup ta) .dat (mTup m) := by
  intro S0 H0 w0 S H σ ρ w Q rl q
  refine h S0 H0 w0 S H σ ρ w _ rl ?_
  unfold mTup at q
  cases e : m ρ w with
  | stuck => rw [bnd_stuck e] at q; exact q.elim
  | exc c fs w1 => rw [bnd_exc e] at q; exact q
  | ok ds w1 =>
    rw [bnd_ok e] at q
    intro vs S1 H1 r1 s1 o1
    by_cases hz : ds.length ≤ 1000000
    · simp only [if_pos hz] at q
      refine ⟨by rw [dvs_len o1]; exact Nat.le_of_lt (Nat.lt_of_le_of_lt hz (by decide)), fun p hp => ?_⟩
      have e := le_upd (ho := .tup vs) (r1.out.s_none hp)
      exact q _ _ _ (r1.alloc hp) (fun a o z => e a o (s1 a o z)) (.tup (SqT.of upd_same) (dpAll_mono e _ _ o1))
    · simp only [if_neg hz] at q; exact q.elim
theorem adLst {ta : TA} {m : Rho → M W (List D)} (h : OkAd K R C κ ta m) : OkE K R C κ (tLst ta) .dat (mLst m) := by
  intro S0 H0 w0 S H σ ρ w Q rl q
  refine h S0 H0 w0 S H σ ρ w _ rl ?_
  unfold mLst at q
  cases e : m ρ w with
  | stuck => rw [bnd_stuck e] at q; exact q.elim
  | exc c fs w1 => rw [bnd_exc e] at q; exact q
  | ok ds w1 =>
    rw [bnd_ok e] at q
    intro vs S1 H1 r1 s1 o1
    by_cases hz : ds.length ≤ 1000000
    · simp only [if_pos hz] at q
      refine ⟨by rw [dvs_len o1]; exact Nat.le_of_lt (Nat.lt_of_le_of_lt hz (by decide)), fun p hp => ?_⟩
      have e := le_upd (ho := .lst vs) (r1.out.s_none hp)
      exact q _ _ _ (r1.alloc hp) (fun a o z => e a o (s1 a o z)) (.lst upd_same (dpAll_mono e _ _ o1))
    · simp only [if_neg hz] at q; exact q.elim
/-! ### a, b = a list -/
def gTL (n : Nat) (fs : List D → Rho → Option Rho) : D → Rho → Option Rho
  | .list ds, ρ => if ds.length = n then fs ds ρ else none
  | _, _ => none
theorem okGLst {t : TGs} {n : Nat} {fs : List D → Rho → Option Rho} {as : List Nat} (h : OkGs (K := K) (R := R) κ t fs κ2 as) : OkG (K := K) (R := R) κ (gLst K n t) (gTL n fs) κ2 as := by
  intro S0 H0 w0 S H σ ρ w v d ρ' Q rl hv hf q
  unfold gTL at hf
  split at hf
  · split at hf
    · rename_i hl
      cases hv with
      | lst g1 g2 => exact ⟨_, _, rfl, SqL.of (rl.out.sub _ _ g1), by rw [dvs_len g2]; exact hl, h S0 H0 w0 S H σ ρ w _ _ ρ' Q rl g2 hf q⟩
    · cases hf
  · cases hf
theorem pgL {es : List PySem.Expr} {k : Nat} {t : TGs} {n : Nat} {pos : Pos} (hc : X.calm = true) (h : PGs X es t) (hn : (assignEach es X.env).length = n) (hst : (assignEach es X.env).findIdx? (·.1) = none) (hK : X.K = K) : PG X (.Tuple es k pos) (gLst K n t) := by
  subst hK
  exact pg_lst hc h hn hst
/-! ### a list's methods that change nothing -/
def mBML (g : D → List D → Option D) (mo : ME W) (m : Rho → M W (List D)) : ME W := fun ρ => bnd (mo ρ) fun d => bnd (theL d) fun d => bnd (m ρ) fun es => lift (g d es)
def MtP (K : PySem.W.Frag) (r : V → List V → Hp → VK → Prop) (g : D → List D → Option D) : Prop :=
  ∀ S H v ds us es z (Q : VK), (∀ a o, S a = some o → H a = some o) → Seen K S H v (.list ds) → DVs K S us es → g (.list ds) es = some z → (∀ u, DV K S u z → Q u H) → r v us H Q
theorem okBML {to : TE} {ta : TA} {k : Kd} {mo : ME W} {m : Rho → M W (List D)} {r : V → List V → Hp → VK → Prop} {g : D → List D → Option D} (hr : MtP K r g) (ho : OkE K R C κ to k mo) (ha : OkAd K R C κ ta m) (hk : k ≠ .own := by decide) (hk2 : k ≠ .res := by decide) : OkE K R C κ (tBM K "list" r to ta) .dat (mBML g mo m) := by
  intro S0 H0 w0 S H σ ρ w Q rl q
  refine ho S0 H0 w0 S H σ ρ w _ rl ?_
  unfold mBML at q
  cases e : mo ρ w with
  | stuck => rw [bnd_stuck e] at q; exact q.elim
  | exc c fs w1 => rw [bnd_exc e] at q; exact q
  | ok d w1 =>
    rw [bnd_ok e] at q
    intro v S1 H1 r1 s1 o1
    cases d with
    | list ds =>
      obtain ⟨p, us, rfl, h1, h2⟩ := seen_list r1.out.sub (o1.seen r1 hk2)
      refine ⟨.inl ⟨rfl, _, SqL.of h1⟩, ha S0 H0 w0 S1 H1 σ ρ w1 _ r1 ?_⟩
      have q2 : PostE K R C κ S0 H0 w0 S σ ρ .dat Q (bnd (m ρ) (fun es => lift (g (.list ds) es)) w1) := q
      cases e2 : m ρ w1 with
      | stuck => rw [bnd_stuck e2] at q2; exact q2.elim
      | exc c fs w2 => rw [bnd_exc e2] at q2; exact q2
      | ok es w2 =>
        rw [bnd_ok e2] at q2
        intro vs S2 H2 r2 s2 o2
        cases e3 : g (.list ds) es with
        | none => rw [e3] at q2; exact q2.elim
        | some z =>
          rw [e3] at q2
          exact hr S2 H2 _ ds vs es z Q r2.out.sub ((ResOk.mono hk s2 o1 : ResOk K R κ S0 H0 w0 S2 H2 σ ρ w2 k (.ref p) (.list ds)).seen r2 hk2) o2 e3 fun u hu => q2 u S2 H2 r2 (fun a o z => s2 a o (s1 a o z)) hu
    | _ => exact q.elim
def gIndex : D → List D → Option D
  | .list ds, [d] => if SeqAt.shaped (.list ds) = true ∧ SeqAt.shaped d = true then (ds.findIdx? fun z => PyData.eqv z d).map fun j => .int (j : Nat) else none
  | _, _ => none
theorem oIndex : MtP K (rIndexD K) gIndex := by
  intro S H v ds us es z Q sub hv hd h q
  unfold gIndex at h
  split at h
  · rename_i ds' d heq
    cases heq
    split at h
    · rename_i c
      cases e : ds.findIdx? fun z => PyData.eqv z d with
      | none => rw [e] at h; cases h
      | some j =>
        rw [e] at h
        cases h
        cases hd with
        | cons hd1 hd2 =>
          cases hd2
          obtain ⟨hj, h1, h2⟩ := List.findIdx?_eq_some_iff_getElem.mp e
          obtain ⟨p, us, rfl, _, _⟩ := seen_list sub hv
          refine ⟨p, _, d, ds, j, ds[j], rfl, rfl, seen_dp sub c.1 hv, seen_dp sub c.2 (.inl hd1), c.1, c.2, List.getElem?_eq_getElem hj, h1, fun m z' hm hz => ?_, q _ (.int _)⟩
          obtain ⟨hm', rfl⟩ := List.getElem?_eq_some_iff.mp hz
          exact Bool.eq_false_iff.mpr (h2 m hm)
    · cases h
  · cases h
theorem mt_indexK (hu : X.A.units + 65 < cLine) (hK : X.K = K) : MtR X "list.index" (rIndexD K) := by subst hK; exact mt_indexD hu
end
end B
namespace B
open PySem L2
section
variable {K : PySem.W.Frag}
def gPow : Op2 | .int i, .int j => if 0 ≤ j ∧ j ≤ 100 ∧ -1000 ≤ i ∧ i ≤ 1000 then some (.int (i ^ j.toNat)) else none | _, _ => none
theorem oPow : OpP K (rI CPow fun i j => .int (i ^ j.toNat)) gPow := opI (z := fun i j => .int (i ^ j.toNat)) (fun _ _ _ => .int _) fun d e y h => by
  unfold gPow at h; split at h
  · split at h
    · rename_i c
      exact ⟨_, _, rfl, rfl, by unfold CPow; omega, (Option.some.inj h).symm⟩
    · cases h
  · cases h
end
end B

/-! what the words of texts, dicts, zip compute -/
namespace B
open PySem L2
section
variable {W α β : Type} {ρ : Rho} {a b c : ME W}
def isiD (T : String) (d : D) : M W D := lift ((isiB T d).map .bool)
@[simp] theorem x_Isi {T : String} : mIsi T a ρ = bnd (a ρ) (isiD T) := (rfl)
@[simp] theorem isi_int_int (i : Int) : (isiD "int" (.int i) : M W D) = ret (.bool true) := (rfl)
@[simp] theorem isi_int_str (x : Str) : (isiD "int" (.str x) : M W D) = ret (.bool false) := (rfl)
@[simp] theorem isi_int_bool (x : Bool) : (isiD "int" (.bool x) : M W D) = ret (.bool true) := (rfl)
@[simp] theorem isi_bool_int (i : Int) : (isiD "bool" (.int i) : M W D) = ret (.bool false) := (rfl)
@[simp] theorem isi_bool_str (x : Str) : (isiD "bool" (.str x) : M W D) = ret (.bool false) := (rfl)
@[simp] theorem isi_bool_bool (x : Bool) : (isiD "bool" (.bool x) : M W D) = ret (.bool true) := (rfl)
@[simp] theorem isi_str_int (i : Int) : (isiD "str" (.int i) : M W D) = ret (.bool false) := (rfl)
@[simp] theorem isi_str_str (x : Str) : (isiD "str" (.str x) : M W D) = ret (.bool true) := (rfl)
@[simp] theorem isi_str_bool (x : Bool) : (isiD "str" (.bool x) : M W D) = ret (.bool false) := (rfl)
@[simp] theorem x_Join {s : Str} : mJoin s a ρ = bnd (a ρ) (jnD s) := (rfl)
@[simp] theorem x_LenS : mLenS a ρ = bnd (a ρ) lsD := (rfl)
@[simp] theorem x_Zip {m : Rho → M W (List D)} : srcZip m ρ = bnd (m ρ) zipD := (rfl)
@[simp] theorem x_zipT (xs ys : List D) : (zipD [.tuple xs, .tuple ys] : M W (List D)) = ret (List.zipWith (fun a b => .tuple [a, b]) xs ys) := (rfl)
@[simp] theorem x_zipL (xs ys : List D) : (zipD [.list xs, .list ys] : M W (List D)) = ret (List.zipWith (fun a b => .tuple [a, b]) xs ys) := (rfl)
@[simp] theorem x_IsX {i : Nat} {v : Bool} : (mIsX i v : ME W) ρ = bnd (mVar i ρ) fun _ => ret (.bool v) := (rfl)
@[simp] theorem x_Xf {i : Nat} {f : Str} {fs : List (Str × D)} : (mXf i f fs : ME W) ρ = bnd (mVar i ρ) fun _ => lift (fs.lookup f) := (rfl)
@[simp] theorem o_LenD (ps : List (D × D)) : gLenD [.dict ps] = some (.int ps.length) := (rfl)
@[simp] theorem x_Dc {src : Rho → M W (List D)} {vs : List Nat} {f : D → Rho → Option Rho} {tt : Rho → M W Bool} {k e : ME W} : mDc src vs f tt k e ρ = bnd (src ρ) fun ds => if ds.length ≤ 1000000 then bnd (mDcL f tt k e (wipeR ρ vs) ds []) fun ps => ret (.dict ps) else stk := (rfl)
theorem lsD_of {xs : List Str} (h : xs.length ≤ 4000) : (lsD (.list (xs.map .str)) : M W D) = ret (.int (BS.ddp xs).length) := by
  show bnd (lift (strsD (xs.map .str))) _ = _
  rw [strsD_of, lift_some, bnd_ret, if_pos h]
theorem jnD_of {s : Str} {ys : List Str} (h : (ys.map (·.length)).sum + ys.length * s.length ≤ 1000000) : (jnD s (.list (ys.map .str)) : M W D) = ret (.str (Txt.join s ys)) := by
  show bnd (lift (strsD (ys.map .str))) _ = _
  rw [strsD_of, lift_some, bnd_ret, if_pos h]
/-- a dict made of keys that are texts: as many as there are different ones -/
theorem has_keys (ps : List (D × D)) (l : List Str) (h : ps.map (·.1) = l.map .str) (k : Str) : hasD ps (.inr k) = decide (k ∈ l) := by
  induction ps generalizing l with
  | nil =>
    cases l with
    | nil => rfl
    | cons _ _ => cases h
  | cons p ps ih =>
    cases l with
    | nil => cases h
    | cons x l =>
      rw [List.map_cons, List.map_cons] at h
      injection h with h1 h2
      unfold hasD
      rw [List.any_cons]
      have := ih l h2
      unfold hasD at this
      rw [this, h1]
      show (decide (some (Sum.inr x : Key) = some (Sum.inr k)) || decide (k ∈ l)) = _
      by_cases hx : x = k
      · subst hx; simp
      · rw [decide_eq_false fun z => hx (Sum.inr.inj (Option.some.inj z)), Bool.false_or]
        by_cases hl : k ∈ l
        · rw [decide_eq_true hl, decide_eq_true (List.mem_cons_of_mem _ hl)]
        · rw [decide_eq_false hl, decide_eq_false fun z => (List.mem_cons.mp z).elim (fun e => hx e.symm) hl]
theorem put_keys (ps : List (D × D)) (l : List Str) (h : ps.map (·.1) = l.map .str) (k : Str) (x : D) : (putD ps (.inr k) x).map (·.1) = (BS.dstep l k).map .str := by
  unfold putD BS.dstep
  rw [has_keys ps l h k]
  by_cases hk : k ∈ l
  · rw [if_pos (decide_eq_true hk), if_pos hk, List.map_map, ← h]
    refine List.map_congr_left fun p _ => ?_
    show (if keyO p.1 = some (Sum.inr k) then (p.1, x) else p).1 = p.1
    split <;> rfl
  · rw [if_neg (by simpa using hk), if_neg hk, List.map_append, List.map_append, h]
    rfl
/-- {name: .. for ..} over texts: the keys -/
theorem dc_keys {γ : Type} {enc : γ → D} {key : γ → Str} {f : D → Rho → Option Rho} {mk me : ME W} {val : γ → D} : ∀ {xs : List γ} {ps : List (D × D)} {l : List Str}, ps.map (·.1) = l.map .str →
    (∀ x ∈ xs, ∃ ρ1, f (enc x) ρ = some ρ1 ∧ mk ρ1 = ret (.str (key x)) ∧ me ρ1 = ret (val x)) → ∃ qs, mDcL f mYes mk me ρ (xs.map enc) ps = ret qs ∧ qs.map (·.1) = ((xs.map key).foldl BS.dstep l).map .str
  | [], ps, l, h, _ => ⟨ps, rfl, h⟩
  | x :: xs, ps, l, h, hs => by
    obtain ⟨ρ1, h1, h2, h3⟩ := hs x List.mem_cons_self
    obtain ⟨qs, e, p⟩ := dc_keys (put_keys ps l h (key x) (val x)) fun y hy => hs y (List.mem_cons_of_mem _ hy)
    refine ⟨qs, ?_, p⟩
    rw [List.map_cons]
    unfold mDcL
    rw [h1, lift_some, bnd_ret, x_Yes, noX_ret, bnd_ret, if_pos rfl, h2, noX_ret, bnd_ret, h3, noX_ret, bnd_ret]
    exact e
/-! ### texts -/
@[simp] theorem o_AddS (x y : Str) : gAddS (.str x) (.str y) = if x.length + y.length ≤ 1000000 then some (.str (x ++ y)) else none := (rfl)
@[simp] theorem o_RepS (x : Str) (n : Int) : gRepS (.str x) (.int n) = if -1000 ≤ n ∧ n ≤ 1000 ∧ x.length ≤ 1000 then some (.str (repS x n)) else none := (rfl)
@[simp] theorem o_LtS (x y : Str) : gLtS (.str x) (.str y) = some (.bool (decide (x.cps.toList < y.cps.toList))) := (rfl)
theorem o_IxS (x : Str) (i : Int) (h : x.length ≤ 1000000) : gIxS (.str x) (.int i) = (atI x.cps.toList i).map fun c => .str ⟨#[c]⟩ := if_pos h
/-- a sign in a text -/
def inS (c : Nat) (z : Str) : Bool := decide (c ∈ z.cps.toList)
@[simp] theorem o_InC (c : Nat) (z : Str) : gInC (.str ⟨#[c]⟩) (.str z) = some (.bool (inS c z)) := (rfl)
@[simp] theorem o_NotInC (c : Nat) (z : Str) : gNotInC (.str ⟨#[c]⟩) (.str z) = some (.bool (!inS c z)) := (rfl)
theorem o_InTS (x : Str) (ys : List Str) : gInT (.str x) (.tuple (ys.map .str)) = some (.bool (decide (x ∈ ys))) := by
  have h1 : (ys.map PyData.str).all flatD = true := by rw [List.all_map]; exact List.all_eq_true.mpr fun _ _ => rfl
  have h2 : ((ys.map PyData.str).any fun y => PyData.eqv y (.str x)) = decide (x ∈ ys) := by
    rw [List.any_map, Bool.eq_iff_iff, List.any_eq_true, decide_eq_true_eq]
    constructor
    · rintro ⟨y, hy, h⟩
      have : (y == x) = true := by rw [← h]; show _ = PyData.eqv (.str y) (.str x); rw [PyData.eqv]
      rw [beq_iff_eq] at this
      exact this ▸ hy
    · intro h
      refine ⟨x, h, ?_⟩
      show PyData.eqv (.str x) (.str x) = true
      rw [PyData.eqv, beq_self_eq_true]
  show (if _ then some (PyData.bool _) else none) = _
  rw [if_pos ⟨rfl, h1⟩, h2]
end
end B
namespace B
open PySem L2
theorem o_AllM {γ : Type} (f : γ → Bool) (xs : List γ) : gAllL [.list (xs.map fun x => .bool (f x))] = some (.bool (xs.all f)) := by
  have := o_AllL (xs.map f)
  rw [List.map_map] at this
  refine Eq.trans this ?_
  rw [List.all_map]
  rfl
def sg (c : Nat) : D := .str ⟨#[c]⟩
theorem signsOf_eq (x : Str) : signsOf x = x.cps.toList.map sg := rfl
@[simp] theorem signs_len (x : Str) : (signsOf x).length = x.length := by rw [signsOf_eq, List.length_map]; exact Array.length_toList
@[simp] theorem o_InSg (c : Nat) (z : Str) : gInC (sg c) (.str z) = some (.bool (inS c z)) := (rfl)
@[simp] theorem o_NotInSg (c : Nat) (z : Str) : gNotInC (sg c) (.str z) = some (.bool (!inS c z)) := (rfl)
theorem str_len (x : Str) : x.length = x.cps.toList.length := Array.length_toList.symm
theorem o_EqSS (x y : Str) (hx : PyData.strOk x = true) (hy : PyData.strOk y = true) : gEq (.str x) (.str y) = some (.bool (x == y)) := by
  rw [o_EqS hx hy, PySem.W.beq_decide]
end B
namespace B
open PySem L2
theorem bnd_ite {W α β : Type} {p : Prop} [Decidable p] (x y : M W α) (f : α → M W β) : bnd (if p then x else y) f = if p then bnd x f else bnd y f := by split <;> rfl
end B
namespace B
open PySem L2
section
variable {W α β : Type} {ρ : Rho} {a b c : ME W}
/-- an error leaves -/
def xcp (nm : String) (fs : List (Str × D)) : M W α := fun w => .exc nm fs w
@[simp] theorem bnd_xcp (nm : String) (fs : List (Str × D)) (f : α → M W β) : bnd (xcp nm fs) f = xcp nm fs := (rfl)
theorem rz_of {nm : String} {y : Str} (h : y.length ≤ 1000) : (rzD nm (.str y) : M W O) = xcp nm [("code", .str y)] := if_pos h
theorem x_TryX {ct : String → Bool} {fx : List Nat} {i : Nat} {mb : MS W} {mh : List (Str × D) → ME W} {nm : String} {fs : List (Str × D)} {d : D} (h : mb ρ = xcp nm fs) (hc : ct nm = true) (hh : mh fs (hdRho ρ fx i) = ret d) : mTry ct fx i mb mh ρ = ret (.rt d) := by
  funext w
  unfold mTry
  rw [h]
  unfold xcp
  simp only [hc, if_true, hh]
  rfl
end
end B
namespace B
open PySem L2
theorem join_le (s : Str) (ys : List Str) : (Txt.join s ys).length ≤ (ys.map (·.length)).sum + ys.length * s.length := by
  show (Builtin.Str.glued s ys).length ≤ _
  rw [StrLaws.glued_eq_join]
  exact StrLaws.join_length_le s ys
end B
namespace B
open PySem L2
@[simp] theorem x_bndret {W α : Type} (m : M W α) : bnd m (fun a => ret a) = m := by
  funext w
  unfold bnd ret
  cases m w <;> rfl
end B

/-! enumerate of a tuple, a text, a list -/
namespace BN
open PySem PySem.Spec PyProof.Rows L2
set_option maxHeartbeats 4000000 in
theorem meets_enumerate_new1 {v : Value} {o : PySem.Obj} {H : Heap → Prop} (B : Begins v o H) :
    Meets (Builtin.«enumerate.__new__» ⟨[.type "enumerate", v], []⟩) (fun _ R s => H s.heap ∧
      R (.ok (.ret (.ref (s.heap.push o).objs.size))) { s with heap := (s.heap.push o).push { cls := .type "enumerate", data := .fields #[.none, .bool false, .ref s.heap.objs.size, rawInt 0, .none, .none] } }) :=
  .of_wp fun prog w A R s h => by
    obtain ⟨hp, g, d, tk, os⟩ := s; obtain ⟨h1, h⟩ := h
    have hsub := sub_enumerate
    have q1 : ∀ {A' : Around} {E : Value → Shared → Prop} {Q : Value → Shared → Prop}, Q (.ref hp.objs.size) ⟨hp.push o, g, d, tk, os⟩ → wpAny (model prog w) A' (pyIter v) Q E ⟨hp, g, d, tk, os⟩ :=
      fun q => B.iter prog w _ _ ⟨hp, g, d, tk, os⟩ _ h1 q
    wp_walk using q1
    refine wpAny_stack_any fun st => wpAny_pure ?_
    split
    · rename_i c _ _ _ _ _
      cases (c == Value.type "enumerate")
      · wp_walk using q1
        exact ⟨_, rfl, h⟩
      · wp_walk using q1
        exact ⟨_, rfl, h⟩
    · wp_walk using q1
      exact ⟨_, rfl, h⟩
section
variable {prog : Program} {w : World} {A : Around} {E : Value → Shared → Prop} {s : Shared}
theorem call_enumerate_tuple {t : Addr} {items : Array Value} {Q : Value → Shared → Prop} (hL : s.heap.IsTuple t items)
    (h : ∀ h', IsEnum h' (s.heap.objs.size + 1) s.heap.objs.size 0 .none → h'.IsTupleIter s.heap.objs.size t 0 → h'.objs.size = s.heap.objs.size + 2 →
      (∀ b o, s.heap.get? b = some o → h'.get? b = some o) → Q (.ref (s.heap.objs.size + 1)) { s with heap := h' }) :
    wpAny (model prog w) A (call (.type "enumerate") [.ref t]) Q E s := by
  refine callType_new F.called_enumerate (by decide) (F.typeCall_enumerate_1 _) (F.newCall_enumerate_1 _) (fun obj => F.args_object_init_2 obj _) F.entry_enumerate_new
    (meets_enumerate_new1 (begins_tuple t items)) ⟨hL, ?_⟩
  have hz : (s.heap.push ({ cls := .type "tuple_iterator", data := .fields #[.ref t, .int 0 0] } : PySem.Obj)).objs.size = s.heap.objs.size + 1 := Heap.size_push ..
  show _ ∧ _
  rw [hz]
  have he : IsEnum ((s.heap.push { cls := .type "tuple_iterator", data := .fields #[.ref t, .int 0 0] }).push
      { cls := .type "enumerate", data := .fields #[.none, .bool false, .ref s.heap.objs.size, rawInt 0, .none, .none] }) (s.heap.objs.size + 1) s.heap.objs.size 0 .none := by
    have := Heap.get?_push_size (s.heap.push { cls := .type "tuple_iterator", data := .fields #[.ref t, .int 0 0] })
      (o := { cls := .type "enumerate", data := .fields #[.none, .bool false, .ref s.heap.objs.size, rawInt 0, .none, .none] }) rfl
    rw [hz] at this; exact this
  refine ⟨⟨_, he, rfl⟩, h _ he ⟨_, Heap.get?_push_of_some _ (Heap.get?_push_size _ rfl), rfl, rfl⟩ (by rw [Heap.size_push, hz]) fun b o x => Heap.get?_push_of_some _ (Heap.get?_push_of_some _ x)⟩
end
/-- the turns of an enumerate over an iterator that is told by what it draws -/
theorem turn_of {P : Program} {w : World} {K : PySem.W.Frag} {elts : List PySem.Expr} {kk : Nat} {tpos : Pos} {J : It} {e it : Addr} {Sit : Nat → Heap → Prop} {n : Nat}
    (hobj : ∀ i h, Sit i h → ∃ o, h.get? it = some o ∧ ∀ v, o.data ≠ .cell v) (hkeep : ∀ i h h', Sit i h → (∀ o, h.get? it = some o → h'.get? it = some o) → Sit i h')
    (hit : ∀ (X : Cx), X.prog = P → X.w = w → X.K = K → X.calm = true → ∀ (i : Nat) (pins : List (Addr × PySem.Obj)) (s : Shared) (σ : L2.St) (H : Hp), Inv X pins σ H s → Sit i s.heap → e ≠ it → (∃ o, s.heap.get? e = some o ∧ o.cls = .type "enumerate") →
      (J.go i H → ∃ (fp : List Addr) (m : Nat) (Pv : Nat → Value → Prop) (St : Nat → Heap → Prop), Draws X.prog X.w X.A.in1 it fp m Pv St ∧ St i s.heap ∧ i < m ∧ e ∉ fp ∧ (∀ h, St (i + 1) h → Sit (i + 1) h) ∧ ∀ u, Pv i u → ∃ x, RelV x u ∧ ∀ T, H T = none → J.yld i H (.ref T) (upd H T (.tup [.int (i : Nat), x]))) ∧
      (J.stop i H → ∃ (fp : List Addr) (m : Nat) (Pv : Nat → Value → Prop) (St : Nat → Heap → Prop), Draws X.prog X.w X.A.in1 it fp m Pv St ∧ St m s.heap)) :
    Turn P w K (.Tuple elts kk tpos) J [e, it] e (fun i h => (∃ old, IsEnum h e it ((i : Nat) : Int) old) ∧ Sit i h ∧ e ≠ it) where
  mem := by simp
  obj := fun i h st b hb => by
    obtain ⟨⟨old, he⟩, hs, _⟩ := st
    have e' : b = e ∨ b = it := by simpa using hb
    rcases e' with z | z
    · rw [z]; exact ⟨_, he, fun v q => nomatch q⟩
    · rw [z]; exact hobj i h hs
  keep := fun i h h' st k => let ⟨⟨old, he⟩, hi, hne⟩ := st; ⟨⟨old, k e (by simp) _ he⟩, hkeep i h h' hi fun o q => k it (by simp) o q, hne⟩
  item := by
    intro X hP hw hK hc i pins s σ H E I hf st hg
    obtain ⟨⟨old, he⟩, hs, hne⟩ := st
    obtain ⟨fp, m, Pv, St, D, h1, h2, h3, h4, h5⟩ := (hit X hP hw hK hc i pins s σ H I hs hne ⟨_, he, rfl⟩).1 hg
    subst hP hw hK
    have hel : e < s.heap.objs.size := Heap.lt_size he
    have hil : it < s.heap.objs.size := by obtain ⟨o, q, _⟩ := hobj i _ hs; exact Heap.lt_size q
    refine wpAny_pyNext_enum_itemC D he h1 h2 hne h3 fun u h' tk hP ho hs' hT hsz hk => ?_
    obtain ⟨x, ru, hy⟩ := h5 u hP
    refine ⟨_, rfl, wpAny_letOwnedTupleGo_enum (s := { s with heap := h', toks := tk + 1 }) ho fun h'' he' sb => ?_⟩
    have hT2 : h''.get? s.heap.objs.size = some { cls := .type "tuple", data := .seq #[.int i tk, u] } := (sb.2 _ (Nat.ne_of_gt hel)).trans hT
    have new : ObjOk X.prog X.w (upd H s.heap.objs.size (.tup [.int (i : Nat), x])) h'' s.heap.objs.size (.tup [.int (i : Nat), x]) :=
      ⟨by show 2 ≤ sizeLine; decide, [.int i tk, u], .cons ⟨_, rfl⟩ (.cons ru .nil), ⟨_, hT2, rfl, _, rfl⟩⟩
    have I1 : Inv X pins σ (upd H s.heap.objs.size (.tup [.int (i : Nat), x])) { s with heap := h'', toks := tk + 1 } :=
      I.turnedNew (ch := [e, it]) (fun b ob hb q => (sb.2 b (fun z => hb (by simp [z]))).trans (hk b ob (fun z => hb (by simp [z])) (fun z => hb (by simp [z])) q)) hf (Nat.le_refl _) new
    have hst : Sit (i + 1) h'' := hkeep _ _ _ (h4 h' hs') fun o q => (sb.2 it (Ne.symm hne)).trans q
    refine ⟨.ref s.heap.objs.size, _, I1, rfl, hy _ (I.hok.fresh (Nat.le_refl _)), ⟨⟨u, ?_⟩, hst, hne⟩, fun b hb => ?_⟩
    · have e1 : ((i + 1 : Nat) : Int) = (i : Int) + 1 := by omega
      rw [e1]; exact he'
    · have hb' : b < s.heap.objs.size := by
        have e' : b = e ∨ b = it := by simpa using hb
        rcases e' with z | z
        · rw [z]; exact hel
        · rw [z]; exact hil
      rw [upd_ne (Nat.ne_of_lt hb')]
      exact (hf b hb).1
  done := by
    intro X hP hw hK hc i pins s σ H E I hf st hg
    obtain ⟨⟨old, he⟩, hs, hne⟩ := st
    obtain ⟨fp, m, Pv, St, D, h1⟩ := (hit X hP hw hK hc i pins s σ H I hs hne ⟨_, he, rfl⟩).2 hg
    subst hP hw hK
    obtain ⟨f0, f1, f2, f3, f4, f5⟩ := hf it (by simp)
    exact wpAny_pyNext_enum_endD D he h1 fun h' eb => ⟨rfl, I.turned (t' := s.toks) (fun b o hb q => eb b o hb q) f0 f1 f3 f4 f5⟩
  self := fun A i s Q E st h => let ⟨⟨_, he⟩, _⟩ := st; wpAny_pyIter_enum he h
/-- the tuple at a, each item in a new pair -/
def ItT (K : PySem.W.Frag) (a : Addr) : It :=
  ⟨fun i H => ∃ (xs : List V) (x : V), SqT K H a xs ∧ xs[i]? = some x, fun i H v H' => ∃ T x, v = .ref T ∧ H T = none ∧ H' = upd H T (.tup [.int (i : Nat), x]) ∧ ∀ xs, SqT K H a xs → xs[i]? = some x, fun i H => ∃ xs : List V, SqT K H a xs ∧ xs.length ≤ i⟩
theorem turn_tup {P : Program} {w : World} {K : PySem.W.Frag} {elts : List PySem.Expr} {kk : Nat} {tpos : Pos} (a e it : Addr) :
    Turn P w K (.Tuple elts kk tpos) (ItT K a) [e, it] e (fun i h => (∃ old, IsEnum h e it ((i : Nat) : Int) old) ∧ h.IsTupleIter it a i ∧ e ≠ it) := by
  refine turn_of (n := 0) (fun i h st => ?_) (fun i h h' st k => st.at k) ?_
  · obtain ⟨o, ho, hc, hd⟩ := st
    exact ⟨o, ho, fun v q => by rw [hd] at q; cases q⟩
  · intro X hP hw hK hc i pins s σ H I hs hne ⟨oe, hoe, hce⟩
    subst hP hw hK
    have nt : ∀ {items : Array Value}, IsTup s.heap a items → a ≠ it ∧ e ≠ a := fun {items} p => by
      obtain ⟨ot, hot, hct, hdt⟩ := p
      obtain ⟨oi, hoi, hci, hdi⟩ := id hs
      refine ⟨fun z => ?_, fun z => ?_⟩
      · rw [z, hoi] at hot
        cases hot
        rw [hci] at hct
        exact absurd (Value.type.inj hct) (by decide)
      · rw [← z, hoe] at hot
        cases hot
        rw [hce] at hct
        exact absurd (Value.type.inj hct) (by decide)
    refine ⟨fun hg => ?_, fun hg => ?_⟩
    · obtain ⟨xs, x, hq, hx⟩ := hg
      obtain ⟨its, rv, p, hz⟩ := I.tuple hq
      obtain ⟨u, hu, ru⟩ := rv.get hx
      obtain ⟨hai, hae⟩ := nt p
      refine ⟨[it, a], its.toArray.size, fun i v => its.toArray[i]? = some v, fun i h => h.IsTupleIter it a i ∧ h.IsTuple a its.toArray, Draws.tuple (A := X.A.in1) (I.ok.hd hc) it a hai its.toArray, ⟨hs, p⟩, ?_, ?_, fun h q => q.1, fun u' hu' => ?_⟩
      · rw [List.size_toArray]
        exact (List.getElem?_eq_some_iff.mp hu).1
      · simp [hne, hae]
      · have : u' = u := by
          have h1 : its.toArray[i]? = some u' := hu'
          rw [List.getElem?_toArray, hu] at h1
          exact (Option.some.inj h1).symm
        subst this
        exact ⟨x, ru, fun T hT => ⟨T, x, rfl, hT, rfl, fun ys hy => by rw [I.tuple_inj hy hq]; exact hx⟩⟩
    · obtain ⟨xs, hq, hx⟩ := hg
      obtain ⟨its, rv, p, hz⟩ := I.tuple hq
      obtain ⟨hai, hae⟩ := nt p
      have hl := rv.length
      refine ⟨[it, a], i, fun _ _ => True, fun j h => j = i ∧ h.IsTupleIter it a i ∧ h.IsTuple a its.toArray, ⟨fun j h st => let ⟨o, ho, _⟩ := st.2.1; ⟨o, ho⟩, fun j h h' st hk => ⟨st.1, st.2.1.at fun o e => hk it (by simp) o e, st.2.2.at fun o e => hk a (by simp) o e⟩, fun j s Q E hj st hQ => absurd st.1 (Nat.ne_of_lt hj), fun s Q E st hE => wpAny_nextOf_tuple_end (A := X.A.in1) (I.ok.hd hc) st.2.1 st.2.2 ?_ hE⟩, rfl, hs, p⟩
      rw [List.getElem?_toArray]
      exact List.getElem?_eq_none (by omega)
def iEnumT (K : PySem.W.Frag) (ta : TA) : TI := fun σ H R => ta σ H fun vs H1 => ∃ a xs, vs = [.ref a] ∧ SqT K H1 a xs ∧ R (ItT K a) H1
theorem pi_enumT {X : Cx} {K : PySem.W.Frag} {e : PySem.Expr} {ta : TA} {p pos tpos : Pos} {elts : List PySem.Expr} {kk : Nat} (hK : X.K = K) (hg : Gl X "enumerate") (hm : X.mg "enumerate" = none) (ha : PA X [e] ta) (hs : starEach [e] X.env = [(false, eval e X.env)] := by rfl) :
    PI X (.Tuple elts kk tpos) (.Call (.Name "enumerate" p) [e] [] pos) (iEnumT K ta) := by
  subst hK
  refine ⟨fun pins s σ H R I h => ?_⟩
  refine Call_ (ld_blt I hg hm boot_enumerate (PyProof.Rows.callWith_type1 (thn (ha.run pos pins s σ H _ I h) fun us s1 ⟨vs, H1, I1, r1, q1⟩ => ?_) hs rfl))
  obtain ⟨a, xs, ex, hq, q⟩ := q1
  subst ex
  cases r1 with
  | cons r rr =>
    cases rr
    cases r
    obtain ⟨its, rv, p', hz⟩ := I1.tuple hq
    refine call_enumerate_tuple p' fun h' he hit hsz hk => wpAny_pyIter_enum he ?_
    have I2 : Inv X pins σ H1 { s1 with heap := h' } := I1.kept (t' := s1.toks) hk
    refine ⟨s1.heap.objs.size + 1, [s1.heap.objs.size + 1, s1.heap.objs.size], _, _, H1, rfl, I2, turn_tup a (s1.heap.objs.size + 1) s1.heap.objs.size, ⟨⟨.none, he⟩, hit, Nat.succ_ne_self _⟩, fun b hb => ?_, q⟩
    have e' : b = s1.heap.objs.size + 1 ∨ b = s1.heap.objs.size := by simpa using hb
    have hle : s1.heap.objs.size ≤ b := by
      rcases e' with z | z
      · rw [z]; exact Nat.le_add_right _ _
      · rw [z]; exact Nat.le_refl _
    exact I1.fpOk hle (I1.hok.fresh hle)
/-- a text, each sign in a new pair -/
def ItS (x : Str) : It :=
  ⟨fun i _ => i < x.cps.size, fun i H v H' => ∃ T c, v = .ref T ∧ H T = none ∧ H' = upd H T (.tup [.int (i : Nat), .str ⟨#[c]⟩]) ∧ x.cps[i]? = some c, fun i _ => x.cps.size ≤ i⟩
theorem str_end {prog : Program} {w : World} {A : Around} {E : Value → Shared → Prop} {s : Shared} {it : Addr} {x : Str} {t : Tok} {i : Nat} {Q : Value → Shared → Prop} (hh : A.handled = none) (hit : s.heap.IsStrIter it (strIterType x) x t i) (hx : x.cps[i]? = none)
    (hE : ∀ h' e, Heap.ExtBut it s.heap h' → (∃ o, h'.get? e = some o ∧ o.cls = .type "StopIteration") → E (.ref e) { s with heap := h' }) : wpAny (model prog w) A (Builtin.SmallTypes.nextOf (.ref it)) Q E s := by
  cases ha : x.cps.all (· < 128)
  · simp only [strIterType, ha, Bool.false_eq_true, if_false] at hit
    exact wpAny_nextOf_wide_end hh hit hx hE
  · simp only [strIterType, ha, if_true] at hit
    exact wpAny_nextOf_ascii_end hh hit hx hE
theorem turn_str {P : Program} {w : World} {K : PySem.W.Frag} {elts : List PySem.Expr} {kk : Nat} {tpos : Pos} (x : Str) (t : Tok) (e it : Addr) :
    Turn P w K (.Tuple elts kk tpos) (ItS x) [e, it] e (fun i h => (∃ old, IsEnum h e it ((i : Nat) : Int) old) ∧ h.IsStrIter it (strIterType x) x t i ∧ e ≠ it) := by
  refine turn_of (n := 0) (fun i h st => ?_) (fun i h h' st k => let ⟨o, ho, r⟩ := st; ⟨o, k o ho, r⟩) ?_
  · obtain ⟨o, ho, hc, hd⟩ := st
    exact ⟨o, ho, fun v q => by rw [hd] at q; cases q⟩
  · intro X hP hw hK hc i pins s σ H I hs hne ⟨oe, hoe, hce⟩
    subst hP hw hK
    refine ⟨fun hg => ?_, fun hg => ?_⟩
    · refine ⟨[it], _, _, _, Draws.text (A := X.A.in1) (I.ok.hd hc) it x t, hs, hg, by simp [hne], fun h q => q, fun u hu => ?_⟩
      obtain ⟨c, tk, hcx, rfl⟩ := hu
      exact ⟨.str ⟨#[c]⟩, ⟨tk, rfl⟩, fun T hT => ⟨T, c, rfl, hT, rfl, hcx⟩⟩
    · refine ⟨[it], i, fun _ _ => True, fun j h => j = i ∧ h.IsStrIter it (strIterType x) x t i, ⟨fun j h st => let ⟨o, ho, _⟩ := st.2; ⟨o, ho⟩, fun j h h' st hk => let ⟨e, o, ho, r⟩ := st; ⟨e, o, hk it (by simp) o ho, r⟩, fun j s Q E hj st hQ => absurd st.1 (Nat.ne_of_lt hj), fun s Q E st hE => str_end (A := X.A.in1) (I.ok.hd hc) st.2 ?_ hE⟩, rfl, hs⟩
      exact Array.getElem?_eq_none hg
def iEnumS (ta : TA) : TI := fun σ H R => ta σ H fun vs H1 => ∃ x, vs = [.str x] ∧ R (ItS x) H1
theorem pi_enumS {X : Cx} {e : PySem.Expr} {ta : TA} {p pos tpos : Pos} {elts : List PySem.Expr} {kk : Nat} (hg : Gl X "enumerate") (hm : X.mg "enumerate" = none) (ha : PA X [e] ta) (hs : starEach [e] X.env = [(false, eval e X.env)] := by rfl) :
    PI X (.Tuple elts kk tpos) (.Call (.Name "enumerate" p) [e] [] pos) (iEnumS ta) := by
  refine ⟨fun pins s σ H R I h => ?_⟩
  refine Call_ (ld_blt I hg hm boot_enumerate (PyProof.Rows.callWith_type1 (thn (ha.run pos pins s σ H _ I h) fun us s1 ⟨vs, H1, I1, r1, q1⟩ => ?_) hs rfl))
  obtain ⟨x, ex, q⟩ := q1
  subst ex
  cases r1 with
  | cons r rr =>
    cases rr
    obtain ⟨t, rfl⟩ := r
    refine call_enumerate_str fun h' he hit hsz hk => wpAny_pyIter_enum he ?_
    have I2 : Inv X pins σ H1 { s1 with heap := h' } := I1.kept (t' := s1.toks) hk
    refine ⟨s1.heap.objs.size + 1, [s1.heap.objs.size + 1, s1.heap.objs.size], _, _, H1, rfl, I2, turn_str x t (s1.heap.objs.size + 1) s1.heap.objs.size, ⟨⟨.none, he⟩, hit, Nat.succ_ne_self _⟩, fun b hb => ?_, q⟩
    have e' : b = s1.heap.objs.size + 1 ∨ b = s1.heap.objs.size := by simpa using hb
    have hle : s1.heap.objs.size ≤ b := by
      rcases e' with z | z
      · rw [z]; exact Nat.le_add_right _ _
      · rw [z]; exact Nat.le_refl _
    exact I1.fpOk hle (I1.hok.fresh hle)
end BN
namespace B
open PySem L2
section
variable {K : PySem.W.Frag} {W : Type} {R : Rs W} {C : Cl} {κ : List Kd}
/-- the items with their places -/
def enumFrom : Nat → List D → List D
  | _, [] => []
  | n, d :: ds => .tuple [.int (n : Nat), d] :: enumFrom (n + 1) ds
theorem enumFrom_get : ∀ {ds : List D} {n i : Nat} {e : D}, (enumFrom n ds)[i]? = some e → ∃ d, ds[i]? = some d ∧ e = .tuple [.int ((n + i : Nat) : Int), d]
  | [], _, _, _, h => by simp [enumFrom] at h
  | d :: ds, n, 0, e, h => by
    simp [enumFrom] at h
    exact ⟨d, rfl, h.symm⟩
  | d :: ds, n, i + 1, e, h => by
    simp only [enumFrom, List.getElem?_cons_succ] at h
    obtain ⟨d', h1, h2⟩ := enumFrom_get h
    refine ⟨d', by simpa using h1, ?_⟩
    rw [h2]
    congr 3
    omega
theorem enumFrom_len : ∀ (ds : List D) (n : Nat), (enumFrom n ds).length = ds.length
  | [], _ => rfl
  | _ :: ds, n => by simp [enumFrom, enumFrom_len ds]
def enD : List D → M W (List D)
  | [.tuple ds] => ret (enumFrom 0 ds)
  | _ => stk
def enL : List D → M W (List D)
  | [.list ds] => ret (enumFrom 0 ds)
  | _ => stk
def enS : List D → M W (List D)
  | [.str x] => ret (enumFrom 0 (signsOf x))
  | _ => stk
def srcEnT (m : Rho → M W (List D)) : Rho → M W (List D) := fun ρ => bnd (m ρ) enD
def srcEnL (m : Rho → M W (List D)) : Rho → M W (List D) := fun ρ => bnd (m ρ) enL
def srcEnS (m : Rho → M W (List D)) : Rho → M W (List D) := fun ρ => bnd (m ρ) enS
theorem okEnT {ta : TA} {m : Rho → M W (List D)} (h : OkA K R C κ ta [.dat] m) : OkI K R C κ (BN.iEnumT K ta) (srcEnT m) := by
  intro S0 H0 w0 S H σ ρ w Rf rl q
  refine h S0 H0 w0 S H σ ρ w _ rl ?_
  unfold srcEnT at q
  cases e : m ρ w with
  | stuck => simp only [bnd_stuck e] at q; exact q.elim
  | exc c fs w1 => simp only [bnd_exc e] at q; exact q
  | ok ds w1 =>
    simp only [bnd_ok e] at q
    intro vs S1 H1 r1 s1 o1
    unfold enD at q
    split at q
    · cases o1 with
      | cons g1 g2 =>
        cases g2
        cases g1 with
        | tup a1 a2 =>
          refine ⟨_, _, rfl, sqT_sub r1.out.sub a1, q _ S1 H1 r1 s1 fun i S2 H2 w2 o2 s2 => ?_⟩
          have hA := sqT_sub (fun a o z => o2.sub a o (s2 a o z)) a1
          refine ⟨fun hi => ⟨_, hA, ?_⟩, fun d hd => ?_⟩
          · rw [enumFrom_len] at hi
            rw [dvs_len a2]
            exact hi
          · obtain ⟨da, e1, rfl⟩ := enumFrom_get hd
            obtain ⟨va, f1, f2⟩ := dvs_get a2 e1
            refine ⟨⟨_, _, hA, f1⟩, fun x H' hy => ?_⟩
            obtain ⟨T, x1, rfl, hT, rfl, y1⟩ := hy
            have z1 := y1 _ hA
            rw [f1] at z1
            cases z1
            refine .inr ⟨T, _, _, hT, rfl, rfl, rfl, .cons ?_ (.cons (dp_mono s2 _ _ f2) .nil)⟩
            rw [Nat.zero_add]
            exact .int _
    · exact q.elim
theorem okEnL {ta : TA} {m : Rho → M W (List D)} (h : OkA K R C κ ta [.dat] m) : OkI K R C κ (iEnum K ta) (srcEnL m) := by
  intro S0 H0 w0 S H σ ρ w Rf rl q
  refine h S0 H0 w0 S H σ ρ w _ rl ?_
  unfold srcEnL at q
  cases e : m ρ w with
  | stuck => simp only [bnd_stuck e] at q; exact q.elim
  | exc c fs w1 => simp only [bnd_exc e] at q; exact q
  | ok ds w1 =>
    simp only [bnd_ok e] at q
    intro vs S1 H1 r1 s1 o1
    unfold enL at q
    split at q
    · cases o1 with
      | cons g1 g2 =>
        cases g2
        cases g1 with
        | lst a1 a2 =>
          refine ⟨_, _, rfl, SqL.of (r1.out.sub _ _ a1), q _ S1 H1 r1 s1 fun i S2 H2 w2 o2 s2 => ?_⟩
          have hA : SqL K H2 _ _ := SqL.of (o2.sub _ _ (s2 _ _ a1))
          refine ⟨fun hi => ⟨_, hA, ?_⟩, fun d hd => ?_⟩
          · rw [enumFrom_len] at hi
            rw [dvs_len a2]
            exact hi
          · obtain ⟨da, e1, rfl⟩ := enumFrom_get hd
            obtain ⟨va, f1, f2⟩ := dvs_get a2 e1
            refine ⟨⟨_, _, hA, f1⟩, fun x H' hy => ?_⟩
            obtain ⟨T, x1, rfl, hT, rfl, y1⟩ := hy
            have z1 := y1 _ hA
            rw [f1] at z1
            cases z1
            refine .inr ⟨T, _, _, hT, rfl, rfl, rfl, .cons ?_ (.cons (dp_mono s2 _ _ f2) .nil)⟩
            rw [Nat.zero_add]
            exact .int _
    · exact q.elim
theorem okEnS {ta : TA} {m : Rho → M W (List D)} (h : OkA K R C κ ta [.dat] m) : OkI K R C κ (BN.iEnumS ta) (srcEnS m) := by
  intro S0 H0 w0 S H σ ρ w Rf rl q
  refine h S0 H0 w0 S H σ ρ w _ rl ?_
  unfold srcEnS at q
  cases e : m ρ w with
  | stuck => simp only [bnd_stuck e] at q; exact q.elim
  | exc c fs w1 => simp only [bnd_exc e] at q; exact q
  | ok ds w1 =>
    simp only [bnd_ok e] at q
    intro vs S1 H1 r1 s1 o1
    unfold enS at q
    split at q
    · rename_i x
      cases o1 with
      | cons g1 g2 =>
        cases g2
        cases g1
        refine ⟨x, rfl, q _ S1 H1 r1 s1 fun i S2 H2 w2 o2 s2 => ⟨fun hi => ?_, fun d hd => ?_⟩⟩
        · rw [enumFrom_len] at hi
          unfold signsOf at hi
          rw [List.length_map, Array.length_toList] at hi
          exact hi
        · obtain ⟨da, e1, rfl⟩ := enumFrom_get hd
          unfold signsOf at e1
          rw [List.getElem?_map, Array.getElem?_toList] at e1
          cases e2 : x.cps[i]? with
          | none => rw [e2] at e1; cases e1
          | some c =>
            rw [e2] at e1
            cases e1
            refine ⟨(Array.getElem?_eq_some_iff.mp e2).1, fun y H' hy => ?_⟩
            obtain ⟨T, c', rfl, hT, rfl, y1⟩ := hy
            rw [e2] at y1
            cases y1
            refine .inr ⟨T, _, _, hT, rfl, rfl, rfl, .cons ?_ (.cons (.str _) .nil)⟩
            rw [Nat.zero_add]
            exact .int _
    · exact q.elim
theorem kEnL {X : Cx} {e : PySem.Expr} {ta : TA} {p pos tpos : Pos} {elts : List PySem.Expr} {kk : Nat} (hK : X.K = K) (hg : Gl X "enumerate") (hm : X.mg "enumerate" = none) (ha : PA X [e] ta) (hs : starEach [e] X.env = [(false, eval e X.env)] := by rfl) :
    PI X (.Tuple elts kk tpos) (.Call (.Name "enumerate" p) [e] [] pos) (iEnum K ta) := by subst hK; exact pi_enum hg hm ha hs
end
end B

/-! an error that leaves a list comprehension -/
namespace BL
open PySem PySem.Spec PyProof.Rows L2
section
variable {M : Model} {A : Around} {E : Value → Shared → Prop} {s : Shared} {env : Env}
/-- what is wanted behind a comprehension's block -/
def cpX (M : Model) (A : Around) (E : Value → Shared → Prop) (use : Option (Value → Sem Unit)) (Q : Value → Shared → Prop) (acc : Value) (cenv : Env) (r : Result) (s' : Shared) : Prop :=
  match r, use with
  | .ok _, none => ∃ m, s'.heap.Ns cenv.locals m ∧ ∀ h', Heap.SameBut cenv.locals s'.heap h' → Q acc { s' with heap := h' }
  | .ok _, some u => wpAny M A (u acc) (fun _ s'' => ∃ m, s''.heap.Ns cenv.locals m ∧ ∀ h', Heap.SameBut cenv.locals s''.heap h' → Q .none { s'' with heap := h' }) E s'
  | .error x, _ => ∃ m, s'.heap.Ns cenv.locals m ∧ ∀ h', Heap.SameBut cenv.locals s'.heap h' → wpAny M A (passOn "comprehension.variables-let-go" x cenv : Sem Value) (fun _ _ => False) E { s' with heap := h' }
theorem comprehension_x {e : PySem.Expr} {scope : Scope} {pos : Pos} {newAcc first : Sem Value} {g : Comprehension} {gs : List Comprehension} {cl : List (Str × Addr)} {use : Option (Value → Sem Unit)}
    {Q : Value → Shared → Prop}
    (hcl : clausesOf e = g :: gs) (hs : ∀ x, foldedSetIterable g.iter env x = pure x) (hclos : closureFor scope env = pure cl)
    (hkind : scope.kind = .function) (hnames : ∀ x ∈ scope.names, x.2 = .local → scope.names.lookup x.1 = some .local)
    (h : wpAny M A first (fun x s₁ => wpAny M A (pyIter x) (fun it s₂ => wpAny M A newAcc (fun acc s₃ =>
      wpAny M A (newFunctionEnv scope env.globals cl [] env.qual none .none (some env)) (fun cenv s₄ =>
        codeAny M A (.compStart e 0 it acc { cenv with scope := relabel scope env }) (cpX M A E use Q acc { cenv with scope := relabel scope env }) s₄) E s₃) E s₂) E s₁) E s) :
    wpAny M A (comprehension e scope env pos newAcc false first use) Q E s := by
  unfold comprehension
  rw [hclos, hcl]
  refine wpAny_bind (wpAny_mono h (fun x s₁ h₁ => wpAny_bind (wpAny_standAt (wpAny_bind (wpAny_of_eq (hs x) (wpAny_bind (wpAny_holding (wpAny_mono h₁ (fun it s₂ h₂ =>
    wpAny_standIf (wpAny_bind (wpAny_mono h₂ (fun acc s₃ h₃ => wpAny_bind (wpAny_pure (wpAny_bind (wpAny_mono h₃ (fun cenv s₄ h₄ => ?_) fun _ _ h' => h')))) fun _ _ h' => h')))
      fun _ _ h' => h'))))))) fun _ _ h' => h')
  dsimp only
  have hv : ∀ x ∈ (scope.names.filter fun x => (x.2 == .local || x.2 == .cell) && x.1 != (".0" : Str)).reverse, x.2 = .local →
      Env.kindOf { cenv with scope := relabel scope env } x.1 = some .local := fun x hx hl => lookup_relabel_local (hnames x (List.mem_filter.mp (List.mem_reverse.mp hx)).1 hl)
  have hv' : ∀ x ∈ (scope.names.filter fun x => (x.2 == .local || x.2 == .cell) && x.1 != (".0" : Str)).reverse.drop 1 ++ (scope.names.filter fun x => (x.2 == .local || x.2 == .cell) && x.1 != (".0" : Str)).reverse.take 1,
      x.2 = .local → Env.kindOf { cenv with scope := relabel scope env } x.1 = some .local := fun x hx hl => by
    rcases List.mem_append.mp hx with h1 | h1
    · exact hv x (List.mem_of_mem_drop h1) hl
    · exact hv x (List.mem_of_mem_take h1) hl
  refine wpAny_holding (wpAny_bind (wpAny_attempt (wpAny_holding (wpAny_run (codeAny_mono h₄ fun r s' hr => ?_)))))
  cases r with
  | ok f =>
    cases use with
    | none =>
      obtain ⟨m, hn, hr⟩ := hr
      exact wpAny_bind (wpAny_holding (wpAny_comp_letGo (cenv := { cenv with scope := relabel scope env }) hkind _ s' m hv hn fun h' m' _ hs' => wpAny_pure (hr h' hs')))
    | some u =>
      refine wpAny_bind (wpAny_rule (wpAny_bind (wpAny_holding (wpAny_mono hr (fun _ s'' hr' => ?_) fun _ _ h' => h'))))
      obtain ⟨m, hn, hr'⟩ := hr'
      exact wpAny_bind (wpAny_comp_letGo (cenv := { cenv with scope := relabel scope env }) hkind _ s'' m hv' hn fun h' m' _ hs' => wpAny_pure (hr' h' hs'))
  | error x =>
    have hr' : ∃ m, s'.heap.Ns cenv.locals m ∧ ∀ h', Heap.SameBut cenv.locals s'.heap h' → wpAny M A (passOn "comprehension.variables-let-go" x { cenv with scope := relabel scope env } : Sem Value) (fun _ _ => False) E { s' with heap := h' } := by cases use <;> exact hr
    obtain ⟨m, hn, hr⟩ := hr'
    exact wpAny_bind (wpAny_holding (wpAny_comp_letGo (cenv := { cenv with scope := relabel scope env }) hkind _ s' m hv hn fun h' m' _ hs' => wpAny_mono (hr h' hs') (fun _ _ f => f.elim) fun _ _ y => y))
end
section
variable {M : Model} {A : Around} {E : Value → Shared → Prop} {s : Shared} {env : Env} {outer : List Env} {L C : Addr} {base : Heap} {e : Addr} {Z : PySem.Obj → Prop} {fl : Value}
theorem note_same {env2 : Env} (h : env2.frame = env.frame) (x : Value) : noteFrame x env2 = noteFrame x env := by
  unfold noteFrame PySem.frameOf
  rw [h]
/-- noted by this frame: an exception whose flight is something else -/
theorem looks_anyZ {Q : Unit → Shared → Prop} (hZ : HandSPX.Steady Z) (hfr : A.frames = some (env :: outer)) (hf : env.frame = some L) (hkb : base.StaysIn s.heap) (hen : base.get? e = none) (hl : s.heap.FunFrames base (env :: outer)) (ht : HandSPX.TracedZ s.heap base e Z fl)
    (hne : (fl == rawInt L) = false) (hQ : ∀ h', HandSPX.HeldZ base (env :: outer) e Z L h' → s.heap.UpToSlots h' → Q () { s with heap := h' }) : wpAny M A (noteFrame (.ref e) env) Q E s := by
  obtain ⟨oe, vs, T, oT, ts, he, hz, hd, h1, hnT, hTe, hT, hdT, h3⟩ := ht
  unfold noteFrame
  simp only [hf]
  refine wpAny_bind (wpAny_field he hd h1 ?_)
  rw [if_pos (show (Value.ref T != Value.none) = true from by simp)]
  refine wpAny_bind (wpAny_field hT hdT h3 ?_)
  rw [if_neg (show ¬ ((fl == rawInt L) = true) from by rw [hne]; exact Bool.false_ne_true)]
  refine wpAny_bind (wpAny_setField hT hdT (Array.getElem?_eq_some_iff.mp h3).1 ?_)
  have other : ∀ b, b ≠ T → (s.heap.update T (Obj.mapFields (·.setIfInBounds 3 Value.none))).get? b = s.heap.get? b := fun b hb => Heap.get?_update_other _ _ (Ne.symm hb)
  have noRecord : ∀ b o, s.heap.get? b = some o → (∀ vs, o.data ≠ .fields vs) → b ≠ T := fun b o hb hnf q => by
    rw [q, hT] at hb; injection hb with hb; subst hb; exact hnf ts hdT
  refine HandSPX.wpAny_entryZ hZ hfr (hl.of_keeps fun b o hb hnf => ⟨o, (other b (noRecord b o hb hnf)).trans hb, rfl⟩) hf ((other e (Ne.symm hTe)).trans he)
    (fun b o hbo => (other b fun q => by rw [q, hnT] at hbo; cases hbo).trans (hkb b o hbo)) hen hd (Array.getElem?_eq_some_iff.mp h1).1 hz fun h' hN => ?_
  obtain ⟨x1, x2, x3, x4⟩ := hN
  exact hQ h' ⟨x1, hen, x2, x3⟩ fun b o hb hnf => x4 b o ((other b (noRecord b o hb hnf)).trans hb) hnf
/-- an exception that is in the air over this frame is noted by it -/
theorem sky_held {E₁ : Value → Shared → Prop} {a : Addr} {B : Heap} {Q : Unit → Shared → Prop} (hZ : HandSPX.Steady Z) (hfr : A.frames = some (env :: outer)) (hf : env.frame = some L) (x : Sky B (env :: outer) a Z C s.heap)
    (hQ : ∀ h', HandSPX.HeldZ B (env :: outer) a Z L h' → s.heap.UpToSlots h' → Q () { s with heap := h' }) : wpAny M A (noteFrame (.ref a) env) Q E₁ s := by
  rcases x with ⟨hB, hn, hl, oe, vs, he, hz, hd, h1⟩ | ⟨f1, f2, f3, f4⟩ | ⟨f1, f2, f3, f4⟩
  · exact HandSPX.look_newZ hZ hfr hl hf he hB hn hd h1 hz hQ
  · exact HandSPX.looks_onZ hZ hfr hf ⟨f1, f2, f3, f4⟩ hQ
  · by_cases hc : (rawInt C == rawInt L) = true
    · have e2 : rawInt C = rawInt L := eq_of_beq hc
      rw [e2] at f4
      exact HandSPX.againZ hf f4 (hQ s.heap ⟨f1, f2, f3, f4⟩ (Heap.UpToSlots.refl _))
    · exact looks_anyZ hZ hfr hf f1 f2 f3 f4 (Bool.eq_false_iff.mpr hc) hQ
end
theorem frames_but {h1 h2 B : Heap} {C : Addr} (sb : Heap.SameBut C h1 h2) : ∀ {l : List Env}, h1.FunFrames B l → (∀ b ∈ frs l, b ≠ C) → h2.FunFrames (PySem.W.hideAll B [C]) l
  | [], _, _ => trivial
  | env :: l, ⟨h1, ⟨L, o, h2, h3, h4, h5⟩, h6⟩, hn => by
    have hL : L ≠ C := hn L (List.mem_filterMap.mpr ⟨env, List.mem_cons_self, h2⟩)
    refine ⟨h1, ⟨L, o, h2, ?_, (sb.2 L hL).trans h4, h5⟩, frames_but sb h6 fun b hb => ?_⟩
    · cases q : (PySem.W.hideAll B [C]).get? L with
      | none => rfl
      | some o => rw [PySem.W.of_hideAll _ q] at h3; cases h3
    · obtain ⟨e, he, q⟩ := List.mem_filterMap.mp hb
      exact hn b (List.mem_filterMap.mpr ⟨e, List.mem_cons_of_mem _ he, q⟩)
section
variable {X : Cx} {pins : List (Addr × PySem.Obj)} {σ : L2.St} {H3 : Hp} {s3 : Shared} {scope : Scope} {ce : Env} {fp : List Addr} {W : WX} {e0 : Env} {o0 : List Env} {L0 : Addr} {use : Option (Value → Sem Unit)} {Qf : Value → Shared → Prop} {acc : Value}
/-- what leaves the block leaves the comprehension -/
theorem takes_blk {E' : Value → Shared → Prop} (hE : E' = notedBy (model X.prog X.w) X.A ce fun e s' => cpX (model X.prog X.w) X.A X.xe use Qf acc ce (.error e) s') (tk : Takes X W) (hst : X.stack = e0 :: o0) (hf0 : e0.frame = some L0) (hloc : X.env.locals = L0) (hcf : ce.frame = some L0) (cL : ce.locals = s3.heap.objs.size) (I3 : Inv X pins σ H3 s3)
    (f3 : ∀ b ∈ fp, FpOk X pins H3 b ∧ b < s3.heap.objs.size) : Takes ((X.blk s3 H3 scope ce fp).wish E') (fun cls d _ H => W cls d σ H) := by
  rintro u s' ⟨a, B, sI, pins', σ', H', cls, d, rfl, I, nb, up, sky, na, os, ag, w⟩
  subst hE
  show wpAny (model X.prog X.w) X.A (noteFrame (.ref a) ce) (fun _ s'' => cpX (model X.prog X.w) X.A X.xe use Qf acc ce (.error (.ref a)) s'') _ s'
  rw [note_same (env := e0) (hcf.trans hf0.symm)]
  have hfr : X.A.frames = some (e0 :: o0) := by rw [← hst]; exact I3.ok.frames
  have sky' : Sky B (e0 :: o0) a (Zc cls d) ce.locals s'.heap := by rw [← hst]; exact sky
  refine sky_held Zc.steady hfr hf0 sky' fun h1 hh up1 => ?_
  have J := I.landed (s' := { s' with heap := h1 }) nb hh.1 (up.trans up1) os ag
  obtain ⟨m, hm, _⟩ := J.loc
  refine ⟨m, hm, fun h2 sb => ?_⟩
  have nfr : ∀ b ∈ frs X.stack, b ≠ ce.locals := fun b hb z => by
    obtain ⟨_, o, ho, _⟩ := I3.stack.mem hb
    have := Heap.lt_size ho
    rw [z, cL] at this
    exact absurd this (Nat.lt_irrefl _)
  obtain ⟨oC, hBC⟩ : ∃ o, B.get? ce.locals = some o := by
    obtain ⟨m', ⟨o, es, ep, ho, r⟩, _⟩ := I.loc
    exact ⟨_, nb _ _ ho fun z => nfr _ z rfl⟩
  have hB2 : ∀ b o, b ≠ ce.locals → B.get? b = some o → (PySem.W.hideAll B [ce.locals]).get? b = some o := fun b o hb h => PySem.W.hideAll_get _ h (by simpa using hb)
  have hB3 : ∀ b o, (PySem.W.hideAll B [ce.locals]).get? b = some o → b ≠ ce.locals ∧ B.get? b = some o := fun b o h => by
    refine ⟨fun z => ?_, PySem.W.of_hideAll _ h⟩
    rw [z, PySem.W.hideAll_none _ (by simp)] at h
    cases h
  have hB4 : ∀ b, B.get? b = none → (PySem.W.hideAll B [ce.locals]).get? b = none := fun b h => by
    cases q : (PySem.W.hideAll B [ce.locals]).get? b with
    | none => rfl
    | some o => rw [(hB3 b o q).2] at h; cases h
  have hh2 : HandSPX.HeldZ (PySem.W.hideAll B [ce.locals]) (e0 :: o0) a (Zc cls d) L0 h2 := by
    obtain ⟨g1, g2, g3, oe, vs, T, oT, ts, he, hz, hd, hv1, hnT, hTe, hT, hdT, hv3⟩ := hh
    have na' : a ≠ ce.locals := fun z => by rw [z, hBC] at g2; cases g2
    have nT' : T ≠ ce.locals := fun z => by rw [z, hBC] at hnT; cases hnT
    refine ⟨fun b o h => ?_, hB4 _ g2, ?_, oe, vs, T, oT, ts, (sb.2 a na').trans he, hz, hd, hv1, hB4 _ hnT, hTe, (sb.2 T nT').trans hT, hdT, hv3⟩
    · obtain ⟨hb, h'⟩ := hB3 b o h
      exact (sb.2 b hb).trans (g1 b o h')
    · exact frames_but sb g3 fun b hb => nfr b (by rw [hst]; exact hb)
  -- the state without the block's names
  have hG2 : ∀ b o, b ≠ ce.locals → sI.heap.get? b = some o → (PySem.W.hideAll sI.heap [ce.locals]).get? b = some o := fun b o hb h => PySem.W.hideAll_get _ h (by simpa using hb)
  have hG3 : ∀ b o, (PySem.W.hideAll sI.heap [ce.locals]).get? b = some o → b ≠ ce.locals ∧ sI.heap.get? b = some o := fun b o h => by
    refine ⟨fun z => ?_, PySem.W.of_hideAll _ h⟩
    rw [z, PySem.W.hideAll_none _ (by simp)] at h
    cases h
  have old : ∀ b o, s3.heap.get? b = some o → b ≠ ce.locals := fun b o h z => by
    have := Heap.lt_size h
    rw [z, cL] at this
    exact absurd this (Nat.lt_irrefl _)
  have hCn : H' ce.locals = none := I.free
  have ub := I.base
  have IJ : Inv X pins σ H' { sI with heap := PySem.W.hideAll sI.heap [ce.locals] } := by
    refine I3.call' (ch := fp) I.os ⟨fun b o h1 h2 h3 h4 => hG2 b o (old b o h1) (ub.keep b o h1 h2 h3 h4), fun b o h1 h2 h3 h4 => ?_, fun b o h1 h2 h3 => ub.free b o h1 h2 h3, fun b o h1 h2 => ?_, ub.tups, ub.frzs, ub.tbls⟩ (fun b o q => (I.hok b o q).stay (fun c u hc r => hG2 c u (fun z => ?_) r) (fun _ r => r) fun _ _ r => r) I.bare fun b hb => ⟨(f3 b hb).1.2.2.2.1, (f3 b hb).1.2.1, (f3 b hb).1.2.2.2.2.1, (f3 b hb).1.2.2.2.2.2⟩
    · obtain ⟨sl, h⟩ := ub.slot b o h1 h2 h3 h4
      exact ⟨sl, hG2 b _ (old b o h1) h⟩
    · obtain ⟨o', h⟩ := ub.there b o h1 h2
      exact ⟨o', hG2 b o' (old b o h1) h⟩
    · rcases hc with hc | hc
      · rw [← hc, z, hCn] at q
        cases q
      · rw [z, hCn] at hc
        cases hc
  unfold PySem.passOn
  obtain ⟨g1, g2, g3, oe, vs, T, oT, ts, he, hz, hd, hv1, hr⟩ := id hh2
  refine wpAny_bind (wpAny_field he hd hv1 ?_)
  rw [if_neg (show ¬ ((Value.ref T == Value.none) = true) from by simp)]
  rw [hcf]
  refine wpAny_bind (HandSPX.setFlight_onZ (s := { s' with heap := h2 }) hh2 fun h4 hh4 up4 => wpAny_throw ?_)
  refine tk _ _ ⟨a, PySem.W.hideAll B [ce.locals], _, pins, σ, H', cls, d, rfl, IJ, fun b o h hb => ?_, fun b o h hd => ?_, .inr (.inr ?_), na, os, ag, w⟩
  · obtain ⟨h1, h2⟩ := hG3 b o h
    exact hB2 b o h1 (nb b o h2 hb)
  · obtain ⟨k1, k2⟩ := hG3 b o h
    obtain ⟨sl, k3⟩ := up b o k2 hd
    obtain ⟨sl2, k4⟩ := up1 b _ k3 hd
    obtain ⟨sl3, k5⟩ := up4 b _ ((sb.2 b k1).trans k4) hd
    exact ⟨sl3, k5⟩
  · rw [hst, hloc]
    exact hh4
end
end BL
namespace BL
open PySem PySem.Spec PyProof.Rows L2
section
variable {X : Cx}
/-- [elt for target in iter if ..], where elt may raise: te by what is wished -/
def tLcX (wi : TI) (g : TG) (tt : TT) (te : WX → TE) (vs : List Nat) (wx : WX) : TE := fun σ H Q => tLc wi g tt (te fun cls d _ H => wx cls d σ H) vs σ H Q
theorem lcX_core {pins : List (Addr × PySem.Obj)} {s : Shared} {σ : L2.St} {H : Hp} {Q : VK} {elt tg iter : PySem.Expr} {ifs : List PySem.Expr} {scope : Scope} {own : List (Str × Nat)} {pos pos' : Pos} {wi : TI} {g : TG} {tt : TT} {te : WX → TE} {use : Option (Value → Sem Unit)} {Qf : Value → Shared → Prop} {W : WX} {e0 : Env} {o0 : List Env} {L0 : Addr}
    (tk : Takes X W) (hst : X.stack = e0 :: o0) (hf0 : e0.frame = some L0) (hloc : X.env.locals = L0) (hfe : X.env.frame = some L0)
    (hc : X.calm = true) (hN : X.N.Nodup) (I : Inv X pins σ H s) (hi : PI X tg iter wi) (ok : BlkOk X.N X.env.scope scope own)
    (hg : ∀ (s : Shared) (H : Hp) (C : Addr) (cl : List (Str × Addr)) (fp : List Addr) (E' : Value → Shared → Prop), PG ((X.blk s H scope (compEnvC scope cl C X.env) fp).wish E') tg g) (ht : ∀ (s : Shared) (H : Hp) (C : Addr) (cl : List (Str × Addr)) (fp : List Addr) (E' : Value → Shared → Prop), PTs ((X.blk s H scope (compEnvC scope cl C X.env) fp).wish E') ifs tt)
    (he : ∀ (s : Shared) (H : Hp) (C : Addr) (cl : List (Str × Addr)) (fp : List Addr) (E' : Value → Shared → Prop) (wx : WX), Takes ((X.blk s H scope (compEnvC scope cl C X.env) fp).wish E') wx → PE ((X.blk s H scope (compEnvC scope cl C X.env) fp).wish E') elt (te wx)) (hs : ∀ x, foldedSetIterable iter X.env x = pure x)
    (h : tLcX wi g tt te (own.map (·.2)) W σ H Q)
    (hRR : ∀ D ce s' m H', Inv X pins σ H' s' → Q (.ref D) H' → s'.heap.Ns ce.locals m → FpOk X pins H' ce.locals → cpX (model X.prog X.w) X.A X.xe use Qf (.ref D) ce (.ok .next) s') :
    wpAny (model X.prog X.w) X.A (comprehension (.ListComp elt [⟨tg, iter, ifs, 0⟩] scope pos) scope X.env pos' (newList []) false (eval iter X.env) use) Qf X.xe s := by
  have hfree : ∀ y ∈ scope.names, y.2 = .free → ∃ c, X.env.cells.lookup y.1 = some c := fun y hy e => by
    rcases ok.free y hy e with k | k
    · exact I.ok.has _ (.inl k)
    · exact I.ok.has _ (.inr k)
  refine comprehension_x (use := use) rfl hs (closure_ok hfree) ok.kind (fun y hy e => by rw [ok.uniq y hy, e])
    (thn (hi.run pins s σ H _ I h) fun xv s1 hx => thn hx fun itv s2 h2 => ?_)
  obtain ⟨it, fp, tn, J, H2, e, I2, T, st2, f2, q⟩ := h2
  subst e
  refine wpAny_newObj_type (newEnv_comp ?_) (by show 0 ≤ sizeLine; decide)
  generalize hD : s2.heap.objs.size = D
  have hDn : H2 D = none := I2.hok.fresh (Nat.le_of_eq hD)
  obtain ⟨Wt, ⟨m0, w0⟩, turn⟩ := q D hDn
  -- the new list
  generalize hs3 : ({ s2 with heap := s2.heap.push { cls := .type "list", data := .seq ([] : List Value).toArray } } : Shared) = s3
  have I3 : Inv X pins σ (upd H2 D (.lst [])) s3 := by
    rw [← hs3]
    refine I2.laid (t' := s2.toks) (fun b o e => Heap.get?_push_of_some _ e) (Nat.le_of_eq hD) ⟨Nat.zero_le _, [], 0, .nil, ?_⟩
    rw [← hD]
    exact Heap.get?_push_size _ rfl
  have h3 : s3.heap = s2.heap.push { cls := .type "list", data := .seq ([] : List Value).toArray } := by rw [← hs3]
  have sz : ∀ b ∈ fp, b < s2.heap.objs.size := fun b hb => by
    obtain ⟨o, e, _⟩ := T.obj _ _ st2 b hb
    exact Heap.lt_size e
  have f3 : ∀ b ∈ fp, FpOk X pins (upd H2 D (.lst [])) b ∧ b < s3.heap.objs.size := fun b hb => by
    have hlt := sz b hb
    refine ⟨⟨?_, (f2 b hb).2⟩, by rw [h3, Heap.size_push]; exact Nat.lt_succ_of_lt hlt⟩
    rw [upd_ne (by rw [← hD]; exact Nat.ne_of_lt hlt)]
    exact (f2 b hb).1
  have st3 : tn 0 s3.heap := T.keep _ _ _ st2 fun b _ o e => by rw [h3]; exact Heap.get?_push_of_some _ e
  have I4 := block_start I3 ok hN f3
  have pg := hg s3 (upd H2 D (.lst [])) s3.heap.objs.size (cellsFrom (s3.heap.objs.size + 1) scope.names (cloFrom X.env.cells scope.names [])) fp
  have pt := ht s3 (upd H2 D (.lst [])) s3.heap.objs.size (cellsFrom (s3.heap.objs.size + 1) scope.names (cloFrom X.env.cells scope.names [])) fp
  have pe := he s3 (upd H2 D (.lst [])) s3.heap.objs.size (cellsFrom (s3.heap.objs.size + 1) scope.names (cloFrom X.env.cells scope.names [])) fp
  show codeAny _ _ (.compStart (.ListComp elt [⟨tg, iter, ifs, 0⟩] scope pos) 0 (.ref it) (.ref D) (compEnvC scope (cellsFrom (s3.heap.objs.size + 1) scope.names (cloFrom X.env.cells scope.names [])) s3.heap.objs.size X.env)) (cpX (model X.prog X.w) X.A X.xe use Qf (.ref D) (compEnvC scope (cellsFrom (s3.heap.objs.size + 1) scope.names (cloFrom X.env.cells scope.names [])) s3.heap.objs.size X.env)) { s3 with heap := pushCells (s3.heap.push { cls := .type "dict", data := .dict #[] }) scope.names }
  have nfp : ∀ b ∈ fp, (upd H2 D (.lst [])) b = none := fun b hb => (f3 b hb).1.1
  have cF : (compEnvC scope (cellsFrom (s3.heap.objs.size + 1) scope.names (cloFrom X.env.cells scope.names [])) s3.heap.objs.size X.env).frame = some L0 := hfe
  generalize hce : compEnvC scope (cellsFrom (s3.heap.objs.size + 1) scope.names (cloFrom X.env.cells scope.names [])) s3.heap.objs.size X.env = ce at I4 pg pt pe cF ⊢
  have cL : ce.locals = s3.heap.objs.size := by subst hce; rfl
  generalize hH3 : upd H2 D (.lst []) = H3 at I3 I4 pg pt pe w0 nfp f3
  generalize hs4 : ({ s3 with heap := pushCells (s3.heap.push { cls := .type "dict", data := .dict #[] }) scope.names } : Shared) = s4 at I4 ⊢
  have st4 : tn 0 s4.heap := T.keep _ _ _ st3 fun b _ o e => by rw [← hs4]; exact pushCells_keeps _ _ _ _ (Heap.get?_push_of_some _ e)
  have stat : ∀ {σ' : L2.St} {H' : Hp} {s' : Shared}, Inv (X.blk s3 H3 scope ce fp) [] σ' H' s' → (∀ b ∈ fp, H' b = none) → ∀ b ∈ fp, FpOk (X.blk s3 H3 scope ce fp) [] H' b := fun {σ' H' s'} I' hn b hb =>
    ⟨hn b hb, (I'.ok.exf b hb).1, I'.ok.exfs b hb, .inl hb, fun x c e => (I'.ok.exf b hb).2 x c e, fun p hp => absurd (show p ∈ ([] : List (Addr × PySem.Obj)) ++ [] from hp) (by simp)⟩
  generalize hE' : (notedBy (model X.prog X.w) X.A ce fun e s' => cpX (model X.prog X.w) X.A X.xe use Qf (.ref D) ce (.error e) s') = E'
  have tkB := takes_blk (scope := scope) (use := use) (Qf := Qf) (acc := .ref D) hE'.symm tk hst hf0 hloc cF cL I3 f3
  have pgE := pg E'
  have ptE := pt E'
  have peE := pe E' _ tkB
  have loop : codeAny (model X.prog X.w) X.A (.compLoop (.ListComp elt [⟨tg, iter, ifs, 0⟩] scope pos) 0 (.ref it) (.ref D) ce) (cpX (model X.prog X.w) X.A X.xe use Qf (.ref D) ce) s4 := by
    refine compLoop_any (fun n s' => ∃ i H', Inv (X.blk s3 H3 scope ce fp) [] (wipe σ (own.map (·.2))) H' s' ∧ tn i s'.heap ∧ (∀ b ∈ fp, H' b = none) ∧ Wt i n H') ?_ m0 ⟨0, H3, I4, st4, nfp, w0⟩
    rw [hE']
    rintro n s5 ⟨i, H5, I5, st5, n5, w5⟩
    rcases turn i n H5 w5 with ⟨stop, qq⟩ | ⟨go, Nx, hNx, step⟩
    · have td := T.done (X.blk s3 H3 scope ce fp) rfl rfl rfl hc i [] s5 _ H5 (fun _ _ => False) I5 (stat I5 n5) st5 stop
      refine thnF td fun r s6 ⟨hr, I6⟩ => ?_
      subst hr
      -- back in the def's context
      have I7 : Inv X pins σ H5 s6 := I3.call' (ch := fp) I6.os I6.base I6.hok I6.bare fun b hb => ⟨(f3 b hb).1.2.2.2.1, (f3 b hb).1.2.1, (f3 b hb).1.2.2.2.2.1, (f3 b hb).1.2.2.2.2.2⟩
      have nC : H5 s3.heap.objs.size = none := by
        have z : H5 ce.locals = none := I6.free
        rw [cL] at z
        exact z
      obtain ⟨m, hn, _⟩ := I6.loc
      have hn : s6.heap.Ns ce.locals m := hn
      exact hRR D ce s6 m H5 I7 qq hn (by rw [cL]; exact I3.fpOk (Nat.le_refl _) nC)
    · have ti := T.item (X.blk s3 H3 scope ce fp) rfl rfl rfl hc i [] s5 _ H5 (fun _ _ => False) I5 (stat I5 n5) st5 go
      refine thnF ti fun r s6 ⟨u, hr, h6⟩ => ?_
      subst hr
      refine thnF h6 fun _ s7 ⟨x, H7, I7, r7, y7, st7, n7⟩ => ?_
      have I7' := I7.pinned (stat I7 n7) (T.obj _ _ st7)
      refine thn (pgE.run _ s7 _ H7 x u _ (I7'.wish E') r7 (step x H7 y7)) fun _ s8 ⟨σ8, H8, I8, hw8, q8⟩ => ?_
      refine thn (ptE.run _ s8 σ8 H8 _ I8 q8) fun b s9 ⟨H9, I9, q9⟩ => ?_
      -- the turn's end
      have fin : ∀ {s' : Shared} {H' : Hp}, Inv (X.blk s3 H3 scope ce fp) ([] ++ pinsAt fp s7.heap) σ8 H' s' → Nx H' → ∃ m, m < n ∧ ∃ i H', Inv (X.blk s3 H3 scope ce fp) [] (wipe σ (own.map (·.2))) H' s' ∧ tn i s'.heap ∧ (∀ b ∈ fp, H' b = none) ∧ Wt i m H' := fun {s' H'} I' nx => by
        obtain ⟨m', hm, w'⟩ := hNx H' nx
        have pin' : ∀ b ∈ fp, ∀ o, s7.heap.get? b = some o → s'.heap.get? b = some o ∧ H' b = none := fun b hb o e =>
          let z := I'.pin (b, o) (List.mem_append_right _ (List.mem_append_right _ (mem_pinsAt hb e)))
          ⟨z.1, z.2.1⟩
        have hl : (wipe σ (own.map (·.2))).length = σ8.length := by rw [← hw8, wipe_length]
        refine ⟨m', hm, i + 1, H', (I'.unpinned (pins := [])).weak hl (fun j v e => ?_), T.keep _ _ _ st7 fun b hb o e => (pin' b hb o e).1, fun b hb => ?_, w'⟩
        · rw [← hw8] at e
          exact (wipe_some e).1
        · obtain ⟨o, e, _⟩ := T.obj _ _ st7 b hb
          exact (pin' b hb o e).2
      cases b with
      | false =>
        simp only [Bool.false_eq_true, if_false] at q9 ⊢
        exact fin I9.unwish q9
      | true =>
        simp only [if_true] at q9 ⊢
        refine thn (peE.run _ s9 σ8 H9 _ I9 q9) fun z s10 ⟨yv, H10, I10, r10, acc, hD10, hz10, nx⟩ => ?_
        exact app_ok (X := X.blk s3 H3 scope ce fp) I10.unwish hD10 hz10 r10 fun s11 I11 => fin I11 nx
  exact codeAny_compStart_list loop (T.self X.A 0 _ _ _ st4 loop)
theorem pe_lcX {elt tg iter : PySem.Expr} {ifs : List PySem.Expr} {scope : Scope} {own : List (Str × Nat)} {pos : Pos} {wi : TI} {g : TG} {tt : TT} {te : WX → TE} {W : WX} {e0 : Env} {o0 : List Env} {L0 : Addr}
    (tk : Takes X W) (hst : X.stack = e0 :: o0) (hf0 : e0.frame = some L0) (hloc : X.env.locals = L0) (hfe : X.env.frame = some L0)
    (hc : X.calm = true) (hN : X.N.Nodup) (hi : PI X tg iter wi) (ok : BlkOk X.N X.env.scope scope own)
    (hg : ∀ (s : Shared) (H : Hp) (C : Addr) (cl : List (Str × Addr)) (fp : List Addr) (E' : Value → Shared → Prop), PG ((X.blk s H scope (compEnvC scope cl C X.env) fp).wish E') tg g) (ht : ∀ (s : Shared) (H : Hp) (C : Addr) (cl : List (Str × Addr)) (fp : List Addr) (E' : Value → Shared → Prop), PTs ((X.blk s H scope (compEnvC scope cl C X.env) fp).wish E') ifs tt)
    (he : ∀ (s : Shared) (H : Hp) (C : Addr) (cl : List (Str × Addr)) (fp : List Addr) (E' : Value → Shared → Prop) (wx : WX), Takes ((X.blk s H scope (compEnvC scope cl C X.env) fp).wish E') wx → PE ((X.blk s H scope (compEnvC scope cl C X.env) fp).wish E') elt (te wx)) (hs : ∀ x, foldedSetIterable iter X.env x = pure x := by intro _; rfl) :
    PE X (.ListComp elt [⟨tg, iter, ifs, 0⟩] scope pos) (tLcX wi g tt te (own.map (·.2)) W) := by
  refine ⟨fun pins s σ H Q I h => ?_⟩
  rw [eval_ListComp]
  refine lcX_core tk hst hf0 hloc hfe hc hN I hi ok hg ht he hs h fun D ce s' m H' I' q hn f => ⟨m, hn, fun h'' sb => ?_⟩
  obtain ⟨f0, f1, f2, f3, f4, f5⟩ := f
  exact ⟨.ref D, H', I'.turned (t' := s'.toks) (fun b o hb e => (sb.2 b hb).trans e) f0 f1 f3 f4 f5, rfl, q⟩
end
end BL
namespace BL
open PySem PySem.Spec PyProof.Rows L2
section
variable {X : Cx}
theorem ps_setLcX {i : Nat} {y : Str} {py : Pos} {elt tg iter : PySem.Expr} {ifs : List PySem.Expr} {scope : Scope} {own : List (Str × Nat)} {pos spos : Pos} {wi : TI} {g : TG} {tt : TT} {te : WX → TE} {W : WX} {e0 : Env} {o0 : List Env} {L0 : Addr}
    (tk : Takes X W) (hst : X.stack = e0 :: o0) (hf0 : e0.frame = some L0) (hloc : X.env.locals = L0) (hfe : X.env.frame = some L0)
    (hc : X.calm = true) (hN : X.N.Nodup) (hy : X.N[i]? = some y) (hyl : X.env.scope.names.lookup y = some .local)
    (hsw : swapsWith (.ListComp elt [⟨tg, iter, ifs, 0⟩] scope pos) (some (.Name y py)) spos.line X.env = pure true) (hi : PI X tg iter wi) (ok : BlkOk X.N X.env.scope scope own)
    (hg : ∀ (s : Shared) (H : Hp) (C : Addr) (cl : List (Str × Addr)) (fp : List Addr) (E' : Value → Shared → Prop), PG ((X.blk s H scope (compEnvC scope cl C X.env) fp).wish E') tg g) (ht : ∀ (s : Shared) (H : Hp) (C : Addr) (cl : List (Str × Addr)) (fp : List Addr) (E' : Value → Shared → Prop), PTs ((X.blk s H scope (compEnvC scope cl C X.env) fp).wish E') ifs tt)
    (he : ∀ (s : Shared) (H : Hp) (C : Addr) (cl : List (Str × Addr)) (fp : List Addr) (E' : Value → Shared → Prop) (wx : WX), Takes ((X.blk s H scope (compEnvC scope cl C X.env) fp).wish E') wx → PE ((X.blk s H scope (compEnvC scope cl C X.env) fp).wish E') elt (te wx)) (hs : ∀ x, foldedSetIterable iter X.env x = pure x := by intro _; rfl) :
    PS X (.Assign [.Name y py] (.ListComp elt [⟨tg, iter, ifs, 0⟩] scope pos) spos) (tAsg (tLcX wi g tt te (own.map (·.2)) W) (gName i)) := by
  refine ⟨fun pins s σ H D I h => ?_⟩
  rw [exec_Assign_Name_used _ _ _ _ hsw]
  refine wpAny_bind (wpAny_standAt (wpAny_bind ?_))
  show wpAny _ X.A (do let _ ← comprehension (.ListComp elt [⟨tg, iter, ifs, 0⟩] scope pos) scope X.env (firstIterPos [⟨tg, iter, ifs, 0⟩] pos) (newList []) false (eval iter X.env) (some (assign (.Name y py) X.env))) _ _ s
  have h : tLcX wi g tt te (own.map (·.2)) W σ H (fun x H1 => gName i x σ H1 D.nx) := h
  refine wpAny_bind (thn (lcX_core (Qf := fun _ s' => SP X pins D .next s') tk hst hf0 hloc hfe hc hN I hi ok hg ht he hs h fun L ce s' m H' I' q hn f => ?_) fun _ s' hq => wpAny_pure (wpAny_pure hq))
  show wpAny _ _ (assign (.Name y py) X.env (.ref L)) _ _ _
  refine wpAny_assign_Name (store_ok2 (v := V.ref L) I' hN hy (.inl hyl) rfl (fun s2 I2 ⟨a, sb, ha⟩ => ?_) (.inr hyl))
  obtain ⟨f0, f1, f2, f3, f4, f5⟩ := f
  have haC : ce.locals ≠ a := by
    rcases ha with z | z
    · rw [z]; exact f1
    · exact fun e => f4 y a z e.symm
  refine ⟨m, hn.sameBut sb haC, fun h3 sb3 => ?_⟩
  exact ⟨_, H', I2.turned (t' := s2.toks) (fun b o hb e => (sb3.2 b hb).trans e) f0 f1 f3 f4 f5, q⟩
end
end BL
namespace B
open PySem L2
section
variable {K : PySem.W.Frag} {W : Type} {R : Rs W} {C : Cl} {κ κ1 : List Kd}
/-- the items' answers, of which the first error leaves -/
def mLcXL (f : D → Rho → Option Rho) (tt : Rho → M W Bool) (e : ME W) (ρ : Rho) : List D → M W (List D)
  | [] => ret []
  | d :: ds => bnd (lift (f d ρ)) fun ρ1 => bnd (noX (tt ρ1)) fun b => if b then bnd (e ρ1) fun x => bnd (mLcXL f tt e ρ ds) fun xs => ret (x :: xs) else mLcXL f tt e ρ ds
def mLcX (src : Rho → M W (List D)) (vs : List Nat) (f : D → Rho → Option Rho) (tt : Rho → M W Bool) (e : ME W) : ME W := fun ρ => bnd (src ρ) fun ds => if ds.length ≤ 1000000 then bnd (mLcXL f tt e (wipeR ρ vs) ds) fun xs => ret (.list xs) else stk
theorem okLcX {wi : TI} {g : TG} {tt : TT} {te : WX → TE} {src : Rho → M W (List D)} {f : D → Rho → Option Rho} {mt : Rho → M W Bool} {me : ME W} {as vs : List Nat} (hi : OkIc K R C κ wi src) (hg : OkG (K := K) (R := R) (blkK κ) g f κ1 as)
    (ht : OkT K R C.no κ1 tt mt) (he : ∀ wx, OkE K R ⟨wx, C.cn⟩ κ1 (te wx) .dat me) (hv : ∀ i ∈ as, i ∈ vs := by decide) : OkE K R C κ (BL.tLcX wi g tt te vs C.wx) .own (mLcX src vs f mt me) := by
  intro S0 H0 w0 S H σ ρ w Q rl q
  refine hi S0 H0 w0 S H σ ρ w _ rl ?_
  have he := he fun cls d _ H => C.wx cls d σ H
  unfold mLcX at q
  cases e : src ρ w with
  | stuck => rw [bnd_stuck e] at q; exact q.elim
  | exc c fs w1 => rw [bnd_exc e] at q; exact q
  | ok ds w1 =>
    rw [bnd_ok e] at q
    intro J S1 H1 r1 s1 y L hL
    by_cases hz : ds.length ≤ 1000000
    · rw [if_pos hz] at q
      have hSL : S1 L = none := r1.out.s_none hL
      have hfL : ¬ R.fp w1 L := r1.out.nofp hL
      -- what is left to be made
      refine ⟨fun i m H => ∃ S w accV acc, Rel K R κ S0 H0 w0 S H σ ρ w ∧ (∀ a o, S1 a = some o → S a = some o) ∧ m = ds.length - i ∧ i ≤ ds.length ∧ H L = some (.lst accV) ∧ S L = none ∧ ¬ R.fp w L ∧ DVs K S accV acc ∧ acc.length ≤ i ∧
          PostE K R C κ S0 H0 w0 S σ ρ .own Q (bnd (mLcXL f mt me (wipeR ρ vs) (ds.drop i)) (fun xs => ret (.list (acc ++ xs))) w),
        ⟨ds.length, S1, w1, [], [], r1.allocOwn hL, fun _ _ h => h, by omega, Nat.zero_le _, upd_same, hSL, hfL, .nil, Nat.zero_le _, postE_mono s1 q⟩, ?_⟩
      rintro i m H2 ⟨S2, w2, accV, acc, r2, s2, rfl, hi, hD, hS2, hf2, hacc, hal, q2⟩
      obtain ⟨yStop, yGo⟩ := y i S2 H2 w2 r2 s2
      by_cases hlt : i < ds.length
      · rw [List.drop_eq_getElem_cons hlt] at q2
        obtain ⟨hgo, hy⟩ := yGo ds[i] (List.getElem?_eq_getElem hlt)
        refine .inr ⟨hgo, fun H => ∃ S w accV acc, Rel K R κ S0 H0 w0 S H σ ρ w ∧ (∀ a o, S1 a = some o → S a = some o) ∧ H L = some (.lst accV) ∧ S L = none ∧ ¬ R.fp w L ∧ DVs K S accV acc ∧ acc.length ≤ i + 1 ∧
          PostE K R C κ S0 H0 w0 S σ ρ .own Q (bnd (mLcXL f mt me (wipeR ρ vs) (ds.drop (i + 1))) (fun xs => ret (.list (acc ++ xs))) w),
          fun H' ⟨S, w, aV, a, x1, x2, x3, x4, x5, x6, x7, x8⟩ => ⟨ds.length - (i + 1), by omega, S, w, aV, a, x1, x2, rfl, hlt, x3, x4, x5, x6, x7, x8⟩, fun x H' hyl => ?_⟩
        have key : ∀ S3 H3, Rel K R κ S0 H0 w0 S3 H3 σ ρ w2 → (∀ a o, S2 a = some o → S3 a = some o) → H3 L = some (.lst accV) → S3 L = none → DV K S3 x ds[i] →
            g x (wipe σ vs) H3 fun σ2 H2 => wipe σ2 vs = wipe σ vs ∧ tt σ2 H2 fun b H3 => if b = true then te (fun cls d _ H => C.wx cls d σ H) σ2 H3 fun y H4 => ∃ acc, H4 L = some (.lst acc) ∧ acc.length < sizeLine ∧
              (∃ S w accV acc', Rel K R κ S0 H0 w0 S (upd H4 L (.lst (acc ++ [y]))) σ ρ w ∧ (∀ a o, S1 a = some o → S a = some o) ∧ upd H4 L (.lst (acc ++ [y])) L = some (.lst accV) ∧ S L = none ∧ ¬ R.fp w L ∧ DVs K S accV acc' ∧ acc'.length ≤ i + 1 ∧
                PostE K R C κ S0 H0 w0 S σ ρ .own Q (bnd (mLcXL f mt me (wipeR ρ vs) (ds.drop (i + 1))) (fun xs => ret (.list (acc' ++ xs))) w))
              else (∃ S w accV acc', Rel K R κ S0 H0 w0 S H3 σ ρ w ∧ (∀ a o, S1 a = some o → S a = some o) ∧ H3 L = some (.lst accV) ∧ S L = none ∧ ¬ R.fp w L ∧ DVs K S accV acc' ∧ acc'.length ≤ i + 1 ∧
                PostE K R C κ S0 H0 w0 S σ ρ .own Q (bnd (mLcXL f mt me (wipeR ρ vs) (ds.drop (i + 1))) (fun xs => ret (.list (acc' ++ xs))) w)) := by
          intro S3 H3 r3 s3 hD3 hS3 hv3
          have q3 : PostE K R C κ S0 H0 w0 S3 σ ρ .own Q (bnd (bnd (lift (f ds[i] (wipeR ρ vs))) fun ρ1 => bnd (noX (mt ρ1)) fun b => if b then bnd (me ρ1) fun x => bnd (mLcXL f mt me (wipeR ρ vs) (ds.drop (i + 1))) fun xs => ret (x :: xs) else mLcXL f mt me (wipeR ρ vs) (ds.drop (i + 1))) (fun xs => ret (.list (acc ++ xs))) w2) := postE_mono s3 q2
          rw [bnd_bnd] at q3
          cases eg : f ds[i] (wipeR ρ vs) with
          | none => rw [eg, lift_none, bnd_stk] at q3; exact q3.elim
          | some ρ1 =>
            rw [eg, lift_some, bnd_ret, bnd_bnd] at q3
            refine hg S3 H3 w2 S3 H3 _ _ w2 x ds[i] ρ1 _ (r3.block vs) hv3 eg fun σ4 b4 r4 => ⟨but_wipe b4 hv, ?_⟩
            refine ht S3 H3 w2 S3 H3 σ4 ρ1 w2 _ r4 ?_
            cases et : mt ρ1 w2 with
            | stuck => rw [bnd_stuck (x := noX (mt ρ1)) (by unfold noX; rw [et])] at q3; exact q3.elim
            | exc c fs w5 => rw [bnd_stuck (x := noX (mt ρ1)) (by unfold noX; rw [et])] at q3; exact q3.elim
            | ok b w5 =>
              rw [bnd_ok (x := noX (mt ρ1)) (noX_ok et)] at q3
              intro S5 H5 r5 s5
              have k5 : H5 L = some (.lst accV) ∧ S5 L = none ∧ ¬ R.fp w5 L := by
                refine ⟨r5.out.keep L _ hD3 hf2, ?_, fun hf => ?_⟩
                · cases z : S5 L with
                  | none => rfl
                  | some u =>
                    have := r5.out.new L (by rw [z]; exact Option.some_ne_none _) hS3
                    rw [this] at hD3; cases hD3
                · have := r5.out.resN L hf hf2
                  rw [this] at hD3; cases hD3
              cases b with
              | false =>
                show (if false = true then _ else _)
                rw [if_neg (by decide)]
                have r5' := r3.after r5.out
                exact ⟨S5, w5, accV, acc, r5', fun a o z => s5 a o (s3 a o (s2 a o z)), k5.1, k5.2.1, k5.2.2, dpAll_mono (fun a o z => s5 a o (s3 a o z)) _ _ hacc, by omega, postE_mono s5 q3⟩
              | true =>
                show (if true = true then _ else _)
                rw [if_pos rfl]
                have q5 : PostE K R C κ S0 H0 w0 S5 σ ρ .own Q (bnd (bnd (me ρ1) fun x => bnd (mLcXL f mt me (wipeR ρ vs) (ds.drop (i + 1))) fun xs => ret (x :: xs)) (fun xs => ret (.list (acc ++ xs))) w5) := postE_mono s5 q3
                rw [bnd_bnd] at q5
                refine he S3 H3 w2 S5 H5 σ4 ρ1 w5 _ r5 ?_
                cases ee : me ρ1 w5 with
                | stuck => rw [bnd_stuck (x := me ρ1) ee] at q5; exact q5.elim
                | exc c fs w6 =>
                  rw [bnd_exc (x := me ρ1) ee] at q5
                  exact fun cls dd S' H' r' hc hx => q5 cls dd S' H' (r3.after r'.out) hc hx
                | ok d w6 =>
                  rw [bnd_ok (x := me ρ1) ee, bnd_bnd] at q5
                  intro yv S6 H6 r6 s6 o6
                  have k6 : H6 L = some (.lst accV) ∧ S6 L = none ∧ ¬ R.fp w6 L := by
                    refine ⟨r6.out.keep L _ hD3 hf2, ?_, fun hf => ?_⟩
                    · cases z : S6 L with
                      | none => rfl
                      | some u =>
                        have := r6.out.new L (by rw [z]; exact Option.some_ne_none _) hS3
                        rw [this] at hD3; cases hD3
                    · have := r6.out.resN L hf hf2
                      rw [this] at hD3; cases hD3
                  have r6' := r3.after r6.out
                  have h0L : H0 L = none := r1.out.h0_none hL
                  have hcv : DVs K S6 accV acc := dpAll_mono (fun a o z => s6 a o (s5 a o (s3 a o z))) _ _ hacc
                  refine ⟨accV, k6.1, ?_, S6, w6, accV ++ [yv], acc ++ [d], ?_, fun a o z => s6 a o (s5 a o (s3 a o (s2 a o z))), upd_same, k6.2.1, k6.2.2, dvs_app hcv (.cons o6 .nil), ?_, ?_⟩
                  · rw [dvs_len hcv]
                    exact sz_lt' (by omega)
                  · obtain ⟨oa, r7⟩ := r6'
                    refine ⟨oa, r7.out.write k6.2.1 h0L k6.2.2, r7.len, fun j e hj => ?_, r7.inj⟩
                    obtain ⟨u, g1, g2⟩ := r7.slot j e hj
                    refine ⟨u, g1, slot_write (fun kj ej => ?_) g2⟩
                    -- an own slot's list stood before L was made
                    obtain ⟨oa1, r1'⟩ := id r1
                    obtain ⟨u1, g3, g4⟩ := r1'.slot j e hj
                    rw [kj] at g4 g2
                    obtain ⟨v1, _, _, _, ho1, v5, _⟩ := g4
                    obtain ⟨v2, _⟩ := g2
                    rw [g1] at g3
                    cases g3
                    rw [v2] at v1
                    have := V.ref.inj v1
                    rw [ej] at this
                    rw [← this, hL] at v5
                    cases v5
                  · rw [List.length_append]
                    show acc.length + 1 ≤ i + 1
                    omega
                  · have q6 := postE_mono s6 q5
                    simp only [bnd_bnd, bnd_ret, List.append_assoc, List.singleton_append] at q6 ⊢
                    exact q6
        rcases hy x H' hyl with ⟨rfl, hv'⟩ | ⟨p, us, es, hp, rfl, rfl, ed, hv'⟩
        · exact key S2 H' r2 (fun _ _ h => h) hD hS2 hv'
        · have hpL : L ≠ p := ne_p hp hD
          have e := le_upd (ho := .tup us) (r2.out.s_none hp)
          refine key _ _ (r2.alloc hp) e (by rw [upd_ne hpL]; exact hD) (by rw [upd_ne hpL]; exact hS2) ?_
          rw [ed]
          exact .tup (SqT.of upd_same) (dpAll_mono e _ _ hv')
      · have ei : i = ds.length := by omega
        subst ei
        rw [List.drop_length] at q2
        have q3 : PostE K R C κ S0 H0 w0 S2 σ ρ .own Q (.ok (.list (acc ++ [])) w2) := q2
        rw [List.append_nil] at q3
        refine .inl ⟨yStop (Nat.le_refl _), q3 (.ref L) S2 H2 r2 (fun _ _ h => h) ⟨L, _, rfl, hS2, r1.out.h0_none hL, hf2, hD, hacc, fun j e' hj hk hs => ?_⟩⟩
        exact fresh_slot r1 hL j e' hj hk hs
    · rw [if_neg hz] at q; exact q.elim
end
end B

/-! sets of any kind of keys, their order: sorted(set(texts)) -/
namespace BT
open PySem PySem.W PySem.Calls PyProof.Rows L2
section
variable {P : Program} {w : World} {K : Type} [DecidableEq K] [Nonempty K] (knd : PySem.KeyKind P w K)
/-- the key that an entry holds -/
noncomputable def kOf (e : Int × Value) : K := Classical.epsilon fun k => knd.is k e.2 = true
def GoodG (e : Int × Value) : Prop := knd.is (kOf knd e) e.2 = true ∧ e.1 = knd.hash (kOf knd e) ∧ e.2.scannable = true
/-- the set at a: its members S, n of them; its table can be walked -/
def SetG (h : Heap) (a : Addr) (S : K → Bool) (n : Nat) : Prop :=
  ∃ o es ep t, h.get? a = some o ∧ o.ExactSet ∧ o.data = .set es ep t ∧ (∀ e ∈ es.toList, GoodG knd e) ∧ (es.toList.map (kOf knd)).Nodup ∧ (∀ k, S k = true ↔ k ∈ es.toList.map (kOf knd)) ∧
    es.size < scanBound ∧ t.fits es.size = true ∧ es.size = n ∧ Ris t.place.toList ∧ (w.params.followText "set-order" = true ∨ t.led = true)
variable {knd}
theorem kOf_is {e : Int × Value} {k : K} (h : knd.is k e.2 = true) : kOf knd e = k := knd.inj e.2 _ _ (Classical.epsilon_spec (p := fun k => knd.is k e.2 = true) ⟨k, h⟩) h
theorem good_of {e : Int × Value} {k : K} (h : knd.is k e.2 = true) (hh : e.1 = knd.hash k) (hs : e.2.scannable = true) : GoodG knd e := by
  unfold GoodG
  rw [kOf_is h]
  exact ⟨h, hh, hs⟩
theorem good_el {l : List (Int × Value)} (g : ∀ e ∈ l, GoodG knd e) : ElemsOf knd l := fun e he => ⟨⟨kOf knd e, (g e he).1, (g e he).2.1⟩, (g e he).2.2⟩
theorem good_mem {l : List (Int × Value)} (g : ∀ e ∈ l, GoodG knd e) (k : K) : k ∈ l.map (kOf knd) ↔ ∃ e ∈ l, knd.is k e.2 = true := by
  rw [List.mem_map]
  constructor
  · rintro ⟨e, he, q⟩
    exact ⟨e, he, by rw [← q]; exact (g e he).1⟩
  · rintro ⟨e, he, q⟩
    exact ⟨e, he, kOf_is q⟩
theorem SetG.at {h h' : Heap} {a : Addr} {S : K → Bool} {n : Nat} (R : SetG knd h a S n) (k : ∀ o, h.get? a = some o → h'.get? a = some o) : SetG knd h' a S n := by
  obtain ⟨o, es, ep, t, ho, r⟩ := R
  exact ⟨o, es, ep, t, k o ho, r⟩
theorem SetG.congr {h : Heap} {a : Addr} {S S' : K → Bool} {n n' : Nat} (R : SetG knd h a S n) (e : ∀ k, S' k = S k) (en : n' = n) : SetG knd h a S' n' := by
  have q : S' = S := funext e
  rw [q, en]; exact R
theorem setG_fresh {h : Heap} : SetG knd (h.push { cls := .type "set", dict := none, data := .set #[] 0 (.fresh 0 0 (!w.params.followText "set-order")) }) h.objs.size (fun _ => false) 0 :=
  ⟨_, #[], 0, _, Heap.get?_push_size _ rfl, ⟨rfl, rfl, rfl⟩, rfl, (fun e he => by simp at he), (by simp), (fun k => by simp), (by decide), (by rfl), rfl, List.Pairwise.nil, by
    show _ ∨ (!w.params.followText "set-order") = true
    cases w.params.followText "set-order"
    · exact .inr rfl
    · exact .inl rfl⟩
section
variable {A : Around} {E : Value → Shared → Prop} {s : Shared} {a : Addr} {S : K → Bool} {n : Nat}
theorem setG_tail {g : Bool → Sem Unit} (hg : ∀ (b : Bool) (s₁ : Shared) (Q' : Unit → Shared → Prop), Q' () s₁ → wpAny (model P w) A (g b) Q' E s₁)
    {o : Obj} {es : Array (Int × Value)} {ep : Nat} {t : SetTable} (ho : s.heap.get? a = some o) (hex : o.ExactSet) (hd : o.data = .set es ep t)
    {es1 : Array (Int × Value)} {t2 : SetTable} {S' : K → Bool} (g1 : ∀ e ∈ es1.toList, GoodG knd e) (nd1 : (es1.toList.map (kOf knd)).Nodup) (m1 : ∀ k, S' k = true ↔ k ∈ es1.toList.map (kOf knd))
    (hb1 : es1.size < scanBound) (hf2 : t2.fits es1.size = true) (hr : Ris t2.place.toList) (hl : w.params.followText "set-order" = true ∨ t2.led = true) {wasDummy : Bool} {R : Option Bool → Shared → Prop}
    (hR : ∀ h', Heap.SameBut a s.heap h' → SetG knd h' a S' es1.size → R (some true) { s with heap := h' }) :
    wpAny (model P w) A (do
        storeSet a es1 t2
        if (!wasDummy && t2.tooFull) = true then do
            g (relayAll t2 es1 (SetTable.grown es1.size)).2.2
            storeSet a (relayAll t2 es1 (SetTable.grown es1.size)).1 (relayAll t2 es1 (SetTable.grown es1.size)).2.1
            pure (some true)
          else pure (some true)) R E s := by
  refine wpAny_bind (wpAny_storeSet_of ho hd ?_ (fits_of_scanBound hb1))
  have ho1 := store_at (es' := es1) (t' := t2) ho hd
  have sb1 := Heap.SameBut.update s.heap a (Obj.putSet es1 t2)
  split
  · have pm := relayAll_perm t2 es1 (SetTable.grown es1.size)
    have hf3 := relayAll_fits t2 es1 (SetTable.grown es1.size)
    have hr3 := relayAll_ris t2 es1 (SetTable.grown es1.size)
    have hl3 := relayAll_led t2 es1 (SetTable.grown es1.size)
    generalize relayAll t2 es1 (SetTable.grown es1.size) = Z at pm hf3 hr3 hl3 ⊢
    obtain ⟨es2, t3, gave⟩ := Z
    dsimp only at pm hf3 hr3 hl3 ⊢
    have hsz : es2.size = es1.size := by rw [← Array.length_toList, pm.length_eq, Array.length_toList]
    have hb2 : es2.size < scanBound := by rw [hsz]; exact hb1
    refine wpAny_bind (hg _ _ _ ?_)
    refine wpAny_bind (wpAny_storeSet_of ho1 rfl ?_ (fits_of_scanBound hb2))
    have ho2 := store_at (es' := es2) (t' := t3) ho1 rfl
    refine wpAny_pure (hR _ (sb1.trans (Heap.SameBut.update _ a _)) ?_)
    exact ⟨_, es2, _, t3, ho2, hex, rfl, fun e he => g1 e (pm.mem_iff.mp he), (pm.map (kOf knd)).nodup_iff.mpr nd1, fun k => (m1 k).trans (pm.map (kOf knd)).mem_iff.symm, hb2, hf3, hsz, hr3,
      hl.imp id fun z => by rw [hl3]; exact z⟩
  · exact wpAny_pure (hR _ sb1 ⟨_, es1, _, t2, ho1, hex, rfl, g1, nd1, m1, hb1, hf2, rfl, hr, hl⟩)
theorem setG_add {k : K} {x : Value} {Q : Bool → Shared → Prop} (hkey : knd.is k x = true) (hsc : x.scannable = true) (R : SetG knd s.heap a S n) (room : n + 1 < scanBound)
    (hQ : ∀ h', Heap.SameBut a s.heap h' → SetG knd h' a (fun j => S j || decide (j = k)) (if S k = true then n else n + 1) → Q (!S k) { s with heap := h' }) :
    wpAny (model P w) A (setAddHashed a x (knd.hash k)) Q E s := by
  obtain ⟨o, es, ep, t, ho, hex, hd, g, nd, hm, hb, hf, hn, hr, hl⟩ := R
  have hel : ElemsOf knd es.toList := good_el g
  unfold setAddHashed setAddHashedIn
  refine wpAny_holding (wpAny_bind (wpAny_setState_of ho hd hf ?_))
  dsimp only
  rw [byScan_of hsc hb hel]
  simp only [↓reduceIte]
  unfold setAddByScan
  refine wpAny_bind ?_
  refine wpAny_bind (wpAny_rule ?_)
  refine wpAny_bind (wpAny_setScan_of hkey ho hd hf hel ?_)
  cases hfi : List.findIdx? (fun e => knd.is k e.2) es.toList with
  | some j =>
    dsimp only
    obtain ⟨hj, pj, _⟩ := List.findIdx?_eq_some_iff_getElem.mp hfi
    have hSk : S k = true := (hm k).2 ((good_mem g k).2 ⟨es.toList[j], List.getElem_mem hj, pj⟩)
    refine wpAny_pure (wpAny_pure ?_)
    have q := hQ s.heap (Heap.SameBut.refl a s.heap) ⟨o, es, ep, t, ho, hex, hd, g, nd, fun i => by
      rw [Bool.or_eq_true, decide_eq_true_eq, ← hm i]
      exact ⟨fun z => z.elim id (fun e => e ▸ hSk), .inl⟩, hb, hf, by rw [if_pos hSk]; exact hn, hr, hl⟩
    rw [hSk] at q
    exact q
  | none =>
    dsimp only
    have hnk : k ∉ es.toList.map (kOf knd) := fun z => by
      obtain ⟨e, he, q⟩ := (good_mem g k).1 z
      have c := List.findIdx?_eq_none_iff.mp hfi e he
      rw [q] at c
      cases c
    have hSk : S k = false := by
      cases q : S k with
      | false => rfl
      | true => exact absurd ((hm k).1 q) hnk
    have hgw : ∀ (b : Bool) {s₁ : Shared} {Q' : Unit → Shared → Prop}, Q' () s₁ → wpAny (model P w) A (match b with | true => rule "set.scan.the-table-gave-way" | false => pure ()) Q' E s₁ :=
      fun b s₁ Q' q => by cases b <;> first | exact wpAny_pure q | exact wpAny_rule q
    have pm := layNew_perm t es (knd.hash k) x
    have hf1 := layNew_fits t es (knd.hash k) x
    have hr1 := layNew_ris t es (knd.hash k) x hr
    have hl1 := layNew_led t es (knd.hash k) x
    generalize layNew t es (knd.hash k) x = Z at pm hf1 hr1 hl1 ⊢
    obtain ⟨es1, t1, wasDummy, gave⟩ := Z
    dsimp only at pm hf1 hr1 hl1 ⊢
    rw [Array.toList_push] at pm
    have pc : es1.toList.Perm ((knd.hash k, x) :: es.toList) := pm.trans (List.perm_append_singleton _ _)
    have ek : kOf knd (knd.hash k, x) = k := kOf_is hkey
    have pk : (es1.toList.map (kOf knd)).Perm (k :: es.toList.map (kOf knd)) := by
      have := pc.map (kOf knd)
      rw [List.map_cons, ek] at this
      exact this
    have g1 : ∀ e ∈ es1.toList, GoodG knd e := fun e he => by
      rcases List.mem_cons.mp (pc.mem_iff.mp he) with z | z
      · rw [z]; exact good_of hkey rfl hsc
      · exact g e z
    have nd1 : (es1.toList.map (kOf knd)).Nodup := pk.nodup_iff.mpr (List.nodup_cons.mpr ⟨hnk, nd⟩)
    have m1 : ∀ i, (S i || decide (i = k)) = true ↔ i ∈ es1.toList.map (kOf knd) := fun i => by
      rw [Bool.or_eq_true, decide_eq_true_eq, hm i, pk.mem_iff, List.mem_cons]
      exact Or.comm
    have hsz : es1.size = n + 1 := by rw [← Array.length_toList, pc.length_eq, List.length_cons, Array.length_toList, hn]
    have hb1 : es1.size < scanBound := by rw [hsz]; exact room
    have hled : w.params.followText "set-order" = true ∨ t1.led = true := hl.imp id fun z => by rw [hl1]; exact z
    have fin : ∀ h', Heap.SameBut a s.heap h' → SetG knd h' a (fun j => S j || decide (j = k)) es1.size → Q true { s with heap := h' } := fun h' sb r => by
      have q := hQ h' sb
      rw [hSk] at q
      rw [hsz] at r
      exact q r
    refine wpAny_bind (hgw _ ?_)
    split
    · refine wpAny_bind ?_
      rw [hashByValue_scannable 8 hsc]
      refine wpAny_pure ?_
      refine setG_tail ?_ ho hex hd g1 nd1 m1 hb1 ?_ ?_ ?_ ?_
      · intro b s₁ Q' q; cases b <;> first | exact wpAny_pure q | exact wpAny_rule q
      · first | (split <;> first | exact hf1 | exact SetTable.fits_plain_off hf1) | exact hf1
      · first | (split <;> exact hr1) | exact hr1
      · first | (split <;> exact hled) | exact hled
      · intro h' sb r; dsimp only; exact wpAny_pure (fin h' sb r)
    · refine wpAny_bind (wpAny_pure ?_)
      simp only [↓reduceIte]
      refine setG_tail ?_ ho hex hd g1 nd1 m1 hb1 hf1 hr1 hled ?_
      · intro b s₁ Q' q; cases b <;> first | exact wpAny_pure q | exact wpAny_rule q
      · intro h' sb r; dsimp only; exact wpAny_pure (fin h' sb r)
end
section
variable {A : Around} {R : Result → Shared → Prop} {It : Addr} {fp wr : List Addr} {G : Array GenState → Array GenState → Prop} {n : Nat} {Pv : Nat → Value → Prop} {Sv : Nat → Shared → Prop}
/-- the set at D holds the items of l -/
abbrev HoldG (knd : PySem.KeyKind P w K) (h : Heap) (D : Addr) (l : List K) : Prop := SetG knd h D (fun k => decide (k ∈ l)) l.length
/-- the loop of set(..) over a walk that gives keys -/
theorem setLoopG (V : WalksS P w A.in1 It fp wr G n Pv Sv) (D : Addr) (hD : D ∉ fp) (xs : List K) (hx : xs.length = n) (hz : n + 1 < scanBound) (hv : ∀ i v, Pv i v → ∃ x, xs[i]? = some x ∧ knd.is x v = true ∧ v.scannable = true) :
    ∀ (k i : Nat) (u : Shared), n = i + k → Sv i u → HoldG knd u.heap D (BS.ddp (xs.take i)) →
      (∀ u', Moved (D :: wr) G u u' → HoldG knd u'.heap D (BS.ddp xs) → R (.ok (.ret .none)) u') → codeAny (model P w) A (.builtin "set.update.loop" ⟨[.ref D, .ref It], []⟩) R u := by
  have dw : D ∉ wr := fun z => hD (V.sub _ z)
  have up : ∀ b ∈ wr, b ∈ D :: wr := fun b z => .tail _ z
  intro k
  induction k with
  | zero =>
    intro i u hk st hS fin
    obtain rfl : n = i := hk
    refine codeAny_builtin PyProof.Rows.F.entry_set_update_loop ?_
    rw [Around.under_plainId PyProof.Rows.F.plain_set_update_loop (Args.mk [.ref D, .ref It] [])]
    show wpAny (model P w) A.in1 (pyNext (.ref It) >>= _) _ _ u
    refine wpAny_bind (V.done u _ _ st fun u1 mv => ?_)
    show wpAny (model P w) A.in1 (ret Value.none) _ _ u1
    refine wpAny_pure (fin u1 (mv.mono up) ?_)
    have := hS.at fun o => mv.heap D o dw
    rwa [← hx, List.take_length] at this
  | succ k ih =>
    intro i u hk st hS fin
    refine codeAny_builtin PyProof.Rows.F.entry_set_update_loop ?_
    rw [Around.under_plainId PyProof.Rows.F.plain_set_update_loop (Args.mk [.ref D, .ref It] [])]
    show wpAny (model P w) A.in1 (pyNext (.ref It) >>= _) _ _ u
    refine wpAny_bind (V.item i u _ _ (by omega) st fun v u1 hp st1 mv => ?_)
    obtain ⟨x, hi, hkv, hsc⟩ := hv i v hp
    have h1 := hS.at fun o => mv.heap D o dw
    have hle := BS.ddp_le (xs.take i) []
    have htk : (xs.take i).length ≤ n := by rw [← hx]; exact List.length_take_le' _ _
    show wpAny (model P w) A.in1 (holding [v] (setAdd D v) >>= _) _ _ u1
    refine wpAny_bind (wpAny_holding ?_)
    unfold setAdd
    refine wpAny_holding (wpAny_bind (knd.pyHash (k := x) hkv ?_))
    refine setG_add (s := { u1 with toks := u1.toks + 1 }) hkv hsc h1 (by unfold BS.ddp; rw [List.length_nil] at hle; omega) fun h2 sb s2 => ?_
    have h3 : HoldG knd h2 D (BS.ddp (xs.take (i + 1))) := by
      rw [BS.ddp_take hi]
      refine s2.congr (fun y => ?_) (by rw [BS.dstep_len]; simp)
      rw [Bool.eq_iff_iff]
      simp [BS.mem_dstep]
    refine wpAny_pure ⟨plainId_quiet PyProof.Rows.F.plain_set_update_loop _, ih (i + 1) _ (by omega) (V.frame _ u1 _ _ st1 (Nat.le_succ _) fun b hb o e => ?_) h3 fun u2 mv2 s3 => ?_⟩
    · rw [sb.2 b fun z => hD (z ▸ hb)]
      exact e
    · refine fin u2 (Moved.trans V.gtrans ((mv.mono up).then_heap (Nat.le_succ _) fun b o hb e => ?_) mv2) s3
      rw [sb.2 b fun z => hb (z ▸ .head _)]
      exact e
end
section
variable {A : Around} {E : Value → Shared → Prop} {s : Shared}
abbrev newS (w : World) : Obj := { cls := .type "set", dict := none, data := .set #[] 0 (.fresh 0 0 (!w.params.followText "set-order")) }
set_option maxHeartbeats 6400000 in
theorem call_setG {l : Addr} {its : Array Value} {xs : List K} {Q : Value → Shared → Prop} (hn : A.handled = none) (hl : s.heap.IsList l its) (hl2 : xs.length = its.size) (hx : ∀ (i : Nat) (v : Value), its.toList[i]? = some v → ∃ x, xs[i]? = some x ∧ knd.is x v = true ∧ v.scannable = true) (hz : its.size + 1 < scanBound)
    (fin : ∀ (hB : Heap) (tk : Nat), HoldG knd hB s.heap.objs.size (BS.ddp xs) → (∀ b o, s.heap.get? b = some o → hB.get? b = some o) → Q (.ref s.heap.objs.size) { s with heap := hB, toks := tk }) :
    wpAny (model P w) A (call (.type "set") [.ref l]) Q E s := by
  have cs := PySem.F.called_set
  obtain ⟨c0, tail0, hmro⟩ := cs.mro
  have m1 := cs.made
  have m2 := cs.sub
  have m3 := cs.notType
  have m4 := cs.canCreate
  have m5 := PySem.F.typeCall_set_1 (.ref l)
  have m6 := cs.init.lookup
  refine wpAny_call (codeAny_of_tree ?_)
  show wpAny (model P w) _ (callAny (.type "set") (Args.mk [.ref l] [])) _ _ s
  refine wpAny_pure ⟨Code.quiet_builtin _ (by decide +kernel), codeAny_builtin PySem.F.entry_type_call ?_⟩
  rw [Around.under_plain (weight_type_call_type "set" [.ref l] []) rfl]
  repeat (any_goals (first | assumption | wp_step))
  refine codeAny_mono (code_set_led1 (.ref l) (E := E) (Q₁ := fun ob u => ob = .ref s.heap.objs.size ∧ u = { s with heap := s.heap.push (newS w) }) ⟨rfl, rfl⟩) fun r u hr => ?_
  cases r with
  | error e => exact hr
  | ok fl =>
    cases fl with
    | next => exact hr.elim
    | brk => exact hr.elim
    | cont => exact hr.elim
    | ret ob =>
      obtain ⟨rfl, rfl⟩ := hr
      have gD : (s.heap.push (newS w)).get? s.heap.objs.size = some (newS w) := Heap.get?_push_size _ rfl
      have tD : Shared.TypeIs { s with heap := s.heap.push (newS w) } (.ref s.heap.objs.size) "set" := ⟨_, gD, rfl⟩
      have m7 := cs.init.bind (.ref s.heap.objs.size)
      repeat (any_goals (first | assumption | wp_step))
      refine codeAny_mono (codeAny_call_builtin (R := wants (fun r2 u2 => r2 = .none ∧ ∃ hB tk, u2 = { s with heap := hB, toks := tk } ∧ HoldG knd hB s.heap.objs.size (BS.ddp xs) ∧ ∀ b o, s.heap.get? b = some o → hB.get? b = some o) E) cs.init.plain PySem.F.entry_set_init (check_set_init_1 tD ?_)) fun r2 u2 hr2 => ?_
      · obtain ⟨⟨oc, od, dt, sl⟩, ho, hc, nn, hd⟩ := hl
        dsimp only at hc hd
        subst hc hd
        have ho2 : (s.heap.push (newS w)).get? l = some { cls := .type "list", dict := od, data := .seq its nn, slots := sl } := Heap.get?_push_of_some _ ho
        have n1 := PySem.F.sub_list_set
        have n2 := PySem.F.sub_list_frozenset
        have n3 : (Value.type "list" == Value.type "dict") = false := by decide
        have il : (s.heap.push (newS w)).IsList l its := ⟨_, ho2, rfl, nn, rfl⟩
        unfold Builtin.«set.__init__» noKeywords Builtin.Frozenset.updateFrom
        generalize hPy : pyIter = Py
        wp_walk
        subst hPy
        refine wpAny_pyIter_list il (wpAny_bind (wpAny_runValue ?_))
        have lD : l < s.heap.objs.size := Heap.lt_size ho
        have hn3 : A.in1.in1.in1.handled = none := by simp [hn]
        have e1 : (s.heap.push (newS w)).objs.size = s.heap.objs.size + 1 := Heap.size_push _ _
        have ln : l ≠ (s.heap.push (newS w)).objs.size := by rw [e1]; exact Nat.ne_of_lt (Nat.lt_succ_of_lt lD)
        have Dn : s.heap.objs.size ∉ [(s.heap.push (newS w)).objs.size, l] := by
          rw [e1]
          simp only [List.mem_cons, List.not_mem_nil, or_false, not_or]
          exact ⟨Nat.ne_of_lt (Nat.lt_succ_self _), Nat.ne_of_gt lD⟩
        refine setLoopG (knd := knd) ((Walks.list hn3 _ l ln its).toS) s.heap.objs.size Dn xs hl2 hz (fun i v hv => hx i v (by rw [Array.getElem?_toList]; exact hv)) its.size 0 _ (by omega) ⟨⟨_, Heap.get?_push_size _ rfl, rfl, rfl⟩, il.push _⟩ ?first ?last
        case first =>
          have gD2 : ((s.heap.push (newS w)).push { cls := .type "list_iterator", data := .fields #[.ref l, .int 0 0] }).get? s.heap.objs.size = some (newS w) := Heap.get?_push_of_some _ gD
          exact (setG_fresh (knd := knd)).at fun o e => Heap.get?_push_of_some _ e
        case last =>
          intro u3 mv hS
          obtain ⟨hB, gB, dB, tB, oB⟩ := u3
          obtain rfl : gB = s.gens := mv.gens
          obtain rfl : dB = s.drawn := mv.drawn
          obtain rfl : oB = s.os := mv.os
          show wpAny (model P w) _ _ _ _ _
          refine wpAny_pure ?_
          show wpAny (model P w) _ (ret Value.none) _ _ _
          refine wpAny_pure ⟨rfl, hB, tB, rfl, hS, fun b o hb => ?_⟩
          have b1 := Heap.lt_size hb
          refine mv.heap b o ?_ (Heap.get?_push_of_some _ (Heap.get?_push_of_some _ hb))
          simp only [List.mem_cons, List.not_mem_nil, or_false, not_or]
          rw [e1]
          exact ⟨Nat.ne_of_lt b1, Nat.ne_of_lt (Nat.lt_succ_of_lt b1)⟩
      · cases r2 with
        | error e => exact hr2
        | ok fl2 =>
          cases fl2 with
          | next => exact hr2.elim
          | brk => exact hr2.elim
          | cont => exact hr2.elim
          | ret v2 =>
            obtain ⟨rfl, hB, tB, rfl, hS, kB⟩ := hr2
            repeat (any_goals (first | assumption | wp_step))
            exact fin _ _ hS kB
end
end
end BT

/-! sorted(set(texts)), sorted(dict) -/
namespace BT
open PySem PySem.W PySem.Calls PyProof.Rows L2
theorem ddp_nodup {K : Type} [DecidableEq K] : ∀ (xs acc : List K), acc.Nodup → (xs.foldl BS.dstep acc).Nodup
  | [], acc, h => h
  | x :: xs, acc, h => by
    rw [List.foldl_cons]
    refine ddp_nodup xs _ ?_
    unfold BS.dstep
    split
    · exact h
    · rename_i hn
      exact List.nodup_append.mpr ⟨h, by simp, fun a ha b hb e => hn (by rw [List.mem_singleton] at hb; rw [← hb, ← e]; exact ha)⟩
theorem mem_ddp' {K : Type} [DecidableEq K] {k : K} : ∀ (xs acc : List K), k ∈ xs.foldl BS.dstep acc ↔ k ∈ acc ∨ k ∈ xs
  | [], acc => by simp
  | x :: xs, acc => by
    rw [List.foldl_cons, mem_ddp' xs, BS.mem_dstep, List.mem_cons]
    constructor
    · rintro ((h | h) | h)
      · exact .inl h
      · exact .inr (.inl h)
      · exact .inr (.inr h)
    · rintro (h | h | h)
      · exact .inl (.inl h)
      · exact .inl (.inr h)
      · exact .inr h
theorem mem_ddp {K : Type} [DecidableEq K] {k : K} {xs : List K} : k ∈ BS.ddp xs ↔ k ∈ xs := by
  unfold BS.ddp
  rw [mem_ddp']
  simp
def strV : Value → Str
  | .str x _ => x
  | _ => ⟨#[]⟩
theorem strs_map : ∀ {l : List Value}, (∀ v ∈ l, ∃ x t, v = Value.str x t) → StrsAre l (l.map strV)
  | [], _ => .nil
  | v :: l, h => by
    obtain ⟨x, t, rfl⟩ := h v List.mem_cons_self
    exact .cons x t (strs_map fun u hu => h u (List.mem_cons_of_mem _ hu))
section
variable {P : Program} {w : World} {A : Around} {E : Value → Shared → Prop} {s : Shared}
theorem sorted_setS {a : Addr} {S : Str → Bool} {n : Nat} {zs : List Str} {Q : Value → Shared → Prop} (R : SetG (PySem.strKind P w) s.heap a S n) (hS : ∀ k, S k = decide (k ∈ zs)) (hz : zs.Nodup) (hh : A.handled = none) (h64 : zs.length < 64)
    (hQ : ∀ (s' : Shared) (p : Addr) (out : Array Value) (c : Nat) (ys : List Str), (∀ b o, s.heap.get? b = some o → s'.heap.get? b = some o) → s'.gens = s.gens → s'.os = s.os → s.heap.objs.size ≤ p →
      s'.heap.get? p = some (seqObj "list" out c) → StrsAre out.toList ys → ys.Perm zs → sortedS ys = true → Q (.ref p) s') :
    wpAny (model P w) A (call (.builtin "sorted") [.ref a]) Q E s := by
  obtain ⟨o, es, ep, t, ho, hex, hd, g, nd, hm, hb, hf, hn, hr, hl⟩ := R
  refine Calls.call_function_entry kind_sorted plain_sorted entry_sorted (args_sorted1 _) ?_
  unfold Builtin.«sorted»
  refine wpAny_bind (m := checkCount "sorted" 1 1 _) (wpAny_pure ?_)
  refine wpAny_bind (collect_set (A := A.in1) hh ⟨o, ho, hex.1, hd⟩ hf hb hr hl fun s1 vs k1 hz1 g1 o1 pm => ?_)
  have hsh : ∀ v ∈ vs, ∃ x t, v = Value.str x t := fun v hv => by
    obtain ⟨e, he, q⟩ := List.mem_map.mp (pm.mem_iff.mp hv)
    obtain ⟨t, h1⟩ := Value.isStrOf_shape (g e he).1
    exact ⟨_, t, by rw [← q]; exact h1⟩
  have hI : StrsAre vs (vs.map strV) := strs_map hsh
  have ek : (es.toList.map (·.2)).map strV = es.toList.map (kOf (PySem.strKind P w)) := by
    rw [List.map_map]
    refine List.map_congr_left fun e he => ?_
    obtain ⟨t, h1⟩ := Value.isStrOf_shape (g e he).1
    show strV e.2 = _
    rw [h1]
    rfl
  have pz : (vs.map strV).Perm zs := by
    refine (pm.map strV).trans ?_
    rw [ek]
    refine (List.perm_ext_iff_of_nodup nd hz).mpr fun k => ?_
    rw [← hm k, hS k, decide_eq_true_eq]
  have hvl : vs.length < 64 := by
    have := pz.length_eq
    rw [List.length_map] at this
    omega
  refine wpAny_bind (wpAny_newList ?_ (by rw [sizeLine_eq]; omega))
  have hoL : (s1.heap.push (seqObj "list" vs.toArray 0)).get? s1.heap.objs.size = some (seqObj "list" vs.toArray 0) := Heap.get?_push_size _ rfl
  refine wpAny_bind (wpAny_holding (wpAny_call_entry PyProof.Rows.slot_list_sort ⟨_, hoL, rfl⟩ PyProof.Rows.entry_list_sort
    (list_sort_treeK strKind_oneLt (s := { s1 with heap := s1.heap.push (seqObj "list" vs.toArray 0) }) hoL hI.keysOf (fun v₁ v₂ rest e => keyKind_strs (by rw [← e]; exact hI)) hvl fun st' hp hs => ⟨_, rfl, ?_⟩)
    (PyProof.Rows.args_list_sort _)))
  obtain ⟨ys, a1, a2, a3⟩ := sorted_out_str hI hp hs
  obtain ⟨c, hc⟩ := sortedHeap_at (vs := vs) (out := (arrOf st').map (·.2)) hoL
  refine wpAny_pure ⟨_, rfl, hQ _ s1.heap.objs.size _ c ys (fun b u e => ?_) g1 o1 hz1 hc a1 (a2.trans pz) a3⟩
  have q := k1 b u e
  have hlt := Heap.lt_size q
  show (sortedHeap (s1.heap.push (seqObj "list" vs.toArray 0)) s1.heap.objs.size vs _).get? b = some u
  rw [sortedHeap_old (Nat.ne_of_lt hlt) (by rw [size_push']; exact Nat.lt_succ_of_lt hlt)]
  exact Heap.get?_push_of_some _ q
end
end BT

/-! dicts: display, store, update, get, sorted; sorted(set(texts)) -/
namespace B
open PySem L2
/-! ### texts in order -/
def leS (a b : Str) : Bool := decide (¬ b.cps.toList < a.cps.toList)
def sortS (xs : List Str) : List Str := xs.mergeSort leS
theorem leS_iff {a b : Str} : leS a b = true ↔ a.cps.toList ≤ b.cps.toList := by
  unfold leS
  rw [decide_eq_true_eq]
  exact List.not_lt
theorem leS_trans (a b c : Str) (h1 : leS a b = true) (h2 : leS b c = true) : leS a c = true := by
  rw [leS_iff] at *
  exact List.le_trans h1 h2
theorem leS_total (a b : Str) : (leS a b || leS b a) = true := by
  rw [Bool.or_eq_true, leS_iff, leS_iff]
  exact List.le_total _ _
theorem leS_anti {a b : Str} (h1 : leS a b = true) (h2 : leS b a = true) : a = b := by
  rw [leS_iff] at *
  have := List.le_antisymm h1 h2
  cases a; cases b
  rename_i x y
  have e : x = y := Array.toList_inj.mp this
  rw [e]
theorem rising_pw : ∀ (p : Str) (l : List Str), PyProof.Rows.risingS p l = true → (∀ x ∈ l, leS p x = true) ∧ l.Pairwise fun a b => leS a b = true
  | p, [], _ => ⟨fun _ h => (nomatch h), .nil⟩
  | p, x :: r, h => by
    unfold PyProof.Rows.risingS at h
    rw [Bool.and_eq_true] at h
    obtain ⟨h1, h2⟩ := rising_pw x r h.2
    have hpx : leS p x = true := by
      have := h.1
      rw [PyProof.Rows.ltCps_eq] at this
      unfold leS
      simpa using this
    refine ⟨fun y hy => ?_, List.pairwise_cons.mpr ⟨h1, h2⟩⟩
    rcases List.mem_cons.mp hy with rfl | hy
    · exact hpx
    · exact leS_trans _ _ _ hpx (h1 y hy)
theorem sortedS_pw : ∀ {l : List Str}, PyProof.Rows.sortedS l = true → l.Pairwise fun a b => leS a b = true
  | [], _ => .nil
  | x :: r, h => by
    obtain ⟨h1, h2⟩ := rising_pw x r h
    exact List.pairwise_cons.mpr ⟨h1, h2⟩
theorem sortS_perm (xs : List Str) : (sortS xs).Perm xs := List.mergeSort_perm _ _
theorem sortS_pw (xs : List Str) : (sortS xs).Pairwise fun a b => leS a b = true := List.pairwise_mergeSort leS_trans leS_total xs
theorem sortS_uniq {xs ys : List Str} (p : ys.Perm xs) (h : ys.Pairwise fun a b => leS a b = true) : ys = sortS xs :=
  List.Perm.eq_of_pairwise (fun a b _ _ h1 h2 => leS_anti h1 h2) h (sortS_pw xs) (p.trans (sortS_perm xs).symm)
theorem sortS_congr {xs ys : List Str} (p : ys.Perm xs) : sortS ys = sortS xs := sortS_uniq ((sortS_perm ys).trans p) (sortS_pw ys)
section
variable {K : PySem.W.Frag} {W : Type} {R : Rs W} {C : Cl} {κ κb κc : List Kd} {rk : Kd} {S H : Hp}
theorem dvs_of_strs : ∀ (xs : List Str), DVs K S (xs.map V.str) (xs.map .str)
  | [] => .nil
  | x :: xs => .cons (.str x) (dvs_of_strs xs)
/-! ### sorted(set(xs)) -/
def tSortS (K : PySem.W.Frag) (te : TE) : TE := fun σ H Q => te σ H fun x H1 => ∃ (l : Addr) (xs : List Str), x = .ref l ∧ SqL K H1 l (xs.map V.str) ∧ xs.length ≤ 4000 ∧ (BS.ddp xs).length < 64 ∧
  ∀ p, H1 p = none → Q (.ref p) (upd H1 p (.lst ((sortS (BS.ddp xs)).map V.str)))
theorem strs_get : ∀ {ys : List Str} {us : List Value}, Vals (ys.map V.str) us → ∀ (i : Nat) (v : Value), us[i]? = some v → ∃ x t, ys[i]? = some x ∧ v = Value.str x t
  | [], _, .nil, i, v, h => by simp at h
  | y :: ys, _, .cons r t, 0, v, h => by
    obtain ⟨k, rfl⟩ := r
    rw [List.getElem?_cons_zero] at h
    cases h
    exact ⟨y, k, rfl, rfl⟩
  | y :: ys, _, .cons r t, i + 1, v, h => by
    rw [List.getElem?_cons_succ] at h
    obtain ⟨x, u, h1, h2⟩ := strs_get t i v h
    exact ⟨x, u, by rw [List.getElem?_cons_succ]; exact h1, h2⟩
instance : Nonempty Str := ⟨⟨#[]⟩⟩
theorem pe_sortS {X : Cx} {e : PySem.Expr} {te : TE} {p p2 q pos : Pos} (hc : X.calm = true) (hg : Gl X "sorted") (hm : X.mg "sorted" = none) (hg2 : Gl X "set") (hm2 : X.mg "set" = none) (he : PE X e te)
    (ns : starEach [e] X.env = (false, eval e X.env) :: starEach [] X.env := by rfl) : PE X (.Call (.Name "sorted" p) [.Call (.Name "set" p2) [e] [] q] [] pos) (tSortS X.K te) := by
  refine ⟨fun pins s σ H Q I h => ?_⟩
  refine wpAny_Call_Name_kw (ld_blt I hg hm PyProof.Rows.boot_sorted (PyProof.Rows.callWith_builtin1 (PyProof.Rows.args_cons ?_ rfl) rfl rfl))
  refine wpAny_Call_Name_kw (ld_blt I hg2 hm2 PyProof.Rows.boot_set (PyProof.Rows.callWith_type1 (PyProof.Rows.args_cons (thn (he.run pins s σ H _ I h) fun v s1 hv => PyProof.Rows.args_nil ?_) ns) ns rfl))
  obtain ⟨x, H1, I1, r1, l, xs, rfl, hq, hz, h64, q1⟩ := hv
  obtain rfl : v = Value.ref l := r1
  obtain ⟨its, r, pl, _⟩ := I1.list hq
  have le : xs.length = its.toArray.size := by rw [List.size_toArray, ← r.length, List.length_map]
  refine BT.call_setG (knd := PySem.strKind X.prog X.w) (I1.ok.hd hc) pl.isList (xs := xs) le (fun i v hv => ?_) (by rw [← le]; unfold PySem.scanBound; omega) fun h' tk hS hk => PyProof.Rows.args_nil ?_
  · obtain ⟨x, t, g1, rfl⟩ := strs_get r i v (by simpa using hv)
    exact ⟨x, g1, PySem.strKind_is _ _ x t, rfl⟩
  have I2 : Inv X pins σ H1 { s1 with heap := h', toks := tk } := I1.kept hk
  refine BT.sorted_setS (s := { s1 with heap := h', toks := tk }) hS (fun _ => rfl) (BT.ddp_nodup xs [] .nil) (I2.ok.hd hc) h64 fun s' p out c ys k g o hp hgp hi pm srt => ?_
  have ey : ys = sortS (BS.ddp xs) := sortS_uniq pm (sortedS_pw srt)
  subst ey
  have hpn : H1 p = none := I2.hok.fresh hp
  have hlen : ((sortS (BS.ddp xs)).map V.str).length ≤ sizeLine := by
    rw [List.length_map, (sortS_perm _).length_eq]
    exact Nat.le_trans (Nat.le_of_lt h64) (by decide)
  have hgp' : s'.heap.get? p = some (PyProof.Rows.seqObj "list" out.toList.toArray c) := by rw [Array.toArray_toList]; exact hgp
  exact ⟨.ref p, _, I2.call' (s' := s') (ch := []) o (Un.laid k hp hpn) (I2.hok.laid k hp (show ObjOk X.prog X.w _ s'.heap p (.lst ((sortS (BS.ddp xs)).map V.str)) from ⟨hlen, out.toList, c, vals_of_strs hi, hgp'⟩)) (by rw [g]; exact I2.bare) (fun _ z => nomatch z), rfl, q1 p hpn⟩
def gSortSS : D → Option (List D)
  | .list ds => (strsD ds).bind fun xs => if xs.length ≤ 4000 ∧ (BS.ddp xs).length < 64 then some ((sortS (BS.ddp xs)).map .str) else none
  | _ => none
def mSortS (m : ME W) : ME W := fun ρ => bnd (m ρ) fun x => lift ((gSortSS x).map .list)
theorem okSortS {te : TE} {k : Kd} {m : ME W} (h : OkE K R C κ te k m) (hk : k ≠ .res := by decide) : OkE K R C κ (tSortS K te) .own (mSortS m) := by
  intro S0 H0 w0 S H σ ρ w Q rl q
  refine h S0 H0 w0 S H σ ρ w _ rl ?_
  unfold mSortS at q
  cases e : m ρ w with
  | stuck => rw [bnd_stuck e] at q; exact q.elim
  | exc c fs w1 => rw [bnd_exc e] at q; exact q
  | ok d w1 =>
    rw [bnd_ok e] at q
    intro v S1 H1 r1 s1 o1
    cases d with
    | list ds =>
      have q : PostE K R C κ S0 H0 w0 S σ ρ .own Q (lift (((strsD ds).bind fun xs => if xs.length ≤ 4000 ∧ (BS.ddp xs).length < 64 then some ((sortS (BS.ddp xs)).map .str) else none).map .list) w1) := q
      cases e2 : strsD ds with
      | none => rw [e2] at q; exact q.elim
      | some xs =>
        rw [e2, Option.bind_some] at q
        split at q
        · rename_i hl
          obtain ⟨p, us, rfl, h1, h2⟩ := seen_list r1.out.sub (o1.seen r1 hk)
          rw [strsD_map e2] at h2
          rw [dvs_strs' h2] at h1
          exact ⟨p, xs, rfl, SqL.of h1, hl.1, hl.2, fun l hn => q (.ref l) S1 _ (r1.allocOwn hn) s1 (res_new r1 hn (dvs_of_strs _))⟩
        · exact q.elim
    | _ => exact q.elim
theorem kSortS {X : Cx} {e : PySem.Expr} {te : TE} {p p2 q pos : Pos} (hK : X.K = K) (hc : X.calm = true) (hg : Gl X "sorted") (hm : X.mg "sorted" = none) (hg2 : Gl X "set") (hm2 : X.mg "set" = none) (he : PE X e te)
    (ns : starEach [e] X.env = (false, eval e X.env) :: starEach [] X.env := by rfl) : PE X (.Call (.Name "sorted" p) [.Call (.Name "set" p2) [e] [] q] [] pos) (tSortS K te) := by subst hK; exact pe_sortS hc hg hm hg2 hm2 he ns
/-! ### sorted(d) -/
def strKeys : List (D × D) → Option (List Str)
  | [] => some []
  | (.str x, _) :: ps => (strKeys ps).map (x :: ·)
  | _ :: _ => none
theorem strKeys_dvd : ∀ {kvs : List (Key × V)} {ps : List (D × D)} {xs : List Str}, DVd K S kvs ps → strKeys ps = some xs → kvs.map (·.1) = xs.map Sum.inr
  | _, _, xs, .nil, h => by cases h; rfl
  | _, _, xs, .cons (k := k1) (ps := ps) h1 h2, h => by
    cases k1 with
    | inl i => exact absurd h (by simp [keyD, strKeys])
    | inr x =>
      have h' : (strKeys ps).map (x :: ·) = some xs := h
      cases e : strKeys ps with
      | none => rw [e] at h'; cases h'
      | some ys =>
        rw [e] at h'
        cases h'
        rw [List.map_cons, strKeys_dvd h2 e]
        rfl
def rSortD : Rb := fun xs H Q => ∃ (a : Addr) (kvs : List (Key × V)) (ks : List Str), xs = [.ref a] ∧ Rd H a (.dK kvs) ∧ kvs.map (·.1) = ks.map Sum.inr ∧ ks.length < 64 ∧
    ∀ ys p, ys.Perm ks → PyProof.Rows.sortedS ys = true → H p = none → Q (.ref p) (upd H p (.lst (ys.map V.str)))
def gSortD : List D → Option (List D)
  | [.dict ps] => (strKeys ps).bind fun xs => if xs.length < 64 then some ((sortS xs).map .str) else none
  | _ => none
theorem cSortD : CbL K rSortD gSortD := by
  intro S H vs ds z Q sub hs hf q
  unfold gSortD at hf
  split at hf
  · rename_i ps
    cases e : strKeys ps with
    | none => rw [e] at hf; cases hf
    | some xs =>
      rw [e, Option.bind_some] at hf
      split at hf
      · rename_i hl
        cases hf
        obtain ⟨v, rfl, h⟩ := seenAll_1 hs
        obtain ⟨p, kvs, rfl, h1, h2⟩ := seen_dct sub h
        refine ⟨p, kvs, xs, rfl, .inl h1, strKeys_dvd h2 e, hl, fun ys l pm srt hn => ?_⟩
        rw [sortS_uniq pm (sortedS_pw srt)]
        exact q l _ hn (dvs_of_strs _)
      · cases hf
  · cases hf
theorem kSortD {X : Cx} (hc : X.calm = true) : CallR X (.builtin "sorted") rSortD := call_sortedD hc
/-! ### {k: v} -/
def mDisp1 (mk me : ME W) : ME W := fun ρ => bnd (noX (mk ρ)) fun k => bnd (noX (me ρ)) fun x => bnd (lift (putO [] k x)) fun ps => ret (.dict ps)
theorem wipe_nil' (σ : L2.St) : wipe σ [] = σ := by
  simp [wipe]
theorem wipeR_nil' (ρ : Rho) : wipeR ρ [] = ρ := by
  simp [wipeR]
theorem okDisp1 {tk te : TE} {mk me : ME W} (hk : OkE K R C.no (blkK κ) tk .dat mk) (he : OkE K R C.no (blkK κ) te .dat me) : OkE K R C κ (tDisp [(tk, te)]) .own (mDisp1 mk me) := by
  intro S0 H0 w0 S H σ ρ w Q rl q p hp
  have r0 := rl.allocOwn (ho := .dK []) hp
  have hSp : S p = none := rl.out.s_none hp
  have h0p : H0 p = none := rl.out.h0_none hp
  have hfp : ¬ R.fp w p := rl.out.nofp hp
  show tk σ (upd H p (.dK [])) _
  have rr := r0.block []
  rw [wipe_nil', wipeR_nil'] at rr
  refine hk _ _ _ S (upd H p (.dK [])) σ ρ w _ rr ?_
  unfold mDisp1 at q
  cases e1 : mk ρ w with
  | stuck => rw [bnd_stuck (x := noX (mk ρ)) (by unfold noX; rw [e1])] at q; exact q.elim
  | exc c fs w1 => rw [bnd_stuck (x := noX (mk ρ)) (by unfold noX; rw [e1])] at q; exact q.elim
  | ok k w1 =>
    rw [bnd_ok (x := noX (mk ρ)) (noX_ok e1)] at q
    intro kv S1 H1 r1 s1 o1
    show te σ H1 _
    refine he _ _ _ S1 H1 σ ρ w1 _ r1 ?_
    cases e2 : me ρ w1 with
    | stuck => rw [bnd_stuck (x := noX (me ρ)) (by unfold noX; rw [e2])] at q; exact q.elim
    | exc c fs w2 => rw [bnd_stuck (x := noX (me ρ)) (by unfold noX; rw [e2])] at q; exact q.elim
    | ok x w2 =>
      rw [bnd_ok (x := noX (me ρ)) (noX_ok e2)] at q
      intro xv S2 H2 r2 s2 o2
      have hD : upd H p (.dK []) p = some (.dK []) := upd_same
      have kp : H2 p = some (.dK []) ∧ S2 p = none ∧ ¬ R.fp w2 p := by
        refine ⟨r2.out.keep p _ hD hfp, ?_, fun hf => ?_⟩
        · cases z : S2 p with
          | none => rfl
          | some u =>
            have := r2.out.new p (by rw [z]; exact Option.some_ne_none _) hSp
            rw [this] at hD; cases hD
        · have := r2.out.resN p hf hfp
          rw [this] at hD; cases hD
      unfold putO at q
      cases eo : keyO k with
      | none => rw [eo, Option.map_none, lift_none, bnd_stk] at q; exact q.elim
      | some kk =>
        rw [eo, Option.map_some, lift_some, bnd_ret] at q
        have hcat : keyO k = some kk := eo
        obtain ⟨rfl, rfl⟩ := keyO_dv o1 eo
        refine ⟨kp.1, [(kk, xv)], rfl, by simp, ?_⟩
        have r3 := r0.after r2.out
        have q' : PostE K R C κ S0 H0 w0 S σ ρ .own Q (.ok (.dict (putD [] kk x)) w2) := q
        have hrel : DVd K S2 (mergeK [] [(kk, xv)]) (putD [] kk x) := dvd_put (kvs := []) o2 .nil
        refine q' (.ref p) S2 _ ?_ (fun a o z => s2 a o (s1 a o z)) ⟨p, _, rfl, kp.2.1, h0p, kp.2.2, upd_same, hrel, fun j e' hj hk' hs => fresh_slot rl hp j e' hj hk' hs⟩
        obtain ⟨oa, r8⟩ := r3
        refine ⟨oa, r8.out.write kp.2.1 h0p kp.2.2, r8.len, fun j e hj => ?_, r8.inj⟩
        obtain ⟨u, g1, g2⟩ := r8.slot j e hj
        refine ⟨u, g1, slot_write (fun kj ej => ?_) g2⟩
        rw [kj] at g2
        obtain ⟨v2, _⟩ := g2
        exact fresh_slot rl hp j e hj kj (by rw [g1, v2, ej])
/-! ### d[k] = x -/
def mDPut (i : Nat) (mk me : ME W) : MS W := fun ρ => bnd (me ρ) fun x => bnd (mVar i ρ) fun d => bnd (mk ρ) fun k => match d with
  | .dict ps => if ps.length < 1000000 then bnd (lift (putO ps k x)) fun ps2 => ret (.nx (ρ.set i (some (.dict ps2)))) else stk
  | _ => stk
theorem ownRep_dict {ho : HO} {ps : List (D × D)} (h : OwnRep K S ho (.dict ps)) : ∃ kvs, ho = .dK kvs ∧ DVd K S kvs ps := by
  cases ho with
  | dK kvs => exact ⟨kvs, rfl, h⟩
  | _ => exact h.elim
theorem okDPut {tk te : TE} {i : Nat} {mk me : ME W} (he : OkE K R C κ te .dat me) (hi : OkE K R C κ tk .dat mk) (hk : kd κ i = .own := by rfl) :
    OkS K R C κb κc rk κ (sDPut (tVar i) tk te) (mDPut i mk me) κ := by
  intro S0 H0 w0 S H σ ρ w E rl q
  refine he S0 H0 w0 S H σ ρ w _ rl ?_
  unfold mDPut at q
  cases e : me ρ w with
  | stuck => rw [bnd_stuck e] at q; exact q.elim
  | exc c fs w1 => rw [bnd_exc e] at q; exact fun cls dd S' H' r' hc hx => q cls dd σ S' H' r'.out hc hx
  | ok u w1 =>
    rw [bnd_ok e] at q
    intro v S1 H1 r1 s1 o1
    unfold mVar at q
    cases e0 : ρ[i]? with
    | none => simp only [e0, bnd_stk] at q; exact q.elim
    | some x =>
      cases x with
      | none => simp only [e0, bnd_stk] at q; exact q.elim
      | some d =>
        simp only [e0, bnd_ret] at q
        obtain ⟨p, ho, hσ, hp, hr0, hwr⟩ := r1.write hk e0 (d' := d)
        refine ⟨_, hσ, hi S0 H0 w0 S1 H1 σ ρ w1 _ r1 ?_⟩
        cases e2 : mk ρ w1 with
        | stuck => rw [bnd_stuck e2] at q; exact q.elim
        | exc c fs w2 => rw [bnd_exc e2] at q; exact fun cls dd S' H' r' hc hx => q cls dd σ S' H' r'.out hc hx
        | ok k w2 =>
          rw [bnd_ok e2] at q
          intro vk S2 H2 r2 s2 o2
          cases d with
          | dict ps =>
            simp only at q
            split at q
            · rename_i hl
              unfold putO at q
              cases eo : keyO k with
              | none => simp only [eo, Option.map_none, lift_none, bnd_stk] at q; exact q.elim
              | some kk =>
                simp only [eo, Option.map_some, lift_some, bnd_ret] at q
                obtain ⟨p', ho', hσ', hp', hr', hwr'⟩ := r2.write hk e0 (d' := .dict (putD ps kk u))
                rw [hσ] at hσ'
                have ep : p = p' := V.ref.inj (Option.some.inj (Option.some.inj hσ'))
                subst ep
                obtain ⟨kvs, rfl, hv1⟩ := ownRep_dict hr'
                obtain ⟨rfl, rfl⟩ := keyO_dv o2 eo
                exact ⟨p, _, rfl, DPut.k hp' (by rw [dvd_len hv1]; exact sz_lt' hl), q σ S2 _ (hwr' (.dK (putK kvs kk v)) (dvd_put (dp_mono s2 _ _ o1) hv1)) fun a o z => s2 a o (s1 a o z)⟩
            · exact q.elim
          | _ => exact q.elim
/-! ### d.get(k, x) -/
def getO (ps : List (D × D)) (k z : D) : Option D := (keyO k).map fun k => (getD' ps k).getD z
def theDc : D → M W (List (D × D)) | .dict ps => ret ps | _ => stk
def mDGet2 (mo mk mz : ME W) : ME W := fun ρ => bnd (mo ρ) fun d => bnd (theDc d) fun ps => bnd (mk ρ) fun k => bnd (mz ρ) fun z => lift (getO ps k z)
theorem okDGet2 {to tk tz : TE} {mo mk mz : ME W} (ho : OkE K R C κ to .dat mo) (hk : OkE K R C κ tk .dat mk) (hz : OkE K R C κ tz .dat mz) : OkE K R C κ (tDGet2 to tk tz) .dat (mDGet2 mo mk mz) := by
  intro S0 H0 w0 S H σ ρ w Q rl q
  refine ho S0 H0 w0 S H σ ρ w _ rl ?_
  unfold mDGet2 at q
  cases e : mo ρ w with
  | stuck => rw [bnd_stuck e] at q; exact q.elim
  | exc c fs w1 => rw [bnd_exc e] at q; exact q
  | ok d w1 =>
    rw [bnd_ok e] at q
    intro v S1 H1 r1 s1 o1
    obtain ⟨ps, rfl⟩ : ∃ ps, d = .dict ps := by cases d <;> first | exact ⟨_, rfl⟩ | exact q.elim
    have q : PostE K R C κ S0 H0 w0 S σ ρ .dat Q (bnd (mk ρ) (fun k => bnd (mz ρ) fun z => lift (getO ps k z)) w1) := q
    obtain ⟨p, kvs, rfl, hp, hd⟩ : ∃ p kvs, v = .ref p ∧ S1 p = some (.dK kvs) ∧ DVd K S1 kvs ps := by
      have o1' : DV K S1 v (.dict ps) := o1
      cases o1' with
      | dct h1 h2 => exact ⟨_, _, rfl, h1, h2⟩
    refine ⟨p, rfl, .inl ⟨kvs, .inl (r1.out.sub _ _ hp)⟩, hk S0 H0 w0 S1 H1 σ ρ w1 _ r1 ?_⟩
    cases e2 : mk ρ w1 with
    | stuck => rw [bnd_stuck e2] at q; exact q.elim
    | exc c fs w2 => rw [bnd_exc e2] at q; exact q
    | ok k w2 =>
      rw [bnd_ok e2] at q
      intro vk S2 H2 r2 s2 o2
      refine hz S0 H0 w0 S2 H2 σ ρ w2 _ r2 ?_
      cases e3 : mz ρ w2 with
      | stuck => rw [bnd_stuck e3] at q; exact q.elim
      | exc c fs w3 => rw [bnd_exc e3] at q; exact q
      | ok z w3 =>
        rw [bnd_ok e3] at q
        intro vz S3 H3 r3 s3 o3
        unfold getO at q
        cases eo : keyO k with
        | none => rw [eo, Option.map_none, lift_none] at q; exact q.elim
        | some kk =>
          rw [eo, Option.map_some, lift_some] at q
          obtain ⟨rfl, rfl⟩ := keyO_dv o2 eo
          have hp3 : H3 p = some (.dK kvs) := r3.out.sub _ _ (s3 _ _ (s2 _ _ hp))
          have hd3 : DVd K S3 kvs ps := dpD_mono (fun a o z => s3 a o (s2 a o z)) _ _ hd
          refine ⟨valV kvs kk, DGet.k hp3, q _ S3 H3 r3 (fun a o z => s3 a o (s2 a o (s1 a o z))) ?_⟩
          obtain ⟨g1, g2⟩ := dvd_get (k := kk) hd3
          cases eg : getD' ps kk with
          | none => rw [g2 eg]; exact o3
          | some dd =>
            obtain ⟨u, h1, h2⟩ := g1 dd eg
            rw [h1]
            exact h2
/-! ### d.update(e) -/
def mergeD (ps qs : List (D × D)) : List (D × D) := qs.foldl (fun acc q => match keyO q.1 with | some k => putD acc k q.2 | none => acc) ps
theorem dvd_merge : ∀ {more : List (Key × V)} {qs : List (D × D)} {kvs : List (Key × V)} {ps : List (D × D)}, DVd K S more qs → DVd K S kvs ps → DVd K S (mergeK kvs more) (mergeD ps qs)
  | _, _, _, _, .nil, h => h
  | _, _, kvs, ps, .cons (k := k) (v := v) (kvs := more) (d := d) (ps := qs) h1 h2, h => by
    show DVd K S (mergeK (putK kvs k v) more) (mergeD (match keyO (keyD k) with | some k => putD ps k d | none => ps) qs)
    rw [keyO_D]
    exact dvd_merge h2 (dvd_put h1 h)
def rUpd : V → List V → Hp → VK → Prop := fun x xs H Q => ∃ d o kvs more, x = .ref d ∧ xs = [.ref o] ∧ d ≠ o ∧ H d = some (.dK kvs) ∧ H o = some (.dK more) ∧ kvs.length + more.length ≤ sizeLine ∧ Q .non (upd H d (.dK (mergeK kvs more)))
theorem mt_update {X : Cx} : MtR X "dict.update" rUpd := by
  intro pins s σ H x xs v us Q I rx rs q
  obtain ⟨d, o, kvs, more, rfl, rfl, hdo, hd, ho, hz, q⟩ := q
  cases rx
  obtain ⟨u, rfl, ru⟩ := rs.one
  cases ru
  obtain ⟨z1, lo1, vs1, rel1, dd1⟩ := dk_of I.hok hd
  obtain ⟨z2, lo2, vs2, rel2, dd2⟩ := dk_of I.hok ho
  refine PySem.call_meetsIn PySem.F.slot_dict_update dd1.typeIs PySem.F.entry_dict_update (PySem.F.args_dict_update_2 _ _) (PySem.meets_dict_update (mixKind X.prog X.w) d o hdo lo2) ⟨vs1, vs2, dd1, dd2, by rw [← rel1.length, ← rel2.length]; exact hz, fun h' g1 g2 sb => ?_⟩
  have he : ∃ q, h'.get? d = some q := let ⟨q, _, _, hq, _⟩ := g1; ⟨q, hq⟩
  have hl : (mergeK kvs more).length ≤ sizeLine := Nat.le_trans (length_mergeK more kvs) hz
  exact ⟨.non, _, d_write I (by rw [hd]; exact True.intro) sb he (dk_new hl lo1 (rel2.merge rel1) g1), rfl, q⟩
def mUpd (i : Nat) (m : Rho → M W (List D)) : MS W := fun ρ => bnd (mVar i ρ) fun d => bnd (theDc d) fun ps => bnd (m ρ) fun es => match es with
  | [.dict qs] => if ps.length + qs.length ≤ 1000000 then ret (.nx (ρ.set i (some (.dict (mergeD ps qs))))) else stk
  | _ => stk
theorem okUpd {ta : TA} {k : Kd} {i : Nat} {m : Rho → M W (List D)} (h : OkA K R C κ ta [k] m) (hk : kd κ i = .own := by rfl) (hkk : k = .dat ∨ k = .own := by decide) :
    OkS K R C κb κc rk κ (tDrop (tBM K "dict" rUpd (tVar i) ta)) (mUpd i m) κ := by
  intro S0 H0 w0 S H σ ρ w E rl q
  unfold mUpd mVar at q
  cases e0 : ρ[i]? with
  | none => simp only [e0, bnd_stk] at q; exact q.elim
  | some x =>
    cases x with
    | none => simp only [e0, bnd_stk] at q; exact q.elim
    | some d =>
      simp only [e0, bnd_ret] at q
      obtain ⟨p, ho, hσ, hp, hr0, hwr⟩ := rl.write hk e0 (d' := d)
      obtain ⟨ps, rfl⟩ : ∃ ps, d = .dict ps := by cases d <;> first | exact ⟨_, rfl⟩ | exact q.elim
      have q : PostS K R C κ κb κc rk S0 H0 w0 S E (bnd (m ρ) (fun es => match es with
        | [.dict qs] => if ps.length + qs.length ≤ 1000000 then ret (.nx (ρ.set i (some (.dict (mergeD ps qs))))) else stk
        | _ => stk) w) := q
      obtain ⟨kvs, rfl, hv⟩ := ownRep_dict hr0
      refine ⟨_, hσ, .inr (.inr (.inl ⟨rfl, .inl ⟨_, hp⟩⟩)), h S0 H0 w0 S H σ ρ w _ rl ?_⟩
      cases e : m ρ w with
      | stuck => rw [bnd_stuck e] at q; exact q.elim
      | exc c fs w1 => rw [bnd_exc e] at q; exact fun cls dd S' H' r' hc hx => q cls dd σ S' H' r'.out hc hx
      | ok es w1 =>
        rw [bnd_ok e] at q
        intro us S1 H1 r1 s1 o1
        cases o1 with
        | cons o2 o3 =>
          cases o3
          rename_i v dv
          cases dv with
          | dict qs =>
            simp only at q
            split at q
            · rename_i hl
              obtain ⟨p', ho', hσ', hp', hr', hwr'⟩ := r1.write hk e0 (d' := .dict (mergeD ps qs))
              rw [hσ] at hσ'
              have ep : p = p' := V.ref.inj (Option.some.inj (Option.some.inj hσ'))
              subst ep
              obtain ⟨kvs1, rfl, hv1⟩ := ownRep_dict hr'
              obtain ⟨oa, r1'⟩ := id r1
              obtain ⟨v1, g1, g2⟩ := r1'.slot i _ e0
              rw [hk] at g2
              obtain ⟨gv, gs, _⟩ := g2
              rw [hσ] at g1
              cases g1
              have hS1p : S1 p = none := by
                have := V.ref.inj gv
                rw [this]; exact gs
              have key : ∃ o more, v = .ref o ∧ p ≠ o ∧ H1 o = some (.dK more) ∧ DVd K S1 more qs := by
                rcases hkk with rfl | rfl
                · have o2' : DV K S1 v (.dict qs) := o2
                  cases o2' with
                  | dct h1 h2 => exact ⟨_, _, rfl, fun z => (by rw [z] at hS1p; rw [hS1p] at h1; exact nomatch h1), r1.out.sub _ _ h1, h2⟩
                · obtain ⟨o, ho2, rfl, _, _, _, h1, h2, h3⟩ := o2
                  obtain ⟨more, rfl, h4⟩ := ownRep_dict h2
                  exact ⟨o, more, rfl, fun z => h3 i _ e0 hk (by rw [hσ, z]), h1, h4⟩
              obtain ⟨o, more, rfl, hne, ho2, hm⟩ := key
              refine ⟨p, o, kvs1, more, rfl, rfl, hne, hp', ho2, ?_, q σ S1 _ (hwr' (.dK (mergeK kvs1 more)) (dvd_merge hm hv1)) s1⟩
              rw [dvd_len hv1, dvd_len hm]
              exact sz_le hl
            · exact q.elim
          | _ => exact q.elim
/-! ### {} -/
def mDNew : ME W := fun _ => ret (.dict [])
theorem okDNew : OkE K R C κ tDNewK .own mDNew := by
  intro S0 H0 w0 S H σ ρ w Q rl q p hp
  exact q (.ref p) S _ (rl.allocOwn hp) (fun _ _ z => z) (res_new (d := .dict []) rl hp .nil)
/-! ### "s" + e.f, in a clause -/
def rAddS : R2 := fun x y H Q => ∃ i j, x = .str i ∧ y = .str j ∧ i.length + j.length ≤ sizeLine ∧ Q (.str (i ++ j)) H
theorem kAddS {X : Cx} : OpR X (binaryOp .Add) rAddS := op_add_str
theorem cAddS : OpP K rAddS gAddS := oAddS
theorem hu1 {k : Nat} {A : Around} (h : Room k A) : A.units + 1 < cLine := by have := h.un; omega
end
end B

/-! expressions, as the program and the laws write them; plain -/
namespace B
open PySem L2
mutual
/-- no truth value, no dict within -/
def plD : D → Bool
  | .none => true
  | .bool _ => false
  | .int _ => true
  | .str _ => true
  | .list ds => plAll ds
  | .tuple ds => plAll ds
  | .dict _ => false
def plAll : List D → Bool
  | [] => true
  | d :: ds => plD d && plAll ds
end
mutual
theorem eqv_pl : ∀ (d e : D), plD d = true → plD e = true → (PyData.eqv d e = true ↔ d = e)
  | .none, e, _, h => by cases e <;> simp [PyData.eqv]
  | .bool _, _, h, _ => by simp [plD] at h
  | .int i, e, _, h => by cases e <;> simp [PyData.eqv, plD] at h ⊢
  | .str x, e, _, h => by cases e <;> simp [PyData.eqv]
  | .list ds, e, h1, h2 => by
    cases e with
    | list es =>
      simp only [plD] at h1 h2
      have := eqv_plAll ds es h1 h2
      simp only [PyData.eqv, this, PyData.list.injEq]
    | _ => simp [PyData.eqv]
  | .tuple ds, e, h1, h2 => by
    cases e with
    | tuple es =>
      simp only [plD] at h1 h2
      have := eqv_plAll ds es h1 h2
      simp only [PyData.eqv, this, PyData.tuple.injEq]
    | _ => simp [PyData.eqv]
  | .dict _, _, h, _ => by simp [plD] at h
theorem eqv_plAll : ∀ (ds es : List D), plAll ds = true → plAll es = true → (PyData.eqvAll ds es = true ↔ ds = es)
  | [], [], _, _ => by simp [PyData.eqvAll]
  | [], _ :: _, _, _ => by simp [PyData.eqvAll]
  | _ :: _, [], _, _ => by simp [PyData.eqvAll]
  | d :: ds, e :: es, h1, h2 => by
    simp only [plAll, Bool.and_eq_true] at h1 h2
    simp only [PyData.eqvAll, Bool.and_eq_true, eqv_pl d e h1.1 h2.1, eqv_plAll ds es h1.2 h2.2, List.cons.injEq]
end
open Classical in
theorem eqv_dec {d e : D} (h1 : plD d = true) (h2 : plD e = true) : PyData.eqv d e = decide (d = e) := by
  rw [Bool.eq_iff_iff, eqv_pl d e h1 h2, decide_eq_true_eq]

inductive Kn | int | text | bool
  deriving DecidableEq
def Kn.str : Kn → Str | .int => "int" | .text => "text" | .bool => "bool"
inductive Vl | int (i : Int) | str (s : Str) | bool (b : Bool)
  deriving DecidableEq
def Vl.enc : Vl → D | .int i => .int i | .str s => .str s | .bool b => .bool b
def Vl.kind : Vl → Kn | .int _ => .int | .str _ => .text | .bool _ => .bool
inductive Bop | add | sub | mul | glue | eq | lt | and | or
  deriving DecidableEq
def Bop.sign : Bop → Str | .add => "+" | .sub => "-" | .mul => "*" | .glue => "&" | .eq => "=" | .lt => "<" | .and => "and" | .or => "or"
inductive Ex | field (n : Str) | int (i : Int) | text (t : Str) | bin (o : Bop) (a b : Ex) | not (a : Ex) | ite (c a b : Ex)
  deriving DecidableEq
def Ex.enc : Ex → D
  | .field n => .tuple [.str "field", .str n]
  | .int i => .tuple [.str "int", .int i]
  | .text t => .tuple [.str "text", .str t]
  | .bin o a b => .tuple [.str o.sign, a.enc, b.enc]
  | .not a => .tuple [.str "not", a.enc]
  | .ite c a b => .tuple [.str "if", c.enc, a.enc, b.enc]
def Ex.dep : Ex → Nat
  | .field _ => 0
  | .int _ => 0
  | .text _ => 0
  | .bin _ a b => max a.dep b.dep + 1
  | .not a => a.dep + 1
  | .ite c a b => max c.dep (max a.dep b.dep) + 1
/-- its texts are texts -/
def Ex.ok : Ex → Prop
  | .field n => PyData.strOk n = true
  | .int i => -10000000000 < i ∧ i < 10000000000
  | .text t => PyData.strOk t = true ∧ t.length ≤ 20
  | .bin _ a b => a.ok ∧ b.ok
  | .not a => a.ok
  | .ite c a b => c.ok ∧ a.ok ∧ b.ok
theorem sign_ok (o : Bop) : PyData.strOk o.sign = true := by cases o <;> decide +kernel
theorem sign_inj {o p : Bop} (h : o.sign = p.sign) : o = p := by
  cases o <;> cases p <;> first | rfl | (exfalso; revert h; decide +kernel)
theorem Ex.pl : ∀ e : Ex, plD e.enc = true
  | .field _ => rfl
  | .int _ => rfl
  | .text _ => rfl
  | .bin o a b => by simp [Ex.enc, plD, plAll, Ex.pl a, Ex.pl b]
  | .not a => by simp [Ex.enc, plD, plAll, Ex.pl a]
  | .ite c a b => by simp [Ex.enc, plD, plAll, Ex.pl a, Ex.pl b, Ex.pl c]
theorem Ex.sh : ∀ {e : Ex}, e.ok → Sh (e.dep + 1) e.enc
  | .field n, h => sh_tup fun d hd => by
    simp at hd
    rcases hd with rfl | rfl
    · exact sh_str (by decide +kernel)
    · exact sh_str h
  | .int n, h => sh_tup fun d hd => by
    simp at hd
    rcases hd with rfl | rfl
    · exact sh_str (by decide +kernel)
    · exact sh_int _
  | .text n, h => sh_tup fun d hd => by
    simp at hd
    rcases hd with rfl | rfl
    · exact sh_str (by decide +kernel)
    · exact sh_str h.1
  | .bin o a b, h => sh_tup fun d hd => by
    simp at hd
    rcases hd with rfl | rfl | rfl
    · exact (sh_str (sign_ok o)).le (Nat.zero_le _)
    · exact (Ex.sh h.1).le (by simp only [Ex.dep]; omega)
    · exact (Ex.sh h.2).le (by simp only [Ex.dep]; omega)
  | .not a, h => sh_tup fun d hd => by
    simp at hd
    rcases hd with rfl | rfl
    · exact (sh_str (by decide +kernel)).le (Nat.zero_le _)
    · exact (Ex.sh (e := a) h).le (by simp only [Ex.dep]; omega)
  | .ite c a b, h => sh_tup fun d hd => by
    simp at hd
    rcases hd with rfl | rfl | rfl | rfl
    · exact (sh_str (by decide +kernel)).le (Nat.zero_le _)
    · exact (Ex.sh h.1).le (by simp only [Ex.dep]; omega)
    · exact (Ex.sh h.2.1).le (by simp only [Ex.dep]; omega)
    · exact (Ex.sh h.2.2).le (by simp only [Ex.dep]; omega)
theorem fne {x y : Str} (h : (x == y) = false) : x ≠ y := fun z => by rw [z, beq_self_eq_true] at h; cases h
theorem Ex.inj : ∀ {a b : Ex}, a.enc = b.enc → a = b := by
  intro a
  induction a with
  | field n =>
    intro b h
    cases b <;> simp [Ex.enc] at h ⊢ <;> first | exact h | exact absurd h.1 (by decide +kernel)
  | int n =>
    intro b h
    cases b <;> simp [Ex.enc] at h ⊢ <;> first | exact h | exact absurd h.1 (by decide +kernel)
  | text n =>
    intro b h
    cases b <;> simp [Ex.enc] at h ⊢ <;> first | exact h | exact absurd h.1 (by decide +kernel)
  | bin o x y ih1 ih2 =>
    intro b h
    cases b <;> simp [Ex.enc] at h ⊢
    exact ⟨sign_inj h.1, ih1 h.2.1, ih2 h.2.2⟩
  | not x ih =>
    intro b h
    cases b <;> simp [Ex.enc] at h ⊢ <;> first | exact ih h | exact absurd h.1 (by decide +kernel)
  | ite c x y ih0 ih1 ih2 =>
    intro b h
    cases b <;> simp [Ex.enc] at h ⊢
    exact ⟨ih0 h.1, ih1 h.2.1, ih2 h.2.2⟩
theorem Ex.eqv (a b : Ex) : PyData.eqv a.enc b.enc = decide (a = b) := by
  rw [Bool.eq_iff_iff, eqv_pl _ _ a.pl b.pl, decide_eq_true_eq]
  exact ⟨Ex.inj, fun h => by rw [h]⟩
theorem Ex.gEq {a b : Ex} (ha : a.ok) (hb : b.ok) (h1 : a.dep ≤ 60 := by omega) (h2 : b.dep ≤ 60 := by omega) : gEq a.enc b.enc = some (.bool (decide (a = b))) := by
  unfold B.gEq
  rw [if_pos ⟨sh_shaped (Ex.sh ha) (by omega), sh_shaped (Ex.sh hb) (by omega)⟩, Ex.eqv]
def eT : Ex := .bin .eq (.int 0) (.int 0)
def eF : Ex := .bin .lt (.int 0) (.int 0)
theorem eT_ok : eT.ok := ⟨⟨by decide, by decide⟩, ⟨by decide, by decide⟩⟩
theorem eF_ok : eF.ok := ⟨⟨by decide, by decide⟩, ⟨by decide, by decide⟩⟩
@[simp] theorem eT_ne : ¬ eT = eF := by decide
@[simp] theorem eF_ne : ¬ eF = eT := by decide
theorem eT_dep : eT.dep = 1 := rfl
theorem eF_dep : eF.dep = 1 := rfl

/-! ### values -/
def cut20 (x : Str) : Str := cutS x none (some 20)
def opV : Bop → Vl → Vl → Vl
  | .add, .int i, .int j => .int (i + j)
  | .sub, .int i, .int j => .int (i - j)
  | .mul, .int i, .int j => .int (i * j)
  | .glue, .str x, .str y => .str (cut20 (x ++ y))
  | .eq, v, u => .bool (decide (v = u))
  | .lt, .int i, .int j => .bool (decide (i < j))
  | .lt, .str x, .str y => .bool (decide (x.cps.toList < y.cps.toList))
  | .and, .bool a, .bool b => .bool (a && b)
  | .or, .bool a, .bool b => .bool (a || b)
  | _, v, _ => v
def notV : Vl → Vl | .bool b => .bool (!b) | v => v
def iteV : Vl → Vl → Vl → Vl | .bool b, v, u => if b then v else u | _, v, _ => v
def val (r : Str → Vl) : Ex → Vl
  | .field n => r n
  | .int i => .int i
  | .text t => .str t
  | .bin o a b => opV o (val r a) (val r b)
  | .not a => notV (val r a)
  | .ite c a b => iteV (val r c) (val r a) (val r b)
def opK : Bop → Kn → Kn → Option Kn
  | .add, .int, .int => some .int
  | .sub, .int, .int => some .int
  | .mul, .int, .int => some .int
  | .glue, .text, .text => some .text
  | .eq, .int, .int => some .bool
  | .eq, .text, .text => some .bool
  | .lt, .int, .int => some .bool
  | .lt, .text, .text => some .bool
  | .and, .bool, .bool => some .bool
  | .or, .bool, .bool => some .bool
  | _, _, _ => none
/-- e is of the kind k over fields of the kinds G -/
inductive WT (G : Str → Option Kn) : Ex → Kn → Prop
  | field {n k} : G n = some k → WT G (.field n) k
  | int {i} : WT G (.int i) .int
  | text {t} : WT G (.text t) .text
  | bin {o a b k l m} : WT G a k → WT G b l → opK o k l = some m → WT G (.bin o a b) m
  | not {a} : WT G a .bool → WT G (.not a) .bool
  | ite {c a b k} : WT G c .bool → WT G a k → WT G b k → WT G (.ite c a b) k
def vok : Vl → Prop
  | .str s => PyData.strOk s = true ∧ s.length ≤ 20
  | _ => True
theorem strOk_app {x y : Str} (hx : PyData.strOk x = true) (hy : PyData.strOk y = true) : PyData.strOk (x ++ y) = true := by
  show (x.cps ++ y.cps).all _ = true
  rw [Array.all_append]
  exact Bool.and_eq_true_iff.mpr ⟨hx, hy⟩
theorem cut_list (x : Str) : (cut20 x).cps.toList = x.cps.toList.take 20 := by
  show ((x.cps.toList.drop 0).take (HT.sIx x.length x.length (some (20 : Int)) - 0)).toArray.toList = _
  have e : HT.sIx x.length x.length (some (20 : Int)) = min 20 x.length := HT.sIx_nat _ _ 20
  rw [e, List.drop_zero, Nat.sub_zero, str_len]
  show x.cps.toList.take (min 20 x.cps.toList.length) = _
  rcases Nat.le_total 20 x.cps.toList.length with h | h
  · rw [Nat.min_eq_left h]
  · rw [Nat.min_eq_right h, List.take_length, List.take_of_length_le h]
theorem cut_ok {x : Str} (h : PyData.strOk x = true) : PyData.strOk (cut20 x) = true ∧ (cut20 x).length ≤ 20 := by
  refine ⟨?_, by rw [str_len, cut_list, List.length_take]; omega⟩
  have h' : ∀ c ∈ x.cps.toList, c < 0x110000 := fun c hc => by
    have := Array.all_eq_true_iff_forall_mem.mp (show x.cps.all (· < 0x110000) = true from h) c (Array.mem_toList_iff.mp hc)
    simpa using this
  show (cut20 x).cps.all (· < 0x110000) = true
  refine Array.all_eq_true_iff_forall_mem.mpr fun c hc => ?_
  have hc' := Array.mem_toList_iff.mpr hc
  rw [cut_list] at hc'
  simpa using h' c (List.mem_of_mem_take hc')
section
variable {G : Str → Option Kn} {r : Str → Vl}
theorem kind_int {v : Vl} (h : v.kind = .int) : ∃ i, v = .int i := by cases v <;> simp [Vl.kind] at h ⊢
theorem kind_text {v : Vl} (h : v.kind = .text) : ∃ i, v = .str i := by cases v <;> simp [Vl.kind] at h ⊢
theorem kind_bool {v : Vl} (h : v.kind = .bool) : ∃ i, v = .bool i := by cases v <;> simp [Vl.kind] at h ⊢
theorem op_kind {o : Bop} {k l m : Kn} {v u : Vl} (h : opK o k l = some m) (hv : v.kind = k) (hu : u.kind = l) : (opV o v u).kind = m := by
  subst hv hu
  cases o <;> cases v <;> cases u <;> simp [opK, Vl.kind] at h <;> first | (subst h; rfl) | skip
theorem op_ok {o : Bop} {v u : Vl} (hv : vok v) (hu : vok u) : vok (opV o v u) := by
  cases o <;> cases v <;> cases u <;> first | exact trivial | exact hv | exact hu | exact cut_ok (strOk_app hv.1 hu.1)
theorem val_kind (hG : ∀ n k, G n = some k → (r n).kind = k) {e : Ex} {k : Kn} (h : WT G e k) : (val r e).kind = k := by
  induction h with
  | field h => exact hG _ _ h
  | int => rfl
  | text => rfl
  | bin _ _ h ih1 ih2 => exact op_kind h ih1 ih2
  | not _ ih =>
    obtain ⟨b, e⟩ := kind_bool ih
    show (notV (val r _)).kind = _
    rw [e]; rfl
  | ite _ _ _ ih0 ih1 ih2 =>
    obtain ⟨b, e⟩ := kind_bool ih0
    show (iteV (val r _) _ _).kind = _
    rw [e]
    show (if b = true then _ else _ : Vl).kind = _
    split
    · exact ih1
    · exact ih2
theorem val_vok (hr : ∀ n k, G n = some k → vok (r n)) {e : Ex} {k : Kn} (h : WT G e k) (ho : e.ok) : vok (val r e) := by
  induction h with
  | field h => exact hr _ _ h
  | int => trivial
  | text => exact ho
  | bin _ _ h ih1 ih2 => exact op_ok (ih1 ho.1) (ih2 ho.2)
  | not _ ih =>
    have := ih ho
    show vok (notV (val r _))
    cases e : val r _ <;> rw [e] at this <;> first | trivial | exact this
  | ite _ _ _ ih0 ih1 ih2 =>
    show vok (iteV (val r _) (val r _) (val r _))
    cases val r _ with
    | bool b =>
      show vok (if b = true then _ else _)
      split
      · exact ih1 ho.2.1
      · exact ih2 ho.2.2
    | _ => exact ih1 ho.2.1
/-- no product too large -/
def Bnd (r : Str → Vl) : Ex → Prop
  | .bin o a b => Bnd r a ∧ Bnd r b ∧ (o = .mul → ∀ i, val r a = .int i → -1000000000000 ≤ i ∧ i ≤ 1000000000000)
  | .not a => Bnd r a
  | .ite c a b => Bnd r c ∧ Bnd r a ∧ Bnd r b
  | _ => True

/-! ### folding -/
def isC : Ex → Bool | .int _ => true | .text _ => true | _ => false
def cv : Ex → Vl | .int i => .int i | .text t => .str t | _ => .bool true
def asEx : Vl → Ex → Ex
  | .bool b, _ => if b then eT else eF
  | .str s, _ => .text s
  | .int i, o => if -10000000000 < i ∧ i < 10000000000 then .int i else o
def fBin : Bop → Ex → Ex → Ex
  | .and, a, b => if a = eF ∨ b = eF then eF else if a = eT then b else if b = eT then a else .bin .and a b
  | .or, a, b => if a = eT ∨ b = eT then eT else if a = eF then b else if b = eF then a else .bin .or a b
  | o, a, b => if isC a = true ∧ isC b = true then asEx (opV o (cv a) (cv b)) (.bin o a b) else .bin o a b
theorem fBin_and (a b : Ex) : fBin .and a b = if a = eF ∨ b = eF then eF else if a = eT then b else if b = eT then a else .bin .and a b := rfl
theorem fBin_or (a b : Ex) : fBin .or a b = if a = eT ∨ b = eT then eT else if a = eF then b else if b = eF then a else .bin .or a b := rfl
theorem asEx_int (i : Int) (o : Ex) : asEx (.int i) o = if -10000000000 < i ∧ i < 10000000000 then .int i else o := rfl
def fNot (a : Ex) : Ex := if a = eT then eF else if a = eF then eT else .not a
def fIte (c a b : Ex) : Ex := if c = eT then a else if c = eF then b else .ite c a b
def fold : Ex → Ex
  | .bin o a b => fBin o (fold a) (fold b)
  | .not a => fNot (fold a)
  | .ite c a b => fIte (fold c) (fold a) (fold b)
  | e => e
theorem fTT : fold eT = eT := by decide +kernel
theorem fFF : fold eF = eF := by decide +kernel
theorem fold_as {v : Vl} {e : Ex} (h : fold e = asEx v e) : fold (asEx v e) = asEx v e := by
  cases v with
  | bool b => cases b <;> first | exact fTT | exact fFF
  | str s => rfl
  | int i =>
    rw [asEx_int] at h ⊢
    split
    · rfl
    · rename_i hn
      rw [if_neg hn] at h
      exact h
theorem fold_idem : ∀ e : Ex, fold (fold e) = fold e
  | .field _ => rfl
  | .int _ => rfl
  | .text _ => rfl
  | .not a => by
    have ih := fold_idem a
    show fold (fNot (fold a)) = fNot (fold a)
    unfold fNot
    split
    · exact fFF
    · split
      · exact fTT
      · rename_i h1 h2
        show fNot (fold (fold a)) = _
        rw [ih]
        unfold fNot
        rw [if_neg h1, if_neg h2]
  | .ite c a b => by
    have ih0 := fold_idem c
    have ih1 := fold_idem a
    have ih2 := fold_idem b
    show fold (fIte (fold c) (fold a) (fold b)) = fIte (fold c) (fold a) (fold b)
    unfold fIte
    split
    · exact ih1
    · split
      · exact ih2
      · rename_i h1 h2
        show fIte (fold (fold c)) (fold (fold a)) (fold (fold b)) = _
        rw [ih0, ih1, ih2]
        unfold fIte
        rw [if_neg h1, if_neg h2]
  | .bin o a b => by
    have ih1 := fold_idem a
    have ih2 := fold_idem b
    show fold (fBin o (fold a) (fold b)) = fBin o (fold a) (fold b)
    have gen : ∀ o, (∀ x y, fBin o x y = if isC x = true ∧ isC y = true then asEx (opV o (cv x) (cv y)) (.bin o x y) else .bin o x y) → fold (fBin o (fold a) (fold b)) = fBin o (fold a) (fold b) := fun o ho => by
      have hs : fold (.bin o (fold a) (fold b)) = fBin o (fold a) (fold b) := by
        show fBin o (fold (fold a)) (fold (fold b)) = _
        rw [ih1, ih2]
      rw [ho]
      split
      · rename_i h
        refine fold_as ?_
        rw [hs, ho, if_pos h]
      · rename_i h
        rw [hs, ho, if_neg h]
    cases o with
    | and =>
      have hs : fold (.bin .and (fold a) (fold b)) = fBin .and (fold a) (fold b) := by
        show fBin .and (fold (fold a)) (fold (fold b)) = _
        rw [ih1, ih2]
      rw [fBin_and] at hs ⊢
      split
      · exact fFF
      · rename_i h1
        split
        · exact ih2
        · rename_i h2
          split
          · exact ih1
          · rename_i h3
            rw [hs, if_neg h1, if_neg h2, if_neg h3]
    | or =>
      have hs : fold (.bin .or (fold a) (fold b)) = fBin .or (fold a) (fold b) := by
        show fBin .or (fold (fold a)) (fold (fold b)) = _
        rw [ih1, ih2]
      rw [fBin_or] at hs ⊢
      split
      · exact fTT
      · rename_i h1
        split
        · exact ih2
        · rename_i h2
          split
          · exact ih1
          · rename_i h3
            rw [hs, if_neg h1, if_neg h2, if_neg h3]
    | _ => exact gen _ fun _ _ => rfl
/-- what folding keeps: kind, value, products, texts, depth -/
structure Same2 (G : Str → Option Kn) (e f : Ex) (k : Kn) : Prop where
  wt : WT G f k
  vl : ∀ r : Str → Vl, (∀ n k, G n = some k → (r n).kind = k) → val r f = val r e
  bd : ∀ r : Str → Vl, (∀ n k, G n = some k → (r n).kind = k) → Bnd r e → Bnd r f
  ok : e.ok → f.ok
  dp : f.dep ≤ e.dep
theorem wtTT : WT G eT .bool := .bin .int .int rfl
theorem wtFF : WT G eF .bool := .bin .int .int rfl
theorem vTT (r : Str → Vl) : val r eT = .bool true := rfl
theorem vFF (r : Str → Vl) : val r eF = .bool false := rfl
theorem bTT (r : Str → Vl) : Bnd r eT := ⟨trivial, trivial, fun h => by cases h⟩
theorem bFF (r : Str → Vl) : Bnd r eF := ⟨trivial, trivial, fun h => by cases h⟩
theorem dep_bin (o : Bop) (a b : Ex) : 1 ≤ (Ex.bin o a b).dep := by simp [Ex.dep]
theorem bool_of (hG : ∀ n k, G n = some k → (r n).kind = k) {e : Ex} (h : WT G e .bool) : ∃ b, val r e = .bool b := kind_bool (val_kind hG h)
theorem same_bin {o : Bop} {a b a' b' : Ex} {k l m : Kn} (h : opK o k l = some m) (ha : WT G a k) (hb : WT G b l) (s1 : Same2 G a a' k) (s2 : Same2 G b b' l) : Same2 G (.bin o a b) (.bin o a' b') m where
  wt := .bin s1.wt s2.wt h
  vl := fun r hG => by show opV o _ _ = opV o _ _; rw [s1.vl r hG, s2.vl r hG]
  bd := fun r hG hB => ⟨s1.bd r hG hB.1, s2.bd r hG hB.2.1, fun ho i hi => hB.2.2 ho i (by rw [← s1.vl r hG]; exact hi)⟩
  ok := fun h => ⟨s1.ok h.1, s2.ok h.2⟩
  dp := by have h1 := s1.dp; have h2 := s2.dp; simp only [Ex.dep]; omega
theorem same_and {a b a' b' : Ex} (ha : WT G a .bool) (hb : WT G b .bool) (s1 : Same2 G a a' .bool) (s2 : Same2 G b b' .bool) : Same2 G (.bin .and a b) (fBin .and a' b') .bool := by
  have base := same_bin (o := .and) rfl ha hb s1 s2
  have h1 := s1.dp
  have h2 := s2.dp
  rw [fBin_and]
  split
  · rename_i h
    refine ⟨wtFF, fun r hG => ?_, fun r _ _ => bFF r, fun _ => eF_ok, dep_bin _ _ _⟩
    obtain ⟨x, ex⟩ := bool_of hG ha
    obtain ⟨y, ey⟩ := bool_of hG hb
    have e1 := s1.vl r hG
    have e2 := s2.vl r hG
    show Vl.bool false = opV .and (val r a) (val r b)
    rcases h with h | h
    · rw [h, vFF] at e1; rw [← e1, ey]; rfl
    · rw [h, vFF] at e2; rw [← e2, ex]; cases x <;> rfl
  · split
    · rename_i h
      refine ⟨s2.wt, fun r hG => ?_, fun r hG hB => s2.bd r hG hB.2.1, fun h => s2.ok h.2, by simp only [Ex.dep]; omega⟩
      obtain ⟨y, ey⟩ := bool_of hG hb
      have e1 := s1.vl r hG
      rw [h, vTT] at e1
      show _ = opV .and (val r a) (val r b)
      rw [s2.vl r hG, ← e1, ey]
      rfl
    · split
      · rename_i h
        refine ⟨s1.wt, fun r hG => ?_, fun r hG hB => s1.bd r hG hB.1, fun h => s1.ok h.1, by simp only [Ex.dep]; omega⟩
        obtain ⟨x, ex⟩ := bool_of hG ha
        have e2 := s2.vl r hG
        rw [h, vTT] at e2
        show _ = opV .and (val r a) (val r b)
        rw [s1.vl r hG, ← e2, ex]
        cases x <;> rfl
      · exact base
theorem same_or {a b a' b' : Ex} (ha : WT G a .bool) (hb : WT G b .bool) (s1 : Same2 G a a' .bool) (s2 : Same2 G b b' .bool) : Same2 G (.bin .or a b) (fBin .or a' b') .bool := by
  have base := same_bin (o := .or) rfl ha hb s1 s2
  have h1 := s1.dp
  have h2 := s2.dp
  rw [fBin_or]
  split
  · rename_i h
    refine ⟨wtTT, fun r hG => ?_, fun r _ _ => bTT r, fun _ => eT_ok, dep_bin _ _ _⟩
    obtain ⟨x, ex⟩ := bool_of hG ha
    obtain ⟨y, ey⟩ := bool_of hG hb
    have e1 := s1.vl r hG
    have e2 := s2.vl r hG
    show Vl.bool true = opV .or (val r a) (val r b)
    rcases h with h | h
    · rw [h, vTT] at e1; rw [← e1, ey]; rfl
    · rw [h, vTT] at e2; rw [← e2, ex]; cases x <;> rfl
  · split
    · rename_i h
      refine ⟨s2.wt, fun r hG => ?_, fun r hG hB => s2.bd r hG hB.2.1, fun h => s2.ok h.2, by simp only [Ex.dep]; omega⟩
      obtain ⟨y, ey⟩ := bool_of hG hb
      have e1 := s1.vl r hG
      rw [h, vFF] at e1
      show _ = opV .or (val r a) (val r b)
      rw [s2.vl r hG, ← e1, ey]
      rfl
    · split
      · rename_i h
        refine ⟨s1.wt, fun r hG => ?_, fun r hG hB => s1.bd r hG hB.1, fun h => s1.ok h.1, by simp only [Ex.dep]; omega⟩
        obtain ⟨x, ex⟩ := bool_of hG ha
        have e2 := s2.vl r hG
        rw [h, vFF] at e2
        show _ = opV .or (val r a) (val r b)
        rw [s1.vl r hG, ← e2, ex]
        cases x <;> rfl
      · exact base
theorem isC_vl {a : Ex} (h : isC a = true) (r : Str → Vl) : cv a = val r a := by cases a <;> first | rfl | cases h
theorem isC_ok {a : Ex} (h : isC a = true) (ho : a.ok) : vok (cv a) := by cases a <;> first | trivial | exact ho | cases h
theorem same_as {v : Vl} {e f : Ex} {k : Kn} (s : Same2 G e f k) (hk : v.kind = k) (hv : ∀ r : Str → Vl, (∀ n k, G n = some k → (r n).kind = k) → val r e = v) (hd : 1 ≤ e.dep) (ho : e.ok → vok v) : Same2 G e (asEx v f) k := by
  cases v with
  | bool b =>
    subst hk
    cases b with
    | true => exact ⟨wtTT, fun r hG => by rw [hv r hG]; rfl, fun r _ _ => bTT r, fun _ => eT_ok, hd⟩
    | false => exact ⟨wtFF, fun r hG => by rw [hv r hG]; rfl, fun r _ _ => bFF r, fun _ => eF_ok, hd⟩
  | str t =>
    subst hk
    exact ⟨.text, fun r hG => by rw [hv r hG]; rfl, fun r _ _ => trivial, fun h => ho h, Nat.zero_le _⟩
  | int i =>
    subst hk
    rw [asEx_int]
    split
    · rename_i hi
      exact ⟨.int, fun r hG => by rw [hv r hG]; rfl, fun r _ _ => trivial, fun h => hi, Nat.zero_le _⟩
    · exact s
theorem same_gen {o : Bop} {a b a' b' : Ex} {k l m : Kn} (h : opK o k l = some m) (ha : WT G a k) (hb : WT G b l) (s1 : Same2 G a a' k) (s2 : Same2 G b b' l) :
    Same2 G (.bin o a b) (if isC a' = true ∧ isC b' = true then asEx (opV o (cv a') (cv b')) (.bin o a' b') else .bin o a' b') m := by
  have base := same_bin (o := o) h ha hb s1 s2
  split
  · rename_i hc
    refine same_as base (op_kind h ?_ ?_) (fun r hG => ?_) (dep_bin _ _ _) fun ho => op_ok (isC_ok hc.1 (s1.ok ho.1)) (isC_ok hc.2 (s2.ok ho.2))
    · have hw := s1.wt
      cases a' <;> first | (cases hc.1; done) | (cases hw; rfl)
    · have hw := s2.wt
      cases b' <;> first | (cases hc.2; done) | (cases hw; rfl)
    · rw [isC_vl hc.1 r, isC_vl hc.2 r, s1.vl r hG, s2.vl r hG]
      rfl
  · exact base
theorem fold_same {e : Ex} {k : Kn} (h : WT G e k) : Same2 G e (fold e) k := by
  induction h with
  | field h => exact ⟨.field h, fun _ _ => rfl, fun _ _ h => h, fun h => h, Nat.le_refl _⟩
  | int => exact ⟨.int, fun _ _ => rfl, fun _ _ h => h, fun h => h, Nat.le_refl _⟩
  | text => exact ⟨.text, fun _ _ => rfl, fun _ _ h => h, fun h => h, Nat.le_refl _⟩
  | @bin o a b k l m h1 h2 h ih1 ih2 =>
    cases o with
    | and =>
      cases k <;> cases l <;> first | (cases h; done) | (cases h; exact same_and h1 h2 ih1 ih2)
    | or =>
      cases k <;> cases l <;> first | (cases h; done) | (cases h; exact same_or h1 h2 ih1 ih2)
    | _ => exact same_gen h h1 h2 ih1 ih2
  | @not a h1 ih =>
    have hd := ih.dp
    show Same2 G (.not a) (fNot (fold a)) .bool
    unfold fNot
    split
    · rename_i h
      refine ⟨wtFF, fun r hG => ?_, fun r _ _ => bFF r, fun _ => eF_ok, by simp [Ex.dep, eF]⟩
      have e := ih.vl r hG
      rw [h, vTT] at e
      show _ = notV (val r a)
      rw [← e]; rfl
    · split
      · rename_i h
        refine ⟨wtTT, fun r hG => ?_, fun r _ _ => bTT r, fun _ => eT_ok, by simp [Ex.dep, eT]⟩
        have e := ih.vl r hG
        rw [h, vFF] at e
        show _ = notV (val r a)
        rw [← e]; rfl
      · exact ⟨.not ih.wt, fun r hG => by show notV _ = notV _; rw [ih.vl r hG], fun r hG hB => ih.bd r hG hB, fun h => ih.ok h, by simp only [Ex.dep]; omega⟩
  | @ite c a b k h0 h1 h2 ih0 ih1 ih2 =>
    have d0 := ih0.dp
    have d1 := ih1.dp
    have d2 := ih2.dp
    show Same2 G (.ite c a b) (fIte (fold c) (fold a) (fold b)) k
    unfold fIte
    split
    · rename_i h
      refine ⟨ih1.wt, fun r hG => ?_, fun r hG hB => ih1.bd r hG hB.2.1, fun h => ih1.ok h.2.1, by simp only [Ex.dep]; omega⟩
      have e := ih0.vl r hG
      rw [h, vTT] at e
      show _ = iteV (val r c) (val r a) (val r b)
      rw [← e, ih1.vl r hG]; rfl
    · split
      · rename_i h
        refine ⟨ih2.wt, fun r hG => ?_, fun r hG hB => ih2.bd r hG hB.2.2, fun h => ih2.ok h.2.2, by simp only [Ex.dep]; omega⟩
        have e := ih0.vl r hG
        rw [h, vFF] at e
        show _ = iteV (val r c) (val r a) (val r b)
        rw [← e, ih2.vl r hG]; rfl
      · exact ⟨.ite ih0.wt ih1.wt ih2.wt, fun r hG => by show iteV _ _ _ = iteV _ _ _; rw [ih0.vl r hG, ih1.vl r hG, ih2.vl r hG], fun r hG hB => ⟨ih0.bd r hG hB.1, ih1.bd r hG hB.2.1, ih2.bd r hG hB.2.2⟩, fun h => ⟨ih0.ok h.1, ih1.ok h.2.1, ih2.ok h.2.2⟩, by simp only [Ex.dep]; omega⟩
end
end B
namespace B
open PySem L2
/-! ### rows over fields -/
abbrev Sc := Str × Str
def sc (p : Sc) : D := .tuple [.str p.1, .str p.2]
def sch (ps : List Sc) : D := .tuple (ps.map sc)
def rowD (vs : List Vl) : D := .tuple (vs.map Vl.enc)
def knOf (x : Str) : Option Kn := if x = "int" then some .int else if x = "text" then some .text else none
def Gs : List Sc → Str → Option Kn
  | [], _ => none
  | p :: ps, n => if p.1 = n then knOf p.2 else Gs ps n
def lookV : List Sc → List Vl → Str → Vl
  | p :: ps, v :: vs, n => if p.1 = n then v else lookV ps vs n
  | _, _, _ => .int 0
structure RowOk (ps : List Sc) (vs : List Vl) : Prop where
  len : vs.length = ps.length
  small : ps.length ≤ 100
  names : ∀ p ∈ ps, PyData.strOk p.1 = true
  kinds : ∀ (i : Nat) (p : Sc) (v : Vl), ps[i]? = some p → vs[i]? = some v → knOf p.2 = some v.kind
  ok : ∀ v ∈ vs, B.vok v
theorem RowOk.nil : RowOk [] [] := ⟨rfl, Nat.zero_le _, by simp, by simp, by simp⟩
theorem RowOk.tail {p : Sc} {ps : List Sc} {v : Vl} {vs : List Vl} (h : RowOk (p :: ps) (v :: vs)) : RowOk ps vs where
  len := by have := h.len; simpa using this
  small := by have := h.small; simp at this; omega
  names := fun q hq => h.names q (List.mem_cons_of_mem _ hq)
  kinds := fun i q u h1 h2 => h.kinds (i + 1) q u (by simpa using h1) (by simpa using h2)
  ok := fun u hu => h.ok u (List.mem_cons_of_mem _ hu)
theorem RowOk.typed : ∀ {ps : List Sc} {vs : List Vl}, RowOk ps vs → ∀ n k, Gs ps n = some k → (lookV ps vs n).kind = k
  | [], _, _, n, k, h => by cases h
  | p :: ps, [], h, _, _, _ => by have := h.len; simp at this
  | p :: ps, v :: vs, h, n, k, hk => by
    unfold Gs at hk
    unfold lookV
    by_cases hn : p.1 = n
    · rw [if_pos hn] at hk ⊢
      have := h.kinds 0 p v rfl rfl
      rw [this] at hk
      exact Option.some.inj hk
    · rw [if_neg hn] at hk ⊢
      exact h.tail.typed n k hk
theorem RowOk.vok : ∀ {ps : List Sc} {vs : List Vl}, RowOk ps vs → ∀ n k, Gs ps n = some k → B.vok (lookV ps vs n)
  | [], _, _, n, k, h => by cases h
  | p :: ps, [], h, _, _, _ => by have := h.len; simp at this
  | p :: ps, v :: vs, h, n, k, hk => by
    unfold Gs at hk
    unfold lookV
    by_cases hn : p.1 = n
    · rw [if_pos hn]
      exact h.ok v List.mem_cons_self
    · rw [if_neg hn] at hk ⊢
      exact h.tail.vok n k hk
theorem RowOk.find : ∀ {ps : List Sc} {vs : List Vl}, RowOk ps vs → ∀ {n k}, Gs ps n = some k → ∃ j : Nat, ps.findIdx? (fun p => decide (p.1 = n)) = some j ∧ vs[j]? = some (lookV ps vs n)
  | [], _, _, n, k, h => by cases h
  | p :: ps, [], h, _, _, _ => by have := h.len; simp at this
  | p :: ps, v :: vs, h, n, k, hk => by
    unfold Gs at hk
    unfold lookV
    rw [List.findIdx?_cons]
    by_cases hn : p.1 = n
    · exact ⟨0, by simp [hn], by simp [hn]⟩
    · rw [if_neg hn] at hk
      obtain ⟨j, h1, h2⟩ := h.tail.find hk
      exact ⟨j + 1, by simp [hn, h1], by simp [hn, h2]⟩
theorem names_shaped {ps : List Sc} (h : ∀ p ∈ ps, PyData.strOk p.1 = true) : SeqAt.shaped (.list (ps.map fun p => .str p.1)) = true :=
  sh_shaped (n := 1) (sh_list fun d hd => by
    obtain ⟨p, hp, rfl⟩ := List.mem_map.mp hd
    exact sh_str (h p hp))
theorem names_index {ps : List Sc} {vs : List Vl} (hs : RowOk ps vs) {m : Str} (hm : PyData.strOk m = true) {j : Nat} (h : ps.findIdx? (fun p => decide (p.1 = m)) = some j) : gIndex (.list (ps.map fun p => .str p.1)) [.str m] = some (.int (j : Int)) := by
  show (if _ then Option.map (fun j : Nat => PyData.int (j : Int)) (List.findIdx? (fun z => PyData.eqv z (.str m)) (ps.map fun p : Sc => PyData.str p.1)) else none) = _
  rw [if_pos ⟨names_shaped hs.names, sh_shaped (sh_str hm)⟩, List.findIdx?_map]
  have e : (fun z => PyData.eqv z (.str m)) ∘ (fun p : Sc => PyData.str p.1) = fun p : Sc => decide (p.1 = m) := by
    funext p
    show PyData.eqv (.str p.1) (.str m) = _
    rw [PyData.eqv, PySem.W.beq_decide]
  rw [e, h]
  rfl
theorem cut_tail (d : D) (ds : List D) : cutD (d :: ds) (some 1) none = ds := by
  unfold cutD
  have e : HT.sIx (d :: ds).length 0 (some (1 : Int)) = 1 := by
    have := HT.sIx_nat (d :: ds).length 0 1
    simp at this
    simpa using this
  rw [e]
  show (ds.take (ds.length + 1 - 1)) = ds
  rw [Nat.add_sub_cancel, List.take_length]
@[simp] theorem o_SlTail (d : D) (ds : List D) : gSlTup (.tuple (d :: ds)) (some 1) none = some ds := congrArg some (cut_tail d ds)
@[simp] theorem x_BML {W : Type} {ρ : Rho} {g : D → List D → Option D} {a : ME W} {m : Rho → M W (List D)} : mBML g a m ρ = bnd (a ρ) fun d => bnd (theL d) fun d => bnd (m ρ) fun es => lift (g d es) := (rfl)
@[simp] theorem x_gTL {n : Nat} {ρ : Rho} {fs : List D → Rho → Option Rho} (ds : List D) : gTL n fs (.list ds) ρ = if ds.length = n then fs ds ρ else none := (rfl)
@[simp] theorem x_Star {W : Type} {ρ : Rho} {a : ME W} {r : Rho → M W (List D)} : mStar a r ρ = bnd (a ρ) fun d => bnd (itemsD d) fun xs => bnd (r ρ) fun ys => ret (xs ++ ys) := (rfl)
@[simp] theorem x_itemsL {W : Type} (ds : List D) : (itemsD (.list ds) : M W (List D)) = ret ds := (rfl)
@[simp] theorem x_itemsT {W : Type} (ds : List D) : (itemsD (.tuple ds) : M W (List D)) = ret ds := (rfl)
end B
namespace B
open PySem L2
theorem numlen : ∀ (k : Nat) (n : Nat), (TL.numL n).length ≤ k + 1 ↔ n < 10 ^ (k + 1)
  | 0, n => by
    by_cases h : n < 10
    · rw [TL.numL_lt h]; simpa using h
    · rw [TL.numL_step (by omega), List.length_append]
      have h1 := List.length_pos_iff.mpr (TL.numL_ne (n / 10))
      simp only [List.length_cons, List.length_nil]
      constructor
      · intro; omega
      · intro; omega
  | k + 1, n => by
    by_cases h : n < 10
    · rw [TL.numL_lt h]
      have : 10 ≤ 10 ^ (k + 1 + 1) := by
        have := Nat.pow_le_pow_right (show 0 < 10 by decide) (show 1 ≤ k + 1 + 1 by omega)
        simpa using this
      simp only [List.length_cons, List.length_nil]
      constructor
      · intro; omega
      · intro; omega
    · rw [TL.numL_step (by omega), List.length_append]
      have ih := numlen k (n / 10)
      simp only [List.length_cons, List.length_nil]
      have e : (10 : Nat) ^ (k + 1 + 1) = 10 ^ (k + 1) * 10 := Nat.pow_succ ..
      constructor
      · intro g
        have := ih.mp (by omega)
        omega
      · intro g
        have := ih.mpr (by omega)
        omega
theorem strlen_num (n : Nat) : (Str.ofString (toString (n : Int))).length = (TL.numL n).length := by
  have h := TL.tl_num n
  rw [← h, str_len]
end B
namespace B
open PySem L2
theorem ttE : (PyData.tuple [.str "=", .tuple [.str "int", .int 0], .tuple [.str "int", .int 0]]) = eT.enc := rfl
theorem ffE : (PyData.tuple [.str "<", .tuple [.str "int", .int 0], .tuple [.str "int", .int 0]]) = eF.enc := rfl
theorem inU1 {x a : Ex} (hx : x.ok) (ha : a.ok) (h1 : x.dep ≤ 60) (h2 : a.dep ≤ 60) {y : Ex} (hy : y.ok) (h3 : y.dep ≤ 60) : gInU x.enc (.tuple [a.enc, y.enc]) = some (.bool (decide (a = x) || decide (y = x))) := by
  show (if _ then some (PyData.bool ((PyData.eqv a.enc x.enc) || ((PyData.eqv y.enc x.enc) || false))) else none) = _
  rw [if_pos ⟨sh_shaped (Ex.sh hx) (by omega), sh_shaped (n := 62) (sh_tup fun d hd => by
    simp at hd
    rcases hd with rfl | rfl
    · exact (Ex.sh ha).le (by omega)
    · exact (Ex.sh hy).le (by omega))⟩, Ex.eqv, Ex.eqv, Bool.or_false]
theorem inD1 {x a : Ex} (hx : x.ok) (ha : a.ok) (h1 : x.dep ≤ 60) (h2 : a.dep ≤ 60) {y : Ex} (hy : y.ok) (h3 : y.dep ≤ 60) : gInD x.enc (.list [a.enc, y.enc]) = some (.bool (decide (a = x) || decide (y = x))) := by
  show (if _ then some (PyData.bool ((PyData.eqv a.enc x.enc) || ((PyData.eqv y.enc x.enc) || false))) else none) = _
  rw [if_pos ⟨sh_shaped (Ex.sh hx) (by omega), sh_shaped (n := 62) (sh_list fun d hd => by
    simp at hd
    rcases hd with rfl | rfl
    · exact (Ex.sh ha).le (by omega)
    · exact (Ex.sh hy).le (by omega))⟩, Ex.eqv, Ex.eqv, Bool.or_false]
/-- the first word of an expression -/
def Ex.head : Ex → Str
  | .field _ => "field" | .int _ => "int" | .text _ => "text" | .bin o _ _ => o.sign | .not _ => "not" | .ite _ _ _ => "if"
@[simp] theorem o_IxHead (e : Ex) : gIxT e.enc (.int 0) = some (.str e.head) := by cases e <;> simp [Ex.enc, Ex.head]
theorem head_C (e : Ex) : gInT (.str e.head) (.tuple [.str "int", .str "text"]) = some (.bool (isC e)) := by
  have h := o_InTS e.head ["int", "text"]
  simp only [List.map] at h
  rw [h]
  cases e with
  | bin o a b => cases o <;> (simp only [Ex.head, Bop.sign, isC]; congr 2)
  | _ => simp only [Ex.head, isC]; congr 2
theorem notInT_of {x : Str} {ds : List D} {b : Bool} (h : gInT (.str x) (.tuple ds) = some (.bool b)) : gNotInT (.str x) (.tuple ds) = some (.bool (!b)) := by
  have h' : (if flatD (.str x) = true ∧ ds.all flatD = true then some (PyData.bool (ds.any fun y => PyData.eqv y (.str x))) else none) = some (.bool b) := h
  show (if flatD (.str x) = true ∧ ds.all flatD = true then some (PyData.bool (!ds.any fun y => PyData.eqv y (.str x))) else none) = _
  by_cases c : flatD (.str x) = true ∧ ds.all flatD = true
  · rw [if_pos c] at h' ⊢
    have : (ds.any fun y => PyData.eqv y (.str x)) = b := PyData.bool.inj (Option.some.inj h')
    rw [this]
  · rw [if_neg c] at h'; cases h'
theorem head_notC (e : Ex) : gNotInT (.str e.head) (.tuple [.str "int", .str "text"]) = some (.bool (!isC e)) := notInT_of (head_C e)
end B
namespace B
open PySem L2
theorem o_All2 (a b : Bool) : gAllL [.list [.bool a, .bool b]] = some (.bool (a && b)) := by cases a <;> cases b <;> kernel_rfl
theorem o_Any2 (a b : Bool) : gAnyL [.list [.bool a, .bool b]] = some (.bool (a || b)) := by cases a <;> cases b <;> kernel_rfl
theorem fBin_gen {o : Bop} (h1 : o ≠ .and) (h2 : o ≠ .or) (a b : Ex) : fBin o a b = if isC a = true ∧ isC b = true then asEx (opV o (cv a) (cv b)) (.bin o a b) else .bin o a b := by
  cases o <;> first | rfl | exact absurd rfl h1 | exact absurd rfl h2
end B
namespace B
open PySem L2
theorem o_Pow10 : gPow (.int 10) (.int 10) = some (.int 10000000000) := by kernel_rfl
theorem wtC {G G2 : Str → Option Kn} {a : Ex} {k : Kn} (h : isC a = true) (w : WT G a k) : WT G2 a k := by
  cases a <;> first | (cases h; done) | (cases w; first | exact .int | exact .text)
theorem depC {a : Ex} (h : isC a = true) : a.dep = 0 := by cases a <;> first | (cases h; done) | rfl
theorem bndC {a : Ex} (h : isC a = true) (r : Str → Vl) : Bnd r a := by cases a <;> first | (cases h; done) | trivial
end B
namespace B
open PySem L2
/-! ### what the laws draw -/
structure FieldsOk (ps : List Sc) : Prop where
  hi : ps.length ≤ 4
  nm : ∀ (i : Nat) (p : Sc), ps[i]? = some p → ∃ c, c < 1000 ∧ p.1 = ⟨#[c, 48 + i]⟩ ∧ (p.2 = "int" ∨ p.2 = "text")
theorem FieldsOk.kind {ps : List Sc} (h : FieldsOk ps) {p : Sc} (hp : p ∈ ps) : p.2 = "int" ∨ p.2 = "text" := by
  obtain ⟨i, hi⟩ := List.getElem?_of_mem hp
  obtain ⟨c, _, _, h⟩ := h.nm i p hi
  exact h
theorem FieldsOk.name {ps : List Sc} (h : FieldsOk ps) {p : Sc} (hp : p ∈ ps) : PyData.strOk p.1 = true := by
  obtain ⟨i, hi⟩ := List.getElem?_of_mem hp
  obtain ⟨c, hc, e, _⟩ := h.nm i p hi
  have := (List.getElem?_eq_some_iff.mp hi).1
  have := h.hi
  rw [e]
  show (#[c, 48 + i] : Array Nat).all (· < 0x110000) = true
  simp
  omega
theorem FieldsOk.look {ps : List Sc} (h : FieldsOk ps) {p : Sc} (hp : p ∈ ps) : Gs ps p.1 = knOf p.2 := by
  have inj : ∀ (i j : Nat) (p q : Sc), ps[i]? = some p → ps[j]? = some q → p.1 = q.1 → i = j := fun i j p q hi hj e => by
    obtain ⟨c, _, e1, _⟩ := h.nm i p hi
    obtain ⟨c', _, e2, _⟩ := h.nm j q hj
    rw [e1, e2] at e
    have := congrArg (fun x : Str => x.cps.toList) e
    simp at this
    omega
  clear h
  induction ps with
  | nil => cases hp
  | cons q qs ih =>
    unfold Gs
    by_cases e : q.1 = p.1
    · rw [if_pos e]
      rcases List.mem_cons.mp hp with rfl | hp'
      · rfl
      · obtain ⟨j, hj⟩ := List.getElem?_of_mem hp'
        have := inj 0 (j + 1) q p rfl (by simpa using hj) e
        omega
    · rw [if_neg e]
      rcases List.mem_cons.mp hp with rfl | hp'
      · exact absurd rfl e
      · refine ih hp' fun i j p q hi hj e => ?_
        have := inj (i + 1) (j + 1) p q (by simpa using hi) (by simpa using hj) e
        omega
def smallV (v : Vl) : Prop := ∀ i, v = .int i → -6 ≤ i ∧ i ≤ 6
theorem smallV_look {ps : List Sc} {vs : List Vl} (h : ∀ v ∈ vs, smallV v) (n : Str) : smallV (lookV ps vs n) := by
  induction ps generalizing vs with
  | nil => intro i hi; cases hi; omega
  | cons p ps ih =>
    cases vs with
    | nil => intro i hi; cases hi; omega
    | cons v vs =>
      unfold lookV
      split
      · exact h v List.mem_cons_self
      · exact ih fun u hu => h u (List.mem_cons_of_mem _ hu)
/-- how great a value may be that was drawn with the size s -/
def lim : Nat → Int
  | 0 => 6
  | s + 1 => lim s * lim s
theorem lim_ge : ∀ s, 6 ≤ lim s
  | 0 => Int.le_refl _
  | s + 1 => by
    have := lim_ge s
    show 6 ≤ lim s * lim s
    calc (6 : Int) ≤ 6 * 6 := by decide
      _ ≤ lim s * lim s := Int.mul_le_mul this this (by decide) (by omega)
theorem lim_mono {s t : Nat} (h : s ≤ t) : lim s ≤ lim t := by
  induction h with
  | refl => exact Int.le_refl _
  | @step m _ ih =>
    refine Int.le_trans ih ?_
    show lim m ≤ lim m * lim m
    have := lim_ge m
    calc lim m = lim m * 1 := (Int.mul_one _).symm
      _ ≤ lim m * lim m := Int.mul_le_mul_of_nonneg_left (by omega) (by omega)
theorem lim3 : lim 3 ≤ 1000000000000 := by decide
def Ex.texts : Ex → List Str
  | .text t => [t]
  | .bin _ a b => a.texts ++ b.texts
  | .not a => a.texts
  | .ite c a b => c.texts ++ (a.texts ++ b.texts)
  | _ => []
def Ex.ints : Ex → List Int
  | .int i => [i]
  | .bin _ a b => a.ints ++ b.ints
  | .not a => a.ints
  | .ite c a b => c.ints ++ (a.ints ++ b.ints)
  | _ => []
def menuT : List Str := ["", "a", "b", "c d", "x-1."]
/-- how deep sums and products stand -/
def Bop.ar : Bop → Nat | .add => 1 | .sub => 1 | .mul => 1 | _ => 0
def Ex.idp : Ex → Nat
  | .bin o a b => max a.idp b.idp + o.ar
  | .not a => a.idp
  | .ite c a b => max c.idp (max a.idp b.idp)
  | _ => 0
theorem ar_le (o : Bop) : o.ar ≤ 1 := by cases o <;> decide
theorem Ex.idp_dep : ∀ e : Ex, e.idp ≤ e.dep
  | .field _ => Nat.le_refl _
  | .int _ => Nat.le_refl _
  | .text _ => Nat.le_refl _
  | .bin o a b => by
    have h1 := Ex.idp_dep a
    have h2 := Ex.idp_dep b
    have h3 := ar_le o
    simp only [Ex.idp, Ex.dep]
    omega
  | .not a => by
    have h1 := Ex.idp_dep a
    simp only [Ex.idp, Ex.dep]
    omega
  | .ite c a b => by
    have h0 := Ex.idp_dep c
    have h1 := Ex.idp_dep a
    have h2 := Ex.idp_dep b
    simp only [Ex.idp, Ex.dep]
    omega
structure Gen (ps : List Sc) (e : Ex) (k : Kn) (s : Nat) : Prop where
  wt : WT (Gs ps) e k
  ok : e.ok
  dp : e.dep ≤ s + 1
  bd : s ≤ 4 → ∀ vs, RowOk ps vs → (∀ v ∈ vs, smallV v) → Bnd (lookV ps vs) e ∧ ∀ i, val (lookV ps vs) e = .int i → -lim s ≤ i ∧ i ≤ lim s
  tx : ∀ t ∈ e.texts, t ∈ menuT
  it : ∀ i ∈ e.ints, -6 ≤ i ∧ i ≤ 6
  ip : e.idp ≤ s
theorem Gen.le {ps : List Sc} {e : Ex} {k : Kn} {s t : Nat} (h : Gen ps e k s) (hst : s ≤ t) (h4 : t ≤ 4) : Gen ps e k t :=
  ⟨h.wt, h.ok, by have := h.dp; omega, fun _ vs hr hv => ⟨(h.bd (by omega) vs hr hv).1, fun i hi => by
    have := (h.bd (by omega) vs hr hv).2 i hi
    have := lim_mono hst
    omega⟩, h.tx, h.it, Nat.le_trans h.ip hst⟩
theorem gen_field {ps : List Sc} (hf : FieldsOk ps) {p : Sc} (hp : p ∈ ps) {k : Kn} (hk : knOf p.2 = some k) (s : Nat) : Gen ps (.field p.1) k s where
  wt := .field (by rw [hf.look hp]; exact hk)
  ok := hf.name hp
  dp := Nat.zero_le _
  bd := fun _ vs hr hv => ⟨trivial, fun i hi => by
    have h1 := smallV_look (ps := ps) hv p.1 i hi
    have h2 := lim_ge s
    omega⟩
  tx := by simp [Ex.texts]
  it := by simp [Ex.ints]
  ip := Nat.zero_le _
theorem gen_int {ps : List Sc} {i : Int} (h : -6 ≤ i ∧ i ≤ 6) (s : Nat) : Gen ps (.int i) .int s where
  wt := .int
  ok := ⟨by omega, by omega⟩
  dp := Nat.zero_le _
  bd := fun _ vs hr hv => ⟨trivial, fun j hj => by
    cases hj
    have h2 := lim_ge s
    omega⟩
  tx := by simp [Ex.texts]
  it := by simp [Ex.ints]; exact h
  ip := Nat.zero_le _
theorem menu_ok : ∀ t ∈ menuT, PyData.strOk t = true ∧ t.length ≤ 20 := by decide +kernel
theorem gen_text {ps : List Sc} {t : Str} (h : t ∈ menuT) (s : Nat) : Gen ps (.text t) .text s where
  wt := .text
  ok := menu_ok t h
  dp := Nat.zero_le _
  bd := fun _ vs hr hv => ⟨trivial, fun j hj => by cases hj⟩
  tx := by simp [Ex.texts]; exact h
  it := by simp [Ex.ints]
  ip := Nat.zero_le _
theorem gen_cmp {ps : List Sc} {o : Bop} (ho : o = .eq ∨ o = .lt) {a b : Ex} {k : Kn} (hk : k = .int ∨ k = .text) (ha : Gen ps a k 0) (hb : Gen ps b k 0) (da : a.dep = 0) (db : b.dep = 0) : Gen ps (.bin o a b) .bool 0 where
  wt := .bin ha.wt hb.wt (by rcases ho with rfl | rfl <;> rcases hk with rfl | rfl <;> rfl)
  ok := ⟨ha.ok, hb.ok⟩
  dp := by simp only [Ex.dep]; omega
  bd := fun h4 vs hr hv => ⟨⟨(ha.bd h4 vs hr hv).1, (hb.bd h4 vs hr hv).1, fun h => by rcases ho with rfl | rfl <;> cases h⟩, fun i hi => by
    have := val_kind (r := lookV ps vs) hr.typed (.bin ha.wt hb.wt (by rcases ho with rfl | rfl <;> rcases hk with rfl | rfl <;> rfl : opK o k k = some .bool))
    rw [hi] at this
    cases this⟩
  tx := fun t ht => by simp only [Ex.texts, List.mem_append] at ht; exact ht.elim (ha.tx t) (hb.tx t)
  it := fun t ht => by simp only [Ex.ints, List.mem_append] at ht; exact ht.elim (ha.it t) (hb.it t)
  ip := by have h1 := a.idp_dep; have h2 := b.idp_dep; rcases ho with rfl | rfl <;> simp only [Ex.idp, Bop.ar] <;> omega
theorem abs_le {i j n : Int} (h1 : -n ≤ i ∧ i ≤ n) (h2 : -n ≤ j ∧ j ≤ n) : -(n * n) ≤ i * j ∧ i * j ≤ n * n := by
  have h3 : (i * j).natAbs ≤ n.natAbs * n.natAbs := by rw [Int.natAbs_mul]; exact Nat.mul_le_mul (by omega) (by omega)
  have h4 : ((n.natAbs * n.natAbs : Nat) : Int) = n * n := by rw [Int.natCast_mul]; have : (n.natAbs : Int) = n := by omega
                                                              rw [this]
  omega
theorem two_le (s : Nat) : 2 * lim s ≤ lim (s + 1) := by
  have := lim_ge s
  show 2 * lim s ≤ lim s * lim s
  exact Int.mul_le_mul_of_nonneg_right (by omega) (by omega)
theorem gen_arith {ps : List Sc} {o : Bop} (ho : o = .add ∨ o = .sub ∨ o = .mul) {a b : Ex} {s : Nat} (ha : Gen ps a .int s) (hb : Gen ps b .int s) : Gen ps (.bin o a b) .int (s + 1) where
  wt := .bin ha.wt hb.wt (by rcases ho with rfl | rfl | rfl <;> rfl)
  ok := ⟨ha.ok, hb.ok⟩
  dp := by have := ha.dp; have := hb.dp; simp only [Ex.dep]; omega
  bd := fun h4 vs hr hv => by
    obtain ⟨b1, v1⟩ := ha.bd (by omega) vs hr hv
    obtain ⟨b2, v2⟩ := hb.bd (by omega) vs hr hv
    obtain ⟨x, ex⟩ := kind_int (val_kind hr.typed ha.wt)
    obtain ⟨y, ey⟩ := kind_int (val_kind hr.typed hb.wt)
    have hx := v1 x ex
    have hy := v2 y ey
    have h3 := Int.le_trans (lim_mono (show s ≤ 3 by omega)) lim3
    refine ⟨⟨b1, b2, fun _ i hi => ?_⟩, fun i hi => ?_⟩
    · have := v1 i hi
      omega
    · have ht := two_le s
      have hi' : opV o (val (lookV ps vs) a) (val (lookV ps vs) b) = .int i := hi
      rw [ex, ey] at hi'
      rcases ho with rfl | rfl | rfl <;> cases hi'
      · omega
      · omega
      · exact abs_le hx hy
  tx := fun t ht => by simp only [Ex.texts, List.mem_append] at ht; exact ht.elim (ha.tx t) (hb.tx t)
  it := fun t ht => by simp only [Ex.ints, List.mem_append] at ht; exact ht.elim (ha.it t) (hb.it t)
  ip := by have h1 := ha.ip; have h2 := hb.ip; rcases ho with rfl | rfl | rfl <;> simp only [Ex.idp, Bop.ar] <;> omega
theorem gen_glue {ps : List Sc} {a b : Ex} {s : Nat} (ha : Gen ps a .text s) (hb : Gen ps b .text s) : Gen ps (.bin .glue a b) .text (s + 1) where
  wt := .bin ha.wt hb.wt rfl
  ok := ⟨ha.ok, hb.ok⟩
  dp := by have := ha.dp; have := hb.dp; simp only [Ex.dep]; omega
  bd := fun h4 vs hr hv => ⟨⟨(ha.bd (by omega) vs hr hv).1, (hb.bd (by omega) vs hr hv).1, fun h => by cases h⟩, fun i hi => by
    have := val_kind (r := lookV ps vs) hr.typed (.bin ha.wt hb.wt rfl : WT (Gs ps) (.bin .glue a b) .text)
    rw [hi] at this
    cases this⟩
  tx := fun t ht => by simp only [Ex.texts, List.mem_append] at ht; exact ht.elim (ha.tx t) (hb.tx t)
  it := fun t ht => by simp only [Ex.ints, List.mem_append] at ht; exact ht.elim (ha.it t) (hb.it t)
  ip := by have h1 := ha.ip; have h2 := hb.ip; simp only [Ex.idp, Bop.ar]; omega
theorem gen_link {ps : List Sc} {o : Bop} (ho : o = .and ∨ o = .or) {a b : Ex} {s : Nat} (ha : Gen ps a .bool s) (hb : Gen ps b .bool s) : Gen ps (.bin o a b) .bool (s + 1) where
  wt := .bin ha.wt hb.wt (by rcases ho with rfl | rfl <;> rfl)
  ok := ⟨ha.ok, hb.ok⟩
  dp := by have := ha.dp; have := hb.dp; simp only [Ex.dep]; omega
  bd := fun h4 vs hr hv => ⟨⟨(ha.bd (by omega) vs hr hv).1, (hb.bd (by omega) vs hr hv).1, fun h => by rcases ho with rfl | rfl <;> cases h⟩, fun i hi => by
    have := val_kind (r := lookV ps vs) hr.typed (.bin ha.wt hb.wt (by rcases ho with rfl | rfl <;> rfl) : WT (Gs ps) (.bin o a b) .bool)
    rw [hi] at this
    cases this⟩
  tx := fun t ht => by simp only [Ex.texts, List.mem_append] at ht; exact ht.elim (ha.tx t) (hb.tx t)
  it := fun t ht => by simp only [Ex.ints, List.mem_append] at ht; exact ht.elim (ha.it t) (hb.it t)
  ip := by have h1 := ha.ip; have h2 := hb.ip; rcases ho with rfl | rfl <;> simp only [Ex.idp, Bop.ar] <;> omega
theorem gen_not {ps : List Sc} {a : Ex} {s : Nat} (ha : Gen ps a .bool s) : Gen ps (.not a) .bool (s + 1) where
  wt := .not ha.wt
  ok := ha.ok
  dp := by have := ha.dp; simp only [Ex.dep]; omega
  bd := fun h4 vs hr hv => ⟨(ha.bd (by omega) vs hr hv).1, fun i hi => by
    have := val_kind (r := lookV ps vs) hr.typed (.not ha.wt)
    rw [hi] at this
    cases this⟩
  tx := fun t ht => ha.tx t ht
  it := fun t ht => ha.it t ht
  ip := by have h1 := ha.ip; simp only [Ex.idp]; omega
theorem gen_ite {ps : List Sc} {c a b : Ex} {k : Kn} {s : Nat} (hc : Gen ps c .bool s) (ha : Gen ps a k s) (hb : Gen ps b k s) : Gen ps (.ite c a b) k (s + 1) where
  wt := .ite hc.wt ha.wt hb.wt
  ok := ⟨hc.ok, ha.ok, hb.ok⟩
  dp := by have := hc.dp; have := ha.dp; have := hb.dp; simp only [Ex.dep]; omega
  bd := fun h4 vs hr hv => by
    obtain ⟨b0, _⟩ := hc.bd (by omega) vs hr hv
    obtain ⟨b1, v1⟩ := ha.bd (by omega) vs hr hv
    obtain ⟨b2, v2⟩ := hb.bd (by omega) vs hr hv
    obtain ⟨x, ex⟩ := kind_bool (val_kind hr.typed hc.wt)
    have hl := lim_mono (show s ≤ s + 1 by omega)
    refine ⟨⟨b0, b1, b2⟩, fun i hi => ?_⟩
    have hi' : iteV (val (lookV ps vs) c) (val (lookV ps vs) a) (val (lookV ps vs) b) = .int i := hi
    rw [ex] at hi'
    cases x
    · have := v2 i hi'
      omega
    · have := v1 i hi'
      omega
  tx := fun t ht => by simp only [Ex.texts, List.mem_append] at ht; exact ht.elim (hc.tx t) fun h => h.elim (ha.tx t) (hb.tx t)
  it := fun t ht => by simp only [Ex.ints, List.mem_append] at ht; exact ht.elim (hc.it t) fun h => h.elim (ha.it t) (hb.it t)
  ip := by have h0 := hc.ip; have h1 := ha.ip; have h2 := hb.ip; simp only [Ex.idp]; omega
end B
namespace B
open PySem L2
theorem fieldsOk_nil : FieldsOk [] := ⟨Nat.zero_le _, by simp⟩
theorem wt_nil {G : Str → Option Kn} {e : Ex} {k : Kn} (h : WT (Gs []) e k) : WT G e k := by
  induction h with
  | field h => cases h
  | int => exact .int
  | text => exact .text
  | bin _ _ h a b => exact .bin a b h
  | not _ a => exact .not a
  | ite _ _ _ a b c => exact .ite a b c
theorem val_nil {r t : Str → Vl} {e : Ex} {k : Kn} (h : WT (Gs []) e k) : val r e = val t e := by
  induction h with
  | field h => cases h
  | int => rfl
  | text => rfl
  | bin _ _ h a b => show opV _ _ _ = opV _ _ _; rw [a, b]
  | not _ a => show notV _ = notV _; rw [a]
  | ite _ _ _ a b c => show iteV _ _ _ = iteV _ _ _; rw [a, b, c]
theorem bnd_nil {r t : Str → Vl} {e : Ex} {k : Kn} (h : WT (Gs []) e k) (hb : Bnd r e) : Bnd t e := by
  induction h with
  | field h => cases h
  | int => trivial
  | text => trivial
  | bin h1 h2 h a b => exact ⟨a hb.1, b hb.2.1, fun ho i hi => hb.2.2 ho i (by rw [val_nil (t := t) h1]; exact hi)⟩
  | not _ a => exact a hb
  | ite _ _ _ a b c => exact ⟨a hb.1, b hb.2.1, c hb.2.2⟩
theorem gen_nil {ps : List Sc} {e : Ex} {k : Kn} {s : Nat} (h : Gen [] e k s) : Gen ps e k s where
  wt := wt_nil h.wt
  ok := h.ok
  dp := h.dp
  bd := fun h4 vs hr hv => by
    obtain ⟨h1, h2⟩ := h.bd h4 [] RowOk.nil (by simp)
    exact ⟨bnd_nil h.wt h1, fun i hi => h2 i (by rw [val_nil (t := lookV ps vs) h.wt]; exact hi)⟩
  tx := h.tx
  it := h.it
  ip := h.ip
end B

/-! expressions: size, names, other expressions for fields; products with greater values; plain -/
namespace B
open PySem L2
section
variable {W α β : Type} {ρ : Rho} {a b c : ME W}
@[simp] theorem x_LcX {src : Rho → M W (List D)} {vs : List Nat} {f : D → Rho → Option Rho} {tt : Rho → M W Bool} {e : ME W} : mLcX src vs f tt e ρ = bnd (src ρ) fun ds => if ds.length ≤ 1000000 then bnd (mLcXL f tt e (wipeR ρ vs) ds) fun xs => ret (.list xs) else stk := (rfl)
@[simp] theorem x_LcXNil {f : D → Rho → Option Rho} {tt : Rho → M W Bool} {e : ME W} : mLcXL f tt e ρ [] = ret [] := (rfl)
@[simp] theorem x_LcXCons {f : D → Rho → Option Rho} {tt : Rho → M W Bool} {e : ME W} (d : D) (ds : List D) : mLcXL f tt e ρ (d :: ds) = bnd (lift (f d ρ)) fun ρ1 => bnd (noX (tt ρ1)) fun b => if b then bnd (e ρ1) fun x => bnd (mLcXL f tt e ρ ds) fun xs => ret (x :: xs) else mLcXL f tt e ρ ds := (rfl)
@[simp] theorem x_DNew : (mDNew : ME W) ρ = ret (.dict []) := (rfl)
@[simp] theorem x_Disp1 : mDisp1 a b ρ = bnd (noX (a ρ)) fun k => bnd (noX (b ρ)) fun x => bnd (lift (putO [] k x)) fun ps => ret (.dict ps) := (rfl)
@[simp] theorem x_SortS : mSortS a ρ = bnd (a ρ) fun x => lift ((gSortSS x).map .list) := (rfl)
@[simp] theorem x_DGet2 : mDGet2 a b c ρ = bnd (a ρ) fun d => bnd (theDc d) fun ps => bnd (b ρ) fun k => bnd (c ρ) fun z => lift (getO ps k z) := (rfl)
@[simp] theorem x_theDc (ps : List (D × D)) : (theDc (.dict ps) : M W _) = ret ps := (rfl)
/-- into a dict's slot -/
def putS (i : Nat) (ρ : Rho) (d k x : D) : M W O := match d with
  | .dict ps => if ps.length < 1000000 then bnd (lift (putO ps k x)) fun ps2 => ret (.nx (ρ.set i (some (.dict ps2)))) else stk
  | _ => stk
theorem x_DPut {i : Nat} : mDPut i a b ρ = bnd (b ρ) fun x => bnd (mVar i ρ) fun d => bnd (a ρ) fun k => putS i ρ d k x := (rfl)
theorem putS_of {i : Nat} {ps : List (D × D)} {k x : D} : (putS i ρ (.dict ps) k x : M W O) = if ps.length < 1000000 then bnd (lift (putO ps k x)) fun ps2 => ret (.nx (ρ.set i (some (.dict ps2)))) else stk := (rfl)
def updS (i : Nat) (ρ : Rho) (ps : List (D × D)) (es : List D) : M W O := match es with
  | [.dict qs] => if ps.length + qs.length ≤ 1000000 then ret (.nx (ρ.set i (some (.dict (mergeD ps qs))))) else stk
  | _ => stk
@[simp] theorem x_Upd {i : Nat} {m : Rho → M W (List D)} : mUpd i m ρ = bnd (mVar i ρ) fun d => bnd (theDc d) fun ps => bnd (m ρ) (updS i ρ ps) := (rfl)
@[simp] theorem updS_of {i : Nat} {ps qs : List (D × D)} : (updS i ρ ps [.dict qs] : M W O) = if ps.length + qs.length ≤ 1000000 then ret (.nx (ρ.set i (some (.dict (mergeD ps qs))))) else stk := (rfl)
end
/-! ### greater values -/
theorem o_MulB {i j : Int} (h : -1000000000000000000 ≤ i) (h2 : i ≤ 1000000000000000000) : gMul (.int i) (.int j) = some (.int (i * j)) := if_pos (.inl ⟨by omega, by omega⟩)
def BndB (r : Str → Vl) : Ex → Prop
  | .bin o a b => BndB r a ∧ BndB r b ∧ (o = .mul → ∀ i, val r a = .int i → -1000000000000000000 ≤ i ∧ i ≤ 1000000000000000000)
  | .not a => BndB r a
  | .ite c a b => BndB r c ∧ BndB r a ∧ BndB r b
  | _ => True
def lm (m : Int) : Nat → Int
  | 0 => m
  | s + 1 => lm m s * lm m s
theorem lm_ge {m : Int} (hm : 6 ≤ m) : ∀ s, 6 ≤ lm m s
  | 0 => hm
  | s + 1 => by
    have := lm_ge hm s
    show 6 ≤ lm m s * lm m s
    calc (6 : Int) ≤ 6 * 6 := by decide
      _ ≤ lm m s * lm m s := Int.mul_le_mul this this (by decide) (by omega)
theorem lm_two {m : Int} (hm : 6 ≤ m) (s : Nat) : 2 * lm m s ≤ lm m (s + 1) := by
  have := lm_ge hm s
  show 2 * lm m s ≤ lm m s * lm m s
  exact Int.mul_le_mul_of_nonneg_right (by omega) (by omega)
theorem lm_mono {m : Int} (hm : 6 ≤ m) {s t : Nat} (h : s ≤ t) : lm m s ≤ lm m t := by
  induction h with
  | refl => exact Int.le_refl _
  | @step t _ ih =>
    have h1 := lm_ge hm t
    have h2 : 2 * lm m t ≤ lm m t.succ := lm_two hm t
    omega
/-- so great is a value at most -/
theorem val_bd {G : Str → Option Kn} {r : Str → Vl} {m : Int} (hm : 6 ≤ m) (hG : ∀ n k, G n = some k → (r n).kind = k) (hr : ∀ n i, r n = .int i → -m ≤ i ∧ i ≤ m) {e : Ex} {k : Kn} (h : WT G e k) (hi : ∀ i ∈ e.ints, -m ≤ i ∧ i ≤ m) :
    ∀ i, val r e = .int i → -lm m e.idp ≤ i ∧ i ≤ lm m e.idp := by
  induction h with
  | field h => exact fun i hv => hr _ i hv
  | int =>
    intro i hv
    cases hv
    exact hi _ (by simp [Ex.ints])
  | text => intro i hv; cases hv
  | @bin o a b k l n ha hb hop ih1 ih2 =>
    have ka := val_kind hG ha
    have kb := val_kind hG hb
    have h1 := ih1 fun i hx => hi i (by simp only [Ex.ints, List.mem_append]; exact .inl hx)
    have h2 := ih2 fun i hx => hi i (by simp only [Ex.ints, List.mem_append]; exact .inr hx)
    intro i hv
    have hv' : opV o (val r a) (val r b) = .int i := hv
    have g1 := lm_mono hm (Nat.le_max_left a.idp b.idp)
    have g2 := lm_mono hm (Nat.le_max_right a.idp b.idp)
    have g3 := lm_two hm (max a.idp b.idp)
    have g4 := lm_ge hm (max a.idp b.idp)
    generalize val r a = x at *
    generalize val r b = y at *
    subst ka kb
    cases o <;> cases x <;> cases y <;> simp [opK, Vl.kind] at hop <;> simp [opV] at hv' <;> simp only [Ex.idp, Bop.ar] <;> have p1 := h1 _ rfl <;> have p2 := h2 _ rfl
    · omega
    · omega
    · subst hv'
      exact abs_le ⟨by omega, by omega⟩ ⟨by omega, by omega⟩
  | @not a ha ih =>
    intro i hv
    obtain ⟨x, ex⟩ := kind_bool (val_kind hG ha)
    have hv' : notV (val r a) = .int i := hv
    rw [ex] at hv'
    cases hv'
  | @ite c a b k hc ha hb ih0 ih1 ih2 =>
    intro i hv
    obtain ⟨x, ex⟩ := kind_bool (val_kind hG hc)
    have hv' : iteV (val r c) (val r a) (val r b) = .int i := hv
    rw [ex] at hv'
    have h1 := ih1 fun i hx => hi i (by simp only [Ex.ints, List.mem_append]; exact .inr (.inl hx))
    have h2 := ih2 fun i hx => hi i (by simp only [Ex.ints, List.mem_append]; exact .inr (.inr hx))
    have g1 := lm_mono hm (show a.idp ≤ (Ex.ite c a b).idp by simp only [Ex.idp]; omega)
    have g2 := lm_mono hm (show b.idp ≤ (Ex.ite c a b).idp by simp only [Ex.idp]; omega)
    cases x
    · have := h2 i hv'
      omega
    · have := h1 i hv'
      omega
theorem bnd_of {G : Str → Option Kn} {r : Str → Vl} {m : Int} (hm : 6 ≤ m) (hG : ∀ n k, G n = some k → (r n).kind = k) (hr : ∀ n i, r n = .int i → -m ≤ i ∧ i ≤ m) {t : Nat} (ht : lm m t ≤ 1000000000000000000) {e : Ex} {k : Kn} (h : WT G e k) (hi : ∀ i ∈ e.ints, -m ≤ i ∧ i ≤ m) :
    e.idp ≤ t + 1 → BndB r e := by
  induction h with
  | field h => exact fun _ => trivial
  | int => exact fun _ => trivial
  | text => exact fun _ => trivial
  | @bin o a b k l n ha hb hop ih1 ih2 =>
    intro hd
    have ia : ∀ i ∈ a.ints, -m ≤ i ∧ i ≤ m := fun i hx => hi i (by simp only [Ex.ints, List.mem_append]; exact .inl hx)
    have ib : ∀ i ∈ b.ints, -m ≤ i ∧ i ≤ m := fun i hx => hi i (by simp only [Ex.ints, List.mem_append]; exact .inr hx)
    simp only [Ex.idp] at hd
    refine ⟨ih1 ia (by omega), ih2 ib (by omega), fun ho i hv => ?_⟩
    have h1 := val_bd hm hG hr ha ia i hv
    have h2 := lm_mono hm (show a.idp ≤ t by subst ho; simp only [Bop.ar] at hd; omega)
    omega
  | @not a ha ih => exact fun hd => ih hi hd
  | @ite c a b k hc ha hb ih0 ih1 ih2 =>
    intro hd
    simp only [Ex.idp] at hd
    exact ⟨ih0 (fun i hx => hi i (by simp only [Ex.ints, List.mem_append]; exact .inl hx)) (by omega), ih1 (fun i hx => hi i (by simp only [Ex.ints, List.mem_append]; exact .inr (.inl hx))) (by omega), ih2 (fun i hx => hi i (by simp only [Ex.ints, List.mem_append]; exact .inr (.inr hx))) (by omega)⟩
/-! ### size, names, other expressions for fields -/
def Ex.sz : Ex → Nat
  | .bin _ a b => 1 + (a.sz + b.sz)
  | .not a => 1 + a.sz
  | .ite c a b => 1 + (c.sz + (a.sz + b.sz))
  | _ => 1
theorem Ex.sz_le : ∀ e : Ex, e.sz ≤ 4 ^ (e.dep + 1)
  | .field _ => by simp [Ex.sz, Ex.dep]
  | .int _ => by simp [Ex.sz, Ex.dep]
  | .text _ => by simp [Ex.sz, Ex.dep]
  | .bin o a b => by
    have h1 := Ex.sz_le a
    have h2 := Ex.sz_le b
    have g1 : 4 ^ (a.dep + 1) ≤ 4 ^ (max a.dep b.dep + 1) := Nat.pow_le_pow_right (by decide) (by omega)
    have g2 : 4 ^ (b.dep + 1) ≤ 4 ^ (max a.dep b.dep + 1) := Nat.pow_le_pow_right (by decide) (by omega)
    have g3 : 1 ≤ 4 ^ (max a.dep b.dep + 1) := Nat.pow_pos (by decide)
    simp only [Ex.sz, Ex.dep]
    rw [Nat.pow_succ 4 (max a.dep b.dep + 1)]
    omega
  | .not a => by
    have h1 := Ex.sz_le a
    have g3 : 1 ≤ 4 ^ (a.dep + 1) := Nat.pow_pos (by decide)
    simp only [Ex.sz, Ex.dep]
    rw [Nat.pow_succ 4 (a.dep + 1)]
    omega
  | .ite c a b => by
    have h0 := Ex.sz_le c
    have h1 := Ex.sz_le a
    have h2 := Ex.sz_le b
    have g0 : 4 ^ (c.dep + 1) ≤ 4 ^ (max c.dep (max a.dep b.dep) + 1) := Nat.pow_le_pow_right (by decide) (by omega)
    have g1 : 4 ^ (a.dep + 1) ≤ 4 ^ (max c.dep (max a.dep b.dep) + 1) := Nat.pow_le_pow_right (by decide) (by omega)
    have g2 : 4 ^ (b.dep + 1) ≤ 4 ^ (max c.dep (max a.dep b.dep) + 1) := Nat.pow_le_pow_right (by decide) (by omega)
    have g3 : 1 ≤ 4 ^ (max c.dep (max a.dep b.dep) + 1) := Nat.pow_pos (by decide)
    simp only [Ex.sz, Ex.dep]
    rw [Nat.pow_succ 4 (max c.dep (max a.dep b.dep) + 1)]
    omega
def Ex.names : Ex → List Str
  | .field n => [n]
  | .bin _ a b => a.names ++ b.names
  | .not a => a.names
  | .ite c a b => c.names ++ (a.names ++ b.names)
  | _ => []
theorem Ex.names_le : ∀ e : Ex, e.names.length ≤ e.sz
  | .field _ => by simp [Ex.names, Ex.sz]
  | .int _ => by simp [Ex.names]
  | .text _ => by simp [Ex.names]
  | .bin o a b => by
    have h1 := Ex.names_le a
    have h2 := Ex.names_le b
    simp only [Ex.names, Ex.sz, List.length_append]
    omega
  | .not a => by
    have h1 := Ex.names_le a
    simp only [Ex.names, Ex.sz]
    omega
  | .ite c a b => by
    have h0 := Ex.names_le c
    have h1 := Ex.names_le a
    have h2 := Ex.names_le b
    simp only [Ex.names, Ex.sz, List.length_append]
    omega
/-- the keys of the dict of names -/
def Ex.keys : Ex → List Str
  | .field n => [n]
  | .bin _ a b => b.keys.foldl BS.dstep a.keys
  | .not a => a.keys
  | .ite c a b => b.keys.foldl BS.dstep (a.keys.foldl BS.dstep c.keys)
  | _ => []
theorem Ex.mem_keys {x : Str} : ∀ {e : Ex}, x ∈ e.keys ↔ x ∈ e.names
  | .field _ => Iff.rfl
  | .int _ => Iff.rfl
  | .text _ => Iff.rfl
  | .bin o a b => by
    simp only [Ex.keys, Ex.names, BT.mem_ddp', List.mem_append, Ex.mem_keys (e := a), Ex.mem_keys (e := b)]
  | .not a => by
    simp only [Ex.keys, Ex.names, Ex.mem_keys (e := a)]
  | .ite c a b => by
    simp only [Ex.keys, Ex.names, BT.mem_ddp', List.mem_append, Ex.mem_keys (e := c), Ex.mem_keys (e := a), Ex.mem_keys (e := b), or_assoc]
theorem Ex.keys_nodup : ∀ e : Ex, e.keys.Nodup
  | .field _ => by simp [Ex.keys]
  | .int _ => .nil
  | .text _ => .nil
  | .bin o a b => BT.ddp_nodup _ _ (Ex.keys_nodup a)
  | .not a => Ex.keys_nodup a
  | .ite c a b => BT.ddp_nodup _ _ (BT.ddp_nodup _ _ (Ex.keys_nodup c))
theorem dst_le {K : Type} [DecidableEq K] (xs acc : List K) : (xs.foldl BS.dstep acc).length ≤ acc.length + xs.length := BS.ddp_le xs acc
theorem Ex.keys_le : ∀ e : Ex, e.keys.length ≤ e.sz
  | .field _ => by simp [Ex.keys, Ex.sz]
  | .int _ => by simp [Ex.keys]
  | .text _ => by simp [Ex.keys]
  | .bin o a b => by
    have h1 := Ex.keys_le a
    have h2 := Ex.keys_le b
    have h3 := dst_le b.keys a.keys
    simp only [Ex.keys, Ex.sz]
    omega
  | .not a => by
    have h1 := Ex.keys_le a
    simp only [Ex.keys, Ex.sz]
    omega
  | .ite c a b => by
    have h0 := Ex.keys_le c
    have h1 := Ex.keys_le a
    have h2 := Ex.keys_le b
    have h3 := dst_le b.keys (a.keys.foldl BS.dstep c.keys)
    have h4 := dst_le a.keys c.keys
    simp only [Ex.keys, Ex.sz]
    omega
theorem Ex.keys_sort (e : Ex) : sortS (BS.ddp e.names) = sortS e.keys :=
  sortS_congr ((List.perm_ext_iff_of_nodup (BT.ddp_nodup _ _ .nil) e.keys_nodup).mpr fun k => by rw [BT.mem_ddp', Ex.mem_keys]; simp)
theorem nodup_le {K : Type} [DecidableEq K] : ∀ (l D : List K), l.Nodup → (∀ x ∈ l, x ∈ D) → l.length ≤ D.length
  | [], _, _, _ => Nat.zero_le _
  | x :: l, D, hn, hs => by
    obtain ⟨h1, h2⟩ := List.nodup_cons.mp hn
    have := nodup_le l (D.erase x) h2 fun y hy => (List.mem_erase_of_ne fun e => h1 (by rw [← e]; exact hy)).mpr (hs y (List.mem_cons_of_mem _ hy))
    have hx := hs x List.mem_cons_self
    rw [List.length_erase_of_mem hx] at this
    have := List.length_pos_of_mem hx
    rw [List.length_cons]
    omega
theorem Gs_mem {ps : List Sc} {n : Str} {k : Kn} (h : Gs ps n = some k) : n ∈ ps.map (·.1) := by
  induction ps with
  | nil => cases h
  | cons p ps ih =>
    unfold Gs at h
    rw [List.map_cons]
    by_cases hn : p.1 = n
    · rw [← hn]; exact List.mem_cons_self
    · rw [if_neg hn] at h
      exact List.mem_cons_of_mem _ (ih h)
theorem names_in_ps {ps : List Sc} {e : Ex} {k : Kn} (h : WT (Gs ps) e k) : ∀ x ∈ e.names, x ∈ ps.map (·.1) := by
  induction h with
  | field h => intro x hx; simp [Ex.names] at hx; subst hx; exact Gs_mem h
  | int => intro x hx; cases hx
  | text => intro x hx; cases hx
  | bin _ _ _ h1 h2 => intro x hx; simp only [Ex.names, List.mem_append] at hx; exact hx.elim (h1 x) (h2 x)
  | not _ h1 => exact h1
  | ite _ _ _ h0 h1 h2 => intro x hx; simp only [Ex.names, List.mem_append] at hx; exact hx.elim (h0 x) fun hx => hx.elim (h1 x) (h2 x)
theorem dd_app {K : Type} [DecidableEq K] : ∀ (l acc : List K), (acc ++ l).Nodup → l.foldl BS.dstep acc = acc ++ l
  | [], acc, _ => (List.append_nil acc).symm
  | x :: l, acc, h => by
    have hx : x ∉ acc := fun hx => (List.nodup_append.mp h).2.2 x hx x List.mem_cons_self rfl
    have e : BS.dstep acc x = acc ++ [x] := if_neg hx
    rw [List.foldl_cons, e, dd_app l (acc ++ [x]) (by rw [List.append_assoc]; exact h), List.append_assoc]
    rfl
theorem dd_id {K : Type} [DecidableEq K] {l : List K} (h : l.Nodup) : l.foldl BS.dstep [] = l := by
  have := dd_app l [] (by simpa using h)
  simpa using this
/-- the dict of keys -/
def kd1 (l : List Str) : List (D × D) := l.map fun x => (.str x, .bool true)
theorem kd1_put (l : List Str) (x : Str) : putD (kd1 l) (.inr x) (.bool true) = kd1 (BS.dstep l x) := by
  have hk : (kd1 l).map (·.1) = l.map .str := by simp [kd1]
  unfold putD BS.dstep
  rw [has_keys (kd1 l) l hk x]
  by_cases hx : x ∈ l
  · rw [if_pos (decide_eq_true hx), if_pos hx]
    unfold kd1
    rw [List.map_map]
    refine List.map_congr_left fun y _ => ?_
    show (if _ then _ else _) = _
    split <;> rfl
  · rw [if_neg (by simpa using hx), if_neg hx]
    simp [kd1, keyD]
theorem kd1_merge : ∀ (l m : List Str), mergeD (kd1 m) (kd1 l) = kd1 (l.foldl BS.dstep m)
  | [], m => rfl
  | x :: l, m => by
    show mergeD (putD (kd1 m) (.inr x) (.bool true)) (kd1 l) = _
    rw [kd1_put, kd1_merge l]
    rfl
theorem kd1_keys (l : List Str) : strKeys (kd1 l) = some l := by
  induction l with
  | nil => rfl
  | cons x l ih =>
    show (strKeys (kd1 l)).map (x :: ·) = _
    rw [ih]
    rfl
/-- other expressions for the fields -/
def Ex.sub (π : Str → Option Ex) : Ex → Ex
  | .field n => (π n).getD (.field n)
  | .bin o a b => .bin o (a.sub π) (b.sub π)
  | .not a => .not (a.sub π)
  | .ite c a b => .ite (c.sub π) (a.sub π) (b.sub π)
  | e => e
theorem val_sub (r : Str → Vl) (π : Str → Option Ex) : ∀ e : Ex, val r (e.sub π) = val (fun n => val r ((π n).getD (.field n))) e
  | .field n => rfl
  | .int _ => rfl
  | .text _ => rfl
  | .bin o a b => by
    show opV o _ _ = opV o _ _
    rw [val_sub r π a, val_sub r π b]
  | .not a => by
    show notV _ = notV _
    rw [val_sub r π a]
  | .ite c a b => by
    show iteV _ _ _ = iteV _ _ _
    rw [val_sub r π c, val_sub r π a, val_sub r π b]
theorem wt_sub {G : Str → Option Kn} {π : Str → Option Ex} (hπ : ∀ n k x, G n = some k → π n = some x → WT G x k) {e : Ex} {k : Kn} (h : WT G e k) : WT G (e.sub π) k := by
  induction h with
  | @field n k h =>
    show WT G ((π n).getD (.field n)) k
    cases e : π n with
    | none => exact .field h
    | some x => exact hπ n k x h e
  | int => exact .int
  | text => exact .text
  | bin _ _ h a b => exact .bin a b h
  | not _ a => exact .not a
  | ite _ _ _ a b c => exact .ite a b c
theorem ok_sub {π : Str → Option Ex} (hπ : ∀ n x, π n = some x → x.ok) : ∀ {e : Ex}, e.ok → (e.sub π).ok
  | .field n, h => by
    show ((π n).getD (.field n)).ok
    cases e : π n with
    | none => exact h
    | some x => exact hπ n x e
  | .int _, h => h
  | .text _, h => h
  | .bin _ a b, h => ⟨ok_sub hπ h.1, ok_sub hπ h.2⟩
  | .not a, h => ok_sub (e := a) hπ h
  | .ite c a b, h => ⟨ok_sub hπ h.1, ok_sub hπ h.2.1, ok_sub hπ h.2.2⟩
theorem dep_sub {π : Str → Option Ex} {d : Nat} (hπ : ∀ n x, π n = some x → x.dep ≤ d) : ∀ e : Ex, (e.sub π).dep ≤ e.dep + d
  | .field n => by
    show ((π n).getD (.field n)).dep ≤ _
    cases e : π n with
    | none => exact Nat.zero_le _
    | some x => have := hπ n x e; simp only [Option.getD_some, Ex.dep]; omega
  | .int _ => Nat.zero_le _
  | .text _ => Nat.zero_le _
  | .bin _ a b => by
    have h1 := dep_sub hπ a
    have h2 := dep_sub hπ b
    simp only [Ex.sub, Ex.dep]
    omega
  | .not a => by
    have h1 := dep_sub hπ a
    simp only [Ex.sub, Ex.dep]
    omega
  | .ite c a b => by
    have h0 := dep_sub hπ c
    have h1 := dep_sub hπ a
    have h2 := dep_sub hπ b
    simp only [Ex.sub, Ex.dep]
    omega
theorem idp_sub {π : Str → Option Ex} {d : Nat} (hπ : ∀ n x, π n = some x → x.idp ≤ d) : ∀ e : Ex, (e.sub π).idp ≤ e.idp + d
  | .field n => by
    show ((π n).getD (.field n)).idp ≤ _
    cases e : π n with
    | none => exact Nat.zero_le _
    | some x => have := hπ n x e; simp only [Option.getD_some, Ex.idp]; omega
  | .int _ => Nat.zero_le _
  | .text _ => Nat.zero_le _
  | .bin _ a b => by
    have h1 := idp_sub hπ a
    have h2 := idp_sub hπ b
    simp only [Ex.sub, Ex.idp]
    omega
  | .not a => by
    have h1 := idp_sub hπ a
    simp only [Ex.sub, Ex.idp]
    omega
  | .ite c a b => by
    have h0 := idp_sub hπ c
    have h1 := idp_sub hπ a
    have h2 := idp_sub hπ b
    simp only [Ex.sub, Ex.idp]
    omega
theorem ints_sub {π : Str → Option Ex} {m : Int} (hπ : ∀ n x, π n = some x → ∀ i ∈ x.ints, -m ≤ i ∧ i ≤ m) : ∀ e : Ex, (∀ i ∈ e.ints, -m ≤ i ∧ i ≤ m) → ∀ i ∈ (e.sub π).ints, -m ≤ i ∧ i ≤ m
  | .field n, _, i, hi => by
    have hi : i ∈ ((π n).getD (.field n)).ints := hi
    cases e : π n with
    | none => rw [e] at hi; cases hi
    | some x => rw [e] at hi; exact hπ n x e i hi
  | .int _, h, i, hi => h i hi
  | .text _, h, i, hi => h i hi
  | .bin _ a b, h, i, hi => by
    simp only [Ex.sub, Ex.ints, List.mem_append] at hi h
    exact hi.elim (ints_sub hπ a (fun j hj => h j (.inl hj)) i) (ints_sub hπ b (fun j hj => h j (.inr hj)) i)
  | .not a, h, i, hi => ints_sub hπ a h i hi
  | .ite c a b, h, i, hi => by
    simp only [Ex.sub, Ex.ints, List.mem_append] at hi h
    exact hi.elim (ints_sub hπ c (fun j hj => h j (.inl hj)) i) fun hi => hi.elim (ints_sub hπ a (fun j hj => h j (.inr (.inl hj))) i) (ints_sub hπ b (fun j hj => h j (.inr (.inr hj))) i)
end B

/-! sorted(xs), xs data of one shape, any length -/
namespace BT
open PySem PySem.W PySem.Calls PyProof.Rows L2
theorem each_of {K : PySem.W.Frag} {H : Hp} : ∀ {zs : List (V × PyData)} {us : List Value}, Vals (zs.map (·.1)) us → EachIs (fun u z => RelV z.1 u) us zs
  | [], _, .nil => .nil
  | z :: zs, _, .cons r t => .cons r (each_of (K := K) (H := H) t)
theorem vals_each : ∀ {zs : List (V × PyData)} {us : List Value}, EachIs (fun u (z : V × PyData) => RelV z.1 u) us zs → Vals (zs.map (·.1)) us
  | [], _, .nil => .nil
  | z :: zs, _, .cons r t => .cons r (vals_each t)
/-- sorted(xs) of data -/
def rSortX (K : PySem.W.Frag) : List V → Hp → VK → Prop := fun vs H Q => ∃ (a : Addr) (zs : List (V × PyData)), vs = [V.ref a] ∧ SqL K H a (zs.map (·.1)) ∧ (∀ z ∈ zs, Dp K H z.1 z.2 ∧ z.2.depth ≤ 60) ∧ AllAlike (zs.map (·.2)) ∧ Sortable (zs.map (·.2)) ∧
  ∀ p, H p = none → Q (.ref p) (upd H p (.lst ((zs.mergeSort (dataLe false (·.2))).map (·.1))))
theorem cr_sortX {X : Cx} (hu : X.A.units + 65 < cLine) : CallR X (.builtin "sorted") (rSortX X.K) := by
  intro pins s σ H vs us Q I r h
  obtain ⟨a, zs, rfl, hs, hd, hal, hk, q⟩ := h
  obtain ⟨its, rv, hl, hz⟩ := I.list hs
  obtain ⟨u, rfl, ru⟩ := vals1 r
  obtain rfl : u = Value.ref a := ru
  have e := each_of (K := X.K) (H := H) rv
  have hlen : its.length = zs.length := e.length
  refine sorted_data (bs := zs) (enc := (·.2)) (R := fun u z => RelV z.1 u) hl.isList e ((each_mem e).mono fun v z ⟨h1, h2⟩ => Dp.reads I z.2 z.1 v (hd z h2).1 h1) hal hk (by rw [List.length_map] at hz; exact hz) (fun z hz => by have := (hd z hz).2; omega) fun out h1 h2 => ?_
  obtain ⟨ep, he'⟩ := PyProof.Rows.sortedAll_at s.heap its out.toArray
  have hv := vals_each h2
  have hl2 : ((zs.mergeSort (dataLe false (·.2))).map (·.1)).length ≤ sizeLine := by
    rw [List.length_map, List.length_mergeSort]; rw [List.length_map] at hz; exact hz
  exact ⟨.ref _, upd H (s.heap.objs.size + 1) (.lst ((zs.mergeSort (dataLe false (·.2))).map (·.1))), I.laid (t' := s.toks) (fun _ _ => PyProof.Rows.sortedAll_old) (Nat.le_succ _) ⟨hl2, out, ep, hv, he'⟩, rfl, q _ (I.hok.fresh (Nat.le_succ _))⟩
end BT
namespace B
open PySem L2
section
variable {K : PySem.W.Frag} {W : Type} {R : Rs W} {C : Cl} {κ κb κc : List Kd} {rk : Kd} {S H : Hp}
def leD (a b : D) : Bool := PySem.W.dataLe false (fun d : D => d) a b
def sortD (ds : List D) : List D := ds.mergeSort leD
open Classical in
noncomputable def gSortX : List D → Option (List D)
  | [.list ds] => if SeqAt.shaped (.list ds) = true ∧ (∀ d ∈ ds, SeqAt.shaped d = true ∧ d.depth ≤ 60) ∧ PySem.W.AllAlike ds ∧ PySem.W.Sortable ds then some (sortD ds) else none
  | _ => none
theorem dvs_zip : ∀ {vs : List V} {ds : List D}, DVs K S vs ds → ∃ zs : List (V × D), zs.map (·.1) = vs ∧ zs.map (·.2) = ds ∧ ∀ z ∈ zs, DV K S z.1 z.2
  | _, _, .nil => ⟨[], rfl, rfl, fun _ h => (nomatch h)⟩
  | _, _, .cons (v := v) (d := d) h t => by
    obtain ⟨zs, rfl, rfl, hz⟩ := dvs_zip t
    refine ⟨(v, d) :: zs, rfl, rfl, fun z hm => ?_⟩
    rcases List.mem_cons.mp hm with rfl | hm
    · exact h
    · exact hz z hm
theorem zip_dvs : ∀ {zs : List (V × D)}, (∀ z ∈ zs, DV K S z.1 z.2) → DVs K S (zs.map (·.1)) (zs.map (·.2))
  | [], _ => .nil
  | z :: zs, h => .cons (h z List.mem_cons_self) (zip_dvs fun y hy => h y (List.mem_cons_of_mem _ hy))
theorem cSortX : CbL K (BT.rSortX K) gSortX := by
  intro S H vs ds z Q sub hs hf q
  unfold gSortX at hf
  split at hf
  · rename_i ds
    split at hf
    · rename_i hg
      cases hf
      obtain ⟨_, g1, g2, g3⟩ := hg
      obtain ⟨v, rfl, h⟩ := seenAll_1 hs
      obtain ⟨p, us, rfl, h1, h2⟩ := seen_list sub h
      obtain ⟨zs, rfl, rfl, hz⟩ := dvs_zip h2
      refine ⟨p, zs, rfl, SqL.of h1, fun z hm => ?_, g2, g3, fun l hn => ?_⟩
      · have := g1 z.2 (List.mem_map.mpr ⟨z, hm, rfl⟩)
        exact ⟨seen_dp sub this.1 (.inl (hz z hm)), this.2⟩
      · have e : (zs.mergeSort (PySem.W.dataLe false (·.2))).map (·.2) = sortD (zs.map (·.2)) := List.map_mergeSort fun a _ b _ => rfl
        have hd := zip_dvs (K := K) (S := S) (zs := zs.mergeSort (PySem.W.dataLe false (·.2))) fun z hm => hz z ((List.mergeSort_perm _ _).mem_iff.mp hm)
        rw [e] at hd
        exact q l _ hn hd
    · cases hf
  · cases hf
theorem kSortX {X : Cx} (hu : X.A.units + 65 < cLine) (hK : X.K = K) : CallR X (.builtin "sorted") (BT.rSortX K) := by subst hK; exact BT.cr_sortX hu
end
end B

/-! divmod, x = l.pop(i), l[i] -= e -/
namespace B
open PySem L2
section
variable {K : PySem.W.Frag} {W : Type} {R : Rs W} {C : Cl} {κ κb κc : List Kd} {rk : Kd} {S H : Hp}
/-! ### divmod -/
def rDivM : Rb := fun xs H Q => ∃ i j, xs = [V.int i, .int j] ∧ CDiv i j ∧ ∀ p, H p = none → Q (.ref p) (upd H p (.tup [.int (i / j), .int (i % j)]))
noncomputable def gDivM : List D → Option (List D)
  | [.int i, .int j] => if Lines 0 1073741824 j then some [.int (i / j), .int (i % j)] else none
  | _ => none
theorem cDivM : CbU K rDivM gDivM := by
  intro S H vs ds z Q sub hs hf q _
  unfold gDivM at hf
  split at hf
  · split at hf
    · rename_i c
      cases hf
      obtain ⟨v, u, rfl, h1, h2⟩ := seenAll_2 hs
      rw [seen_int h1, seen_int h2]
      exact ⟨_, _, rfl, by unfold CDiv; exact c, fun p hp => q p _ hp (.cons (.int _) (.cons (.int _) .nil))⟩
    · cases hf
  · cases hf
theorem kDivM {X : Cx} : CallR X (.builtin "divmod") rDivM := call_divmod
/-! ### str(x), x an int or a text -/
def rStrX : Rb := fun xs H Q => (∃ i, xs = [V.int i] ∧ i.natAbs.log2 < 1920 ∧ Q (.str (toString i)) H) ∨ (∃ a, xs = [V.str a] ∧ Q (.str a) H)
theorem kStrX {X : Cx} : CallR X (.type "str") rStrX := CallR.or call_str_int SkE.call_str_str
def gStrX : OpN
  | [.int i] => if i.natAbs.log2 < 1920 then some (.str (toString i)) else none
  | [.str a] => some (.str a)
  | _ => none
theorem cStrX : CbP K rStrX gStrX := by
  intro S H vs ds z Q sub hs hf q
  unfold gStrX at hf
  split at hf
  · split at hf
    · rename_i c
      cases hf
      obtain ⟨v, rfl, h1⟩ := seenAll_1 hs
      rw [seen_int h1]
      exact .inl ⟨_, rfl, c, q _ (.str _)⟩
    · cases hf
  · cases hf
    obtain ⟨v, rfl, h1⟩ := seenAll_1 hs
    rw [seen_str h1]
    exact .inr ⟨_, rfl, q _ (.str _)⟩
  · cases hf
/-! ### l[i] -= e, l an own list -/
def mAugS (i : Nat) (g : Op2) (mi me : ME W) : MS W := fun ρ => bnd (mVar i ρ) fun d => bnd (theL d) fun d => bnd (mi ρ) fun k => bnd (lift (gIxL d k)) fun x => bnd (me ρ) fun y => bnd (lift (g x y)) fun z => match d, k with
  | .list ds, .int j => bnd (lift (ixN ds.length j)) fun n => ret (.nx (ρ.set i (some (.list (ds.set n z)))))
  | _, _ => stk
end
end B
namespace BT
open PySem PySem.Spec PyProof.Rows L2
theorem pget_list {K : PySem.W.Frag} {X : Cx} (hK : X.K = K) : PGet X (rIxL K) := by
  subst hK
  intro pins s σ H x y v u Q I rx ry h
  obtain ⟨p, xs, i, z, rfl, rfl, hq, he, q⟩ := h
  cases rx
  obtain ⟨t, rfl⟩ := ry
  obtain ⟨its, r, pl, hz⟩ := I.list hq
  obtain ⟨j, h1, h2, h3, h4, h5⟩ := atI_get he
  obtain ⟨w, ew, rw'⟩ := r.get h2
  have hl := r.length
  have hn := line63
  have fin : EP X pins σ Q w s := ⟨z, H, I, rw', q⟩
  by_cases h0 : 0 ≤ i
  · have hj : i.toNat = j := by
      rw [seqIndex_of h0 h5] at h1
      exact Option.some.inj h1
    exact wpAny_getItem_list pl.isList h0 (by omega) (by rw [hj]; simpa using ew) fin
  · have hj : (i + (its.toArray.size : Int)).toNat = j := by
      rw [seqIndex_neg (by omega) h4] at h1
      rw [List.size_toArray, ← hl]
      exact Option.some.inj h1
    exact wpAny_getItem_list_neg pl.isList (by omega) (by rw [List.size_toArray] <;> omega) (by omega) (by rw [hj]; simpa using ew) fin
end BT
namespace B
open PySem L2
section
variable {K : PySem.W.Frag} {W : Type} {R : Rs W} {C : Cl} {κ κb κc : List Kd} {rk : Kd} {S H : Hp}
theorem okAugS {ti te : TE} {i : Nat} {ki ke : Kd} {mi me : ME W} {tip : TIp} {g : Op2} (hr : OpP K tip g) (hi : OkE K R C κ ti ki mi) (he : OkE K R C κ te ke me) (hk : kd κ i = .own := by rfl) (hki : ki ≠ .res := by decide) (hke : ke ≠ .res := by decide) :
    OkS K R C κb κc rk κ (tAugS (tVar i) ti te (rIxL K) tip rSetL) (mAugS i g mi me) κ := by
  intro S0 H0 w0 S H σ ρ w E rl q
  unfold mAugS mVar at q
  cases e0 : ρ[i]? with
  | none => simp only [e0, bnd_stk] at q; exact q.elim
  | some x =>
    cases x with
    | none => simp only [e0, bnd_stk] at q; exact q.elim
    | some d =>
      simp only [e0, bnd_ret] at q
      obtain ⟨p, ho, hσ, hp, hr0, hwr⟩ := rl.write hk e0 (d' := d)
      obtain ⟨ds, rfl⟩ : ∃ ds, d = .list ds := by cases d <;> first | exact ⟨_, rfl⟩ | exact q.elim
      have q : PostS K R C κ κb κc rk S0 H0 w0 S E (bnd (mi ρ) (fun k => bnd (lift (gIxL (.list ds) k)) fun x => bnd (me ρ) fun y => bnd (lift (g x y)) fun z => match (PyData.list ds : D), k with
        | .list ds, .int j => bnd (lift (ixN ds.length j)) fun n => ret (.nx (ρ.set i (some (.list (ds.set n z)))))
        | _, _ => stk) w) := q
      refine ⟨_, hσ, hi S0 H0 w0 S H σ ρ w _ rl ?_⟩
      cases e : mi ρ w with
      | stuck => rw [bnd_stuck e] at q; exact q.elim
      | exc c fs w1 => rw [bnd_exc e] at q; exact fun cls dd S' H' r' hc hx => q cls dd σ S' H' r'.out hc hx
      | ok k w1 =>
        rw [bnd_ok e] at q
        intro vk S1 H1 r1 s1 o1
        cases eg : gIxL (.list ds) k with
        | none => rw [eg, lift_none, bnd_stk] at q; exact q.elim
        | some x =>
          rw [eg, lift_some, bnd_ret] at q
          obtain ⟨j, rfl⟩ : ∃ j, k = .int j := by cases k <;> first | exact ⟨_, rfl⟩ | (cases eg; done)
          obtain ⟨p1, ho1, hσ1, hp1, hr1, _⟩ := r1.write hk e0 (d' := .list ds)
          rw [hσ] at hσ1
          have ep : p = p1 := V.ref.inj (Option.some.inj (Option.some.inj hσ1))
          subst ep
          obtain ⟨vs1, rfl, hv1⟩ := ownRep_list hr1
          obtain ⟨xv, hx1, hx2⟩ := dvs_at hv1 (show atI ds j = some x from eg)
          rw [seen_int (o1.seen r1 hki)]
          refine ⟨p, vs1, j, xv, rfl, rfl, SqL.of hp1, hx1, he S0 H0 w0 S1 H1 σ ρ w1 _ r1 ?_⟩
          cases e2 : me ρ w1 with
          | stuck => rw [bnd_stuck e2] at q; exact q.elim
          | exc c fs w2 => rw [bnd_exc e2] at q; exact fun cls dd S' H' r' hc hx => q cls dd σ S' H' r'.out hc hx
          | ok y w2 =>
            rw [bnd_ok e2] at q
            intro yv S2 H2 r2 s2 o2
            cases e3 : g x y with
            | none => rw [e3, lift_none, bnd_stk] at q; exact q.elim
            | some z =>
              rw [e3, lift_some, bnd_ret] at q
              refine hr S2 H2 xv yv x y z _ r2.out.sub (.inl (dp_mono s2 _ _ hx2)) (o2.seen r2 hke) e3 fun u hu => ?_
              cases e4 : ixN ds.length j with
              | none => simp only [e4, lift_none, bnd_stk] at q; exact q.elim
              | some n =>
                simp only [e4, lift_some, bnd_ret] at q
                obtain ⟨p', ho', hσ', hp', hr', hwr'⟩ := r2.write hk e0 (d' := .list (ds.set n z))
                rw [hσ] at hσ'
                have ep : p = p' := V.ref.inj (Option.some.inj (Option.some.inj hσ'))
                subst ep
                obtain ⟨vs2, rfl, hv2⟩ := ownRep_list hr'
                exact ⟨p, vs2, j, n, rfl, rfl, hp', by rw [dvs_len hv2]; exact e4, q σ S2 _ (hwr' (.lst (vs2.set n u)) (dvs_set n hv2 hu)) fun a o z => s2 a o (s1 a o z)⟩
end
end B
namespace B
open PySem L2
section
variable {K : PySem.W.Frag} {W : Type} {R : Rs W} {C : Cl} {κ κb κc : List Kd} {rk : Kd} {S H : Hp}
/-! ### l2[j] = l.pop(k), two own lists -/
theorem dvs_nth : ∀ {vs : List V} {ds : List D}, DVs K S vs ds → ∀ {n : Nat} {d : D}, ds[n]? = some d → ∃ v, vs[n]? = some v ∧ DV K S v d
  | _, _, .nil, n, d, h => by simp at h
  | _, _, .cons (v := v) h t, 0, d, hd => by
    rw [List.getElem?_cons_zero] at hd
    cases hd
    exact ⟨v, rfl, h⟩
  | _, _, .cons h t, n + 1, d, hd => by
    rw [List.getElem?_cons_succ] at hd
    obtain ⟨u, h1, h2⟩ := dvs_nth t hd
    exact ⟨u, by rw [List.getElem?_cons_succ]; exact h1, h2⟩
def popO (ds : List D) (k : D) : Option (D × List D) := match k with
  | .int i => if -(2 ^ 63) ≤ i ∧ i < 2 ^ 63 then (PySem.seqIndex? i ds.length).bind fun n => ds[n]?.map fun y => (y, ds.eraseIdx n) else none
  | _ => none
def mPopS (l i : Nat) (mk mi : ME W) : MS W := fun ρ => bnd (mVar l ρ) fun d => bnd (theL d) fun d => bnd (mk ρ) fun k => bnd (lift (match d with | .list ds => popO ds k | _ => none)) fun y =>
  bnd (mVar i (ρ.set l (some (.list y.2)))) fun e => bnd (theL e) fun e => bnd (mi (ρ.set l (some (.list y.2)))) fun j => match e, j with
    | .list es, .int j => bnd (lift (ixN es.length j)) fun n => ret (.nx ((ρ.set l (some (.list y.2))).set i (some (.list (es.set n y.1)))))
    | _, _ => stk
theorem okPopS {tk ti : TE} {l i : Nat} {kk ki : Kd} {mk mi : ME W} (hk : OkE K R C κ tk kk mk) (hi : OkE K R C κ ti ki mi) (hl : kd κ l = .own := by rfl) (hii : kd κ i = .own := by rfl) (hkk : kk ≠ .res := by decide) (hki : ki ≠ .res := by decide) :
    OkS K R C κb κc rk κ (tAsg (tBM K "list" rPopAt (tVar l) (tCons tk tNil)) (gSub (tVar i) ti rSetL)) (mPopS l i mk mi) κ := by
  intro S0 H0 w0 S H σ ρ w E rl q
  unfold mPopS mVar at q
  cases e0 : ρ[l]? with
  | none => simp only [e0, bnd_stk] at q; exact q.elim
  | some x =>
    cases x with
    | none => simp only [e0, bnd_stk] at q; exact q.elim
    | some d =>
      simp only [e0, bnd_ret] at q
      obtain ⟨p, ho, hσ, hp, hr0, hwr⟩ := rl.write hl e0 (d' := d)
      obtain ⟨ds, rfl⟩ : ∃ ds, d = .list ds := by cases d <;> first | exact ⟨_, rfl⟩ | exact q.elim
      obtain ⟨vs, rfl, hv⟩ := ownRep_list hr0
      refine ⟨_, hσ, .inl ⟨rfl, _, .inl (.inl hp)⟩, ?_⟩
      show tk σ H _
      refine hk S0 H0 w0 S H σ ρ w _ rl ?_
      simp only [theL, bnd_ret] at q
      cases e : mk ρ w with
      | stuck => rw [bnd_stuck e] at q; exact q.elim
      | exc c fs w1 => rw [bnd_exc e] at q; exact fun cls dd S' H' r' hc hx => q cls dd σ S' H' r'.out hc hx
      | ok k w1 =>
        rw [bnd_ok e] at q
        intro vk S1 H1 r1 s1 o1
        cases ey : popO ds k with
        | none => rw [ey, lift_none, bnd_stk] at q; exact q.elim
        | some y =>
          rw [ey, lift_some, bnd_ret] at q
          unfold popO at ey
          cases k with
          | int j0 =>
            simp only at ey
            split at ey
            · rename_i hj
              cases en : PySem.seqIndex? j0 ds.length with
              | none => rw [en] at ey; cases ey
              | some n =>
                rw [en, Option.bind_some] at ey
                cases ed : ds[n]? with
                | none => rw [ed] at ey; cases ey
                | some y0 =>
                  rw [ed, Option.map_some] at ey
                  cases ey
                  obtain ⟨p1, ho1, hσ1, hp1, hr1, hwr1⟩ := r1.write hl e0 (d' := .list (ds.eraseIdx n))
                  rw [hσ] at hσ1
                  have ep : p = p1 := V.ref.inj (Option.some.inj (Option.some.inj hσ1))
                  subst ep
                  obtain ⟨vs1, rfl, hv1⟩ := ownRep_list hr1
                  obtain ⟨yv, hy1, hy2⟩ := dvs_nth hv1 ed
                  have r2 := hwr1 (.lst (vs1.eraseIdx n)) (dvs_erase n hv1)
                  rw [seen_int (o1.seen r1 hkk)]
                  refine ⟨p, vs1, j0, n, yv, rfl, rfl, hp1, hj.1, hj.2, by rw [dvs_len hv1]; exact en, hy1, ?_⟩
                  simp only at q
                  generalize hρ : ρ.set l (some (.list (ds.eraseIdx n))) = ρ2 at q r2
                  cases e2 : ρ2[i]? with
                  | none => simp only [e2, bnd_stk] at q; exact q.elim
                  | some x2 =>
                    cases x2 with
                    | none => simp only [e2, bnd_stk] at q; exact q.elim
                    | some d2 =>
                      simp only [e2, bnd_ret] at q
                      obtain ⟨p3, ho3, hσ3, hp3, hr3, _⟩ := r2.write hii e2 (d' := d2)
                      obtain ⟨es, rfl⟩ : ∃ es, d2 = .list es := by cases d2 <;> first | exact ⟨_, rfl⟩ | exact q.elim
                      refine ⟨_, hσ3, hi S0 H0 w0 S1 _ σ ρ2 w1 _ r2 ?_⟩
                      simp only [theL, bnd_ret] at q
                      cases e3 : mi ρ2 w1 with
                      | stuck => rw [bnd_stuck e3] at q; exact q.elim
                      | exc c fs w2 => rw [bnd_exc e3] at q; exact fun cls dd S' H' r' hc hx => q cls dd σ S' H' r'.out hc hx
                      | ok j w2 =>
                        rw [bnd_ok e3] at q
                        intro vj S2 H2 r3 s3 o3
                        cases j with
                        | int j =>
                          cases e4 : ixN es.length j with
                          | none => simp only [e4, lift_none, bnd_stk] at q; exact q.elim
                          | some m =>
                            simp only [e4, lift_some, bnd_ret] at q
                            obtain ⟨p', ho', hσ', hp', hr', hwr'⟩ := r3.write hii e2 (d' := .list (es.set m y0))
                            rw [hσ3] at hσ'
                            have ep : p3 = p' := V.ref.inj (Option.some.inj (Option.some.inj hσ'))
                            subst ep
                            obtain ⟨vs3, rfl, hv3⟩ := ownRep_list hr'
                            rw [seen_int (o3.seen r3 hki)]
                            exact ⟨p3, vs3, j, m, rfl, rfl, hp', by rw [dvs_len hv3]; exact e4, q σ S2 _ (hwr' (.lst (vs3.set m yv)) (dvs_set m hv3 (dp_mono s3 _ _ hy2))) fun a o z => s3 a o (s1 a o z)⟩
                        | _ => exact q.elim
            · cases ey
          | _ => cases ey
end
end B

/-! [e for x in xs for y in range(n)] -/
namespace B
open PySem L2
section
variable {K : PySem.W.Frag} {W : Type} {R : Rs W} {C : Cl} {κ κ1 κ2 κb κc : List Kd} {rk : Kd} {S H S0 H0 : Hp} {w w0 : W} {σ : L2.St} {ρ : Rho}
def butH (H : Hp) (L : Addr) : Hp := fun a => if a = L then none else H a
theorem butH_ne {H : Hp} {L a : Addr} (h : a ≠ L) : butH H L a = H a := if_neg h
theorem butH_at {H : Hp} {L : Addr} : butH H L L = none := if_pos rfl
theorem butH_some {H : Hp} {L a : Addr} {o : HO} (h : butH H L a = some o) : a ≠ L ∧ H a = some o := by
  by_cases e : a = L
  · rw [e, butH_at] at h; cases h
  · exact ⟨e, by rw [butH_ne e] at h; exact h⟩
theorem Rel.blockBut (r : Rel K R κ S0 H0 w0 S H σ ρ w) (vs : List Nat) {L : Addr} (hS : S L = none) (h0 : H0 L = none) (hsl : ∀ i e, ρ[i]? = some (some e) → kd κ i = .own → σ[i]? ≠ some (some (.ref L))) : Rel K R (blkK κ) S (butH H L) w S H (wipe σ vs) (wipeR ρ vs) w := by
  obtain ⟨oa, r⟩ := r
  refine ⟨oa, ⟨r.out.sub, fun _ _ h => h, fun a h h' => absurd h' h, fun a o h _ => (butH_some h).2, fun a h => fun z => h (by
    unfold butH
    split
    · rfl
    · exact z), r.out.res, r.out.resS, fun a h h' => absurd h h'⟩, by rw [wipeR_len, wipe_length]; exact r.len, fun i d h => ?_, fun i j d e hi hj ki kj => ?_⟩
  · obtain ⟨h1, h2⟩ := wipeR_some h
    obtain ⟨v, g1, g2⟩ := r.slot i d h1
    refine ⟨v, by rw [wipe_other h2]; exact g1, ?_⟩
    rw [kd_blk]
    cases hk : kd κ i with
    | dat => rw [hk] at g2; exact g2
    | own =>
      rw [hk] at g2
      obtain ⟨k1, _, _, k4, ho, k2, k3⟩ := g2
      have hne : oa i ≠ L := fun z => hsl i d h1 hk (by rw [g1, k1, z])
      exact ⟨_, ho, k1, by rw [butH_ne hne]; exact k2, k4, k3⟩
    | bor =>
      rw [hk] at g2
      obtain ⟨q, ho, k1, k2, k3, k4⟩ := g2
      have hne : q ≠ L := fun z => by rw [z, h0] at k2; cases k2
      refine ⟨q, ho, k1, by rw [butH_ne hne]; exact r.out.keep q ho k2 k3, fun hf => ?_, k4⟩
      have := r.out.resN q hf k3
      rw [this] at k2; cases k2
    | res => rw [hk] at g2; exact g2
  · rw [kd_blk] at ki
    split at ki
    · cases ki
    · rename_i h; exact absurd ki h
theorem Rel.writeAt (r : Rel K R κ S0 H0 w0 S H σ ρ w) {L : Addr} {ho : HO} (hS : S L = none) (h0 : H0 L = none) (hf : ¬ R.fp w L) (hsl : ∀ i e, ρ[i]? = some (some e) → kd κ i = .own → σ[i]? ≠ some (some (.ref L))) : Rel K R κ S0 H0 w0 S (upd H L ho) σ ρ w := by
  obtain ⟨oa, r⟩ := r
  refine ⟨oa, r.out.write hS h0 hf, r.len, fun j e hj => ?_, r.inj⟩
  obtain ⟨u, g1, g2⟩ := r.slot j e hj
  refine ⟨u, g1, slot_write (fun kj ej => ?_) g2⟩
  rw [kj] at g2
  obtain ⟨v2, _⟩ := g2
  exact hsl j e hj kj (by rw [g1, v2, ej])
def mLc2L (f : D → Rho → Option Rho) (mt : Rho → M W Bool) (src1 : Rho → M W (List D)) (vs1 : List Nat) (f1 : D → Rho → Option Rho) (mt1 : Rho → M W Bool) (me : ME W) (ρ : Rho) : List D → M W (List D)
  | [] => ret []
  | d :: ds => bnd (lift (f d ρ)) fun ρ1 => bnd (noX (mt ρ1)) fun b => if b then bnd (noX (src1 ρ1)) fun es => if es.length ≤ 1000 then bnd (mLcL f1 mt1 me (wipeR ρ1 vs1) es) fun xs => bnd (mLc2L f mt src1 vs1 f1 mt1 me ρ ds) fun ys => ret (xs ++ ys) else stk
    else mLc2L f mt src1 vs1 f1 mt1 me ρ ds
def mLc2 (src : Rho → M W (List D)) (vs : List Nat) (f : D → Rho → Option Rho) (mt : Rho → M W Bool) (src1 : Rho → M W (List D)) (vs1 : List Nat) (f1 : D → Rho → Option Rho) (mt1 : Rho → M W Bool) (me : ME W) : ME W :=
  fun ρ => bnd (src ρ) fun ds => if ds.length ≤ 10000 then bnd (mLc2L f mt src1 vs1 f1 mt1 me (wipeR ρ vs) ds) fun xs => ret (.list xs) else stk
theorem Rel.toBlk (r : Rel K R κ S0 H0 w0 S H σ ρ w) (hno : ∀ i, kd κ i ≠ .own) : Rel K R (blkK κ) S0 H0 w0 S H σ ρ w := by
  obtain ⟨oa, r⟩ := r
  have e : ∀ i, kd (blkK κ) i = kd κ i := fun i => by rw [kd_blk, if_neg (hno i)]
  refine ⟨oa, r.out, r.len, fun i d h => ?_, fun i j d e' hi hj ki kj => absurd (by rw [← e i]; exact ki) (hno i)⟩
  obtain ⟨v, g1, g2⟩ := r.slot i d h
  exact ⟨v, g1, by rw [e i]; exact g2⟩
theorem blk_no (i : Nat) : kd (blkK κ) i ≠ .own := fun h => by
  rw [kd_blk] at h
  split at h
  · cases h
  · rename_i h2; exact h2 h
noncomputable def rsD (ds : List D) : M W (List D) := match ds with
  | [.int j] => if Lines (-1000000000) 1000000000 j then ret (intsFrom 0 j.toNat) else stk
  | _ => stk
theorem rsD_or (ds : List D) (w : W) : (∃ j, ds = [.int j] ∧ Lines (-1000000000) 1000000000 j ∧ (rsD ds w : Res W (List D)) = .ok (intsFrom 0 j.toNat) w) ∨ (rsD ds w : Res W (List D)) = .stuck := by
  unfold rsD
  split
  · rename_i j
    by_cases h : Lines (-1000000000) 1000000000 j
    · rw [if_pos h]
      exact .inl ⟨j, rfl, h, rfl⟩
    · rw [if_neg h]
      exact .inr rfl
  · exact .inr rfl
theorem srcR1_eq {m : Rho → M W (List D)} : srcR1 m ρ = bnd (m ρ) rsD := rfl
theorem kd_no {κ : List Kd} (h : ∀ k ∈ κ, k ≠ .own) (i : Nat) : kd κ i ≠ .own := by
  unfold kd
  rw [List.getD_eq_getElem?_getD]
  cases e : κ[i]? with
  | none => exact fun z => by cases z
  | some k => exact h k (List.mem_of_getElem? e)
theorem okLc2 {wi : TI} {g g1 : TG} {tt tt1 : TT} {te : TE} {ta1 : TA} {k1 : Kd} {src : Rho → M W (List D)} {m1 : Rho → M W (List D)} {f f1 : D → Rho → Option Rho} {mt mt1 : Rho → M W Bool} {me : ME W} {as as1 vs vs1 : List Nat} (hi : OkIc K R C κ wi src) (hg : OkG (K := K) (R := R) (blkK κ) g f κ1 as)
    (ht : OkT K R C.no (blkK κ1) tt mt) (ha1 : OkA K R C.no (blkK κ1) ta1 [k1] m1) (hg1 : OkG (K := K) (R := R) (blkK (blkK κ1)) g1 f1 κ2 as1) (ht1 : OkT K R C.no κ2 tt1 mt1) (he : OkE K R C.no κ2 te .dat me)
    (hk1 : k1 ≠ .res := by decide) (hv : ∀ i ∈ as, i ∈ vs := by decide) (hv1 : ∀ i ∈ as1, i ∈ vs1 := by decide) (hno : ∀ i, kd κ1 i ≠ .own) : OkE K R C κ (tLc2 wi g tt (iRng1 ta1) g1 tt1 te vs vs1) .own (mLc2 src vs f mt (srcR1 m1) vs1 f1 mt1 me) := by
  intro S0 H0 w0 S H σ ρ w Q rl q
  refine hi S0 H0 w0 S H σ ρ w _ rl ?_
  unfold mLc2 at q
  cases e : src ρ w with
  | stuck => rw [bnd_stuck e] at q; exact q.elim
  | exc c fs w1 => rw [bnd_exc e] at q; exact q
  | ok ds w1 =>
    rw [bnd_ok e] at q
    intro J S1 H1 r1 s1 y L hL
    by_cases hz : ds.length ≤ 10000
    · rw [if_pos hz] at q
      have hSL : S1 L = none := r1.out.s_none hL
      have hfL : ¬ R.fp w1 L := r1.out.nofp hL
      have h0L : H0 L = none := r1.out.h0_none hL
      -- no own slot is L
      have hsl : ∀ {κ0 : List Kd} (_ : True), ∀ i e, ρ[i]? = some (some e) → kd κ i = .own → σ[i]? ≠ some (some (.ref L)) := fun _ => fresh_slot r1 hL
      let F : List D → M W (List D) := mLc2L f mt (srcR1 m1) vs1 f1 mt1 me (wipeR ρ vs)
      let T : Nat → Hp → Prop := fun i H => ∃ S w accV acc, Rel K R κ S0 H0 w0 S H σ ρ w ∧ (∀ a o, S1 a = some o → S a = some o) ∧ H L = some (.lst accV) ∧ S L = none ∧ ¬ R.fp w L ∧ DVs K S accV acc ∧ acc.length ≤ i * 1000 ∧
        PostE K R C κ S0 H0 w0 S σ ρ .own Q (bnd (F (ds.drop i)) (fun xs => ret (.list (acc ++ xs))) w)
      refine ⟨fun i m H => T i H ∧ m = ds.length - i ∧ i ≤ ds.length, ⟨ds.length, ⟨S1, w1, [], [], r1.allocOwn hL, fun _ _ h => h, upd_same, hSL, hfL, .nil, Nat.zero_le _, postE_mono s1 q⟩, by omega, Nat.zero_le _⟩, ?_⟩
      rintro i m H2 ⟨⟨S2, w2, accV, acc, r2, s2, hD, hS2, hf2, hacc, hal, q2⟩, rfl, hi⟩
      obtain ⟨yStop, yGo⟩ := y i S2 H2 w2 r2 s2
      by_cases hlt : i < ds.length
      · rw [List.drop_eq_getElem_cons hlt] at q2
        obtain ⟨hgo, hy⟩ := yGo ds[i] (List.getElem?_eq_getElem hlt)
        refine .inr ⟨hgo, T (i + 1), fun H' t => ⟨ds.length - (i + 1), by omega, t, rfl, hlt⟩, fun x H' hyl => ?_⟩
        have key : ∀ S3 H3, Rel K R κ S0 H0 w0 S3 H3 σ ρ w2 → (∀ a o, S2 a = some o → S3 a = some o) → H3 L = some (.lst accV) → S3 L = none → DV K S3 x ds[i] →
            g x (wipe σ vs) H3 fun σ2 H2 => wipe σ2 vs = wipe σ vs ∧ tt σ2 H2 fun b H3 =>
              if b = true then iRng1 ta1 σ2 H3 fun J1 H4 => ∃ W1 : Nat → Nat → Hp → Prop, (∃ m, W1 0 m H4) ∧ ∀ j k H, W1 j k H →
                (J1.stop j H ∧ T (i + 1) H) ∨ (J1.go j H ∧ ∃ Nx1 : Hp → Prop, (∀ H', Nx1 H' → ∃ k', k' < k ∧ W1 (j + 1) k' H') ∧ ∀ x H', J1.yld j H x H' → g1 x (wipe σ2 vs1) H' fun σ3 H5 => wipe σ3 vs1 = wipe σ2 vs1 ∧ tt1 σ3 H5 fun b H6 =>
                  if b = true then te σ3 H6 fun y H7 => ∃ acc, H7 L = some (.lst acc) ∧ acc.length < sizeLine ∧ Nx1 (upd H7 L (.lst (acc ++ [y]))) else Nx1 H6)
              else T (i + 1) H3 := by
          intro S3 H3 r3 s3 hD3 hS3 hv3
          have q3 := postE_mono s3 q2
          have stayL : ∀ {Sa Ha wa Sb Hb wb aV}, Out R Sa Ha wa Sb Hb wb → Ha L = some (.lst aV) → Sa L = none → ¬ R.fp wa L → Hb L = some (.lst aV) ∧ Sb L = none ∧ ¬ R.fp wb L := fun {Sa Ha wa Sb Hb wb aV} o h1 h2 h3 => by
            refine ⟨o.keep L _ h1 h3, ?_, fun hf => ?_⟩
            · cases z : Sb L with
              | none => rfl
              | some u =>
                have := o.new L (by rw [z]; exact Option.some_ne_none _) h2
                rw [this] at h1; cases h1
            · have := o.resN L hf h3
              rw [this] at h1; cases h1
          have q3 : PostE K R C κ S0 H0 w0 S3 σ ρ .own Q (bnd (bnd (lift (f ds[i] (wipeR ρ vs))) fun ρ1 => bnd (noX (mt ρ1)) fun b => if b then bnd (noX (srcR1 m1 ρ1)) fun es => if es.length ≤ 1000 then bnd (mLcL f1 mt1 me (wipeR ρ1 vs1) es) fun xs => bnd (F (ds.drop (i + 1))) fun ys => ret (xs ++ ys) else stk
            else F (ds.drop (i + 1))) (fun xs => ret (.list (acc ++ xs))) w2) := q3
          rw [bnd_bnd] at q3
          cases eg : f ds[i] (wipeR ρ vs) with
          | none => rw [eg, lift_none, bnd_stk] at q3; exact q3.elim
          | some ρ1 =>
            rw [eg, lift_some, bnd_ret, bnd_bnd] at q3
            have rb := r3.blockBut vs hS3 h0L (fresh_slot r1 hL)
            refine hg S3 (butH H3 L) w2 S3 H3 _ _ w2 x ds[i] ρ1 _ rb hv3 eg fun σ4 b4 r4 => ⟨but_wipe b4 hv, ?_⟩
            have rF := r4.block []
            have e1 : wipe σ4 [] = σ4 := rfl
            have e2 : wipeR ρ1 [] = ρ1 := rfl
            rw [e1, e2] at rF
            refine ht S3 H3 w2 S3 H3 σ4 ρ1 w2 _ rF ?_
            cases et : mt ρ1 w2 with
            | stuck => rw [bnd_stuck (x := noX (mt ρ1)) (by unfold noX; rw [et])] at q3; exact q3.elim
            | exc c fs w5 => rw [bnd_stuck (x := noX (mt ρ1)) (by unfold noX; rw [et])] at q3; exact q3.elim
            | ok b w5 =>
              rw [bnd_ok (x := noX (mt ρ1)) (noX_ok et)] at q3
              intro S5 H5 r5 s5
              have k5 := stayL r5.out hD3 hS3 hf2
              cases b with
              | false =>
                show (if false = true then _ else _)
                rw [if_neg (by decide)]
                exact ⟨S5, w5, accV, acc, r3.after r5.out, fun a o z => s5 a o (s3 a o (s2 a o z)), k5.1, k5.2.1, k5.2.2, dpAll_mono (fun a o z => s5 a o (s3 a o z)) _ _ hacc, by omega, postE_mono s5 q3⟩
              | true =>
                show (if true = true then _ else _)
                rw [if_pos rfl]
                have q5 := postE_mono s5 q3
                simp only [if_true] at q5
                rw [bnd_bnd] at q5
                show ta1 σ4 H5 _
                refine ha1 S3 H3 w2 S5 H5 σ4 ρ1 w5 _ r5 ?_
                cases ea : m1 ρ1 w5 with
                | stuck => rw [bnd_stuck (x := noX (srcR1 m1 ρ1)) (by unfold noX srcR1; rw [bnd_stuck ea])] at q5; exact q5.elim
                | exc c fs w6 => rw [bnd_stuck (x := noX (srcR1 m1 ρ1)) (by unfold noX srcR1; rw [bnd_exc ea])] at q5; exact q5.elim
                | ok es1 w6 =>
                  intro us S6 H6 r6 s6 o6
                  have hq : srcR1 m1 ρ1 w5 = rsD es1 w6 := by rw [srcR1_eq, bnd_ok ea]
                  rcases rsD_or es1 w6 with ⟨j1, rfl, hj, er⟩ | er
                  · rw [er] at hq
                    rw [bnd_ok (x := noX (srcR1 m1 ρ1)) (noX_ok hq)] at q5
                    have hj' : -1000000000 < j1 ∧ j1 < 1000000000 := hj
                    have hu : us = [V.int j1] := by
                      cases o6 with
                      | cons g1' g2' =>
                        cases g2'
                        rw [seen_int (g1'.seen r6 hk1)]
                    refine ⟨j1, hu, by omega, by omega, ?_⟩
                    by_cases hn : (intsFrom 0 j1.toNat).length ≤ 1000
                    · rw [if_pos hn, bnd_bnd] at q5
                      have k6 := stayL r6.out hD3 hS3 hf2
                      have r4' : Rel K R (blkK κ1) S3 (butH H3 L) w2 S6 H6 σ4 ρ1 w6 := (r4.after r6.out).toBlk hno
                      have r36 := r3.after r6.out
                      have hcv : DVs K S6 accV acc := dpAll_mono (fun a o z => s6 a o (s5 a o (s3 a o z))) _ _ hacc
                      generalize hes : intsFrom 0 j1.toNat = es at q5 hn
                      have q6 := postE_mono s6 q5
                      let T1 : Nat → Hp → Prop := fun j H => ∃ S w accV acc', Rel K R κ S0 H0 w0 S H σ ρ w ∧ Rel K R (blkK κ1) S3 (butH H3 L) w2 S H σ4 ρ1 w ∧ (∀ a o, S1 a = some o → S a = some o) ∧ H L = some (.lst accV) ∧ S L = none ∧ ¬ R.fp w L ∧ DVs K S accV acc' ∧ acc'.length ≤ i * 1000 + j ∧
                        PostE K R C κ S0 H0 w0 S σ ρ .own Q (bnd (mLcL f1 mt1 me (wipeR ρ1 vs1) (es.drop j)) (fun xs => bnd (F (ds.drop (i + 1))) fun ys => ret (.list (acc' ++ (xs ++ ys)))) w)
                      refine ⟨fun j k H => T1 j H ∧ k = es.length - j ∧ j ≤ es.length, ⟨es.length, ⟨S6, w6, accV, acc, r36, r4', fun a o z => s6 a o (s5 a o (s3 a o (s2 a o z))), k6.1, k6.2.1, k6.2.2, hcv, by omega, ?_⟩, by omega, Nat.zero_le _⟩, ?_⟩
                      · simp only [bnd_bnd, bnd_ret] at q6
                        exact q6
                      rintro j k H7 ⟨⟨S7, w7, accV7, acc7, r7, b7, s7, hD7, hS7, hf7, hacc7, hal7, q7⟩, rfl, hjl⟩
                      have y1 := (yields_range (K := K) (R := R) (S0 := S7) (H0 := H7) (w0 := w7) (S1 := S7) (lo := 0) (n := j1.toNat)) j S7 H7 w7 (Out.refl r7.out.in_) (fun _ _ h => h)
                      rw [hes] at y1
                      obtain ⟨y1Stop, y1Go⟩ := y1
                      by_cases hlt2 : j < es.length
                      · rw [List.drop_eq_getElem_cons hlt2] at q7
                        have hge : es[j]? = some es[j] := List.getElem?_eq_getElem hlt2
                        obtain ⟨hgo1, hy1⟩ := y1Go es[j] hge
                        refine .inr ⟨hgo1, T1 (j + 1), fun H' t => ⟨es.length - (j + 1), by omega, t, rfl, hlt2⟩, fun x1 H' hyl1 => ?_⟩
                        obtain ⟨hH, hv'⟩ : H' = H7 ∧ DV K S7 x1 es[j] := by
                          rcases hy1 x1 H' hyl1 with h | ⟨p, us', es', hp, _, _, ed, _⟩
                          · exact h
                          · have h11 : ∀ dd, es[j]? = some dd → dd = .int (0 + (j : Int)) := fun dd h => by
                              rw [← hes] at h
                              exact (intsFrom_get h).2
                            rw [h11 _ hge] at ed
                            cases ed
                        subst hH
                        have rb1 := b7.block vs1
                        unfold mLcL at q7
                        rw [bnd_bnd] at q7
                        cases eg1 : f1 es[j] (wipeR ρ1 vs1) with
                        | none => rw [eg1, lift_none, bnd_stk] at q7; exact q7.elim
                        | some ρ2 =>
                          rw [eg1, lift_some, bnd_ret, bnd_bnd] at q7
                          refine hg1 S7 H' w7 S7 H' _ _ w7 x1 es[j] ρ2 _ rb1 hv' eg1 fun σ5 b5 r8 => ⟨but_wipe b5 hv1, ?_⟩
                          refine ht1 S7 H' w7 S7 H' σ5 ρ2 w7 _ r8 ?_
                          cases et1 : mt1 ρ2 w7 with
                          | stuck => rw [bnd_stuck (x := noX (mt1 ρ2)) (by unfold noX; rw [et1])] at q7; exact q7.elim
                          | exc c fs w8 => rw [bnd_stuck (x := noX (mt1 ρ2)) (by unfold noX; rw [et1])] at q7; exact q7.elim
                          | ok b w8 =>
                            rw [bnd_ok (x := noX (mt1 ρ2)) (noX_ok et1)] at q7
                            intro S8 H8 r9 s9
                            have k8 := stayL r9.out hD7 hS7 hf7
                            cases b with
                            | false =>
                              show (if false = true then _ else _)
                              rw [if_neg (by decide)]
                              exact ⟨S8, w8, accV7, acc7, r7.after r9.out, b7.after r9.out, fun a o z => s9 a o (s7 a o z), k8.1, k8.2.1, k8.2.2, dpAll_mono (fun a o z => s9 a o z) _ _ hacc7, by omega, postE_mono s9 q7⟩
                            | true =>
                              show (if true = true then _ else _)
                              rw [if_pos rfl]
                              have q8 := postE_mono s9 q7
                              simp only [if_true] at q8
                              rw [bnd_bnd] at q8
                              refine he S7 H' w7 S8 H8 σ5 ρ2 w8 _ r9 ?_
                              cases ee : me ρ2 w8 with
                              | stuck => rw [bnd_stuck (x := noX (me ρ2)) (by unfold noX; rw [ee])] at q8; exact q8.elim
                              | exc c fs w9 => rw [bnd_stuck (x := noX (me ρ2)) (by unfold noX; rw [ee])] at q8; exact q8.elim
                              | ok d w9 =>
                                rw [bnd_ok (x := noX (me ρ2)) (noX_ok ee), bnd_bnd] at q8
                                intro yv S9 H9 r10 s10 o10
                                have k9 := stayL r10.out hD7 hS7 hf7
                                have hcv9 : DVs K S9 accV7 acc7 := dpAll_mono (fun a o z => s10 a o (s9 a o z)) _ _ hacc7
                                refine ⟨accV7, k9.1, ?_, S9, w9, accV7 ++ [yv], acc7 ++ [d], (r7.after r10.out).writeAt k9.2.1 h0L k9.2.2 (fresh_slot r1 hL), (b7.after r10.out).writeAt k9.2.1 butH_at k9.2.2 (fun i e _ h => absurd h (blk_no i)), fun a o z => s10 a o (s9 a o (s7 a o z)), upd_same, k9.2.1, k9.2.2, dvs_app hcv9 (.cons o10 .nil), ?_, ?_⟩
                                · rw [dvs_len hcv9]
                                  have h17 : sizeLine = 16777216 := sizeLine_eq
                                  omega
                                · rw [List.length_append]
                                  show acc7.length + 1 ≤ i * 1000 + (j + 1)
                                  omega
                                · have q9 := postE_mono s10 q8
                                  simp only [bnd_bnd, bnd_ret, List.append_assoc, List.singleton_append, List.cons_append] at q9 ⊢
                                  exact q9
                      · have ej : j = es.length := by omega
                        subst ej
                        rw [List.drop_length] at q7
                        refine .inl ⟨y1Stop (Nat.le_refl _), S7, w7, accV7, acc7, r7, s7, hD7, hS7, hf7, hacc7, by omega, ?_⟩
                        have q10 : PostE K R C κ S0 H0 w0 S7 σ ρ .own Q (bnd (ret []) (fun xs => bnd (F (ds.drop (i + 1))) fun ys => ret (.list (acc7 ++ (xs ++ ys)))) w7) := q7
                        rw [bnd_ret] at q10
                        exact q10
                    · rw [if_neg hn] at q5
                      exact q5.elim
                  · rw [er] at hq
                    rw [bnd_stuck (x := noX (srcR1 m1 ρ1)) (by unfold noX; rw [hq])] at q5
                    exact q5.elim
        rcases hy x H' hyl with ⟨rfl, hv'⟩ | ⟨p, us, es, hp, rfl, rfl, ed, hv'⟩
        · exact key S2 H' r2 (fun _ _ h => h) hD hS2 hv'
        · have hpL : L ≠ p := ne_p hp hD
          have e := le_upd (ho := .tup us) (r2.out.s_none hp)
          refine key _ _ (r2.alloc hp) e (by rw [upd_ne hpL]; exact hD) (by rw [upd_ne hpL]; exact hS2) ?_
          rw [ed]
          exact .tup (SqT.of upd_same) (dpAll_mono e _ _ hv')
      · have ei : i = ds.length := by omega
        subst ei
        rw [List.drop_length] at q2
        have q3 : PostE K R C κ S0 H0 w0 S2 σ ρ .own Q (.ok (.list (acc ++ [])) w2) := q2
        rw [List.append_nil] at q3
        refine .inl ⟨yStop (Nat.le_refl _), q3 (.ref L) S2 H2 r2 (fun _ _ h => h) ⟨L, _, rfl, hS2, h0L, hf2, hD, hacc, fun j e' hj hk hs => ?_⟩⟩
        exact fresh_slot r1 hL j e' hj hk hs
    · rw [if_neg hz] at q; exact q.elim
theorem kPiT {X : Cx} {tg l : PySem.Expr} {tl : TE} (hK : X.K = K) (hl : PE X l tl) : PI X tg l (iTup K tl) := by subst hK; exact pi_tup hl
theorem kPiL {X : Cx} {tg l : PySem.Expr} {tl : TE} (hK : X.K = K) (hl : PE X l tl) : PI X tg l (iList K tl) := by subst hK; exact pi_list hl
/-! ### is True, is not True -/
def gIsB : Op2 | .bool a, .bool b => some (.bool (decide (a = b))) | _, _ => none
def gNotB : Op2 | .bool a, .bool b => some (.bool (!decide (a = b))) | _, _ => none
theorem seen_bool {v : V} {b : Bool} (h : Seen K S H v (.bool b)) : v = .bl b := by
  rcases h with h | ⟨p, ho, _, _, h⟩
  · cases h; rfl
  · cases ho <;> exact h.elim
theorem oIsB : OpP K rIsB gIsB := by
  intro S H x y d e u Q sub hx hy h q
  unfold gIsB at h
  split at h
  · cases h
    exact ⟨_, _, seen_bool hx, seen_bool hy, q _ (.bl _)⟩
  · cases h
theorem oNotB : OpP K rNotB gNotB := by
  intro S H x y d e u Q sub hx hy h q
  unfold gNotB at h
  split at h
  · cases h
    exact ⟨_, _, seen_bool hx, seen_bool hy, q _ (.bl _)⟩
  · cases h
end
end B

/-! what the words of BNest, BLc2, BSort, BEnum compute -/
namespace B
open PySem L2
section
variable {W α β : Type} {ρ : Rho} {a b c : ME W}
@[simp] theorem x_EnT {m : Rho → M W (List D)} : srcEnT m ρ = bnd (m ρ) enD := (rfl)
@[simp] theorem x_EnL {m : Rho → M W (List D)} : srcEnL m ρ = bnd (m ρ) enL := (rfl)
@[simp] theorem x_EnS {m : Rho → M W (List D)} : srcEnS m ρ = bnd (m ρ) enS := (rfl)
@[simp] theorem o_StrXs (x : Str) : gStrX [.str x] = some (.str x) := (rfl)
@[simp] theorem o_IsB (x y : Bool) : gIsB (.bool x) (.bool y) = some (.bool (decide (x = y))) := (rfl)
@[simp] theorem o_NotB (x y : Bool) : gNotB (.bool x) (.bool y) = some (.bool (!decide (x = y))) := (rfl)
def popSt (l i : Nat) (ρ : Rho) (mi : ME W) (ds : List D) (k : D) : M W O := bnd (lift (popO ds k)) fun y => bnd (mVar i (ρ.set l (some (.list y.2)))) fun e => bnd (theL e) fun e => bnd (mi (ρ.set l (some (.list y.2)))) fun j => match e, j with
    | .list es, .int j => bnd (lift (ixN es.length j)) fun n => ret (.nx ((ρ.set l (some (.list y.2))).set i (some (.list (es.set n y.1)))))
    | _, _ => stk
@[simp] theorem x_Lc2 {src src1 : Rho → M W (List D)} {vs vs1 : List Nat} {f f1 : D → Rho → Option Rho} {mt mt1 : Rho → M W Bool} {me : ME W} : mLc2 src vs f mt src1 vs1 f1 mt1 me ρ = bnd (src ρ) fun ds => if ds.length ≤ 10000 then bnd (mLc2L f mt src1 vs1 f1 mt1 me (wipeR ρ vs) ds) fun xs => ret (.list xs) else stk := (rfl)
end
end B

/-! errors whose context is None: comprehensions, raise -/
namespace BLN
open PySem PySem.Spec PyProof.Rows L2 BL
section
variable {M : Model} {A : Around} {E : Value → Shared → Prop} {s : Shared} {env : Env} {outer : List Env} {L C : Addr} {base : Heap} {e : Addr} {Z : PySem.Obj → Prop} {fl : Value}
/-- noted by this frame: an exception whose flight is something else -/
theorem looks_anyZ {Q : Unit → Shared → Prop} (hZ : PXN.Steady1 Z) (hfr : A.frames = some (env :: outer)) (hf : env.frame = some L) (hkb : base.StaysIn s.heap) (hen : base.get? e = none) (hl : s.heap.FunFrames base (env :: outer)) (ht : HandSPX.TracedZ s.heap base e Z fl)
    (hne : (fl == rawInt L) = false) (hQ : ∀ h', HandSPX.HeldZ base (env :: outer) e Z L h' → s.heap.UpToSlots h' → Q () { s with heap := h' }) : wpAny M A (noteFrame (.ref e) env) Q E s := by
  obtain ⟨oe, vs, T, oT, ts, he, hz, hd, h1, hnT, hTe, hT, hdT, h3⟩ := ht
  unfold noteFrame
  simp only [hf]
  refine wpAny_bind (wpAny_field he hd h1 ?_)
  rw [if_pos (show (Value.ref T != Value.none) = true from by simp)]
  refine wpAny_bind (wpAny_field hT hdT h3 ?_)
  rw [if_neg (show ¬ ((fl == rawInt L) = true) from by rw [hne]; exact Bool.false_ne_true)]
  refine wpAny_bind (wpAny_setField hT hdT (Array.getElem?_eq_some_iff.mp h3).1 ?_)
  have other : ∀ b, b ≠ T → (s.heap.update T (Obj.mapFields (·.setIfInBounds 3 Value.none))).get? b = s.heap.get? b := fun b hb => Heap.get?_update_other _ _ (Ne.symm hb)
  have noRecord : ∀ b o, s.heap.get? b = some o → (∀ vs, o.data ≠ .fields vs) → b ≠ T := fun b o hb hnf q => by
    rw [q, hT] at hb; injection hb with hb; subst hb; exact hnf ts hdT
  refine PXN.wpAny_entryZ hZ hfr (hl.of_keeps fun b o hb hnf => ⟨o, (other b (noRecord b o hb hnf)).trans hb, rfl⟩) hf ((other e (Ne.symm hTe)).trans he)
    (fun b o hbo => (other b fun q => by rw [q, hnT] at hbo; cases hbo).trans (hkb b o hbo)) hen hd (Array.getElem?_eq_some_iff.mp h1).1 hz fun h' hN => ?_
  obtain ⟨x1, x2, x3, x4⟩ := hN
  exact hQ h' ⟨x1, hen, x2, x3⟩ fun b o hb hnf => x4 b o ((other b (noRecord b o hb hnf)).trans hb) hnf
/-- an exception that is in the air over this frame is noted by it -/
theorem sky_held {E₁ : Value → Shared → Prop} {a : Addr} {B : Heap} {Q : Unit → Shared → Prop} (hZ : PXN.Steady1 Z) (hfr : A.frames = some (env :: outer)) (hf : env.frame = some L) (x : Sky B (env :: outer) a Z C s.heap)
    (hQ : ∀ h', HandSPX.HeldZ B (env :: outer) a Z L h' → s.heap.UpToSlots h' → Q () { s with heap := h' }) : wpAny M A (noteFrame (.ref a) env) Q E₁ s := by
  rcases x with ⟨hB, hn, hl, oe, vs, he, hz, hd, h1⟩ | ⟨f1, f2, f3, f4⟩ | ⟨f1, f2, f3, f4⟩
  · exact PXN.look_newZ hZ hfr hl hf he hB hn hd h1 hz hQ
  · exact PXN.looks_onZ hZ hfr hf ⟨f1, f2, f3, f4⟩ hQ
  · by_cases hc : (rawInt C == rawInt L) = true
    · have e2 : rawInt C = rawInt L := eq_of_beq hc
      rw [e2] at f4
      exact HandSPX.againZ hf f4 (hQ s.heap ⟨f1, f2, f3, f4⟩ (Heap.UpToSlots.refl _))
    · exact looks_anyZ hZ hfr hf f1 f2 f3 f4 (Bool.eq_false_iff.mpr hc) hQ
end
section
variable {X : Cx} {pins : List (Addr × PySem.Obj)} {σ : L2.St} {H3 : Hp} {s3 : Shared} {scope : Scope} {ce : Env} {fp : List Addr} {W : WX} {e0 : Env} {o0 : List Env} {L0 : Addr} {use : Option (Value → Sem Unit)} {Qf : Value → Shared → Prop} {acc : Value}
/-- what leaves the block leaves the comprehension -/
theorem takes_blk {E' : Value → Shared → Prop} (hE : E' = notedBy (model X.prog X.w) X.A ce fun e s' => cpX (model X.prog X.w) X.A X.xe use Qf acc ce (.error e) s') (tk : L2N.Takes X W) (hst : X.stack = e0 :: o0) (hf0 : e0.frame = some L0) (hloc : X.env.locals = L0) (hcf : ce.frame = some L0) (cL : ce.locals = s3.heap.objs.size) (I3 : Inv X pins σ H3 s3)
    (f3 : ∀ b ∈ fp, FpOk X pins H3 b ∧ b < s3.heap.objs.size) : L2N.Takes ((X.blk s3 H3 scope ce fp).wish E') (fun cls d _ H => W cls d σ H) := by
  rintro u s' ⟨a, B, sI, pins', σ', H', cls, d, rfl, I, nb, up, sky, na, os, ag, w⟩
  subst hE
  show wpAny (model X.prog X.w) X.A (noteFrame (.ref a) ce) (fun _ s'' => cpX (model X.prog X.w) X.A X.xe use Qf acc ce (.error (.ref a)) s'') _ s'
  rw [note_same (env := e0) (hcf.trans hf0.symm)]
  have hfr : X.A.frames = some (e0 :: o0) := by rw [← hst]; exact I3.ok.frames
  have sky' : Sky B (e0 :: o0) a (L2N.Zn cls d) ce.locals s'.heap := by rw [← hst]; exact sky
  refine sky_held L2N.Zn.steady hfr hf0 sky' fun h1 hh up1 => ?_
  have J := I.landed (s' := { s' with heap := h1 }) nb hh.1 (up.trans up1) os ag
  obtain ⟨m, hm, _⟩ := J.loc
  refine ⟨m, hm, fun h2 sb => ?_⟩
  have nfr : ∀ b ∈ frs X.stack, b ≠ ce.locals := fun b hb z => by
    obtain ⟨_, o, ho, _⟩ := I3.stack.mem hb
    have := Heap.lt_size ho
    rw [z, cL] at this
    exact absurd this (Nat.lt_irrefl _)
  obtain ⟨oC, hBC⟩ : ∃ o, B.get? ce.locals = some o := by
    obtain ⟨m', ⟨o, es, ep, ho, r⟩, _⟩ := I.loc
    exact ⟨_, nb _ _ ho fun z => nfr _ z rfl⟩
  have hB2 : ∀ b o, b ≠ ce.locals → B.get? b = some o → (PySem.W.hideAll B [ce.locals]).get? b = some o := fun b o hb h => PySem.W.hideAll_get _ h (by simpa using hb)
  have hB3 : ∀ b o, (PySem.W.hideAll B [ce.locals]).get? b = some o → b ≠ ce.locals ∧ B.get? b = some o := fun b o h => by
    refine ⟨fun z => ?_, PySem.W.of_hideAll _ h⟩
    rw [z, PySem.W.hideAll_none _ (by simp)] at h
    cases h
  have hB4 : ∀ b, B.get? b = none → (PySem.W.hideAll B [ce.locals]).get? b = none := fun b h => by
    cases q : (PySem.W.hideAll B [ce.locals]).get? b with
    | none => rfl
    | some o => rw [(hB3 b o q).2] at h; cases h
  have hh2 : HandSPX.HeldZ (PySem.W.hideAll B [ce.locals]) (e0 :: o0) a (L2N.Zn cls d) L0 h2 := by
    obtain ⟨g1, g2, g3, oe, vs, T, oT, ts, he, hz, hd, hv1, hnT, hTe, hT, hdT, hv3⟩ := hh
    have na' : a ≠ ce.locals := fun z => by rw [z, hBC] at g2; cases g2
    have nT' : T ≠ ce.locals := fun z => by rw [z, hBC] at hnT; cases hnT
    refine ⟨fun b o h => ?_, hB4 _ g2, ?_, oe, vs, T, oT, ts, (sb.2 a na').trans he, hz, hd, hv1, hB4 _ hnT, hTe, (sb.2 T nT').trans hT, hdT, hv3⟩
    · obtain ⟨hb, h'⟩ := hB3 b o h
      exact (sb.2 b hb).trans (g1 b o h')
    · exact frames_but sb g3 fun b hb => nfr b (by rw [hst]; exact hb)
  -- the state without the block's names
  have hG2 : ∀ b o, b ≠ ce.locals → sI.heap.get? b = some o → (PySem.W.hideAll sI.heap [ce.locals]).get? b = some o := fun b o hb h => PySem.W.hideAll_get _ h (by simpa using hb)
  have hG3 : ∀ b o, (PySem.W.hideAll sI.heap [ce.locals]).get? b = some o → b ≠ ce.locals ∧ sI.heap.get? b = some o := fun b o h => by
    refine ⟨fun z => ?_, PySem.W.of_hideAll _ h⟩
    rw [z, PySem.W.hideAll_none _ (by simp)] at h
    cases h
  have old : ∀ b o, s3.heap.get? b = some o → b ≠ ce.locals := fun b o h z => by
    have := Heap.lt_size h
    rw [z, cL] at this
    exact absurd this (Nat.lt_irrefl _)
  have hCn : H' ce.locals = none := I.free
  have ub := I.base
  have IJ : Inv X pins σ H' { sI with heap := PySem.W.hideAll sI.heap [ce.locals] } := by
    refine I3.call' (ch := fp) I.os ⟨fun b o h1 h2 h3 h4 => hG2 b o (old b o h1) (ub.keep b o h1 h2 h3 h4), fun b o h1 h2 h3 h4 => ?_, fun b o h1 h2 h3 => ub.free b o h1 h2 h3, fun b o h1 h2 => ?_, ub.tups, ub.frzs, ub.tbls⟩ (fun b o q => (I.hok b o q).stay (fun c u hc r => hG2 c u (fun z => ?_) r) (fun _ r => r) fun _ _ r => r) I.bare fun b hb => ⟨(f3 b hb).1.2.2.2.1, (f3 b hb).1.2.1, (f3 b hb).1.2.2.2.2.1, (f3 b hb).1.2.2.2.2.2⟩
    · obtain ⟨sl, h⟩ := ub.slot b o h1 h2 h3 h4
      exact ⟨sl, hG2 b _ (old b o h1) h⟩
    · obtain ⟨o', h⟩ := ub.there b o h1 h2
      exact ⟨o', hG2 b o' (old b o h1) h⟩
    · rcases hc with hc | hc
      · rw [← hc, z, hCn] at q
        cases q
      · rw [z, hCn] at hc
        cases hc
  unfold PySem.passOn
  obtain ⟨g1, g2, g3, oe, vs, T, oT, ts, he, hz, hd, hv1, hr⟩ := id hh2
  refine wpAny_bind (wpAny_field he hd hv1 ?_)
  rw [if_neg (show ¬ ((Value.ref T == Value.none) = true) from by simp)]
  rw [hcf]
  refine wpAny_bind (HandSPX.setFlight_onZ (s := { s' with heap := h2 }) hh2 fun h4 hh4 up4 => wpAny_throw ?_)
  refine tk _ _ ⟨a, PySem.W.hideAll B [ce.locals], _, pins, σ, H', cls, d, rfl, IJ, fun b o h hb => ?_, fun b o h hd => ?_, .inr (.inr ?_), na, os, ag, w⟩
  · obtain ⟨h1, h2⟩ := hG3 b o h
    exact hB2 b o h1 (nb b o h2 hb)
  · obtain ⟨k1, k2⟩ := hG3 b o h
    obtain ⟨sl, k3⟩ := up b o k2 hd
    obtain ⟨sl2, k4⟩ := up1 b _ k3 hd
    obtain ⟨sl3, k5⟩ := up4 b _ ((sb.2 b k1).trans k4) hd
    exact ⟨sl3, k5⟩
  · rw [hst, hloc]
    exact hh4
end
end BLN
namespace BLN
open PySem PySem.Spec PyProof.Rows L2 BL
section
variable {X : Cx}
theorem lcX_core {pins : List (Addr × PySem.Obj)} {s : Shared} {σ : L2.St} {H : Hp} {Q : VK} {elt tg iter : PySem.Expr} {ifs : List PySem.Expr} {scope : Scope} {own : List (Str × Nat)} {pos pos' : Pos} {wi : TI} {g : TG} {tt : TT} {te : WX → TE} {use : Option (Value → Sem Unit)} {Qf : Value → Shared → Prop} {W : WX} {e0 : Env} {o0 : List Env} {L0 : Addr}
    (tk : L2N.Takes X W) (hst : X.stack = e0 :: o0) (hf0 : e0.frame = some L0) (hloc : X.env.locals = L0) (hfe : X.env.frame = some L0)
    (hc : X.calm = true) (hN : X.N.Nodup) (I : Inv X pins σ H s) (hi : PI X tg iter wi) (ok : BlkOk X.N X.env.scope scope own)
    (hg : ∀ (s : Shared) (H : Hp) (C : Addr) (cl : List (Str × Addr)) (fp : List Addr) (E' : Value → Shared → Prop), PG ((X.blk s H scope (compEnvC scope cl C X.env) fp).wish E') tg g) (ht : ∀ (s : Shared) (H : Hp) (C : Addr) (cl : List (Str × Addr)) (fp : List Addr) (E' : Value → Shared → Prop), PTs ((X.blk s H scope (compEnvC scope cl C X.env) fp).wish E') ifs tt)
    (he : ∀ (s : Shared) (H : Hp) (C : Addr) (cl : List (Str × Addr)) (fp : List Addr) (E' : Value → Shared → Prop) (wx : WX), L2N.Takes ((X.blk s H scope (compEnvC scope cl C X.env) fp).wish E') wx → PE ((X.blk s H scope (compEnvC scope cl C X.env) fp).wish E') elt (te wx)) (hs : ∀ x, foldedSetIterable iter X.env x = pure x)
    (h : tLcX wi g tt te (own.map (·.2)) W σ H Q)
    (hRR : ∀ D ce s' m H', Inv X pins σ H' s' → Q (.ref D) H' → s'.heap.Ns ce.locals m → FpOk X pins H' ce.locals → cpX (model X.prog X.w) X.A X.xe use Qf (.ref D) ce (.ok .next) s') :
    wpAny (model X.prog X.w) X.A (comprehension (.ListComp elt [⟨tg, iter, ifs, 0⟩] scope pos) scope X.env pos' (newList []) false (eval iter X.env) use) Qf X.xe s := by
  have hfree : ∀ y ∈ scope.names, y.2 = .free → ∃ c, X.env.cells.lookup y.1 = some c := fun y hy e => by
    rcases ok.free y hy e with k | k
    · exact I.ok.has _ (.inl k)
    · exact I.ok.has _ (.inr k)
  refine comprehension_x (use := use) rfl hs (closure_ok hfree) ok.kind (fun y hy e => by rw [ok.uniq y hy, e])
    (thn (hi.run pins s σ H _ I h) fun xv s1 hx => thn hx fun itv s2 h2 => ?_)
  obtain ⟨it, fp, tn, J, H2, e, I2, T, st2, f2, q⟩ := h2
  subst e
  refine wpAny_newObj_type (newEnv_comp ?_) (by show 0 ≤ sizeLine; decide)
  generalize hD : s2.heap.objs.size = D
  have hDn : H2 D = none := I2.hok.fresh (Nat.le_of_eq hD)
  obtain ⟨Wt, ⟨m0, w0⟩, turn⟩ := q D hDn
  -- the new list
  generalize hs3 : ({ s2 with heap := s2.heap.push { cls := .type "list", data := .seq ([] : List Value).toArray } } : Shared) = s3
  have I3 : Inv X pins σ (upd H2 D (.lst [])) s3 := by
    rw [← hs3]
    refine I2.laid (t' := s2.toks) (fun b o e => Heap.get?_push_of_some _ e) (Nat.le_of_eq hD) ⟨Nat.zero_le _, [], 0, .nil, ?_⟩
    rw [← hD]
    exact Heap.get?_push_size _ rfl
  have h3 : s3.heap = s2.heap.push { cls := .type "list", data := .seq ([] : List Value).toArray } := by rw [← hs3]
  have sz : ∀ b ∈ fp, b < s2.heap.objs.size := fun b hb => by
    obtain ⟨o, e, _⟩ := T.obj _ _ st2 b hb
    exact Heap.lt_size e
  have f3 : ∀ b ∈ fp, FpOk X pins (upd H2 D (.lst [])) b ∧ b < s3.heap.objs.size := fun b hb => by
    have hlt := sz b hb
    refine ⟨⟨?_, (f2 b hb).2⟩, by rw [h3, Heap.size_push]; exact Nat.lt_succ_of_lt hlt⟩
    rw [upd_ne (by rw [← hD]; exact Nat.ne_of_lt hlt)]
    exact (f2 b hb).1
  have st3 : tn 0 s3.heap := T.keep _ _ _ st2 fun b _ o e => by rw [h3]; exact Heap.get?_push_of_some _ e
  have I4 := block_start I3 ok hN f3
  have pg := hg s3 (upd H2 D (.lst [])) s3.heap.objs.size (cellsFrom (s3.heap.objs.size + 1) scope.names (cloFrom X.env.cells scope.names [])) fp
  have pt := ht s3 (upd H2 D (.lst [])) s3.heap.objs.size (cellsFrom (s3.heap.objs.size + 1) scope.names (cloFrom X.env.cells scope.names [])) fp
  have pe := he s3 (upd H2 D (.lst [])) s3.heap.objs.size (cellsFrom (s3.heap.objs.size + 1) scope.names (cloFrom X.env.cells scope.names [])) fp
  show codeAny _ _ (.compStart (.ListComp elt [⟨tg, iter, ifs, 0⟩] scope pos) 0 (.ref it) (.ref D) (compEnvC scope (cellsFrom (s3.heap.objs.size + 1) scope.names (cloFrom X.env.cells scope.names [])) s3.heap.objs.size X.env)) (cpX (model X.prog X.w) X.A X.xe use Qf (.ref D) (compEnvC scope (cellsFrom (s3.heap.objs.size + 1) scope.names (cloFrom X.env.cells scope.names [])) s3.heap.objs.size X.env)) { s3 with heap := pushCells (s3.heap.push { cls := .type "dict", data := .dict #[] }) scope.names }
  have nfp : ∀ b ∈ fp, (upd H2 D (.lst [])) b = none := fun b hb => (f3 b hb).1.1
  have cF : (compEnvC scope (cellsFrom (s3.heap.objs.size + 1) scope.names (cloFrom X.env.cells scope.names [])) s3.heap.objs.size X.env).frame = some L0 := hfe
  generalize hce : compEnvC scope (cellsFrom (s3.heap.objs.size + 1) scope.names (cloFrom X.env.cells scope.names [])) s3.heap.objs.size X.env = ce at I4 pg pt pe cF ⊢
  have cL : ce.locals = s3.heap.objs.size := by subst hce; rfl
  generalize hH3 : upd H2 D (.lst []) = H3 at I3 I4 pg pt pe w0 nfp f3
  generalize hs4 : ({ s3 with heap := pushCells (s3.heap.push { cls := .type "dict", data := .dict #[] }) scope.names } : Shared) = s4 at I4 ⊢
  have st4 : tn 0 s4.heap := T.keep _ _ _ st3 fun b _ o e => by rw [← hs4]; exact pushCells_keeps _ _ _ _ (Heap.get?_push_of_some _ e)
  have stat : ∀ {σ' : L2.St} {H' : Hp} {s' : Shared}, Inv (X.blk s3 H3 scope ce fp) [] σ' H' s' → (∀ b ∈ fp, H' b = none) → ∀ b ∈ fp, FpOk (X.blk s3 H3 scope ce fp) [] H' b := fun {σ' H' s'} I' hn b hb =>
    ⟨hn b hb, (I'.ok.exf b hb).1, I'.ok.exfs b hb, .inl hb, fun x c e => (I'.ok.exf b hb).2 x c e, fun p hp => absurd (show p ∈ ([] : List (Addr × PySem.Obj)) ++ [] from hp) (by simp)⟩
  generalize hE' : (notedBy (model X.prog X.w) X.A ce fun e s' => cpX (model X.prog X.w) X.A X.xe use Qf (.ref D) ce (.error e) s') = E'
  have tkB := takes_blk (scope := scope) (use := use) (Qf := Qf) (acc := .ref D) hE'.symm tk hst hf0 hloc cF cL I3 f3
  have pgE := pg E'
  have ptE := pt E'
  have peE := pe E' _ tkB
  have loop : codeAny (model X.prog X.w) X.A (.compLoop (.ListComp elt [⟨tg, iter, ifs, 0⟩] scope pos) 0 (.ref it) (.ref D) ce) (cpX (model X.prog X.w) X.A X.xe use Qf (.ref D) ce) s4 := by
    refine compLoop_any (fun n s' => ∃ i H', Inv (X.blk s3 H3 scope ce fp) [] (wipe σ (own.map (·.2))) H' s' ∧ tn i s'.heap ∧ (∀ b ∈ fp, H' b = none) ∧ Wt i n H') ?_ m0 ⟨0, H3, I4, st4, nfp, w0⟩
    rw [hE']
    rintro n s5 ⟨i, H5, I5, st5, n5, w5⟩
    rcases turn i n H5 w5 with ⟨stop, qq⟩ | ⟨go, Nx, hNx, step⟩
    · have td := T.done (X.blk s3 H3 scope ce fp) rfl rfl rfl hc i [] s5 _ H5 (fun _ _ => False) I5 (stat I5 n5) st5 stop
      refine thnF td fun r s6 ⟨hr, I6⟩ => ?_
      subst hr
      -- back in the def's context
      have I7 : Inv X pins σ H5 s6 := I3.call' (ch := fp) I6.os I6.base I6.hok I6.bare fun b hb => ⟨(f3 b hb).1.2.2.2.1, (f3 b hb).1.2.1, (f3 b hb).1.2.2.2.2.1, (f3 b hb).1.2.2.2.2.2⟩
      have nC : H5 s3.heap.objs.size = none := by
        have z : H5 ce.locals = none := I6.free
        rw [cL] at z
        exact z
      obtain ⟨m, hn, _⟩ := I6.loc
      have hn : s6.heap.Ns ce.locals m := hn
      exact hRR D ce s6 m H5 I7 qq hn (by rw [cL]; exact I3.fpOk (Nat.le_refl _) nC)
    · have ti := T.item (X.blk s3 H3 scope ce fp) rfl rfl rfl hc i [] s5 _ H5 (fun _ _ => False) I5 (stat I5 n5) st5 go
      refine thnF ti fun r s6 ⟨u, hr, h6⟩ => ?_
      subst hr
      refine thnF h6 fun _ s7 ⟨x, H7, I7, r7, y7, st7, n7⟩ => ?_
      have I7' := I7.pinned (stat I7 n7) (T.obj _ _ st7)
      refine thn (pgE.run _ s7 _ H7 x u _ (I7'.wish E') r7 (step x H7 y7)) fun _ s8 ⟨σ8, H8, I8, hw8, q8⟩ => ?_
      refine thn (ptE.run _ s8 σ8 H8 _ I8 q8) fun b s9 ⟨H9, I9, q9⟩ => ?_
      -- the turn's end
      have fin : ∀ {s' : Shared} {H' : Hp}, Inv (X.blk s3 H3 scope ce fp) ([] ++ pinsAt fp s7.heap) σ8 H' s' → Nx H' → ∃ m, m < n ∧ ∃ i H', Inv (X.blk s3 H3 scope ce fp) [] (wipe σ (own.map (·.2))) H' s' ∧ tn i s'.heap ∧ (∀ b ∈ fp, H' b = none) ∧ Wt i m H' := fun {s' H'} I' nx => by
        obtain ⟨m', hm, w'⟩ := hNx H' nx
        have pin' : ∀ b ∈ fp, ∀ o, s7.heap.get? b = some o → s'.heap.get? b = some o ∧ H' b = none := fun b hb o e =>
          let z := I'.pin (b, o) (List.mem_append_right _ (List.mem_append_right _ (mem_pinsAt hb e)))
          ⟨z.1, z.2.1⟩
        have hl : (wipe σ (own.map (·.2))).length = σ8.length := by rw [← hw8, wipe_length]
        refine ⟨m', hm, i + 1, H', (I'.unpinned (pins := [])).weak hl (fun j v e => ?_), T.keep _ _ _ st7 fun b hb o e => (pin' b hb o e).1, fun b hb => ?_, w'⟩
        · rw [← hw8] at e
          exact (wipe_some e).1
        · obtain ⟨o, e, _⟩ := T.obj _ _ st7 b hb
          exact (pin' b hb o e).2
      cases b with
      | false =>
        simp only [Bool.false_eq_true, if_false] at q9 ⊢
        exact fin I9.unwish q9
      | true =>
        simp only [if_true] at q9 ⊢
        refine thn (peE.run _ s9 σ8 H9 _ I9 q9) fun z s10 ⟨yv, H10, I10, r10, acc, hD10, hz10, nx⟩ => ?_
        exact app_ok (X := X.blk s3 H3 scope ce fp) I10.unwish hD10 hz10 r10 fun s11 I11 => fin I11 nx
  exact codeAny_compStart_list loop (T.self X.A 0 _ _ _ st4 loop)
theorem pe_lcX {elt tg iter : PySem.Expr} {ifs : List PySem.Expr} {scope : Scope} {own : List (Str × Nat)} {pos : Pos} {wi : TI} {g : TG} {tt : TT} {te : WX → TE} {W : WX} {e0 : Env} {o0 : List Env} {L0 : Addr}
    (tk : L2N.Takes X W) (hst : X.stack = e0 :: o0) (hf0 : e0.frame = some L0) (hloc : X.env.locals = L0) (hfe : X.env.frame = some L0)
    (hc : X.calm = true) (hN : X.N.Nodup) (hi : PI X tg iter wi) (ok : BlkOk X.N X.env.scope scope own)
    (hg : ∀ (s : Shared) (H : Hp) (C : Addr) (cl : List (Str × Addr)) (fp : List Addr) (E' : Value → Shared → Prop), PG ((X.blk s H scope (compEnvC scope cl C X.env) fp).wish E') tg g) (ht : ∀ (s : Shared) (H : Hp) (C : Addr) (cl : List (Str × Addr)) (fp : List Addr) (E' : Value → Shared → Prop), PTs ((X.blk s H scope (compEnvC scope cl C X.env) fp).wish E') ifs tt)
    (he : ∀ (s : Shared) (H : Hp) (C : Addr) (cl : List (Str × Addr)) (fp : List Addr) (E' : Value → Shared → Prop) (wx : WX), L2N.Takes ((X.blk s H scope (compEnvC scope cl C X.env) fp).wish E') wx → PE ((X.blk s H scope (compEnvC scope cl C X.env) fp).wish E') elt (te wx)) (hs : ∀ x, foldedSetIterable iter X.env x = pure x := by intro _; rfl) :
    PE X (.ListComp elt [⟨tg, iter, ifs, 0⟩] scope pos) (tLcX wi g tt te (own.map (·.2)) W) := by
  refine ⟨fun pins s σ H Q I h => ?_⟩
  rw [eval_ListComp]
  refine lcX_core tk hst hf0 hloc hfe hc hN I hi ok hg ht he hs h fun D ce s' m H' I' q hn f => ⟨m, hn, fun h'' sb => ?_⟩
  obtain ⟨f0, f1, f2, f3, f4, f5⟩ := f
  exact ⟨.ref D, H', I'.turned (t' := s'.toks) (fun b o hb e => (sb.2 b hb).trans e) f0 f1 f3 f4 f5, rfl, q⟩
end
end BLN
namespace BLN
open PySem PySem.Spec PyProof.Rows L2 BL
section
variable {X : Cx}
theorem ps_setLcX {i : Nat} {y : Str} {py : Pos} {elt tg iter : PySem.Expr} {ifs : List PySem.Expr} {scope : Scope} {own : List (Str × Nat)} {pos spos : Pos} {wi : TI} {g : TG} {tt : TT} {te : WX → TE} {W : WX} {e0 : Env} {o0 : List Env} {L0 : Addr}
    (tk : L2N.Takes X W) (hst : X.stack = e0 :: o0) (hf0 : e0.frame = some L0) (hloc : X.env.locals = L0) (hfe : X.env.frame = some L0)
    (hc : X.calm = true) (hN : X.N.Nodup) (hy : X.N[i]? = some y) (hyl : X.env.scope.names.lookup y = some .local)
    (hsw : swapsWith (.ListComp elt [⟨tg, iter, ifs, 0⟩] scope pos) (some (.Name y py)) spos.line X.env = pure true) (hi : PI X tg iter wi) (ok : BlkOk X.N X.env.scope scope own)
    (hg : ∀ (s : Shared) (H : Hp) (C : Addr) (cl : List (Str × Addr)) (fp : List Addr) (E' : Value → Shared → Prop), PG ((X.blk s H scope (compEnvC scope cl C X.env) fp).wish E') tg g) (ht : ∀ (s : Shared) (H : Hp) (C : Addr) (cl : List (Str × Addr)) (fp : List Addr) (E' : Value → Shared → Prop), PTs ((X.blk s H scope (compEnvC scope cl C X.env) fp).wish E') ifs tt)
    (he : ∀ (s : Shared) (H : Hp) (C : Addr) (cl : List (Str × Addr)) (fp : List Addr) (E' : Value → Shared → Prop) (wx : WX), L2N.Takes ((X.blk s H scope (compEnvC scope cl C X.env) fp).wish E') wx → PE ((X.blk s H scope (compEnvC scope cl C X.env) fp).wish E') elt (te wx)) (hs : ∀ x, foldedSetIterable iter X.env x = pure x := by intro _; rfl) :
    PS X (.Assign [.Name y py] (.ListComp elt [⟨tg, iter, ifs, 0⟩] scope pos) spos) (tAsg (tLcX wi g tt te (own.map (·.2)) W) (gName i)) := by
  refine ⟨fun pins s σ H D I h => ?_⟩
  rw [exec_Assign_Name_used _ _ _ _ hsw]
  refine wpAny_bind (wpAny_standAt (wpAny_bind ?_))
  show wpAny _ X.A (do let _ ← comprehension (.ListComp elt [⟨tg, iter, ifs, 0⟩] scope pos) scope X.env (firstIterPos [⟨tg, iter, ifs, 0⟩] pos) (newList []) false (eval iter X.env) (some (assign (.Name y py) X.env))) _ _ s
  have h : tLcX wi g tt te (own.map (·.2)) W σ H (fun x H1 => gName i x σ H1 D.nx) := h
  refine wpAny_bind (thn (lcX_core (Qf := fun _ s' => SP X pins D .next s') tk hst hf0 hloc hfe hc hN I hi ok hg ht he hs h fun L ce s' m H' I' q hn f => ?_) fun _ s' hq => wpAny_pure (wpAny_pure hq))
  show wpAny _ _ (assign (.Name y py) X.env (.ref L)) _ _ _
  refine wpAny_assign_Name (store_ok2 (v := V.ref L) I' hN hy (.inl hyl) rfl (fun s2 I2 ⟨a, sb, ha⟩ => ?_) (.inr hyl))
  obtain ⟨f0, f1, f2, f3, f4, f5⟩ := f
  have haC : ce.locals ≠ a := by
    rcases ha with z | z
    · rw [z]; exact f1
    · exact fun e => f4 y a z e.symm
  refine ⟨m, hn.sameBut sb haC, fun h3 sb3 => ?_⟩
  exact ⟨_, H', I2.turned (t' := s2.toks) (fun b o hb e => (sb3.2 b hb).trans e) f0 f1 f3 f4 f5, q⟩
end
end BLN

/-! errors whose context is None; an except suite that raises another error -/
namespace B
open PySem L2
section
variable {X : Cx} {C fI : Addr}
theorem pmk_errN {x : Str} {e : PySem.Expr} {ta : TA} {p pos : Pos} {k : Nat} (T : BX.ErrFn1 X.prog X.K C fI) (hm : X.mg x = some (.ref C)) (hr : L2H.RoomH k X.A) (ha : PA X [e] ta) (hg : Gl X x := by rfl) (hdb : (x == ("__debug__" : Str)) = false := by decide)
    (he : starEach (e :: []) X.env = (false, eval e X.env) :: starEach [] X.env := by rfl) (hpl : (backTo pos (starEach [] X.env)).any (·.1) = false := by rfl) :
    L2N.PMk X (.Call (.Name x p) [e] [] pos) (tMkE C ta) := by
  intro pins s σ H Q I h
  obtain ⟨qual, p1, p2, a0, a1, a2, a3, a4, m0, m1, m2, m3, q1, q2, q3, q4, ⟨iC, tI, _⟩, _⟩ := T.fn
  refine wpAny_Call_Name_kw (ld_glob I hg hm ?_ hdb)
  refine PySem.W.callWith_K (h₀ := X.base) I.ok.mod.kin T.toCls.kC (thn (ha.run pos pins s σ H _ I h) fun us s1 hh => ?_) he hpl
  obtain ⟨vs, H1, I1, r1, y, ev, hz, q1⟩ := hh
  subst ev
  refine ⟨I1.kIn, ?_⟩
  cases r1 with
  | cons rv rn =>
    rename_i v' us'
    cases rn
    obtain ⟨tv, rfl⟩ := rv
    have hlim := I1.nolimit
    obtain ⟨mb, hb1, hb2⟩ := I1.mod.blt
    have G := I1.mod.glob.keeps I1.bk
    have hbb := hb1.keeps I1.bk
    obtain ⟨hp, g, dr, tk, os⟩ := s1
    show wpAny _ _ (call (.ref C) [.str y tv]) _ _ _
    refine wpAny_call (BX.made_code (mg := X.mg) (mb := mb) T I1.kIn hlim G hbb ((hb2 _ (by decide)).trans bt_super) hz iC tI (by have := hr.dp; omega) fun h' tk' e d kp be ⟨t1, hoe⟩ bd dne hns => ?_)
    show L2N.MkP X pins σ Q (.ref e) ⟨h', g, dr, tk', os⟩
    obtain ⟨G', g1, g2⟩ := restrict h' fun b => decide (b ≠ e)
    have gk : ∀ b, b ≠ e → G'.get? b = h'.get? b := fun b hb => g1 b (decide_eq_true hb)
    have ge : G'.get? e = none := g2 e (by simp)
    have od : ∀ b o, hp.get? b = some o → G'.get? b = some o := fun b o q => (gk b (Nat.ne_of_lt (Nat.lt_of_lt_of_le (Heap.lt_size q) be))).trans (kp b o q)
    have ob : ObjOk X.prog X.w (upd H1 d (.xd [(("code" : Str), .str y)])) G' d (.xd [(("code" : Str), .str y)]) := ⟨_, hns.at (fun o q => (gk d dne).trans q), fun f => relO_code (v := .str y) (v' := .str y tv) ⟨tv, rfl⟩ f⟩
    have J : Inv X pins σ (upd H1 d (.xd [(("code" : Str), .str y)])) ⟨G', g, dr, tk', os⟩ := I1.laid (t' := tk') od bd ob
    refine ⟨e, _, _, ⟨G', g, dr, tk', os⟩, _, .ref C, some d, rfl, J, fun b o q => ?_, ge, hoe, ⟨rfl, rfl, fun vs z => by cases z; rfl⟩, rfl, rfl, ?_, rfl, I1.bare, raises_own T.toCls.exC T.toCls.tyC, q1 d (I1.hok.fresh bd)⟩
    · by_cases hb : b = e
      · have q' : G'.get? b = some o := q
        rw [hb, ge] at q'; cases q'
      · exact (gk b hb).symm.trans q
    · rw [upd_ne (Ne.symm dne)]
      exact I1.hok.fresh be
end
open PySem.Spec PyProof.Rows in
theorem okXN {P : Program} {w : World} {K : PySem.W.Frag} {mg : Str → Option Value} {base : Heap} {x qual : Str} {st : Stmt} {f : Addr} {fd : FuncData} {N ps : List Str} {k : Nat} {sp : Sp} (F : Fun K x qual st f fd) (S : FnScope N ps (defScope st)) (len : ∀ vs H Q E, sp vs H Q E → vs.length = ps.length)
    (hbody : ∀ (cdv : Value) (A : Around) (outer : List Env) (s : Shared) (H : Hp) (vs : List V) (Q : VK) (E : XK), Room k (A.deeper (envOfC qual (defScope st) s.heap.objs.size f cdv)) → sp vs H Q E →
      ∃ t, PSs (cxOf (L2N.CX P w) P w K mg base N qual (defScope st) f cdv A outer s H E) (defBody st) t ∧ t { nx := fun _ H' => Q .non H', rt := Q } (L2.start N vs) H) : FnOk P w K mg base (L2N.CX P w) (k + 1) f fd ps sp := by
  obtain ⟨oc, od, kV, doc, pm, an, cdv, ct, osl, rfl, lk, hcd⟩ := F.ex
  exact fn_of lk hcd S len fun A outer s H vs Q E hr hsp => hbody cdv A outer s H vs Q E hr hsp
theorem roomH_mark {k : Nat} {A : PySem.Around} {h : Option Value} (r : Room k A) : L2H.RoomH k (A.mark h) := ⟨r.dp, r.un⟩
section
variable {K : PySem.W.Frag} {W : Type} {R : Rs W} {C : Cl} {κ κ2 κb κc κn : List Kd} {rk : Kd}
/-- try: body; except X: raise Y(e), e told by the slots as they were at the entry -/
def mTryR (catch_ : String → Bool) (c2 : String) (mb : MS W) (mh : ME W) : MS W := fun ρ w => match mb ρ w with
  | .exc nm fs w' => if catch_ nm then mRaise c2 mh ρ w' else .exc nm fs w'
  | r => r
/-- .. e a written word; the body may bind names -/
def mTryR0 (catch_ : String → Bool) (c2 : String) (code : Str) (mb : MS W) : MS W := fun ρ w => match mb ρ w with
  | .exc nm fs w' => if catch_ nm then .exc c2 [("code", .str code)] w' else .exc nm fs w'
  | r => r
theorem raise_noOk {c : String} {m : ME W} {ρ : Rho} {w w' : W} {o : O} (h : mRaise c m ρ w = .ok o w') : False := by
  unfold mRaise at h
  cases e : m ρ w with
  | stuck => rw [bnd_stuck e] at h; cases h
  | exc c fs w1 => rw [bnd_exc e] at h; cases h
  | ok d w1 =>
    rw [bnd_ok e] at h
    unfold rzD at h
    split at h
    · split at h <;> cases h
    · cases h
/-- what is wished of an error that the clause doesn't name -/
def PassW (K : PySem.W.Frag) (c : Value) (wx wx' : WX) : Prop := ∀ cls d σ H, PySem.W.exmOne K cls c = some false → wx' cls d σ H → wx cls d σ H
theorem passW_only {c : Value} {ts : Addr → Value → Option Addr → TS} {wx : WX} {E : Ends} : PassW K c wx (wOnly K c ts wx E) := fun cls d σ H h ⟨b, h1, _, h3⟩ => by
  rw [h] at h1
  cases h1
  exact h3 rfl
theorem okTryR {tb : WX → TS} {mb : MS W} {c : Value} {te : TE} {mh : ME W} {catch_ : String → Bool} {c2 : String} {aY : Addr} {cn : String → Value → Prop} {wx : WX}
    (hb : ∀ wx', PassW K c wx wx' → OkSx K R ⟨wx', cn⟩ κb κc rk κ (tb wx') mb κn) (hcat : ∀ nm cls, cn nm cls → PySem.W.exmOne K cls c = some (catch_ nm))
    (hh : OkE K R ⟨wx, cn⟩ κ te .dat mh) (hc2 : cn c2 (.ref aY)) :
    OkS K R ⟨wx, cn⟩ κb κc rk κ (fun D σ H => tb (wOnly K c (fun _ _ _ => tRz aY wx te) wx D) D σ H) (mTryR catch_ c2 mb mh) κn := by
  intro S0 H0 w0 S H σ ρ w E rl q
  refine hb _ passW_only S0 H0 w0 S H σ ρ w E rl ?_
  unfold mTryR at q
  cases e : mb ρ w with
  | stuck => rw [e] at q; exact q
  | ok o w1 => rw [e] at q; cases o <;> exact q
  | exc nm fs w1 =>
    rw [e] at q
    intro cls dd S' H' r1 hc hx
    refine ⟨catch_ nm, hcat nm cls hc, fun hy a ha => ?_, fun hno => ?_⟩
    · simp only [if_pos hy] at q
      refine okRaise (C := ⟨wx, cn⟩) (κn := κn) (κb := κb) (κc := κc) (rk := rk) hh hc2 S0 H0 w0 S' H' σ ρ w1 E r1 ?_
      cases e2 : mRaise c2 mh ρ w1 with
      | stuck => rw [e2] at q; exact q
      | exc c3 f3 w3 => rw [e2] at q; exact q
      | ok o w3 => exact (raise_noOk e2).elim
    · simp only [if_neg (show ¬ catch_ nm = true by rw [hno]; exact Bool.false_ne_true)] at q
      exact q cls dd σ S' H' r1.out hc hx
theorem okTryR0 {tb : WX → TS} {mb : MS W} {c : Value} {code : Str} {catch_ : String → Bool} {c2 : String} {aY : Addr} {cn : String → Value → Prop} {wx : WX}
    (hb : ∀ wx', PassW K c wx wx' → OkS K R ⟨wx', cn⟩ κb κc rk κ (tb wx') mb κn) (hcat : ∀ nm cls, cn nm cls → PySem.W.exmOne K cls c = some (catch_ nm))
    (hc2 : cn c2 (.ref aY)) (hl : code.length ≤ 1000) :
    OkS K R ⟨wx, cn⟩ κb κc rk κ (fun D σ H => tb (wOnly K c (fun _ _ _ => tRz aY wx (tC (.str code))) wx D) D σ H) (mTryR0 catch_ c2 code mb) κn := by
  intro S0 H0 w0 S H σ ρ w E rl q
  refine hb _ passW_only S0 H0 w0 S H σ ρ w E rl ?_
  unfold mTryR0 at q
  cases e : mb ρ w with
  | stuck => rw [e] at q; exact q
  | ok o w1 => rw [e] at q; cases o <;> exact q
  | exc nm fs w1 =>
    rw [e] at q
    intro cls dd σ' S' H' o1 hc hx
    refine ⟨catch_ nm, hcat nm cls hc, fun hy a ha => ?_, fun hno => ?_⟩
    · simp only [if_pos hy] at q
      refine ⟨code, rfl, hl, fun d hd => ?_⟩
      exact q (.ref aY) d σ' S' (upd H' d (.xd [(("code" : Str), .str code)])) (o1.allocOwn hd) hc2 ⟨_, upd_same, o1.s_none hd, o1.nofp hd, rfl, rfl, trivial⟩
    · simp only [if_neg (show ¬ catch_ nm = true by rw [hno]; exact Bool.false_ne_true)] at q
      exact q cls dd σ' S' H' o1 hc hx
/-- a call within such a body whose errors may have a context: the clause doesn't name them -/
def mCallP (catch_ : String → Bool) (F : List D → M W D) (m : Rho → M W (List D)) : ME W := fun ρ => bnd (m ρ) fun ds w => match F ds w with
  | .exc nm fs w' => if catch_ nm then .stuck else .exc nm fs w'
  | r => r
end
theorem gCallP {K : PySem.W.Frag} {κ : List Kd} {cn : String → Value → Prop} {c : Value} {wx wx' : WX} {catch_ : String → Bool} {dp sp : Addr} {ta : TA} {ks : List Kd} {m : Rho → M Dr (List D)} {rk : Kd} {F : List D → M Dr D}
    (hw : PassW K c wx wx') (hcat : ∀ nm cls, cn nm cls → PySem.W.exmOne K cls c = some (catch_ nm)) (h : OkA K (drR dp sp) ⟨wx', cn⟩ κ ta ks m) (hk : ∀ k ∈ ks, k ≠ .own := by decide) :
    OkE K (drR dp sp) ⟨wx', cn⟩ κ (tCallS (spD K cn true ks rk F) (WE (L2H.wPass K c wx)) ta) rk (mCallP catch_ F m) := by
  intro S0 H0 w0 S H σ ρ w Q rl q
  refine h S0 H0 w0 S H σ ρ w _ rl ?_
  unfold mCallP at q
  cases e : m ρ w with
  | stuck => simp only [bnd_stuck e] at q; exact q.elim
  | exc c fs w1 => simp only [bnd_exc e] at q; exact q
  | ok ds w1 =>
    simp only [bnd_ok e] at q
    intro vs S1 H1 r1 s1 o1
    refine ⟨dp, sp, S1, w1, ds, r1.out.in_, resAll_arg r1 hk o1, ?_⟩
    cases e2 : F ds w1 with
    | stuck => rw [e2] at q; exact q.elim
    | exc nm fs w2 =>
      simp only [e2] at q
      by_cases hy : catch_ nm = true
      · rw [if_pos hy] at q; exact q.elim
      · rw [if_neg hy] at q
        refine ⟨rfl, fun cls dd S2 H2 u2 hc hx => ?_⟩
        have h1 : PySem.W.exmOne K cls c = some false := by
          rw [hcat nm cls hc, Bool.eq_false_iff.mpr hy]
        exact ⟨h1, hw cls _ _ _ h1 (q cls dd S2 H2 (r1.after u2) hc hx)⟩
    | ok d w2 =>
      rw [e2] at q
      exact fun v S2 H2 u2 o2 => q v S2 H2 (r1.after u2) (fun a o z => u2.sub0 a o (s1 a o z)) (o2.res r1 u2)
theorem xBody {K : PySem.W.Frag} {W : Type} {R : Rs W} {C : Cl} {κ κn κb κc : List Kd} {rk : Kd} {t u : TS} {m : MS W} (h : OkS K R C κb κc rk κ t m κn) (e : t = u) : OkS K R C κb κc rk κ u m κn := e ▸ h
end B

/-! d[k], k in d of a dict that stands; dicts displayed -/
namespace B
open PySem L2
section
variable {K : PySem.W.Frag} {W : Type} {R : Rs W} {C : Cl} {κ κb κc : List Kd} {rk : Kd} {S H : Hp}
def ixO (ps : List (D × D)) (k : D) : Option D := (keyO k).bind fun k => getD' ps k
def mDIx (mo mk : ME W) : ME W := fun ρ => bnd (mo ρ) fun d => bnd (theDc d) fun ps => bnd (mk ρ) fun k => lift (ixO ps k)
theorem okDIx {to tk : TE} {mo mk : ME W} (ho : OkE K R C κ to .dat mo) (hk : OkE K R C κ tk .dat mk) : OkE K R C κ (tDGet to tk) .dat (mDIx mo mk) := by
  intro S0 H0 w0 S H σ ρ w Q rl q
  refine ho S0 H0 w0 S H σ ρ w _ rl ?_
  unfold mDIx at q
  cases e : mo ρ w with
  | stuck => rw [bnd_stuck e] at q; exact q.elim
  | exc c fs w1 => rw [bnd_exc e] at q; exact q
  | ok d w1 =>
    rw [bnd_ok e] at q
    intro v S1 H1 r1 s1 o1
    obtain ⟨ps, rfl⟩ : ∃ ps, d = .dict ps := by cases d <;> first | exact ⟨_, rfl⟩ | exact q.elim
    have q : PostE K R C κ S0 H0 w0 S σ ρ .dat Q (bnd (mk ρ) (fun k => lift (ixO ps k)) w1) := q
    obtain ⟨p, kvs, rfl, hp, hd⟩ : ∃ p kvs, v = .ref p ∧ S1 p = some (.dK kvs) ∧ DVd K S1 kvs ps := by
      have o1' : DV K S1 v (.dict ps) := o1
      cases o1' with
      | dct h1 h2 => exact ⟨_, _, rfl, h1, h2⟩
    refine hk S0 H0 w0 S1 H1 σ ρ w1 _ r1 ?_
    cases e2 : mk ρ w1 with
    | stuck => rw [bnd_stuck e2] at q; exact q.elim
    | exc c fs w2 => rw [bnd_exc e2] at q; exact q
    | ok k w2 =>
      rw [bnd_ok e2] at q
      intro vk S2 H2 r2 s2 o2
      unfold ixO at q
      cases eo : keyO k with
      | none => rw [eo, Option.bind_none, lift_none] at q; exact q.elim
      | some kk =>
        rw [eo, Option.bind_some] at q
        cases eg : getD' ps kk with
        | none => rw [eg, lift_none] at q; exact q.elim
        | some dd =>
          rw [eg, lift_some] at q
          obtain ⟨rfl, rfl⟩ := keyO_dv o2 eo
          have hp3 : H2 p = some (.dK kvs) := r2.out.sub _ _ (s2 _ _ hp)
          obtain ⟨u, h1, h2⟩ := (dvd_get (k := kk) (dpD_mono s2 _ _ hd)).1 dd eg
          exact ⟨p, u, rfl, h1 ▸ DGet.k hp3, q _ S2 H2 r2 (fun a o z => s2 a o (s1 a o z)) h2⟩
/-- k in d, k not in d -/
def inO (neg : Bool) (ps : List (D × D)) (k : D) : Option D := (keyO k).map fun k => .bool (if neg then !(getD' ps k).isSome else (getD' ps k).isSome)
def mDIn (neg : Bool) (mk mo : ME W) : ME W := fun ρ => bnd (mk ρ) fun k => bnd (mo ρ) fun d => bnd (theDc d) fun ps => lift (inO neg ps k)
theorem din_core {to tk : TE} {mo mk : ME W} {neg : Bool} {S0 H0 : Hp} {w0 : W} {σ : L2.St} {ρ : Rho} {w : W} {Q : VK} (hk : OkE K R C κ tk .dat mk) (ho : OkE K R C κ to .dat mo) (rl : Rel K R κ S0 H0 w0 S H σ ρ w)
    (q : PostE K R C κ S0 H0 w0 S σ ρ .dat Q (mDIn neg mk mo ρ w)) : tk σ H fun y H1 => to σ H1 fun x H2 => ∃ a o, x = .ref a ∧ DGet H2 a y o ∧ Q (.bl (if neg then !o.isSome else o.isSome)) H2 := by
  refine hk S0 H0 w0 S H σ ρ w _ rl ?_
  unfold mDIn at q
  cases e : mk ρ w with
  | stuck => rw [bnd_stuck e] at q; exact q.elim
  | exc c fs w1 => rw [bnd_exc e] at q; exact q
  | ok k w1 =>
    rw [bnd_ok e] at q
    intro vk S1 H1 r1 s1 o1
    refine ho S0 H0 w0 S1 H1 σ ρ w1 _ r1 ?_
    cases e2 : mo ρ w1 with
    | stuck => rw [bnd_stuck e2] at q; exact q.elim
    | exc c fs w2 => rw [bnd_exc e2] at q; exact q
    | ok d w2 =>
      rw [bnd_ok e2] at q
      intro v S2 H2 r2 s2 o2
      obtain ⟨ps, rfl⟩ : ∃ ps, d = .dict ps := by cases d <;> first | exact ⟨_, rfl⟩ | exact q.elim
      have q1 : PostE K R C κ S0 H0 w0 S σ ρ .dat Q (lift (inO neg ps k) w2) := q
      clear q
      obtain ⟨p, kvs, rfl, hp, hd⟩ : ∃ p kvs, v = .ref p ∧ S2 p = some (.dK kvs) ∧ DVd K S2 kvs ps := by
        have o2' : DV K S2 v (.dict ps) := o2
        cases o2' with
        | dct h1 h2 => exact ⟨_, _, rfl, h1, h2⟩
      unfold inO at q1
      cases eo : keyO k with
      | none => rw [eo, Option.map_none, lift_none] at q1; exact q1.elim
      | some kk =>
        rw [eo, Option.map_some, lift_some] at q1
        obtain ⟨rfl, rfl⟩ := keyO_dv (dp_mono s2 _ _ o1) eo
        obtain ⟨g1, g2⟩ := dvd_get (k := kk) hd
        have es : (valV kvs kk).isSome = (getD' ps kk).isSome := by
          cases eg : getD' ps kk with
          | none => rw [g2 eg]; rfl
          | some dd =>
            obtain ⟨u, h1, _⟩ := g1 dd eg
            rw [h1]; rfl
        refine ⟨p, valV kvs kk, rfl, DGet.k (r2.out.sub _ _ hp), ?_⟩
        rw [es]
        exact q1 (.bl _) S2 H2 r2 (fun a o z => s2 a o (s1 a o z)) (.bl _)
theorem okDIn {to tk : TE} {mo mk : ME W} (hk : OkE K R C κ tk .dat mk) (ho : OkE K R C κ to .dat mo) : OkE K R C κ (tDIn tk to) .dat (mDIn false mk mo) := by
  intro S0 H0 w0 S H σ ρ w Q rl q
  exact din_core hk ho rl q
theorem okDNotIn {to tk : TE} {mo mk : ME W} (hk : OkE K R C κ tk .dat mk) (ho : OkE K R C κ to .dat mo) : OkE K R C κ (tDNotIn tk to) .dat (mDIn true mk mo) := by
  intro S0 H0 w0 S H σ ρ w Q rl q
  exact din_core hk ho rl q
/-! ### a dict displayed -/
def mPs : List (ME W × ME W) → Rho → M W (List (D × D))
  | [], _ => ret []
  | p :: r, ρ => bnd (p.1 ρ) fun k => bnd (p.2 ρ) fun x => bnd (mPs r ρ) fun ps => ret ((k, x) :: ps)
inductive OkPs (K : PySem.W.Frag) (R : Rs W) (C : Cl) (κ : List Kd) : List (TE × TE) → List (ME W × ME W) → Prop
  | nil : OkPs K R C κ [] []
  | cons {tk te : TE} {mk me : ME W} {ts : List (TE × TE)} {ms : List (ME W × ME W)} : OkE K R C.no κ tk .dat mk → OkE K R C.no κ te .dat me → OkPs K R C κ ts ms → OkPs K R C κ ((tk, te) :: ts) ((mk, me) :: ms)
inductive DPs (K : PySem.W.Frag) (S : Hp) : List (V × V) → List (D × D) → Prop
  | nil : DPs K S [] []
  | cons {k v : V} {a b : D} {vs : List (V × V)} {ds : List (D × D)} : DV K S k a → DV K S v b → DPs K S vs ds → DPs K S ((k, v) :: vs) ((a, b) :: ds)
theorem dps_mono {S S' : Hp} (e : ∀ a o, S a = some o → S' a = some o) {vs : List (V × V)} {ds : List (D × D)} (h : DPs K S vs ds) : DPs K S' vs ds := by
  induction h with
  | nil => exact .nil
  | cons h1 h2 _ ih => exact .cons (dp_mono e _ _ h1) (dp_mono e _ _ h2) ih
theorem ps_core {ts : List (TE × TE)} {ms : List (ME W × ME W)} (h : OkPs K R C κ ts ms) : ∀ {S0 H0 : Hp} {w0 : W} {S H : Hp} {σ : L2.St} {ρ : Rho} {w : W} {Q : List (V × V) → Hp → Prop}, Rel K R κ S0 H0 w0 S H σ ρ w →
    (match mPs ms ρ w with
      | .ok ds w' => ∀ vs S' H', Rel K R κ S0 H0 w0 S' H' σ ρ w' → (∀ a o, S a = some o → S' a = some o) → DPs K S' vs ds → Q vs H'
      | _ => False) → tPairs ts σ H Q := by
  induction h with
  | nil =>
    intro S0 H0 w0 S H σ ρ w Q rl q
    exact q [] S H rl (fun _ _ h => h) .nil
  | @cons tk te mk me ts ms h1 h2 _ ih =>
    intro S0 H0 w0 S H σ ρ w Q rl q
    refine h1 S0 H0 w0 S H σ ρ w _ rl ?_
    unfold mPs at q
    cases e1 : mk ρ w with
    | stuck => simp only [bnd_stuck e1] at q
    | exc c fs w1 => simp only [bnd_exc e1] at q
    | ok k w1 =>
      simp only [bnd_ok e1] at q
      intro vk S1 H1 r1 s1 o1
      refine h2 S0 H0 w0 S1 H1 σ ρ w1 _ r1 ?_
      cases e2 : me ρ w1 with
      | stuck => simp only [bnd_stuck e2] at q
      | exc c fs w2 => simp only [bnd_exc e2] at q
      | ok x w2 =>
        simp only [bnd_ok e2] at q
        intro vx S2 H2 r2 s2 o2
        refine ih r2 ?_
        cases e3 : mPs ms ρ w2 with
        | stuck => simp only [bnd_stuck e3] at q
        | exc c fs w3 => simp only [bnd_exc e3] at q
        | ok ps w3 =>
          simp only [bnd_ok e3] at q
          intro vs S3 H3 r3 s3 o3
          exact q _ S3 H3 r3 (fun a o z => s3 a o (s2 a o (s1 a o z))) (.cons (dp_mono (fun a o z => s3 a o (s2 a o z)) _ _ o1) (dp_mono s3 _ _ o2) o3)
def putAll : List (D × D) → List (D × D) → Option (List (D × D))
  | acc, [] => some acc
  | acc, p :: r => (keyO p.1).bind fun k => putAll (putD acc k p.2) r
theorem putAll_rel : ∀ {ds : List (D × D)} {vs : List (V × V)} {kvs : List (Key × V)} {ps qs : List (D × D)}, DPs K S vs ds → DVd K S kvs ps → putAll ps ds = some qs → ∃ more : List (Key × V), vs = more.map (fun kv => (kV kv.1, kv.2)) ∧ DVd K S (mergeK kvs more) qs
  | [], _, kvs, ps, qs, .nil, h, e => by
    cases e
    exact ⟨[], rfl, h⟩
  | (pa, pb) :: ds, _, kvs, ps, qs, .cons (k := k) (v := v) h1 h2 h3, h, e => by
    unfold putAll at e
    cases eo : keyO pa with
    | none => rw [eo] at e; cases e
    | some kk =>
      rw [eo, Option.bind_some] at e
      obtain ⟨rfl, rfl⟩ := keyO_dv h1 eo
      obtain ⟨more, rfl, g⟩ := putAll_rel h3 (dvd_put (k := kk) h2 h) e
      exact ⟨(kk, v) :: more, rfl, g⟩
def mDisp (ms : List (ME W × ME W)) : ME W := fun ρ => bnd (noX (mPs ms ρ)) fun ps => if ps.length ≤ 15 then bnd (lift (putAll [] ps)) fun qs => ret (.dict qs) else stk
theorem dps_len {vs : List (V × V)} {ds : List (D × D)} (h : DPs K S vs ds) : vs.length = ds.length := by
  induction h with
  | nil => rfl
  | cons _ _ _ ih => rw [List.length_cons, List.length_cons, ih]
theorem okDisp {ts : List (TE × TE)} {ms : List (ME W × ME W)} (h : OkPs K R C (blkK κ) ts ms) : OkE K R C κ (tDisp ts) .own (mDisp ms) := by
  intro S0 H0 w0 S H σ ρ w Q rl q p hp
  have r0 := rl.allocOwn (ho := .dK []) hp
  have hSp : S p = none := rl.out.s_none hp
  have h0p : H0 p = none := rl.out.h0_none hp
  have hfp : ¬ R.fp w p := rl.out.nofp hp
  have rr := r0.block []
  rw [wipe_nil', wipeR_nil'] at rr
  refine ps_core h rr ?_
  unfold mDisp at q
  cases e1 : mPs ms ρ w with
  | stuck => rw [bnd_stuck (x := noX (mPs ms ρ)) (by unfold noX; rw [e1])] at q; exact q.elim
  | exc c fs w1 => rw [bnd_stuck (x := noX (mPs ms ρ)) (by unfold noX; rw [e1])] at q; exact q.elim
  | ok ps w2 =>
    rw [bnd_ok (x := noX (mPs ms ρ)) (noX_ok e1)] at q
    intro vs S2 H2 r2 s2 o2
    have hD : upd H p (.dK []) p = some (.dK []) := upd_same
    have kp : H2 p = some (.dK []) ∧ S2 p = none ∧ ¬ R.fp w2 p := by
      refine ⟨r2.out.keep p _ hD hfp, ?_, fun hf => ?_⟩
      · cases z : S2 p with
        | none => rfl
        | some u =>
          have := r2.out.new p (by rw [z]; exact Option.some_ne_none _) hSp
          rw [this] at hD; cases hD
      · have := r2.out.resN p hf hfp
        rw [this] at hD; cases hD
    by_cases hl : ps.length ≤ 15
    · rw [if_pos hl] at q
      cases eo : putAll [] ps with
      | none => rw [eo, lift_none, bnd_stk] at q; exact q.elim
      | some qs =>
        rw [eo, lift_some, bnd_ret] at q
        obtain ⟨more, rfl, hrel⟩ := putAll_rel (kvs := []) o2 .nil eo
        refine ⟨kp.1, more, rfl, ?_, ?_⟩
        · have := dps_len o2
          rw [List.length_map] at this
          omega
        · have r3 := r0.after r2.out
          have q' : PostE K R C κ S0 H0 w0 S σ ρ .own Q (.ok (.dict qs) w2) := q
          refine q' (.ref p) S2 _ ?_ (fun a o z => s2 a o z) ⟨p, _, rfl, kp.2.1, h0p, kp.2.2, upd_same, hrel, fun j e' hj hk' hs => fresh_slot rl hp j e' hj hk' hs⟩
          obtain ⟨oa, r8⟩ := r3
          refine ⟨oa, r8.out.write kp.2.1 h0p kp.2.2, r8.len, fun j e hj => ?_, r8.inj⟩
          obtain ⟨u, g1, g2⟩ := r8.slot j e hj
          refine ⟨u, g1, slot_write (fun kj ej => ?_) g2⟩
          rw [kj] at g2
          obtain ⟨v2, _⟩ := g2
          exact fresh_slot rl hp j e hj kj (by rw [g1, v2, ej])
    · rw [if_neg hl] at q; exact q.elim
/-! ### a, b = x, y -/
def mPar (i j : Nat) (m : Rho → M W (List D)) : MS W := fun ρ => bnd (m ρ) fun ds => match ds with
  | [d, e] => ret (.nx ((ρ.set i (some d)).set j (some e)))
  | _ => stk
theorem okPar {i j : Nat} {ta : TA} {m : Rho → M W (List D)} (h : OkA K R C κ ta [.dat, .dat] m) (hi : i < κ.length := by decide) (hj : j < κ.length := by decide) : OkS K R C κb κc rk κ (tPar i j ta) (mPar i j m) ((κ.set i .dat).set j .dat) := by
  intro S0 H0 w0 S H σ ρ w E rl q
  refine h S0 H0 w0 S H σ ρ w _ rl ?_
  unfold mPar at q
  cases e : m ρ w with
  | stuck => rw [bnd_stuck e] at q; exact q.elim
  | exc c fs w1 => rw [bnd_exc e] at q; exact fun cls dd S' H' r' hc hx => q cls dd σ S' H' r'.out hc hx
  | ok ds w1 =>
    rw [bnd_ok e] at q
    intro vs S1 H1 r1 s1 o1
    cases o1 with
    | cons h1 t1 =>
      cases t1 with
      | cons h2 t2 =>
        cases t2
        exact ⟨_, _, rfl, q _ S1 H1 ((r1.setDat hi h1).setDat (by rw [List.length_set]; exact hj) h2) s1⟩
end
/-! ### what these words compute -/
section
variable {W α β : Type} {ρ : Rho} {a b c : ME W}
@[simp] theorem x_DIx : mDIx a b ρ = bnd (a ρ) fun d => bnd (theDc d) fun ps => bnd (b ρ) fun k => lift (ixO ps k) := (rfl)
@[simp] theorem x_DIn {neg : Bool} : mDIn neg a b ρ = bnd (a ρ) fun k => bnd (b ρ) fun d => bnd (theDc d) fun ps => lift (inO neg ps k) := (rfl)
@[simp] theorem x_Disp {ms : List (ME W × ME W)} : mDisp ms ρ = bnd (noX (mPs ms ρ)) fun ps => if ps.length ≤ 15 then bnd (lift (putAll [] ps)) fun qs => ret (.dict qs) else stk := (rfl)
@[simp] theorem x_PsNil : (mPs [] ρ : M W (List (D × D))) = ret [] := (rfl)
@[simp] theorem x_PsCons {ms : List (ME W × ME W)} : mPs ((a, b) :: ms) ρ = bnd (a ρ) fun k => bnd (b ρ) fun x => bnd (mPs ms ρ) fun ps => ret ((k, x) :: ps) := (rfl)
def parD (i j : Nat) (ρ : Rho) : List D → M W O
  | [d, e] => ret (.nx ((ρ.set i (some d)).set j (some e)))
  | _ => stk
@[simp] theorem x_parD (i j : Nat) (d e : D) : (parD i j ρ [d, e] : M W O) = ret (.nx ((ρ.set i (some d)).set j (some e))) := (rfl)
@[simp] theorem x_Par {i j : Nat} {m : Rho → M W (List D)} : mPar i j m ρ = bnd (m ρ) (parD i j ρ) := by
  unfold mPar
  congr 1
theorem x_TryR {ct : String → Bool} {c2 : String} {mb : MS W} {mh : ME W} {o : O} (h : mb ρ = ret o) : mTryR ct c2 mb mh ρ = ret o := by
  funext w
  unfold mTryR
  rw [h]
  rfl
theorem x_TryRX {ct : String → Bool} {c2 : String} {mb : MS W} {mh : ME W} {nm : String} {fs : List (Str × D)} {y : Str} (h : mb ρ = xcp nm fs) (hc : ct nm = true) (hh : mh ρ = ret (.str y)) (hy : y.length ≤ 1000) : mTryR ct c2 mb mh ρ = xcp c2 [("code", .str y)] := by
  funext w
  unfold mTryR
  rw [h]
  unfold xcp
  simp only [hc, if_true]
  unfold mRaise
  rw [hh, bnd_ret, rz_of hy]
  rfl
theorem x_TryRN {ct : String → Bool} {c2 : String} {mb : MS W} {mh : ME W} {nm : String} {fs : List (Str × D)} (h : mb ρ = xcp nm fs) (hc : ct nm = false) : mTryR ct c2 mb mh ρ = xcp nm fs := by
  funext w
  unfold mTryR
  rw [h]
  unfold xcp
  simp only [hc, Bool.false_eq_true, if_false]
theorem x_TryR0 {ct : String → Bool} {c2 : String} {code : Str} {mb : MS W} {o : O} (h : mb ρ = ret o) : mTryR0 ct c2 code mb ρ = ret o := by
  funext w
  unfold mTryR0
  rw [h]
  rfl
theorem x_TryR0X {ct : String → Bool} {c2 : String} {code : Str} {mb : MS W} {nm : String} {fs : List (Str × D)} (h : mb ρ = xcp nm fs) (hc : ct nm = true) : mTryR0 ct c2 code mb ρ = xcp c2 [("code", .str code)] := by
  funext w
  unfold mTryR0
  rw [h]
  unfold xcp
  simp only [hc, if_true]
theorem x_TryR0N {ct : String → Bool} {c2 : String} {code : Str} {mb : MS W} {nm : String} {fs : List (Str × D)} (h : mb ρ = xcp nm fs) (hc : ct nm = false) : mTryR0 ct c2 code mb ρ = xcp nm fs := by
  funext w
  unfold mTryR0
  rw [h]
  unfold xcp
  simp only [hc, Bool.false_eq_true, if_false]
def passP (ct : String → Bool) (F : List D → M W D) (ds : List D) : M W D := fun w => match F ds w with
  | .exc nm fs w' => if ct nm then .stuck else .exc nm fs w'
  | r => r
@[simp] theorem x_CallP {ct : String → Bool} {F : List D → M W D} {m : Rho → M W (List D)} : mCallP ct F m ρ = bnd (m ρ) (passP ct F) := (rfl)
theorem passP_ok {ct : String → Bool} {F : List D → M W D} {ds : List D} {d : D} (h : F ds = ret d) : passP ct F ds = ret d := by
  funext w
  unfold passP
  rw [h]
  rfl
theorem passP_x {ct : String → Bool} {F : List D → M W D} {ds : List D} {nm : String} {fs : List (Str × D)} (h : F ds = xcp nm fs) (hc : ct nm = false) : passP ct F ds = xcp nm fs := by
  funext w
  unfold passP
  rw [h]
  unfold xcp
  simp only [hc, Bool.false_eq_true, if_false]
end
end B

/-! except X as e: raise Y(..) -/
namespace L2H
open PySem PySem.Spec PyProof.Rows L2 HotX
/-- the context of an except suite that may raise, its wish named -/
abbrev suiteE (X : Cx) (a : Addr) (pn : List (Addr × Obj)) (xe : Value → Shared → Prop) : Cx := { X with A := X.A.mark (some (.ref a)), calm := false, pn := pn, xe := xe }
section
variable {X : Cx} {pins : List (Addr × Obj)} {σ : L2.St} {H : Hp} {s : Shared}
theorem suiteE_of {a : Addr} {pn pn' : List (Addr × Obj)} {xe : Value → Shared → Prop} (I : Inv (X.suite a pn) pn' σ H s) : Inv (suiteE X a pn xe) pn' σ H s := Inv.unwish (X := suiteE X a pn xe) (E := fun _ _ => False) I
theorem unsuiteE {a : Addr} {q : Addr × Obj} {pn' : List (Addr × Obj)} {xe : Value → Shared → Prop} (I : Inv (suiteE X a (q :: (X.pn ++ pins)) xe) pn' σ H s) (ok : X.Ok) : Inv X pins σ H s :=
  Inv.unsuite (X := X) (a := a) (q := q) (pn' := pn') (show Inv (X.suite a (q :: (X.pn ++ pins))) pn' σ H s from I.wish fun _ _ => False) ok
/-- the name of the clause goes: at any heap that differs at the locals alone -/
theorem inv_gone {i : Nat} {n : Str} {m : Str → Option Value} {h' : Heap} {v : Option Value} (I : Inv X pins σ H s) (hn0 : s.heap.Ns X.env.locals m)
    (hlk : ∀ (i : Nat) (x : Str) (v : V), X.N[i]? = some x → σ[i]? = some (some v) → Vis X.env.scope x → ∃ u, RelV v u ∧ Look X.env s.heap m x u)
    (hN : X.N.Nodup) (hi : X.N[i]? = some n) (hn' : h'.Ns X.env.locals fun x => if x = n then v else m x) (hs : Heap.SameBut X.env.locals s.heap h') : Inv X pins (σ.set i none) H { s with heap := h' } := by
  have neL : ∀ b o, X.s_0.heap.get? b = some o → b ≠ X.env.locals := fun b o e => Nat.ne_of_lt (Nat.lt_of_lt_of_le (Heap.lt_size e) I.ok.above)
  refine ⟨I.ok, I.os, I.bare, ⟨fun b o e n hb hx => ?_, fun b o e n hb hx => ?_, I.base.free, fun b o e hx => ?_, I.base.tups, I.base.frzs, I.base.tbls⟩, ⟨_, hn', fun j y v' e1 e2 e3 => ?_⟩, fun y c e => ?_, I.free, I.freeC, fun p hp => ?_, fun b ob e => ?_, by simpa using I.len⟩
  · exact (hs.2 b (neL b o e)).trans (I.base.keep b o e n hb hx)
  · obtain ⟨sl, e1⟩ := I.base.slot b o e n hb hx
    exact ⟨sl, (hs.2 b (neL b o e)).trans e1⟩
  · obtain ⟨o', e1⟩ := I.base.there b o e hx
    exact ⟨o', (hs.2 b (neL b o e)).trans e1⟩
  · by_cases hj : j = i
    · subst hj
      by_cases hlt : j < σ.length
      · rw [List.getElem?_set_self hlt] at e2; cases e2
      · rw [List.getElem?_eq_none (by simpa using hlt)] at e2; cases e2
    · rw [List.getElem?_set_ne (Ne.symm hj)] at e2
      obtain ⟨u', r', q⟩ := hlk j y v' e1 e2 e3
      refine ⟨u', r', ?_⟩
      rcases q with ⟨k, e⟩ | ⟨k, c, e, z⟩
      · have ny : y ≠ n := fun e => hj (nodup_ix hN e1 (e ▸ hi))
        exact .inl ⟨k, (if_neg ny).trans e⟩
      · exact .inr ⟨k, c, e, z.sameBut hs (I.cne y c e)⟩
  · obtain ⟨w', z⟩ := I.cell y c e
    exact ⟨w', z.sameBut hs (I.cne y c e)⟩
  · obtain ⟨e, n, ne, nf, d⟩ := I.pin p hp
    exact ⟨(hs.2 p.1 ne).trans e, n, ne, nf, d⟩
  · refine (I.hok b ob e).stay (fun c w' hc q => (hs.2 c ?_).trans q) (fun _ q => q) fun _ _ q => q
    intro z
    subst z
    rcases hc with hc | hc
    · rw [← hc, I.free] at e; cases e
    · rw [I.free] at hc; cases hc
end
theorem ns_upTo {h h' : Heap} {a : Addr} {m : Str → Option Value} (up : h.UpToSlots h') (x : h.Ns a m) : h'.Ns a m := by
  obtain ⟨o, es, ep, ho, hd, r⟩ := x
  obtain ⟨sl, e⟩ := up a o ho (fun vs z => by rw [hd] at z; cases z)
  exact ⟨_, es, ep, e, hd, r⟩
section
variable {M : Model} {A : Around} {E₁ : Value → Shared → Prop} {env : Env} {outer : List Env} {L a : Addr} {Z : Obj → Prop} {Q : Unit → Shared → Prop} {B : Heap} {s : Shared}
theorem sky_note (hZ : HandSPX.Steady Z) (hfr : A.frames = some (env :: outer)) (hf : env.frame = some L)
    (x : Sky B (env :: outer) a Z L s.heap) (hQ : ∀ h', HandSPX.HeldZ B (env :: outer) a Z L h' → s.heap.UpToSlots h' → Q () { s with heap := h' }) : wpAny M A (noteFrame (.ref a) env) Q E₁ s := by
  rcases x with ⟨hB, hn, hl, oe, vs, he, hz, hd, h1⟩ | fl | hh
  · exact HandSPX.look_newZ hZ hfr hl hf he hB hn hd h1 hz hQ
  · exact HandSPX.looks_onZ hZ hfr hf fl hQ
  · exact HandSPX.againZ hf hh.2.2.2 (hQ s.heap hh (Heap.UpToSlots.refl _))
theorem frames_but {base h h' : Heap} (hs : Heap.SameBut L h h') (hL : ∃ o, h'.get? L = some o ∧ ∀ vs, o.data ≠ .fields vs) : ∀ {l : List Env}, h.FunFrames base l → h'.FunFrames base l
  | [], _ => trivial
  | env :: l, ⟨hk, ⟨L', o, hf, hb, ho, hd⟩, hr⟩ => by
    refine ⟨hk, ?_, frames_but hs hL hr⟩
    by_cases e : L' = L
    · subst e
      obtain ⟨o', h1, h2⟩ := hL
      exact ⟨L', o', hf, hb, h1, h2⟩
    · exact ⟨L', o, hf, hb, (hs.2 L' e).trans ho, hd⟩
/-- held still, whatever the locals hold now -/
theorem held_but {l : List Env} {h h' : Heap} (hs : Heap.SameBut L h h') (hb : B.get? L = none) (hL0 : ∃ o, h.get? L = some o ∧ ∀ vs, o.data ≠ .fields vs) (hL : ∃ o, h'.get? L = some o ∧ ∀ vs, o.data ≠ .fields vs) (x : HandSPX.HeldZ B l a Z L h) : HandSPX.HeldZ B l a Z L h' := by
  obtain ⟨k, n, f, oe, vs, T, oT, ts, he, hz, hd, h1, hnT, hTe, hT, hdT, h3⟩ := x
  obtain ⟨o0, e0, d0⟩ := hL0
  refine ⟨fun b o e => (hs.2 b fun z => by rw [z, hb] at e; cases e).trans (k b o e), n, frames_but hs hL f, oe, vs, T, oT, ts, (hs.2 a fun z => ?_).trans he, hz, hd, h1, hnT, hTe, (hs.2 T fun z => ?_).trans hT, hdT, h3⟩
  · rw [z, e0] at he; cases he; exact d0 _ hd
  · rw [z, e0] at hT; cases hT; exact d0 _ hdT
end
section
variable {X : Cx} {x n : Str} {c : Value} {i : Nat} {body suite : List Stmt} {b₀ : Stmt} {np pos pos' : Pos} {tb : WX → TS} {ts : Addr → Value → Option Addr → TS} {Wout : WX}
/-- what the clause 'except x as n' wishes, its suite free to raise -/
def wAsX (K : PySem.W.Frag) (c : Value) (i : Nat) (ts : Addr → Value → Option Addr → TS) (Wout : WX) (D : Ends) : WX := wAs K c i ts Wout D
theorem ps_try_asX (hs : X.stack = X.env :: X.outer) (hf : X.env.frame = some X.env.locals) (hN : X.N.Nodup) (hi : X.N[i]? = some n) (hln : X.env.kindOf n = some .local) (hc : Names X x c)
    (hpa : ∀ hd : Option Value, PassesOwnAt (model X.prog X.w) (X.A.mark hd) X.A X.env X.xe) (tk : L2.Takes X Wout) (hW : ∀ cls d σ H, Wout cls d σ H → Wout cls d (σ.set i none) H)
    (hb : ∀ (W : WX) (pn : List (Addr × Obj)) (xe : Value → Shared → Prop), L2N.Takes (X.tr pn xe) W → L2.Takes (X.tr pn xe) (wPass X.K c Wout) → PassesOwn (model X.prog X.w) X.A X.env xe → PSs (X.tr pn xe) body (tb W))
    (hsu : ∀ (a : Addr) (oe : Obj) (cls : Value) (d : Option Addr) (pn : List (Addr × Obj)) (xe : Value → Shared → Prop), L2N.Zn cls d oe → (∃ vs, oe.data = .fields vs) → L2.Takes (suiteE X a ((a, oe) :: pn) xe) Wout → HotC (suiteE X a ((a, oe) :: pn) xe) →
      PSs (suiteE X a ((a, oe) :: pn) xe) (b₀ :: suite) (ts a cls d)) :
    PS X (.Try body [.ExceptHandler (some (.Name x np)) (some n) (b₀ :: suite) pos'] [] [] pos) (fun D σ H => tb (wAs X.K c i ts Wout D) D σ H) := by
  refine ⟨fun pins s σ H D I h => ?_⟩
  have ok := I.ok
  have hfr : X.A.frames = some (X.env :: X.outer) := by rw [ok.frames, hs]
  have hloc : Loc X.env.scope n := .inl hln
  have notFr : ∀ {B h : Heap} {a : Addr} {o : Obj} {vs : Array Value}, h.FunFrames B (X.env :: X.outer) → h.get? a = some o → o.data = .fields vs → a ∉ frs (X.env :: X.outer) := fun {B h a o vs} ff e dd hm => by
    obtain ⟨_, o', e', hnf⟩ := ff.mem hm
    rw [e] at e'; cases e'
    exact hnf _ dd
  have flyOn : ∀ {a : Addr} {B : Heap} {sI s' : Shared} {σ' : L2.St} {H' : Hp} {cls : Value} {d : Option Addr} {h3 : Heap}, Inv X pins σ' H' sI → (∀ b o, sI.heap.get? b = some o → b ∉ frs X.stack → B.get? b = some o) → sI.heap.UpToSlots h3 →
      HandSPX.FlyingZ B (X.env :: X.outer) a (Zc cls d) h3 → H' a = none → s'.os = sI.os → AllBare s'.gens → Wout cls d σ' H' → wpAny (model X.prog X.w) X.A (handleBy (.ref a) X.env []) (SP X pins D) X.xe { s' with heap := h3 } := by
    intro a B sI s' σ' H' cls d h3 J nb up fl3 na os ag w
    refine wpAny_handleBy_nil ?_
    obtain ⟨k1, k2, k3, oe, vs, T, oT, ts', he, hz, hd, h1, hr⟩ := id fl3
    unfold PySem.passOn
    refine wpAny_bind (wpAny_field he hd h1 ?_)
    rw [if_neg (show ¬ ((Value.ref T == Value.none) = true) from by simp)]
    have fin : wpAny (model X.prog X.w) X.A (setFlight (.ref a) X.env.frame) (fun _ s4 => wpAny (model X.prog X.w) X.A (throw (.ref a) : Sem Flow) (SP X pins D) X.xe s4) X.xe { s' with heap := h3 } := by
      rw [hf]
      refine HandSPX.setFlight_upZ fl3 fun h4 hh4 up4 => wpAny_throw (tk _ _ ?_)
      exact ⟨a, B, sI, pins, σ', H', cls, d, rfl, J, nb, up.trans up4, .inr (.inr (by rw [hs]; exact hh4)), na, os, ag, w⟩
    first
      | exact wpAny_bind (wpAny_pure (wpAny_bind fin))
      | exact wpAny_bind fin
  refine wpAny_Try_except ?_
  refine wpAny_mono ((hb (wAs X.K c i ts Wout D) (X.pn ++ pins) (fun e s₁ => wpAny (model X.prog X.w) X.A (noteFrame e X.env) (fun _ s₂ => wpAny (model X.prog X.w) X.A (setFlight e none) (fun _ s₃ =>
    wpAny (model X.prog X.w) X.A (handleBy e X.env [.ExceptHandler (some (.Name x np)) (some n) (b₀ :: suite) pos']) (SP X pins D) X.xe s₃) X.xe s₂) X.xe s₁) (fun u s' xx => ?_) (fun u s' xx => ?_) PassesOwn.looking).run [] s σ H D (I.toTry _) h) (fun f s1 hsp => ?_) (fun e s1 he => he)
  · -- an exception whose context is None
    obtain ⟨a, B, sI, pins', σ', H', cls, d, rfl, J', nb, up, sky, na, os, ag, b, hb1, hyes, hno⟩ := xx
    have J : Inv X pins σ' H' sI := J'.ofTry ok
    have sky' : Sky B (X.env :: X.outer) a (L2N.Zn cls d) X.env.locals s'.heap := by rw [← hs]; exact sky
    show wpAny (model X.prog X.w) X.A (noteFrame (.ref a) X.env) _ _ _
    refine L2N.Sky.land L2N.Zn.steady hfr hf sky' fun h3 fl3 up3 => ?_
    have J3 : Inv X pins σ' H' { s' with heap := h3 } := J.landed nb fl3.1 (up.trans up3) os ag
    obtain ⟨oe3, vs3, he3, hz3, hd3⟩ := fl3.there
    have nfr : a ∉ frs (X.env :: X.outer) := notFr fl3.2.2.1 he3 hd3
    have nL : a ≠ X.env.locals := fun z => nfr (List.mem_filterMap.mpr ⟨X.env, List.mem_cons_self, by rw [hf, z]⟩)
    have nF : a ∉ X.fs := fun hm => by
      obtain ⟨e, he, q⟩ := List.mem_filterMap.mp hm
      exact nfr (List.mem_filterMap.mpr ⟨e, List.mem_cons_of_mem _ he, q⟩)
    have S3 := J3.suite he3 hd3 na nL nF
    refine wpAny_handleBy_cons (codeAny_handlers_test ?_) (by intro q; cases q)
    have LT : PySem.W.Looks (model X.prog X.w) h3 (typeOf (.ref a)) cls := fun A Q E s k q => wpAny_typeOf_ref (k _ _ he3) (by rw [hz3.1]; exact q)
    have LM := PySem.W.exm_one (M := model X.prog X.w) (J3.kIn) LT hb1
    have test : ∀ {Q : Value → Shared → Prop} {E : Value → Shared → Prop}, Q c { s' with heap := h3 } → wpAny (model X.prog X.w) (X.A.mark (some (.ref a))) (eval (.Name x np) X.env) Q E { s' with heap := h3 } := fun {Q E} q => by
      obtain ⟨hg, hdbg, hm | ⟨hm, hv, hnn⟩⟩ := hc
      · exact ld_glob (X := X.suite a ((a, oe3) :: (X.pn ++ pins))) S3 hg hm q hdbg
      · exact ld_blt (X := X.suite a ((a, oe3) :: (X.pn ++ pins))) S3 hg hm hv q hnn hdbg
    refine test (LM.here ?_)
    cases b with
    | true =>
      refine codeAny_handlers_suite_as ?_
      refine HandSPX.lands_againZ fl3 fun h4 fl4 up4 => ?_
      have J4 : Inv X pins σ' H' { s' with heap := h4 } := J.landed nb fl4.1 ((up.trans up3).trans up4) os ag
      obtain ⟨oe4, vs4, he4, hz4, hd4⟩ := fl4.there
      have S4 := J4.suite he4 hd4 na nL nF
      refine store_ok (X := X.suite a ((a, oe4) :: (X.pn ++ pins))) (v := .ref a) S4 hN hi hloc rfl (fun s5 S5 => ?_) (.inr hln)
      have hot : ∀ xe, HotC (suiteE X a ((a, oe4) :: (X.pn ++ pins)) xe) := fun xe => ⟨(a, oe4), ⟨rfl, vs4, hd4, hz4.2.2 vs4 hd4⟩, List.mem_cons_self⟩
      refine wpAny_mono ((hsu a oe4 cls d (X.pn ++ pins) (L2.XE X Wout) hz4 ⟨_, hd4⟩ (fun u2 s2 x2 => ?_) (hot _)).run [] s5 _ H' _ (suiteE_of S5) (hyes rfl a na)) (fun f s6 hsp => ?_) (fun e6 s6 z => ?_)
      · obtain ⟨a2, B2, sI2, pn2, σ2, H2, cls2, d2, e2, I2, nb2, up2, sky2, na2, os2, ag2, w2⟩ := x2
        exact ⟨a2, B2, sI2, pins, σ2, H2, cls2, d2, e2, unsuiteE I2 ok, nb2, up2, sky2, na2, os2, ag2, w2⟩
      · have end_ : ∀ {σ6 : L2.St} {H6 : Hp} {Q : Shared → Prop} {E : Value → Shared → Prop}, Inv (suiteE X a ((a, oe4) :: (X.pn ++ pins)) (L2.XE X Wout)) [] σ6 H6 s6 → (∀ s7, Inv X pins (σ6.set i none) H6 s7 → Q s7) →
            wpAny (model X.prog X.w) X.A (do bindName X.env n .none; unbindBehindTheSuite X.env n pos') (fun _ s7 => Q s7) E s6 := fun {σ6 H6 Q E} S6 hq => gone_ok (unsuiteE S6 ok) hN hi hln hq
        cases f with
        | next =>
          obtain ⟨σ6, H6, S6, q6⟩ := hsp
          exact end_ S6 fun s7 J7 => ⟨_, _, J7, q6⟩
        | brk =>
          obtain ⟨σ6, H6, S6, q6⟩ := hsp
          exact end_ S6 fun s7 J7 => ⟨_, _, J7, q6⟩
        | cont =>
          obtain ⟨σ6, H6, S6, q6⟩ := hsp
          exact end_ S6 fun s7 J7 => ⟨_, _, J7, q6⟩
        | ret u =>
          obtain ⟨v6, σ6, H6, S6, r6, q6⟩ := hsp
          exact end_ S6 fun s7 J7 => ⟨_, _, _, J7, r6, q6⟩
      · -- the suite raised
        obtain ⟨a2, B2, sI2, pn2, σ2, H2, cls2, d2, rfl, I2, nb2, up2, sky2, na2, os2, ag2, w2⟩ := z
        have sky2' : Sky B2 (X.env :: X.outer) a2 (Zc cls2 d2) X.env.locals s6.heap := by rw [← hs]; exact sky2
        refine sky_note Zc.steady hfr hf sky2' fun h7 hh7 up7 => ?_
        obtain ⟨m2, hn2, hlk2⟩ := id I2.loc
        have hn7 : h7.Ns X.env.locals m2 := ns_upTo (up2.trans up7) hn2
        have hcls : (X.env.scope.kind == .class || (X.env.scope.kind == .module && X.env.locals != X.env.globals)) = false := by rw [ok.kind]; rfl
        refine wpAny_nameGoes_keeps hln hn7 hcls fun h8 v8 hn8 hs8 => ?_
        have isL : ∀ {h : Heap} {m : Str → Option Value}, h.Ns X.env.locals m → ∃ o, h.get? X.env.locals = some o ∧ ∀ vs, o.data ≠ .fields vs := fun {h m} ⟨o, es, ep, ho, hd, _⟩ => ⟨o, ho, fun vs z => by rw [hd] at z; cases z⟩
        have hbL : B2.get? X.env.locals = none := by
          obtain ⟨_, ⟨L', o', hf', hb', _⟩, _⟩ := hh7.2.2.1
          rw [hf] at hf'
          cases hf'
          exact hb'
        have hh8 := held_but hs8 hbL (isL hn7) (isL hn8) hh7
        obtain ⟨_, _, _, oe8, vs8, T8, oT8, ts8, he8, hz8, hd8, h18, hr8⟩ := id hh8
        unfold PySem.passOn
        refine wpAny_bind (wpAny_field (s := { s6 with heap := h8, toks := s6.toks + 1 }) he8 hd8 h18 ?_)
        rw [if_neg (show ¬ ((Value.ref T8 == Value.none) = true) from by simp)]
        have fin : wpAny (model X.prog X.w) (X.A.mark (some (.ref a))) (setFlight (.ref a2) X.env.frame) (fun _ s4 => wpAny (model X.prog X.w) (X.A.mark (some (.ref a))) (throw (.ref a2) : Sem Flow) (fun _ _ => False) (notedBy (model X.prog X.w) (X.A.mark (some (.ref a))) X.env (cameBackBy (model X.prog X.w) X.A X.env X.xe)) s4)
            (notedBy (model X.prog X.w) (X.A.mark (some (.ref a))) X.env (cameBackBy (model X.prog X.w) X.A X.env X.xe)) { s6 with heap := h8, toks := s6.toks + 1 } := by
          rw [hf]
          refine HandSPX.setFlight_onZ (s := { s6 with heap := h8, toks := s6.toks + 1 }) hh8 fun h9 hh9 up9 => wpAny_throw (hpa _ _ _ (tk _ _ ?_))
          have hn9 := ns_upTo up9 hn8
          obtain ⟨o9, es9, ep9, ho9, hd9, hk9, hm9⟩ := id hn9
          obtain ⟨oI, esI, epI, hoI, hdI, _⟩ := id hn2
          have g1 : (sI2.heap.update X.env.locals fun _ => o9).get? X.env.locals = some o9 := Heap.get?_update_self _ hoI (Obj.isFreed_of_dict hd9)
          have hsG := Heap.SameBut.update sI2.heap X.env.locals fun _ => o9
          have hnG : (sI2.heap.update X.env.locals fun _ => o9).Ns X.env.locals (fun x => if x = n then v8 else m2 x) := ⟨o9, es9, ep9, g1, hd9, hk9, hm9⟩
          refine ⟨a2, B2, { sI2 with heap := sI2.heap.update X.env.locals fun _ => o9 }, pn2, σ2.set i none, H2, cls2, d2, rfl, inv_gone I2 hn2 hlk2 hN hi hnG hsG, fun b o e hb => nb2 b o ((hsG.2 b fun z => hb ?_).symm.trans e) hb, fun b o e hd => ?_, .inr (.inr (by rw [hs]; exact hh9)), na2, os2, ag2, hW _ _ _ _ w2⟩
          · rw [z, hs]
            exact List.mem_filterMap.mpr ⟨X.env, List.mem_cons_self, hf⟩
          · by_cases eb : b = X.env.locals
            · subst eb
              rw [show ({ sI2 with heap := sI2.heap.update X.env.locals fun _ => o9 } : Shared).heap.get? X.env.locals = some o9 from g1] at e
              cases e
              exact ⟨o9.slots, ho9⟩
            · have e' : sI2.heap.get? b = some o := (hsG.2 b eb).symm.trans e
              obtain ⟨sl, q⟩ := (up2.trans up7) b o e' hd
              have q8 : h8.get? b = some { o with slots := sl } := (hs8.2 b eb).trans q
              obtain ⟨sl9, q9⟩ := up9 b _ q8 hd
              exact ⟨sl9, q9⟩
        first
          | exact wpAny_bind (wpAny_pure (wpAny_bind fin))
          | exact wpAny_bind fin
    | false =>
      show wpAny _ X.A (handleBy (.ref a) X.env []) _ _ _
      exact flyOn J nb (up.trans up3) (flyingZ_imp (fun o z => z.zc) fl3) na os ag (hno rfl)
  · -- any other: the clause doesn't name it
    obtain ⟨a, B, sI, pins', σ', H', cls, d, rfl, J', nb, up, sky, na, os, ag, hb1, hno⟩ := xx
    have J : Inv X pins σ' H' sI := J'.ofTry ok
    have sky' : Sky B (X.env :: X.outer) a (Zc cls d) X.env.locals s'.heap := by rw [← hs]; exact sky
    show wpAny (model X.prog X.w) X.A (noteFrame (.ref a) X.env) _ _ _
    refine L2.Sky.land Zc.steady hfr hf sky' fun h3 fl3 up3 => ?_
    have J3 : Inv X pins σ' H' { s' with heap := h3 } := J.landed nb fl3.1 (up.trans up3) os ag
    obtain ⟨oe3, vs3, he3, hz3, hd3⟩ := fl3.there
    have nfr : a ∉ frs (X.env :: X.outer) := notFr fl3.2.2.1 he3 hd3
    have nL : a ≠ X.env.locals := fun z => nfr (List.mem_filterMap.mpr ⟨X.env, List.mem_cons_self, by rw [hf, z]⟩)
    have nF : a ∉ X.fs := fun hm => by
      obtain ⟨e, he, q⟩ := List.mem_filterMap.mp hm
      exact nfr (List.mem_filterMap.mpr ⟨e, List.mem_cons_of_mem _ he, q⟩)
    have S3 := J3.suite he3 hd3 na nL nF
    refine wpAny_handleBy_cons (codeAny_handlers_test ?_) (by intro q; cases q)
    have LT : PySem.W.Looks (model X.prog X.w) h3 (typeOf (.ref a)) cls := fun A Q E s k q => wpAny_typeOf_ref (k _ _ he3) (by rw [hz3.1]; exact q)
    have LM := PySem.W.exm_one (M := model X.prog X.w) (J3.kIn) LT hb1
    have test : ∀ {Q : Value → Shared → Prop} {E : Value → Shared → Prop}, Q c { s' with heap := h3 } → wpAny (model X.prog X.w) (X.A.mark (some (.ref a))) (eval (.Name x np) X.env) Q E { s' with heap := h3 } := fun {Q E} q => by
      obtain ⟨hg, hdbg, hm | ⟨hm, hv, hnn⟩⟩ := hc
      · exact ld_glob (X := X.suite a ((a, oe3) :: (X.pn ++ pins))) S3 hg hm q hdbg
      · exact ld_blt (X := X.suite a ((a, oe3) :: (X.pn ++ pins))) S3 hg hm hv q hnn hdbg
    refine test (LM.here ?_)
    show wpAny _ X.A (handleBy (.ref a) X.env []) _ _ _
    exact flyOn J nb (up.trans up3) fl3 na os ag hno
  · cases f with
    | next =>
      obtain ⟨σ', H', J', q⟩ := hsp
      exact wpAny_execs_nil ⟨σ', H', J'.ofTry ok, q⟩
    | brk =>
      obtain ⟨σ', H', J', q⟩ := hsp
      exact ⟨σ', H', J'.ofTry ok, q⟩
    | cont =>
      obtain ⟨σ', H', J', q⟩ := hsp
      exact ⟨σ', H', J'.ofTry ok, q⟩
    | ret u =>
      obtain ⟨v, σ', H', J', r, q⟩ := hsp
      exact ⟨v, σ', H', J'.ofTry ok, r, q⟩
end
end L2H

/-! own errors of two fields: C(code, line), the message f'refused: {code}, {line}' -/
namespace BX
open PySem PySem.W PySem.Calls PyProof.Rows PySem.HandSPX
def eA2 (f2 : Str) (p1 p2 p3 : Pos) : Arguments := { posonlyargs := [], args := [{ arg := "self", annotation := none, pos := p1 }, { arg := "code", annotation := none, pos := p2 }, { arg := f2, annotation := none, pos := p3 }], vararg := none, kwonlyargs := [], kw_defaults := [], kwarg := none, defaults := [] }
def eM2 (f2 : Str) (m0 m1 m2 m3 m4 m5 m6 : Pos) : PySem.Expr := .JoinedStr [.Constant (.str "refused: ") 0 m0, .FormattedValue (.Name "code" m1) (-1) none m2, .Constant (.str ", ") 0 m4, .FormattedValue (.Name f2 m5) (-1) none m6] m3
def eS2 (f2 : Str) : Scope := { kind := .function, names := [(PySem.Str.ofString "self", .local), (PySem.Str.ofString "code", .local), (f2, .local), (PySem.Str.ofString "__class__", .free), (PySem.Str.ofString "super", .globalImplicit)], isGenerator := false, isCoroutine := false, more := [] }
/-- the second field's name -/
structure F2 (f2 : Str) : Prop where
  k1 : (eS2 f2).names.lookup f2 = some .local
  k2 : (eS2 f2).names.lookup ("super" : Str) = some .globalImplicit
  k3 : (eS2 f2).names.lookup ("__class__" : Str) = some .free
  k4 : (eS2 f2).names.lookup ("code" : Str) = some .local
  k5 : (eS2 f2).names.lookup ("self" : Str) = some .local
  n1 : f2 ≠ "code"
  n2 : f2 ≠ "self"
  or : f2 = "line" ∨ f2 = "at"
  dbg : (f2 == ("__debug__" : Str)) = false
theorem f2_line : F2 "line" := ⟨rfl, rfl, rfl, rfl, rfl, by decide, by decide, .inl rfl, by decide⟩
theorem f2_at : F2 "at" := ⟨rfl, rfl, rfl, rfl, rfl, by decide, by decide, .inr rfl, by decide⟩
section
variable {prog : Program} {w : World} {M : Model} {A : Around} {E : Value → Shared → Prop} {R : Result → Shared → Prop} {s : Shared} {K : Frag} {mg mb : Str → Option Value} {C fI : Addr}
/-- the message's reading -/
theorem msg_code2 {f2 : Str} {env : Env} {L : Addr} {m : Str → Option Value} {y : Str} {n : Int} {tv tn : Tok} {m0 m1 m2 m3 m4 m5 m6 : Pos} {P : Value → Shared → Prop} (ff : F2 f2) (hn : s.heap.Ns env.locals m) (hv : m "code" = some (.str y tv)) (hv2 : m f2 = some (.int n tn)) (hz : y.length ≤ 1000) (hz2 : n.natAbs.log2 < 1920)
    (hk : env.scope.kind = .function) (hl : env.kindOf "code" = some .local) (hl2 : env.kindOf f2 = some .local) (h : ∀ v tk, P v { s with toks := tk }) : wpAny (model prog w) A (eval (eM2 f2 m0 m1 m2 m3 m4 m5 m6) env) P E s := by
  have z1 : sizeLine = 16777216 := sizeLine_eq
  have z0 : (("refused: " : Str)).length = 9 := by decide +kernel
  have z2 : ((", " : Str)).length = 2 := by decide +kernel
  have ap : ∀ a b : Str, (a ++ b).length = a.length + b.length := fun a b => by
    show (a.cps ++ b.cps).size = _
    rw [Array.size_append]; rfl
  have zn : (Str.ofString (toString n)).length ≤ 1921 := PyProof.Rows.int_text_len_1921 hz2
  have len2 : ((Str.empty ++ ("refused: " : Str)) ++ y).length ≤ 1009 := by
    rw [ap, ap, z0]
    show 0 + 9 + y.length ≤ _
    omega
  have len3 : (((Str.empty ++ ("refused: " : Str)) ++ y) ++ (", " : Str)).length ≤ 1011 := by
    rw [ap, z2]
    omega
  have len4 : ((((Str.empty ++ ("refused: " : Str)) ++ y) ++ (", " : Str)) ++ Str.ofString (toString n)).length ≤ 3000 := by
    rw [ap]
    omega
  unfold eM2
  refine wpAny_JoinedStr ?_
  refine wpAny_Constant_str ⟨_, _, rfl, by rw [ap, z0, z1]; show 0 + 9 ≤ _; omega, ?_⟩
  have tail : ∀ (s1 : Shared), s1.heap = s.heap → s1.gens = s.gens → s1.drawn = s.drawn → s1.os = s.os → Joins (model prog w) A E (evalEach [.Constant (.str ", ") 0 m4, .FormattedValue (.Name f2 m5) (-1) none m6] env) ((Str.empty ++ ("refused: " : Str)) ++ y) (fun out s₁ =>
        out.length ≤ sizeLine ∧ P (Value.str out s₁.toks) { s₁ with toks := s₁.toks + 1 }) s1 := fun s1 e1 e2 e3 e4 => by
    refine wpAny_Constant_str ⟨_, _, rfl, by rw [z1]; omega, ?_⟩
    refine wpAny_FormattedValue_plain (wpAny_Name (hd := ff.dbg) (wpAny_loadName_local (m := m) hk hl2 (by rw [show ({ s1 with toks := s1.toks + 1 } : Shared).heap = s.heap from e1]; exact hn) hv2 ?_))
    refine wpAny_formatField_int hz2 ?_
    refine ⟨_, _, rfl, by rw [z1]; omega, ?_⟩
    refine ⟨by rw [z1]; omega, ?_⟩
    obtain ⟨h1, h2, h3, h4, h5⟩ := s1
    cases e1; cases e2; cases e3; cases e4
    exact h _ _
  refine wpAny_FormattedValue_plain (wpAny_Name (wpAny_loadName_local hk hl (hn : ({ s with toks := s.toks + 1 } : Shared).heap.Ns env.locals m) hv ?_))
  refine wpAny_formatField_str ⟨y, _, rfl, by rw [z1]; omega, ?_⟩ ⟨y, _, rfl, by rw [z1]; omega, ?_⟩ (by rw [z1]; omega)
  · exact tail _ rfl rfl rfl rfl
  · exact tail _ rfl rfl rfl rfl
/-- the text of an __init__ of two fields -/
structure ErrFn2 (P : Program) (K : Frag) (C fI : Addr) (f2 : Str) : Prop where
  toCls : ErrCls P K C
  no : findIn K (.ref C) "code" = some none
  no2 : findIn K (.ref C) f2 = some none
  f : F2 f2
  fn : ∃ (qual : Str) (p1 p2 p3 a0 a1 a2 a3 a4 m0 m1 m2 m3 m4 m5 m6 q1 q2 q3 q4 r1 r2 r3 r4 : Pos), ErrFn P K C fI qual (eA2 f2 p1 p2 p3) [eI a0 a1 a2 a3 a4 (eM2 f2 m0 m1 m2 m3 m4 m5 m6), eF "code" q1 q2 q3 q4, eF f2 r1 r2 r3 r4] (eS2 f2) ∧
    ∀ (L : Addr) (cda : Value) (cc : Addr), ∃ pl : Sem Bool, eval (.Call (.Attribute (.Call (.Name "super" a0) [] [] a1) "__init__" a2) [eM2 f2 m0 m1 m2 m3 m4 m5 m6] [] a3) (ksEnv qual (eS2 f2) L fI cda cc) = (do
      let ov ← attributeBase (.Call (.Name "super" a0) [] [] a1) "__init__" (ksEnv qual (eS2 f2) L fI cda cc) (eval (.Call (.Name "super" a0) [] [] a1) (ksEnv qual (eS2 f2) L fI cda cc))
      standAt a2.atName
      let (f, first) ← holding [ov] (getMethod ov "__init__" pl)
      callWith a3 f first (backTo a3 (starEach [eM2 f2 m0 m1 m2 m3 m4 m5 m6] (ksEnv qual (eS2 f2) L fI cda cc))) [])
abbrev d2 (f2 : Str) (y : Str) (tv : Tok) (n : Int) (tn : Tok) : Str → Option Value := fun x => if x = f2 then some (.int n tn) else if x = "code" then some (.str y tv) else none
theorem init_code2 {f2 : Str} (T : ErrFn2 prog K C fI f2) {x t0 : Addr} {y : Str} {tv : Tok} {n : Int} {tn : Tok} (X : K.In s.heap) (hlim : s.heap.NoLimit) (G : s.heap.Ns mainGlobals mg) (hb : s.heap.Ns builtinsNs mb) (hbs : mb "super" = some (.type "super")) (hx : s.heap.get? x = some (excO C t0)) (hnx : K.lookup x = none) (hz : y.length ≤ 1000) (hz2 : n.natAbs.log2 < 1920) (hroom : A.depth < recursionLimit)
    (hq : ∀ h' tk dx, InitEnd s.heap h' x C dx (d2 f2 y tv n tn) → R (.ok (.ret .none)) { s with heap := h', toks := tk }) :
    codeAny (model prog w) A (.call (.ref fI) ⟨[.ref x, .str y tv, .int n tn], []⟩) R s := by
  obtain ⟨qual, p1, p2, p3, a0, a1, a2, a3, a4, m0, m1, m2, m3, m4, m5, m6, q1, q2, q3, q4, r1, r2, r3, r4, ⟨iC, tI, oc, od, an, doc, pm, ct, cda, cc, osl, vs, file, tf, ccl, cl, cdd, cld, ccs, csl, ho, hcd, hcode, hvs, hfile, hcell⟩, hcall⟩ := T.fn
  have TC := T.toCls
  obtain ⟨nm, q, N, bs, bm, sn, sub, ab, col, dd, k0, k1, k2, k3, k5, hC, hbm⟩ := TC.cls
  have hcl := clsIn_of hC
  have g1 : (([("self", .ref x), ("code", .str y tv), (f2, .int n tn)] : List (Str × Value)).reverse.lookup f2) = some (.int n tn) := by
    show List.lookup f2 [(f2, Value.int n tn), ("code", .str y tv), ("self", .ref x)] = _
    rw [List.lookup_cons, show (f2 == f2) = true from beq_self_eq_true f2]
  have nc : (("code" : Str) == f2) = false := by simpa using T.f.n1.symm
  have ns : (("self" : Str) == f2) = false := by simpa using T.f.n2.symm
  have g2 : (([("self", .ref x), ("code", .str y tv), (f2, .int n tn)] : List (Str × Value)).reverse.lookup ("code" : Str)) = some (.str y tv) := by
    show List.lookup ("code" : Str) [(f2, Value.int n tn), ("code", .str y tv), ("self", .ref x)] = _
    rw [List.lookup_cons, nc]
    rfl
  have g3 : (([("self", .ref x), ("code", .str y tv), (f2, .int n tn)] : List (Str × Value)).reverse.lookup ("self" : Str)) = some (.ref x) := by
    show List.lookup ("self" : Str) [(f2, Value.int n tn), ("code", .str y tv), ("self", .ref x)] = _
    rw [List.lookup_cons, ns]
    rfl
  refine ks_codeAny_call_defAt (fd := ksFn "__init__" qual (eA2 f2 p1 p2 p3) [eI a0 a1 a2 a3 a4 (eM2 f2 m0 m1 m2 m3 m4 m5 m6), eF "code" q1 q2 q3 q4, eF f2 r1 r2 r3 r4] (eS2 f2) .none .none doc pm an (.ref cda) ct cc) (body := [eI a0 a1 a2 a3 a4 (eM2 f2 m0 m1 m2 m3 m4 m5 m6), eF "code" q1 q2 q3 q4, eF f2 r1 r2 r3 r4]) (binds := [("self", .ref x), ("code", .str y tv), (f2, .int n tn)])
    hroom (X _ _ ho) rfl hlim (codeRec_of X hcd) rfl (BindsTo.of_eq (by rcases T.f.or with rfl | rfl <;> first | rfl | with_unfolding_all rfl)) (by
      show ∀ z ∈ (eS2 f2).names, z.2 ≠ .cell
      intro z hz
      simp [eS2] at hz
      rcases hz with rfl | rfl | rfl | rfl | rfl <;> simp) (by
      intro z hz
      simp at hz
      rcases hz with rfl | rfl | rfl
      · exact T.f.k5
      · exact T.f.k4
      · exact T.f.k1) (fun h₀ hns k₀ => ?_)
  obtain ⟨pl, hc⟩ := hcall s.heap.objs.size (.ref cda) cc
  have xL : s.heap.objs.size ≠ x := Nat.ne_of_gt (Heap.lt_size hx)
  refine ks_wpAt_execs_cons (super_init (mg := mg) (mb := mb) (ar := { arg := "self", annotation := none, pos := p1 }) TC (X.keeps k₀) hns g3 (k₀ _ _ hx) (G.keeps k₀) (hb.keeps k₀) hbs ho rfl hcode hvs hfile hcell T.f.k2 T.f.k3 T.f.k5 rfl
    (fun s' P hn h => msg_code2 (L := s.heap.objs.size) T.f hn g2 g1 hz hz2 rfl T.f.k4 T.f.k1 h) rfl rfl hc fun h1 t1 tk1 k1' hx1 => ?_)
  have old : ∀ b o, b ≠ x → s.heap.get? b = some o → h1.get? b = some o := fun b o hb e => k1' b o hb (k₀ b o e)
  have X1 : K.In h1 := fun b o e => old b o (fun z => by rw [z, hnx] at e; cases e) (X b o e)
  have hn1 : h1.Ns s.heap.objs.size (fun z => ([("self", .ref x), ("code", .str y tv), (f2, .int n tn)] : List (Str × Value)).reverse.lookup z) := by
    obtain ⟨o, es, ep, e, r⟩ := hns
    exact ⟨o, es, ep, k1' _ _ xL e, r⟩
  refine _root_.PySem.wpAt_of_wpAny (wpAny_execs_cons ?_)
  show wpAny _ _ (exec (.Assign [.Attribute (.Name "self" q1) "code" q2] (.Name "code" q3) q4) _) _ _ _
  refine plainObj_wpAny_Assign_Attribute (wpAny_Name (wpAny_loadName_local rfl T.f.k4 hn1 (v := .str y tv) g2 (wpAny_Name (wpAny_loadName_local rfl T.f.k5 hn1 (v := .ref x) g3 ?_))))
  refine set_plain X1 (ox := excO C t1) (od := none) ⟨hx1, rfl, rfl, trivial⟩ TC.sa ?_
  refine exc_osa X1 hx1 hcl (show refsVE (.ref C :: bm) = true from hbm) rfl T.no fun h3 tk3 dx k3 dn dne hx3 hn3 => ?_
  have X3 : K.In h3 := fun b o e => k3 b o (fun z => by rw [z, hnx] at e; cases e) (X1 b o e)
  have hn3' : h3.Ns s.heap.objs.size (fun z => ([("self", .ref x), ("code", .str y tv), (f2, .int n tn)] : List (Str × Value)).reverse.lookup z) := by
    obtain ⟨o, es, ep, e, r⟩ := hn1
    exact ⟨o, es, ep, k3 _ _ xL e, r⟩
  refine wpAny_execs_cons ?_
  show wpAny _ _ (exec (.Assign [.Attribute (.Name "self" r1) f2 r2] (.Name f2 r3) r4) _) _ _ _
  refine plainObj_wpAny_Assign_Attribute (wpAny_Name (hd := T.f.dbg) (wpAny_loadName_local rfl T.f.k1 hn3' (v := .int n tn) g1 (wpAny_Name (wpAny_loadName_local rfl T.f.k5 hn3' (v := .ref x) g3 ?_))))
  have hw := _root_.PySem.Within.cons ("code" : Str) (Value.str y tv) _root_.PySem.Within.nil
  obtain ⟨oD, _, _, hoD, _, _⟩ := hn3.count hw
  refine set_plain X3 (ox := { cls := .ref C, dict := some dx, data := .fields #[.ref t1, .none, .none, .none, .bool false, .none] }) (od := some oD) ⟨hx3, rfl, rfl, hoD⟩ TC.sa ?_
  refine OEX.osa_old X3 hx3 hn3 hw (by decide) hcl (show refsVE (.ref C :: bm) = true from hbm) rfl T.no2 fun h4 tk4 k4 hn4 => ?_
  refine wpAny_execs_nil (hq h4 tk4 dx ⟨fun b o hb e => k4 b o (fun z => ?_) (k3 b o hb (old b o hb e)), ⟨t1, k4 x _ dne.symm hx3⟩, ?_, dne, hn4⟩)
  · have h1' := Heap.lt_size (old b o hb e)
    rw [z] at h1'
    exact absurd (Nat.lt_of_lt_of_le h1' dn) (Nat.lt_irrefl _)
  · obtain ⟨o, es, ep, e, r⟩ := hn1
    exact Nat.le_of_lt (Nat.lt_of_lt_of_le (Heap.lt_size e) dn)
/-- C(code, line) -/
theorem made_code2 {f2 : Str} (T : ErrFn2 prog K C fI f2) {y : Str} {tv : Tok} {n : Int} {tn : Tok} (X : K.In s.heap) (hlim : s.heap.NoLimit) (G : s.heap.Ns mainGlobals mg) (hb : s.heap.Ns builtinsNs mb) (hbs : mb "super" = some (.type "super")) (hz : y.length ≤ 1000) (hz2 : n.natAbs.log2 < 1920) (iC : findIn K (.ref C) "__init__" = some (some (.ref fI))) (tI : typeIn K (.ref fI) = some (.type "function")) (hroom : A.depth + 1 < recursionLimit)
    (hq : ∀ h' tk e d, (∀ b o, s.heap.get? b = some o → h'.get? b = some o) → s.heap.objs.size ≤ e → (∃ t1 : Addr, h'.get? e = some { cls := .ref C, dict := some d, data := .fields #[.ref t1, .none, .none, .none, .bool false, .none] }) → s.heap.objs.size ≤ d → d ≠ e →
      h'.Ns1 d (d2 f2 y tv n tn) → R (.ok (.ret (.ref e))) { s with heap := h', toks := tk }) :
    codeAny (model prog w) A (.call (.ref C) ⟨[.str y tv, .int n tn], []⟩) R s := by
  obtain ⟨nm, q, N, bs, bm, sn, sub, ab, col, dd, k0, k1, k2, k3, k5, hC, hbm⟩ := T.toCls.cls
  obtain ⟨hp, g, dr, tk, os⟩ := s
  have k : ∀ b o, hp.get? b = some o → ((hp.push (kdv_tup [.str y tv, .int n tn])).push (excO C hp.objs.size)).get? b = some o := fun b o e => Heap.get?_push_of_some _ (Heap.get?_push_of_some _ e)
  have hget : ((hp.push (kdv_tup [.str y tv, .int n tn])).push (excO C hp.objs.size)).get? (hp.objs.size + 1) = some (excO C hp.objs.size) := by heap_get
  have hnx : K.lookup (hp.objs.size + 1) = none := by
    cases e : K.lookup (hp.objs.size + 1) with
    | none => rfl
    | some o => exact absurd (Nat.lt_of_succ_lt (Heap.lt_size (show hp.get? (hp.objs.size + 1) = some o from X _ _ e))) (Nat.lt_irrefl _)
  refine call_own F.excBase_ValueError (fun X => refsVE_contains X bm hbm) (X _ _ hC) (looks_findIn X iC) (fun self => bind_fn X self tI) (by show 2 ≤ sizeLine; decide) ?_
  refine init_code2 (mg := mg) (mb := mb) (s := ⟨(hp.push (kdv_tup [.str y tv, .int n tn])).push (excO C hp.objs.size), g, dr, tk, os⟩) T (X.keeps k) (hlim.keeps k) (G.keeps k) (hb.keeps k) hbs hget hnx hz hz2 hroom fun h' tk' dx ⟨k', hx, dn, dne, hns⟩ => ?_
  refine ⟨rfl, hq h' tk' (hp.objs.size + 1) dx (fun b o e => k' b o (Nat.ne_of_lt (Nat.lt_succ_of_lt (Heap.lt_size e))) (k b o e)) (Nat.le_succ _) hx ?_ dne hns⟩
  have q : ((hp.push (kdv_tup [.str y tv, .int n tn])).push (excO C hp.objs.size)).objs.size ≤ dx := dn
  rw [Heap.size_push, Heap.size_push] at q
  show hp.objs.size ≤ dx
  omega
end
end BX
namespace B
open PySem L2
theorem relO_two {f2 : Str} {y : Str} {tv : Tok} {n : Int} {tn : Tok} (f : Str) : RelO (List.lookup f [(f2, V.int n), (("code" : Str), V.str y)]) (BX.d2 f2 y tv n tn f) := by
  rw [List.lookup_cons]
  by_cases hw : f = f2
  · subst hw
    rw [show BX.d2 f y tv n tn f = some (.int n tn) from if_pos rfl]
    simp only [beq_self_eq_true]
    exact ⟨tn, rfl⟩
  · rw [show BX.d2 f2 y tv n tn f = (if f = "code" then some (.str y tv) else none) from if_neg hw, show (f == f2) = false by simpa using hw]
    exact relO_code (v := .str y) (v' := .str y tv) ⟨tv, rfl⟩ f
section
variable {X : Cx} {C fI : Addr}
/-- the reading of C(code, line) -/
def tMkE2 (C : Addr) (f2 : Str) (ta : TA) : L2.St → Hp → XK → Prop := fun σ H Q => ta σ H fun vs H1 => ∃ (y : Str) (n : Int), vs = [.str y, .int n] ∧ y.length ≤ 1000 ∧ n.natAbs.log2 < 1920 ∧ ∀ d, H1 d = none → Q (.ref C) (some d) (upd H1 d (.xd [(f2, .int n), (("code" : Str), .str y)]))
theorem pmk_err2 {x : Str} {f2 : Str} {e e2 : PySem.Expr} {ta : TA} {p pos : Pos} {k : Nat} (T : BX.ErrFn2 X.prog X.K C fI f2) (hm : X.mg x = some (.ref C)) (hr : Room k X.A) (ha : PA X [e, e2] ta) (hg : Gl X x := by rfl) (hdb : (x == ("__debug__" : Str)) = false := by decide)
    (he : starEach (e :: [e2]) X.env = (false, eval e X.env) :: starEach [e2] X.env := by rfl) (hpl : (backTo pos (starEach [e2] X.env)).any (·.1) = false := by rfl) :
    PMk X (.Call (.Name x p) [e, e2] [] pos) (tMkE2 C f2 ta) := by
  intro pins s σ H Q I h
  obtain ⟨qual, p1, p2, p3, a0, a1, a2, a3, a4, m0, m1, m2, m3, m4, m5, m6, q1, q2, q3, q4, r1, r2, r3, r4, ⟨iC, tI, _⟩, _⟩ := T.fn
  refine wpAny_Call_Name_kw (ld_glob I hg hm ?_ hdb)
  refine PySem.W.callWith_K (h₀ := X.base) I.ok.mod.kin T.toCls.kC (thn (ha.run pos pins s σ H _ I h) fun us s1 hh => ?_) he hpl
  obtain ⟨vs, H1, I1, r1, y, n, ev, hz, hz2, q1⟩ := hh
  subst ev
  refine ⟨I1.kIn, ?_⟩
  cases r1 with
  | cons rv rn =>
    rename_i v' us'
    cases rn with
    | cons rv2 rn2 =>
    rename_i v2' us2'
    cases rn2
    obtain ⟨tv, rfl⟩ := rv
    obtain ⟨tn, rfl⟩ := rv2
    have hlim := I1.nolimit
    obtain ⟨mb, hb1, hb2⟩ := I1.mod.blt
    have G := I1.mod.glob.keeps I1.bk
    have hbb := hb1.keeps I1.bk
    obtain ⟨hp, g, dr, tk, os⟩ := s1
    show wpAny _ _ (call (.ref C) [.str y tv, .int n tn]) _ _ _
    refine wpAny_call (BX.made_code2 (mg := X.mg) (mb := mb) T I1.kIn hlim G hbb ((hb2 _ (by decide)).trans bt_super) hz hz2 iC tI (by have := hr.dp; omega) fun h' tk' e d kp be ⟨t1, hoe⟩ bd dne hns => ?_)
    show MkP X pins σ Q (.ref e) ⟨h', g, dr, tk', os⟩
    obtain ⟨G', g1, g2⟩ := restrict h' fun b => decide (b ≠ e)
    have gk : ∀ b, b ≠ e → G'.get? b = h'.get? b := fun b hb => g1 b (decide_eq_true hb)
    have ge : G'.get? e = none := g2 e (by simp)
    have od : ∀ b o, hp.get? b = some o → G'.get? b = some o := fun b o q => (gk b (Nat.ne_of_lt (Nat.lt_of_lt_of_le (Heap.lt_size q) be))).trans (kp b o q)
    have ob : ObjOk X.prog X.w (upd H1 d (.xd [(f2, .int n), (("code" : Str), .str y)])) G' d (.xd [(f2, .int n), (("code" : Str), .str y)]) := ⟨_, hns.at (fun o q => (gk d dne).trans q), fun f => relO_two f⟩
    have J : Inv X pins σ (upd H1 d (.xd [(f2, .int n), (("code" : Str), .str y)])) ⟨G', g, dr, tk', os⟩ := I1.laid (t' := tk') od bd ob
    refine ⟨e, _, _, ⟨G', g, dr, tk', os⟩, _, .ref C, some d, rfl, J, fun b o q => ?_, ge, hoe, ⟨rfl, rfl⟩, rfl, rfl, ?_, rfl, I1.bare, raises_own T.toCls.exC T.toCls.tyC, q1 d (I1.hok.fresh bd)⟩
    · by_cases hb : b = e
      · have q' : G'.get? b = some o := q
        rw [hb, ge] at q'; cases q'
      · exact (gk b hb).symm.trans q
    · rw [upd_ne (Ne.symm dne)]
      exact I1.hok.fresh be
theorem pmk_errN2 {x : Str} {f2 : Str} {e e2 : PySem.Expr} {ta : TA} {p pos : Pos} {k : Nat} (T : BX.ErrFn2 X.prog X.K C fI f2) (hm : X.mg x = some (.ref C)) (hr : L2H.RoomH k X.A) (ha : PA X [e, e2] ta) (hg : Gl X x := by rfl) (hdb : (x == ("__debug__" : Str)) = false := by decide)
    (he : starEach (e :: [e2]) X.env = (false, eval e X.env) :: starEach [e2] X.env := by rfl) (hpl : (backTo pos (starEach [e2] X.env)).any (·.1) = false := by rfl) :
    L2N.PMk X (.Call (.Name x p) [e, e2] [] pos) (tMkE2 C f2 ta) := by
  intro pins s σ H Q I h
  obtain ⟨qual, p1, p2, p3, a0, a1, a2, a3, a4, m0, m1, m2, m3, m4, m5, m6, q1, q2, q3, q4, r1, r2, r3, r4, ⟨iC, tI, _⟩, _⟩ := T.fn
  refine wpAny_Call_Name_kw (ld_glob I hg hm ?_ hdb)
  refine PySem.W.callWith_K (h₀ := X.base) I.ok.mod.kin T.toCls.kC (thn (ha.run pos pins s σ H _ I h) fun us s1 hh => ?_) he hpl
  obtain ⟨vs, H1, I1, r1, y, n, ev, hz, hz2, q1⟩ := hh
  subst ev
  refine ⟨I1.kIn, ?_⟩
  cases r1 with
  | cons rv rn =>
    rename_i v' us'
    cases rn with
    | cons rv2 rn2 =>
    rename_i v2' us2'
    cases rn2
    obtain ⟨tv, rfl⟩ := rv
    obtain ⟨tn, rfl⟩ := rv2
    have hlim := I1.nolimit
    obtain ⟨mb, hb1, hb2⟩ := I1.mod.blt
    have G := I1.mod.glob.keeps I1.bk
    have hbb := hb1.keeps I1.bk
    obtain ⟨hp, g, dr, tk, os⟩ := s1
    show wpAny _ _ (call (.ref C) [.str y tv, .int n tn]) _ _ _
    refine wpAny_call (BX.made_code2 (mg := X.mg) (mb := mb) T I1.kIn hlim G hbb ((hb2 _ (by decide)).trans bt_super) hz hz2 iC tI (by have := hr.dp; omega) fun h' tk' e d kp be ⟨t1, hoe⟩ bd dne hns => ?_)
    show L2N.MkP X pins σ Q (.ref e) ⟨h', g, dr, tk', os⟩
    obtain ⟨G', g1, g2⟩ := restrict h' fun b => decide (b ≠ e)
    have gk : ∀ b, b ≠ e → G'.get? b = h'.get? b := fun b hb => g1 b (decide_eq_true hb)
    have ge : G'.get? e = none := g2 e (by simp)
    have od : ∀ b o, hp.get? b = some o → G'.get? b = some o := fun b o q => (gk b (Nat.ne_of_lt (Nat.lt_of_lt_of_le (Heap.lt_size q) be))).trans (kp b o q)
    have ob : ObjOk X.prog X.w (upd H1 d (.xd [(f2, .int n), (("code" : Str), .str y)])) G' d (.xd [(f2, .int n), (("code" : Str), .str y)]) := ⟨_, hns.at (fun o q => (gk d dne).trans q), fun f => relO_two f⟩
    have J : Inv X pins σ (upd H1 d (.xd [(f2, .int n), (("code" : Str), .str y)])) ⟨G', g, dr, tk', os⟩ := I1.laid (t' := tk') od bd ob
    refine ⟨e, _, _, ⟨G', g, dr, tk', os⟩, _, .ref C, some d, rfl, J, fun b o q => ?_, ge, hoe, ⟨rfl, rfl, fun vs z => by cases z; rfl⟩, rfl, rfl, ?_, rfl, I1.bare, raises_own T.toCls.exC T.toCls.tyC, q1 d (I1.hok.fresh bd)⟩
    · by_cases hb : b = e
      · have q' : G'.get? b = some o := q
        rw [hb, ge] at q'; cases q'
      · exact (gk b hb).symm.trans q
    · rw [upd_ne (Ne.symm dne)]
      exact I1.hok.fresh be
end
end B

/-! raise C(code, line); except X as e: raise C(.., ..) -/
namespace B
open PySem L2
theorem pe_xfE {X : Cx} {a C : Addr} {oe : Obj} {cls : Value} {d : Option Addr} {pn : List (Addr × Obj)} {xe : Value → Shared → Prop} {e : PySem.Expr} {te : TE} {pos : Pos} {n : Str} (T : XfC X.K C) (hno : PySem.W.findIn X.K (.ref C) n = some none)
    (hz : L2N.Zn cls d oe) (hf : ∃ vs, oe.data = .fields vs) (he : PE (L2H.suiteE X a ((a, oe) :: pn) xe) e te) (hb : attributeBase e n X.env (eval e X.env) = eval e X.env := by rfl) :
    PE (L2H.suiteE X a ((a, oe) :: pn) xe) (.Attribute e n pos) (tXf a cls d C n te) := by
  refine ⟨fun pins s σ H Q I h => ?_⟩
  refine attr_of hb (thn (he.run pins s σ H _ I h) fun u s1 hh => ?_)
  obtain ⟨x, H1, I1, rx, ex, ec, dd, fs, v, ed, ea, l, q⟩ := hh
  subst ex
  obtain rfl : u = Value.ref a := rx
  subst ec
  subst ed
  obtain ⟨ha, _⟩ := I1.pin (a, oe) (List.mem_append_left _ List.mem_cons_self)
  obtain ⟨vs, hd⟩ := hf
  have hx : ObjOk X.prog X.w H1 s1.heap dd (.xd fs) := I1.hok dd _ ea
  obtain ⟨mA, hns, hr⟩ := hx
  obtain ⟨od, ho, hl⟩ := lookIn_ns hns
  obtain ⟨u, hu, ru⟩ := RelO.some_of (v := v) (o := mA n) (by rw [← l]; exact hr n)
  have J : PySem.W.InstAt s1.heap a oe C (some od) := ⟨ha, hz.1, by unfold PySem.W.notCls; rw [hd] <;> rfl, by rw [hz.2.1]; exact ho⟩
  exact HandSPX.exc_get I1.kIn J T.ga T.gg T.exC (PySem.W.findObj_own T.hdC hno rfl (by rw [hl, hu])) (handed_of ru) ⟨v, H1, I1.tok _, ru, q⟩
section
variable {K : PySem.W.Frag} {W : Type} {R : Rs W} {C : Cl} {κ κ2 κb κc κn : List Kd} {rk : Kd}
def rz2D (c : String) (f2 : Str) : List D → M W O
  | [.str y, .int n] => if y.length ≤ 1000 ∧ n.natAbs.log2 < 1920 then fun w => .exc c [(f2, .int n), ("code", .str y)] w else stk
  | _ => stk
def mRaise2 (c : String) (f2 : Str) (m : Rho → M W (List D)) : MS W := fun ρ => bnd (m ρ) (rz2D c f2)
def tRz2 (a : Addr) (f2 : Str) (wx : WX) (ta : TA) : TS := fun _ σ H => tMkE2 a f2 ta σ H fun cls d H' => wx cls d σ H'
theorem xRaise2 {a : Addr} {f2 : Str} {ta : TA} {m : Rho → M W (List D)} {c : String} (h : OkA K R C κ ta [.dat, .dat] m) (hc : C.cn c (.ref a)) : OkSx K R C κb κc rk κ (tRz2 a f2 C.wx ta) (mRaise2 c f2 m) κn := by
  intro S0 H0 w0 S H σ ρ w E rl q
  refine h S0 H0 w0 S H σ ρ w _ rl ?_
  unfold mRaise2 at q
  cases e : m ρ w with
  | stuck => rw [bnd_stuck e] at q; exact q.elim
  | exc c fs w1 => rw [bnd_exc e] at q; exact q
  | ok ds w1 =>
    rw [bnd_ok e] at q
    intro vs S1 H1 r1 s1 o1
    have dv := resAll_dats (by decide) o1
    unfold rz2D at q
    split at q
    · rename_i y n
      split at q
      · rename_i hy
        cases dv with
        | cons d1 dr =>
        cases d1
        cases dr with
        | cons d2 dr =>
        cases d2
        cases dr
        refine ⟨y, n, rfl, hy.1, hy.2, fun dd hd => ?_⟩
        exact q (.ref a) dd S1 (upd H1 dd (.xd [(f2, .int n), (("code" : Str), .str y)])) (r1.allocOwn hd) hc ⟨_, upd_same, r1.out.s_none hd, r1.out.nofp hd, rfl, rfl, rfl, rfl, trivial⟩
      · exact q.elim
    · exact q.elim
theorem okRaise2 {a : Addr} {f2 : Str} {ta : TA} {m : Rho → M W (List D)} {c : String} (h : OkA K R C κ ta [.dat, .dat] m) (hc : C.cn c (.ref a)) : OkS K R C κb κc rk κ (tRz2 a f2 C.wx ta) (mRaise2 c f2 m) κn := (xRaise2 h hc).weak
/-- try: body; except X as e: raise Y(.., ..) -/
def mTryA (catch_ : String → Bool) (c2 : String) (f2 : Str) (fx : List Nat) (i : Nat) (mb : MS W) (mh : List (Str × D) → Rho → M W (List D)) : MS W := fun ρ w => match mb ρ w with
  | .exc nm fs w' => if catch_ nm then bnd (noX (mh fs (hdRho ρ fx i))) (rz2D c2 f2) w' else .exc nm fs w'
  | r => r
theorem okTryA {n : Nat} {tb : WX → TS} {mb : MS W} {i : Nat} {c : Value} {f2 : Str} {aY : Addr} {c2 : String} {tA : Addr → Value → Option Addr → TA} {mh : List (Str × D) → Rho → M W (List D)} {catch_ : String → Bool} {fx : List Nat} {cn : String → Value → Prop} {wx : WX}
    (hb : ∀ wx, OkSx K R ⟨wx, cn⟩ κb κc rk κ (tb wx) mb κn) (hcat : ∀ nm cls, cn nm cls → PySem.W.exmOne K cls c = some (catch_ nm))
    (hh : ∀ nm a cls dd vs fs, cn nm cls → catch_ nm = true → FlatF vs fs → OkA K (hdR R a dd vs) ⟨fun _ _ _ _ => False, cn⟩ (hdK n i) (tA a cls (some dd)) [.dat, .dat] (mh fs))
    (hc2 : cn c2 (.ref aY)) (hfx : ∀ j ∈ fx, kd κ j = .dat := by decide) (hi : i < n := by decide) :
    OkS K R ⟨wx, cn⟩ κb κc rk κ (fun D σ H => tb (wAs K c i (fun a cls d => tRz2 aY f2 wx (tA a cls d)) wx D) D σ H) (mTryA catch_ c2 f2 fx i mb mh) κn := by
  intro S0 H0 w0 S H σ ρ w E rl q
  refine hb (wAs K c i (fun a cls d => tRz2 aY f2 wx (tA a cls d)) wx E) S0 H0 w0 S H σ ρ w E rl ?_
  unfold mTryA at q
  cases e : mb ρ w with
  | stuck => rw [e] at q; exact q
  | ok o w1 =>
    rw [e] at q
    cases o <;> exact q
  | exc nm fs w1 =>
    rw [e] at q
    intro cls dd S' H' r1 hc ⟨vs, x1, x2, x3, x4⟩
    refine ⟨catch_ nm, hcat nm cls hc, fun hy a ha => ?_, fun hno => ?_⟩
    · simp only [if_pos hy] at q
      have rh := rel_hd (n := n) (a := a) (i := i) hi r1 x1 x2 x3 hfx
      refine hh nm a cls dd vs fs hc hy x4 S' H' w1 S' H' _ _ w1 _ rh ?_
      cases e2 : mh fs (hdRho ρ fx i) w1 with
      | stuck => rw [bnd_stuck (show noX (mh fs (hdRho ρ fx i)) w1 = .stuck by unfold noX; rw [e2])] at q; exact q.elim
      | exc c2 f2 w2 => rw [bnd_stuck (show noX (mh fs (hdRho ρ fx i)) w1 = .stuck by unfold noX; rw [e2])] at q; exact q.elim
      | ok ds w2 =>
        rw [bnd_ok (show noX (mh fs (hdRho ρ fx i)) w1 = .ok ds w2 by unfold noX; rw [e2])] at q
        intro vs2 S2 H2 r2 s2 o2
        have dv := resAll_dats (by decide) o2
        unfold rz2D at q
        split at q
        · rename_i y n
          split at q
          · rename_i hy2
            cases dv with
            | cons d1 dr =>
            cases d1
            cases dr with
            | cons d2 dr =>
            cases d2
            cases dr
            have o3 := r1.out.trans (out_hd x1 x3 r2.out)
            refine ⟨y, n, rfl, hy2.1, hy2.2, fun d hd => ?_⟩
            exact q (.ref aY) d _ S2 (upd H2 d (.xd [(f2, .int n), (("code" : Str), .str y)])) (o3.allocOwn hd) hc2 ⟨_, upd_same, o3.s_none hd, o3.nofp hd, rfl, rfl, rfl, rfl, trivial⟩
          · exact q.elim
        · exact q.elim
    · simp only [if_neg (show ¬ catch_ nm = true by rw [hno]; exact Bool.false_ne_true)] at q
      exact q cls dd σ S' H' r1.out hc ⟨vs, x1, x2, x3, x4⟩
end
end B

/-! int(text), text.split(sep), text.find(sub, at) -/
namespace B
open PySem L2
section
variable {K : PySem.W.Frag} {W : Type} {R : Rs W} {C : Cl} {κ : List Kd}
def gIntS : OpN | [.str a] => if a.length ≤ 640 then (PySem.intText? a).map .int else none | _ => none
theorem cIntS : CbP K (fun xs H Q => ∃ a n, xs = [.str a] ∧ PySem.intText? a = some n ∧ a.length ≤ 640 ∧ Q (.int n) H) gIntS := by
  intro S H vs ds z Q sub hs hf q
  unfold gIntS at hf
  split at hf
  · split at hf
    · rename_i hl
      rename_i a
      cases e : PySem.intText? a with
      | none => rw [e] at hf; cases hf
      | some n =>
        rw [e] at hf
        cases hf
        obtain ⟨v, rfl, h⟩ := seenAll_1 hs
        rw [seen_str h]
        exact ⟨_, n, rfl, e, hl, q _ (.int _)⟩
    · cases hf
  · cases hf
/-! ### split -/
def spltD (b : Str) : D → M W D
  | .str a => if a.length ≤ 1000000 then ret (.list ((Txt.split a b).map .str)) else stk
  | _ => stk
def mSplit (b : Str) (m : ME W) : ME W := fun ρ => bnd (m ρ) (spltD b)
theorem dvs_strsOf {S : Hp} : ∀ (ys : List Str), DVs K S (ys.map V.str) (ys.map .str)
  | [] => .nil
  | y :: ys => .cons (.str y) (dvs_strsOf ys)
theorem okSplit {b : Str} {te : TE} {m : ME W} (h : OkE K R C κ te .dat m) (hb : (b.length == 0) = false) :
    OkE K R C κ (tM1 (fun x xs H Q => ∃ a b, x = .str a ∧ xs = [.str b] ∧ (b.length == 0) = false ∧ a.length + 2 ≤ sizeLine ∧ rNewStrs (Txt.split a b) H Q) te (tC (.str b))) .own (mSplit b m) := by
  intro S0 H0 w0 S H σ ρ w Q rl q
  refine h S0 H0 w0 S H σ ρ w _ rl ?_
  unfold mSplit at q
  cases e : m ρ w with
  | stuck => rw [bnd_stuck e] at q; exact q.elim
  | exc c fs w1 => rw [bnd_exc e] at q; exact q
  | ok d w1 =>
    rw [bnd_ok e] at q
    intro v S1 H1 r1 s1 o1
    unfold spltD at q
    split at q
    · rename_i a
      split at q
      · rename_i hl
        cases o1
        have z1 : sizeLine = 16777216 := sizeLine_eq
        exact ⟨⟨a, rfl⟩, a, b, rfl, rfl, hb, by rw [z1]; omega, fun p hp => q (.ref p) S1 _ (r1.allocOwn hp) s1 (res_new r1 hp (dvs_strsOf _))⟩
      · exact q.elim
    · exact q.elim
/-! ### find -/
def theS : D → M W Str | .str a => ret a | _ => stk
def gFnd3 (a : Str) : List D → Option D
  | [.str b, .int i] => some (.int (Txt.find3 a b i))
  | _ => none
def mFnd (mo : ME W) (m : Rho → M W (List D)) : ME W := fun ρ => bnd (mo ρ) fun d => bnd (theS d) fun a => bnd (m ρ) fun es => lift (gFnd3 a es)
theorem okFnd {to : TE} {ta : TA} {mo : ME W} {m : Rho → M W (List D)} (ho : OkE K R C κ to .dat mo) (ha : OkA K R C κ ta [.dat, .dat] m) :
    OkE K R C κ (tBM K "str" (fun x xs H Q => ∃ (a b : Str) (i : Int), x = .str a ∧ xs = [.str b, .int i] ∧ Q (.int (Txt.find3 a b i)) H) to ta) .dat (mFnd mo m) := by
  intro S0 H0 w0 S H σ ρ w Q rl q
  refine ho S0 H0 w0 S H σ ρ w _ rl ?_
  unfold mFnd at q
  cases e : mo ρ w with
  | stuck => rw [bnd_stuck e] at q; exact q.elim
  | exc c fs w1 => rw [bnd_exc e] at q; exact q
  | ok d w1 =>
    rw [bnd_ok e] at q
    intro v S1 H1 r1 s1 o1
    cases d with
    | str a =>
      cases o1
      rw [show (theS (.str a) : M W Str) = ret a from rfl, bnd_ret] at q
      refine ⟨rfl, ha S0 H0 w0 S1 H1 σ ρ w1 _ r1 ?_⟩
      cases e2 : m ρ w1 with
      | stuck => rw [bnd_stuck e2] at q; exact q.elim
      | exc c fs w2 => rw [bnd_exc e2] at q; exact q
      | ok es w2 =>
        rw [bnd_ok e2] at q
        intro vs S2 H2 r2 s2 o2
        have dv := resAll_dats (by decide) o2
        unfold gFnd3 at q
        split at q
        · cases dv with
          | cons d1 dr =>
          cases d1
          cases dr with
          | cons d2 dr =>
          cases d2
          cases dr
          exact ⟨_, _, _, rfl, rfl, q _ S2 H2 r2 (fun c o z => s2 c o (s1 c o z)) (.int _)⟩
        · exact q.elim
    | _ => exact q.elim
end
end B

/-! texts as lists of code points -/
namespace B
open PySem L2
section
variable {W α β : Type} {ρ : Rho} {a b c : ME W}
/-- the text of these code points -/
def T (l : List Nat) : D := .str ⟨l.toArray⟩
theorem T_of (x : Str) : (.str x : D) = T x.cps.toList := by unfold T; rfl
theorem T_str (l : List Nat) : T l = .str ⟨l.toArray⟩ := rfl
theorem T_inj {a b : List Nat} (h : T a = T b) : a = b := by
  unfold T at h
  injection h with h
  exact SX.S_inj h
def Lt (l : List Nat) : Prop := ∀ c ∈ l, c < 256
theorem lt_nil : Lt [] := fun _ h => by cases h
theorem Lt.app {a b : List Nat} (h : Lt a) (g : Lt b) : Lt (a ++ b) := fun c hc => (List.mem_append.mp hc).elim (h c) (g c)
theorem Lt.sub {a b : List Nat} (h : Lt b) (g : ∀ c ∈ a, c ∈ b) : Lt a := fun c hc => h c (g c hc)
theorem Lt.take {a : List Nat} {n : Nat} (h : Lt a) : Lt (a.take n) := h.sub fun _ hc => List.mem_of_mem_take hc
theorem Lt.drop {a : List Nat} {n : Nat} (h : Lt a) : Lt (a.drop n) := h.sub fun _ hc => List.mem_of_mem_drop hc
theorem strOk_T {l : List Nat} (h : Lt l) : PyData.strOk ⟨l.toArray⟩ = true := by
  unfold PyData.strOk
  rw [Array.all_eq_true_iff_forall_mem]
  intro c hc
  have hc' : c ∈ l := by simpa using hc
  have := h c hc'
  simp only [decide_eq_true_eq]
  omega
theorem t_eq {x y : List Nat} (hx : Lt x) (hy : Lt y) : gEq (T x) (T y) = some (.bool (decide (x = y))) := by
  unfold T
  rw [o_EqS (strOk_T hx) (strOk_T hy)]
  congr 3
  exact propext ⟨fun h => SX.S_inj h, fun h => by rw [h]⟩
theorem t_ne {x y : List Nat} (hx : Lt x) (hy : Lt y) : gNe (T x) (T y) = some (.bool (!decide (x = y))) := by
  unfold T
  rw [o_NeS (strOk_T hx) (strOk_T hy)]
  congr 4
  exact propext ⟨fun h => SX.S_inj h, fun h => by rw [h]⟩
theorem len_T (l : List Nat) : Str.length ⟨l.toArray⟩ = l.length := SX.S_len l
@[simp] theorem t_add (x y : List Nat) : gAddS (T x) (T y) = if x.length + y.length ≤ 1000000 then some (T (x ++ y)) else none := by
  unfold T
  rw [o_AddS, len_T, len_T, SX.S_cat]
@[simp] theorem t_len (x : List Nat) : gLenS [T x] = if x.length ≤ 1000000 then some (.int x.length) else none := by
  unfold T
  rw [o_LenS, len_T]
def cutL (l : List Nat) (lo hi : Option Int) : List Nat := (l.drop (HT.sIx l.length 0 lo)).take (HT.sIx l.length l.length hi - HT.sIx l.length 0 lo)
@[simp] theorem t_sl (l : List Nat) (lo hi : Option Int) : gSlStr (T l) lo hi = if l.length ≤ 1000000 then some (T (cutL l lo hi)) else none := by
  show (if Str.length ⟨l.toArray⟩ ≤ 1000000 then some (PyData.str (cutS ⟨l.toArray⟩ lo hi)) else none) = _
  rw [len_T]
  unfold cutS T cutL
  rw [len_T]
theorem cut_nat (l : List Nat) (i j : Nat) : cutL l (some (i : Int)) (some (j : Int)) = (l.drop i).take (j - i) := by
  unfold cutL
  rw [HT.sIx_nat, HT.sIx_nat]
  by_cases h : i ≤ l.length
  · rw [Nat.min_eq_left h]
    by_cases h2 : j ≤ l.length
    · rw [Nat.min_eq_left h2]
    · rw [Nat.min_eq_right (by omega), List.take_of_length_le (i := l.length - i) (by rw [List.length_drop]; exact Nat.le_refl _), List.take_of_length_le (by rw [List.length_drop]; omega)]
  · rw [Nat.min_eq_right (a := i) (b := l.length) (by omega), List.drop_length, List.drop_eq_nil_of_le (by omega), List.take_nil, List.take_nil]
theorem cut_to (l : List Nat) (j : Nat) : cutL l none (some (j : Int)) = l.take j := by
  have h := cut_nat l 0 j
  rw [List.drop_zero, Nat.sub_zero] at h
  exact h
theorem cut_from (l : List Nat) (i : Nat) : cutL l (some (i : Int)) none = l.drop i := by
  unfold cutL
  rw [HT.sIx_nat, HT.sIx_none]
  by_cases h : i ≤ l.length
  · rw [Nat.min_eq_left h]
    exact List.take_of_length_le (by rw [List.length_drop]; exact Nat.le_refl _)
  · rw [Nat.min_eq_right (by omega), List.drop_length, List.drop_eq_nil_of_le (by omega), List.take_nil]
theorem cut_1 (l : List Nat) : cutL l none (some 1) = l.take 1 := cut_to l 1
theorem cut_f1 (l : List Nat) : cutL l (some 1) none = l.drop 1 := cut_from l 1
theorem cut_inner {l : List Nat} (h : 2 ≤ l.length) : cutL l (some 1) (some (-1)) = (l.drop 1).take (l.length - 2) := by
  have h1 : HT.sIx l.length 0 (some 1) = min 1 l.length := HT.sIx_nat l.length 0 1
  have h2 : HT.sIx l.length l.length (some (-1)) = l.length - 1 := by
    show (if (-1 : Int) < 0 then ((-1 : Int) + (l.length : Int)).toNat else min (-1 : Int).toNat l.length) = _
    rw [if_pos (by omega)]
    omega
  unfold cutL
  rw [h1, h2, Nat.min_eq_left (by omega)]
  congr 1
theorem cut_butlast (l : List Nat) : cutL l none (some (-1)) = l.dropLast := by
  have h2 : HT.sIx l.length l.length (some (-1)) = l.length - 1 := by
    show (if (-1 : Int) < 0 then ((-1 : Int) + (l.length : Int)).toNat else min (-1 : Int).toNat l.length) = _
    rw [if_pos (by omega)]
    omega
  unfold cutL
  rw [h2, HT.sIx_none, List.drop_zero, Nat.sub_zero, List.dropLast_eq_take]
@[simp] theorem t_ix (l : List Nat) (i : Int) : gIxS (T l) (.int i) = if l.length ≤ 1000000 then (atI l i).map fun c => T [c] else none := by
  show (if Str.length ⟨l.toArray⟩ ≤ 1000000 then _ else none) = _
  rw [len_T]
  rfl
theorem sg_T (c : Nat) : sg c = T [c] := rfl
@[simp] theorem t_in (c : Nat) (z : List Nat) : gInC (T [c]) (T z) = some (.bool (decide (c ∈ z))) := rfl
@[simp] theorem t_notin (c : Nat) (z : List Nat) : gNotInC (T [c]) (T z) = some (.bool (!decide (c ∈ z))) := rfl
@[simp] theorem t_asS (l : List Nat) : (asS (T l) : M W (List D)) = ret (l.map fun c => T [c]) := rfl
@[simp] theorem t_isi (l : List Nat) : (isiD "str" (T l) : M W D) = ret (.bool true) := (rfl)
@[simp] theorem t_isi2 (l : List Nat) : (isiD "int" (T l) : M W D) = ret (.bool false) := (rfl)
@[simp] theorem isi_none : (isiD "str" .none : M W D) = ret (.bool false) := (rfl)
@[simp] theorem x_Split {s : Str} : mSplit s a ρ = bnd (a ρ) (spltD s) := (rfl)
@[simp] theorem x_Fnd {m : Rho → M W (List D)} : mFnd a m ρ = bnd (a ρ) fun d => bnd (theS d) fun x => bnd (m ρ) fun es => lift (gFnd3 x es) := (rfl)
@[simp] theorem t_theS (l : List Nat) : (theS (T l) : M W Str) = ret ⟨l.toArray⟩ := (rfl)
@[simp] theorem x_Raise2 {n : String} {f : Str} {m : Rho → M W (List D)} : mRaise2 n f m ρ = bnd (m ρ) (rz2D n f) := (rfl)
theorem split_nl {l : List Nat} (hl : l.length ≤ 1000000) : (spltD ⟨#[10]⟩ (T l) : M W D) = ret (.list ((TL.spl [10] 0 [] l).map T)) := by
  show (if Str.length ⟨l.toArray⟩ ≤ 1000000 then ret (PyData.list ((Txt.split ⟨l.toArray⟩ ⟨#[10]⟩).map .str)) else stk) = _
  rw [len_T, if_pos hl, SX.split_S (a := l) (b := [10]) (by decide) (by decide), List.map_map]
  rfl
/-- the first c from i on -/
theorem find_T {l : List Nat} {c i : Nat} (hi : i ≤ l.length) : gFnd3 ⟨l.toArray⟩ [T [c], .int (i : Int)] = some (.int (match (l.drop i).findIdx? (· == c) with | some k => ((i + k : Nat) : Int) | none => -1)) := by
  show some (PyData.int (Txt.find3 ⟨l.toArray⟩ ⟨#[c]⟩ (i : Int))) = _
  congr 2
  unfold Txt.find3
  rw [len_T]
  have e0 : fromIndex l.length (i : Int) = i := by
    unfold fromIndex
    rw [if_neg (by omega)]
    omega
  rw [e0]
  have hat : ∀ k, StrLaws.At (⟨l.toArray⟩ : Str) ⟨#[c]⟩ l.length k ↔ l[k]? = some c := fun k => by
    have h := StrLaws.subAt_one (⟨l.toArray⟩ : Str) c k
    rw [len_T] at h
    exact h
  have hd := StrLaws.occ_head_from (⟨l.toArray⟩ : Str) ⟨#[c]⟩ i 1 (Nat.le_refl _)
  rw [len_T] at hd
  rcases hd with ⟨h0, hn⟩ | ⟨k, r, h0, hk, ha, hn⟩
  · rw [h0]
    have e : (l.drop i).findIdx? (· == c) = none := by
      rw [List.findIdx?_eq_none_iff]
      intro x hx
      obtain ⟨j, hj⟩ := List.mem_iff_getElem?.mp hx
      rw [List.getElem?_drop] at hj
      have := hn (i + j) (by omega)
      rw [hat, hj] at this
      simp only [beq_eq_false_iff_ne]
      exact fun z => this (by rw [z])
    rw [e]
  · rw [h0]
    have hk2 := (hat k).mp ha
    have e : (l.drop i).findIdx? (· == c) = some (k - i) := by
      have hlt : k < l.length := by
        obtain ⟨h, _⟩ := List.getElem?_eq_some_iff.mp hk2
        exact h
      rw [List.findIdx?_eq_some_iff_getElem]
      refine ⟨by rw [List.length_drop]; omega, ?_, fun j hj => ?_⟩
      · have q : (l.drop i)[k - i]? = some c := by rw [List.getElem?_drop, show i + (k - i) = k by omega]; exact hk2
        obtain ⟨h, q2⟩ := List.getElem?_eq_some_iff.mp q
        rw [q2]
        exact beq_self_eq_true c
      · have q := hn (i + j) (by omega) (by omega)
        rw [hat] at q
        have hjl : j < (l.drop i).length := by rw [List.length_drop]; omega
        intro z
        apply q
        rw [← List.getElem?_drop, List.getElem?_eq_getElem hjl]
        rw [beq_iff_eq] at z
        rw [z]
    rw [e]
    show (k : Int) = ((i + (k - i) : Nat) : Int)
    omega
def numT (n : Int) : List Nat := (Str.ofString (toString n)).cps.toList
theorem t_strI {n : Int} (h : n.natAbs.log2 < 1920) : gStrI [.int n] = some (T (numT n)) := by
  show (if n.natAbs.log2 < 1920 then some (PyData.str (toString n)) else none) = _
  rw [if_pos h]
  exact congrArg some (T_of _)
theorem t_strX {n : Int} (h : n.natAbs.log2 < 1920) : gStrX [.int n] = some (T (numT n)) := by
  show (if n.natAbs.log2 < 1920 then some (PyData.str (toString n)) else none) = _
  rw [if_pos h]
  exact congrArg some (T_of _)
theorem numT_nat (n : Nat) : numT (n : Int) = TL.numL n := by
  unfold numT
  rw [SX.num_S]
theorem t_int {l : List Nat} (h : l.length ≤ 640) : gIntS [T l] = (PySem.intText? ⟨l.toArray⟩).map .int := by
  show (if Str.length ⟨l.toArray⟩ ≤ 640 then _ else none) = _
  rw [len_T, if_pos h]
theorem t_join (s : List Nat) (ys : List (List Nat)) (h : (ys.map (·.length)).sum + ys.length * s.length ≤ 1000000) : (jnD ⟨s.toArray⟩ (.list (ys.map T)) : M W D) = ret (T (TL.joinL s ys)) := by
  have e : ys.map T = (ys.map SX.S).map PyData.str := by rw [List.map_map]; rfl
  rw [e, jnD_of (by rw [SX.lens, List.length_map, len_T]; exact h)]
  show ret (PyData.str (Txt.join (SX.S s) (ys.map SX.S))) = _
  rw [SX.join_S]
  rfl
theorem rz2_of {n : String} {f : Str} {y : Str} {i : Int} (h : y.length ≤ 1000) (h2 : i.natAbs.log2 < 1920) : (rz2D n f [.str y, .int i] : M W O) = xcp n [(f, .int i), ("code", .str y)] := if_pos ⟨h, h2⟩
theorem x_TryAok {ct : String → Bool} {c2 : String} {f2 : Str} {fx : List Nat} {i : Nat} {mb : MS W} {mh : List (Str × D) → Rho → M W (List D)} {o : O} (h : mb ρ = ret o) : mTryA ct c2 f2 fx i mb mh ρ = ret o := by
  funext w
  unfold mTryA
  rw [h]
  rfl
theorem x_TryAx {ct : String → Bool} {c2 : String} {f2 : Str} {fx : List Nat} {i : Nat} {mb : MS W} {mh : List (Str × D) → Rho → M W (List D)} {nm : String} {fs : List (Str × D)} {ds : List D} (h : mb ρ = xcp nm fs) (hc : ct nm = true) (hh : mh fs (hdRho ρ fx i) = ret ds) :
    mTryA ct c2 f2 fx i mb mh ρ = rz2D c2 f2 ds := by
  funext w
  unfold mTryA
  rw [h]
  show (if ct nm = true then bnd (noX (mh fs (hdRho ρ fx i))) (rz2D c2 f2) w else _) = _
  rw [if_pos hc, hh]
  rfl
end
end B

namespace K02
open PySem L2 B
noncomputable def B_is_integer : MS Dr :=
  (mRet (mAndV (mIsi "int" (mVar 0)) (mNotV (mIsi "bool" (mVar 0)))))
noncomputable def F_is_integer : List D → M Dr D := mFn .dat 1 B_is_integer
noncomputable abbrev Be_is_text_1 : ME Dr :=
  (mOp gInC (mVar 1) (mC (.str "abcdefghijklmnopqrstuvwxyzABCDEFGHIJKLMNOPQRSTUVWXYZ0123456789 -._")))
noncomputable def B_is_text : MS Dr :=
  (mSeq (mIfS (mOr (mNot (mB (mIsi "str" (mVar 0)))) (mB (mOp gGt (mCB gLenS (mCons (mVar 0) mNil)) (mC (.int 20))))) (mRet (mC (.bool false))) mNx)
    (mRet (mCB gAllL (mCons (mLc (srcS (mVar 0)) [1] (gN 1) mYes Be_is_text_1) mNil))))
noncomputable def F_is_text : List D → M Dr D := mFn .dat 2 B_is_text
noncomputable def B_is_value : MS Dr :=
  (mRet (mOrV (mCall F_is_integer (mCons (mVar 0) mNil)) (mCall F_is_text (mCons (mVar 0) mNil))))
noncomputable def F_is_value : List D → M Dr D := mFn .dat 1 B_is_value
noncomputable def B_kind_of : MS Dr :=
  (mRet (mIf (mB (mIsi "str" (mVar 0))) (mC (.str "text")) (mC (.str "int"))))
noncomputable def F_kind_of : List D → M Dr D := mFn .dat 1 B_kind_of
noncomputable abbrev Be_is_row_1 : ME Dr :=
  (mAndV (mCall F_is_value (mCons (mVar 2) mNil)) (mOp gEq (mCall F_kind_of (mCons (mVar 2) mNil)) (mOp gIxT (mVar 3) (mC (.int 1)))))
noncomputable def B_is_row : MS Dr :=
  (mSeq (mIfS (mB (mOp gNe (mCB gLen (mCons (mVar 1) mNil)) (mCB gLen (mCons (mVar 0) mNil)))) (mRet (mC (.bool false))) mNx)
    (mRet (mCB gAllL (mCons (mLc (srcZip (mCons (mVar 1) (mCons (mVar 0) mNil))) [2, 3] (gT 2 (gCons' (gN 2) (gCons' (gN 3) gNil'))) mYes Be_is_row_1) mNil))))
noncomputable def F_is_row : List D → M Dr D := mFn .dat 4 B_is_row
noncomputable def B_check_event : MS Dr :=
  (mSeq (mAsgT (gT 2 (gCons' (gN 2) (gCons' (gN 3) gNil'))) (mVar 1))
    (mSeq (mIfS (mNot (mB (mChn gLe gLe (mC (.int 0)) (mVar 2) (mC (.int 1000000))))) (mRaise "StreamError" (mC (.str "time"))) mNx)
    (mIfS (mNot (mB (mCall F_is_row (mCons (mVar 0) (mCons (mVar 3) mNil))))) (mRaise "StreamError" (mC (.str "row"))) mNx)))
noncomputable def F_check_event : List D → M Dr D := mFn .dat 4 B_check_event
noncomputable def B_format_value : MS Dr :=
  (mRet (mIf (mB (mIsi "str" (mVar 0))) (mOp gAddS (mOp gAddS (mC (.str "\"")) (mVar 0)) (mC (.str "\""))) (mCB gStrX (mCons (mVar 0) mNil))))
noncomputable def F_format_value : List D → M Dr D := mFn .dat 1 B_format_value
noncomputable abbrev Be_format_events_1 : ME Dr :=
  (mCall F_format_value (mCons (mVar 5) mNil))
noncomputable abbrev Bd_format_events_2 : MS Dr :=
  (mMut 2 gApp (mCons (mOp gAddS (mJoin " " (mOpL gCat (mLst (mCons (mCB gStrI (mCons (mVar 3) mNil)) mNil)) (mLc (srcT (mVar 4)) [5] (gN 5) mYes Be_format_events_1))) (mC (.str "\n"))) mNil))
noncomputable def B_format_events : MS Dr :=
  (mSeq (mAsg 2 (mLst mNil))
    (mSeq (mFor (srcL (mVar 1)) (gT 2 (gCons' (gN 3) (gCons' (gN 4) gNil'))) Bd_format_events_2)
    (mRet (mJoin "" (mVar 2)))))
noncomputable def F_format_events : List D → M Dr D := mFn .dat 6 B_format_events
noncomputable abbrev Be_read_number_1 : ME Dr :=
  (mOp gInC (mVar 2) (mC (.str "0123456789")))
noncomputable def B_read_number : MS Dr :=
  (mSeq (mAsg 1 (mIf (mB (mOp gEq (mSl (liftP gSlStr) (mVar 0) mNoP (mPart (mC (.int 1)))) (mC (.str "-")))) (mSl (liftP gSlStr) (mVar 0) (mPart (mC (.int 1))) mNoP) (mVar 0)))
    (mSeq (mIfS (mOr (mNot (mB (mChn gLe gLe (mC (.int 1)) (mCB gLenS (mCons (mVar 1) mNil)) (mC (.int 10))))) (mNot (mB (mCB gAllL (mCons (mLc (srcS (mVar 1)) [2] (gN 2) mYes Be_read_number_1) mNil))))) (mRet (mC .none)) mNx)
    (mRet (mIf (mB (mOp gEq (mCB gStrI (mCons (mCB gIntS (mCons (mVar 0) mNil)) mNil)) (mVar 0))) (mCB gIntS (mCons (mVar 0) mNil)) (mC .none)))))
noncomputable def F_read_number : List D → M Dr D := mFn .dat 3 B_read_number
noncomputable abbrev Bd_read_value_1 : MS Dr :=
  (mSeq (mAsg 2 (mFnd (mVar 0) (mCons (mC (.str "\"")) (mCons (mOp gAdd (mVar 1) (mC (.int 1))) mNil))))
    (mSeq (mIfS (mOr (mB (mOp gLt (mVar 2) (mC (.int 0)))) (mNot (mB (mCall F_is_text (mCons (mSl (liftP gSlStr) (mVar 0) (mPart (mOp gAdd (mVar 1) (mC (.int 1)))) (mPart (mVar 2))) mNil))))) (mRet (mC .none)) mNx)
    (mRet (mTup (mCons (mSl (liftP gSlStr) (mVar 0) (mPart (mOp gAdd (mVar 1) (mC (.int 1)))) (mPart (mVar 2))) (mCons (mOp gAdd (mVar 2) (mC (.int 1))) mNil))))))
noncomputable def B_read_value : MS Dr :=
  (mSeq (mIfS (mB (mOp gEq (mSl (liftP gSlStr) (mVar 0) (mPart (mVar 1)) (mPart (mOp gAdd (mVar 1) (mC (.int 1))))) (mC (.str "\"")))) Bd_read_value_1 mNx)
    (mSeq (mAsg 2 (mFnd (mVar 0) (mCons (mC (.str " ")) (mCons (mVar 1) mNil))))
    (mSeq (mAsg 2 (mIf (mB (mOp gLt (mVar 2) (mC (.int 0)))) (mCB gLenS (mCons (mVar 0) mNil)) (mVar 2)))
    (mSeq (mAsg 3 (mCall F_read_number (mCons (mSl (liftP gSlStr) (mVar 0) (mPart (mVar 1)) (mPart (mVar 2))) mNil)))
    (mRet (mIf (mB (mOp gIsN (mVar 3) (mC .none))) (mC .none) (mTup (mCons (mVar 3) (mCons (mVar 2) mNil)))))))))
noncomputable def F_read_value : List D → M Dr D := mFn .dat 4 B_read_value
noncomputable abbrev Bt_read_line_1 : Rho → M Dr Bool :=
  (mB (mC (.bool true)))
noncomputable abbrev Bd_read_line_2 : MS Dr :=
  (mSeq (mAsg 3 (mCall F_read_value (mCons (mVar 0) (mCons (mVar 2) mNil))))
    (mSeq (mIfS (mB (mOp gIsN (mVar 3) (mC .none))) (mRet (mC .none)) mNx)
    (mSeq (mMut 1 gApp (mCons (mOp gIxT (mVar 3) (mC (.int 0))) mNil))
    (mSeq (mAsg 2 (mOp gIxT (mVar 3) (mC (.int 1))))
    (mSeq (mIfS (mB (mOp gEq (mVar 2) (mCB gLenS (mCons (mVar 0) mNil)))) (mRet (mVar 1)) mNx)
    (mSeq (mIfS (mB (mOp gNe (mOp gIxS (mVar 0) (mVar 2)) (mC (.str " ")))) (mRet (mC .none)) mNx)
    (mAug 2 gAdd (mC (.int 1)))))))))
noncomputable def B_read_line : MS Dr :=
  (mSeq (mAsg 1 (mLst mNil))
    (mSeq (mAsg 2 (mC (.int 0)))
    (mWhile Bt_read_line_1 Bd_read_line_2)))
noncomputable def F_read_line : List D → M Dr D := mFn .dat 4 B_read_line
noncomputable def B_read_event_text : MS Dr :=
  (mSeq (mAsg 1 (mCall F_read_line (mCons (mVar 0) mNil)))
    (mSeq (mIfS (mOr (mB (mOp gIsN (mVar 1) (mC .none))) (mOr (mB (mOp gLt (mCB gLen (mCons (mVar 1) mNil)) (mC (.int 2)))) (mB (mIsi "str" (mOp gIxL (mVar 1) (mC (.int 0))))))) (mRet (mC .none)) mNx)
    (mRet (mTup (mCons (mOp gIxL (mVar 1) (mC (.int 0))) (mCons (mCBU gListOf (mCons (mSl (liftL gSlLst) (mVar 1) (mPart (mC (.int 1))) mNoP) mNil)) mNil))))))
noncomputable def F_read_event_text : List D → M Dr D := mFn .dat 2 B_read_event_text
noncomputable def B_read_event : MS Dr :=
  (mSeq (mAsg 3 (mCall F_read_event_text (mCons (mVar 1) mNil)))
    (mSeq (mIfS (mB (mOp gIsN (mVar 3) (mC .none))) (mRaise2 "EventError" "line" (mCons (mC (.str "form")) (mCons (mVar 2) mNil))) mNx)
    (mSeq (mTryA (fun nm => nm == "StreamError") "EventError" "line" [2] 4 (mDrop (mCallX F_check_event (mCons (mVar 0) (mCons (mVar 3) mNil)))) (fun fs => mCons (mXf 4 "code" fs) (mCons (mVar 2) mNil)))
    (mRet (mVar 3)))))
noncomputable def F_read_event : List D → M Dr D := mFn .dat 5 B_read_event
noncomputable abbrev Bd_parse_events_1 : MS Dr :=
  (mMut 3 gApp (mCons (mCallX F_read_event (mCons (mVar 0) (mCons (mVar 5) (mCons (mVar 4) mNil)))) mNil))
noncomputable def B_parse_events : MS Dr :=
  (mSeq (mAsg 2 (mSplit "\n" (mVar 1)))
    (mSeq (mAsg 3 (mLst mNil))
    (mSeq (mFor (srcEnL (mCons (mSl (liftL gSlLst) (mVar 2) mNoP (mPart (mNeg (mC (.int 1))))) mNil)) (gT 2 (gCons' (gN 4) (gCons' (gN 5) gNil'))) Bd_parse_events_1)
    (mSeq (mIfS (mB (mOp gNe (mOp gIxL (mVar 2) (mNeg (mC (.int 1)))) (mC (.str "")))) (mRaise2 "EventError" "line" (mCons (mC (.str "form")) (mCons (mOp gMns (mCB gLen (mCons (mVar 2) mNil)) (mC (.int 1))) mNil))) mNx)
    (mRet (mVar 3))))))
noncomputable def F_parse_events : List D → M Dr D := mFn .dat 6 B_parse_events
noncomputable def B__law_pick : MS Dr :=
  (mRet (mOp gIxL (mVar 1) (mCall fTake (mCons (mVar 0) (mCons (mCB gLen (mCons (mVar 1) mNil)) mNil)))))
noncomputable def F__law_pick : List D → M Dr D := mFn .dat 2 B__law_pick
noncomputable abbrev Be__law_events_1 : ME Dr :=
  (mIf (mB (mOp gEq (mVar 8) (mC (.str "text")))) (mCall F__law_pick (mCons (mVar 0) (mCons (mLst (mCons (mC (.str "a")) (mCons (mC (.str "b")) (mCons (mC (.str "c d")) mNil)))) mNil))) (mOp gMns (mCall fTake (mCons (mVar 0) (mCons (mC (.int 9)) mNil))) (mC (.int 2))))
noncomputable abbrev Bd__law_events_2 : MS Dr :=
  (mSeq (mAsg 6 (mCBU gListOf (mCons (mLc (srcT (mVar 1)) [7, 8] (gT 2 (gCons' (gN 7) (gCons' (gN 8) gNil'))) mYes Be__law_events_1) mNil)))
    (mMut 4 gApp (mCons (mTup (mCons (mCall fTake (mCons (mVar 0) (mCons (mVar 3) mNil))) (mCons (mVar 6) mNil))) mNil)))
noncomputable def B__law_events : MS Dr :=
  (mSeq (mAsg 4 (mLst mNil))
    (mSeq (mFor (srcR1 (mCons (mCall fTake (mCons (mVar 0) (mCons (mOp gAdd (mVar 2) (mC (.int 1))) mNil))) mNil)) (gN 5) Bd__law_events_2)
    (mRet (mVar 4))))
noncomputable def F__law_events : List D → M Dr D := mFn .dat 9 B__law_events
noncomputable abbrev Bd__law_fields_1 : MS Dr :=
  (mMut 1 gApp (mCons (mTup (mCons (mOp gAddS (mCall F__law_pick (mCons (mVar 0) (mCons (mLst (mCons (mC (.str "a")) (mCons (mC (.str "b")) (mCons (mC (.str "x")) mNil)))) mNil))) (mCB gStrI (mCons (mVar 2) mNil))) (mCons (mCall F__law_pick (mCons (mVar 0) (mCons (mLst (mCons (mC (.str "int")) (mCons (mC (.str "text")) mNil))) mNil))) mNil))) mNil))
noncomputable def B__law_fields : MS Dr :=
  (mSeq (mAsg 1 (mLst mNil))
    (mSeq (mFor (srcR1 (mCons (mOp gAdd (mC (.int 1)) (mCall fTake (mCons (mVar 0) (mCons (mC (.int 4)) mNil)))) mNil)) (gN 2) Bd__law_fields_1)
    (mRet (mCBU gListOf (mCons (mVar 1) mNil)))))
noncomputable def F__law_fields : List D → M Dr D := mFn .dat 3 B__law_fields
noncomputable abbrev Bd__law_line_1 : MS Dr :=
  (mMut 1 gApp (mCons (mIf (mB (mIsi "str" (mVar 2))) (mOp gAddS (mOp gAddS (mC (.str "\"")) (mVar 2)) (mC (.str "\""))) (mCB gStrX (mCons (mVar 2) mNil))) mNil))
noncomputable def B__law_line : MS Dr :=
  (mSeq (mAsg 1 (mLst (mCons (mCB gStrI (mCons (mOp gIxT (mVar 0) (mC (.int 0))) mNil)) mNil)))
    (mSeq (mFor (srcT (mOp gIxT (mVar 0) (mC (.int 1)))) (gN 2) Bd__law_line_1)
    (mRet (mOp gAddS (mJoin " " (mVar 1)) (mC (.str "\n"))))))
noncomputable def F__law_line : List D → M Dr D := mFn .dat 3 B__law_line
noncomputable abbrev Bd__law_cut_1 : MS Dr :=
  (mSeq (mIfS (mB (mOp gEq (mVar 4) (mC (.str "\"")))) (mAsg 3 (mNotV (mVar 3))) mNx)
    (mIfS (mAnd (mB (mOp gEq (mVar 4) (mC (.str " ")))) (mNot (mB (mVar 3)))) (mSeq (mMut 1 gApp (mCons (mVar 2) mNil))
    (mAsg 2 (mC (.str "")))) (mAsg 2 (mOp gAddS (mVar 2) (mVar 4)))))
noncomputable def B__law_cut : MS Dr :=
  (mSeq (mAsg 1 (mLst mNil))
    (mSeq (mAsg 2 (mC (.str "")))
    (mSeq (mAsg 3 (mC (.bool false)))
    (mSeq (mFor (srcS (mVar 0)) (gN 4) Bd__law_cut_1)
    (mRet (mOpL gCat (mVar 1) (mLst (mCons (mVar 2) mNil))))))))
noncomputable def F__law_cut : List D → M Dr D := mFn .dat 5 B__law_cut
noncomputable abbrev Be__law_read_1 : ME Dr :=
  (mOp gInC (mVar 4) (mVar 1))
noncomputable abbrev Be__law_read_2 : ME Dr :=
  (mOp gNotInC (mVar 4) (mC (.str "0123456789")))
noncomputable def B__law_read : MS Dr :=
  (mSeq (mAsg 1 (mC (.str "abcdefghijklmnopqrstuvwxyzABCDEFGHIJKLMNOPQRSTUVWXYZ0123456789 -._")))
    (mSeq (mIfS (mAnd (mB (mOp gGe (mCB gLenS (mCons (mVar 0) mNil)) (mC (.int 2)))) (mAnd (mB (mOp gEq (mOp gIxS (mVar 0) (mC (.int 0))) (mC (.str "\"")))) (mB (mOp gEq (mOp gIxS (mVar 0) (mNeg (mC (.int 1)))) (mC (.str "\"")))))) (mSeq (mAsg 2 (mSl (liftP gSlStr) (mVar 0) (mPart (mC (.int 1))) (mPart (mNeg (mC (.int 1))))))
    (mRet (mIf (mAnd (mB (mOp gLe (mCB gLenS (mCons (mVar 2) mNil)) (mC (.int 20)))) (mB (mCB gAllL (mCons (mLc (srcS (mVar 2)) [4] (gN 4) mYes Be__law_read_1) mNil)))) (mVar 2) (mC .none)))) mNx)
    (mSeq (mAsg 3 (mIf (mB (mOp gEq (mSl (liftP gSlStr) (mVar 0) mNoP (mPart (mC (.int 1)))) (mC (.str "-")))) (mSl (liftP gSlStr) (mVar 0) (mPart (mC (.int 1))) mNoP) (mVar 0)))
    (mSeq (mIfS (mOr (mB (mOp gLt (mCB gLenS (mCons (mVar 3) mNil)) (mC (.int 1)))) (mOr (mB (mOp gGt (mCB gLenS (mCons (mVar 3) mNil)) (mC (.int 10)))) (mB (mCB gAnyL (mCons (mLc (srcS (mVar 3)) [4] (gN 4) mYes Be__law_read_2) mNil))))) (mRet (mC .none)) mNx)
    (mRet (mIf (mB (mOp gEq (mCB gStrI (mCons (mCB gIntS (mCons (mVar 0) mNil)) mNil)) (mVar 0))) (mCB gIntS (mCons (mVar 0) mNil)) (mC .none)))))))
noncomputable def F__law_read : List D → M Dr D := mFn .dat 5 B__law_read
noncomputable abbrev Be__law_due_1 : ME Dr :=
  (mCall F__law_read (mCons (mVar 7) mNil))
noncomputable abbrev Be__law_due_2 : ME Dr :=
  (mIf (mB (mIsi "str" (mVar 8))) (mC (.str "text")) (mC (.str "int")))
noncomputable abbrev Bd__law_due_3 : MS Dr :=
  (mSeq (mAsg 5 (mLc (srcL (mCall F__law_cut (mCons (mOp gIxL (mVar 2) (mVar 4)) mNil))) [7] (gN 7) mYes Be__law_due_1))
    (mSeq (mIfS (mOr (mB (mOp gInD (mC .none) (mVar 5))) (mOr (mB (mOp gLt (mCB gLen (mCons (mVar 5) mNil)) (mC (.int 2)))) (mB (mIsi "str" (mOp gIxL (mVar 5) (mC (.int 0))))))) (mRet (mTup (mCons (mC (.str "form")) (mCons (mVar 4) mNil)))) mNx)
    (mSeq (mIfS (mNot (mB (mChn gLe gLe (mC (.int 0)) (mOp gIxL (mVar 5) (mC (.int 0))) (mC (.int 1000000))))) (mRet (mTup (mCons (mC (.str "time")) (mCons (mVar 4) mNil)))) mNx)
    (mSeq (mAsg 6 (mCBU gListOf (mCons (mLc (srcL (mSl (liftL gSlLst) (mVar 5) (mPart (mC (.int 1))) mNoP)) [8] (gN 8) mYes Be__law_due_2) mNil)))
    (mSeq (mIfS (mB (mOp gNe (mVar 6) (mCBU gListOf (mCons (mLc (srcT (mVar 0)) [9, 10] (gT 2 (gCons' (gN 9) (gCons' (gN 10) gNil'))) mYes (mVar 10)) mNil)))) (mRet (mTup (mCons (mC (.str "row")) (mCons (mVar 4) mNil)))) mNx)
    (mMut 3 gApp (mCons (mTup (mCons (mOp gIxL (mVar 5) (mC (.int 0))) (mCons (mCBU gListOf (mCons (mSl (liftL gSlLst) (mVar 5) (mPart (mC (.int 1))) mNoP) mNil)) mNil))) mNil)))))))
noncomputable def B__law_due : MS Dr :=
  (mSeq (mAsg 2 (mSplit "\n" (mVar 1)))
    (mSeq (mAsg 3 (mLst mNil))
    (mSeq (mFor (srcR1 (mCons (mOp gMns (mCB gLen (mCons (mVar 2) mNil)) (mC (.int 1))) mNil)) (gN 4) Bd__law_due_3)
    (mRet (mIf (mB (mOp gEq (mOp gIxL (mVar 2) (mNeg (mC (.int 1)))) (mC (.str "")))) (mVar 3) (mTup (mCons (mC (.str "form")) (mCons (mOp gMns (mCB gLen (mCons (mVar 2) mNil)) (mC (.int 1))) mNil))))))))
noncomputable def F__law_due : List D → M Dr D := mFn .dat 11 B__law_due
noncomputable def B__law_told : MS Dr :=
  (mTry (fun nm => nm == "EventError") [] 2 (mRet (mCallX F_parse_events (mCons (mVar 0) (mCons (mVar 1) mNil)))) (fun fs => (mTup (mCons (mXf 2 "code" fs) (mCons (mXf 2 "line" fs) mNil)))))
noncomputable def F__law_told : List D → M Dr D := mFn .dat 3 B__law_told
noncomputable abbrev Be_law_1 : ME Dr :=
  (mCall F__law_line (mCons (mVar 10) mNil))
noncomputable abbrev Bd_law_2 : MS Dr :=
  (mSeq (mAsg 6 (mCall fTake (mCons (mVar 1) (mCons (mOp gAdd (mCB gLenS (mCons (mVar 4) mNil)) (mC (.int 1))) mNil))))
    (mSeq (mAsg 7 (mOp gIxS (mC (.str "0123456789 -\"aZ#\n")) (mCall fTake (mCons (mVar 1) (mCons (mC (.int 17)) mNil)))))
    (mSeq (mAsg 8 (mCall F__law_pick (mCons (mVar 1) (mCons (mLst (mCons (mC (.str "1000001 1\n")) (mCons (mC (.str "5\n")) (mCons (mC (.str "-1 2\n")) (mCons (mC (.str "05 1\n")) (mCons (mC (.str "\n")) (mCons (mOp gAddS (mOp gAddS (mC (.str "7 \"")) (mOp gRepS (mC (.str "x")) (mC (.int 21)))) (mC (.str "\"\n"))) (mCons (mC (.str "7 12345678901\n")) (mCons (mC (.str "\"a\" 1\n")) mNil))))))))) mNil))))
    (mSeq (mAsg 9 (mCall F__law_pick (mCons (mVar 1) (mCons (mLst (mCons (mOp gAddS (mSl (liftP gSlStr) (mVar 4) mNoP (mPart (mVar 6))) (mSl (liftP gSlStr) (mVar 4) (mPart (mOp gAdd (mVar 6) (mC (.int 1)))) mNoP)) (mCons (mOp gAddS (mOp gAddS (mSl (liftP gSlStr) (mVar 4) mNoP (mPart (mVar 6))) (mVar 7)) (mSl (liftP gSlStr) (mVar 4) (mPart (mVar 6)) mNoP)) (mCons (mOp gAddS (mOp gAddS (mSl (liftP gSlStr) (mVar 4) mNoP (mPart (mVar 6))) (mVar 7)) (mSl (liftP gSlStr) (mVar 4) (mPart (mOp gAdd (mVar 6) (mC (.int 1)))) mNoP)) (mCons (mOp gAddS (mVar 4) (mVar 8)) (mCons (mOp gAddS (mVar 4) (mSl (liftP gSlStr) (mVar 4) mNoP (mPart (mNeg (mC (.int 1)))))) mNil)))))) mNil))))
    (mIfS (mB (mOp gNe (mCall F__law_told (mCons (mVar 2) (mCons (mVar 9) mNil))) (mCall F__law_due (mCons (mVar 2) (mCons (mVar 9) mNil))))) (mRet (mC (.bool false))) mNx)))))
noncomputable def B_law : MS Dr :=
  (mSeq (mAsg 2 (mCall F__law_fields (mCons (mVar 1) mNil)))
    (mSeq (mAsg 3 (mCall F__law_events (mCons (mVar 1) (mCons (mVar 2) (mCons (mC (.int 6)) (mCons (mC (.int 1000001)) mNil))))))
    (mSeq (mAsg 4 (mJoin "" (mLc (srcL (mVar 3)) [10] (gN 10) mYes Be_law_1)))
    (mSeq (mIfS (mOr (mB (mOp gNe (mCall F_format_events (mCons (mVar 2) (mCons (mVar 3) mNil))) (mVar 4))) (mB (mOp gNe (mCall F__law_told (mCons (mVar 2) (mCons (mVar 4) mNil))) (mVar 3)))) (mRet (mC (.bool false))) mNx)
    (mSeq (mFor (srcR1 (mCons (mC (.int 8)) mNil)) (gN 5) Bd_law_2)
    (mRet (mC (.bool true))))))))
end K02

namespace K02
open PySem L2 B
def topS (i : Nat) : Stmt := PySem.Challenge.pw_latewater_k02_texts_of_events.main.body.getD i (.Pass ⟨0, 0, 0, 0⟩)
abbrev s__law_begin : Stmt := topS 31
abbrev s__law_take : Stmt := topS 32
abbrev s_is_integer : Stmt := topS 11
abbrev s_is_text : Stmt := topS 12
abbrev s_is_value : Stmt := topS 13
abbrev s_kind_of : Stmt := topS 14
abbrev s_is_row : Stmt := topS 17
abbrev s_check_event : Stmt := topS 18
abbrev s_format_value : Stmt := topS 22
abbrev s_format_events : Stmt := topS 23
abbrev s_read_number : Stmt := topS 24
abbrev s_read_value : Stmt := topS 25
abbrev s_read_line : Stmt := topS 26
abbrev s_read_event_text : Stmt := topS 27
abbrev s_read_event : Stmt := topS 28
abbrev s_parse_events : Stmt := topS 29
abbrev s__law_pick : Stmt := topS 33
abbrev s__law_events : Stmt := topS 34
abbrev s__law_fields : Stmt := topS 35
abbrev s__law_line : Stmt := topS 36
abbrev s__law_cut : Stmt := topS 37
abbrev s__law_read : Stmt := topS 38
abbrev s__law_due : Stmt := topS 39
abbrev s__law_told : Stmt := topS 40
abbrev s_law : Stmt := topS 41
structure Top (P : Program) (w : World) (K : PySem.W.Frag) (mg : Str → Option Value) : Prop where
  d_is_integer : Df K mg "is_integer" s_is_integer ["thing"]
  d_is_text : Df K mg "is_text" s_is_text ["thing"]
  d_is_value : Df K mg "is_value" s_is_value ["thing"]
  d_kind_of : Df K mg "kind_of" s_kind_of ["value"]
  d_is_row : Df K mg "is_row" s_is_row ["schema", "row"]
  d_check_event : Df K mg "check_event" s_check_event ["schema", "event"]
  d_format_value : Df K mg "format_value" s_format_value ["value"]
  d_format_events : Df K mg "format_events" s_format_events ["schema", "events"]
  d_read_number : Df K mg "read_number" s_read_number ["word"]
  d_read_value : Df K mg "read_value" s_read_value ["line", "at"]
  d_read_line : Df K mg "read_line" s_read_line ["line"]
  d_read_event_text : Df K mg "read_event_text" s_read_event_text ["line"]
  d_read_event : Df K mg "read_event" s_read_event ["schema", "line", "number"]
  d_parse_events : Df K mg "parse_events" s_parse_events ["schema", "text"]
  d__law_begin : Df K mg "_law_begin" s__law_begin ["script"]
  d__law_take : Df K mg "_law_take" s__law_take ["d", "many"]
  d__law_pick : Df K mg "_law_pick" s__law_pick ["d", "menu"]
  d__law_events : Df K mg "_law_events" s__law_events ["d", "fields", "most", "span"]
  d__law_fields : Df K mg "_law_fields" s__law_fields ["d"]
  d__law_line : Df K mg "_law_line" s__law_line ["event"]
  d__law_cut : Df K mg "_law_cut" s__law_cut ["line"]
  d__law_read : Df K mg "_law_read" s__law_read ["word"]
  d__law_due : Df K mg "_law_due" s__law_due ["schema", "text"]
  d__law_told : Df K mg "_law_told" s__law_told ["schema", "text"]
  d_law : Df K mg "law" s_law ["script"]
  b_abs : mg "abs" = none
  b_all : mg "all" = none
  b_any : mg "any" = none
  b_bool : mg "bool" = none
  b_enumerate : mg "enumerate" = none
  b_int : mg "int" = none
  b_isinstance : mg "isinstance" = none
  b_len : mg "len" = none
  b_list : mg "list" = none
  b_range : mg "range" = none
  b_str : mg "str" = none
  b_tuple : mg "tuple" = none
  b_zip : mg "zip" = none
  c_DIGITS : ∃ t, mg "DIGITS" = some (.str "0123456789" t)
  c_INT : ∃ t, mg "INT" = some (.str "int" t)
  c_LAST_TIME : ∃ t, mg "LAST_TIME" = some (.int 1000000 t)
  c_LONGEST_TEXT : ∃ t, mg "LONGEST_TEXT" = some (.int 20 t)
  c_MOST_DIGITS : ∃ t, mg "MOST_DIGITS" = some (.int 10 t)
  c_QUOTE : ∃ t, mg "QUOTE" = some (.str "\"" t)
  c_TEXT : ∃ t, mg "TEXT" = some (.str "text" t)
  c_TEXT_SIGNS : ∃ t, mg "TEXT_SIGNS" = some (.str "abcdefghijklmnopqrstuvwxyzABCDEFGHIJKLMNOPQRSTUVWXYZ0123456789 -._" t)
  e_StreamError : ∃ a fi, mg "StreamError" = some (.ref a) ∧ BX.ErrFn1 P K a fi
  e_EventError : ∃ a fi, mg "EventError" = some (.ref a) ∧ BX.ErrFn2 P K a fi "line"
  m_StreamError_EventError : ∀ a x, mg "StreamError" = some (.ref a) → mg "EventError" = some (.ref x) → PySem.W.exmOne K (.ref a) (.ref x) = some false
  m_EventError_EventError : ∀ a x, mg "EventError" = some (.ref a) → mg "EventError" = some (.ref x) → PySem.W.exmOne K (.ref a) (.ref x) = some true
  m_StreamError_StreamError : ∀ a x, mg "StreamError" = some (.ref a) → mg "StreamError" = some (.ref x) → PySem.W.exmOne K (.ref a) (.ref x) = some true
  m_EventError_StreamError : ∀ a x, mg "EventError" = some (.ref a) → mg "StreamError" = some (.ref x) → PySem.W.exmOne K (.ref a) (.ref x) = some false
abbrev cnL (mg : Str → Option Value) : String → Value → Prop := cnOf ["StreamError", "EventError"] mg
section
variable {P : Program} {w : World} {K : PySem.W.Frag} {mg : Str → Option Value}
theorem sc__law_take : FnScope ["d", "many", "small", "digit"] ["d", "many"] (defScope s__law_take) := ⟨rfl, rfl, rfl, by decide +kernel, rfl, by decide +kernel, by decide +kernel⟩
theorem hand__law_take (T : Top P w K mg) : Good P w K mg CX0 1 "_law_take" ["d", "many"] (spD K (cnL mg) false [.res, .dat] .dat fTake) := by
  refine T.d__law_take.good fun f fd F base => F.ok sc__law_take (spD_len rfl) (fun cdv A outer s H vs Q E hr h => ?_)
  refine ⟨tTake K, pss_cons (ps_if (PW.pt (pw_and (pt_cmpR op_eq (pe_ix ix_list (pv 0) pe_int (fun _ _ => rfl)) pe_int (nomark _)) (pw_and1 (pt_cmpR op_lt (pe_ix ix_list (pv 0) pe_int (fun _ _ => rfl)) (pe_callB call_len_seq (by rfl) T.b_len bt_len (pa_cons (pe_ix ix_list (pv 0) pe_int (fun _ _ => rfl)) pa_nil)) (nomark _)))))
      (pss_cons (ps_asg (pe_callB call_abs (by rfl) T.b_abs bt_abs (pa_cons (pe_callTy call_int1 (by rfl) T.b_int bt_int (pa_cons (pe_ix ix_list (pe_ix ix_list (pv 0) pe_int (fun _ _ => rfl)) (pe_ix ix_list (pv 0) pe_int (fun _ _ => rfl)) (fun _ _ => rfl)) pa_nil)) pa_nil)) (pg_sub (pv 0) pe_int set_list))
      (pss_cons (ps_asg (pe_op op_add (pe_ix ix_list (pv 0) pe_int (fun _ _ => rfl)) pe_int) (pg_sub (pv 0) pe_int set_list))
      (pss_one (ps_if (pt_cmpR op_lt (pe_ix ix_list (pv 0) pe_int (fun _ _ => rfl)) (pe_op op_pow pe_int pe_int) (nomark _))
        (pss_cons (ps_set (i := 2) sc__law_take.nd rfl (.inl rfl) (pe_callTy call_int1 (by rfl) T.b_int bt_int (pa_cons (pe_ix ix_list (pv 0) pe_int (fun _ _ => rfl)) pa_nil)))
        (pss_cons (ps_asg pe_int (pg_sub (pv 0) pe_int set_list))
        (pss_one (ps_ret (pe_op op_mod (pv 2) (pv 1)))))) pss_nil)))) pss_nil)
    (pss_cons (ps_if (pt_cmpR op_gt (pe_ix ix_list (pv 0) pe_int (fun _ _ => rfl)) pe_int (nomark _))
      (pss_cons (ps_set (i := 3) sc__law_take.nd rfl (.inl rfl) (pe_op op_mod (pe_callTy call_int1 (by rfl) T.b_int bt_int (pa_cons (pe_ix ix_list (pv 0) pe_int (fun _ _ => rfl)) pa_nil)) (pv 1)))
      (pss_cons (ps_asg (pe_op op_fdiv (pe_callTy call_int1 (by rfl) T.b_int bt_int (pa_cons (pe_ix ix_list (pv 0) pe_int (fun _ _ => rfl)) pa_nil)) (pv 1)) (pg_sub (pv 0) pe_int set_list))
      (pss_one (ps_ret (pv 3))))) pss_nil)
    (pss_cons (ps_asg (pe_op op_mod (pe_callTy call_int1 (by rfl) T.b_int bt_int (pa_cons (pe_op op_add (pe_op op_mul (pe_ix ix_list (pv 0) pe_int (fun _ _ => rfl)) pe_int) pe_int) pa_nil)) pe_int) (pg_sub (pv 0) pe_int set_list))
    (pss_one (ps_ret (pe_op op_mod (pe_callTy call_int1 (by rfl) T.b_int bt_int (pa_cons (pe_op op_fdiv (pe_ix ix_list (pv 0) pe_int (fun _ _ => rfl)) pe_int) pa_nil)) (pv 1)))))), ?_⟩
  obtain ⟨dp, sp, h⟩ := h
  exact take_reads h
theorem sc__law_begin : FnScope ["script", "seed", "cell"] ["script"] (defScope s__law_begin) := ⟨rfl, rfl, rfl, by decide +kernel, rfl, by decide +kernel, by decide +kernel⟩
theorem hand__law_begin (T : Top P w K mg) : Good P w K mg CX0 1 "_law_begin" ["script"] (spBegin K) := by
  refine T.d__law_begin.good fun f fd F base => F.ok sc__law_begin (fun vs H Q E h => ?_) (fun cdv A outer s H vs Q E hr h => ?_)
  · obtain ⟨a, ns, rfl, _⟩ := h
    rfl
  exact ⟨tBegin K, pss_cons (ps_set (i := 1) sc__law_begin.nd rfl (.inl rfl) pe_int)
    (pss_cons (ps_for PassesOwn.never rfl (pi_list (pv 0)) (pg_name (i := 2) sc__law_begin.nd rfl (.inl rfl))
      (pss_one (ps_set (i := 1) sc__law_begin.nd rfl (.inl rfl) (pe_op op_mod (pe_op op_add (pe_op op_add (pe_op op_mul (pv 1) pe_int) (pe_op op_mod (pe_callTy call_int1 (by rfl) T.b_int bt_int (pa_cons (pv 2) pa_nil)) pe_int)) pe_int) pe_int))))
    (pss_one (ps_ret (pe_lst (pa_cons (pe_callTy call_list_of (by rfl) T.b_list bt_list (pa_cons (pv 0) pa_nil)) (pa_cons pe_int (pa_cons pe_int (pa_cons (pv 1) pa_nil)))))))), begin_reads h⟩

theorem cat_EventError (T : Top P w K mg) {x : Addr} (hx : mg "EventError" = some (.ref x)) {nm : String} {cls : Value} (hc : cnL mg nm cls) : PySem.W.exmOne K cls (.ref x) = some (nm == "EventError") := by
  obtain ⟨h1, h2⟩ := hc
  simp only [List.mem_cons, List.not_mem_nil, or_false] at h1
  rcases h1 with rfl | rfl
  · obtain ⟨a, _, ha, _⟩ := T.e_StreamError
    have e := h2.symm.trans ha
    cases e
    exact T.m_StreamError_EventError _ _ ha hx
  · obtain ⟨a, _, ha, _⟩ := T.e_EventError
    have e := h2.symm.trans ha
    cases e
    exact T.m_EventError_EventError _ _ ha hx
theorem cat_StreamError (T : Top P w K mg) {x : Addr} (hx : mg "StreamError" = some (.ref x)) {nm : String} {cls : Value} (hc : cnL mg nm cls) : PySem.W.exmOne K cls (.ref x) = some (nm == "StreamError") := by
  obtain ⟨h1, h2⟩ := hc
  simp only [List.mem_cons, List.not_mem_nil, or_false] at h1
  rcases h1 with rfl | rfl
  · obtain ⟨a, _, ha, _⟩ := T.e_StreamError
    have e := h2.symm.trans ha
    cases e
    exact T.m_StreamError_StreamError _ _ ha hx
  · obtain ⟨a, _, ha, _⟩ := T.e_EventError
    have e := h2.symm.trans ha
    cases e
    exact T.m_EventError_StreamError _ _ ha hx
theorem sc_is_integer : FnScope ["thing"] ["thing"] (defScope s_is_integer) := ⟨rfl, rfl, rfl, by decide +kernel, rfl, by decide +kernel, by decide +kernel⟩
theorem ok_is_integer 
    (T : Top P w K mg) : Good P w K mg CX0 1 "is_integer" ["thing"] (spD K (cnL mg) false [.dat] .dat (mFn .dat 1 B_is_integer)) := by
  refine T.d_is_integer.good fun f fd F base => F.ok sc_is_integer (spD_len rfl) (fun cdv A outer s H vs Q E hr h => ?_)
  refine ⟨_, (pss_one (ps_ret (pe_and (pe_callB (kIsi (K := K) rfl) (by rfl) T.b_isinstance bt_isinstance (pa_cons (pv 0) (pa_cons (pe_bltn (v := .ty "int") (by rfl) T.b_int bt_int rfl) pa_nil))) (pe_one (pe_not (pe_callB (kIsi (K := K) rfl) (by rfl) T.b_isinstance bt_isinstance (pa_cons (pv 0) (pa_cons (pe_bltn (v := .ty "bool") (by rfl) T.b_bool bt_bool rfl) pa_nil)))))))), ?_⟩
  obtain ⟨dp, sp, h⟩ := h
  exact fn0 (m := B_is_integer) (rk := .dat) (κb := [.dat]) (κc := [.dat]) (κ := [.dat]) (κn := [.dat]) ((okRet (gAndV (okIsi (T := "int") (okVar (by rfl))) (gNotV (okIsi (T := "bool") (okVar (by rfl))))))) h
theorem sc_is_text : FnScope ["thing", "sign"] ["thing"] (defScope s_is_text) := ⟨rfl, rfl, rfl, by decide +kernel, rfl, by decide +kernel, by decide +kernel⟩
theorem ok_is_text 
    (T : Top P w K mg) : Good P w K mg CX0 1 "is_text" ["thing"] (spD K (cnL mg) false [.dat] .dat (mFn .dat 2 B_is_text)) := by
  obtain ⟨tk_LONGEST_TEXT, hc_LONGEST_TEXT⟩ := T.c_LONGEST_TEXT
  obtain ⟨tk_TEXT_SIGNS, hc_TEXT_SIGNS⟩ := T.c_TEXT_SIGNS
  refine T.d_is_text.good fun f fd F base => F.ok sc_is_text (spD_len rfl) (fun cdv A outer s H vs Q E hr h => ?_)
  refine ⟨_, (pss_cons (ps_if (PW.pt (pw_or (pt_not (pt_val (pe_callB (kIsi (K := K) rfl) (by rfl) T.b_isinstance bt_isinstance (pa_cons (pv 0) (pa_cons (pe_bltn (v := .ty "str") (by rfl) T.b_str bt_str rfl) pa_nil))))) (pw_or1 (pt_cmpR op_gt (pe_callB call_len_str (by rfl) T.b_len bt_len (pa_cons (pv 0) pa_nil)) (pe_glob (v := .int 20) (by rfl) hc_LONGEST_TEXT ⟨_, rfl⟩) (nomark _))))) (pss_one (ps_ret pe_bl)) pss_nil)
    (pss_one (ps_ret (pe_callB (kAllL (K := K) rfl rfl) (by rfl) T.b_all bt_all (pa_cons (pe_lc (own := [("sign", 1)]) rfl sc_is_text.nd (pi_str (pv 0)) (blkOk_by (own := [("sign", 1)]) (N := ["thing", "sign"]) (sc := defScope s_is_text) (by decide +kernel)) (fun _ _ _ _ _ => by exact (pgN (i := 1) sc_is_text.nd rfl (Or.inl rfl) (Or.inr rfl))) (fun _ _ _ _ _ => by exact pts_nil) (fun _ _ _ _ _ => by exact (pe_cmpR op_in_sign (pv 1) (pe_glob (v := .str "abcdefghijklmnopqrstuvwxyzABCDEFGHIJKLMNOPQRSTUVWXYZ0123456789 -._") (by rfl) hc_TEXT_SIGNS ⟨_, rfl⟩) rfl))) pa_nil))))), ?_⟩
  obtain ⟨dp, sp, h⟩ := h
  exact fn0 (m := B_is_text) (rk := .dat) (κb := [.dat, .dat]) (κc := [.dat, .dat]) (κ := [.dat, .dat]) (κn := [.dat, .dat]) ((okSeq (okIfS (okOr (okNot (okTB (okIsi (T := "str") (okVar (by rfl))))) (okTest (gOp oGt (gCB cLenS (okCons (okVar (by rfl)) okNil)) okInt))) (okRet okBl) okNext)
    (okRet (gCB cAllL (okLast (okLc (vs := [1]) (OkI.c (gIStr (okVar (by rfl)))) okGName okYes (gOp oInC (okVar (by rfl)) okStr))))))) h
theorem sc_is_value : FnScope ["thing"] ["thing"] (defScope s_is_value) := ⟨rfl, rfl, rfl, by decide +kernel, rfl, by decide +kernel, by decide +kernel⟩
theorem ok_is_value 
    (T : Top P w K mg)
    (h_is_integer : Good P w K mg CX0 1 "is_integer" ["thing"] (spD K (cnL mg) false [.dat] .dat F_is_integer))
    (h_is_text : Good P w K mg CX0 1 "is_text" ["thing"] (spD K (cnL mg) false [.dat] .dat F_is_text)) : Good P w K mg CX0 2 "is_value" ["thing"] (spD K (cnL mg) false [.dat] .dat (mFn .dat 1 B_is_value)) := by
  obtain ⟨a_is_integer, fd_is_integer, g_is_integer, k_is_integer, b_is_integer, _, G_is_integer⟩ := h_is_integer
  obtain ⟨a_is_text, fd_is_text, g_is_text, k_is_text, b_is_text, _, G_is_text⟩ := h_is_text
  refine T.d_is_value.good fun f fd F base => F.ok sc_is_value (spD_len rfl) (fun cdv A outer s H vs Q E hr h => ?_)
  refine ⟨_, (pss_one (ps_ret (pe_or (pe_call (G_is_integer base) (hr.mono (by decide)) (by rfl) g_is_integer k_is_integer b_is_integer .nil pass0 (pa_cons (pv 0) pa_nil)) (pe_one (pe_call (G_is_text base) (hr.mono (by decide)) (by rfl) g_is_text k_is_text b_is_text .nil pass0 (pa_cons (pv 0) pa_nil)))))), ?_⟩
  obtain ⟨dp, sp, h⟩ := h
  exact fn0 (m := B_is_value) (rk := .dat) (κb := [.dat]) (κc := [.dat]) (κ := [.dat]) (κn := [.dat]) ((okRet (gOrV (gCall (rk := .dat) (okCons (okVar (by rfl)) okNil)) (gCall (rk := .dat) (okCons (okVar (by rfl)) okNil))))) h
theorem sc_kind_of : FnScope ["value"] ["value"] (defScope s_kind_of) := ⟨rfl, rfl, rfl, by decide +kernel, rfl, by decide +kernel, by decide +kernel⟩
theorem ok_kind_of 
    (T : Top P w K mg) : Good P w K mg CX0 1 "kind_of" ["value"] (spD K (cnL mg) false [.dat] .dat (mFn .dat 1 B_kind_of)) := by
  obtain ⟨tk_INT, hc_INT⟩ := T.c_INT
  obtain ⟨tk_TEXT, hc_TEXT⟩ := T.c_TEXT
  refine T.d_kind_of.good fun f fd F base => F.ok sc_kind_of (spD_len rfl) (fun cdv A outer s H vs Q E hr h => ?_)
  refine ⟨_, (pss_one (ps_ret (pe_ifExp (pt_val (pe_callB (kIsi (K := K) rfl) (by rfl) T.b_isinstance bt_isinstance (pa_cons (pv 0) (pa_cons (pe_bltn (v := .ty "str") (by rfl) T.b_str bt_str rfl) pa_nil)))) (pe_glob (v := .str "text") (by rfl) hc_TEXT ⟨_, rfl⟩) (pe_glob (v := .str "int") (by rfl) hc_INT ⟨_, rfl⟩)))), ?_⟩
  obtain ⟨dp, sp, h⟩ := h
  exact fn0 (m := B_kind_of) (rk := .dat) (κb := [.dat]) (κc := [.dat]) (κ := [.dat]) (κn := [.dat]) ((okRet (okIf (okTB (okIsi (T := "str") (okVar (by rfl)))) okStr okStr))) h
theorem sc_is_row : FnScope ["schema", "row", "value", "field"] ["schema", "row"] (defScope s_is_row) := ⟨rfl, rfl, rfl, by decide +kernel, rfl, by decide +kernel, by decide +kernel⟩
theorem ok_is_row 
    (T : Top P w K mg)
    (h_is_value : Good P w K mg CX0 2 "is_value" ["thing"] (spD K (cnL mg) false [.dat] .dat F_is_value))
    (h_kind_of : Good P w K mg CX0 1 "kind_of" ["value"] (spD K (cnL mg) false [.dat] .dat F_kind_of)) : Good P w K mg CX0 3 "is_row" ["schema", "row"] (spD K (cnL mg) false [.dat, .dat] .dat (mFn .dat 4 B_is_row)) := by
  obtain ⟨a_is_value, fd_is_value, g_is_value, k_is_value, b_is_value, _, G_is_value⟩ := h_is_value
  obtain ⟨a_kind_of, fd_kind_of, g_kind_of, k_kind_of, b_kind_of, _, G_kind_of⟩ := h_kind_of
  refine T.d_is_row.good fun f fd F base => F.ok sc_is_row (spD_len rfl) (fun cdv A outer s H vs Q E hr h => ?_)
  refine ⟨_, (pss_cons (ps_if (pt_cmpR (opNe (K := K) hr.units rfl) (pe_callB (kLen (K := K) rfl) (by rfl) T.b_len bt_len (pa_cons (pv 1) pa_nil)) (pe_callB (kLen (K := K) rfl) (by rfl) T.b_len bt_len (pa_cons (pv 0) pa_nil)) (nomark _)) (pss_one (ps_ret pe_bl)) pss_nil)
    (pss_one (ps_ret (pe_callB (kAllL (K := K) rfl rfl) (by rfl) T.b_all bt_all (pa_cons (pe_lc (own := [("value", 2), ("field", 3)]) rfl sc_is_row.nd (kZip (K := K) rfl (by rfl) T.b_zip (pa_cons (pv 1) (pa_cons (pv 0) pa_nil))) (blkOk_by (own := [("value", 2), ("field", 3)]) (N := ["schema", "row", "value", "field"]) (sc := defScope s_is_row) (by decide +kernel)) (fun _ _ _ _ _ => by exact (pgT (K := K) (n := 2) rfl (pgsC (pgN (i := 2) sc_is_row.nd rfl (Or.inl rfl) (Or.inr rfl)) (pgsC (pgN (i := 3) sc_is_row.nd rfl (Or.inl rfl) (Or.inr rfl)) pgs_nil rfl) rfl) rfl rfl rfl)) (fun _ _ _ _ _ => by exact pts_nil) (fun _ _ _ _ _ => by exact (pe_and (pe_call (G_is_value base) (hr.mono (by decide)) (by rfl) g_is_value k_is_value b_is_value .nil pass0 (pa_cons (pv 2) pa_nil)) (pe_one (pe_cmpR (opEq (K := K) hr.units rfl) (pe_call (G_kind_of base) (hr.mono (by decide)) (by rfl) g_kind_of k_kind_of b_kind_of .nil pass0 (pa_cons (pv 2) pa_nil)) (pe_ix (kIxT (K := K) rfl) (pv 3) pe_int (fun _ _ => rfl)) (nomark _)))))) pa_nil))))), ?_⟩
  obtain ⟨dp, sp, h⟩ := h
  exact fn0 (m := B_is_row) (rk := .dat) (κb := [.dat, .dat, .dat, .dat]) (κc := [.dat, .dat, .dat, .dat]) (κ := [.dat, .dat, .dat, .dat]) (κn := [.dat, .dat, .dat, .dat]) ((okSeq (okIfS (okTest (gOp oNe (gCB cLen (okCons (okVar (by rfl)) okNil)) (gCB cLen (okCons (okVar (by rfl)) okNil)))) (okRet okBl) okNext)
    (okRet (gCB cAllL (okLast (okLc (vs := [2, 3]) (OkI.c (okZip (okCons (okVar (by rfl)) (okCons (okVar (by rfl)) okNil)))) (okGTup (okGCons okGName (okGCons okGName okGNil))) okYes (gAndV (gCall (rk := .dat) (okCons (okVar (by rfl)) okNil)) (gOp oEq (gCall (rk := .dat) (okCons (okVar (by rfl)) okNil)) (gOp oIxT (okVar (by rfl)) okInt))))))))) h
theorem sc_check_event : FnScope ["schema", "event", "time", "row"] ["schema", "event"] (defScope s_check_event) := ⟨rfl, rfl, rfl, by decide +kernel, rfl, by decide +kernel, by decide +kernel⟩
theorem ok_check_event 
    (T : Top P w K mg)
    (h_is_row : Good P w K mg CX0 3 "is_row" ["schema", "row"] (spD K (cnL mg) false [.dat, .dat] .dat F_is_row)) : Good P w K mg (L2N.CX P w) 4 "check_event" ["schema", "event"] (spD K (cnL mg) true [.dat, .dat] .dat (mFn .dat 4 B_check_event)) := by
  obtain ⟨tk_LAST_TIME, hc_LAST_TIME⟩ := T.c_LAST_TIME
  obtain ⟨ad_StreamError, fi_StreamError, hm_StreamError, er_StreamError⟩ := T.e_StreamError
  obtain ⟨a_is_row, fd_is_row, g_is_row, k_is_row, b_is_row, _, G_is_row⟩ := h_is_row
  refine T.d_check_event.good fun f fd F base => okXN F sc_check_event (spD_len rfl) (fun cdv A outer s H vs Q E hr h => ?_)
  have tk : L2N.Takes (cxOf (L2N.CX P w) P w K mg base ["schema", "event", "time", "row"] "check_event" (defScope s_check_event) f cdv A outer s H E) (fun cls d _ H => E cls d H) := L2N.takes_of rfl rfl rfl rfl
  refine ⟨_, (pss_cons (ps_asg (pv 1) (pgT (K := K) (n := 2) rfl (pgsC (pgN (i := 2) sc_check_event.nd rfl (Or.inl rfl) (Or.inl rfl)) (pgsC (pgN (i := 3) sc_check_event.nd rfl (Or.inl rfl) (Or.inl rfl)) pgs_nil rfl) rfl) rfl rfl rfl))
    (pss_cons (ps_if (pt_not (pt_chain op_le op_le pe_int (pv 2) (pe_glob (v := .int 1000000) (by rfl) hc_LAST_TIME ⟨_, rfl⟩))) (pss_one (L2N.ps_raise rfl tk (pmk_errN er_StreamError hm_StreamError (L2H.roomH_of hr) (pa_cons pe_str pa_nil)))) pss_nil)
    (pss_one (ps_if (pt_not (pt_val (pe_call (G_is_row base) (hr.mono (by decide)) (by rfl) g_is_row k_is_row b_is_row .nil pass0 (pa_cons (pv 0) (pa_cons (pv 3) pa_nil))))) (pss_one (L2N.ps_raise rfl tk (pmk_errN er_StreamError hm_StreamError (L2H.roomH_of hr) (pa_cons pe_str pa_nil)))) pss_nil)))), ?_⟩
  obtain ⟨dp, sp, h⟩ := h
  exact fnX (m := B_check_event) (rk := .dat) (κb := [.dat, .dat, .dat, .dat]) (κc := [.dat, .dat, .dat, .dat]) (κ := [.dat, .dat, .dat, .dat]) (κn := [.dat, .dat, .dat, .dat]) ((okSeq (okAsgT (okVar (by rfl)) (okGTup (okGCons okGName (okGCons okGName okGNil))))
    (okSeq (okIfS (okNot (okTest (gChain oLe oLe okInt (okVar (by rfl)) okInt))) (okRaise okStr ⟨by decide, hm_StreamError⟩) okNext)
    (okIfS (okNot (okTB (gCall (rk := .dat) (okCons (okVar (by rfl)) (okCons (okVar (by rfl)) okNil))))) (okRaise okStr ⟨by decide, hm_StreamError⟩) okNext)))) h
theorem sc_format_value : FnScope ["value"] ["value"] (defScope s_format_value) := ⟨rfl, rfl, rfl, by decide +kernel, rfl, by decide +kernel, by decide +kernel⟩
theorem ok_format_value 
    (T : Top P w K mg) : Good P w K mg CX0 1 "format_value" ["value"] (spD K (cnL mg) false [.dat] .dat (mFn .dat 1 B_format_value)) := by
  obtain ⟨tk_QUOTE, hc_QUOTE⟩ := T.c_QUOTE
  refine T.d_format_value.good fun f fd F base => F.ok sc_format_value (spD_len rfl) (fun cdv A outer s H vs Q E hr h => ?_)
  refine ⟨_, (pss_one (ps_ret (pe_ifExp (pt_val (pe_callB (kIsi (K := K) rfl) (by rfl) T.b_isinstance bt_isinstance (pa_cons (pv 0) (pa_cons (pe_bltn (v := .ty "str") (by rfl) T.b_str bt_str rfl) pa_nil)))) (pe_op op_add_str (pe_op op_add_str (pe_glob (v := .str "\"") (by rfl) hc_QUOTE ⟨_, rfl⟩) (pv 0)) (pe_glob (v := .str "\"") (by rfl) hc_QUOTE ⟨_, rfl⟩)) (pe_callTy kStrX (by rfl) T.b_str bt_str (pa_cons (pv 0) pa_nil))))), ?_⟩
  obtain ⟨dp, sp, h⟩ := h
  exact fn0 (m := B_format_value) (rk := .dat) (κb := [.dat]) (κc := [.dat]) (κ := [.dat]) (κn := [.dat]) ((okRet (okIf (okTB (okIsi (T := "str") (okVar (by rfl)))) (gOp oAddS (gOp oAddS okStr (okVar (by rfl))) okStr) (gCB cStrX (okCons (okVar (by rfl)) okNil))))) h
theorem sc_format_events : FnScope ["schema", "events", "lines", "time", "row", "value"] ["schema", "events"] (defScope s_format_events) := ⟨rfl, rfl, rfl, by decide +kernel, rfl, by decide +kernel, by decide +kernel⟩
theorem ok_format_events 
    (T : Top P w K mg)
    (h_format_value : Good P w K mg CX0 1 "format_value" ["value"] (spD K (cnL mg) false [.dat] .dat F_format_value)) : Good P w K mg CX0 2 "format_events" ["schema", "events"] (spD K (cnL mg) false [.dat, .dat] .dat (mFn .dat 6 B_format_events)) := by
  obtain ⟨a_format_value, fd_format_value, g_format_value, k_format_value, b_format_value, _, G_format_value⟩ := h_format_value
  refine T.d_format_events.good fun f fd F base => F.ok sc_format_events (spD_len rfl) (fun cdv A outer s H vs Q E hr h => ?_)
  refine ⟨_, (pss_cons (ps_set (i := 2) sc_format_events.nd rfl (Or.inl rfl) (pe_lst pa_nil))
    (pss_cons (ps_for PassesOwn.never rfl (pi_list (pv 1)) (pgT (K := K) (n := 2) rfl (pgsC (pgN (i := 3) sc_format_events.nd rfl (Or.inl rfl) (Or.inl rfl)) (pgsC (pgN (i := 4) sc_format_events.nd rfl (Or.inl rfl) (Or.inl rfl)) pgs_nil rfl) rfl) rfl rfl rfl) (pss_one (ps_expr (pe_bm PySem.F.plainAttrs_list PySem.F.slot_list_append PySem.F.type_list_append mt_append (pv 2) (pa_cons (pe_op op_add_str (kJoin (K := K) rfl pe_str (pe_op op_cat (pe_lst (pa_cons (pe_callTy call_str_int (by rfl) T.b_str bt_str (pa_cons (pv 3) pa_nil)) pa_nil)) (pe_lc (own := [("value", 5)]) rfl sc_format_events.nd (pi_tup (pv 4)) (blkOk_by (own := [("value", 5)]) (N := ["schema", "events", "lines", "time", "row", "value"]) (sc := defScope s_format_events) (by decide +kernel)) (fun _ _ _ _ _ => by exact (pgN (i := 5) sc_format_events.nd rfl (Or.inl rfl) (Or.inr rfl))) (fun _ _ _ _ _ => by exact pts_nil) (fun _ _ _ _ _ => by exact (pe_call (G_format_value base) (hr.mono (by decide)) (by rfl) g_format_value k_format_value b_format_value .nil pass0 (pa_cons (pv 5) pa_nil)))))) pe_str) pa_nil)))))
    (pss_one (ps_ret (kJoin (K := K) rfl pe_str (pv 2)))))), ?_⟩
  obtain ⟨dp, sp, h⟩ := h
  exact fn0 (m := B_format_events) (rk := .dat) (κb := [.dat, .dat, .dat, .dat, .dat, .dat]) (κc := [.dat, .dat, .dat, .dat, .dat, .dat]) (κ := [.dat, .dat, .dat, .dat, .dat, .dat]) (κn := [.dat, .dat, .dat, .dat, .dat, .dat]) ((okSeq (okAsgOwn (i := 2) (okLst okNil))
    (okSeq (okFor (gIDat (okVar (by rfl))) (okGTup (okGCons okGName (okGCons okGName okGNil))) (okMutD muApp (okCons (gOp oAddS (okJoin (a := " ") (gOpL oCat ((okLst (okCons (gCB cStrI (okCons (okVar (by rfl)) okNil)) okNil))).dat (okLc (vs := [5]) (OkI.c (gITup (okVar (by rfl)))) okGName okYes (gCall (rk := .dat) (okCons (okVar (by rfl)) okNil))))) okStr) okNil)))
    (okRet (okJoin (a := "") (okBor (.inl (by rfl)))))))) h
theorem sc_read_number : FnScope ["word", "digits", "sign"] ["word"] (defScope s_read_number) := ⟨rfl, rfl, rfl, by decide +kernel, rfl, by decide +kernel, by decide +kernel⟩
theorem ok_read_number 
    (T : Top P w K mg) : Good P w K mg CX0 1 "read_number" ["word"] (spD K (cnL mg) false [.dat] .dat (mFn .dat 3 B_read_number)) := by
  obtain ⟨tk_DIGITS, hc_DIGITS⟩ := T.c_DIGITS
  obtain ⟨tk_MOST_DIGITS, hc_MOST_DIGITS⟩ := T.c_MOST_DIGITS
  refine T.d_read_number.good fun f fd F base => F.ok sc_read_number (spD_len rfl) (fun cdv A outer s H vs Q E hr h => ?_)
  refine ⟨_, (pss_cons (ps_set (i := 1) sc_read_number.nd rfl (Or.inl rfl) (pe_ifExp (pt_cmpR (opEq (K := K) hr.units rfl) (pe_slice sl_str (pv 0) po_none (po_some pe_int)) pe_str (nomark _)) (pe_slice sl_str (pv 0) (po_some pe_int) po_none) (pv 0)))
    (pss_cons (ps_if (PW.pt (pw_or (pt_not (pt_chain op_le op_le pe_int (pe_callB call_len_str (by rfl) T.b_len bt_len (pa_cons (pv 1) pa_nil)) (pe_glob (v := .int 10) (by rfl) hc_MOST_DIGITS ⟨_, rfl⟩))) (pw_or1 (pt_not (pt_val (pe_callB (kAllL (K := K) rfl rfl) (by rfl) T.b_all bt_all (pa_cons (pe_lc (own := [("sign", 2)]) rfl sc_read_number.nd (pi_str (pv 1)) (blkOk_by (own := [("sign", 2)]) (N := ["word", "digits", "sign"]) (sc := defScope s_read_number) (by decide +kernel)) (fun _ _ _ _ _ => by exact (pgN (i := 2) sc_read_number.nd rfl (Or.inl rfl) (Or.inr rfl))) (fun _ _ _ _ _ => by exact pts_nil) (fun _ _ _ _ _ => by exact (pe_cmpR op_in_sign (pv 2) (pe_glob (v := .str "0123456789") (by rfl) hc_DIGITS ⟨_, rfl⟩) rfl))) pa_nil))))))) (pss_one (ps_ret pe_non)) pss_nil)
    (pss_one (ps_ret (pe_ifExp (pt_cmpR (opEq (K := K) hr.units rfl) (pe_callTy call_str_int (by rfl) T.b_str bt_str (pa_cons (pe_callTy call_int_str (by rfl) T.b_int bt_int (pa_cons (pv 0) pa_nil)) pa_nil)) (pv 0) (nomark _)) (pe_callTy call_int_str (by rfl) T.b_int bt_int (pa_cons (pv 0) pa_nil)) pe_non))))), ?_⟩
  obtain ⟨dp, sp, h⟩ := h
  exact fn0 (m := B_read_number) (rk := .dat) (κb := [.dat, .dat, .dat]) (κc := [.dat, .dat, .dat]) (κ := [.dat, .dat, .dat]) (κn := [.dat, .dat, .dat]) ((okSeq (okAsg (i := 1) (okIf (okTest (gOp oEq (gSl oSlS (okVar (by rfl)) gNoP (gPart okInt)) okStr)) (gSl oSlS (okVar (by rfl)) (gPart okInt) gNoP) (okVar (by rfl))))
    (okSeq (okIfS (okOr (okNot (okTest (gChain oLe oLe okInt (gCB cLenS (okCons (okVar (by rfl)) okNil)) okInt))) (okNot (okTB (gCB cAllL (okLast (okLc (vs := [2]) (OkI.c (gIStr (okVar (by rfl)))) okGName okYes (gOp oInC (okVar (by rfl)) okStr))))))) (okRet okNon) okNext)
    (okRet (okIf (okTest (gOp oEq (gCB cStrI (okCons (gCB cIntS (okCons (okVar (by rfl)) okNil)) okNil)) (okVar (by rfl)))) (gCB cIntS (okCons (okVar (by rfl)) okNil)) okNon))))) h
theorem sc_read_value : FnScope ["line", "at", "end", "number"] ["line", "at"] (defScope s_read_value) := ⟨rfl, rfl, rfl, by decide +kernel, rfl, by decide +kernel, by decide +kernel⟩
theorem ok_read_value 
    (T : Top P w K mg)
    (h_is_text : Good P w K mg CX0 1 "is_text" ["thing"] (spD K (cnL mg) false [.dat] .dat F_is_text))
    (h_read_number : Good P w K mg CX0 1 "read_number" ["word"] (spD K (cnL mg) false [.dat] .dat F_read_number)) : Good P w K mg CX0 2 "read_value" ["line", "at"] (spD K (cnL mg) false [.dat, .dat] .dat (mFn .dat 4 B_read_value)) := by
  obtain ⟨tk_QUOTE, hc_QUOTE⟩ := T.c_QUOTE
  obtain ⟨a_is_text, fd_is_text, g_is_text, k_is_text, b_is_text, _, G_is_text⟩ := h_is_text
  obtain ⟨a_read_number, fd_read_number, g_read_number, k_read_number, b_read_number, _, G_read_number⟩ := h_read_number
  refine T.d_read_value.good fun f fd F base => F.ok sc_read_value (spD_len rfl) (fun cdv A outer s H vs Q E hr h => ?_)
  refine ⟨_, (pss_cons (ps_if (pt_cmpR (opEq (K := K) hr.units rfl) (pe_slice sl_str (pv 0) (po_some (pv 1)) (po_some (pe_op op_add (pv 1) pe_int))) (pe_glob (v := .str "\"") (by rfl) hc_QUOTE ⟨_, rfl⟩) (nomark _)) (pss_cons (ps_set (i := 2) sc_read_value.nd rfl (Or.inl rfl) (pe_bm PySem.F.plainAttrs_str PySem.F.slot_str_find PySem.F.type_str_find mt_find3 (pv 0) (pa_cons (pe_glob (v := .str "\"") (by rfl) hc_QUOTE ⟨_, rfl⟩) (pa_cons (pe_op op_add (pv 1) pe_int) pa_nil))))
    (pss_cons (ps_if (PW.pt (pw_or (pt_cmpR op_lt (pv 2) pe_int (nomark _)) (pw_or1 (pt_not (pt_val (pe_call (G_is_text base) (hr.mono (by decide)) (by rfl) g_is_text k_is_text b_is_text .nil pass0 (pa_cons (pe_slice sl_str (pv 0) (po_some (pe_op op_add (pv 1) pe_int)) (po_some (pv 2))) pa_nil))))))) (pss_one (ps_ret pe_non)) pss_nil)
    (pss_one (ps_ret (pe_tup (pa_cons (pe_slice sl_str (pv 0) (po_some (pe_op op_add (pv 1) pe_int)) (po_some (pv 2))) (pa_cons (pe_op op_add (pv 2) pe_int) pa_nil))))))) pss_nil)
    (pss_cons (ps_set (i := 2) sc_read_value.nd rfl (Or.inl rfl) (pe_bm PySem.F.plainAttrs_str PySem.F.slot_str_find PySem.F.type_str_find mt_find3 (pv 0) (pa_cons pe_str (pa_cons (pv 1) pa_nil))))
    (pss_cons (ps_set (i := 2) sc_read_value.nd rfl (Or.inl rfl) (pe_ifExp (pt_cmpR op_lt (pv 2) pe_int (nomark _)) (pe_callB call_len_str (by rfl) T.b_len bt_len (pa_cons (pv 0) pa_nil)) (pv 2)))
    (pss_cons (ps_set (i := 3) sc_read_value.nd rfl (Or.inl rfl) (pe_call (G_read_number base) (hr.mono (by decide)) (by rfl) g_read_number k_read_number b_read_number .nil pass0 (pa_cons (pe_slice sl_str (pv 0) (po_some (pv 1)) (po_some (pv 2))) pa_nil)))
    (pss_one (ps_ret (pe_ifExp (pt_cmpR op_isN (pv 3) pe_non (nomark _)) pe_non (pe_tup (pa_cons (pv 3) (pa_cons (pv 2) pa_nil)))))))))), ?_⟩
  obtain ⟨dp, sp, h⟩ := h
  exact fn0 (m := B_read_value) (rk := .dat) (κb := [.dat, .dat, .dat, .dat]) (κc := [.dat, .dat, .dat, .dat]) (κ := [.dat, .dat, .dat, .dat]) (κn := [.dat, .dat, .dat, .dat]) ((okSeq (okIfS (okTest (gOp oEq (gSl oSlS (okVar (by rfl)) (gPart (okVar (by rfl))) (gPart (gOp oAdd (okVar (by rfl)) okInt))) okStr)) (okSeq (okAsg (i := 2) (okFnd (okVar (by rfl)) (okCons okStr (okCons (gOp oAdd (okVar (by rfl)) okInt) okNil))))
    (okSeq (okIfS (okOr (okTest (gOp oLt (okVar (by rfl)) okInt)) (okNot (okTB (gCall (rk := .dat) (okCons (gSl oSlS (okVar (by rfl)) (gPart (gOp oAdd (okVar (by rfl)) okInt)) (gPart (okVar (by rfl)))) okNil))))) (okRet okNon) okNext)
    (okRet (okTup (okCons (gSl oSlS (okVar (by rfl)) (gPart (gOp oAdd (okVar (by rfl)) okInt)) (gPart (okVar (by rfl)))) (okCons (gOp oAdd (okVar (by rfl)) okInt) okNil)))))) okNext)
    (okSeq (okAsg (i := 2) (okFnd (okVar (by rfl)) (okCons okStr (okCons (okVar (by rfl)) okNil))))
    (okSeq (okAsg (i := 2) (okIf (okTest (gOp oLt (okVar (by rfl)) okInt)) (gCB cLenS (okCons (okVar (by rfl)) okNil)) (okVar (by rfl))))
    (okSeq (okAsg (i := 3) (gCall (rk := .dat) (okCons (gSl oSlS (okVar (by rfl)) (gPart (okVar (by rfl))) (gPart (okVar (by rfl)))) okNil)))
    (okRet (okIf (okTest (gOp oIsN (okVar (by rfl)) okNon)) okNon (okTup (okCons (okVar (by rfl)) (okCons (okVar (by rfl)) okNil)))))))))) h
theorem sc_read_line : FnScope ["line", "found", "at", "read"] ["line"] (defScope s_read_line) := ⟨rfl, rfl, rfl, by decide +kernel, rfl, by decide +kernel, by decide +kernel⟩
theorem ok_read_line 
    (T : Top P w K mg)
    (h_read_value : Good P w K mg CX0 2 "read_value" ["line", "at"] (spD K (cnL mg) false [.dat, .dat] .dat F_read_value)) : Good P w K mg CX0 3 "read_line" ["line"] (spD K (cnL mg) false [.dat] .dat (mFn .dat 4 B_read_line)) := by
  obtain ⟨a_read_value, fd_read_value, g_read_value, k_read_value, b_read_value, _, G_read_value⟩ := h_read_value
  refine T.d_read_line.good fun f fd F base => F.ok sc_read_line (spD_len rfl) (fun cdv A outer s H vs Q E hr h => ?_)
  refine ⟨_, (pss_cons (ps_set (i := 1) sc_read_line.nd rfl (Or.inl rfl) (pe_lst pa_nil))
    (pss_cons (ps_set (i := 2) sc_read_line.nd rfl (Or.inl rfl) pe_int)
    (pss_one (ps_while PassesOwn.never (pt_val pe_bl) (pss_cons (ps_set (i := 3) sc_read_line.nd rfl (Or.inl rfl) (pe_call (G_read_value base) (hr.mono (by decide)) (by rfl) g_read_value k_read_value b_read_value .nil pass0 (pa_cons (pv 0) (pa_cons (pv 2) pa_nil))))
    (pss_cons (ps_if (pt_cmpR op_isN (pv 3) pe_non (nomark _)) (pss_one (ps_ret pe_non)) pss_nil)
    (pss_cons (ps_expr (pe_bm PySem.F.plainAttrs_list PySem.F.slot_list_append PySem.F.type_list_append mt_append (pv 1) (pa_cons (pe_ix (kIxT (K := K) rfl) (pv 3) pe_int (fun _ _ => rfl)) pa_nil)))
    (pss_cons (ps_set (i := 2) sc_read_line.nd rfl (Or.inl rfl) (pe_ix (kIxT (K := K) rfl) (pv 3) pe_int (fun _ _ => rfl)))
    (pss_cons (ps_if (pt_cmpR (opEq (K := K) hr.units rfl) (pv 2) (pe_callB call_len_str (by rfl) T.b_len bt_len (pa_cons (pv 0) pa_nil)) (nomark _)) (pss_one (ps_ret (pv 1))) pss_nil)
    (pss_cons (ps_if (pt_cmpR (opNe (K := K) hr.units rfl) (pe_ix ix_str (pv 0) (pv 2) (fun _ _ => rfl)) pe_str (nomark _)) (pss_one (ps_ret pe_non)) pss_nil)
    (pss_one (ps_aug (i := 2) sc_read_line.nd rfl (Or.inl rfl) pe_int ip_add)))))))))))), ?_⟩
  obtain ⟨dp, sp, h⟩ := h
  exact fn0 (m := B_read_line) (rk := .dat) (κb := [.dat, .dat, .dat, .dat]) (κc := [.dat, .dat, .dat, .dat]) (κ := [.dat, .dat, .dat, .dat]) (κn := [.dat, .own, .dat, .dat]) ((okSeq (okAsgOwn (i := 1) (okLst okNil))
    (okSeq (okAsg (i := 2) okInt)
    (okWhile (okTB okBl) (okSeq (okAsg (i := 3) (gCall (rk := .dat) (okCons (okVar (by rfl)) (okCons (okVar (by rfl)) okNil))))
    (okSeq (okIfS (okTest (gOp oIsN (okVar (by rfl)) okNon)) (okRet okNon) okNext)
    (okSeq (okMutD muApp (okCons (gOp oIxT (okVar (by rfl)) okInt) okNil))
    (okSeq (okAsg (i := 2) (gOp oIxT (okVar (by rfl)) okInt))
    (okSeq (okIfS (okTest (gOp oEq (okVar (by rfl)) (gCB cLenS (okCons (okVar (by rfl)) okNil)))) (OkS.freeze (i := 1) (okRet (okVar (by rfl)))) okNext)
    (okSeq (okIfS (okTest (gOp oNe (gOp oIxS (okVar (by rfl)) (okVar (by rfl))) okStr)) (okRet okNon) okNext)
    (okAug (i := 2) oIpAdd okInt))))))))))) h
theorem sc_read_event_text : FnScope ["line", "values"] ["line"] (defScope s_read_event_text) := ⟨rfl, rfl, rfl, by decide +kernel, rfl, by decide +kernel, by decide +kernel⟩
theorem ok_read_event_text 
    (T : Top P w K mg)
    (h_read_line : Good P w K mg CX0 3 "read_line" ["line"] (spD K (cnL mg) false [.dat] .dat F_read_line)) : Good P w K mg CX0 4 "read_event_text" ["line"] (spD K (cnL mg) false [.dat] .dat (mFn .dat 2 B_read_event_text)) := by
  obtain ⟨a_read_line, fd_read_line, g_read_line, k_read_line, b_read_line, _, G_read_line⟩ := h_read_line
  refine T.d_read_event_text.good fun f fd F base => F.ok sc_read_event_text (spD_len rfl) (fun cdv A outer s H vs Q E hr h => ?_)
  refine ⟨_, (pss_cons (ps_set (i := 1) sc_read_event_text.nd rfl (Or.inl rfl) (pe_call (G_read_line base) (hr.mono (by decide)) (by rfl) g_read_line k_read_line b_read_line .nil pass0 (pa_cons (pv 0) pa_nil)))
    (pss_cons (ps_if (PW.pt (pw_or (pt_cmpR op_isN (pv 1) pe_non (nomark _)) (pw_or (pt_cmpR op_lt (pe_callB (kLen (K := K) rfl) (by rfl) T.b_len bt_len (pa_cons (pv 1) pa_nil)) pe_int (nomark _)) (pw_or1 (pt_val (pe_callB (kIsi (K := K) rfl) (by rfl) T.b_isinstance bt_isinstance (pa_cons (pe_ix (kIxL (K := K) rfl) (pv 1) pe_int (fun _ _ => rfl)) (pa_cons (pe_bltn (v := .ty "str") (by rfl) T.b_str bt_str rfl) pa_nil)))))))) (pss_one (ps_ret pe_non)) pss_nil)
    (pss_one (ps_ret (pe_tup (pa_cons (pe_ix (kIxL (K := K) rfl) (pv 1) pe_int (fun _ _ => rfl)) (pa_cons (pe_callTy (kTupOf (K := K) rfl) (by rfl) T.b_tuple bt_tuple (pa_cons (pe_slice (kSlL (K := K) rfl) (pv 1) (po_some pe_int) po_none) pa_nil)) pa_nil))))))), ?_⟩
  obtain ⟨dp, sp, h⟩ := h
  exact fn0 (m := B_read_event_text) (rk := .dat) (κb := [.dat, .dat]) (κc := [.dat, .dat]) (κ := [.dat, .dat]) (κn := [.dat, .dat]) ((okSeq (okAsg (i := 1) (gCall (rk := .dat) (okCons (okVar (by rfl)) okNil)))
    (okSeq (okIfS (okOr (okTest (gOp oIsN (okVar (by rfl)) okNon)) (okOr (okTest (gOp oLt (gCB cLen (okCons (okVar (by rfl)) okNil)) okInt)) (okTB (okIsi (T := "str") (gOp oIxL (okVar (by rfl)) okInt))))) (okRet okNon) okNext)
    (okRet (okTup (okCons (gOp oIxL (okVar (by rfl)) okInt) (okCons (gCBU cTuple (okLast (gSlL oSlL (okVar (by rfl)) (gPart okInt) gNoP))) okNil))))))) h
theorem sc_read_event : FnScope ["schema", "line", "number", "event", "e"] ["schema", "line", "number"] (defScope s_read_event) := ⟨rfl, rfl, rfl, by decide +kernel, rfl, by decide +kernel, by decide +kernel⟩
theorem ok_read_event 
    (T : Top P w K mg)
    (h_read_event_text : Good P w K mg CX0 4 "read_event_text" ["line"] (spD K (cnL mg) false [.dat] .dat F_read_event_text))
    (h_check_event : Good P w K mg (L2N.CX P w) 4 "check_event" ["schema", "event"] (spD K (cnL mg) true [.dat, .dat] .dat F_check_event)) : Good P w K mg (L2.CX P w) 5 "read_event" ["schema", "line", "number"] (spD K (cnL mg) true [.dat, .dat, .dat] .dat (mFn .dat 5 B_read_event)) := by
  obtain ⟨ad_StreamError, fi_StreamError, hm_StreamError, er_StreamError⟩ := T.e_StreamError
  obtain ⟨ad_EventError, fi_EventError, hm_EventError, er_EventError⟩ := T.e_EventError
  obtain ⟨a_read_event_text, fd_read_event_text, g_read_event_text, k_read_event_text, b_read_event_text, _, G_read_event_text⟩ := h_read_event_text
  obtain ⟨a_check_event, fd_check_event, g_check_event, k_check_event, b_check_event, _, G_check_event⟩ := h_check_event
  refine T.d_read_event.good fun f fd F base => F.okX sc_read_event (spD_len rfl) (fun cdv A outer s H vs Q E hr h => ?_)
  have tk : L2.Takes (cxOf (L2.CX P w) P w K mg base ["schema", "line", "number", "event", "e"] "read_event" (defScope s_read_event) f cdv A outer s H E) (fun cls d _ H => E cls d H) := L2.takes_of rfl rfl rfl rfl
  refine ⟨_, (pss_cons (ps_set (i := 3) sc_read_event.nd rfl (Or.inl rfl) (pe_call (G_read_event_text base) (hr.mono (by decide)) (by rfl) g_read_event_text k_read_event_text b_read_event_text .nil pass0 (pa_cons (pv 1) pa_nil)))
    (pss_cons (ps_if (pt_cmpR op_isN (pv 3) pe_non (nomark _)) (pss_one (ps_raise rfl tk (pmk_err2 er_EventError hm_EventError hr (pa_cons pe_str (pa_cons (pv 2) pa_nil))))) pss_nil)
    (pss_cons (L2H.ps_try_asX (i := 4) (ts := fun a cls d => tRz2 ad_EventError "line" (fun cls d _ H => E cls d H) ((fun a cls d => tCons (tXf a cls d ad_StreamError "code" (tVar 4)) (tCons (tVar 2) tNil)) a cls d)) (Wout := (fun cls d _ H => E cls d H)) rfl rfl sc_read_event.nd rfl rfl ⟨rfl, by decide, Or.inl hm_StreamError⟩ (L2H.passesAt_of rfl) tk (fun _ _ _ _ h => h) (fun wx pn xe tk tk2 po => psx (pss_one (ps_expr (pe_callS (G_check_event base) (hr.mono (by decide)) (by rfl) g_check_event k_check_event b_check_event (fun σ => L2N.passAt tk σ) (pa_cons (pv 0) (pa_cons (pv 3) pa_nil))))) rfl) (fun a oe cls d pn xe hz hf tkS hot => psx (pss_one (L2H.ps_raiseH hot tkS (pmk_errN2 er_EventError hm_EventError (roomH_mark hr) (pa_cons (pe_xfE (xf_of er_StreamError.toCls) er_StreamError.no hz hf (pv 4)) (pa_cons (pv 2) pa_nil))))) rfl))
    (pss_one (ps_ret (pv 3)))))), ?_⟩
  obtain ⟨dp, sp, h⟩ := h
  have kb_0 := fun (wx : WX) => ((xDrop (gCallX (rk := .dat) (okCons (okVar (by rfl)) (okCons (okVar (by rfl)) okNil)))) : OkSx K (drR dp sp) ⟨wx, cnL mg⟩ [.dat, .dat, .dat, .dat, .dat] [.dat, .dat, .dat, .dat, .dat] .dat [.dat, .dat, .dat, .dat, .dat] _ (mDrop (mCallX F_check_event (mCons (mVar 0) (mCons (mVar 3) mNil)))) [.dat, .dat, .dat, .dat, .dat])
  have kt_0 := okTryA (K := K) (n := 5) (i := 4) (fx := [2]) (c := .ref ad_StreamError) (catch_ := fun nm => nm == "StreamError") (f2 := "line") (c2 := "EventError") (aY := ad_EventError) (wx := (fun cls d _ H => E cls d H)) (tA := (fun a cls d => tCons (tXf a cls d ad_StreamError "code" (tVar 4)) (tCons (tVar 2) tNil))) (mh := (fun fs => mCons (mXf 4 "code" fs) (mCons (mVar 2) mNil))) kb_0 (fun nm cls hc => cat_StreamError T hm_StreamError hc) (fun nm a cls dd vs fs hc hy hf => okCons (okXf (cn_is hc hy hm_StreamError) hf (by rfl)) (okCons (okVar (by rfl)) okNil)) ⟨by decide, hm_EventError⟩
  exact fnX (m := B_read_event) (rk := .dat) (κb := [.dat, .dat, .dat, .dat, .dat]) (κc := [.dat, .dat, .dat, .dat, .dat]) (κ := [.dat, .dat, .dat, .dat, .dat]) (κn := [.dat, .dat, .dat, .dat, .dat]) ((okSeq (okAsg (i := 3) (gCall (rk := .dat) (okCons (okVar (by rfl)) okNil)))
    (okSeq (okIfS (okTest (gOp oIsN (okVar (by rfl)) okNon)) (okRaise2 (okCons okStr (okCons (okVar (by rfl)) okNil)) ⟨by decide, hm_EventError⟩) okNext)
    (okSeq kt_0
    (okRet (okVar (by rfl))))))) h
theorem sc_parse_events : FnScope ["schema", "text", "lines", "found", "number", "line"] ["schema", "text"] (defScope s_parse_events) := ⟨rfl, rfl, rfl, by decide +kernel, rfl, by decide +kernel, by decide +kernel⟩
theorem ok_parse_events 
    (T : Top P w K mg)
    (h_read_event : Good P w K mg (L2.CX P w) 5 "read_event" ["schema", "line", "number"] (spD K (cnL mg) true [.dat, .dat, .dat] .dat F_read_event)) : Good P w K mg (L2.CX P w) 6 "parse_events" ["schema", "text"] (spD K (cnL mg) true [.dat, .dat] .dat (mFn .dat 6 B_parse_events)) := by
  obtain ⟨ad_EventError, fi_EventError, hm_EventError, er_EventError⟩ := T.e_EventError
  obtain ⟨a_read_event, fd_read_event, g_read_event, k_read_event, b_read_event, _, G_read_event⟩ := h_read_event
  refine T.d_parse_events.good fun f fd F base => F.okX sc_parse_events (spD_len rfl) (fun cdv A outer s H vs Q E hr h => ?_)
  have tk : L2.Takes (cxOf (L2.CX P w) P w K mg base ["schema", "text", "lines", "found", "number", "line"] "parse_events" (defScope s_parse_events) f cdv A outer s H E) (fun cls d _ H => E cls d H) := L2.takes_of rfl rfl rfl rfl
  refine ⟨_, (pss_cons (ps_set (i := 2) sc_parse_events.nd rfl (Or.inl rfl) (pe_split (pv 1) pe_str))
    (pss_cons (ps_set (i := 3) sc_parse_events.nd rfl (Or.inl rfl) (pe_lst pa_nil))
    (pss_cons (ps_for (passes_of rfl) rfl (kEnL (K := K) rfl (by rfl) T.b_enumerate (pa_cons (pe_slice (kSlL (K := K) rfl) (pv 2) po_none (po_some (pe_un un_neg pe_int))) pa_nil)) (pgT (K := K) (n := 2) rfl (pgsC (pgN (i := 4) sc_parse_events.nd rfl (Or.inl rfl) (Or.inl rfl)) (pgsC (pgN (i := 5) sc_parse_events.nd rfl (Or.inl rfl) (Or.inl rfl)) pgs_nil rfl) rfl) rfl rfl rfl) (pss_one (ps_expr (pe_bm PySem.F.plainAttrs_list PySem.F.slot_list_append PySem.F.type_list_append mt_append (pv 3) (pa_cons (pe_callS (G_read_event base) (hr.mono (by decide)) (by rfl) g_read_event k_read_event b_read_event (fun σ => passAt tk σ) (pa_cons (pv 0) (pa_cons (pv 5) (pa_cons (pv 4) pa_nil)))) pa_nil)))))
    (pss_cons (ps_if (pt_cmpR (opNe (K := K) hr.units rfl) (pe_ix (kIxL (K := K) rfl) (pv 2) (pe_un un_neg pe_int) (fun _ _ => rfl)) pe_str (nomark _)) (pss_one (ps_raise rfl tk (pmk_err2 er_EventError hm_EventError hr (pa_cons pe_str (pa_cons (pe_op op_sub (pe_callB (kLen (K := K) rfl) (by rfl) T.b_len bt_len (pa_cons (pv 2) pa_nil)) pe_int) pa_nil))))) pss_nil)
    (pss_one (ps_ret (pv 3))))))), ?_⟩
  obtain ⟨dp, sp, h⟩ := h
  exact fnX (m := B_parse_events) (rk := .dat) (κb := [.dat, .dat, .dat, .dat, .dat, .dat]) (κc := [.dat, .dat, .dat, .dat, .dat, .dat]) (κ := [.dat, .dat, .dat, .dat, .dat, .dat]) (κn := [.dat, .dat, .dat, .dat, .dat, .dat]) ((okSeq (okAsg (i := 2) ((okSplit (b := "\n") (okVar (by rfl)) (by decide))).dat)
    (okSeq (okAsgOwn (i := 3) (okLst okNil))
    (okSeq (okFor (okEnL (okCons ((gSlL oSlL (okVar (by rfl)) gNoP (gPart (gNeg okInt)))).dat okNil)) (okGTup (okGCons okGName (okGCons okGName okGNil))) (okMutD muApp (okCons (gCallX (rk := .dat) (okCons (okVar (by rfl)) (okCons (okVar (by rfl)) (okCons (okVar (by rfl)) okNil)))) okNil)))
    (okSeq (okIfS (okTest (gOp oNe (gOp oIxL (okVar (by rfl)) (gNeg okInt)) okStr)) (okRaise2 (okCons okStr (okCons (gOp oSub (gCB cLen (okCons (okVar (by rfl)) okNil)) okInt) okNil)) ⟨by decide, hm_EventError⟩) okNext)
    (OkS.freeze (i := 3) (okRet (okVar (by rfl))))))))) h
theorem sc__law_pick : FnScope ["d", "menu"] ["d", "menu"] (defScope s__law_pick) := ⟨rfl, rfl, rfl, by decide +kernel, rfl, by decide +kernel, by decide +kernel⟩
theorem ok__law_pick 
    (T : Top P w K mg)
    (h__law_take : Good P w K mg CX0 1 "_law_take" ["d", "many"] (spD K (cnL mg) false [.res, .dat] .dat fTake)) : Good P w K mg CX0 2 "_law_pick" ["d", "menu"] (spD K (cnL mg) false [.res, .dat] .dat (mFn .dat 2 B__law_pick)) := by
  obtain ⟨a__law_take, fd__law_take, g__law_take, k__law_take, b__law_take, _, G__law_take⟩ := h__law_take
  refine T.d__law_pick.good fun f fd F base => F.ok sc__law_pick (spD_len rfl) (fun cdv A outer s H vs Q E hr h => ?_)
  refine ⟨_, (pss_one (ps_ret (pe_ix (kIxL (K := K) rfl) (pv 1) (pe_call (G__law_take base) (hr.mono (by decide)) (by rfl) g__law_take k__law_take b__law_take .nil pass0 (pa_cons (pv 0) (pa_cons (pe_callB (kLen (K := K) rfl) (by rfl) T.b_len bt_len (pa_cons (pv 1) pa_nil)) pa_nil))) (fun _ _ => rfl)))), ?_⟩
  obtain ⟨dp, sp, h⟩ := h
  exact fn0 (m := B__law_pick) (rk := .dat) (κb := [.res, .dat]) (κc := [.res, .dat]) (κ := [.res, .dat]) (κn := [.res, .dat]) ((okRet (gOp oIxL (okVar (by rfl)) (gCall (rk := .dat) (okCons (okRes (by rfl)) (okCons (gCB cLen (okCons (okVar (by rfl)) okNil)) okNil)))))) h
theorem sc__law_events : FnScope ["d", "fields", "most", "span", "events", "k", "row", "name", "kind"] ["d", "fields", "most", "span"] (defScope s__law_events) := ⟨rfl, rfl, rfl, by decide +kernel, rfl, by decide +kernel, by decide +kernel⟩
theorem ok__law_events 
    (T : Top P w K mg)
    (h__law_take : Good P w K mg CX0 1 "_law_take" ["d", "many"] (spD K (cnL mg) false [.res, .dat] .dat fTake))
    (h__law_pick : Good P w K mg CX0 2 "_law_pick" ["d", "menu"] (spD K (cnL mg) false [.res, .dat] .dat F__law_pick)) : Good P w K mg CX0 3 "_law_events" ["d", "fields", "most", "span"] (spD K (cnL mg) false [.res, .dat, .dat, .dat] .dat (mFn .dat 9 B__law_events)) := by
  obtain ⟨a__law_take, fd__law_take, g__law_take, k__law_take, b__law_take, _, G__law_take⟩ := h__law_take
  obtain ⟨a__law_pick, fd__law_pick, g__law_pick, k__law_pick, b__law_pick, _, G__law_pick⟩ := h__law_pick
  refine T.d__law_events.good fun f fd F base => F.ok sc__law_events (spD_len rfl) (fun cdv A outer s H vs Q E hr h => ?_)
  refine ⟨_, (pss_cons (ps_set (i := 4) sc__law_events.nd rfl (Or.inl rfl) (pe_lst pa_nil))
    (pss_cons (ps_for PassesOwn.never rfl (pi_range1 (by rfl) T.b_range (pa_cons (pe_call (G__law_take base) (hr.mono (by decide)) (by rfl) g__law_take k__law_take b__law_take .nil pass0 (pa_cons (pv 0) (pa_cons (pe_op op_add (pv 2) pe_int) pa_nil))) pa_nil)) (pgN (i := 5) sc__law_events.nd rfl (Or.inl rfl) (Or.inl rfl)) (pss_cons (ps_set (i := 6) sc__law_events.nd rfl (Or.inl rfl) (pe_callTy (kTupOf (K := K) rfl) (by rfl) T.b_tuple bt_tuple (pa_cons (pe_lc (own := [("name", 7), ("kind", 8)]) rfl sc__law_events.nd (pi_tup (pv 1)) (blkOk_by (own := [("name", 7), ("kind", 8)]) (N := ["d", "fields", "most", "span", "events", "k", "row", "name", "kind"]) (sc := defScope s__law_events) (by decide +kernel)) (fun _ _ _ _ _ => by exact (pgT (K := K) (n := 2) rfl (pgsC (pgN (i := 7) sc__law_events.nd rfl (Or.inl rfl) (Or.inr rfl)) (pgsC (pgN (i := 8) sc__law_events.nd rfl (Or.inl rfl) (Or.inr rfl)) pgs_nil rfl) rfl) rfl rfl rfl)) (fun _ _ _ _ _ => by exact pts_nil) (fun _ _ _ _ _ => by exact (pe_ifExp (pt_cmpR (opEq (K := K) hr.units rfl) (pv 8) pe_str (nomark _)) (pe_call (G__law_pick base) (hr.mono (by decide)) (by rfl) g__law_pick k__law_pick b__law_pick .nil pass0 (pa_cons (pv 0) (pa_cons (pe_lst (pa_cons pe_str (pa_cons pe_str (pa_cons pe_str pa_nil)))) pa_nil))) (pe_op op_sub (pe_call (G__law_take base) (hr.mono (by decide)) (by rfl) g__law_take k__law_take b__law_take .nil pass0 (pa_cons (pv 0) (pa_cons pe_int pa_nil))) pe_int)))) pa_nil)))
    (pss_one (ps_expr (pe_bm PySem.F.plainAttrs_list PySem.F.slot_list_append PySem.F.type_list_append mt_append (pv 4) (pa_cons (pe_tup (pa_cons (pe_call (G__law_take base) (hr.mono (by decide)) (by rfl) g__law_take k__law_take b__law_take .nil pass0 (pa_cons (pv 0) (pa_cons (pv 3) pa_nil))) (pa_cons (pv 6) pa_nil))) pa_nil))))))
    (pss_one (ps_ret (pv 4))))), ?_⟩
  obtain ⟨dp, sp, h⟩ := h
  exact fn0 (m := B__law_events) (rk := .dat) (κb := [.res, .dat, .dat, .dat, .dat, .dat, .dat, .dat, .dat]) (κc := [.res, .dat, .dat, .dat, .dat, .dat, .dat, .dat, .dat]) (κ := [.res, .dat, .dat, .dat, .dat, .dat, .dat, .dat, .dat]) (κn := [.res, .dat, .dat, .dat, .dat, .dat, .dat, .dat, .dat]) ((okSeq (okAsgOwn (i := 4) (okLst okNil))
    (okSeq (okFor (okIR1 (okCons (gCall (rk := .dat) (okCons (okRes (by rfl)) (okCons (gOp oAdd (okVar (by rfl)) okInt) okNil))) okNil)) okGName (okSeq (okAsg (i := 6) (gCBU cTuple (okLast (okLc (vs := [7, 8]) (OkI.c (gITup (okVar (by rfl)))) (okGTup (okGCons okGName (okGCons okGName okGNil))) okYes (okIf (okTest (gOp oEq (okVar (by rfl)) okStr)) (gCall (rk := .dat) (okCons (okRes (by rfl)) (okCons ((okLst (okCons okStr (okCons okStr (okCons okStr okNil))))).dat okNil))) (gOp oSub (gCall (rk := .dat) (okCons (okRes (by rfl)) (okCons okInt okNil))) okInt))))))
    (okMutD muApp (okCons (okTup (okCons (gCall (rk := .dat) (okCons (okRes (by rfl)) (okCons (okVar (by rfl)) okNil))) (okCons (okVar (by rfl)) okNil))) okNil))))
    (OkS.freeze (i := 4) (okRet (okVar (by rfl))))))) h
theorem sc__law_fields : FnScope ["d", "fields", "k"] ["d"] (defScope s__law_fields) := ⟨rfl, rfl, rfl, by decide +kernel, rfl, by decide +kernel, by decide +kernel⟩
theorem ok__law_fields 
    (T : Top P w K mg)
    (h__law_take : Good P w K mg CX0 1 "_law_take" ["d", "many"] (spD K (cnL mg) false [.res, .dat] .dat fTake))
    (h__law_pick : Good P w K mg CX0 2 "_law_pick" ["d", "menu"] (spD K (cnL mg) false [.res, .dat] .dat F__law_pick)) : Good P w K mg CX0 3 "_law_fields" ["d"] (spD K (cnL mg) false [.res] .dat (mFn .dat 3 B__law_fields)) := by
  obtain ⟨a__law_take, fd__law_take, g__law_take, k__law_take, b__law_take, _, G__law_take⟩ := h__law_take
  obtain ⟨a__law_pick, fd__law_pick, g__law_pick, k__law_pick, b__law_pick, _, G__law_pick⟩ := h__law_pick
  refine T.d__law_fields.good fun f fd F base => F.ok sc__law_fields (spD_len rfl) (fun cdv A outer s H vs Q E hr h => ?_)
  refine ⟨_, (pss_cons (ps_set (i := 1) sc__law_fields.nd rfl (Or.inl rfl) (pe_lst pa_nil))
    (pss_cons (ps_for PassesOwn.never rfl (pi_range1 (by rfl) T.b_range (pa_cons (pe_op op_add pe_int (pe_call (G__law_take base) (hr.mono (by decide)) (by rfl) g__law_take k__law_take b__law_take .nil pass0 (pa_cons (pv 0) (pa_cons pe_int pa_nil)))) pa_nil)) (pgN (i := 2) sc__law_fields.nd rfl (Or.inl rfl) (Or.inl rfl)) (pss_one (ps_expr (pe_bm PySem.F.plainAttrs_list PySem.F.slot_list_append PySem.F.type_list_append mt_append (pv 1) (pa_cons (pe_tup (pa_cons (pe_op op_add_str (pe_call (G__law_pick base) (hr.mono (by decide)) (by rfl) g__law_pick k__law_pick b__law_pick .nil pass0 (pa_cons (pv 0) (pa_cons (pe_lst (pa_cons pe_str (pa_cons pe_str (pa_cons pe_str pa_nil)))) pa_nil))) (pe_callTy call_str_int (by rfl) T.b_str bt_str (pa_cons (pv 2) pa_nil))) (pa_cons (pe_call (G__law_pick base) (hr.mono (by decide)) (by rfl) g__law_pick k__law_pick b__law_pick .nil pass0 (pa_cons (pv 0) (pa_cons (pe_lst (pa_cons pe_str (pa_cons pe_str pa_nil))) pa_nil))) pa_nil))) pa_nil)))))
    (pss_one (ps_ret (pe_callTy (kTupOf (K := K) rfl) (by rfl) T.b_tuple bt_tuple (pa_cons (pv 1) pa_nil)))))), ?_⟩
  obtain ⟨dp, sp, h⟩ := h
  exact fn0 (m := B__law_fields) (rk := .dat) (κb := [.res, .dat, .dat]) (κc := [.res, .dat, .dat]) (κ := [.res, .dat, .dat]) (κn := [.res, .dat, .dat]) ((okSeq (okAsgOwn (i := 1) (okLst okNil))
    (okSeq (okFor (okIR1 (okCons (gOp oAdd okInt (gCall (rk := .dat) (okCons (okRes (by rfl)) (okCons okInt okNil)))) okNil)) okGName (okMutD muApp (okCons (okTup (okCons (gOp oAddS (gCall (rk := .dat) (okCons (okRes (by rfl)) (okCons ((okLst (okCons okStr (okCons okStr (okCons okStr okNil))))).dat okNil))) (gCB cStrI (okCons (okVar (by rfl)) okNil))) (okCons (gCall (rk := .dat) (okCons (okRes (by rfl)) (okCons ((okLst (okCons okStr (okCons okStr okNil)))).dat okNil))) okNil))) okNil)))
    (okRet (gCBU cTuple (okCons (okBor (.inl (by rfl))) okNil)))))) h
theorem sc__law_line : FnScope ["event", "parts", "value"] ["event"] (defScope s__law_line) := ⟨rfl, rfl, rfl, by decide +kernel, rfl, by decide +kernel, by decide +kernel⟩
theorem ok__law_line 
    (T : Top P w K mg) : Good P w K mg CX0 1 "_law_line" ["event"] (spD K (cnL mg) false [.dat] .dat (mFn .dat 3 B__law_line)) := by
  refine T.d__law_line.good fun f fd F base => F.ok sc__law_line (spD_len rfl) (fun cdv A outer s H vs Q E hr h => ?_)
  refine ⟨_, (pss_cons (ps_set (i := 1) sc__law_line.nd rfl (Or.inl rfl) (pe_lst (pa_cons (pe_callTy call_str_int (by rfl) T.b_str bt_str (pa_cons (pe_ix (kIxT (K := K) rfl) (pv 0) pe_int (fun _ _ => rfl)) pa_nil)) pa_nil)))
    (pss_cons (ps_for PassesOwn.never rfl (pi_tup (pe_ix (kIxT (K := K) rfl) (pv 0) pe_int (fun _ _ => rfl))) (pgN (i := 2) sc__law_line.nd rfl (Or.inl rfl) (Or.inl rfl)) (pss_one (ps_expr (pe_bm PySem.F.plainAttrs_list PySem.F.slot_list_append PySem.F.type_list_append mt_append (pv 1) (pa_cons (pe_ifExp (pt_val (pe_callB (kIsi (K := K) rfl) (by rfl) T.b_isinstance bt_isinstance (pa_cons (pv 2) (pa_cons (pe_bltn (v := .ty "str") (by rfl) T.b_str bt_str rfl) pa_nil)))) (pe_op op_add_str (pe_op op_add_str pe_str (pv 2)) pe_str) (pe_callTy kStrX (by rfl) T.b_str bt_str (pa_cons (pv 2) pa_nil))) pa_nil)))))
    (pss_one (ps_ret (pe_op op_add_str (kJoin (K := K) rfl pe_str (pv 1)) pe_str))))), ?_⟩
  obtain ⟨dp, sp, h⟩ := h
  exact fn0 (m := B__law_line) (rk := .dat) (κb := [.dat, .dat, .dat]) (κc := [.dat, .dat, .dat]) (κ := [.dat, .dat, .dat]) (κn := [.dat, .dat, .dat]) ((okSeq (okAsgOwn (i := 1) (okLst (okCons (gCB cStrI (okCons (gOp oIxT (okVar (by rfl)) okInt) okNil)) okNil)))
    (okSeq (okFor (gITup (gOp oIxT (okVar (by rfl)) okInt)) okGName (okMutD muApp (okCons (okIf (okTB (okIsi (T := "str") (okVar (by rfl)))) (gOp oAddS (gOp oAddS okStr (okVar (by rfl))) okStr) (gCB cStrX (okCons (okVar (by rfl)) okNil))) okNil)))
    (okRet (gOp oAddS (okJoin (a := " ") (okBor (.inl (by rfl)))) okStr))))) h
theorem sc__law_cut : FnScope ["line", "words", "word", "inside", "sign"] ["line"] (defScope s__law_cut) := ⟨rfl, rfl, rfl, by decide +kernel, rfl, by decide +kernel, by decide +kernel⟩
theorem ok__law_cut 
    (T : Top P w K mg) : Good P w K mg CX0 1 "_law_cut" ["line"] (spD K (cnL mg) false [.dat] .dat (mFn .dat 5 B__law_cut)) := by
  refine T.d__law_cut.good fun f fd F base => F.ok sc__law_cut (spD_len rfl) (fun cdv A outer s H vs Q E hr h => ?_)
  refine ⟨_, (pss_cons (ps_set (i := 1) sc__law_cut.nd rfl (Or.inl rfl) (pe_lst pa_nil))
    (pss_cons (ps_set (i := 2) sc__law_cut.nd rfl (Or.inl rfl) pe_str)
    (pss_cons (ps_set (i := 3) sc__law_cut.nd rfl (Or.inl rfl) pe_bl)
    (pss_cons (ps_for PassesOwn.never rfl (pi_str (pv 0)) (pgN (i := 4) sc__law_cut.nd rfl (Or.inl rfl) (Or.inl rfl)) (pss_cons (ps_if (pt_cmpR (opEq (K := K) hr.units rfl) (pv 4) pe_str (nomark _)) (pss_one (ps_set (i := 3) sc__law_cut.nd rfl (Or.inl rfl) (pe_not (pv 3)))) pss_nil)
    (pss_one (ps_if (PW.pt (pw_and (pt_cmpR (opEq (K := K) hr.units rfl) (pv 4) pe_str (nomark _)) (pw_and1 (pt_not (pt_val (pv 3)))))) (pss_cons (ps_expr (pe_bm PySem.F.plainAttrs_list PySem.F.slot_list_append PySem.F.type_list_append mt_append (pv 1) (pa_cons (pv 2) pa_nil)))
    (pss_one (ps_set (i := 2) sc__law_cut.nd rfl (Or.inl rfl) pe_str))) (pss_one (ps_set (i := 2) sc__law_cut.nd rfl (Or.inl rfl) (pe_op op_add_str (pv 2) (pv 4))))))))
    (pss_one (ps_ret (pe_op op_cat (pv 1) (pe_lst (pa_cons (pv 2) pa_nil))))))))), ?_⟩
  obtain ⟨dp, sp, h⟩ := h
  exact fn0 (m := B__law_cut) (rk := .dat) (κb := [.dat, .dat, .dat, .dat, .dat]) (κc := [.dat, .dat, .dat, .dat, .dat]) (κ := [.dat, .dat, .dat, .dat, .dat]) (κn := [.dat, .dat, .dat, .dat, .dat]) ((okSeq (okAsgOwn (i := 1) (okLst okNil))
    (okSeq (okAsg (i := 2) okStr)
    (okSeq (okAsg (i := 3) okBl)
    (okSeq (okFor (gIStr (okVar (by rfl))) okGName (okSeq (okIfS (okTest (gOp oEq (okVar (by rfl)) okStr)) (okAsg (i := 3) (gNotV (okVar (by rfl)))) okNext)
    (okIfS (okAnd (okTest (gOp oEq (okVar (by rfl)) okStr)) (okNot (okTB (okVar (by rfl))))) (okSeq (okMutD muApp (okCons (okVar (by rfl)) okNil))
    (okAsg (i := 2) okStr)) (okAsg (i := 2) (gOp oAddS (okVar (by rfl)) (okVar (by rfl)))))))
    (okRet ((gOpL oCat (okBor (.inl (by rfl))) (okLst (okCons (okVar (by rfl)) okNil)))).dat)))))) h
theorem sc__law_read : FnScope ["word", "signs", "inner", "digits", "sign"] ["word"] (defScope s__law_read) := ⟨rfl, rfl, rfl, by decide +kernel, rfl, by decide +kernel, by decide +kernel⟩
theorem ok__law_read 
    (T : Top P w K mg) : Good P w K mg CX0 1 "_law_read" ["word"] (spD K (cnL mg) false [.dat] .dat (mFn .dat 5 B__law_read)) := by
  refine T.d__law_read.good fun f fd F base => F.ok sc__law_read (spD_len rfl) (fun cdv A outer s H vs Q E hr h => ?_)
  refine ⟨_, (pss_cons (ps_set (i := 1) sc__law_read.nd rfl (Or.inr rfl) pe_str)
    (pss_cons (ps_if (PW.pt (pw_and (pt_cmpR op_ge (pe_callB call_len_str (by rfl) T.b_len bt_len (pa_cons (pv 0) pa_nil)) pe_int (nomark _)) (pw_and (pt_cmpR (opEq (K := K) hr.units rfl) (pe_ix ix_str (pv 0) pe_int (fun _ _ => rfl)) pe_str (nomark _)) (pw_and1 (pt_cmpR (opEq (K := K) hr.units rfl) (pe_ix ix_str (pv 0) (pe_un un_neg pe_int) (fun _ _ => rfl)) pe_str (nomark _)))))) (pss_cons (ps_set (i := 2) sc__law_read.nd rfl (Or.inl rfl) (pe_slice sl_str (pv 0) (po_some pe_int) (po_some (pe_un un_neg pe_int))))
    (pss_one (ps_ret (pe_ifExp (PW.pt (pw_and (pt_cmpR op_le (pe_callB call_len_str (by rfl) T.b_len bt_len (pa_cons (pv 2) pa_nil)) pe_int (nomark _)) (pw_and1 (pt_val (pe_callB (kAllL (K := K) rfl rfl) (by rfl) T.b_all bt_all (pa_cons (pe_lc (own := [("sign", 4)]) rfl sc__law_read.nd (pi_str (pv 2)) (blkOk_by (own := [("sign", 4)]) (N := ["word", "signs", "inner", "digits", "sign"]) (sc := defScope s__law_read) (by decide +kernel)) (fun _ _ _ _ _ => by exact (pgN (i := 4) sc__law_read.nd rfl (Or.inl rfl) (Or.inr rfl))) (fun _ _ _ _ _ => by exact pts_nil) (fun _ _ _ _ _ => by exact (pe_cmpR op_in_sign (pv 4) (pv 1) rfl))) pa_nil)))))) (pv 2) pe_non)))) pss_nil)
    (pss_cons (ps_set (i := 3) sc__law_read.nd rfl (Or.inl rfl) (pe_ifExp (pt_cmpR (opEq (K := K) hr.units rfl) (pe_slice sl_str (pv 0) po_none (po_some pe_int)) pe_str (nomark _)) (pe_slice sl_str (pv 0) (po_some pe_int) po_none) (pv 0)))
    (pss_cons (ps_if (PW.pt (pw_or (pt_cmpR op_lt (pe_callB call_len_str (by rfl) T.b_len bt_len (pa_cons (pv 3) pa_nil)) pe_int (nomark _)) (pw_or (pt_cmpR op_gt (pe_callB call_len_str (by rfl) T.b_len bt_len (pa_cons (pv 3) pa_nil)) pe_int (nomark _)) (pw_or1 (pt_val (pe_callB (kAnyL (K := K) rfl rfl) (by rfl) T.b_any bt_any (pa_cons (pe_lc (own := [("sign", 4)]) rfl sc__law_read.nd (pi_str (pv 3)) (blkOk_by (own := [("sign", 4)]) (N := ["word", "signs", "inner", "digits", "sign"]) (sc := defScope s__law_read) (by decide +kernel)) (fun _ _ _ _ _ => by exact (pgN (i := 4) sc__law_read.nd rfl (Or.inl rfl) (Or.inr rfl))) (fun _ _ _ _ _ => by exact pts_nil) (fun _ _ _ _ _ => by exact (pe_cmpR op_notIn_sign (pv 4) pe_str rfl))) pa_nil))))))) (pss_one (ps_ret pe_non)) pss_nil)
    (pss_one (ps_ret (pe_ifExp (pt_cmpR (opEq (K := K) hr.units rfl) (pe_callTy call_str_int (by rfl) T.b_str bt_str (pa_cons (pe_callTy call_int_str (by rfl) T.b_int bt_int (pa_cons (pv 0) pa_nil)) pa_nil)) (pv 0) (nomark _)) (pe_callTy call_int_str (by rfl) T.b_int bt_int (pa_cons (pv 0) pa_nil)) pe_non))))))), ?_⟩
  obtain ⟨dp, sp, h⟩ := h
  exact fn0 (m := B__law_read) (rk := .dat) (κb := [.dat, .dat, .dat, .dat, .dat]) (κc := [.dat, .dat, .dat, .dat, .dat]) (κ := [.dat, .dat, .dat, .dat, .dat]) (κn := [.dat, .dat, .dat, .dat, .dat]) ((okSeq (okAsg (i := 1) okStr)
    (okSeq (okIfS (okAnd (okTest (gOp oGe (gCB cLenS (okCons (okVar (by rfl)) okNil)) okInt)) (okAnd (okTest (gOp oEq (gOp oIxS (okVar (by rfl)) okInt) okStr)) (okTest (gOp oEq (gOp oIxS (okVar (by rfl)) (gNeg okInt)) okStr)))) (okSeq (okAsg (i := 2) (gSl oSlS (okVar (by rfl)) (gPart okInt) (gPart (gNeg okInt))))
    (okRet (okIf (okAnd (okTest (gOp oLe (gCB cLenS (okCons (okVar (by rfl)) okNil)) okInt)) (okTB (gCB cAllL (okLast (okLc (vs := [4]) (OkI.c (gIStr (okVar (by rfl)))) okGName okYes (gOp oInC (okVar (by rfl)) (okVar (by rfl)))))))) (okVar (by rfl)) okNon))) okNext)
    (okSeq (okAsg (i := 3) (okIf (okTest (gOp oEq (gSl oSlS (okVar (by rfl)) gNoP (gPart okInt)) okStr)) (gSl oSlS (okVar (by rfl)) (gPart okInt) gNoP) (okVar (by rfl))))
    (okSeq (okIfS (okOr (okTest (gOp oLt (gCB cLenS (okCons (okVar (by rfl)) okNil)) okInt)) (okOr (okTest (gOp oGt (gCB cLenS (okCons (okVar (by rfl)) okNil)) okInt)) (okTB (gCB cAnyL (okLast (okLc (vs := [4]) (OkI.c (gIStr (okVar (by rfl)))) okGName okYes (gOp oNotInC (okVar (by rfl)) okStr))))))) (okRet okNon) okNext)
    (okRet (okIf (okTest (gOp oEq (gCB cStrI (okCons (gCB cIntS (okCons (okVar (by rfl)) okNil)) okNil)) (okVar (by rfl)))) (gCB cIntS (okCons (okVar (by rfl)) okNil)) okNon))))))) h
theorem sc__law_due : FnScope ["schema", "text", "lines", "found", "k", "values", "kinds", "word", "value", "name", "kind"] ["schema", "text"] (defScope s__law_due) := ⟨rfl, rfl, rfl, by decide +kernel, rfl, by decide +kernel, by decide +kernel⟩
theorem ok__law_due 
    (T : Top P w K mg)
    (h__law_cut : Good P w K mg CX0 1 "_law_cut" ["line"] (spD K (cnL mg) false [.dat] .dat F__law_cut))
    (h__law_read : Good P w K mg CX0 1 "_law_read" ["word"] (spD K (cnL mg) false [.dat] .dat F__law_read)) : Good P w K mg CX0 2 "_law_due" ["schema", "text"] (spD K (cnL mg) false [.dat, .dat] .dat (mFn .dat 11 B__law_due)) := by
  obtain ⟨a__law_cut, fd__law_cut, g__law_cut, k__law_cut, b__law_cut, _, G__law_cut⟩ := h__law_cut
  obtain ⟨a__law_read, fd__law_read, g__law_read, k__law_read, b__law_read, _, G__law_read⟩ := h__law_read
  refine T.d__law_due.good fun f fd F base => F.ok sc__law_due (spD_len rfl) (fun cdv A outer s H vs Q E hr h => ?_)
  refine ⟨_, (pss_cons (ps_set (i := 2) sc__law_due.nd rfl (Or.inl rfl) (pe_split (pv 1) pe_str))
    (pss_cons (ps_set (i := 3) sc__law_due.nd rfl (Or.inl rfl) (pe_lst pa_nil))
    (pss_cons (ps_for PassesOwn.never rfl (pi_range1 (by rfl) T.b_range (pa_cons (pe_op op_sub (pe_callB (kLen (K := K) rfl) (by rfl) T.b_len bt_len (pa_cons (pv 2) pa_nil)) pe_int) pa_nil)) (pgN (i := 4) sc__law_due.nd rfl (Or.inl rfl) (Or.inl rfl)) (pss_cons (ps_setLc (i := 5) (own := [("word", 7)]) rfl sc__law_due.nd rfl rfl (sw_true rfl rfl rfl (by decide +kernel)) (pi_list (pe_call (G__law_cut base) (hr.mono (by decide)) (by rfl) g__law_cut k__law_cut b__law_cut .nil pass0 (pa_cons (pe_ix (kIxL (K := K) rfl) (pv 2) (pv 4) (fun _ _ => rfl)) pa_nil))) (blkOk_by (own := [("word", 7)]) (N := ["schema", "text", "lines", "found", "k", "values", "kinds", "word", "value", "name", "kind"]) (sc := defScope s__law_due) (by decide +kernel)) (fun _ _ _ _ _ => by exact (pgN (i := 7) sc__law_due.nd rfl (Or.inl rfl) (Or.inr rfl))) (fun _ _ _ _ _ => by exact pts_nil) (fun _ _ _ _ _ => by exact (pe_call (G__law_read base) (hr.mono (by decide)) (by rfl) g__law_read k__law_read b__law_read .nil pass0 (pa_cons (pv 7) pa_nil))))
    (pss_cons (ps_if (PW.pt (pw_or (pt_cmpR (kInD (K := K) (hu65 hr) rfl) pe_non (pv 5) rfl) (pw_or (pt_cmpR op_lt (pe_callB (kLen (K := K) rfl) (by rfl) T.b_len bt_len (pa_cons (pv 5) pa_nil)) pe_int (nomark _)) (pw_or1 (pt_val (pe_callB (kIsi (K := K) rfl) (by rfl) T.b_isinstance bt_isinstance (pa_cons (pe_ix (kIxL (K := K) rfl) (pv 5) pe_int (fun _ _ => rfl)) (pa_cons (pe_bltn (v := .ty "str") (by rfl) T.b_str bt_str rfl) pa_nil)))))))) (pss_one (ps_ret (pe_tup (pa_cons pe_str (pa_cons (pv 4) pa_nil))))) pss_nil)
    (pss_cons (ps_if (pt_not (pt_chain op_le op_le pe_int (pe_ix (kIxL (K := K) rfl) (pv 5) pe_int (fun _ _ => rfl)) pe_int)) (pss_one (ps_ret (pe_tup (pa_cons pe_str (pa_cons (pv 4) pa_nil))))) pss_nil)
    (pss_cons (ps_set (i := 6) sc__law_due.nd rfl (Or.inl rfl) (pe_callTy (kTupOf (K := K) rfl) (by rfl) T.b_tuple bt_tuple (pa_cons (pe_lc (own := [("value", 8)]) rfl sc__law_due.nd (pi_list (pe_slice (kSlL (K := K) rfl) (pv 5) (po_some pe_int) po_none)) (blkOk_by (own := [("value", 8)]) (N := ["schema", "text", "lines", "found", "k", "values", "kinds", "word", "value", "name", "kind"]) (sc := defScope s__law_due) (by decide +kernel)) (fun _ _ _ _ _ => by exact (pgN (i := 8) sc__law_due.nd rfl (Or.inl rfl) (Or.inr rfl))) (fun _ _ _ _ _ => by exact pts_nil) (fun _ _ _ _ _ => by exact (pe_ifExp (pt_val (pe_callB (kIsi (K := K) rfl) (by rfl) T.b_isinstance bt_isinstance (pa_cons (pv 8) (pa_cons (pe_bltn (v := .ty "str") (by rfl) T.b_str bt_str rfl) pa_nil)))) pe_str pe_str))) pa_nil)))
    (pss_cons (ps_if (pt_cmpR (opNe (K := K) hr.units rfl) (pv 6) (pe_callTy (kTupOf (K := K) rfl) (by rfl) T.b_tuple bt_tuple (pa_cons (pe_lc (own := [("name", 9), ("kind", 10)]) rfl sc__law_due.nd (pi_tup (pv 0)) (blkOk_by (own := [("name", 9), ("kind", 10)]) (N := ["schema", "text", "lines", "found", "k", "values", "kinds", "word", "value", "name", "kind"]) (sc := defScope s__law_due) (by decide +kernel)) (fun _ _ _ _ _ => by exact (pgT (K := K) (n := 2) rfl (pgsC (pgN (i := 9) sc__law_due.nd rfl (Or.inl rfl) (Or.inr rfl)) (pgsC (pgN (i := 10) sc__law_due.nd rfl (Or.inl rfl) (Or.inr rfl)) pgs_nil rfl) rfl) rfl rfl rfl)) (fun _ _ _ _ _ => by exact pts_nil) (fun _ _ _ _ _ => by exact (pv 10))) pa_nil)) (nomark _)) (pss_one (ps_ret (pe_tup (pa_cons pe_str (pa_cons (pv 4) pa_nil))))) pss_nil)
    (pss_one (ps_expr (pe_bm PySem.F.plainAttrs_list PySem.F.slot_list_append PySem.F.type_list_append mt_append (pv 3) (pa_cons (pe_tup (pa_cons (pe_ix (kIxL (K := K) rfl) (pv 5) pe_int (fun _ _ => rfl)) (pa_cons (pe_callTy (kTupOf (K := K) rfl) (by rfl) T.b_tuple bt_tuple (pa_cons (pe_slice (kSlL (K := K) rfl) (pv 5) (po_some pe_int) po_none) pa_nil)) pa_nil))) pa_nil))))))))))
    (pss_one (ps_ret (pe_ifExp (pt_cmpR (opEq (K := K) hr.units rfl) (pe_ix (kIxL (K := K) rfl) (pv 2) (pe_un un_neg pe_int) (fun _ _ => rfl)) pe_str (nomark _)) (pv 3) (pe_tup (pa_cons pe_str (pa_cons (pe_op op_sub (pe_callB (kLen (K := K) rfl) (by rfl) T.b_len bt_len (pa_cons (pv 2) pa_nil)) pe_int) pa_nil))))))))), ?_⟩
  obtain ⟨dp, sp, h⟩ := h
  exact fn0 (m := B__law_due) (rk := .dat) (κb := [.dat, .dat, .dat, .dat, .dat, .dat, .dat, .dat, .dat, .dat, .dat]) (κc := [.dat, .dat, .dat, .dat, .dat, .dat, .dat, .dat, .dat, .dat, .dat]) (κ := [.dat, .dat, .dat, .dat, .dat, .dat, .dat, .dat, .dat, .dat, .dat]) (κn := [.dat, .dat, .dat, .dat, .dat, .dat, .dat, .dat, .dat, .dat, .dat]) ((okSeq (okAsg (i := 2) ((okSplit (b := "\n") (okVar (by rfl)) (by decide))).dat)
    (okSeq (okAsgOwn (i := 3) (okLst okNil))
    (okSeq (okFor (okIR1 (okCons (gOp oSub (gCB cLen (okCons (okVar (by rfl)) okNil)) okInt) okNil)) okGName (okSeq (okAsg (i := 5) ((okLc (vs := [7]) (OkI.c (gIDat (gCall (rk := .dat) (okCons (gOp oIxL (okVar (by rfl)) (okVar (by rfl))) okNil)))) okGName okYes (gCall (rk := .dat) (okCons (okVar (by rfl)) okNil)))).dat)
    (okSeq (okIfS (okOr (okTest (gOp oInD okNon (okVar (by rfl)))) (okOr (okTest (gOp oLt (gCB cLen (okCons (okVar (by rfl)) okNil)) okInt)) (okTB (okIsi (T := "str") (gOp oIxL (okVar (by rfl)) okInt))))) (okRet (okTup (okCons okStr (okCons (okVar (by rfl)) okNil)))) okNext)
    (okSeq (okIfS (okNot (okTest (gChain oLe oLe okInt (gOp oIxL (okVar (by rfl)) okInt) okInt))) (okRet (okTup (okCons okStr (okCons (okVar (by rfl)) okNil)))) okNext)
    (okSeq (okAsg (i := 6) (gCBU cTuple (okLast (okLc (vs := [8]) (OkI.c (gIDat ((gSlL oSlL (okVar (by rfl)) (gPart okInt) gNoP)).dat)) okGName okYes (okIf (okTB (okIsi (T := "str") (okVar (by rfl)))) okStr okStr)))))
    (okSeq (okIfS (okTest (gOp oNe (okVar (by rfl)) (gCBU cTuple (okLast (okLc (vs := [9, 10]) (OkI.c (gITup (okVar (by rfl)))) (okGTup (okGCons okGName (okGCons okGName okGNil))) okYes (okVar (by rfl))))))) (okRet (okTup (okCons okStr (okCons (okVar (by rfl)) okNil)))) okNext)
    (okMutD muApp (okCons (okTup (okCons (gOp oIxL (okVar (by rfl)) okInt) (okCons (gCBU cTuple (okLast (gSlL oSlL (okVar (by rfl)) (gPart okInt) gNoP))) okNil))) okNil))))))))
    (OkS.freeze (i := 3) (okRet (okIf (okTest (gOp oEq (gOp oIxL (okVar (by rfl)) (gNeg okInt)) okStr)) (okVar (by rfl)) (okTup (okCons okStr (okCons (gOp oSub (gCB cLen (okCons (okVar (by rfl)) okNil)) okInt) okNil)))))))))) h
theorem sc__law_told : FnScope ["schema", "text", "e"] ["schema", "text"] (defScope s__law_told) := ⟨rfl, rfl, rfl, by decide +kernel, rfl, by decide +kernel, by decide +kernel⟩
theorem ok__law_told 
    (T : Top P w K mg)
    (h_parse_events : Good P w K mg (L2.CX P w) 6 "parse_events" ["schema", "text"] (spD K (cnL mg) true [.dat, .dat] .dat F_parse_events)) : Good P w K mg CX0 7 "_law_told" ["schema", "text"] (spD K (cnL mg) false [.dat, .dat] .dat (mFn .dat 3 B__law_told)) := by
  obtain ⟨ad_EventError, fi_EventError, hm_EventError, er_EventError⟩ := T.e_EventError
  obtain ⟨a_parse_events, fd_parse_events, g_parse_events, k_parse_events, b_parse_events, _, G_parse_events⟩ := h_parse_events
  refine T.d__law_told.good fun f fd F base => F.ok sc__law_told (spD_len rfl) (fun cdv A outer s H vs Q E hr h => ?_)
  refine ⟨_, (pss_one (ps_try_as (i := 2) (ts := fun a cls d => tRet ((fun a cls d => tTup (tCons (tXf a cls d ad_EventError "code" (tVar 2)) (tCons (tXf a cls d ad_EventError "line" (tVar 2)) tNil))) a cls d)) (Wout := (fun _ _ _ _ => False)) rfl rfl sc__law_told.nd rfl rfl ⟨rfl, by decide, Or.inl hm_EventError⟩ takes0 (fun wx pn xe tk po => psx (pss_one (ps_ret (pe_callS (G_parse_events base) (hr.mono (by decide)) (by rfl) g_parse_events k_parse_events b_parse_events (fun σ => passAt tk σ) (pa_cons (pv 0) (pa_cons (pv 1) pa_nil))))) rfl) (fun a oe cls d pn hz hf => psx (pss_one (ps_ret (pe_tup (pa_cons (pe_xf (xf_of er_EventError.toCls) er_EventError.no hz hf (pv 2)) (pa_cons (pe_xf (xf_of er_EventError.toCls) er_EventError.no2 hz hf (pv 2)) pa_nil))))) rfl))), ?_⟩
  obtain ⟨dp, sp, h⟩ := h
  have kb_0 := fun (wx : WX) => ((xRet (gCallX (rk := .dat) (okCons (okVar (by rfl)) (okCons (okVar (by rfl)) okNil)))) : OkSx K (drR dp sp) ⟨wx, cnL mg⟩ [.dat, .dat, .dat] [.dat, .dat, .dat] .dat [.dat, .dat, .dat] _ (mRet (mCallX F_parse_events (mCons (mVar 0) (mCons (mVar 1) mNil)))) [.dat, .dat, .dat])
  have kt_0 := okTry (K := K) (n := 3) (i := 2) (fx := []) (c := .ref ad_EventError) (catch_ := fun nm => nm == "EventError") (wx := (fun _ _ _ _ => False)) (tE := (fun a cls d => tTup (tCons (tXf a cls d ad_EventError "code" (tVar 2)) (tCons (tXf a cls d ad_EventError "line" (tVar 2)) tNil)))) (mh := fun fs => (mTup (mCons (mXf 2 "code" fs) (mCons (mXf 2 "line" fs) mNil)))) kb_0 (fun nm cls hc => cat_EventError T hm_EventError hc) (fun nm a cls dd vs fs hc hy hf => (okTup (okCons (okXf (cn_is hc hy hm_EventError) hf (by rfl)) (okCons (okXf (cn_is hc hy hm_EventError) hf (by rfl)) okNil))))
  have rr := fn0 (N := ["schema", "text", "e"]) (m := B__law_told) (rk := .dat) (κb := [.dat, .dat, .dat]) (κc := [.dat, .dat, .dat]) (κ := [.dat, .dat, .dat]) (κn := [.dat, .dat, .dat]) (kt_0) h
  exact rr
theorem sc_law : FnScope ["script", "d", "schema", "events", "text", "turn", "at", "sign", "extra", "bent", "event"] ["script"] (defScope s_law) := ⟨rfl, rfl, rfl, by decide +kernel, rfl, by decide +kernel, by decide +kernel⟩
theorem ok_law (T : Top P w K mg)
    (h__law_begin : Good P w K mg CX0 1 "_law_begin" ["script"] (spBegin K))
    (h__law_fields : Good P w K mg CX0 3 "_law_fields" ["d"] (spD K (cnL mg) false [.res] .dat F__law_fields))
    (h__law_events : Good P w K mg CX0 3 "_law_events" ["d", "fields", "most", "span"] (spD K (cnL mg) false [.res, .dat, .dat, .dat] .dat F__law_events))
    (h__law_line : Good P w K mg CX0 1 "_law_line" ["event"] (spD K (cnL mg) false [.dat] .dat F__law_line))
    (h_format_events : Good P w K mg CX0 2 "format_events" ["schema", "events"] (spD K (cnL mg) false [.dat, .dat] .dat F_format_events))
    (h__law_told : Good P w K mg CX0 7 "_law_told" ["schema", "text"] (spD K (cnL mg) false [.dat, .dat] .dat F__law_told))
    (h__law_take : Good P w K mg CX0 1 "_law_take" ["d", "many"] (spD K (cnL mg) false [.res, .dat] .dat fTake))
    (h__law_pick : Good P w K mg CX0 2 "_law_pick" ["d", "menu"] (spD K (cnL mg) false [.res, .dat] .dat F__law_pick))
    (h__law_due : Good P w K mg CX0 2 "_law_due" ["schema", "text"] (spD K (cnL mg) false [.dat, .dat] .dat F__law_due))
    (hm : ∀ st : Dr, ∃ st', B_law (drRho 11) st = .ok (.rt (.bool true)) st') : Good P w K mg CX0 8 "law" ["script"] (spLaw K) := by
  obtain ⟨a__law_begin, fd__law_begin, g__law_begin, k__law_begin, b__law_begin, _, G__law_begin⟩ := h__law_begin
  obtain ⟨a__law_fields, fd__law_fields, g__law_fields, k__law_fields, b__law_fields, _, G__law_fields⟩ := h__law_fields
  obtain ⟨a__law_events, fd__law_events, g__law_events, k__law_events, b__law_events, _, G__law_events⟩ := h__law_events
  obtain ⟨a__law_line, fd__law_line, g__law_line, k__law_line, b__law_line, _, G__law_line⟩ := h__law_line
  obtain ⟨a_format_events, fd_format_events, g_format_events, k_format_events, b_format_events, _, G_format_events⟩ := h_format_events
  obtain ⟨a__law_told, fd__law_told, g__law_told, k__law_told, b__law_told, _, G__law_told⟩ := h__law_told
  obtain ⟨a__law_take, fd__law_take, g__law_take, k__law_take, b__law_take, _, G__law_take⟩ := h__law_take
  obtain ⟨a__law_pick, fd__law_pick, g__law_pick, k__law_pick, b__law_pick, _, G__law_pick⟩ := h__law_pick
  obtain ⟨a__law_due, fd__law_due, g__law_due, k__law_due, b__law_due, _, G__law_due⟩ := h__law_due
  refine T.d_law.good fun f fd F base => F.ok sc_law (fun vs H Q E h => ?_) (fun cdv A outer s H vs Q E hr h => ?_)
  · obtain ⟨a, ns, rfl, _⟩ := h
    rfl
  refine ⟨_, pss_cons (ps_set (i := 1) sc_law.nd rfl (Or.inl rfl) (pe_call (G__law_begin base) (hr.mono (by decide)) (by rfl) g__law_begin k__law_begin b__law_begin .nil pass0 (pa_cons (pv 0) pa_nil)))
    (pss_cons (ps_set (i := 2) sc_law.nd rfl (Or.inl rfl) (pe_call (G__law_fields base) (hr.mono (by decide)) (by rfl) g__law_fields k__law_fields b__law_fields .nil pass0 (pa_cons (pv 1) pa_nil)))
    (pss_cons (ps_set (i := 3) sc_law.nd rfl (Or.inl rfl) (pe_call (G__law_events base) (hr.mono (by decide)) (by rfl) g__law_events k__law_events b__law_events .nil pass0 (pa_cons (pv 1) (pa_cons (pv 2) (pa_cons pe_int (pa_cons pe_int pa_nil))))))
    (pss_cons (ps_set (i := 4) sc_law.nd rfl (Or.inl rfl) (kJoin (K := K) rfl pe_str (pe_lc (own := [("event", 10)]) rfl sc_law.nd (pi_list (pv 3)) (blkOk_by (own := [("event", 10)]) (N := ["script", "d", "schema", "events", "text", "turn", "at", "sign", "extra", "bent", "event"]) (sc := defScope s_law) (by decide +kernel)) (fun _ _ _ _ _ => by exact (pgN (i := 10) sc_law.nd rfl (Or.inl rfl) (Or.inr rfl))) (fun _ _ _ _ _ => by exact pts_nil) (fun _ _ _ _ _ => by exact (pe_call (G__law_line base) (hr.mono (by decide)) (by rfl) g__law_line k__law_line b__law_line .nil pass0 (pa_cons (pv 10) pa_nil))))))
    (pss_cons (ps_if (PW.pt (pw_or (pt_cmpR (opNe (K := K) hr.units rfl) (pe_call (G_format_events base) (hr.mono (by decide)) (by rfl) g_format_events k_format_events b_format_events .nil pass0 (pa_cons (pv 2) (pa_cons (pv 3) pa_nil))) (pv 4) (nomark _)) (pw_or1 (pt_cmpR (opNe (K := K) hr.units rfl) (pe_call (G__law_told base) (hr.mono (by decide)) (by rfl) g__law_told k__law_told b__law_told .nil pass0 (pa_cons (pv 2) (pa_cons (pv 4) pa_nil))) (pv 3) (nomark _))))) (pss_one (ps_ret pe_bl)) pss_nil)
    (pss_cons (ps_for PassesOwn.never rfl (pi_range1 (by rfl) T.b_range (pa_cons pe_int pa_nil)) (pgN (i := 5) sc_law.nd rfl (Or.inl rfl) (Or.inl rfl)) (pss_cons (ps_set (i := 6) sc_law.nd rfl (Or.inl rfl) (pe_call (G__law_take base) (hr.mono (by decide)) (by rfl) g__law_take k__law_take b__law_take .nil pass0 (pa_cons (pv 1) (pa_cons (pe_op op_add (pe_callB call_len_str (by rfl) T.b_len bt_len (pa_cons (pv 4) pa_nil)) pe_int) pa_nil))))
    (pss_cons (ps_set (i := 7) sc_law.nd rfl (Or.inl rfl) (pe_ix ix_str pe_str (pe_call (G__law_take base) (hr.mono (by decide)) (by rfl) g__law_take k__law_take b__law_take .nil pass0 (pa_cons (pv 1) (pa_cons pe_int pa_nil))) (fun _ _ => rfl)))
    (pss_cons (ps_set (i := 8) sc_law.nd rfl (Or.inl rfl) (pe_call (G__law_pick base) (hr.mono (by decide)) (by rfl) g__law_pick k__law_pick b__law_pick .nil pass0 (pa_cons (pv 1) (pa_cons (pe_lst (pa_cons pe_str (pa_cons pe_str (pa_cons pe_str (pa_cons pe_str (pa_cons pe_str (pa_cons (pe_op op_add_str (pe_op op_add_str pe_str (pe_op op_repS pe_str pe_int)) pe_str) (pa_cons pe_str (pa_cons pe_str pa_nil))))))))) pa_nil))))
    (pss_cons (ps_set (i := 9) sc_law.nd rfl (Or.inl rfl) (pe_call (G__law_pick base) (hr.mono (by decide)) (by rfl) g__law_pick k__law_pick b__law_pick .nil pass0 (pa_cons (pv 1) (pa_cons (pe_lst (pa_cons (pe_op op_add_str (pe_slice sl_str (pv 4) po_none (po_some (pv 6))) (pe_slice sl_str (pv 4) (po_some (pe_op op_add (pv 6) pe_int)) po_none)) (pa_cons (pe_op op_add_str (pe_op op_add_str (pe_slice sl_str (pv 4) po_none (po_some (pv 6))) (pv 7)) (pe_slice sl_str (pv 4) (po_some (pv 6)) po_none)) (pa_cons (pe_op op_add_str (pe_op op_add_str (pe_slice sl_str (pv 4) po_none (po_some (pv 6))) (pv 7)) (pe_slice sl_str (pv 4) (po_some (pe_op op_add (pv 6) pe_int)) po_none)) (pa_cons (pe_op op_add_str (pv 4) (pv 8)) (pa_cons (pe_op op_add_str (pv 4) (pe_slice sl_str (pv 4) po_none (po_some (pe_un un_neg pe_int)))) pa_nil)))))) pa_nil))))
    (pss_one (ps_if (pt_cmpR (opNe (K := K) hr.units rfl) (pe_call (G__law_told base) (hr.mono (by decide)) (by rfl) g__law_told k__law_told b__law_told .nil pass0 (pa_cons (pv 2) (pa_cons (pv 9) pa_nil))) (pe_call (G__law_due base) (hr.mono (by decide)) (by rfl) g__law_due k__law_due b__law_due .nil pass0 (pa_cons (pv 2) (pa_cons (pv 9) pa_nil))) (nomark _)) (pss_one (ps_ret pe_bl)) pss_nil)))))))
    (pss_one (ps_ret pe_bl))))))), ?_⟩
  exact law_reads (cn := cnL mg) (m := B_law) (κb := [.dat, .res, .dat, .dat, .dat, .dat, .dat, .dat, .dat, .dat, .dat]) (κc := [.dat, .res, .dat, .dat, .dat, .dat, .dat, .dat, .dat, .dat, .dat]) (κn := [.dat, .res, .dat, .dat, .dat, .dat, .dat, .dat, .dat, .dat, .dat]) (by decide) h (fun dp sp => (okSeq (okAsg (i := 2) (gCall (rk := .dat) (okCons (okRes (by rfl)) okNil)))
    (okSeq (okAsg (i := 3) (gCall (rk := .dat) (okCons (okRes (by rfl)) (okCons (okVar (by rfl)) (okCons okInt (okCons okInt okNil))))))
    (okSeq (okAsg (i := 4) (okJoin (a := "") (okLc (vs := [10]) (OkI.c (gIDat (okVar (by rfl)))) okGName okYes (gCall (rk := .dat) (okCons (okVar (by rfl)) okNil)))))
    (okSeq (okIfS (okOr (okTest (gOp oNe (gCall (rk := .dat) (okCons (okVar (by rfl)) (okCons (okVar (by rfl)) okNil))) (okVar (by rfl)))) (okTest (gOp oNe (gCall (rk := .dat) (okCons (okVar (by rfl)) (okCons (okVar (by rfl)) okNil))) (okVar (by rfl))))) (okRet okBl) okNext)
    (okSeq (okFor (okIR1 (okCons okInt okNil)) okGName (okSeq (okAsg (i := 6) (gCall (rk := .dat) (okCons (okRes (by rfl)) (okCons (gOp oAdd (gCB cLenS (okCons (okVar (by rfl)) okNil)) okInt) okNil))))
    (okSeq (okAsg (i := 7) (gOp oIxS okStr (gCall (rk := .dat) (okCons (okRes (by rfl)) (okCons okInt okNil)))))
    (okSeq (okAsg (i := 8) (gCall (rk := .dat) (okCons (okRes (by rfl)) (okCons ((okLst (okCons okStr (okCons okStr (okCons okStr (okCons okStr (okCons okStr (okCons (gOp oAddS (gOp oAddS okStr (gOp oRepS okStr okInt)) okStr) (okCons okStr (okCons okStr okNil)))))))))).dat okNil))))
    (okSeq (okAsg (i := 9) (gCall (rk := .dat) (okCons (okRes (by rfl)) (okCons ((okLst (okCons (gOp oAddS (gSl oSlS (okVar (by rfl)) gNoP (gPart (okVar (by rfl)))) (gSl oSlS (okVar (by rfl)) (gPart (gOp oAdd (okVar (by rfl)) okInt)) gNoP)) (okCons (gOp oAddS (gOp oAddS (gSl oSlS (okVar (by rfl)) gNoP (gPart (okVar (by rfl)))) (okVar (by rfl))) (gSl oSlS (okVar (by rfl)) (gPart (okVar (by rfl))) gNoP)) (okCons (gOp oAddS (gOp oAddS (gSl oSlS (okVar (by rfl)) gNoP (gPart (okVar (by rfl)))) (okVar (by rfl))) (gSl oSlS (okVar (by rfl)) (gPart (gOp oAdd (okVar (by rfl)) okInt)) gNoP)) (okCons (gOp oAddS (okVar (by rfl)) (okVar (by rfl))) (okCons (gOp oAddS (okVar (by rfl)) (gSl oSlS (okVar (by rfl)) gNoP (gPart (gNeg okInt)))) okNil))))))).dat okNil))))
    (okIfS (okTest (gOp oNe (gCall (rk := .dat) (okCons (okVar (by rfl)) (okCons (okVar (by rfl)) okNil))) (gCall (rk := .dat) (okCons (okVar (by rfl)) (okCons (okVar (by rfl)) okNil))))) (okRet okBl) okNext))))))
    (okRet okBl))))))) hm
end
theorem all_ok {P : Program} {w : World} {K : PySem.W.Frag} {mg : Str → Option Value} (T : Top P w K mg) (hm : ∀ st : Dr, ∃ st', B_law (drRho 11) st = .ok (.rt (.bool true)) st') : Good P w K mg CX0 8 "law" ["script"] (spLaw K) := by
  have G__law_begin : Good P w K mg CX0 1 "_law_begin" ["script"] (spBegin K) := hand__law_begin T
  have G__law_take : Good P w K mg CX0 1 "_law_take" ["d", "many"] (spD K (cnL mg) false [.res, .dat] .dat fTake) := hand__law_take T
  have G_is_integer : Good P w K mg CX0 1 "is_integer" ["thing"] (spD K (cnL mg) false [.dat] .dat F_is_integer) := ok_is_integer T
  have G_is_text : Good P w K mg CX0 1 "is_text" ["thing"] (spD K (cnL mg) false [.dat] .dat F_is_text) := ok_is_text T
  have G_is_value : Good P w K mg CX0 2 "is_value" ["thing"] (spD K (cnL mg) false [.dat] .dat F_is_value) := ok_is_value T G_is_integer G_is_text
  have G_kind_of : Good P w K mg CX0 1 "kind_of" ["value"] (spD K (cnL mg) false [.dat] .dat F_kind_of) := ok_kind_of T
  have G_is_row : Good P w K mg CX0 3 "is_row" ["schema", "row"] (spD K (cnL mg) false [.dat, .dat] .dat F_is_row) := ok_is_row T G_is_value G_kind_of
  have G_check_event : Good P w K mg (L2N.CX P w) 4 "check_event" ["schema", "event"] (spD K (cnL mg) true [.dat, .dat] .dat F_check_event) := ok_check_event T G_is_row
  have G_format_value : Good P w K mg CX0 1 "format_value" ["value"] (spD K (cnL mg) false [.dat] .dat F_format_value) := ok_format_value T
  have G_format_events : Good P w K mg CX0 2 "format_events" ["schema", "events"] (spD K (cnL mg) false [.dat, .dat] .dat F_format_events) := ok_format_events T G_format_value
  have G_read_number : Good P w K mg CX0 1 "read_number" ["word"] (spD K (cnL mg) false [.dat] .dat F_read_number) := ok_read_number T
  have G_read_value : Good P w K mg CX0 2 "read_value" ["line", "at"] (spD K (cnL mg) false [.dat, .dat] .dat F_read_value) := ok_read_value T G_is_text G_read_number
  have G_read_line : Good P w K mg CX0 3 "read_line" ["line"] (spD K (cnL mg) false [.dat] .dat F_read_line) := ok_read_line T G_read_value
  have G_read_event_text : Good P w K mg CX0 4 "read_event_text" ["line"] (spD K (cnL mg) false [.dat] .dat F_read_event_text) := ok_read_event_text T G_read_line
  have G_read_event : Good P w K mg (L2.CX P w) 5 "read_event" ["schema", "line", "number"] (spD K (cnL mg) true [.dat, .dat, .dat] .dat F_read_event) := ok_read_event T G_read_event_text G_check_event
  have G_parse_events : Good P w K mg (L2.CX P w) 6 "parse_events" ["schema", "text"] (spD K (cnL mg) true [.dat, .dat] .dat F_parse_events) := ok_parse_events T G_read_event
  have G__law_pick : Good P w K mg CX0 2 "_law_pick" ["d", "menu"] (spD K (cnL mg) false [.res, .dat] .dat F__law_pick) := ok__law_pick T G__law_take
  have G__law_events : Good P w K mg CX0 3 "_law_events" ["d", "fields", "most", "span"] (spD K (cnL mg) false [.res, .dat, .dat, .dat] .dat F__law_events) := ok__law_events T G__law_take G__law_pick
  have G__law_fields : Good P w K mg CX0 3 "_law_fields" ["d"] (spD K (cnL mg) false [.res] .dat F__law_fields) := ok__law_fields T G__law_take G__law_pick
  have G__law_line : Good P w K mg CX0 1 "_law_line" ["event"] (spD K (cnL mg) false [.dat] .dat F__law_line) := ok__law_line T
  have G__law_cut : Good P w K mg CX0 1 "_law_cut" ["line"] (spD K (cnL mg) false [.dat] .dat F__law_cut) := ok__law_cut T
  have G__law_read : Good P w K mg CX0 1 "_law_read" ["word"] (spD K (cnL mg) false [.dat] .dat F__law_read) := ok__law_read T
  have G__law_due : Good P w K mg CX0 2 "_law_due" ["schema", "text"] (spD K (cnL mg) false [.dat, .dat] .dat F__law_due) := ok__law_due T G__law_cut G__law_read
  have G__law_told : Good P w K mg CX0 7 "_law_told" ["schema", "text"] (spD K (cnL mg) false [.dat, .dat] .dat F__law_told) := ok__law_told T G_parse_events
  exact ok_law T G__law_begin G__law_fields G__law_events G__law_line G_format_events G__law_told G__law_take G__law_pick G__law_due hm

end K02
namespace K02
open PySem L2 B
theorem top_mk {P : Program} {w : World} {K : PySem.W.Frag} {h : Heap} {mg : Str → Option Value} (X : K.In h) (G : h.Ns mainGlobals mg)
    {f1 : Addr} {od1 an1 : Option Addr} {sl1 : Array (Option Value)} {oc1 kV1 dc1 pm1 cd1 ct1 : Value}
    {f2 : Addr} {od2 an2 : Option Addr} {sl2 : Array (Option Value)} {oc2 kV2 dc2 pm2 cd2 ct2 : Value}
    {f3 : Addr} {od3 an3 : Option Addr} {sl3 : Array (Option Value)} {oc3 kV3 dc3 pm3 cd3 ct3 : Value}
    {f4 : Addr} {od4 an4 : Option Addr} {sl4 : Array (Option Value)} {oc4 kV4 dc4 pm4 cd4 ct4 : Value}
    {f5 : Addr} {od5 an5 : Option Addr} {sl5 : Array (Option Value)} {oc5 kV5 dc5 pm5 cd5 ct5 : Value}
    {f6 : Addr} {od6 an6 : Option Addr} {sl6 : Array (Option Value)} {oc6 kV6 dc6 pm6 cd6 ct6 : Value}
    {f7 : Addr} {od7 an7 : Option Addr} {sl7 : Array (Option Value)} {oc7 kV7 dc7 pm7 cd7 ct7 : Value}
    {f8 : Addr} {od8 an8 : Option Addr} {sl8 : Array (Option Value)} {oc8 kV8 dc8 pm8 cd8 ct8 : Value}
    {f9 : Addr} {od9 an9 : Option Addr} {sl9 : Array (Option Value)} {oc9 kV9 dc9 pm9 cd9 ct9 : Value}
    {f10 : Addr} {od10 an10 : Option Addr} {sl10 : Array (Option Value)} {oc10 kV10 dc10 pm10 cd10 ct10 : Value}
    {f11 : Addr} {od11 an11 : Option Addr} {sl11 : Array (Option Value)} {oc11 kV11 dc11 pm11 cd11 ct11 : Value}
    {f12 : Addr} {od12 an12 : Option Addr} {sl12 : Array (Option Value)} {oc12 kV12 dc12 pm12 cd12 ct12 : Value}
    {f13 : Addr} {od13 an13 : Option Addr} {sl13 : Array (Option Value)} {oc13 kV13 dc13 pm13 cd13 ct13 : Value}
    {f14 : Addr} {od14 an14 : Option Addr} {sl14 : Array (Option Value)} {oc14 kV14 dc14 pm14 cd14 ct14 : Value}
    {f15 : Addr} {od15 an15 : Option Addr} {sl15 : Array (Option Value)} {oc15 kV15 dc15 pm15 cd15 ct15 : Value}
    {f16 : Addr} {od16 an16 : Option Addr} {sl16 : Array (Option Value)} {oc16 kV16 dc16 pm16 cd16 ct16 : Value}
    {f17 : Addr} {od17 an17 : Option Addr} {sl17 : Array (Option Value)} {oc17 kV17 dc17 pm17 cd17 ct17 : Value}
    {f18 : Addr} {od18 an18 : Option Addr} {sl18 : Array (Option Value)} {oc18 kV18 dc18 pm18 cd18 ct18 : Value}
    {f19 : Addr} {od19 an19 : Option Addr} {sl19 : Array (Option Value)} {oc19 kV19 dc19 pm19 cd19 ct19 : Value}
    {f20 : Addr} {od20 an20 : Option Addr} {sl20 : Array (Option Value)} {oc20 kV20 dc20 pm20 cd20 ct20 : Value}
    {f21 : Addr} {od21 an21 : Option Addr} {sl21 : Array (Option Value)} {oc21 kV21 dc21 pm21 cd21 ct21 : Value}
    {f22 : Addr} {od22 an22 : Option Addr} {sl22 : Array (Option Value)} {oc22 kV22 dc22 pm22 cd22 ct22 : Value}
    {f23 : Addr} {od23 an23 : Option Addr} {sl23 : Array (Option Value)} {oc23 kV23 dc23 pm23 cd23 ct23 : Value}
    {f24 : Addr} {od24 an24 : Option Addr} {sl24 : Array (Option Value)} {oc24 kV24 dc24 pm24 cd24 ct24 : Value}
    {f25 : Addr} {od25 an25 : Option Addr} {sl25 : Array (Option Value)} {oc25 kV25 dc25 pm25 cd25 ct25 : Value}
    {C_StreamError fi_StreamError N_StreamError cda_StreamError cc_StreamError : Addr} {nm_StreamError q_StreamError qu_StreamError file_StreamError : Str} {bs_StreamError bm_StreamError sub_StreamError : List Value} {sn_StreamError : List Str} {ab_StreamError : Bool} {col_StreamError : Option Bool} {dd_StreamError od_StreamError an_StreamError cdd_StreamError cld_StreamError : Option Addr} {k0_StreamError k1_StreamError k2_StreamError k3_StreamError k5_StreamError : Option Value} {oc_StreamError doc_StreamError pm_StreamError ct_StreamError ccl_StreamError cl_StreamError : Value} {osl_StreamError ccs_StreamError csl_StreamError : Array (Option Value)} {vs_StreamError : Array Value} {tf_StreamError : Tok} {p1_StreamError p2_StreamError a0_StreamError a1_StreamError a2_StreamError a3_StreamError a4_StreamError m0_StreamError m1_StreamError m2_StreamError m3_StreamError q1_StreamError q2_StreamError q3_StreamError q4_StreamError : Pos}
    {p3_EventError m4_EventError m5_EventError m6_EventError r1_EventError r2_EventError r3_EventError r4_EventError : Pos}
    {C_EventError fi_EventError N_EventError cda_EventError cc_EventError : Addr} {nm_EventError q_EventError qu_EventError file_EventError : Str} {bs_EventError bm_EventError sub_EventError : List Value} {sn_EventError : List Str} {ab_EventError : Bool} {col_EventError : Option Bool} {dd_EventError od_EventError an_EventError cdd_EventError cld_EventError : Option Addr} {k0_EventError k1_EventError k2_EventError k3_EventError k5_EventError : Option Value} {oc_EventError doc_EventError pm_EventError ct_EventError ccl_EventError cl_EventError : Value} {osl_EventError ccs_EventError csl_EventError : Array (Option Value)} {vs_EventError : Array Value} {tf_EventError : Tok} {p1_EventError p2_EventError a0_EventError a1_EventError a2_EventError a3_EventError a4_EventError m0_EventError m1_EventError m2_EventError m3_EventError q1_EventError q2_EventError q3_EventError q4_EventError : Pos}
    {tk_DIGITS : Tok}
    {tk_INT : Tok}
    {tk_LAST_TIME : Tok}
    {tk_LONGEST_TEXT : Tok}
    {tk_MOST_DIGITS : Tok}
    {tk_QUOTE : Tok}
    {tk_TEXT : Tok}
    {tk_TEXT_SIGNS : Tok}
    (a1 : PySem.W.nsIn K mainGlobals "is_integer" = some (some (.ref f1))) (l1 : K.lookup f1 = some ⟨oc1, od1, .func (PySem.W.fnOf "is_integer" "is_integer" (defArgs s_is_integer) (defBody s_is_integer) (defScope s_is_integer) .none kV1 dc1 pm1 an1 cd1 ct1), sl1⟩) (c1 : PySem.W.codeIn K cd1 "is_integer" = true) (k1 : PySem.W.keepIn K (.ref f1) = true)
    (a2 : PySem.W.nsIn K mainGlobals "is_text" = some (some (.ref f2))) (l2 : K.lookup f2 = some ⟨oc2, od2, .func (PySem.W.fnOf "is_text" "is_text" (defArgs s_is_text) (defBody s_is_text) (defScope s_is_text) .none kV2 dc2 pm2 an2 cd2 ct2), sl2⟩) (c2 : PySem.W.codeIn K cd2 "is_text" = true) (k2 : PySem.W.keepIn K (.ref f2) = true)
    (a3 : PySem.W.nsIn K mainGlobals "is_value" = some (some (.ref f3))) (l3 : K.lookup f3 = some ⟨oc3, od3, .func (PySem.W.fnOf "is_value" "is_value" (defArgs s_is_value) (defBody s_is_value) (defScope s_is_value) .none kV3 dc3 pm3 an3 cd3 ct3), sl3⟩) (c3 : PySem.W.codeIn K cd3 "is_value" = true) (k3 : PySem.W.keepIn K (.ref f3) = true)
    (a4 : PySem.W.nsIn K mainGlobals "kind_of" = some (some (.ref f4))) (l4 : K.lookup f4 = some ⟨oc4, od4, .func (PySem.W.fnOf "kind_of" "kind_of" (defArgs s_kind_of) (defBody s_kind_of) (defScope s_kind_of) .none kV4 dc4 pm4 an4 cd4 ct4), sl4⟩) (c4 : PySem.W.codeIn K cd4 "kind_of" = true) (k4 : PySem.W.keepIn K (.ref f4) = true)
    (a5 : PySem.W.nsIn K mainGlobals "is_row" = some (some (.ref f5))) (l5 : K.lookup f5 = some ⟨oc5, od5, .func (PySem.W.fnOf "is_row" "is_row" (defArgs s_is_row) (defBody s_is_row) (defScope s_is_row) .none kV5 dc5 pm5 an5 cd5 ct5), sl5⟩) (c5 : PySem.W.codeIn K cd5 "is_row" = true) (k5 : PySem.W.keepIn K (.ref f5) = true)
    (a6 : PySem.W.nsIn K mainGlobals "check_event" = some (some (.ref f6))) (l6 : K.lookup f6 = some ⟨oc6, od6, .func (PySem.W.fnOf "check_event" "check_event" (defArgs s_check_event) (defBody s_check_event) (defScope s_check_event) .none kV6 dc6 pm6 an6 cd6 ct6), sl6⟩) (c6 : PySem.W.codeIn K cd6 "check_event" = true) (k6 : PySem.W.keepIn K (.ref f6) = true)
    (a7 : PySem.W.nsIn K mainGlobals "format_value" = some (some (.ref f7))) (l7 : K.lookup f7 = some ⟨oc7, od7, .func (PySem.W.fnOf "format_value" "format_value" (defArgs s_format_value) (defBody s_format_value) (defScope s_format_value) .none kV7 dc7 pm7 an7 cd7 ct7), sl7⟩) (c7 : PySem.W.codeIn K cd7 "format_value" = true) (k7 : PySem.W.keepIn K (.ref f7) = true)
    (a8 : PySem.W.nsIn K mainGlobals "format_events" = some (some (.ref f8))) (l8 : K.lookup f8 = some ⟨oc8, od8, .func (PySem.W.fnOf "format_events" "format_events" (defArgs s_format_events) (defBody s_format_events) (defScope s_format_events) .none kV8 dc8 pm8 an8 cd8 ct8), sl8⟩) (c8 : PySem.W.codeIn K cd8 "format_events" = true) (k8 : PySem.W.keepIn K (.ref f8) = true)
    (a9 : PySem.W.nsIn K mainGlobals "read_number" = some (some (.ref f9))) (l9 : K.lookup f9 = some ⟨oc9, od9, .func (PySem.W.fnOf "read_number" "read_number" (defArgs s_read_number) (defBody s_read_number) (defScope s_read_number) .none kV9 dc9 pm9 an9 cd9 ct9), sl9⟩) (c9 : PySem.W.codeIn K cd9 "read_number" = true) (k9 : PySem.W.keepIn K (.ref f9) = true)
    (a10 : PySem.W.nsIn K mainGlobals "read_value" = some (some (.ref f10))) (l10 : K.lookup f10 = some ⟨oc10, od10, .func (PySem.W.fnOf "read_value" "read_value" (defArgs s_read_value) (defBody s_read_value) (defScope s_read_value) .none kV10 dc10 pm10 an10 cd10 ct10), sl10⟩) (c10 : PySem.W.codeIn K cd10 "read_value" = true) (k10 : PySem.W.keepIn K (.ref f10) = true)
    (a11 : PySem.W.nsIn K mainGlobals "read_line" = some (some (.ref f11))) (l11 : K.lookup f11 = some ⟨oc11, od11, .func (PySem.W.fnOf "read_line" "read_line" (defArgs s_read_line) (defBody s_read_line) (defScope s_read_line) .none kV11 dc11 pm11 an11 cd11 ct11), sl11⟩) (c11 : PySem.W.codeIn K cd11 "read_line" = true) (k11 : PySem.W.keepIn K (.ref f11) = true)
    (a12 : PySem.W.nsIn K mainGlobals "read_event_text" = some (some (.ref f12))) (l12 : K.lookup f12 = some ⟨oc12, od12, .func (PySem.W.fnOf "read_event_text" "read_event_text" (defArgs s_read_event_text) (defBody s_read_event_text) (defScope s_read_event_text) .none kV12 dc12 pm12 an12 cd12 ct12), sl12⟩) (c12 : PySem.W.codeIn K cd12 "read_event_text" = true) (k12 : PySem.W.keepIn K (.ref f12) = true)
    (a13 : PySem.W.nsIn K mainGlobals "read_event" = some (some (.ref f13))) (l13 : K.lookup f13 = some ⟨oc13, od13, .func (PySem.W.fnOf "read_event" "read_event" (defArgs s_read_event) (defBody s_read_event) (defScope s_read_event) .none kV13 dc13 pm13 an13 cd13 ct13), sl13⟩) (c13 : PySem.W.codeIn K cd13 "read_event" = true) (k13 : PySem.W.keepIn K (.ref f13) = true)
    (a14 : PySem.W.nsIn K mainGlobals "parse_events" = some (some (.ref f14))) (l14 : K.lookup f14 = some ⟨oc14, od14, .func (PySem.W.fnOf "parse_events" "parse_events" (defArgs s_parse_events) (defBody s_parse_events) (defScope s_parse_events) .none kV14 dc14 pm14 an14 cd14 ct14), sl14⟩) (c14 : PySem.W.codeIn K cd14 "parse_events" = true) (k14 : PySem.W.keepIn K (.ref f14) = true)
    (a15 : PySem.W.nsIn K mainGlobals "_law_begin" = some (some (.ref f15))) (l15 : K.lookup f15 = some ⟨oc15, od15, .func (PySem.W.fnOf "_law_begin" "_law_begin" (defArgs s__law_begin) (defBody s__law_begin) (defScope s__law_begin) .none kV15 dc15 pm15 an15 cd15 ct15), sl15⟩) (c15 : PySem.W.codeIn K cd15 "_law_begin" = true) (k15 : PySem.W.keepIn K (.ref f15) = true)
    (a16 : PySem.W.nsIn K mainGlobals "_law_take" = some (some (.ref f16))) (l16 : K.lookup f16 = some ⟨oc16, od16, .func (PySem.W.fnOf "_law_take" "_law_take" (defArgs s__law_take) (defBody s__law_take) (defScope s__law_take) .none kV16 dc16 pm16 an16 cd16 ct16), sl16⟩) (c16 : PySem.W.codeIn K cd16 "_law_take" = true) (k16 : PySem.W.keepIn K (.ref f16) = true)
    (a17 : PySem.W.nsIn K mainGlobals "_law_pick" = some (some (.ref f17))) (l17 : K.lookup f17 = some ⟨oc17, od17, .func (PySem.W.fnOf "_law_pick" "_law_pick" (defArgs s__law_pick) (defBody s__law_pick) (defScope s__law_pick) .none kV17 dc17 pm17 an17 cd17 ct17), sl17⟩) (c17 : PySem.W.codeIn K cd17 "_law_pick" = true) (k17 : PySem.W.keepIn K (.ref f17) = true)
    (a18 : PySem.W.nsIn K mainGlobals "_law_events" = some (some (.ref f18))) (l18 : K.lookup f18 = some ⟨oc18, od18, .func (PySem.W.fnOf "_law_events" "_law_events" (defArgs s__law_events) (defBody s__law_events) (defScope s__law_events) .none kV18 dc18 pm18 an18 cd18 ct18), sl18⟩) (c18 : PySem.W.codeIn K cd18 "_law_events" = true) (k18 : PySem.W.keepIn K (.ref f18) = true)
    (a19 : PySem.W.nsIn K mainGlobals "_law_fields" = some (some (.ref f19))) (l19 : K.lookup f19 = some ⟨oc19, od19, .func (PySem.W.fnOf "_law_fields" "_law_fields" (defArgs s__law_fields) (defBody s__law_fields) (defScope s__law_fields) .none kV19 dc19 pm19 an19 cd19 ct19), sl19⟩) (c19 : PySem.W.codeIn K cd19 "_law_fields" = true) (k19 : PySem.W.keepIn K (.ref f19) = true)
    (a20 : PySem.W.nsIn K mainGlobals "_law_line" = some (some (.ref f20))) (l20 : K.lookup f20 = some ⟨oc20, od20, .func (PySem.W.fnOf "_law_line" "_law_line" (defArgs s__law_line) (defBody s__law_line) (defScope s__law_line) .none kV20 dc20 pm20 an20 cd20 ct20), sl20⟩) (c20 : PySem.W.codeIn K cd20 "_law_line" = true) (k20 : PySem.W.keepIn K (.ref f20) = true)
    (a21 : PySem.W.nsIn K mainGlobals "_law_cut" = some (some (.ref f21))) (l21 : K.lookup f21 = some ⟨oc21, od21, .func (PySem.W.fnOf "_law_cut" "_law_cut" (defArgs s__law_cut) (defBody s__law_cut) (defScope s__law_cut) .none kV21 dc21 pm21 an21 cd21 ct21), sl21⟩) (c21 : PySem.W.codeIn K cd21 "_law_cut" = true) (k21 : PySem.W.keepIn K (.ref f21) = true)
    (a22 : PySem.W.nsIn K mainGlobals "_law_read" = some (some (.ref f22))) (l22 : K.lookup f22 = some ⟨oc22, od22, .func (PySem.W.fnOf "_law_read" "_law_read" (defArgs s__law_read) (defBody s__law_read) (defScope s__law_read) .none kV22 dc22 pm22 an22 cd22 ct22), sl22⟩) (c22 : PySem.W.codeIn K cd22 "_law_read" = true) (k22 : PySem.W.keepIn K (.ref f22) = true)
    (a23 : PySem.W.nsIn K mainGlobals "_law_due" = some (some (.ref f23))) (l23 : K.lookup f23 = some ⟨oc23, od23, .func (PySem.W.fnOf "_law_due" "_law_due" (defArgs s__law_due) (defBody s__law_due) (defScope s__law_due) .none kV23 dc23 pm23 an23 cd23 ct23), sl23⟩) (c23 : PySem.W.codeIn K cd23 "_law_due" = true) (k23 : PySem.W.keepIn K (.ref f23) = true)
    (a24 : PySem.W.nsIn K mainGlobals "_law_told" = some (some (.ref f24))) (l24 : K.lookup f24 = some ⟨oc24, od24, .func (PySem.W.fnOf "_law_told" "_law_told" (defArgs s__law_told) (defBody s__law_told) (defScope s__law_told) .none kV24 dc24 pm24 an24 cd24 ct24), sl24⟩) (c24 : PySem.W.codeIn K cd24 "_law_told" = true) (k24 : PySem.W.keepIn K (.ref f24) = true)
    (a25 : PySem.W.nsIn K mainGlobals "law" = some (some (.ref f25))) (l25 : K.lookup f25 = some ⟨oc25, od25, .func (PySem.W.fnOf "law" "law" (defArgs s_law) (defBody s_law) (defScope s_law) .none kV25 dc25 pm25 an25 cd25 ct25), sl25⟩) (c25 : PySem.W.codeIn K cd25 "law" = true) (k25 : PySem.W.keepIn K (.ref f25) = true)
    (z_abs : PySem.W.nsIn K mainGlobals "abs" = some none)
    (z_all : PySem.W.nsIn K mainGlobals "all" = some none)
    (z_any : PySem.W.nsIn K mainGlobals "any" = some none)
    (z_bool : PySem.W.nsIn K mainGlobals "bool" = some none)
    (z_enumerate : PySem.W.nsIn K mainGlobals "enumerate" = some none)
    (z_int : PySem.W.nsIn K mainGlobals "int" = some none)
    (z_isinstance : PySem.W.nsIn K mainGlobals "isinstance" = some none)
    (z_len : PySem.W.nsIn K mainGlobals "len" = some none)
    (z_list : PySem.W.nsIn K mainGlobals "list" = some none)
    (z_range : PySem.W.nsIn K mainGlobals "range" = some none)
    (z_str : PySem.W.nsIn K mainGlobals "str" = some none)
    (z_tuple : PySem.W.nsIn K mainGlobals "tuple" = some none)
    (z_zip : PySem.W.nsIn K mainGlobals "zip" = some none)
    (opq : PySem.W.nsIn K PySem.cStatics "thirdparty.any" = some none) (nos : PySem.W.nsIn K mainGlobals "super" = some none) (htop : (P.main.scope.names.lookup ("super" : Str)).isSome = false)
    (aE_StreamError : PySem.W.nsIn K mainGlobals "StreamError" = some (some (.ref C_StreamError)))
    (xE_StreamError : K.lookup C_StreamError = some (excClassObj nm_StreamError q_StreamError C_StreamError N_StreamError bs_StreamError bm_StreamError true sn_StreamError sub_StreamError ab_StreamError col_StreamError dd_StreamError k0_StreamError k1_StreamError k2_StreamError k3_StreamError k5_StreamError "ValueError.__new__"))
    (bE_StreamError : PySem.HandSPX.refsVE bm_StreamError = true)
    (saE_StreamError : PySem.W.findIn K (.ref C_StreamError) "__setattr__" = some (some (.builtin "object.__setattr__")))
    (gaE_StreamError : PySem.W.findIn K (.ref C_StreamError) "__getattribute__" = some (some (.builtin "BaseException.__getattribute__")))
    (ggE_StreamError : PySem.W.findIn K (.ref C_StreamError) "__getattr__" = some none)
    (noE_StreamError : PySem.W.findIn K (.ref C_StreamError) "code" = some none)
    (kcE_StreamError : PySem.W.keepIn K (.ref C_StreamError) = true)
    (exE_StreamError : PySem.W.subIn K (.ref C_StreamError) (.type "BaseException") = some true)
    (veE_StreamError : PySem.W.subIn K (.ref C_StreamError) (.type "ValueError") = some true)
    (seE_StreamError : PySem.W.mroIn K C_StreamError (.ref C_StreamError) = some true)
    (tyE_StreamError : PySem.W.typeIn K (.ref C_StreamError) = some (.type "type"))
    (hdE_StreamError : PySem.W.hasDictIn K C_StreamError = true)
    (suE_StreamError : PySem.W.ks_superIn K C_StreamError C_StreamError "__init__" = some (some (.builtin "ValueError.__init__")))
    (iE_StreamError : PySem.W.findIn K (.ref C_StreamError) "__init__" = some (some (.ref fi_StreamError)))
    (tiE_StreamError : PySem.W.typeIn K (.ref fi_StreamError) = some (.type "function"))
    (lE_StreamError : K.lookup fi_StreamError = some ⟨oc_StreamError, od_StreamError, .func (PySem.W.ksFn "__init__" qu_StreamError (BX.eA p1_StreamError p2_StreamError) [BX.eI a0_StreamError a1_StreamError a2_StreamError a3_StreamError a4_StreamError (BX.eM m0_StreamError m1_StreamError m2_StreamError m3_StreamError), BX.eF "code" q1_StreamError q2_StreamError q3_StreamError q4_StreamError] BX.eS .none .none doc_StreamError pm_StreamError an_StreamError (.ref cda_StreamError) ct_StreamError cc_StreamError), osl_StreamError⟩)
    (cE_StreamError : PySem.W.codeIn K (.ref cda_StreamError) qu_StreamError = true)
    (dE_StreamError : K.lookup cda_StreamError = some ⟨ccl_StreamError, cdd_StreamError, .fields vs_StreamError, ccs_StreamError⟩)
    (vE_StreamError : vs_StreamError[2]? = some (.str file_StreamError tf_StreamError))
    (fE_StreamError : ((P.main.file : Str) == file_StreamError) = true)
    (gE_StreamError : K.lookup cc_StreamError = some ⟨cl_StreamError, cld_StreamError, .cell (some (.ref C_StreamError)), csl_StreamError⟩)
    (hcE_StreamError : ∀ (L : Addr) (cda : Value) (cc : Addr), ∃ pl : Sem Bool, eval (.Call (.Attribute (.Call (.Name "super" a0_StreamError) [] [] a1_StreamError) "__init__" a2_StreamError) [(BX.eM m0_StreamError m1_StreamError m2_StreamError m3_StreamError)] [] a3_StreamError) (PySem.W.ksEnv qu_StreamError BX.eS L fi_StreamError cda cc) = (do
      let ov ← attributeBase (.Call (.Name "super" a0_StreamError) [] [] a1_StreamError) "__init__" (PySem.W.ksEnv qu_StreamError BX.eS L fi_StreamError cda cc) (eval (.Call (.Name "super" a0_StreamError) [] [] a1_StreamError) (PySem.W.ksEnv qu_StreamError BX.eS L fi_StreamError cda cc))
      standAt (Pos.atName a2_StreamError)
      let (f, first) ← holding [ov] (getMethod ov "__init__" pl)
      callWith a3_StreamError f first (backTo a3_StreamError (starEach [(BX.eM m0_StreamError m1_StreamError m2_StreamError m3_StreamError)] (PySem.W.ksEnv qu_StreamError BX.eS L fi_StreamError cda cc))) []))
    (icE_StreamError : PySem.W.isClsIn K C_StreamError = true)
    (aE_EventError : PySem.W.nsIn K mainGlobals "EventError" = some (some (.ref C_EventError)))
    (xE_EventError : K.lookup C_EventError = some (excClassObj nm_EventError q_EventError C_EventError N_EventError bs_EventError bm_EventError true sn_EventError sub_EventError ab_EventError col_EventError dd_EventError k0_EventError k1_EventError k2_EventError k3_EventError k5_EventError "ValueError.__new__"))
    (bE_EventError : PySem.HandSPX.refsVE bm_EventError = true)
    (saE_EventError : PySem.W.findIn K (.ref C_EventError) "__setattr__" = some (some (.builtin "object.__setattr__")))
    (gaE_EventError : PySem.W.findIn K (.ref C_EventError) "__getattribute__" = some (some (.builtin "BaseException.__getattribute__")))
    (ggE_EventError : PySem.W.findIn K (.ref C_EventError) "__getattr__" = some none)
    (noE_EventError : PySem.W.findIn K (.ref C_EventError) "code" = some none)
    (nwE_EventError : PySem.W.findIn K (.ref C_EventError) "line" = some none)
    (kcE_EventError : PySem.W.keepIn K (.ref C_EventError) = true)
    (exE_EventError : PySem.W.subIn K (.ref C_EventError) (.type "BaseException") = some true)
    (veE_EventError : PySem.W.subIn K (.ref C_EventError) (.type "ValueError") = some true)
    (seE_EventError : PySem.W.mroIn K C_EventError (.ref C_EventError) = some true)
    (tyE_EventError : PySem.W.typeIn K (.ref C_EventError) = some (.type "type"))
    (hdE_EventError : PySem.W.hasDictIn K C_EventError = true)
    (suE_EventError : PySem.W.ks_superIn K C_EventError C_EventError "__init__" = some (some (.builtin "ValueError.__init__")))
    (iE_EventError : PySem.W.findIn K (.ref C_EventError) "__init__" = some (some (.ref fi_EventError)))
    (tiE_EventError : PySem.W.typeIn K (.ref fi_EventError) = some (.type "function"))
    (lE_EventError : K.lookup fi_EventError = some ⟨oc_EventError, od_EventError, .func (PySem.W.ksFn "__init__" qu_EventError (BX.eA2 "line" p1_EventError p2_EventError p3_EventError) [BX.eI a0_EventError a1_EventError a2_EventError a3_EventError a4_EventError (BX.eM2 "line" m0_EventError m1_EventError m2_EventError m3_EventError m4_EventError m5_EventError m6_EventError), BX.eF "code" q1_EventError q2_EventError q3_EventError q4_EventError, BX.eF "line" r1_EventError r2_EventError r3_EventError r4_EventError] (BX.eS2 "line") .none .none doc_EventError pm_EventError an_EventError (.ref cda_EventError) ct_EventError cc_EventError), osl_EventError⟩)
    (cE_EventError : PySem.W.codeIn K (.ref cda_EventError) qu_EventError = true)
    (dE_EventError : K.lookup cda_EventError = some ⟨ccl_EventError, cdd_EventError, .fields vs_EventError, ccs_EventError⟩)
    (vE_EventError : vs_EventError[2]? = some (.str file_EventError tf_EventError))
    (fE_EventError : ((P.main.file : Str) == file_EventError) = true)
    (gE_EventError : K.lookup cc_EventError = some ⟨cl_EventError, cld_EventError, .cell (some (.ref C_EventError)), csl_EventError⟩)
    (hcE_EventError : ∀ (L : Addr) (cda : Value) (cc : Addr), ∃ pl : Sem Bool, eval (.Call (.Attribute (.Call (.Name "super" a0_EventError) [] [] a1_EventError) "__init__" a2_EventError) [(BX.eM2 "line" m0_EventError m1_EventError m2_EventError m3_EventError m4_EventError m5_EventError m6_EventError)] [] a3_EventError) (PySem.W.ksEnv qu_EventError (BX.eS2 "line") L fi_EventError cda cc) = (do
      let ov ← attributeBase (.Call (.Name "super" a0_EventError) [] [] a1_EventError) "__init__" (PySem.W.ksEnv qu_EventError (BX.eS2 "line") L fi_EventError cda cc) (eval (.Call (.Name "super" a0_EventError) [] [] a1_EventError) (PySem.W.ksEnv qu_EventError (BX.eS2 "line") L fi_EventError cda cc))
      standAt (Pos.atName a2_EventError)
      let (f, first) ← holding [ov] (getMethod ov "__init__" pl)
      callWith a3_EventError f first (backTo a3_EventError (starEach [(BX.eM2 "line" m0_EventError m1_EventError m2_EventError m3_EventError m4_EventError m5_EventError m6_EventError)] (PySem.W.ksEnv qu_EventError (BX.eS2 "line") L fi_EventError cda cc))) []))
    (icE_EventError : PySem.W.isClsIn K C_EventError = true)
    (sE_StreamError_EventError : PySem.W.subIn K (.ref C_StreamError) (.ref C_EventError) = some false)
    (sE_EventError_EventError : PySem.W.subIn K (.ref C_EventError) (.ref C_EventError) = some true)
    (sE_StreamError_StreamError : PySem.W.subIn K (.ref C_StreamError) (.ref C_StreamError) = some true)
    (sE_EventError_StreamError : PySem.W.subIn K (.ref C_EventError) (.ref C_StreamError) = some false)
    (u_DIGITS : PySem.W.nsIn K mainGlobals "DIGITS" = some (some (.str "0123456789" tk_DIGITS)))
    (u_INT : PySem.W.nsIn K mainGlobals "INT" = some (some (.str "int" tk_INT)))
    (u_LAST_TIME : PySem.W.nsIn K mainGlobals "LAST_TIME" = some (some (.int 1000000 tk_LAST_TIME)))
    (u_LONGEST_TEXT : PySem.W.nsIn K mainGlobals "LONGEST_TEXT" = some (some (.int 20 tk_LONGEST_TEXT)))
    (u_MOST_DIGITS : PySem.W.nsIn K mainGlobals "MOST_DIGITS" = some (some (.int 10 tk_MOST_DIGITS)))
    (u_QUOTE : PySem.W.nsIn K mainGlobals "QUOTE" = some (some (.str "\"" tk_QUOTE)))
    (u_TEXT : PySem.W.nsIn K mainGlobals "TEXT" = some (some (.str "text" tk_TEXT)))
    (u_TEXT_SIGNS : PySem.W.nsIn K mainGlobals "TEXT_SIGNS" = some (some (.str "abcdefghijklmnopqrstuvwxyzABCDEFGHIJKLMNOPQRSTUVWXYZ0123456789 -._" tk_TEXT_SIGNS))) : Top P w K mg :=
  { d_is_integer := df_mk (st := s_is_integer) X G a1 l1 c1 k1 fun _ _ _ _ _ _ us hl => match us, hl with | [_], _ => rfl,
    d_is_text := df_mk (st := s_is_text) X G a2 l2 c2 k2 fun _ _ _ _ _ _ us hl => match us, hl with | [_], _ => rfl,
    d_is_value := df_mk (st := s_is_value) X G a3 l3 c3 k3 fun _ _ _ _ _ _ us hl => match us, hl with | [_], _ => rfl,
    d_kind_of := df_mk (st := s_kind_of) X G a4 l4 c4 k4 fun _ _ _ _ _ _ us hl => match us, hl with | [_], _ => rfl,
    d_is_row := df_mk (st := s_is_row) X G a5 l5 c5 k5 fun _ _ _ _ _ _ us hl => match us, hl with | [_, _], _ => rfl,
    d_check_event := df_mk (st := s_check_event) X G a6 l6 c6 k6 fun _ _ _ _ _ _ us hl => match us, hl with | [_, _], _ => rfl,
    d_format_value := df_mk (st := s_format_value) X G a7 l7 c7 k7 fun _ _ _ _ _ _ us hl => match us, hl with | [_], _ => rfl,
    d_format_events := df_mk (st := s_format_events) X G a8 l8 c8 k8 fun _ _ _ _ _ _ us hl => match us, hl with | [_, _], _ => rfl,
    d_read_number := df_mk (st := s_read_number) X G a9 l9 c9 k9 fun _ _ _ _ _ _ us hl => match us, hl with | [_], _ => rfl,
    d_read_value := df_mk (st := s_read_value) X G a10 l10 c10 k10 fun _ _ _ _ _ _ us hl => match us, hl with | [_, _], _ => rfl,
    d_read_line := df_mk (st := s_read_line) X G a11 l11 c11 k11 fun _ _ _ _ _ _ us hl => match us, hl with | [_], _ => rfl,
    d_read_event_text := df_mk (st := s_read_event_text) X G a12 l12 c12 k12 fun _ _ _ _ _ _ us hl => match us, hl with | [_], _ => rfl,
    d_read_event := df_mk (st := s_read_event) X G a13 l13 c13 k13 fun _ _ _ _ _ _ us hl => match us, hl with | [_, _, _], _ => rfl,
    d_parse_events := df_mk (st := s_parse_events) X G a14 l14 c14 k14 fun _ _ _ _ _ _ us hl => match us, hl with | [_, _], _ => rfl,
    d__law_begin := df_mk (st := s__law_begin) X G a15 l15 c15 k15 fun _ _ _ _ _ _ us hl => match us, hl with | [_], _ => rfl,
    d__law_take := df_mk (st := s__law_take) X G a16 l16 c16 k16 fun _ _ _ _ _ _ us hl => match us, hl with | [_, _], _ => rfl,
    d__law_pick := df_mk (st := s__law_pick) X G a17 l17 c17 k17 fun _ _ _ _ _ _ us hl => match us, hl with | [_, _], _ => rfl,
    d__law_events := df_mk (st := s__law_events) X G a18 l18 c18 k18 fun _ _ _ _ _ _ us hl => match us, hl with | [_, _, _, _], _ => rfl,
    d__law_fields := df_mk (st := s__law_fields) X G a19 l19 c19 k19 fun _ _ _ _ _ _ us hl => match us, hl with | [_], _ => rfl,
    d__law_line := df_mk (st := s__law_line) X G a20 l20 c20 k20 fun _ _ _ _ _ _ us hl => match us, hl with | [_], _ => rfl,
    d__law_cut := df_mk (st := s__law_cut) X G a21 l21 c21 k21 fun _ _ _ _ _ _ us hl => match us, hl with | [_], _ => rfl,
    d__law_read := df_mk (st := s__law_read) X G a22 l22 c22 k22 fun _ _ _ _ _ _ us hl => match us, hl with | [_], _ => rfl,
    d__law_due := df_mk (st := s__law_due) X G a23 l23 c23 k23 fun _ _ _ _ _ _ us hl => match us, hl with | [_, _], _ => rfl,
    d__law_told := df_mk (st := s__law_told) X G a24 l24 c24 k24 fun _ _ _ _ _ _ us hl => match us, hl with | [_, _], _ => rfl,
    d_law := df_mk (st := s_law) X G a25 l25 c25 k25 fun _ _ _ _ _ _ us hl => match us, hl with | [_], _ => rfl,
    b_abs := PySem.W.mg_none_of X G z_abs,
    b_all := PySem.W.mg_none_of X G z_all,
    b_any := PySem.W.mg_none_of X G z_any,
    b_bool := PySem.W.mg_none_of X G z_bool,
    b_enumerate := PySem.W.mg_none_of X G z_enumerate,
    b_int := PySem.W.mg_none_of X G z_int,
    b_isinstance := PySem.W.mg_none_of X G z_isinstance,
    b_len := PySem.W.mg_none_of X G z_len,
    b_list := PySem.W.mg_none_of X G z_list,
    b_range := PySem.W.mg_none_of X G z_range,
    b_str := PySem.W.mg_none_of X G z_str,
    b_tuple := PySem.W.mg_none_of X G z_tuple,
    b_zip := PySem.W.mg_none_of X G z_zip,
    e_StreamError := ⟨_, _, PySem.W.mg_of X G aE_StreamError, ⟨⟨⟨_, _, _, _, _, _, _, _, _, _, _, _, _, _, _, xE_StreamError, bE_StreamError⟩, saE_StreamError, gaE_StreamError, ggE_StreamError, kcE_StreamError, exE_StreamError, veE_StreamError, seE_StreamError, tyE_StreamError, hdE_StreamError, suE_StreamError, opq, nos, htop⟩, noE_StreamError, ⟨_, _, _, _, _, _, _, _, _, _, _, _, _, _, _, _, ⟨iE_StreamError, tiE_StreamError, _, _, _, _, _, _, _, _, _, _, _, _, _, _, _, _, _, _, lE_StreamError, cE_StreamError, dE_StreamError, vE_StreamError, fE_StreamError, gE_StreamError⟩, hcE_StreamError⟩⟩⟩,
    e_EventError := ⟨_, _, PySem.W.mg_of X G aE_EventError, ⟨⟨⟨_, _, _, _, _, _, _, _, _, _, _, _, _, _, _, xE_EventError, bE_EventError⟩, saE_EventError, gaE_EventError, ggE_EventError, kcE_EventError, exE_EventError, veE_EventError, seE_EventError, tyE_EventError, hdE_EventError, suE_EventError, opq, nos, htop⟩, noE_EventError, nwE_EventError, BX.f2_line, ⟨_, _, _, _, _, _, _, _, _, _, _, _, _, _, _, _, _, _, _, _, _, _, _, _, ⟨iE_EventError, tiE_EventError, _, _, _, _, _, _, _, _, _, _, _, _, _, _, _, _, _, _, lE_EventError, cE_EventError, dE_EventError, vE_EventError, fE_EventError, gE_EventError⟩, hcE_EventError⟩⟩⟩,
    m_StreamError_EventError := fun a x ha hx => by
      have e1 := ha.symm.trans (PySem.W.mg_of X G aE_StreamError)
      have e2 := hx.symm.trans (PySem.W.mg_of X G aE_EventError)
      cases e1; cases e2
      exact exm_mk exE_EventError icE_EventError tyE_EventError sE_StreamError_EventError,
    m_EventError_EventError := fun a x ha hx => by
      have e1 := ha.symm.trans (PySem.W.mg_of X G aE_EventError)
      have e2 := hx.symm.trans (PySem.W.mg_of X G aE_EventError)
      cases e1; cases e2
      exact exm_mk exE_EventError icE_EventError tyE_EventError sE_EventError_EventError,
    m_StreamError_StreamError := fun a x ha hx => by
      have e1 := ha.symm.trans (PySem.W.mg_of X G aE_StreamError)
      have e2 := hx.symm.trans (PySem.W.mg_of X G aE_StreamError)
      cases e1; cases e2
      exact exm_mk exE_StreamError icE_StreamError tyE_StreamError sE_StreamError_StreamError,
    m_EventError_StreamError := fun a x ha hx => by
      have e1 := ha.symm.trans (PySem.W.mg_of X G aE_EventError)
      have e2 := hx.symm.trans (PySem.W.mg_of X G aE_StreamError)
      cases e1; cases e2
      exact exm_mk exE_StreamError icE_StreamError tyE_StreamError sE_EventError_StreamError,
    c_DIGITS := ⟨_, PySem.W.mg_of X G u_DIGITS⟩,
    c_INT := ⟨_, PySem.W.mg_of X G u_INT⟩,
    c_LAST_TIME := ⟨_, PySem.W.mg_of X G u_LAST_TIME⟩,
    c_LONGEST_TEXT := ⟨_, PySem.W.mg_of X G u_LONGEST_TEXT⟩,
    c_MOST_DIGITS := ⟨_, PySem.W.mg_of X G u_MOST_DIGITS⟩,
    c_QUOTE := ⟨_, PySem.W.mg_of X G u_QUOTE⟩,
    c_TEXT := ⟨_, PySem.W.mg_of X G u_TEXT⟩,
    c_TEXT_SIGNS := ⟨_, PySem.W.mg_of X G u_TEXT_SIGNS⟩ }
end K02

namespace K02
open PySem L2 B
def dgL : List Nat := [48, 49, 50, 51, 52, 53, 54, 55, 56, 57]
def isDg (c : Nat) : Bool := decide (c ∈ dgL)
def txtL : List Nat := (Str.ofString "abcdefghijklmnopqrstuvwxyzABCDEFGHIJKLMNOPQRSTUVWXYZ0123456789 -._").cps.toList
def isTx (c : Nat) : Bool := decide (c ∈ txtL)
theorem s_dig : (PyData.str "0123456789" : D) = T dgL := rfl
theorem s_txt : (PyData.str "abcdefghijklmnopqrstuvwxyzABCDEFGHIJKLMNOPQRSTUVWXYZ0123456789 -._" : D) = T txtL := T_of _
theorem s_quo : (PyData.str "\"" : D) = T [34] := rfl
theorem s_spc : (PyData.str " " : D) = T [32] := rfl
theorem s_nl : (PyData.str "\n" : D) = T [10] := rfl
theorem s_min : (PyData.str "-" : D) = T [45] := rfl
theorem s_emp : (PyData.str "" : D) = T [] := rfl
def isText (l : List Nat) : Bool := decide (l.length ≤ 20) && l.all isTx
theorem lc_tx {ρ : Rho} (i : Nat) (l : List Nat) (z : List Nat) (e : ME Dr) (he : ∀ c, bnd (lift (gN i (T [c]) ρ)) e = (ret (.bool (decide (c ∈ z))) : M Dr D)) : mLcL (gN i) mYes e ρ (l.map fun c => T [c]) = (ret (l.map fun c => .bool (decide (c ∈ z))) : M Dr (List D)) :=
  pu_lcM (enc := fun c => T [c]) (h := fun c => .bool (decide (c ∈ z))) fun c _ => he c
theorem isText_of {l : List Nat} (h : l.length ≤ 1000000) : F_is_text [T l] = (ret (.bool (isText l)) : M Dr D) := by
  by_cases h2 : l.length ≤ 20
  · have h3 : ¬ (20 : Int) < l.length := by omega
    have e := lc_tx (ρ := [some (T l), none]) 1 l txtL Be_is_text_1 (fun c => by simp [Be_is_text_1, s_txt])
    have ea : (l.all fun c => decide (c ∈ txtL)) = l.all isTx := rfl
    simp [F_is_text, B_is_text, h, h3, e, o_AllM, isText, h2, ea]
  · have h3 : (20 : Int) < l.length := by omega
    simp [F_is_text, B_is_text, h, h3, isText, h2]
/-- the number of a word -/
def dgs (w : List Nat) : List Nat := if w.take 1 = [45] then w.drop 1 else w
def isNum (w : List Nat) : Bool := decide (1 ≤ (dgs w).length) && decide ((dgs w).length ≤ 10) && (dgs w).all isDg
def rdNum (w : List Nat) : Option Int := if isNum w then (match PySem.intText? ⟨w.toArray⟩ with | some n => if numT n = w then some n else none | none => none) else none
def optI : Option Int → D | some n => .int n | none => .none
theorem dg_iff {c : Nat} : isDg c = true ↔ 48 ≤ c ∧ c ≤ 57 := by
  unfold isDg dgL
  simp only [List.mem_cons, List.not_mem_nil, or_false, decide_eq_true_eq]
  omega
theorem foldl_lt : ∀ (l : List Nat) (a : Nat), (∀ c ∈ l, c ≤ 57) → l.foldl (fun acc c => acc * 10 + (c - 48)) a < (a + 1) * 10 ^ l.length
  | [], a, _ => by simp
  | c :: l, a, h => by
    have := foldl_lt l (a * 10 + (c - 48)) (fun c hc => h c (List.mem_cons_of_mem _ hc))
    have hc := h c List.mem_cons_self
    rw [List.foldl_cons, List.length_cons, Nat.pow_succ]
    refine Nat.lt_of_lt_of_le this ?_
    have e : (a + 1) * (10 ^ l.length * 10) = (a * 10 + 10) * 10 ^ l.length := by
      rw [Nat.mul_comm (10 ^ l.length) 10, ← Nat.mul_assoc, Nat.add_mul, Nat.one_mul]
    rw [e]
    exact Nat.mul_le_mul_right _ (by omega)
theorem num_int {w : List Nat} (h : isNum w = true) : ∃ n, PySem.intText? ⟨w.toArray⟩ = some n ∧ n.natAbs < 10 ^ 10 ∧ w.length ≤ 11 := by
  unfold isNum at h
  simp only [Bool.and_eq_true, decide_eq_true_eq, List.all_eq_true] at h
  obtain ⟨⟨h1, h2⟩, h3⟩ := h
  have had : NumText.AllDigits (dgs w) := fun c hc => dg_iff.mp (h3 c hc)
  have hval : NumText.digitsVal (dgs w) < 10 ^ 10 := by
    have := foldl_lt (dgs w) 0 (fun c hc => (had c hc).2)
    rw [Nat.zero_add, Nat.one_mul] at this
    exact Nat.lt_of_lt_of_le this (Nat.pow_le_pow_right (by decide) h2)
  have hne : dgs w ≠ [] := fun z => by rw [z] at h1; simp at h1
  have hlen : Str.length ⟨w.toArray⟩ = w.length := len_T w
  by_cases hm : w.take 1 = [45]
  · have hw : w = 45 :: dgs w := by
      unfold dgs
      rw [if_pos hm]
      have := List.take_append_drop 1 w
      rw [hm] at this
      exact this.symm
    have hl : w.length ≤ 11 := by rw [hw, List.length_cons]; omega
    exact ⟨_, _root_.PySem.intText_neg (x := ⟨w.toArray⟩) (cs := dgs w) (by show w = _; exact hw) had hne (by rw [hlen]; omega), by omega, hl⟩
  · have hw : dgs w = w := by unfold dgs; rw [if_neg hm]
    rw [hw] at had hne hval h2
    exact ⟨((NumText.digitsVal w : Nat) : Int), _root_.PySem.intText_digits (x := ⟨w.toArray⟩) had hne (by rw [hlen]; omega), by omega, by omega⟩
theorem log_of {n : Int} (h : n.natAbs < 10 ^ 10) : n.natAbs.log2 < 1920 := by
  by_cases h0 : n.natAbs = 0
  · rw [h0]; decide
  · exact Nat.lt_of_lt_of_le ((Nat.log2_lt h0).mpr (Nat.lt_of_lt_of_le h (by decide : 10 ^ 10 ≤ 2 ^ 100))) (by decide)
theorem strOk_ofString (x : String) : PyData.strOk (Str.ofString x) = true := by
  rw [Str.ofString_eq_toList]
  unfold PyData.strOk
  rw [Array.all_eq_true_iff_forall_mem]
  intro c hc
  simp only [List.mem_toArray, List.mem_map, Array.mem_map] at hc
  obtain ⟨d, _, rfl⟩ := hc
  simp only [decide_eq_true_eq]
  have := d.valid
  rcases this with h | ⟨_, h⟩
  · exact Nat.lt_of_lt_of_le h (by decide)
  · exact h
theorem t_eqN {n : Int} {w : List Nat} (hw : Lt w) : gEq (T (numT n)) (T w) = some (.bool (decide (numT n = w))) := by
  refine (o_EqS (x := Str.ofString (toString n)) (y := ⟨w.toArray⟩) (strOk_ofString (toString n)) (strOk_T hw)).trans ?_
  congr 3
  exact propext ⟨fun h => congrArg (fun x : Str => x.cps.toList) h, fun h => congrArg SX.S h⟩
theorem dgs_cond {w : List Nat} (h : w.length ≤ 100000) (hw : Lt w) : gEq (T (cutL w none (some 1))) (PyData.str "-") = some (.bool (decide (w.take 1 = [45]))) := by
  rw [cut_1, s_min, t_eq hw.take (by intro c hc; simp at hc; omega)]
theorem dgs_len (w : List Nat) : (dgs w).length ≤ w.length := by
  unfold dgs
  split
  · rw [List.length_drop]; omega
  · exact Nat.le_refl _
theorem read_number_of {w : List Nat} (h : w.length ≤ 100000) (hw : Lt w) : F_read_number [T w] = (ret (optI (rdNum w)) : M Dr D) := by
  have e := lc_tx (ρ := [some (T w), some (T (dgs w)), none]) 2 (dgs w) dgL Be_read_number_1 (fun c => by simp [Be_read_number_1, s_dig])
  have hl := dgs_len w
  have hl2 : (dgs w).length ≤ 1000000 := by omega
  have h2 : w.length ≤ 1000000 := by omega
  have hd : (if decide (w.take 1 = [45]) = true then (ret (T (w.drop 1)) : M Dr D) else ret (T w)) = ret (T (dgs w)) := by
    unfold dgs
    by_cases hm : w.take 1 = [45]
    · rw [if_pos (decide_eq_true hm), if_pos hm]
    · rw [if_neg (by simpa using hm), if_neg hm]
  have start : B_read_number [some (T w), none, none] = (bnd (ret (T (dgs w)) : M Dr D) fun d => goOn (mSeq (mIfS (mOr (mNot (mB (mChn gLe gLe (mC (.int 1)) (mCB gLenS (mCons (mVar 1) mNil)) (mC (.int 10))))) (mNot (mB (mCB gAllL (mCons (mLc (srcS (mVar 1)) [2] (gN 2) mYes Be_read_number_1) mNil))))) (mRet (mC .none)) mNx)
    (mRet (mIf (mB (mOp gEq (mCB gStrI (mCons (mCB gIntS (mCons (mVar 0) mNil)) mNil)) (mVar 0))) (mCB gIntS (mCons (mVar 0) mNil)) (mC .none)))) (.nx [some (T w), some d, none])) := by
    rw [← hd]
    simp [B_read_number, h2, dgs_cond h hw, cut_f1, bnd_ite, -Bool.decide_eq_true, -decide_eq_true_eq]
  have ea : ((dgs w).all fun c => decide (c ∈ dgL)) = (dgs w).all isDg := rfl
  rw [F_read_number, x_Fn, show (startR 3 [T w] : Rho) = [some (T w), none, none] from rfl, start, bnd_ret]
  simp [hl2, e, o_AllM, ea]
  by_cases hn : isNum w = true
  · obtain ⟨n, e1, e2, e3⟩ := num_int hn
    have hn' := hn
    unfold isNum at hn'
    simp only [Bool.and_eq_true, decide_eq_true_eq] at hn'
    obtain ⟨⟨g1, g2⟩, g3⟩ := hn'
    have g1' : (1 : Int) ≤ (dgs w).length := by omega
    have g2' : ((dgs w).length : Int) ≤ 10 := by omega
    simp [g1', g2', g3, t_int (show w.length ≤ 640 by omega), e1, t_strI (log_of e2), t_eqN hw]
    unfold rdNum
    rw [if_pos hn, e1]
    simp only []
    by_cases q : numT n = w
    · simp [q, optI]
    · simp [q, optI]
  · have hr : rdNum w = none := if_neg hn
    rw [hr]
    unfold isNum at hn
    simp only [Bool.and_eq_true, decide_eq_true_eq, not_and] at hn
    by_cases g1 : (1 : Int) ≤ (dgs w).length
    · by_cases g2 : ((dgs w).length : Int) ≤ 10
      · have g3 := hn ⟨by omega, by omega⟩
        simp [g1, g2, g3, optI]
      · simp [g1, g2, optI]
    · simp [g1, optI]
end K02

namespace K02
open PySem L2 B
def optD : Option D → D | some d => d | none => .none
def inn (w : List Nat) : List Nat := (w.drop 1).take (w.length - 2)
def isQ (w : List Nat) : Bool := decide (2 ≤ w.length) && (decide (w.head? = some 34) && decide (w.getLast? = some 34))
def lrd (w : List Nat) : Option D := if isQ w then (if isText (inn w) then some (T (inn w)) else none) else (rdNum w).map .int
theorem optD_num (o : Option Int) : optD (o.map .int) = optI o := by cases o <;> rfl
theorem atI_neg {α : Type} {l : List α} {n : Nat} (h : l.length = n + 1) : atI l (-1) = l[n]? := by
  unfold atI ixN
  rw [h, if_neg (by omega), if_pos (by omega)]
  show l[(-1 + ((n + 1 : Nat) : Int)).toNat]? = _
  congr 1
  omega
/-- the number's part of _law_read -/
theorem law_num_of {w : List Nat} {x2 x3 x4 : Option D} (h : w.length ≤ 100000) (hw : Lt w) : (mSeq (mAsg 3 (mIf (mB (mOp gEq (mSl (liftP gSlStr) (mVar 0) mNoP (mPart (mC (.int 1)))) (mC (.str "-")))) (mSl (liftP gSlStr) (mVar 0) (mPart (mC (.int 1))) mNoP) (mVar 0)))
    (mSeq (mIfS (mOr (mB (mOp gLt (mCB gLenS (mCons (mVar 3) mNil)) (mC (.int 1)))) (mOr (mB (mOp gGt (mCB gLenS (mCons (mVar 3) mNil)) (mC (.int 10)))) (mB (mCB gAnyL (mCons (mLc (srcS (mVar 3)) [4] (gN 4) mYes Be__law_read_2) mNil))))) (mRet (mC .none)) mNx)
    (mRet (mIf (mB (mOp gEq (mCB gStrI (mCons (mCB gIntS (mCons (mVar 0) mNil)) mNil)) (mVar 0))) (mCB gIntS (mCons (mVar 0) mNil)) (mC .none))))) [some (T w), some (T txtL), x2, x3, x4] = (ret (.rt (optI (rdNum w))) : M Dr O) := by
  have e : mLcL (gN 4) mYes Be__law_read_2 [some (T w), some (T txtL), x2, some (T (dgs w)), none] ((dgs w).map fun c => T [c]) = (ret ((dgs w).map fun c => .bool (!decide (c ∈ dgL))) : M Dr (List D)) :=
    pu_lcM (enc := fun c => T [c]) (h := fun c => .bool (!decide (c ∈ dgL))) fun c _ => by simp [Be__law_read_2, s_dig]
  have hl := dgs_len w
  have hl2 : (dgs w).length ≤ 1000000 := by omega
  have h2 : w.length ≤ 1000000 := by omega
  have hd : (if decide (w.take 1 = [45]) = true then (ret (T (w.drop 1)) : M Dr D) else ret (T w)) = ret (T (dgs w)) := by
    unfold dgs
    by_cases hm : w.take 1 = [45]
    · rw [if_pos (decide_eq_true hm), if_pos hm]
    · rw [if_neg (by simpa using hm), if_neg hm]
  have ea : ((dgs w).any fun c => !decide (c ∈ dgL)) = !(dgs w).all isDg := by
    rw [List.not_all_eq_any_not]
    rfl
  rw [x_Seq, x_Asg, x_If]
  have e1 : (bnd (mB (mOp gEq (mSl (liftP gSlStr) (mVar 0) mNoP (mPart (mC (.int 1)))) (mC (.str "-"))) [some (T w), some (T txtL), x2, x3, x4]) fun k => if k = true then mSl (liftP gSlStr) (mVar 0) (mPart (mC (.int 1))) mNoP [some (T w), some (T txtL), x2, x3, x4] else mVar 0 [some (T w), some (T txtL), x2, x3, x4]) = (ret (T (dgs w)) : M Dr D) := by
    rw [← hd]
    simp [h2, dgs_cond h hw, cut_f1, -Bool.decide_eq_true, -decide_eq_true_eq]
  rw [e1]
  simp [hl2, e, o_AnyM, ea]
  by_cases hn : isNum w = true
  · obtain ⟨n, e1, e2, e3⟩ := num_int hn
    have hn' := hn
    unfold isNum at hn'
    simp only [Bool.and_eq_true, decide_eq_true_eq] at hn'
    obtain ⟨⟨g1, g2⟩, g3⟩ := hn'
    have g1' : ¬ ((dgs w).length : Int) < 1 := by omega
    have g2' : ¬ (10 : Int) < (dgs w).length := by omega
    have g1n : (dgs w) ≠ [] := fun z => by rw [z] at g1; simp at g1
    simp [g1', g2', g3, g1n, t_int (show w.length ≤ 640 by omega), e1, t_strI (log_of e2), t_eqN hw]
    unfold rdNum
    rw [if_pos hn, e1]
    simp only []
    by_cases q : numT n = w
    · simp [q, optI]
    · simp [q, optI]
  · have hr : rdNum w = none := if_neg hn
    rw [hr]
    unfold isNum at hn
    simp only [Bool.and_eq_true, decide_eq_true_eq, not_and] at hn
    by_cases g1 : ((dgs w).length : Int) < 1
    · simp [g1, optI]
    · by_cases g2 : (10 : Int) < (dgs w).length
      · simp [g1, g2, optI]
      · have g3 := hn ⟨by omega, by omega⟩
        simp [g1, g2, g3, optI]
theorem law_read_of {w : List Nat} (h : w.length ≤ 100000) (hw : Lt w) : F__law_read [T w] = (ret (optD (lrd w)) : M Dr D) := by
  have h2 : w.length ≤ 1000000 := by omega
  rw [F__law_read, x_Fn, show (startR 5 [T w] : Rho) = [some (T w), none, none, none, none] from rfl]
  unfold B__law_read
  rw [x_Seq, x_Asg, x_C, s_txt, bnd_ret, bnd_ret, x_goNx, show (([some (T w), none, none, none, none] : Rho).set 1 (some (T txtL))) = [some (T w), some (T txtL), none, none, none] from rfl, x_Seq]
  have cond : (mAnd (mB (mOp gGe (mCB gLenS (mCons (mVar 0) mNil)) (mC (.int 2)))) (mAnd (mB (mOp gEq (mOp gIxS (mVar 0) (mC (.int 0))) (mC (.str "\"")))) (mB (mOp gEq (mOp gIxS (mVar 0) (mNeg (mC (.int 1)))) (mC (.str "\"")))))) [some (T w), some (T txtL), none, none, none] = (ret (isQ w) : M Dr Bool) := by
    match w, h2, hw with
    | [], _, _ => simp [isQ]
    | [a], _, _ => simp [isQ]
    | a :: b :: r, h2, hw =>
      have g0 : (2 : Int) ≤ ((a :: b :: r).length : Int) := by simp; omega
      have hl : atI (a :: b :: r) (-1) = (a :: b :: r).getLast? := by
        rw [atI_neg (n := r.length + 1) rfl, List.getLast?_eq_getElem?]
        rfl
      obtain ⟨z, hz⟩ : ∃ z, (a :: b :: r).getLast? = some z := ⟨_, List.getLast?_eq_some_getLast (List.cons_ne_nil a (b :: r))⟩
      have hzm : z ∈ a :: b :: r := List.mem_of_getLast? hz
      have e1 := t_eq (x := [a]) (y := [34]) (fun c hc => by simp at hc; subst hc; exact hw _ List.mem_cons_self) (by intro c hc; simp at hc; omega)
      have e2 := t_eq (x := [z]) (y := [34]) (fun c hc => by simp at hc; subst hc; exact hw _ hzm) (by intro c hc; simp at hc; omega)
      have h2' := h2
      simp only [List.length_cons] at h2'
      rw [hz] at hl
      have g1 : 2 ≤ (a :: b :: r).length := by simp
      simp only [x_And, x_B, x_Op, x_CB, x_Cons, x_Nil, x_Var, x_C, x_Neg, bnd_ret, t_len, if_pos h2, lift_some, o_Ge, x_isB, t_ix, List.getElem?_cons_zero, x_ngD, hl, atI_0, Option.map_some, s_quo, e1, e2, x_bnd]
      unfold isQ
      rw [hz]
      simp [g1]
      by_cases q1 : a = 34
      · simp [q1]
        intro z
        omega
      · simp [q1]
  rw [x_IfS, cond, bnd_ret]
  by_cases hq : isQ w = true
  · have hq' := hq
    unfold isQ at hq'
    simp only [Bool.and_eq_true, decide_eq_true_eq] at hq'
    have hin : (inn w).length ≤ 1000000 := by
      unfold inn
      rw [List.length_take]
      omega
    have e : mLcL (gN 4) mYes Be__law_read_1 [some (T w), some (T txtL), some (T (inn w)), none, none] ((inn w).map fun c => T [c]) = (ret ((inn w).map fun c => .bool (decide (c ∈ txtL))) : M Dr (List D)) :=
      pu_lcM (enc := fun c => T [c]) (h := fun c => .bool (decide (c ∈ txtL))) fun c _ => by simp [Be__law_read_1]
    have ea : ((inn w).all fun c => decide (c ∈ txtL)) = (inn w).all isTx := rfl
    have ei : cutL w (some 1) (some (-1)) = inn w := cut_inner hq'.1
    have ed : lrd w = if isText (inn w) then some (T (inn w)) else none := if_pos hq
    rw [ed]
    unfold isText
    by_cases g : (inn w).length ≤ 20
    · have g' : ((inn w).length : Int) ≤ 20 := by omega
      simp [hq, h2, ei, hin, g, g', e, o_AllM, ea]
      unfold optD
      by_cases hP : (∀ x, x ∈ inn w → isTx x = true)
      · rw [if_pos hP, if_pos hP]
      · rw [if_neg hP, if_neg hP]
    · have g' : ¬ ((inn w).length : Int) ≤ 20 := by omega
      simp [hq, h2, ei, hin, g, g', optD]
  · rw [if_neg hq, x_Nx, bnd_ret, x_goNx, law_num_of h hw, bnd_ret, x_outRt]
    unfold lrd
    rw [if_neg hq, optD_num]
end K02

namespace K02
open PySem L2 B
def wrd (rest : List Nat) : List Nat := match rest.findIdx? (· == 32) with | none => rest | some k => rest.take k
def rvC (rest : List Nat) : Option (D × Nat) :=
  if rest.take 1 = [34] then (match (rest.drop 1).findIdx? (· == 34) with
    | none => none
    | some k => if isText ((rest.drop 1).take k) then some (T ((rest.drop 1).take k), k + 2) else none)
  else (rdNum (wrd rest)).map fun n => (.int n, (wrd rest).length)
def rvD (at_ : Nat) : Option (D × Nat) → D | some (d, k) => .tuple [d, .int ((at_ + k : Nat) : Int)] | none => .none
theorem cut_at (l : List Nat) (i : Nat) : cutL l (some (i : Int)) (some ((i : Int) + 1)) = (l.drop i).take 1 := by
  have h := cut_nat l i (i + 1)
  rw [show i + 1 - i = 1 by omega] at h
  exact h
theorem cut_at1 (l : List Nat) (i j : Nat) : cutL l (some ((i : Int) + 1)) (some (j : Int)) = (l.drop (i + 1)).take (j - (i + 1)) := cut_nat l (i + 1) j
theorem find_at1 {l : List Nat} {c i : Nat} (hi : i + 1 ≤ l.length) : gFnd3 ⟨l.toArray⟩ [T [c], .int ((i : Int) + 1)] = some (.int (match (l.drop (i + 1)).findIdx? (· == c) with | some k => ((i + 1 + k : Nat) : Int) | none => -1)) := find_T (i := i + 1) hi
@[simp] theorem o_IsN_none : gIsN .none .none = some (.bool true) := (rfl)
@[simp] theorem o_IsN_int (i : Int) : gIsN (.int i) .none = some (.bool false) := (rfl)
@[simp] theorem o_IsN_tup (l : List D) : gIsN (.tuple l) .none = some (.bool false) := (rfl)
@[simp] theorem o_IsN_lst (l : List D) : gIsN (.list l) .none = some (.bool false) := (rfl)
theorem take_len {l : List Nat} {k : Nat} (h : k ≤ l.length) : (l.take k).length = k := by rw [List.length_take]; omega
theorem idx_lt {l : List Nat} {c k : Nat} (h : l.findIdx? (· == c) = some k) : k < l.length ∧ l[k]? = some c ∧ c ∉ l.take k := by
  rw [List.findIdx?_eq_some_iff_getElem] at h
  obtain ⟨h1, h2, h3⟩ := h
  refine ⟨h1, by rw [List.getElem?_eq_getElem h1, beq_iff_eq.mp h2], fun hm => ?_⟩
  obtain ⟨j, hj⟩ := List.mem_iff_getElem?.mp hm
  rw [List.getElem?_take] at hj
  split at hj
  · rename_i hjk
    have hjl : j < l.length := by omega
    rw [List.getElem?_eq_getElem hjl] at hj
    have := h3 j hjk
    rw [Option.some.inj hj] at this
    simp at this
  · cases hj
theorem wrd_len (rest : List Nat) : (wrd rest).length ≤ rest.length := by
  unfold wrd
  split
  · exact Nat.le_refl _
  · rw [List.length_take]; omega
theorem wrd_mem {rest : List Nat} : ∀ c ∈ wrd rest, c ∈ rest := by
  unfold wrd
  split
  · exact fun _ h => h
  · exact fun _ h => List.mem_of_mem_take h
theorem read_value_of {line : List Nat} {i : Nat} (h : line.length ≤ 100000) (hw : Lt line) (hi : i ≤ line.length) : F_read_value [T line, .int (i : Int)] = (ret (rvD i (rvC (line.drop i))) : M Dr D) := by
  have h2 : line.length ≤ 1000000 := by omega
  have hq := t_eq (x := (line.drop i).take 1) (y := [34]) (hw.drop.take) (by intro c hc; simp at hc; omega)
  have rest := hw.drop (n := i)
  by_cases g : (line.drop i).take 1 = [34]
  · have hi1 : i + 1 ≤ line.length := by
      have := congrArg List.length g
      rw [List.length_take, List.length_drop] at this
      simp at this
      omega
    have ed : (line.drop i).drop 1 = line.drop (i + 1) := by rw [List.drop_drop]
    unfold rvC
    rw [if_pos g, ed]
    rw [g] at hq
    cases e : (line.drop (i + 1)).findIdx? (· == 34) with
    | none =>
      have ef : gFnd3 ⟨line.toArray⟩ [T [34], .int ((i : Int) + 1)] = some (.int (-1)) := by
        have ef := find_at1 (l := line) (c := 34) hi1
        rw [e] at ef
        exact ef
      simp [F_read_value, B_read_value, h2, cut_at, s_quo, hq, g, ef, rvD]
    | some k =>
      have ef : gFnd3 ⟨line.toArray⟩ [T [34], .int ((i : Int) + 1)] = some (.int ((i + 1 + k : Nat) : Int)) := by
        have ef := find_at1 (l := line) (c := 34) hi1
        rw [e] at ef
        exact ef
      have hk := (idx_lt e).1
      rw [List.length_drop] at hk
      have hn : ¬ ((i + 1 + k : Nat) : Int) < 0 := by omega
      have hc := cut_at1 line i (i + 1 + k)
      rw [show i + 1 + k - (i + 1) = k by omega] at hc
      have ht := isText_of (l := (line.drop (i + 1)).take k) (by rw [List.length_take, List.length_drop]; omega)
      have hj : ((i + 1 + k : Nat) : Int) + 1 = ((i + (k + 2) : Nat) : Int) := by omega
      dsimp only
      generalize (line.drop (i + 1)).take k = z at hc ht ⊢
      generalize ((i + 1 + k : Nat) : Int) = j at hc ef hn hj
      cases hz : isText z with
      | true => simp [F_read_value, B_read_value, h2, cut_at, s_quo, hq, g, ef, hn, hc, ht, hz, hj, rvD]
      | false => simp [F_read_value, B_read_value, h2, cut_at, s_quo, hq, g, ef, hn, hc, ht, hz, hj, rvD]
  · unfold rvC
    rw [if_neg g]
    have ef := find_T (l := line) (c := 32) (i := i) hi
    have hw2 := read_number_of (w := wrd (line.drop i)) (by have := wrd_len (line.drop i); rw [List.length_drop] at this; omega) (rest.sub wrd_mem)
    have hwl := wrd_len (line.drop i)
    rw [List.length_drop] at hwl
    have key : ∀ j : Int, j = ((i + (wrd (line.drop i)).length : Nat) : Int) → cutL line (some (i : Int)) (some j) = wrd (line.drop i) := by
      intro j hj
      rw [hj, cut_nat, show i + (wrd (line.drop i)).length - i = (wrd (line.drop i)).length by omega]
      unfold wrd
      split
      · rw [List.take_length]
      · rename_i k hk
        have := (idx_lt hk).1
        rw [take_len (by omega)]
    cases e : (line.drop i).findIdx? (· == 32) with
    | none =>
      have ef' : gFnd3 ⟨line.toArray⟩ [T [32], .int (i : Int)] = some (.int (-1)) := by
        rw [e] at ef
        exact ef
      have hl : (wrd (line.drop i)).length = line.length - i := by
        unfold wrd
        rw [e]
        exact List.length_drop
      have hj : (line.length : Int) = ((i + (wrd (line.drop i)).length : Nat) : Int) := by rw [hl]; omega
      have kk := key (line.length : Int) hj
      simp [F_read_value, B_read_value, h2, cut_at, s_quo, s_spc, hq, g, ef', kk, hw2]
      cases rdNum (wrd (line.drop i)) with
      | none => simp [optI, rvD]
      | some n => simp [optI, rvD, hj]
    | some k =>
      have ef' : gFnd3 ⟨line.toArray⟩ [T [32], .int (i : Int)] = some (.int ((i + k : Nat) : Int)) := by
        rw [e] at ef
        exact ef
      have hl : (wrd (line.drop i)).length = k := by
        have := (idx_lt e).1
        unfold wrd
        rw [e]
        exact take_len (by omega)
      have hn : ¬ ((i + k : Nat) : Int) < 0 := by omega
      have hj : ((i + k : Nat) : Int) = ((i + (wrd (line.drop i)).length : Nat) : Int) := by rw [hl]
      have kk := key ((i + k : Nat) : Int) hj
      generalize ((i + k : Nat) : Int) = j at *
      simp [F_read_value, B_read_value, h2, cut_at, s_quo, s_spc, hq, g, ef', hn, kk, hw2]
      cases rdNum (wrd (line.drop i)) with
      | none => simp [optI, rvD]
      | some n => simp [optI, rvD, hj]
/-! ### read_line -/
def rl : Nat → List Nat → Option (List D)
  | 0, _ => none
  | n + 1, rest => match rvC rest with
    | none => none
    | some (d, k) => if rest.length = k then some [d] else if rest[k]? ≠ some 32 then none else (rl n (rest.drop (k + 1))).map (d :: ·)
def rlD (found : List D) : Option (List D) → D | some ds => .list (found ++ ds) | none => .none
theorem rv_len {rest : List Nat} {d : D} {k : Nat} (h : rvC rest = some (d, k)) : k ≤ rest.length := by
  unfold rvC at h
  split at h
  · rename_i g
    split at h
    · cases h
    · rename_i j hj
      split at h
      · cases h
        have := (idx_lt hj).1
        rw [List.length_drop] at this
        omega
      · cases h
  · cases q : rdNum (wrd rest) with
    | none => rw [q] at h; cases h
    | some n =>
      rw [q] at h
      cases h
      exact wrd_len rest
theorem whl {c : Rho → M Dr Bool} {b : MS Dr} {n : Nat} {ρ : Rho} {o : O} (h : mWhileN c b n ρ = ret o) : mWhile c b ρ = ret o :=
  funext fun w => mWhile_eq (by rw [h]) (fun q => by cases q)
theorem rl_loop {line : List Nat} (h : line.length ≤ 100000) (hw : Lt line) : ∀ (n i : Nat) (found : List D) (x3 : Option D), i ≤ line.length → line.length - i < n → found.length + (line.length - i) ≤ 100000 →
    mWhileN Bt_read_line_1 Bd_read_line_2 n [some (T line), some (.list found), some (.int (i : Int)), x3] = (ret (.rt (rlD found (rl n (line.drop i)))) : M Dr O)
  | 0, i, found, x3, hi, hn, hf => by omega
  | n + 1, i, found, x3, hi, hn, hf => by
    have h2 : line.length ≤ 1000000 := by omega
    have hrv := read_value_of h hw hi
    rw [x_While1]
    unfold rl
    cases e : rvC (line.drop i) with
    | none =>
      rw [e] at hrv
      simp [Bt_read_line_1, Bd_read_line_2, hrv, rvD, rlD]
    | some p =>
      obtain ⟨d, k⟩ := p
      dsimp only
      have hk := rv_len e
      rw [List.length_drop] at hk
      rw [e] at hrv
      have hf2 : found.length < 1000000 := by omega
      have hat : ((i : Int) + (k : Int)) = ((i + k : Nat) : Int) := by omega
      by_cases g1 : i + k = line.length
      · have g1' : ((i + k : Nat) : Int) = (line.length : Int) := by omega
        have g2 : (line.drop i).length = k := by rw [List.length_drop]; omega
        rw [if_pos g2]
        simp only [rvD] at hrv
        generalize ((i + k : Nat) : Int) = j at *
        simp [Bt_read_line_1, Bd_read_line_2, hrv, rlD, hf2, h2, g1']
      · have g1' : ¬ ((i + k : Nat) : Int) = (line.length : Int) := by omega
        have g2 : ¬ (line.drop i).length = k := by rw [List.length_drop]; omega
        rw [if_neg g2, List.getElem?_drop]
        have hlt : i + k < line.length := by omega
        have ec : atI line ((i + k : Nat) : Int) = some line[i + k] := atI_of rfl hlt
        rw [List.getElem?_eq_getElem hlt]
        have hq := t_eq (x := [line[i + k]]) (y := [32]) (fun c hc => by simp at hc; subst hc; exact hw _ (List.getElem_mem hlt)) (by intro c hc; simp at hc; omega)
        have hq2 := t_ne (x := [line[i + k]]) (y := [32]) (fun c hc => by simp at hc; subst hc; exact hw _ (List.getElem_mem hlt)) (by intro c hc; simp at hc; omega)
        simp only [rvD] at hrv
        by_cases g3 : line[i + k] = 32
        · have ih := rl_loop h hw n (i + k + 1) (found ++ [d]) (some (.tuple [d, .int ((i + k : Nat) : Int)])) (by omega) (by omega) (by rw [List.length_append, List.length_singleton]; omega)
          have e1 : (((i + k : Nat) : Int) + 1) = ((i + k + 1 : Nat) : Int) := by omega
          rw [← e1] at ih
          generalize mWhileN Bt_read_line_1 Bd_read_line_2 n = KK at ih ⊢
          rw [g3] at hq2 ec
          rw [if_neg (by rw [g3]; simp), List.drop_drop, show i + (k + 1) = i + k + 1 by omega]
          generalize ((i + k : Nat) : Int) = j at *
          simp [Bt_read_line_1, Bd_read_line_2, hrv, hf2, h2, g1', ec, s_spc, hq2, ih]
          cases rl n (line.drop (i + k + 1)) with
          | none => rfl
          | some ds => simp [rlD]
        · rw [if_pos (by simpa using g3)]
          generalize ((i + k : Nat) : Int) = j at *
          simp [Bt_read_line_1, Bd_read_line_2, hrv, hf2, h2, g1', ec, s_spc, hq2, g3, rlD]
theorem read_line_of {line : List Nat} (h : line.length ≤ 100000) (hw : Lt line) : F_read_line [T line] = (ret (rlD [] (rl (line.length + 1) line)) : M Dr D) := by
  have e := whl (rl_loop h hw (line.length + 1) 0 [] none (Nat.zero_le _) (by omega) (by simp; omega))
  rw [List.drop_zero] at e
  have e0 : ((0 : Nat) : Int) = 0 := rfl
  rw [e0] at e
  simp [F_read_line, B_read_line, e]
end K02

namespace K02
open PySem L2 B
def cutGo : List Nat → List Nat → Bool → List (List Nat)
  | [], acc, _ => [acc]
  | c :: r, acc, ins => if c = 32 ∧ (if c = 34 then !ins else ins) = false then acc :: cutGo r [] (if c = 34 then !ins else ins) else cutGo r (acc ++ [c]) (if c = 34 then !ins else ins)
def mapO {α β : Type} (f : α → Option β) : List α → Option (List β)
  | [] => some []
  | x :: r => match f x, mapO f r with | some y, some ys => some (y :: ys) | _, _ => none
theorem cut_quo (r acc : List Nat) (ins : Bool) : cutGo (34 :: r) acc ins = cutGo r (acc ++ [34]) (!ins) := by
  show (if (34 : Nat) = 32 ∧ _ then _ else _) = _
  rw [if_neg (fun z => by omega)]
  rfl
theorem cut_spc (r acc : List Nat) : cutGo (32 :: r) acc false = acc :: cutGo r [] false := by
  show (if (32 : Nat) = 32 ∧ _ then _ else _) = _
  rw [if_pos ⟨rfl, rfl⟩]
  rfl
theorem cut_chr {c : Nat} (h1 : c ≠ 34) (h2 : c ≠ 32) (r acc : List Nat) (ins : Bool) : cutGo (c :: r) acc ins = cutGo r (acc ++ [c]) ins := by
  show (if c = 32 ∧ _ then _ else _) = _
  rw [if_neg (fun z => h2 z.1), if_neg h1]
theorem cut_ins {c : Nat} (h1 : c ≠ 34) (r acc : List Nat) : cutGo (c :: r) acc true = cutGo r (acc ++ [c]) true := by
  show (if c = 32 ∧ (if c = 34 then !true else true) = false then _ else _) = _
  rw [if_neg h1, if_neg (fun z => by cases z.2)]
theorem cut_out : ∀ (p r acc : List Nat), 34 ∉ p → 32 ∉ p → cutGo (p ++ r) acc false = cutGo r (acc ++ p) false
  | [], r, acc, _, _ => by simp
  | c :: p, r, acc, h1, h2 => by
    rw [List.cons_append, cut_chr (fun z => h1 (z ▸ List.mem_cons_self)) (fun z => h2 (z ▸ List.mem_cons_self)), cut_out p r _ (fun z => h1 (List.mem_cons_of_mem _ z)) (fun z => h2 (List.mem_cons_of_mem _ z))]
    simp
theorem cut_in : ∀ (p r acc : List Nat), 34 ∉ p → cutGo (p ++ r) acc true = cutGo r (acc ++ p) true
  | [], r, acc, _ => by simp
  | c :: p, r, acc, h1 => by
    rw [List.cons_append, cut_ins (fun z => h1 (z ▸ List.mem_cons_self)), cut_in p r _ (fun z => h1 (List.mem_cons_of_mem _ z))]
    simp
theorem cut_head : ∀ (r acc : List Nat) (ins : Bool), ∃ z ws, cutGo r acc ins = (acc ++ z) :: ws
  | [], acc, ins => ⟨[], [], by simp [cutGo]⟩
  | c :: r, acc, ins => by
    by_cases hc : c = 32 ∧ (if c = 34 then !ins else ins) = false
    · refine ⟨[], cutGo r [] (if c = 34 then !ins else ins), ?_⟩
      show (if _ then _ else _) = _
      rw [if_pos hc]
      simp
    · obtain ⟨z, ws, e⟩ := cut_head r (acc ++ [c]) (if c = 34 then !ins else ins)
      refine ⟨c :: z, ws, ?_⟩
      show (if _ then _ else _) = _
      rw [if_neg hc, e]
      simp
theorem mapO_none {α β : Type} {f : α → Option β} {x : α} {r : List α} (h : f x = none) : mapO f (x :: r) = none := by
  unfold mapO
  rw [h]
theorem num_34 {w : List Nat} (h : 34 ∈ w) : rdNum w = none := by
  unfold rdNum
  refine if_neg fun hn => ?_
  unfold isNum at hn
  simp only [Bool.and_eq_true, List.all_eq_true] at hn
  have : 34 ∈ dgs w := by
    unfold dgs
    split
    · rename_i hm
      match w, h, hm with
      | a :: r, h, hm =>
        have ha : a = 45 := by simpa using hm
        rcases List.mem_cons.mp h with z | z
        · omega
        · exact z
    · exact h
  have := dg_iff.mp (hn.2 34 this)
  omega
theorem tx_34 : isTx 34 = false := by kernel_rfl
theorem text_34 {l : List Nat} (h : 34 ∈ l) : isText l = false := by
  unfold isText
  have : l.all isTx = false := by
    rw [Bool.eq_false_iff]
    intro z
    rw [List.all_eq_true] at z
    have := z 34 h
    rw [tx_34] at this
    cases this
  rw [this, Bool.and_false]
theorem lrd_mid {w : List Nat} (h : 34 ∈ w) (hh : w.head? ≠ some 34) : lrd w = none := by
  unfold lrd
  rw [if_neg, num_34 h]
  · rfl
  · intro z
    unfold isQ at z
    simp only [Bool.and_eq_true, decide_eq_true_eq] at z
    exact hh z.2.1
theorem lrd_q {inner z : List Nat} (hz : z ≠ []) : lrd (34 :: inner ++ 34 :: z) = none := by
  unfold lrd
  have hm : 34 ∈ (34 :: inner ++ 34 :: z) := by simp
  split
  · rw [text_34]
    · rfl
    · unfold inn
      have e : (34 :: inner ++ 34 :: z).drop 1 = inner ++ 34 :: z := rfl
      have hl : 0 < z.length := List.length_pos_iff.mpr hz
      rw [e, List.take_append]
      refine List.mem_append_right _ ?_
      obtain ⟨m, hm⟩ : ∃ m, (34 :: inner ++ 34 :: z).length - 2 - inner.length = m + 1 := ⟨z.length - 1, by simp; omega⟩
      rw [hm, List.take_succ_cons]
      exact List.mem_cons_self
  · rw [num_34 hm]; rfl
theorem lrd_one {inner : List Nat} : lrd (34 :: inner ++ [34]) = if isText inner then some (T inner) else none := by
  have e : inn (34 :: inner ++ [34]) = inner := by
    unfold inn
    show (inner ++ [34]).take _ = inner
    have : (34 :: inner ++ [34]).length - 2 = inner.length := by simp
    rw [this, List.take_left]
  have q : isQ (34 :: inner ++ [34]) = true := by
    have q2 : (34 :: inner ++ [34]).getLast? = some 34 := by rw [List.getLast?_append]; rfl
    unfold isQ
    rw [q2]
    simp
  unfold lrd
  rw [if_pos q, e]
theorem lrd_un {inner : List Nat} (h : 34 ∉ inner) : lrd (34 :: inner) = none := by
  unfold lrd
  rw [if_neg, num_34 List.mem_cons_self]
  · rfl
  · intro z
    unfold isQ at z
    simp only [Bool.and_eq_true, decide_eq_true_eq] at z
    obtain ⟨z1, _, z2⟩ := z
    cases inner with
    | nil => simp at z1
    | cons a r =>
      rw [List.getLast?_cons_cons] at z2
      exact h (List.mem_of_getLast? z2)
theorem split_at {l : List Nat} {c k : Nat} (h : l.findIdx? (· == c) = some k) : l = l.take k ++ c :: l.drop (k + 1) ∧ c ∉ l.take k ∧ (l.take k).length = k := by
  obtain ⟨h1, h2, h3⟩ := idx_lt h
  refine ⟨?_, h3, take_len (by omega)⟩
  rw [List.getElem?_eq_getElem h1] at h2
  rw [← Option.some.inj h2, ← List.drop_eq_getElem_cons h1, List.take_append_drop]
theorem no_at {l : List Nat} {c : Nat} (h : l.findIdx? (· == c) = none) : c ∉ l := by
  rw [List.findIdx?_eq_none_iff] at h
  intro hm
  have := h c hm
  simp at this
theorem rl_cut : ∀ (n : Nat) (rest : List Nat), rest.length < n → rl n rest = mapO lrd (cutGo rest [] false)
  | 0, rest, h => by omega
  | n + 1, rest, h => by
    by_cases g : rest.take 1 = [34]
    · match rest, g, h with
      | a :: tail, g, h =>
        have ha : a = 34 := by simpa using g
        subst ha
        unfold rl rvC
        rw [if_pos g, show (34 :: tail).drop 1 = tail from rfl, cut_quo]
        show _ = mapO lrd (cutGo tail [34] true)
        cases e : tail.findIdx? (· == 34) with
        | none =>
          have hn := no_at e
          have := cut_in tail [] [34] hn
          rw [List.append_nil] at this
          rw [this]
          show none = mapO lrd [34 :: tail]
          rw [mapO_none (lrd_un hn)]
        | some k =>
          obtain ⟨e1, e2, e3⟩ := split_at e
          dsimp only
          generalize hin : tail.take k = inner at e1 e2 e3 ⊢
          generalize hr : tail.drop (k + 1) = r at e1
          have ec : cutGo tail [34] true = cutGo r (34 :: inner ++ [34]) false := by
            rw [e1, cut_in inner _ _ e2, cut_quo]
            rfl
          rw [ec]
          have hlen : tail.length = k + 1 + r.length := by rw [e1]; simp; omega
          cases ht : isText inner with
          | false =>
            obtain ⟨z, ws, ez⟩ := cut_head r (34 :: inner ++ [34]) false
            rw [ez, mapO_none]
            · rfl
            · by_cases hz : z = []
              · rw [hz, List.append_nil, lrd_one, ht]; rfl
              · rw [List.append_assoc]
                exact lrd_q hz
          | true =>
            simp only [if_true]
            match r, hr, hlen with
            | [], hr, hlen =>
              rw [if_pos (by simp at hlen ⊢; omega)]
              show _ = mapO lrd [34 :: inner ++ [34]]
              unfold mapO mapO
              rw [lrd_one, ht]
              rfl
            | c :: r', hr, hlen =>
              rw [if_neg (by simp at hlen ⊢; omega)]
              have hc : (34 :: tail)[k + 2]? = some c := by
                rw [List.getElem?_cons_succ, show k + 1 = k + 1 + 0 by omega, ← List.getElem?_drop, hr]
                rfl
              rw [hc]
              by_cases q : c = 32
              · subst q
                rw [if_neg (by simp), cut_spc]
                have hd : (34 :: tail).drop (k + 2 + 1) = r' := by
                  show tail.drop (k + 2) = r'
                  rw [show k + 2 = k + 1 + 1 by omega, ← List.drop_drop, hr]
                  rfl
                rw [hd, rl_cut n r' (by simp at h hlen; omega)]
                show _ = mapO lrd ((34 :: inner ++ [34]) :: cutGo r' [] false)
                conv => rhs; unfold mapO
                rw [lrd_one, ht]
                simp only [if_true]
                cases mapO lrd (cutGo r' [] false) <;> rfl
              · rw [if_pos (by simpa using q)]
                obtain ⟨z, ws, ez⟩ : ∃ z ws, cutGo (c :: r') (34 :: inner ++ [34]) false = (34 :: inner ++ [34] ++ c :: z) :: ws := by
                  unfold cutGo
                  rw [if_neg (fun z => q z.1)]
                  obtain ⟨z, ws, e⟩ := cut_head r' (34 :: inner ++ [34] ++ [c]) (if c = 34 then !false else false)
                  exact ⟨z, ws, by rw [e]; simp⟩
                rw [ez, mapO_none]
                rw [List.append_assoc]
                exact lrd_q (z := c :: z) (by simp)
    · unfold rl rvC
      rw [if_neg g]
      have hh : ∀ z ws, (wrd rest) = z ++ ws → z.head? ≠ some 34 := by
        intro z ws e hz
        apply g
        have h1 : (wrd rest).head? = some 34 := by
          rw [e]
          cases z with
          | nil => cases hz
          | cons a r => exact hz
        have h2 : rest.head? = some 34 := by
          unfold wrd at h1
          split at h1
          · exact h1
          · rename_i k hk
            cases rest with
            | nil => cases k <;> cases h1
            | cons a r =>
              cases k with
              | zero => cases h1
              | succ k => exact h1
        cases rest with
        | nil => cases h2
        | cons a r =>
          have : a = 34 := by simpa using h2
          rw [this]
          rfl
      have parts : ∃ r, rest = wrd rest ++ r ∧ (r = [] ∨ ∃ r', r = 32 :: r') ∧ 32 ∉ wrd rest := by
        unfold wrd
        cases e : rest.findIdx? (· == 32) with
        | none => exact ⟨[], by simp, .inl rfl, no_at e⟩
        | some k =>
          obtain ⟨e1, e2, e3⟩ := split_at e
          exact ⟨_, e1, .inr ⟨_, rfl⟩, e2⟩
      obtain ⟨r, er, hr, h32⟩ := parts
      by_cases q : 34 ∈ wrd rest
      · rw [num_34 q]
        show none = _
        cases e : (wrd rest).findIdx? (· == 34) with
        | none => exact absurd q (no_at e)
        | some k =>
          obtain ⟨e1, e2, e3⟩ := split_at e
          have hp := hh _ _ e1
          have h32p : 32 ∉ (wrd rest).take k := fun z => h32 (List.mem_of_mem_take z)
          have hne : (wrd rest).take k ≠ [] := by
            intro z
            rw [z] at e1
            exact hh [34] _ e1 rfl
          generalize (wrd rest).take k = p at e1 e2 hp h32p hne
          generalize (wrd rest).drop (k + 1) = s at e1
          rw [er, e1, List.append_assoc, cut_out p _ _ e2 h32p, List.cons_append, cut_quo]
          obtain ⟨z, ws, ez⟩ := cut_head (s ++ r) ([] ++ p ++ [34]) (!false)
          rw [ez, mapO_none]
          refine lrd_mid (by simp) ?_
          cases p with
          | nil => exact absurd rfl hne
          | cons a p' => exact hp
      · have el : lrd (wrd rest) = (rdNum (wrd rest)).map .int := by
          unfold lrd
          refine if_neg fun z => ?_
          unfold isQ at z
          simp only [Bool.and_eq_true, decide_eq_true_eq] at z
          exact hh _ [] (by simp) z.2.1
        have ecut : cutGo rest [] false = cutGo r (wrd rest) false := by
          conv => lhs; rw [er]
          rw [cut_out _ _ _ q h32, List.nil_append]
        rw [ecut]
        have hlen : rest.length = (wrd rest).length + r.length := by
          conv => lhs; rw [er]
          exact List.length_append
        rcases hr with rfl | ⟨r', rfl⟩
        · show _ = mapO lrd [wrd rest]
          unfold mapO mapO
          rw [el]
          cases rdNum (wrd rest) with
          | none => rfl
          | some m =>
            simp only [Option.map_some]
            rw [if_pos (by simpa using hlen)]
        · rw [cut_spc]
          conv => rhs; unfold mapO
          rw [el]
          cases rdNum (wrd rest) with
          | none => rfl
          | some m =>
            simp only [Option.map_some]
            have hc : rest[(wrd rest).length]? = some 32 := by
              have : rest[(wrd rest).length]? = (wrd rest ++ 32 :: r')[(wrd rest).length]? := by rw [← er]
              rw [this, List.getElem?_append_right (Nat.le_refl _), Nat.sub_self]
              rfl
            have hd : rest.drop ((wrd rest).length + 1) = r' := by
              have : rest.drop ((wrd rest).length + 1) = (wrd rest ++ 32 :: r').drop ((wrd rest).length + 1) := by rw [← er]
              rw [this, List.drop_append]
              simp
            rw [if_neg (by simp at hlen; omega), hc, if_neg (by simp), hd, rl_cut n r' (by simp at hlen; omega)]
            cases mapO lrd (cutGo r' [] false) <;> rfl
end K02

namespace K02
open PySem L2 B
theorem t_eq1 {a b : Nat} (ha : a < 256) (hb : b < 256) : gEq (T [a]) (T [b]) = some (.bool (decide (a = b))) := by
  rw [t_eq (by intro c hc; simp at hc; omega) (by intro c hc; simp at hc; omega)]
  congr 3
  simp
theorem cut_loop {line : List Nat} : ∀ (l : List Nat) (ws : List (List Nat)) (acc : List Nat) (ins : Bool) (x : Option D), Lt l → ws.length + l.length ≤ 100000 → acc.length + l.length ≤ 100000 →
    ∃ ws' acc' ins' x', mForL (gN 4) Bd__law_cut_1 (l.map fun c => T [c]) [some (T line), some (.list (ws.map T)), some (T acc), some (.bool ins), x] = (ret (.nx [some (T line), some (.list (ws'.map T)), some (T acc'), some (.bool ins'), x']) : M Dr O) ∧ ws' ++ [acc'] = ws ++ cutGo l acc ins ∧ ws'.length ≤ 100000
  | [], ws, acc, ins, x, _, h1, _ => ⟨ws, acc, ins, x, rfl, rfl, by simpa using h1⟩
  | c :: l, ws, acc, ins, x, hl, h1, h2 => by
    have hc := hl c List.mem_cons_self
    have hl' : Lt l := hl.sub fun _ h => List.mem_cons_of_mem _ h
    have q1 := t_eq1 (b := 34) hc (by decide)
    have q2 := t_eq1 (b := 32) hc (by decide)
    simp only [List.length_cons] at h1 h2
    have hw : ws.length < 1000000 := by omega
    have ha : acc.length + 1 ≤ 1000000 := by omega
    have ha' : acc.length ≤ 999999 := by omega
    rw [List.map_cons, x_ForCons]
    by_cases c34 : c = 34
    · obtain ⟨ws', acc', ins', x', e, e2, e3⟩ := cut_loop (line := line) l ws (acc ++ [c]) (!ins) (some (T [c])) hl' (by omega) (by simp; omega)
      refine ⟨ws', acc', ins', x', ?_, by rw [e2, c34, cut_quo], e3⟩
      subst c34
      generalize mForL (gN 4) Bd__law_cut_1 (l.map fun c => T [c]) = KK at e ⊢
      simp [Bd__law_cut_1, s_quo, s_spc, q1, q2, ha', e]
    · by_cases c32 : c = 32 ∧ ins = false
      · obtain ⟨rfl, rfl⟩ := c32
        obtain ⟨ws', acc', ins', x', e, e2, e3⟩ := cut_loop (line := line) l (ws ++ [acc]) [] false (some (T [32])) hl' (by simp; omega) (by simp; omega)
        refine ⟨ws', acc', ins', x', ?_, by rw [e2, cut_spc]; simp, e3⟩
        generalize mForL (gN 4) Bd__law_cut_1 (l.map fun c => T [c]) = KK at e ⊢
        rw [List.map_append] at e
        simp [Bd__law_cut_1, s_quo, s_spc, s_emp, q1, q2, hw] at e ⊢
        exact e
      · obtain ⟨ws', acc', ins', x', e, e2, e3⟩ := cut_loop (line := line) l ws (acc ++ [c]) ins (some (T [c])) hl' (by omega) (by simp; omega)
        refine ⟨ws', acc', ins', x', ?_, ?_, e3⟩
        · generalize mForL (gN 4) Bd__law_cut_1 (l.map fun c => T [c]) = KK at e ⊢
          by_cases g : c = 32
          · have hi : ins = true := by
              cases ins with
              | true => rfl
              | false => exact absurd ⟨g, rfl⟩ c32
            subst hi
            subst g
            simp [Bd__law_cut_1, s_quo, s_spc, q1, q2, ha', e]
          · simp [Bd__law_cut_1, s_quo, s_spc, q1, q2, c34, g, ha', e]
        · rw [e2]
          congr 1
          conv => rhs; unfold cutGo
          rw [if_neg c34, if_neg c32]
theorem law_cut_of {line : List Nat} (h : line.length ≤ 90000) (hl : Lt line) : F__law_cut [T line] = (ret (.list ((cutGo line [] false).map T)) : M Dr D) := by
  obtain ⟨ws', acc', ins', x', e, e2, e3⟩ := cut_loop (line := line) line [] [] false none hl (by simp; omega) (by simp; omega)
  rw [List.nil_append] at e2
  have h3 : ws'.length + 1 ≤ 1000000 := by omega
  have h3' : ws'.length ≤ 999999 := by omega
  rw [← e2]
  simp [F__law_cut, B__law_cut, s_emp] at e ⊢
  rw [e]
  simp [h3']
end K02

namespace K02
open PySem L2 B
/-- a value read -/
def VOk (d : D) : Prop := (∃ n : Int, d = .int n) ∨ ∃ l, d = T l ∧ isText l = true
def isS : D → Bool | .str _ => true | _ => false
@[simp] theorem isS_int (n : Int) : isS (.int n) = false := rfl
@[simp] theorem isS_T (l : List Nat) : isS (T l) = true := rfl
def kS (b : Bool) : D := .str (if b then "text" else "int")
theorem kS_eq (a b : Bool) : gEq (kS a) (kS b) = some (.bool (decide (a = b))) := by cases a <;> cases b <;> kernel_rfl
theorem lrd_ok {w : List Nat} {d : D} (h : lrd w = some d) : VOk d := by
  unfold lrd at h
  split at h
  · split at h
    · rename_i q
      cases h
      exact .inr ⟨_, rfl, q⟩
    · cases h
  · cases e : rdNum w with
    | none => rw [e] at h; cases h
    | some n =>
      rw [e] at h
      cases h
      exact .inl ⟨n, rfl⟩
theorem mapO_ok {ws : List (List Nat)} : ∀ {vs : List D}, mapO lrd ws = some vs → (∀ v ∈ vs, VOk v) ∧ vs.length = ws.length := by
  induction ws with
  | nil =>
    intro vs h
    cases h
    exact ⟨fun _ h => (by cases h), rfl⟩
  | cons w ws ih =>
    intro vs h
    unfold mapO at h
    cases e : lrd w with
    | none => rw [e] at h; cases h
    | some d =>
      cases e2 : mapO lrd ws with
      | none => rw [e, e2] at h; cases h
      | some ds =>
        rw [e, e2] at h
        cases h
        obtain ⟨h1, h2⟩ := ih e2
        refine ⟨fun v hv => ?_, by simp [h2]⟩
        rcases List.mem_cons.mp hv with rfl | hv
        · exact lrd_ok e
        · exact h1 v hv
theorem text_len {l : List Nat} (h : isText l = true) : l.length ≤ 20 := by
  unfold isText at h
  simp only [Bool.and_eq_true, decide_eq_true_eq] at h
  exact h.1
theorem is_value_of {d : D} (h : VOk d) : F_is_value [d] = (ret (.bool true) : M Dr D) := by
  rcases h with ⟨n, rfl⟩ | ⟨l, rfl, hl⟩
  · simp [F_is_value, B_is_value, F_is_integer, B_is_integer]
  · have := isText_of (l := l) (by have := text_len hl; omega)
    simp [F_is_value, B_is_value, F_is_integer, B_is_integer, this, hl]
theorem kind_of_of {d : D} (h : VOk d) : F_kind_of [d] = (ret (kS (isS d)) : M Dr D) := by
  rcases h with ⟨n, rfl⟩ | ⟨l, rfl, hl⟩
  · simp [F_kind_of, B_kind_of, kS]
  · simp [F_kind_of, B_kind_of, kS]
/-! ### rows -/
def fE (p : D × Bool) : D := .tuple [p.1, kS p.2]
def scD (sc : List (D × Bool)) : D := .tuple (sc.map fE)
def zE (p : D × (D × Bool)) : D := .tuple [p.1, fE p.2]
theorem zip_enc : ∀ (row : List D) (sc : List (D × Bool)), List.zipWith (fun a b => PyData.tuple [a, b]) row (sc.map fE) = (List.zip row sc).map zE
  | [], _ => by simp
  | _ :: _, [] => by simp
  | a :: row, p :: sc => by
    rw [List.map_cons, List.zipWith_cons_cons, zip_enc row sc]
    rfl
def rowOk (sc : List (D × Bool)) (row : List D) : Bool := decide (row.map isS = sc.map (·.2))
theorem row_all : ∀ (row : List D) (sc : List (D × Bool)), row.length = sc.length → ((List.zip row sc).all fun p => decide (isS p.1 = p.2.2)) = rowOk sc row
  | [], [], _ => rfl
  | a :: row, p :: sc, h => by
    have ih := row_all row sc (by simpa using h)
    rw [List.zip_cons_cons, List.all_cons, ih]
    unfold rowOk
    by_cases g : isS a = p.2
    · simp [g]
    · simp [g]
theorem is_row_of {sc : List (D × Bool)} {row : List D} (hs : sc.length ≤ 1000) (hr : ∀ v ∈ row, VOk v) : F_is_row [scD sc, .tuple row] = (ret (.bool (rowOk sc row)) : M Dr D) := by
  by_cases hl : row.length = sc.length
  · have hz : (List.zip row sc).length ≤ 1000000 := by rw [List.length_zip]; omega
    have e : mLcL (gT 2 (gCons' (gN 2) (gCons' (gN 3) gNil'))) mYes Be_is_row_1 [some (.tuple (sc.map fE)), some (.tuple row), none, none] ((List.zip row sc).map zE) = (ret ((List.zip row sc).map fun p => .bool (decide (isS p.1 = p.2.2))) : M Dr (List D)) :=
      pu_lcM (enc := zE) (h := fun p => .bool (decide (isS p.1 = p.2.2))) fun p hp => by
        have hv := hr p.1 (List.of_mem_zip hp).1
        simp [Be_is_row_1, zE, fE, is_value_of hv, kind_of_of hv, kS_eq]
    have ea := row_all row sc hl
    have hl' : (row.length : Int) = (sc.length : Int) := by omega
    have hz' : min sc.length sc.length ≤ 1000000 := by omega
    simp [F_is_row, B_is_row, scD, hl', zip_enc]
    rw [hl]
    simp only [Nat.min_self]
    simp [show sc.length ≤ 1000000 by omega, e, o_AllM, ea]
  · have hl' : ¬ (row.length : Int) = (sc.length : Int) := by omega
    have hn : rowOk sc row = false := by
      unfold rowOk
      refine decide_eq_false fun z => hl ?_
      have := congrArg List.length z
      simpa using this
    simp [F_is_row, B_is_row, scD, hl', hn]
/-! ### an event's line -/
inductive Rd where
  | ok : D → Rd
  | no : Str → Rd
def evV (vs : Option (List D)) : Option (Int × List D) := match vs with
  | some (.int t :: v :: r) => some (t, v :: r)
  | _ => none
def ev (sc : List (D × Bool)) (line : List Nat) : Rd := match evV (mapO lrd (cutGo line [] false)) with
  | none => .no "form"
  | some (t, row) => if 0 ≤ t ∧ t ≤ 1000000 then (if rowOk sc row then .ok (.tuple [.int t, .tuple row]) else .no "row") else .no "time"
def etD : Option (Int × List D) → D | some (t, row) => .tuple [.int t, .tuple row] | none => .none
theorem cutD_f1 (ds : List D) : cutD ds (some 1) none = ds.drop 1 := by
  unfold cutD
  have h1 : HT.sIx ds.length 0 (some 1) = min 1 ds.length := HT.sIx_nat ds.length 0 1
  rw [h1, HT.sIx_none]
  by_cases h : 1 ≤ ds.length
  · rw [Nat.min_eq_left h]
    exact List.take_of_length_le (by rw [List.length_drop]; exact Nat.le_refl _)
  · rw [Nat.min_eq_right (by omega), List.drop_length, List.drop_eq_nil_of_le (by omega), List.take_nil]
theorem cutD_bl (ds : List D) : cutD ds none (some (-1)) = ds.dropLast := by
  unfold cutD
  have h2 : HT.sIx ds.length ds.length (some (-1)) = ds.length - 1 := by
    show (if (-1 : Int) < 0 then ((-1 : Int) + (ds.length : Int)).toNat else min (-1 : Int).toNat ds.length) = _
    rw [if_pos (by omega)]
    omega
  rw [h2, HT.sIx_none, List.drop_zero, Nat.sub_zero, List.dropLast_eq_take]
@[simp] theorem o_SlL1 (ds : List D) : gSlLst (.list ds) (some 1) none = some (ds.drop 1) := by
  show some (cutD _ _ _) = _
  rw [cutD_f1]
@[simp] theorem o_SlLb (ds : List D) : gSlLst (.list ds) none (some (-1)) = some ds.dropLast := by
  show some (cutD _ _ _) = _
  rw [cutD_bl]
theorem read_event_text_of {line : List Nat} (h : line.length ≤ 100000) (hw : Lt line) : F_read_event_text [T line] = (ret (etD (evV (mapO lrd (cutGo line [] false)))) : M Dr D) := by
  have e := read_line_of h hw
  rw [rl_cut _ _ (Nat.lt_succ_self _)] at e
  cases q : mapO lrd (cutGo line [] false) with
  | none =>
    rw [q] at e
    simp [F_read_event_text, B_read_event_text, e, rlD, evV, etD]
  | some vs =>
    rw [q] at e
    have hv := (mapO_ok q).1
    simp only [rlD, List.nil_append] at e
    match vs, hv, e with
    | [], hv, e => simp [F_read_event_text, B_read_event_text, e, evV, etD]
    | [a], hv, e => simp [F_read_event_text, B_read_event_text, e, evV, etD]
    | a :: b :: r, hv, e =>
      have hn : ¬ ((r.length : Int) + 1 + 1 < 2) := by omega
      rcases hv a List.mem_cons_self with ⟨n, rfl⟩ | ⟨l, rfl, hl⟩
      · simp [F_read_event_text, B_read_event_text, e, evV, etD, hn]
      · have : evV (some (T l :: b :: r)) = none := rfl
        rw [this]
        simp [F_read_event_text, B_read_event_text, e, etD, hn]
end K02

namespace K02
open PySem L2 B
theorem check_ok {sc : List (D × Bool)} {t : Int} {row : List D} (hs : sc.length ≤ 1000) (hr : ∀ v ∈ row, VOk v) (h1 : 0 ≤ t) (h2 : t ≤ 1000000) (hk : rowOk sc row = true) : F_check_event [scD sc, .tuple [.int t, .tuple row]] = (ret .none : M Dr D) := by
  simp [F_check_event, B_check_event, is_row_of hs hr, hk, h1, h2]
theorem check_row {sc : List (D × Bool)} {t : Int} {row : List D} (hs : sc.length ≤ 1000) (hr : ∀ v ∈ row, VOk v) (h1 : 0 ≤ t) (h2 : t ≤ 1000000) (hk : rowOk sc row = false) : F_check_event [scD sc, .tuple [.int t, .tuple row]] = (xcp "StreamError" [("code", .str "row")] : M Dr D) := by
  have e := rz_of (W := Dr) (nm := "StreamError") (y := "row") (by decide +kernel)
  simp [F_check_event, B_check_event, is_row_of hs hr, hk, h1, h2, e]
theorem check_time {sc : List (D × Bool)} {t : Int} {row : List D} (h : ¬ (0 ≤ t ∧ t ≤ 1000000)) : F_check_event [scD sc, .tuple [.int t, .tuple row]] = (xcp "StreamError" [("code", .str "time")] : M Dr D) := by
  have e := rz_of (W := Dr) (nm := "StreamError") (y := "time") (by decide +kernel)
  by_cases h1 : 0 ≤ t
  · have h2 : ¬ t ≤ 1000000 := fun z => h ⟨h1, z⟩
    simp [F_check_event, B_check_event, h1, h2, e]
  · simp [F_check_event, B_check_event, h1, e]
def eX (k : Nat) (c : Str) : List (Str × D) := [("line", .int (k : Int)), ("code", .str c)]
def evM (k : Nat) : Rd → M Dr D | .ok e => ret e | .no c => xcp "EventError" (eX k c)
theorem log_nat {k : Nat} (h : k ≤ 1000000) : (k : Int).natAbs.log2 < 1920 := log_of (by omega)
theorem rz2_form {k : Nat} (h : k ≤ 1000000) : (rz2D "EventError" "line" [.str "form", .int (k : Int)] : M Dr O) = xcp "EventError" (eX k "form") := rz2_of (by decide +kernel) (log_nat h)
theorem rz2_time {k : Nat} (h : k ≤ 1000000) : (rz2D "EventError" "line" [.str "time", .int (k : Int)] : M Dr O) = xcp "EventError" (eX k "time") := rz2_of (by decide +kernel) (log_nat h)
theorem rz2_row {k : Nat} (h : k ≤ 1000000) : (rz2D "EventError" "line" [.str "row", .int (k : Int)] : M Dr O) = xcp "EventError" (eX k "row") := rz2_of (by decide +kernel) (log_nat h)
theorem read_event_of {sc : List (D × Bool)} {line : List Nat} {k : Nat} (hs : sc.length ≤ 1000) (h : line.length ≤ 100000) (hw : Lt line) (hk : k ≤ 1000000) : F_read_event [scD sc, T line, .int (k : Int)] = evM k (ev sc line) := by
  have e := read_event_text_of h hw
  unfold ev
  have start : ∀ d, F_read_event_text [T line] = (ret d : M Dr D) → F_read_event [scD sc, T line, .int (k : Int)] = bnd (mSeq (mIfS (mB (mOp gIsN (mVar 3) (mC .none))) (mRaise2 "EventError" "line" (mCons (mC (.str "form")) (mCons (mVar 2) mNil))) mNx)
    (mSeq (mTryA (fun nm => nm == "StreamError") "EventError" "line" [2] 4 (mDrop (mCallX F_check_event (mCons (mVar 0) (mCons (mVar 3) mNil)))) (fun fs => mCons (mXf 4 "code" fs) (mCons (mVar 2) mNil)))
    (mRet (mVar 3))) [some (scD sc), some (T line), some (.int (k : Int)), some d, none]) (outF .dat) := by
    intro d hd
    rw [F_read_event, x_Fn]
    unfold B_read_event
    rw [x_Seq, x_Asg, x_Call]
    simp only [x_Cons, x_Nil, x_Var, startR, List.map_cons, List.map_nil, List.length_cons, List.length_nil, x_start, List.cons_append, List.nil_append, List.replicate, List.getElem?_cons_zero, List.getElem?_cons_succ, bnd_ret, hd, noX_ret, List.set_cons_succ, List.set_cons_zero, x_goNx]
  rw [start _ e]
  cases q : evV (mapO lrd (cutGo line [] false)) with
  | none => simp [etD, rz2_form hk, evM]
  | some p =>
    obtain ⟨t, row⟩ := p
    have hv : ∀ v ∈ row, VOk v := by
      intro v hv
      cases q2 : mapO lrd (cutGo line [] false) with
      | none => rw [q2] at q; cases q
      | some vs =>
        have hm := (mapO_ok q2).1
        rw [q2] at q
        match vs, hm, q with
        | .int t' :: a :: r, hm, q =>
          cases q
          exact hm v (List.mem_cons_of_mem _ hv)
    dsimp only [etD]
    by_cases ht : 0 ≤ t ∧ t ≤ 1000000
    · rw [if_pos ht]
      cases hr : rowOk sc row with
      | true =>
        have hc := check_ok hs hv ht.1 ht.2 hr
        have ht := x_TryAok (ct := fun nm => nm == "StreamError") (c2 := "EventError") (f2 := "line") (fx := [2]) (i := 4) (mb := mDrop (mCallX F_check_event (mCons (mVar 0) (mCons (mVar 3) mNil)))) (mh := fun fs => mCons (mXf 4 "code" fs) (mCons (mVar 2) mNil))
          (ρ := [some (scD sc), some (T line), some (.int (k : Int)), some (.tuple [.int t, .tuple row]), none]) (W := Dr) (o := .nx [some (scD sc), some (T line), some (.int (k : Int)), some (.tuple [.int t, .tuple row]), none]) (by simp [hc])
        simp [ht, evM]
      | false =>
        have hc := check_row hs hv ht.1 ht.2 hr
        have ht := x_TryAx (ct := fun nm => nm == "StreamError") (c2 := "EventError") (f2 := "line") (fx := [2]) (i := 4) (mb := mDrop (mCallX F_check_event (mCons (mVar 0) (mCons (mVar 3) mNil)))) (mh := fun fs => mCons (mXf 4 "code" fs) (mCons (mVar 2) mNil))
          (ρ := [some (scD sc), some (T line), some (.int (k : Int)), some (.tuple [.int t, .tuple row]), none]) (W := Dr) (nm := "StreamError") (fs := [("code", .str "row")]) (ds := [.str "row", .int (k : Int)]) (by simp [hc]) rfl (by simp [hdRho, List.zipIdx, List.lookup])
        simp [ht, rz2_row hk, evM]
    · rw [if_neg ht]
      have hc := check_time (sc := sc) (row := row) ht
      have ht := x_TryAx (ct := fun nm => nm == "StreamError") (c2 := "EventError") (f2 := "line") (fx := [2]) (i := 4) (mb := mDrop (mCallX F_check_event (mCons (mVar 0) (mCons (mVar 3) mNil)))) (mh := fun fs => mCons (mXf 4 "code" fs) (mCons (mVar 2) mNil))
          (ρ := [some (scD sc), some (T line), some (.int (k : Int)), some (.tuple [.int t, .tuple row]), none]) (W := Dr) (nm := "StreamError") (fs := [("code", .str "time")]) (ds := [.str "time", .int (k : Int)]) (by simp [hc]) rfl (by simp [hdRho, List.zipIdx, List.lookup])
      simp [ht, rz2_time hk, evM]
/-! ### a text of events -/
inductive Pr where
  | ok : List D → Pr
  | no : Nat → Str → Pr
def pLoop (sc : List (D × Bool)) : Nat → List (List Nat) → List D → Pr
  | _, [], found => .ok found
  | k, l :: ls, found => match ev sc l with | .ok e => pLoop sc (k + 1) ls (found ++ [e]) | .no c => .no k c
def lns (l : List Nat) : List (List Nat) := TL.spl [10] 0 [] l
def lastO (n : Nat) (last : List Nat) : Pr → Pr | .ok es => if last = [] then .ok es else .no n "form" | r => r
def due (sc : List (D × Bool)) (text : List Nat) : Pr := lastO ((lns text).length - 1) ((lns text).getLastD []) (pLoop sc 0 (lns text).dropLast [])
def prM : Pr → M Dr D | .ok es => ret (.list es) | .no k c => xcp "EventError" (eX k c)
def prD : Pr → D | .ok es => .list es | .no k c => .tuple [.str c, .int (k : Int)]
theorem spl_ne (l : List Nat) : ∀ acc, TL.spl [10] 0 acc l ≠ [] := by
  induction l with
  | nil => intro acc h; rw [TL.spl_nil] at h; cases h
  | cons c r ih =>
    intro acc h
    cases e : TL.pre [10] (c :: r) with
    | true => rw [TL.spl_hit e] at h; cases h
    | false => rw [TL.spl_miss e] at h; exact ih _ h
theorem spl_mem (l : List Nat) : ∀ acc, ∀ p ∈ TL.spl [10] 0 acc l, ∀ c ∈ p, c ∈ acc ∨ c ∈ l := by
  induction l with
  | nil =>
    intro acc p hp c hc
    rw [TL.spl_nil] at hp
    rw [List.mem_singleton.mp hp] at hc
    exact .inl hc
  | cons x r ih =>
    intro acc p hp c hc
    cases e : TL.pre [10] (x :: r) with
    | true =>
      rw [TL.spl_hit e] at hp
      rcases List.mem_cons.mp hp with rfl | hp
      · exact .inl hc
      · rcases ih [] p hp c hc with h | h
        · cases h
        · exact .inr (List.mem_cons_of_mem _ h)
    | false =>
      rw [TL.spl_miss e] at hp
      rcases ih _ p hp c hc with h | h
      · rcases List.mem_append.mp h with h | h
        · exact .inl h
        · rw [List.mem_singleton.mp h]; exact .inr List.mem_cons_self
      · exact .inr (List.mem_cons_of_mem _ h)
theorem spl_len (l : List Nat) : ∀ acc, (TL.spl [10] 0 acc l).length ≤ l.length + 1 ∧ ∀ p ∈ TL.spl [10] 0 acc l, p.length ≤ acc.length + l.length := by
  induction l with
  | nil =>
    intro acc
    rw [TL.spl_nil]
    exact ⟨by simp, fun p hp => by rw [List.mem_singleton.mp hp]; simp⟩
  | cons x r ih =>
    intro acc
    cases e : TL.pre [10] (x :: r) with
    | true =>
      rw [TL.spl_hit e]
      obtain ⟨h1, h2⟩ := ih []
      refine ⟨by simp at h1 ⊢; omega, fun p hp => ?_⟩
      rcases List.mem_cons.mp hp with rfl | hp
      · simp
      · have := h2 p hp
        simp at this ⊢
        omega
    | false =>
      rw [TL.spl_miss e]
      obtain ⟨h1, h2⟩ := ih (acc ++ [x])
      refine ⟨by simp at h1 ⊢; omega, fun p hp => ?_⟩
      have := h2 p hp
      simp at this ⊢
      omega
end K02

namespace K02
open PySem L2 B
theorem split_nl' {l : List Nat} (hl : l.length ≤ 1000000) : (spltD "\n" (T l) : M Dr D) = ret (.list ((lns l).map T)) := split_nl hl
theorem lns_ok {text : List Nat} (h : text.length ≤ 90000) (hw : Lt text) : (lns text).length ≤ 90001 ∧ lns text ≠ [] ∧ ∀ p ∈ lns text, p.length ≤ 90000 ∧ Lt p := by
  obtain ⟨h1, h2⟩ := spl_len text []
  refine ⟨by unfold lns; omega, spl_ne text [], fun p hp => ⟨?_, fun c hc => ?_⟩⟩
  · have := h2 p hp
    simp at this
    omega
  · rcases spl_mem text [] p hp c hc with z | z
    · cases z
    · exact hw c z
def plM (f : List D → O) : Pr → M Dr O | .ok es => ret (f es) | .no k c => xcp "EventError" (eX k c)
theorem parse_loop {sc : List (D × Bool)} {a1 a2 : Option D} (hs : sc.length ≤ 1000) : ∀ (ls : List (List Nat)) (k : Nat) (found : List D) (x4 x5 : Option D), (∀ p ∈ ls, p.length ≤ 90000 ∧ Lt p) → k + ls.length ≤ 100000 → found.length + ls.length ≤ 100000 →
    ∃ x4' x5', mForL (gT 2 (gCons' (gN 4) (gCons' (gN 5) gNil'))) Bd_parse_events_1 (enumFrom k (ls.map T)) [some (scD sc), a1, a2, some (.list found), x4, x5] = plM (fun es => .nx [some (scD sc), a1, a2, some (.list es), x4', x5']) (pLoop sc k ls found)
  | [], k, found, x4, x5, _, _, _ => ⟨x4, x5, rfl⟩
  | l :: ls, k, found, x4, x5, hl, h1, h2 => by
    have hp := hl l List.mem_cons_self
    have he := read_event_of (sc := sc) (line := l) (k := k) hs (by omega) hp.2 (by simp at h1; omega)
    simp only [List.length_cons] at h1 h2
    have hf : found.length < 1000000 := by omega
    rw [List.map_cons]
    unfold enumFrom pLoop
    cases e : ev sc l with
    | no c =>
      rw [e] at he
      refine ⟨none, none, ?_⟩
      simp [Bd_parse_events_1, he, evM, plM]
    | ok z =>
      rw [e] at he
      obtain ⟨x4', x5', ih⟩ := parse_loop (a1 := a1) (a2 := a2) hs ls (k + 1) (found ++ [z]) (some (.int (k : Int))) (some (T l)) (fun p hp => hl p (List.mem_cons_of_mem _ hp)) (by omega) (by simp; omega)
      refine ⟨x4', x5', ?_⟩
      dsimp only
      rw [x_ForCons]
      generalize mForL (gT 2 (gCons' (gN 4) (gCons' (gN 5) gNil'))) Bd_parse_events_1 (enumFrom (k + 1) (ls.map T)) = KK at ih ⊢
      simp [Bd_parse_events_1, he, evM, hf, ih]
theorem enL_of (ds : List D) : (enL [.list ds] : M Dr (List D)) = ret (enumFrom 0 ds) := rfl
theorem last_of {ls : List (List Nat)} (h : ls ≠ []) : ∃ z, atI (ls.map T) (-1) = some (T z) ∧ ls.getLastD [] = z ∧ z ∈ ls := by
  obtain ⟨n, hn⟩ : ∃ n, ls.length = n + 1 := ⟨ls.length - 1, by have := List.length_pos_iff.mpr h; omega⟩
  have e := atI_neg (l := ls.map T) (n := n) (by rw [List.length_map]; exact hn)
  have hl : n < ls.length := by omega
  refine ⟨ls[n], ?_, ?_, List.getElem_mem hl⟩
  · rw [e, List.getElem?_map, List.getElem?_eq_getElem hl]; rfl
  · rw [List.getLastD_eq_getLast?, List.getLast?_eq_getElem?, show ls.length - 1 = n by omega, List.getElem?_eq_getElem hl]
    rfl
theorem parse_events_of {sc : List (D × Bool)} {text : List Nat} (hs : sc.length ≤ 1000) (h : text.length ≤ 90000) (hw : Lt text) : F_parse_events [scD sc, T text] = prM (due sc text) := by
  obtain ⟨g1, g2, g3⟩ := lns_ok h hw
  have hd : ∀ p ∈ (lns text).dropLast, p.length ≤ 90000 ∧ Lt p := fun p hp => g3 p (List.dropLast_subset _ hp)
  obtain ⟨x4, x5, e⟩ := parse_loop (a1 := some (T text)) (a2 := some (.list ((lns text).map T))) hs (lns text).dropLast 0 [] none none hd (by rw [List.length_dropLast]; omega) (by rw [List.length_dropLast]; simp; omega)
  obtain ⟨z, ez, el, hz⟩ := last_of g2
  have hne := t_ne (x := z) (y := []) (g3 z hz).2 lt_nil
  have hsp := split_nl' (l := text) (by omega)
  unfold due
  rw [el]
  have hdl : ((lns text).map T).dropLast = (lns text).dropLast.map T := (List.map_dropLast).symm
  have hlen : (((lns text).length : Int) - 1) = (((lns text).length - 1 : Nat) : Int) := by have := List.length_pos_iff.mpr g2; omega
  have hr := rz2_form (k := (lns text).length - 1) (by omega)
  rw [F_parse_events, x_Fn, show (startR 6 [scD sc, T text] : Rho) = [some (scD sc), some (T text), none, none, none, none] from rfl]
  unfold B_parse_events
  rw [x_Seq, show mAsg 2 (mSplit "\n" (mVar 1)) [some (scD sc), some (T text), none, none, none, none] = (ret (.nx [some (scD sc), some (T text), some (.list ((lns text).map T)), none, none, none]) : M Dr O) by simp [hsp], bnd_ret, x_goNx]
  rw [x_Seq, show mAsg 3 (mLst mNil) [some (scD sc), some (T text), some (.list ((lns text).map T)), none, none, none] = (ret (.nx [some (scD sc), some (T text), some (.list ((lns text).map T)), some (.list []), none, none]) : M Dr O) by simp, bnd_ret, x_goNx]
  rw [x_Seq, x_For, show srcEnL (mCons (mSl (liftL gSlLst) (mVar 2) mNoP (mPart (mNeg (mC (.int 1))))) mNil) [some (scD sc), some (T text), some (.list ((lns text).map T)), some (.list []), none, none] = (ret (enumFrom 0 ((lns text).map T).dropLast) : M Dr (List D)) by simp [enL_of], bnd_ret, hdl, e]
  cases pLoop sc 0 (lns text).dropLast [] with
  | no k c => simp [plM, prM, lastO]
  | ok es =>
    by_cases hz0 : z = []
    · subst hz0
      simp [plM, prM, lastO, ez, s_emp, hne]
    · simp [plM, prM, lastO, ez, s_emp, hne, hz0, hlen, hr]
end K02

namespace K02
open PySem L2 B
theorem tx_lt {c : Nat} (h : isTx c = true) : c < 256 := by
  have : ∀ c ∈ txtL, c < 256 := by decide +kernel
  unfold isTx at h
  exact this c (of_decide_eq_true h)
theorem text_lt {l : List Nat} (h : isText l = true) : Lt l := by
  unfold isText at h
  simp only [Bool.and_eq_true, List.all_eq_true] at h
  exact fun c hc => tx_lt (h.2 c hc)
theorem sh_v {d : D} (h : VOk d) : Sh 0 d := by
  rcases h with ⟨n, rfl⟩ | ⟨l, rfl, hl⟩
  · exact sh_int n
  · exact sh_str (strOk_T (text_lt hl))
def isN : D → Bool | .none => true | _ => false
theorem eqv_none {d : D} (h : d = .none ∨ VOk d) : PyData.eqv d .none = isN d := by
  rcases h with rfl | ⟨n, rfl⟩ | ⟨l, rfl, _⟩
  · rw [PyData.eqv]; rfl
  · rw [PyData.eqv]; rfl
  · unfold T; rw [PyData.eqv]; rfl
theorem in_none {ds : List D} (h : ∀ d ∈ ds, d = .none ∨ VOk d) : gInD .none (.list ds) = some (.bool (ds.any isN)) := by
  have h1 : SeqAt.shaped (.none : D) = true := sh_shaped sh_none
  have h2 : SeqAt.shaped (.list ds : D) = true := sh_shaped (sh_list (n := 0) fun d hd => by
    rcases h d hd with rfl | hv
    · exact sh_none
    · exact sh_v hv)
  show (if SeqAt.shaped (.none : D) = true ∧ SeqAt.shaped (.list ds : D) = true then some (PyData.bool (ds.any fun z => PyData.eqv z .none)) else none) = _
  rw [if_pos ⟨h1, h2⟩]
  congr 2
  clear h2
  induction ds with
  | nil => rfl
  | cons d ds ih =>
    rw [List.any_cons, List.any_cons, eqv_none (h d List.mem_cons_self), ih fun d hd => h d (List.mem_cons_of_mem _ hd)]
/-- the values of a line, None where a word is none -/
theorem vals_none {ws : List (List Nat)} : mapO lrd ws = none → (ws.map fun w => optD (lrd w)).any isN = true := by
  induction ws with
  | nil => intro h; cases h
  | cons w ws ih =>
    intro h
    rw [List.map_cons, List.any_cons]
    cases e : lrd w with
    | none => rfl
    | some d =>
      have hw : mapO lrd ws = none := by
        cases e2 : mapO lrd ws with
        | none => rfl
        | some ds =>
          unfold mapO at h
          rw [e, e2] at h
          cases h
      rw [ih hw, Bool.or_true]
theorem vals_some {ws : List (List Nat)} : ∀ {vs : List D}, mapO lrd ws = some vs → ws.map (fun w => optD (lrd w)) = vs ∧ vs.any isN = false := by
  induction ws with
  | nil =>
    intro vs h
    cases h
    exact ⟨rfl, rfl⟩
  | cons w ws ih =>
    intro vs h
    unfold mapO at h
    cases e : lrd w with
    | none => rw [e] at h; cases h
    | some d =>
      cases e2 : mapO lrd ws with
      | none => rw [e, e2] at h; cases h
      | some ds =>
        rw [e, e2] at h
        cases h
        obtain ⟨h1, h2⟩ := ih e2
        refine ⟨by rw [List.map_cons, e, h1]; rfl, ?_⟩
        rw [List.any_cons, h2, Bool.or_false]
        rcases lrd_ok e with ⟨n, rfl⟩ | ⟨l, rfl, _⟩ <;> rfl
theorem vals_ok {ws : List (List Nat)} : ∀ d ∈ ws.map (fun w => optD (lrd w)), d = .none ∨ VOk d := by
  intro d hd
  obtain ⟨w, _, rfl⟩ := List.mem_map.mp hd
  cases e : lrd w with
  | none => exact .inl rfl
  | some d => exact .inr (lrd_ok e)
theorem eqv_kS (a b : Bool) : PyData.eqv (kS a) (kS b) = decide (a = b) := by
  unfold kS
  rw [PyData.eqv]
  cases a <;> cases b <;> decide +kernel
theorem eqvAll_kS : ∀ (as bs : List Bool), PyData.eqvAll (as.map kS) (bs.map kS) = decide (as = bs)
  | [], [] => by rw [List.map_nil, PyData.eqvAll]; simp
  | [], _ :: _ => by rw [List.map_nil, List.map_cons, PyData.eqvAll]; simp
  | _ :: _, [] => by rw [List.map_nil, List.map_cons, PyData.eqvAll]; simp
  | a :: as, b :: bs => by
    rw [List.map_cons, List.map_cons, PyData.eqvAll, eqv_kS, eqvAll_kS as bs]
    by_cases h : a = b
    · simp [h]
    · simp [h]
theorem sh_kS (b : Bool) : Sh 0 (kS b) := sh_str (by cases b <;> decide +kernel)
theorem ne_kinds (as bs : List Bool) : gNe (.tuple (as.map kS)) (.tuple (bs.map kS)) = some (.bool (!decide (as = bs))) := by
  have sh : ∀ as : List Bool, SeqAt.shaped (.tuple (as.map kS) : D) = true := fun as => sh_shaped (sh_tup (n := 0) fun d hd => by
    obtain ⟨b, _, rfl⟩ := List.mem_map.mp hd
    exact sh_kS b)
  unfold gNe
  rw [if_pos ⟨sh as, sh bs⟩, PyData.eqv, eqvAll_kS]
theorem cut_ne (l acc : List Nat) (ins : Bool) : cutGo l acc ins ≠ [] := by
  obtain ⟨z, ws, e⟩ := cut_head l acc ins
  rw [e]
  simp
theorem cut_or (x : Nat) (l acc : List Nat) (ins : Bool) : (∃ i, cutGo (x :: l) acc ins = acc :: cutGo l [] i) ∨ ∃ i, cutGo (x :: l) acc ins = cutGo l (acc ++ [x]) i := by
  by_cases hc : x = 32 ∧ (if x = 34 then !ins else ins) = false
  · refine .inl ⟨if x = 34 then !ins else ins, ?_⟩
    show (if _ then _ else _) = _
    rw [if_pos hc]
  · refine .inr ⟨if x = 34 then !ins else ins, ?_⟩
    show (if _ then _ else _) = _
    rw [if_neg hc]
theorem cut_mem : ∀ (l acc : List Nat) (ins : Bool), ∀ p ∈ cutGo l acc ins, p.length ≤ acc.length + l.length ∧ ∀ c ∈ p, c ∈ acc ∨ c ∈ l
  | [], acc, ins, p, hp => by
    rw [List.mem_singleton.mp hp]
    exact ⟨by simp, fun c hc => .inl hc⟩
  | x :: l, acc, ins, p, hp => by
    rcases cut_or x l acc ins with ⟨i, ei⟩ | ⟨i, ei⟩ <;> rw [ei] at hp
    · rcases List.mem_cons.mp hp with rfl | hp
      · exact ⟨by simp, fun c hc => .inl hc⟩
      · obtain ⟨h1, h2⟩ := cut_mem l [] _ p hp
        refine ⟨by simp at h1 ⊢; omega, fun c hc => ?_⟩
        rcases h2 c hc with z | z
        · cases z
        · exact .inr (List.mem_cons_of_mem _ z)
    · obtain ⟨h1, h2⟩ := cut_mem l _ _ p hp
      refine ⟨by simp at h1 ⊢; omega, fun c hc => ?_⟩
      rcases h2 c hc with z | z
      · rcases List.mem_append.mp z with z | z
        · exact .inl z
        · rw [List.mem_singleton.mp z]; exact .inr List.mem_cons_self
      · exact .inr (List.mem_cons_of_mem _ z)
theorem cut_len : ∀ (l acc : List Nat) (ins : Bool), (cutGo l acc ins).length ≤ l.length + 1
  | [], acc, ins => by simp [cutGo]
  | x :: l, acc, ins => by
    rcases cut_or x l acc ins with ⟨i, ei⟩ | ⟨i, ei⟩ <;> rw [ei]
    · have := cut_len l [] i
      simp
      omega
    · have := cut_len l (acc ++ [x]) i
      simp
      omega
end K02

namespace K02
open PySem L2 B
theorem lc_vals {a0 a1 a2 a3 a4 a5 a6 a8 a9 a10 : Option D} {ws : List (List Nat)} (h : ∀ w ∈ ws, w.length ≤ 100000 ∧ Lt w) : mLcL (gN 7) mYes Be__law_due_1 [a0, a1, a2, a3, a4, a5, a6, none, a8, a9, a10] (ws.map T) = (ret (ws.map fun w => optD (lrd w)) : M Dr (List D)) :=
  pu_lcM (enc := T) (h := fun w => optD (lrd w)) fun w hw => by
    have := law_read_of (h w hw).1 (h w hw).2
    simp [Be__law_due_1, this]
theorem lc_kinds {a0 a1 a2 a3 a4 a5 a6 a7 a9 a10 : Option D} {row : List D} (h : ∀ v ∈ row, VOk v) : mLcL (gN 8) mYes Be__law_due_2 [a0, a1, a2, a3, a4, a5, a6, a7, none, a9, a10] row = (ret (row.map fun v => kS (isS v)) : M Dr (List D)) :=
  pu_lcY (h := fun v => kS (isS v)) fun v hv => ⟨_, rfl, by
    rcases h v hv with ⟨n, rfl⟩ | ⟨l, rfl, _⟩
    · simp [Be__law_due_2, kS]
    · simp [Be__law_due_2, kS]⟩
theorem lc_sc {a0 a1 a2 a3 a4 a5 a6 a7 a8 : Option D} {sc : List (D × Bool)} : mLcL (gT 2 (gCons' (gN 9) (gCons' (gN 10) gNil'))) mYes (mVar 10) [a0, a1, a2, a3, a4, a5, a6, a7, a8, none, none] (sc.map fE) = (ret (sc.map fun p => kS p.2) : M Dr (List D)) :=
  pu_lcM (enc := fE) (h := fun p => kS p.2) fun p _ => by simp [fE]
theorem ne_rows (sc : List (D × Bool)) (row : List D) : gNe (.tuple (row.map fun v => kS (isS v))) (.tuple (sc.map fun p => kS p.2)) = some (.bool (!rowOk sc row)) := by
  have := ne_kinds (row.map isS) (sc.map (·.2))
  rw [List.map_map, List.map_map] at this
  exact this
def fmD (k : Nat) (c : Str) : D := .tuple [.str c, .int (k : Int)]
noncomputable def Bq : MS Dr :=
    (mSeq (mIfS (mOr (mB (mOp gInD (mC .none) (mVar 5))) (mOr (mB (mOp gLt (mCB gLen (mCons (mVar 5) mNil)) (mC (.int 2)))) (mB (mIsi "str" (mOp gIxL (mVar 5) (mC (.int 0))))))) (mRet (mTup (mCons (mC (.str "form")) (mCons (mVar 4) mNil)))) mNx)
    (mSeq (mIfS (mNot (mB (mChn gLe gLe (mC (.int 0)) (mOp gIxL (mVar 5) (mC (.int 0))) (mC (.int 1000000))))) (mRet (mTup (mCons (mC (.str "time")) (mCons (mVar 4) mNil)))) mNx)
    (mSeq (mAsg 6 (mCBU gListOf (mCons (mLc (srcL (mSl (liftL gSlLst) (mVar 5) (mPart (mC (.int 1))) mNoP)) [8] (gN 8) mYes Be__law_due_2) mNil)))
    (mSeq (mIfS (mB (mOp gNe (mVar 6) (mCBU gListOf (mCons (mLc (srcT (mVar 0)) [9, 10] (gT 2 (gCons' (gN 9) (gCons' (gN 10) gNil'))) mYes (mVar 10)) mNil)))) (mRet (mTup (mCons (mC (.str "row")) (mCons (mVar 4) mNil)))) mNx)
    (mMut 3 gApp (mCons (mTup (mCons (mOp gIxL (mVar 5) (mC (.int 0))) (mCons (mCBU gListOf (mCons (mSl (liftL gSlLst) (mVar 5) (mPart (mC (.int 1))) mNoP) mNil)) mNil))) mNil))))))
theorem bd3 : Bd__law_due_3 = mSeq (mAsg 5 (mLc (srcL (mCall F__law_cut (mCons (mOp gIxL (mVar 2) (mVar 4)) mNil))) [7] (gN 7) mYes Be__law_due_1)) Bq := rfl
def rdM (f : D → O) (k : Nat) : Rd → M Dr O | .ok e => ret (f e) | .no c => ret (.rt (fmD k c))
theorem pLoop_cons (sc : List (D × Bool)) (k : Nat) (l : List Nat) (ls : List (List Nat)) (found : List D) : pLoop sc k (l :: ls) found = match ev sc l with | .ok e => pLoop sc (k + 1) ls (found ++ [e]) | .no c => .no k c := rfl
theorem bq_of {sc : List (D × Bool)} {a1 a2 x6 x7 x8 x9 x10 : Option D} {found : List D} {k : Nat} {l : List Nat} (hs : sc.length ≤ 1000) (hf : found.length < 1000000) (hcl : (cutGo l [] false).length ≤ 100000) :
    ∃ y6 y8 y9 y10, Bq [some (scD sc), a1, a2, some (.list found), some (.int (k : Int)), some (.list ((cutGo l [] false).map fun w => optD (lrd w))), x6, x7, x8, x9, x10] =
      rdM (fun e => .nx [some (scD sc), a1, a2, some (.list (found ++ [e])), some (.int (k : Int)), some (.list ((cutGo l [] false).map fun w => optD (lrd w))), y6, x7, y8, y9, y10]) k (ev sc l) := by
  have hin := in_none (vals_ok (ws := cutGo l [] false))
  unfold ev
  cases q : mapO lrd (cutGo l [] false) with
  | none =>
    rw [vals_none q] at hin
    refine ⟨none, none, none, none, ?_⟩
    generalize ((cutGo l [] false).map fun w => optD (lrd w)) = vs at hin
    simp [Bq, hin, evV, rdM, fmD]
  | some vs =>
    obtain ⟨v1, v2⟩ := vals_some q
    obtain ⟨hv, hlen⟩ := mapO_ok q
    rw [v1, v2] at hin
    rw [v1]
    match vs, hv, hin, hlen with
    | [], hv, hin, hlen =>
      refine ⟨none, none, none, none, ?_⟩
      simp [Bq, hin, evV, rdM, fmD]
    | [a], hv, hin, hlen =>
      refine ⟨none, none, none, none, ?_⟩
      simp [Bq, hin, evV, rdM, fmD]
    | a :: b :: r, hv, hin, hlen =>
      have hn : ¬ ((r.length : Int) + 1 + 1 < 2) := by omega
      rcases hv a List.mem_cons_self with ⟨t, rfl⟩ | ⟨z, rfl, hz⟩
      · have hr : ∀ v ∈ b :: r, VOk v := fun v h => hv v (List.mem_cons_of_mem _ h)
        have ee : evV (some (.int t :: b :: r)) = some (t, b :: r) := rfl
        simp only [List.length_cons] at hlen
        rw [ee]
        dsimp only
        by_cases ht : 0 ≤ t ∧ t ≤ 1000000
        · rw [if_pos ht]
          have l1 : (b :: r).length ≤ 1000000 := by simp; omega
          have k1 := lc_kinds (a0 := some (scD sc)) (a1 := a1) (a2 := a2) (a3 := some (.list found)) (a4 := some (.int (k : Int))) (a5 := some (.list (.int t :: b :: r))) (a6 := x6) (a7 := x7) (a9 := x9) (a10 := x10) hr
          have k2 := ne_rows sc (b :: r)
          generalize hkd : ((b :: r).map fun v => kS (isS v)) = kd at k1 k2
          have k3 := lc_sc (a0 := some (scD sc)) (a1 := a1) (a2 := a2) (a3 := some (.list found)) (a4 := some (.int (k : Int))) (a5 := some (.list (.int t :: b :: r))) (a6 := some (.tuple kd)) (a7 := x7) (a8 := x8) (sc := sc)
          have hs' : sc.length ≤ 1000000 := by omega
          generalize hsk : (sc.map fun p => kS p.2) = sk at k2 k3
          cases hro : rowOk sc (b :: r) with
          | true =>
            rw [hro] at k2
            refine ⟨some (.tuple kd), x8, x9, x10, ?_⟩
            simp only [scD] at k1 k3
            have l2 : r.length ≤ 999999 := by omega
            simp [Bq, hin, hn, ht.1, ht.2, scD, hf, k1, k2, k3, hs', l2, rdM]
          | false =>
            rw [hro] at k2
            refine ⟨none, none, none, none, ?_⟩
            simp only [scD] at k1 k3
            have l2 : r.length ≤ 999999 := by omega
            simp [Bq, hin, hn, ht.1, ht.2, scD, hf, k1, k2, k3, hs', l2, rdM, fmD]
        · rw [if_neg ht]
          refine ⟨none, none, none, none, ?_⟩
          by_cases h1 : 0 ≤ t
          · have h2 : ¬ t ≤ 1000000 := fun z => ht ⟨h1, z⟩
            simp [Bq, hin, hn, h1, h2, rdM, fmD]
          · simp [Bq, hin, hn, h1, rdM, fmD]
      · refine ⟨none, none, none, none, ?_⟩
        have : evV (some (T z :: b :: r)) = none := rfl
        rw [this]
        simp [Bq, hin, rdM, fmD, hn]
def dlM (f : List D → O) : Pr → M Dr O | .ok es => ret (f es) | .no k c => ret (.rt (fmD k c))
theorem due_loop {sc : List (D × Bool)} {a1 : Option D} {LD : List D} (hs : sc.length ≤ 1000) : ∀ (ls : List (List Nat)) (k : Nat) (found : List D) (x4 x5 x6 x7 x8 x9 x10 : Option D), (∀ p ∈ ls, p.length ≤ 90000 ∧ Lt p) → (∀ j l, ls[j]? = some l → atI LD ((k + j : Nat) : Int) = some (T l)) → found.length + ls.length ≤ 100000 →
    ∃ x4' x5' x6' x7' x8' x9' x10', mForL (gN 4) Bd__law_due_3 (intsFrom (k : Int) ls.length) [some (scD sc), a1, some (.list LD), some (.list found), x4, x5, x6, x7, x8, x9, x10] = dlM (fun es => .nx [some (scD sc), a1, some (.list LD), some (.list es), x4', x5', x6', x7', x8', x9', x10']) (pLoop sc k ls found)
  | [], k, found, x4, x5, x6, x7, x8, x9, x10, _, _, _ => ⟨x4, x5, x6, x7, x8, x9, x10, rfl⟩
  | l :: ls, k, found, x4, x5, x6, x7, x8, x9, x10, hl, ha, h2 => by
    have hp := hl l List.mem_cons_self
    have h0 := ha 0 l rfl
    rw [Nat.add_zero] at h0
    simp only [List.length_cons] at h2
    have hf : found.length < 1000000 := by omega
    have hcut := law_cut_of hp.1 hp.2
    have hws : ∀ w ∈ cutGo l [] false, w.length ≤ 100000 ∧ Lt w := fun w hw => by
      obtain ⟨g1, g2⟩ := cut_mem l [] false w hw
      refine ⟨by simp at g1; omega, fun c hc => ?_⟩
      rcases g2 c hc with z | z
      · cases z
      · exact hp.2 c z
    have hcl : (cutGo l [] false).length ≤ 100000 := by have := cut_len l [] false; omega
    have hcl' : (cutGo l [] false).length ≤ 1000000 := by omega
    have kk : ((k : Int) + 1) = ((k + 1 : Nat) : Int) := by omega
    rw [List.length_cons, intsFrom_cons, kk, x_ForCons, x_gN, lift_some, bnd_ret, pLoop_cons]
    have e1 : mAsg 5 (mLc (srcL (mCall F__law_cut (mCons (mOp gIxL (mVar 2) (mVar 4)) mNil))) [7] (gN 7) mYes Be__law_due_1) [some (scD sc), a1, some (.list LD), some (.list found), some (.int (k : Int)), x5, x6, x7, x8, x9, x10] = (ret (.nx [some (scD sc), a1, some (.list LD), some (.list found), some (.int (k : Int)), some (.list ((cutGo l [] false).map fun w => optD (lrd w))), x6, x7, x8, x9, x10]) : M Dr O) := by
      have lv := lc_vals (a0 := some (scD sc)) (a1 := a1) (a2 := some (.list LD)) (a3 := some (.list found)) (a4 := some (.int (k : Int))) (a5 := x5) (a6 := x6) (a8 := x8) (a9 := x9) (a10 := x10) hws
      generalize ((cutGo l [] false).map fun w => optD (lrd w)) = vs at lv
      simp [h0, hcut, hcl', lv]
    obtain ⟨y6, y8, y9, y10, e2⟩ := bq_of (sc := sc) (a1 := a1) (a2 := some (.list LD)) (x6 := x6) (x7 := x7) (x8 := x8) (x9 := x9) (x10 := x10) (found := found) (k := k) (l := l) hs hf hcl
    have e3 : Bd__law_due_3 [some (scD sc), a1, some (.list LD), some (.list found), some (.int (k : Int)), x5, x6, x7, x8, x9, x10] = rdM (fun e => .nx [some (scD sc), a1, some (.list LD), some (.list (found ++ [e])), some (.int (k : Int)), some (.list ((cutGo l [] false).map fun w => optD (lrd w))), y6, x7, y8, y9, y10]) k (ev sc l) := by
      rw [bd3, x_Seq, e1, bnd_ret, x_goNx, e2]
    have e0 : ([some (scD sc), a1, some (.list LD), some (.list found), x4, x5, x6, x7, x8, x9, x10] : Rho).set 4 (some (.int (k : Int))) = [some (scD sc), a1, some (.list LD), some (.list found), some (.int (k : Int)), x5, x6, x7, x8, x9, x10] := rfl
    rw [e0, e3]
    cases ev sc l with
    | no c => exact ⟨none, none, none, none, none, none, none, rfl⟩
    | ok e =>
      obtain ⟨z4, z5, z6, z7, z8, z9, z10, ih⟩ := due_loop (a1 := a1) (LD := LD) hs ls (k + 1) (found ++ [e]) (some (.int (k : Int))) (some (.list ((cutGo l [] false).map fun w => optD (lrd w)))) y6 x7 y8 y9 y10 (fun p hp => hl p (List.mem_cons_of_mem _ hp)) (fun j l' hj => by rw [show k + 1 + j = k + (j + 1) by omega]; exact ha (j + 1) l' (by rw [List.getElem?_cons_succ]; exact hj)) (by simp; omega)
      exact ⟨z4, z5, z6, z7, z8, z9, z10, ih⟩
theorem law_due_of {sc : List (D × Bool)} {text : List Nat} (hs : sc.length ≤ 1000) (h : text.length ≤ 90000) (hw : Lt text) : F__law_due [scD sc, T text] = (ret (prD (due sc text)) : M Dr D) := by
  obtain ⟨g1, g2, g3⟩ := lns_ok h hw
  have hd : ∀ p ∈ (lns text).dropLast, p.length ≤ 90000 ∧ Lt p := fun p hp => g3 p (List.dropLast_subset _ hp)
  have hix : ∀ j l, (lns text).dropLast[j]? = some l → atI ((lns text).map T) ((0 + j : Nat) : Int) = some (T l) := by
    intro j l hj
    obtain ⟨hlt, e⟩ := List.getElem?_eq_some_iff.mp hj
    rw [List.length_dropLast] at hlt
    rw [Nat.zero_add]
    refine atI_nat ?_
    rw [List.getElem?_map, List.getElem?_eq_getElem (by omega)]
    rw [List.getElem_dropLast] at e
    rw [e]
    rfl
  obtain ⟨x4, x5, x6, x7, x8, x9, x10, e⟩ := due_loop (a1 := some (T text)) (LD := (lns text).map T) hs (lns text).dropLast 0 [] none none none none none none none hd hix (by rw [List.length_dropLast]; simp; omega)
  obtain ⟨z, ez, el, hz⟩ := last_of g2
  have heq := t_eq (x := z) (y := []) (g3 z hz).2 lt_nil
  have hsp := split_nl' (l := text) (by omega)
  unfold due
  rw [el]
  have hp := List.length_pos_iff.mpr g2
  have hlen : (((lns text).length : Int) - 1) = (((lns text).length - 1 : Nat) : Int) := by omega
  have hr := rng1_nat (n := (lns text).length - 1) (by omega)
  rw [List.length_dropLast] at e
  rw [show ((0 : Nat) : Int) = 0 from rfl] at e
  rw [F__law_due, x_Fn, show (startR 11 [scD sc, T text] : Rho) = [some (scD sc), some (T text), none, none, none, none, none, none, none, none, none] from rfl]
  unfold B__law_due
  rw [x_Seq, show mAsg 2 (mSplit "\n" (mVar 1)) [some (scD sc), some (T text), none, none, none, none, none, none, none, none, none] = (ret (.nx [some (scD sc), some (T text), some (.list ((lns text).map T)), none, none, none, none, none, none, none, none]) : M Dr O) by simp [hsp], bnd_ret, x_goNx]
  rw [x_Seq, show mAsg 3 (mLst mNil) [some (scD sc), some (T text), some (.list ((lns text).map T)), none, none, none, none, none, none, none, none] = (ret (.nx [some (scD sc), some (T text), some (.list ((lns text).map T)), some (.list []), none, none, none, none, none, none, none]) : M Dr O) by simp, bnd_ret, x_goNx]
  rw [x_Seq, x_For, show srcR1 (mCons (mOp gMns (mCB gLen (mCons (mVar 2) mNil)) (mC (.int 1))) mNil) [some (scD sc), some (T text), some (.list ((lns text).map T)), some (.list []), none, none, none, none, none, none, none] = (ret (intsFrom 0 ((lns text).length - 1)) : M Dr (List D)) by simp [hlen, hr], bnd_ret, e]
  cases pLoop sc 0 (lns text).dropLast [] with
  | no k c => simp [dlM, prD, lastO, fmD]
  | ok es =>
    by_cases hz0 : z = []
    · subst hz0
      simp [dlM, prD, lastO, ez, s_emp, heq]
    · simp [dlM, prD, lastO, ez, s_emp, heq, hz0, hlen]
theorem q_cl : ((Str.ofString "code") == (Str.ofString "line")) = false := by decide +kernel
theorem law_told_of {sc : List (D × Bool)} {text : List Nat} (hs : sc.length ≤ 1000) (h : text.length ≤ 90000) (hw : Lt text) : F__law_told [scD sc, T text] = (ret (prD (due sc text)) : M Dr D) := by
  have e := parse_events_of (sc := sc) hs h hw
  rw [F__law_told, x_Fn]
  unfold B__law_told
  cases q : due sc text with
  | ok es =>
    rw [q] at e
    rw [x_Try (o := .rt (.list es)) (by simp [e, prM])]
    rfl
  | no k c =>
    rw [q] at e
    rw [x_TryX (nm := "EventError") (fs := eX k c) (d := .tuple [.str c, .int (k : Int)]) (by simp [e, prM]) rfl (by simp [hdRho, List.zipIdx, List.lookup, eX, q_cl])]
    rfl
end K02

namespace K02
open PySem L2 B
theorem join_nil_cons (x : List Nat) : ∀ xs : List (List Nat), TL.joinL [] (x :: xs) = x ++ TL.joinL [] xs
  | [] => by show x = x ++ []; simp
  | y :: ys => rfl
theorem join_sp_cons (x y : List Nat) (ys : List (List Nat)) : TL.joinL [32] (x :: y :: ys) = x ++ 32 :: TL.joinL [32] (y :: ys) := rfl
/-- a drawn value -/
def txs : List (List Nat) := [[97], [98], [99, 32, 100]]
def VD (b : Bool) (d : D) : Prop := (b = true ∧ ∃ l ∈ txs, d = T l) ∨ (b = false ∧ ∃ n : Int, d = .int n ∧ -2 ≤ n ∧ n ≤ 6)
def vT : D → List Nat
  | .int n => numT n
  | .str x => 34 :: x.cps.toList ++ [34]
  | _ => []
theorem vT_T (l : List Nat) : vT (T l) = 34 :: l ++ [34] := rfl
/-- a word that stands by itself -/
structure Wd (w : List Nat) (d : D) : Prop where
  bal : ∀ r acc, cutGo (w ++ r) acc false = cutGo r (acc ++ w) false
  rd : lrd w = some d
  len : w.length ≤ 12
  lt : Lt w
  nl : 10 ∉ w
theorem wd_text {l : List Nat} (h : l ∈ txs) : Wd (vT (T l)) (T l) := by
  have h34 : 34 ∉ l := by revert l; decide +kernel
  have htx : isText l = true := by revert l; decide +kernel
  refine ⟨fun r acc => ?_, ?_, ?_, ?_, ?_⟩
  · rw [vT_T, List.append_assoc, List.cons_append, cut_quo]
    show cutGo (l ++ (34 :: r)) (acc ++ [34]) true = _
    rw [cut_in l _ _ h34, cut_quo]
    simp
  · rw [vT_T, lrd_one, htx]; rfl
  · revert l; decide +kernel
  · intro c hc
    have : ∀ l ∈ txs, ∀ c ∈ vT (T l), c < 256 := by decide +kernel
    exact this l h c hc
  · revert l; decide +kernel
theorem wd_num {n : Int} {w : List Nat} (hw : numT n = w) (hd : w.all (fun c => decide (c ≠ 34 ∧ c ≠ 32 ∧ c ≠ 10 ∧ c < 256)) = true) (hl : w.length ≤ 12) (hn : isNum w = true) (hi : PySem.intText? ⟨w.toArray⟩ = some n) : Wd w (.int n) := by
  rw [List.all_eq_true] at hd
  have hc : ∀ c ∈ w, c ≠ 34 ∧ c ≠ 32 ∧ c ≠ 10 ∧ c < 256 := fun c h => of_decide_eq_true (hd c h)
  refine ⟨fun r acc => cut_out w r acc (fun z => (hc _ z).1 rfl) (fun z => (hc _ z).2.1 rfl), ?_, hl, fun c h => (hc c h).2.2.2, fun z => (hc _ z).2.2.1 rfl⟩
  have q : isQ w = false := by
    unfold isQ
    cases w with
    | nil => rfl
    | cons a r =>
      have : a ≠ 34 := (hc a List.mem_cons_self).1
      simp [this]
  unfold lrd rdNum
  rw [q, hn, hi]
  simp [hw]
theorem wd_nat (n : Nat) (h : n < 10 ^ 7) : Wd (numT (n : Int)) (.int (n : Int)) := by
  have had := TL.numL_digits n
  have hlen : (TL.numL n).length ≤ 7 := TL.numL_len (by decide) h
  have hne := TL.numL_ne n
  have hp := List.length_pos_iff.mpr hne
  have hdg : dgs (TL.numL n) = TL.numL n := by
    unfold dgs
    rw [if_neg]
    intro z
    cases e : TL.numL n with
    | nil => exact hne e
    | cons a r =>
      rw [e] at z
      have ha : a = 45 := by simpa using z
      have := had a (by rw [e]; exact List.mem_cons_self)
      omega
  refine wd_num rfl ?_ (by rw [numT_nat]; omega) ?_ ?_
  · rw [numT_nat, List.all_eq_true]
    intro c hc
    have := had c hc
    refine decide_eq_true ⟨?_, ?_, ?_, ?_⟩ <;> omega
  · rw [numT_nat]
    unfold isNum
    rw [hdg]
    simp only [Bool.and_eq_true, decide_eq_true_eq, List.all_eq_true]
    exact ⟨⟨by omega, by omega⟩, fun c hc => dg_iff.mpr (had c hc)⟩
  · have e := TL.int_num (n := n) (by omega)
    rw [SX.num_S] at e
    rw [numT_nat]
    exact e
theorem wd_neg1 : Wd (numT (-1)) (.int (-1)) := by
  have e : numT (-1) = [45, 49] := by decide +kernel
  rw [e]
  exact wd_num e (by decide +kernel) (by decide) (by decide +kernel) (intText_neg (x := ⟨[45, 49].toArray⟩) (cs := [49]) rfl (by intro c hc; simp at hc; omega) (by simp) (by decide +kernel))
theorem wd_neg2 : Wd (numT (-2)) (.int (-2)) := by
  have e : numT (-2) = [45, 50] := by decide +kernel
  rw [e]
  exact wd_num e (by decide +kernel) (by decide) (by decide +kernel) (intText_neg (x := ⟨[45, 50].toArray⟩) (cs := [50]) rfl (by intro c hc; simp at hc; omega) (by simp) (by decide +kernel))
theorem wd_v {b : Bool} {d : D} (h : VD b d) : Wd (vT d) d ∧ VOk d ∧ isS d = b := by
  rcases h with ⟨rfl, l, hl, rfl⟩ | ⟨rfl, n, rfl, h1, h2⟩
  · exact ⟨wd_text hl, .inr ⟨l, rfl, by revert l; decide +kernel⟩, rfl⟩
  · refine ⟨?_, .inl ⟨n, rfl⟩, rfl⟩
    show Wd (numT n) (.int n)
    by_cases h0 : 0 ≤ n
    · obtain ⟨k, rfl⟩ := Int.eq_ofNat_of_zero_le h0
      exact wd_nat k (by omega)
    · rcases (show n = -1 ∨ n = -2 by omega) with rfl | rfl
      · exact wd_neg1
      · exact wd_neg2
/-! ### events -/
def evD (t : Nat) (row : List D) : D := .tuple [.int (t : Int), .tuple row]
def bodyT (t : Nat) (row : List D) : List Nat := TL.joinL [32] (numT (t : Int) :: row.map vT)
structure EvOk (sc : List (D × Bool)) (t : Nat) (row : List D) : Prop where
  tm : t ≤ 1000000
  row : All2 (fun p d => VD p.2 d) sc row
theorem all2_mem {α β : Type} {P : α → β → Prop} : ∀ {as : List α} {bs : List β}, All2 P as bs → ∀ b ∈ bs, ∃ a, P a b
  | _, _, .nil, b, hb => by cases hb
  | _, _, .cons h r, b, hb => by
    rcases List.mem_cons.mp hb with rfl | hb
    · exact ⟨_, h⟩
    · exact all2_mem r b hb
theorem row_isS {sc : List (D × Bool)} {row : List D} (h : All2 (fun p d => VD p.2 d) sc row) : row.map isS = sc.map (·.2) := by
  induction h with
  | nil => rfl
  | cons h _ ih => rw [List.map_cons, List.map_cons, ih, (wd_v h).2.2]
theorem cut_words {ws : List (List Nat)} {ds : List D} (h : All2 Wd ws ds) (hne : ws ≠ []) : cutGo (TL.joinL [32] ws) [] false = ws ∧ mapO lrd ws = some ds := by
  induction h with
  | nil => exact absurd rfl hne
  | @cons w d ws ds h r ih =>
    cases r with
    | nil =>
      refine ⟨?_, ?_⟩
      · have := h.bal [] []
        rw [List.append_nil] at this
        exact this
      · unfold mapO mapO
        rw [h.rd]
    | @cons w2 d2 ws2 ds2 h2 r2 =>
      obtain ⟨i1, i2⟩ := ih (by simp)
      refine ⟨?_, ?_⟩
      · rw [join_sp_cons, h.bal, cut_spc, i1]
        rfl
      · conv => lhs; unfold mapO
        rw [h.rd, i2]
theorem all2_wd {sc : List (D × Bool)} {row : List D} (h : All2 (fun p d => VD p.2 d) sc row) : All2 Wd (row.map vT) row := by
  induction h with
  | nil => exact .nil
  | cons h _ ih => exact .cons (wd_v h).1 ih
theorem ev_of {sc : List (D × Bool)} {t : Nat} {row : List D} (h : EvOk sc t row) (hs : sc ≠ []) : ev sc (bodyT t row) = .ok (evD t row) := by
  have ha : All2 Wd (numT (t : Int) :: row.map vT) (.int (t : Int) :: row) := .cons (wd_nat t (by have := h.tm; omega)) (all2_wd h.row)
  obtain ⟨e1, e2⟩ := cut_words ha (by simp)
  have hl := h.row.len
  have hr : rowOk sc row = true := decide_eq_true (row_isS h.row)
  have htm := h.tm
  unfold ev bodyT
  rw [e1, e2]
  match row, hl, hr with
  | [], hl, hr =>
    have := List.length_pos_iff.mpr hs
    simp at hl
    omega
  | a :: r, hl, hr =>
    have ee : evV (some (.int (t : Int) :: a :: r)) = some ((t : Int), a :: r) := rfl
    rw [ee]
    dsimp only
    rw [if_pos ⟨by omega, by omega⟩, hr]
    rfl
theorem join_len (s : List Nat) : ∀ (ws : List (List Nat)), (∀ w ∈ ws, w.length ≤ 12) → (TL.joinL s ws).length ≤ ws.length * (12 + s.length)
  | [], _ => by simp [TL.joinL]
  | [w], h => by
    have := h w List.mem_cons_self
    show w.length ≤ 1 * _
    omega
  | w :: x :: r, h => by
    have h1 := h w List.mem_cons_self
    have h2 := join_len s (x :: r) fun w hw => h w (List.mem_cons_of_mem _ hw)
    have e : TL.joinL s (w :: x :: r) = w ++ (s ++ TL.joinL s (x :: r)) := rfl
    rw [e, List.length_append, List.length_append, List.length_cons, Nat.add_mul]
    omega
theorem join_mem (s : List Nat) : ∀ (ws : List (List Nat)) (c : Nat), c ∈ TL.joinL s ws → c ∈ s ∨ ∃ w ∈ ws, c ∈ w
  | [], c, h => by cases h
  | [w], c, h => .inr ⟨w, List.mem_cons_self, h⟩
  | w :: x :: r, c, h => by
    have e : TL.joinL s (w :: x :: r) = w ++ (s ++ TL.joinL s (x :: r)) := rfl
    rw [e] at h
    rcases List.mem_append.mp h with h | h
    · exact .inr ⟨w, List.mem_cons_self, h⟩
    · rcases List.mem_append.mp h with h | h
      · exact .inl h
      · rcases join_mem s (x :: r) c h with h | ⟨w', h1, h2⟩
        · exact .inl h
        · exact .inr ⟨w', List.mem_cons_of_mem _ h1, h2⟩
theorem all2_wmem {ws : List (List Nat)} {ds : List D} (h : All2 Wd ws ds) : ∀ w ∈ ws, ∃ d, Wd w d := by
  induction h with
  | nil => intro w hw; cases hw
  | cons h _ ih =>
    intro w hw
    rcases List.mem_cons.mp hw with rfl | hw
    · exact ⟨_, h⟩
    · exact ih w hw
theorem body_ok {sc : List (D × Bool)} {t : Nat} {row : List D} (h : EvOk sc t row) (hs : sc.length ≤ 4) : (bodyT t row).length ≤ 65 ∧ Lt (bodyT t row) ∧ 10 ∉ bodyT t row := by
  have ha : All2 Wd (numT (t : Int) :: row.map vT) (.int (t : Int) :: row) := .cons (wd_nat t (by have := h.tm; omega)) (all2_wd h.row)
  have hm := all2_wmem ha
  have hl := h.row.len
  refine ⟨?_, fun c hc => ?_, fun hc => ?_⟩
  · have := join_len [32] (numT (t : Int) :: row.map vT) fun w hw => by obtain ⟨d, hd⟩ := hm w hw; exact hd.len
    unfold bodyT
    simp only [List.length_cons, List.length_map, List.length_nil] at this ⊢
    omega
  · rcases join_mem _ _ c hc with z | ⟨w, hw, z⟩
    · simp at z; omega
    · obtain ⟨d, hd⟩ := hm w hw
      exact hd.lt c z
  · rcases join_mem _ _ _ hc with z | ⟨w, hw, z⟩
    · simp at z
    · obtain ⟨d, hd⟩ := hm w hw
      exact hd.nl z
end K02

namespace K02
open PySem L2 B
theorem tj_sp {ws : List (List Nat)} (h : (ws.map (·.length)).sum + ws.length ≤ 1000000) : (jnD " " (.list (ws.map T)) : M Dr D) = ret (T (TL.joinL [32] ws)) := t_join [32] ws (by simp; omega)
theorem tj_em {ws : List (List Nat)} (h : (ws.map (·.length)).sum ≤ 1000000) : (jnD "" (.list (ws.map T)) : M Dr D) = ret (T (TL.joinL [] ws)) := t_join [] ws (by simp; omega)
theorem sum_le {B : Nat} : ∀ {ws : List (List Nat)}, (∀ w ∈ ws, w.length ≤ B) → (ws.map (·.length)).sum ≤ ws.length * B
  | [], _ => by simp
  | w :: ws, h => by
    have h1 := h w List.mem_cons_self
    have h2 := sum_le fun w hw => h w (List.mem_cons_of_mem _ hw)
    rw [List.map_cons, List.sum_cons, List.length_cons, Nat.add_mul]
    omega
theorem log_small {n : Int} (h : -1000000000 ≤ n) (h2 : n ≤ 1000000000) : n.natAbs.log2 < 1920 := log_of (by omega)
theorem fv_of {b : Bool} {d : D} (h : VD b d) : F_format_value [d] = (ret (T (vT d)) : M Dr D) := by
  rcases h with ⟨rfl, l, hl, rfl⟩ | ⟨rfl, n, rfl, h1, h2⟩
  · have : l.length ≤ 10 := by revert l; decide +kernel
    have h1 : 1 + l.length ≤ 1000000 := by omega
    have h2 : l.length + 1 ≤ 999999 := by omega
    simp [F_format_value, B_format_value, s_quo, vT_T, show l.length ≤ 999998 by omega, h1]
  · simp [F_format_value, B_format_value, t_strX (log_small (n := n) (by omega) (by omega)), vT]
abbrev Ev := Nat × List D
def eE (p : Ev) : D := evD p.1 p.2
def lineT (p : Ev) : List Nat := bodyT p.1 p.2 ++ [10]
theorem lc_fv {sc : List (D × Bool)} {a0 a1 a2 a3 a4 : Option D} {row : List D} (h : All2 (fun p d => VD p.2 d) sc row) : mLcL (gN 5) mYes Be_format_events_1 [a0, a1, a2, a3, a4, none] row = (ret (row.map fun d => T (vT d)) : M Dr (List D)) :=
  pu_lcY (h := fun d => T (vT d)) fun d hd => ⟨_, rfl, by
    obtain ⟨p, hp⟩ := all2_mem h d hd
    simp [Be_format_events_1, fv_of hp]⟩
theorem words_sum {sc : List (D × Bool)} {t : Nat} {row : List D} (h : EvOk sc t row) (hs : sc.length ≤ 4) : ((numT (t : Int) :: row.map vT).map (·.length)).sum + (numT (t : Int) :: row.map vT).length ≤ 1000000 := by
  have ha : All2 Wd (numT (t : Int) :: row.map vT) (.int (t : Int) :: row) := .cons (wd_nat t (by have := h.tm; omega)) (all2_wd h.row)
  have hm := all2_wmem ha
  have := sum_le (B := 12) fun w hw => by obtain ⟨d, hd⟩ := hm w hw; exact hd.len
  have hl := h.row.len
  simp only [List.length_cons, List.length_map] at this ⊢
  omega
theorem fmt_loop {sc : List (D × Bool)} {a0 a1 : Option D} (hs : sc.length ≤ 4) : ∀ (es : List Ev) (lines : List (List Nat)) (x3 x4 x5 : Option D), (∀ p ∈ es, EvOk sc p.1 p.2) → lines.length + es.length ≤ 1000 →
    ∃ y3 y4 y5, mForL (gT 2 (gCons' (gN 3) (gCons' (gN 4) gNil'))) Bd_format_events_2 (es.map eE) [a0, a1, some (.list (lines.map T)), x3, x4, x5] = (ret (.nx [a0, a1, some (.list ((lines ++ es.map lineT).map T)), y3, y4, y5]) : M Dr O)
  | [], lines, x3, x4, x5, _, _ => ⟨x3, x4, x5, by simp⟩
  | p :: es, lines, x3, x4, x5, h, hl => by
    have hp := h p List.mem_cons_self
    simp only [List.length_cons] at hl
    obtain ⟨y3, y4, y5, ih⟩ := fmt_loop (a0 := a0) (a1 := a1) hs es (lines ++ [lineT p]) (some (.int (p.1 : Int))) (some (.tuple p.2)) x5 (fun q hq => h q (List.mem_cons_of_mem _ hq)) (by simp; omega)
    refine ⟨y3, y4, y5, ?_⟩
    have hf : lines.length < 1000000 := by omega
    have htm := hp.tm
    have e1 := t_strI (log_small (n := (p.1 : Int)) (by omega) (by omega))
    have e2 := lc_fv (a0 := a0) (a1 := a1) (a2 := some (.list (lines.map T))) (a3 := some (.int (p.1 : Int))) (a4 := some (.tuple p.2)) hp.row
    have hrl := hp.row.len
    have l1 : p.2.length ≤ 1000000 := by omega
    have l2 : 1 + p.2.length ≤ 1000000 := by omega
    have e3 := tj_sp (words_sum hp hs)
    have hb := body_ok hp hs
    have l3 : (bodyT p.1 p.2).length ≤ 999999 := by omega
    have e4 : (numT (p.1 : Int) :: p.2.map vT).map T = T (numT (p.1 : Int)) :: p.2.map fun d => T (vT d) := by rw [List.map_cons, List.map_map]; rfl
    rw [e4] at e3
    have e5 : TL.joinL [32] (numT (p.1 : Int) :: p.2.map vT) = bodyT p.1 p.2 := rfl
    rw [e5] at e3
    rw [List.map_cons, x_ForCons]
    have e6 : (lines ++ [lineT p] ++ es.map lineT) = lines ++ (p :: es).map lineT := by simp
    rw [e6] at ih
    rw [List.map_append, List.map_cons, List.map_nil] at ih
    generalize mForL (gT 2 (gCons' (gN 3) (gCons' (gN 4) gNil'))) Bd_format_events_2 (es.map eE) = KK at ih ⊢
    generalize ((lines ++ (p :: es).map lineT).map T) = FF at ih ⊢
    have e7 : ([T (numT (p.1 : Int))] ++ p.2.map fun d => T (vT d)) = T (numT (p.1 : Int)) :: p.2.map fun d => T (vT d) := rfl
    have e8 : lineT p = bodyT p.1 p.2 ++ [10] := rfl
    rw [e8] at ih
    have hvs : (p.2.map fun d => T (vT d)).length = p.2.length := List.length_map _
    generalize (p.2.map fun d => T (vT d)) = vs at e2 e3 e7 hvs
    have l4 : vs.length ≤ 1000000 := by omega
    have l5 : 1 + vs.length ≤ 1000000 := by omega
    have l6 : vs.length ≤ 999999 := by omega
    simp [eE, evD, Bd_format_events_2, e1, e2, e3, s_nl, hf, l1, l3, l4, l5, l6, ih]
end K02

namespace K02
open PySem L2 B
def textL (es : List Ev) : List Nat := TL.joinL [] (es.map lineT)
theorem line_len {sc : List (D × Bool)} {p : Ev} (h : EvOk sc p.1 p.2) (hs : sc.length ≤ 4) : (lineT p).length ≤ 66 := by
  have := (body_ok h hs).1
  unfold lineT
  rw [List.length_append, List.length_singleton]
  omega
theorem text_cons (p : Ev) (es : List Ev) : textL (p :: es) = bodyT p.1 p.2 ++ (10 :: textL es) := by
  unfold textL
  rw [List.map_cons, join_nil_cons]
  unfold lineT
  rw [List.append_assoc]
  rfl
theorem text_ok {sc : List (D × Bool)} (hs : sc.length ≤ 4) : ∀ {es : List Ev}, (∀ p ∈ es, EvOk sc p.1 p.2) → (textL es).length ≤ es.length * 66 ∧ Lt (textL es)
  | [], _ => ⟨by simp [textL, TL.joinL], lt_nil⟩
  | p :: es, h => by
    obtain ⟨i1, i2⟩ := text_ok hs fun q hq => h q (List.mem_cons_of_mem _ hq)
    obtain ⟨b1, b2, b3⟩ := body_ok (h p List.mem_cons_self) hs
    rw [text_cons, List.length_append, List.length_cons, List.length_cons, Nat.add_mul]
    refine ⟨by omega, b2.app fun c hc => ?_⟩
    rcases List.mem_cons.mp hc with rfl | hc
    · decide
    · exact i2 c hc
theorem lns_text {sc : List (D × Bool)} (hs : sc.length ≤ 4) : ∀ {es : List Ev}, (∀ p ∈ es, EvOk sc p.1 p.2) → lns (textL es) = es.map (fun p => bodyT p.1 p.2) ++ [[]]
  | [], _ => rfl
  | p :: es, h => by
    have ih := lns_text hs fun q hq => h q (List.mem_cons_of_mem _ hq)
    obtain ⟨b1, b2, b3⟩ := body_ok (h p List.mem_cons_self) hs
    rw [text_cons]
    unfold lns at ih ⊢
    have := TL.spl_part1 (s := 10) (S := []) (p := bodyT p.1 p.2) (rest := textL es) (acc := []) b3
    rw [List.nil_append] at this
    refine this.trans ?_
    rw [ih]
    rfl
theorem pLoop_ok {sc : List (D × Bool)} (hne : sc ≠ []) : ∀ (es : List Ev) (k : Nat) (found : List D), (∀ p ∈ es, EvOk sc p.1 p.2) → pLoop sc k (es.map fun p => bodyT p.1 p.2) found = .ok (found ++ es.map eE)
  | [], k, found, _ => by rw [List.map_nil, List.map_nil, List.append_nil]; rfl
  | p :: es, k, found, h => by
    rw [List.map_cons, pLoop_cons, ev_of (h p List.mem_cons_self) hne]
    dsimp only
    rw [pLoop_ok hne es (k + 1) _ fun q hq => h q (List.mem_cons_of_mem _ hq)]
    rw [List.map_cons, List.append_assoc]
    rfl
theorem due_text {sc : List (D × Bool)} (hs : sc.length ≤ 4) (hne : sc ≠ []) {es : List Ev} (h : ∀ p ∈ es, EvOk sc p.1 p.2) : due sc (textL es) = .ok (es.map eE) := by
  unfold due
  rw [lns_text hs h]
  have e1 : ((es.map fun p : Ev => bodyT p.1 p.2) ++ [[]]).dropLast = es.map fun p : Ev => bodyT p.1 p.2 := List.dropLast_concat
  have e2 : ((es.map fun p : Ev => bodyT p.1 p.2) ++ [[]]).getLastD [] = [] := by
    rw [List.getLastD_eq_getLast?, List.getLast?_append]
    rfl
  rw [e1, e2, pLoop_ok hne es 0 [] h]
  rfl
theorem format_events_of {sc : List (D × Bool)} (hs : sc.length ≤ 4) {es : List Ev} (h : ∀ p ∈ es, EvOk sc p.1 p.2) (hl : es.length ≤ 100) : F_format_events [scD sc, .list (es.map eE)] = (ret (T (textL es)) : M Dr D) := by
  obtain ⟨y3, y4, y5, e⟩ := fmt_loop (a0 := some (scD sc)) (a1 := some (.list (es.map eE))) hs es [] none none none h (by simp; omega)
  rw [List.nil_append] at e
  have hsum := sum_le (B := 66) (ws := es.map lineT) fun w hw => by
    obtain ⟨p, hp, rfl⟩ := List.mem_map.mp hw
    exact line_len (h p hp) hs
  rw [List.length_map] at hsum
  have e2 := tj_em (ws := es.map lineT) (by omega)
  rw [F_format_events, x_Fn, show (startR 6 [scD sc, .list (es.map eE)] : Rho) = [some (scD sc), some (.list (es.map eE)), none, none, none, none] from rfl]
  unfold B_format_events
  rw [x_Seq, show mAsg 2 (mLst mNil) [some (scD sc), some (.list (es.map eE)), none, none, none, none] = (ret (.nx [some (scD sc), some (.list (es.map eE)), some (.list ([].map T)), none, none, none]) : M Dr O) by simp, bnd_ret, x_goNx]
  rw [x_Seq, x_For, show srcL (mVar 1) [some (scD sc), some (.list (es.map eE)), some (.list ([].map T)), none, none, none] = (ret (es.map eE) : M Dr (List D)) by simp, bnd_ret, e, bnd_ret, x_goNx, x_Ret, x_Join, x_Var]
  show bnd (bnd (bnd (ret (.list ((es.map lineT).map T))) (jnD "")) _) _ = _
  rw [bnd_ret, e2]
  rfl
theorem line_loop {a0 : Option D} : ∀ (row : List D) (parts : List (List Nat)) (x2 : Option D), (∀ d ∈ row, ∃ b, VD b d) → parts.length + row.length ≤ 1000 →
    ∃ y2, mForL (gN 2) Bd__law_line_1 row [a0, some (.list (parts.map T)), x2] = (ret (.nx [a0, some (.list ((parts ++ row.map vT).map T)), y2]) : M Dr O)
  | [], parts, x2, _, _ => ⟨x2, by simp⟩
  | d :: row, parts, x2, h, hl => by
    simp only [List.length_cons] at hl
    obtain ⟨y2, ih⟩ := line_loop (a0 := a0) row (parts ++ [vT d]) (some d) (fun q hq => h q (List.mem_cons_of_mem _ hq)) (by simp; omega)
    refine ⟨y2, ?_⟩
    have hf : parts.length < 1000000 := by omega
    have e6 : (parts ++ [vT d] ++ row.map vT) = parts ++ (d :: row).map vT := by simp
    rw [e6] at ih
    rw [List.map_append, List.map_cons, List.map_nil] at ih
    rw [x_ForCons]
    generalize mForL (gN 2) Bd__law_line_1 row = KK at ih ⊢
    generalize ((parts ++ (d :: row).map vT).map T) = FF at ih ⊢
    obtain ⟨b, hb⟩ := h d List.mem_cons_self
    rcases hb with ⟨rfl, l, hl2, rfl⟩ | ⟨rfl, n, rfl, h1, h2⟩
    · have : l.length ≤ 10 := (show ∀ l ∈ txs, l.length ≤ 10 by decide +kernel) l hl2
      have h1 : 1 + l.length ≤ 1000000 := by omega
      rw [vT_T] at ih
      simp [Bd__law_line_1, s_quo, show l.length ≤ 999998 by omega, h1, hf] at ih ⊢
      exact ih
    · simp only [vT] at ih
      simp [Bd__law_line_1, t_strX (log_small (n := n) (by omega) (by omega)), hf, ih]
theorem law_line_of {sc : List (D × Bool)} (hs : sc.length ≤ 4) {p : Ev} (h : EvOk sc p.1 p.2) : F__law_line [eE p] = (ret (T (lineT p)) : M Dr D) := by
  have htm := h.tm
  have hrl := h.row.len
  obtain ⟨y2, e⟩ := line_loop (a0 := some (eE p)) p.2 [numT (p.1 : Int)] none (fun d hd => by obtain ⟨q, hq⟩ := all2_mem h.row d hd; exact ⟨_, hq⟩) (by simp; omega)
  have e1 := t_strI (log_small (n := (p.1 : Int)) (by omega) (by omega))
  have e3 := tj_sp (words_sum h hs)
  have e5 : TL.joinL [32] (numT (p.1 : Int) :: p.2.map vT) = bodyT p.1 p.2 := rfl
  rw [e5] at e3
  have hb := (body_ok h hs).1
  have l3 : (bodyT p.1 p.2).length ≤ 999999 := by omega
  rw [F__law_line, x_Fn, show (startR 3 [eE p] : Rho) = [some (eE p), none, none] from rfl]
  unfold B__law_line
  rw [x_Seq, show mAsg 1 (mLst (mCons (mCB gStrI (mCons (mOp gIxT (mVar 0) (mC (.int 0))) mNil)) mNil)) [some (eE p), none, none] = (ret (.nx [some (eE p), some (.list ([numT (p.1 : Int)].map T)), none]) : M Dr O) by simp [eE, evD, e1], bnd_ret, x_goNx]
  rw [x_Seq, x_For, show srcT (mOp gIxT (mVar 0) (mC (.int 1))) [some (eE p), some (.list ([numT (p.1 : Int)].map T)), none] = (ret p.2 : M Dr (List D)) by simp [eE, evD], bnd_ret, e, bnd_ret, x_goNx]
  have e7 : ([numT (p.1 : Int)] ++ p.2.map vT) = numT (p.1 : Int) :: p.2.map vT := rfl
  rw [e7]
  generalize ((numT (p.1 : Int) :: p.2.map vT).map T) = vs at e3
  simp [e3, s_nl, l3, lineT]
end K02

namespace K02
open PySem L2 B
theorem pick_tot {xs : List D} (h0 : xs ≠ []) (h1 : xs.length ≤ 1000) : Tot (F__law_pick [.none, .list xs]) fun z => z ∈ xs := by
  have hp : 0 < xs.length := List.length_pos_iff.mpr h0
  simp [F__law_pick, B__law_pick]
  refine (tot_take (by omega) (by omega)).bnd ?_
  rintro _ ⟨n, rfl, n0, n1⟩
  have e : atI xs n = some (xs[n.toNat]'(by omega)) := atI_of (by omega) (by omega)
  simp [e]
  exact Tot.ret (List.getElem_mem _)

theorem kS_inj {a b : Bool} (h : kS a = kS b) : a = b := by
  have e := kS_eq a b
  rw [h, kS_eq b b] at e
  cases a <;> cases b <;> first | rfl | (exfalso; simp at e)
/-! ### fields -/
def fI (i : Nat) (ρ : Rho) : Prop := ∃ (sc : List (D × Bool)) (x : Option D), sc.length = i ∧ ρ = [some .none, some (.list (sc.map fE)), x]
theorem q_names : (.list [.str "a", .str "b", .str "x"] : D) = .list [T [97], T [98], T [120]] := rfl
theorem q_kinds : (.list [.str "int", .str "text"] : D) = .list [kS false, kS true] := rfl
theorem fields_tot : Tot (F__law_fields [.none]) fun z => ∃ sc : List (D × Bool), z = scD sc ∧ 1 ≤ sc.length ∧ sc.length ≤ 4 := by
  simp [F__law_fields, B__law_fields]
  refine (tot_take (by decide) (by decide)).bnd ?_
  rintro _ ⟨n, rfl, n0, n1⟩
  simp [rng1_of (j := 1 + n) (by omega) (by omega)]
  refine (tot_for (I := fI) ⟨[], none, rfl, rfl⟩ ?_).bnd ?_
  · rintro i d ρ hi ⟨sc, x, hsc, rfl⟩
    obtain ⟨hlt, rfl⟩ := intsFrom_get hi
    have hn4 : (1 + n).toNat ≤ 4 := by omega
    have hl : sc.length < 1000000 := by omega
    have e1 := t_strI (log_small (n := 0 + (i : Int)) (by omega) (by omega))
    have e2 := (wd_nat i (by omega)).len
    rw [show ((i : Nat) : Int) = 0 + (i : Int) by omega] at e2
    simp only [Int.zero_add] at e1 e2
    simp [q_names, q_kinds]
    refine (pick_tot (by simp) (by simp)).bnd ?_
    intro z1 hz1
    obtain ⟨nm, rfl, hnm⟩ : ∃ nm, z1 = T nm ∧ nm.length = 1 := by
      simp at hz1
      rcases hz1 with rfl | rfl | rfl <;> exact ⟨_, rfl, rfl⟩
    have l1 : 1 + (numT (i : Int)).length ≤ 1000000 := by omega
    have l2 : nm.length + (numT (i : Int)).length ≤ 1000000 := by omega
    simp [e1, l2]
    refine (pick_tot (by simp) (by simp)).bnd ?_
    intro z2 hz2
    obtain ⟨b, rfl⟩ : ∃ b, z2 = kS b := by
      simp at hz2
      rcases hz2 with rfl | rfl <;> exact ⟨_, rfl⟩
    simp [hl]
    exact Tot.ret ⟨sc ++ [(T (nm ++ numT (i : Int)), b)], some (.int (i : Int)), by simp [hsc], by simp [fE]⟩
  · rintro _ ⟨ρ, rfl, sc, x, hsc, rfl⟩
    rw [intsFrom_len] at hsc
    simp
    exact Tot.ret ⟨sc, rfl, by omega, by omega⟩
/-! ### events -/
def PV (x z : D) : Prop := ∃ (b : Bool) (nm : D), x = fE (nm, b) ∧ VD b z
theorem all2_PV : ∀ {sc : List (D × Bool)} {row : List D}, All2 PV (sc.map fE) row → All2 (fun p d => VD p.2 d) sc row
  | [], _, h => by cases h; exact .nil
  | p :: sc, _, h => by
    cases h with
    | cons h r =>
      obtain ⟨b, nm, e, hv⟩ := h
      have : p.2 = b := by
        unfold fE at e
        injection e with e
        injection e with e1 e2
        injection e2 with e2 _
        exact kS_inj e2
      exact .cons (by rw [this]; exact hv) (all2_PV r)
theorem q_texts : (.list [.str "a", .str "b", .str "c d"] : D) = .list [T [97], T [98], T [99, 32, 100]] := rfl
theorem q_text (b : Bool) : gEq (kS b) (.str "text") = some (.bool b) := by
  have := kS_eq b true
  cases b <;> exact this
theorem val_tot {a1 a2 a3 a4 a5 a6 : Option D} {nm : D} {b : Bool} : Tot (Be__law_events_1 [some .none, a1, a2, a3, a4, a5, a6, some nm, some (kS b)]) (VD b) := by
  simp [Be__law_events_1, q_text]
  cases b with
  | true =>
    simp [q_texts]
    refine (pick_tot (by simp) (by simp)).mono ?_
    intro z hz
    refine .inl ⟨rfl, ?_⟩
    simp at hz
    rcases hz with rfl | rfl | rfl
    · exact ⟨_, by decide, rfl⟩
    · exact ⟨_, by decide, rfl⟩
    · exact ⟨_, by decide, rfl⟩
  | false =>
    simp
    refine (tot_take (by decide) (by decide)).bnd ?_
    rintro _ ⟨n, rfl, n0, n1⟩
    simp
    exact Tot.ret (.inr ⟨rfl, _, rfl, by omega, by omega⟩)
def eI (sc : List (D × Bool)) (i : Nat) (ρ : Rho) : Prop := ∃ (es : List Ev) (x5 x6 x7 x8 : Option D), es.length = i ∧ (∀ p ∈ es, EvOk sc p.1 p.2) ∧ ρ = [some .none, some (scD sc), some (.int 6), some (.int 1000001), some (.list (es.map eE)), x5, x6, x7, x8]
theorem events_tot {sc : List (D × Bool)} (hs : sc.length ≤ 4) : Tot (F__law_events [.none, scD sc, .int 6, .int 1000001]) fun z => ∃ es : List Ev, z = .list (es.map eE) ∧ es.length ≤ 6 ∧ ∀ p ∈ es, EvOk sc p.1 p.2 := by
  simp [F__law_events, B__law_events]
  refine (tot_take (by decide) (by decide)).bnd ?_
  rintro _ ⟨n, rfl, n0, n1⟩
  simp [rng1_of (j := n) (by omega) (by omega)]
  refine (tot_for (I := eI sc) ⟨[], none, none, none, none, rfl, by simp, rfl⟩ ?_).bnd ?_
  · rintro i d ρ hi ⟨es, x5, x6, x7, x8, hes, hok, rfl⟩
    obtain ⟨hlt, rfl⟩ := intsFrom_get hi
    have hl : es.length < 1000000 := by omega
    have hz : sc.length ≤ 1000000 := by omega
    simp only [scD]
    simp [hz]
    refine (tot_lcY (P := PV) fun x hx => ?_).bnd ?_
    · obtain ⟨p, _, rfl⟩ := List.mem_map.mp hx
      refine ⟨_, rfl, ?_⟩
      exact val_tot.mono fun z hz => ⟨p.2, p.1, rfl, hz⟩
    · intro row hrow
      have hr := all2_PV hrow
      simp
      refine (tot_take (by decide) (by decide)).bnd ?_
      rintro _ ⟨t, rfl, t0, t1⟩
      simp [hl]
      obtain ⟨k, rfl⟩ := Int.eq_ofNat_of_zero_le t0
      refine Tot.ret ⟨es ++ [(k, row)], _, _, _, _, by simp [hes], fun p hp => ?_, by simp [eE, evD, scD]; exact ⟨rfl, rfl, rfl, rfl⟩⟩
      rcases List.mem_append.mp hp with hp | hp
      · exact hok p hp
      · rw [List.mem_singleton.mp hp]
        exact ⟨by show k ≤ 1000000; omega, hr⟩
  · rintro _ ⟨ρ, rfl, es, x5, x6, x7, x8, hes, hok, rfl⟩
    rw [intsFrom_len] at hes
    simp
    exact Tot.ret ⟨es, rfl, by omega, fun a b h => hok (a, b) h⟩
/-! ### the answers' shape -/
theorem ev_sh {sc : List (D × Bool)} {l : List Nat} {e : D} (h : ev sc l = .ok e) : Sh 2 e := by
  unfold ev at h
  cases q : mapO lrd (cutGo l [] false) with
  | none => rw [q] at h; cases h
  | some vs =>
    rw [q] at h
    have hv := (mapO_ok q).1
    cases q2 : evV (some vs) with
    | none => rw [q2] at h; cases h
    | some p =>
      obtain ⟨t, row⟩ := p
      rw [q2] at h
      dsimp only at h
      have hr : ∀ v ∈ row, VOk v := by
        match vs, hv, q2 with
        | .int t' :: a :: r, hv, q2 =>
          cases q2
          exact fun v hm => hv v (List.mem_cons_of_mem _ hm)
      split at h
      · split at h
        · cases h
          refine sh_tup fun x hx => ?_
          simp at hx
          rcases hx with rfl | rfl
          · exact (sh_int _).le (by decide)
          · exact sh_tup fun v hm => sh_v (hr v hm)
        · cases h
      · cases h
theorem ev_no {sc : List (D × Bool)} {l : List Nat} {c : Str} (h : ev sc l = .no c) : PyData.strOk c = true := by
  unfold ev at h
  split at h
  · cases h; decide +kernel
  · split at h
    · split at h
      · cases h
      · cases h; decide +kernel
    · cases h; decide +kernel
theorem pLoop_sh {sc : List (D × Bool)} : ∀ (ls : List (List Nat)) (k : Nat) (found : List D), (∀ e ∈ found, Sh 2 e) → (∀ es, pLoop sc k ls found = .ok es → ∀ e ∈ es, Sh 2 e) ∧ ∀ j c, pLoop sc k ls found = .no j c → PyData.strOk c = true
  | [], k, found, h => ⟨fun es he => (by cases he; exact h), fun j c he => (by cases he)⟩
  | l :: ls, k, found, h => by
    rw [pLoop_cons]
    cases q : ev sc l with
    | no c => exact ⟨fun es he => (by cases he), fun j c he => (by cases he; exact ev_no q)⟩
    | ok e =>
      exact pLoop_sh ls (k + 1) (found ++ [e]) fun x hx => by
        rcases List.mem_append.mp hx with hx | hx
        · exact h x hx
        · rw [List.mem_singleton.mp hx]; exact ev_sh q
theorem due_sh {sc : List (D × Bool)} {text : List Nat} : Sh 3 (prD (due sc text)) := by
  have no : ∀ (k : Nat) (c : Str), PyData.strOk c = true → Sh 3 (prD (.no k c)) := fun k c hc => (sh_tup (n := 0) fun x hx => by
    simp at hx
    rcases hx with rfl | rfl
    · exact sh_str hc
    · exact sh_int _).le (by decide)
  obtain ⟨h1, h2⟩ := pLoop_sh (sc := sc) (lns text).dropLast 0 [] (fun _ h => by cases h)
  unfold due
  cases q : pLoop sc 0 (lns text).dropLast [] with
  | no k c => exact no k c (h2 k c q)
  | ok es =>
    unfold lastO
    dsimp only
    split
    · exact sh_list fun e he => h1 es q e he
    · exact no _ _ (by decide +kernel)
/-! ### the law -/
def sgL : List Nat := (Str.ofString "0123456789 -\"aZ#\n").cps.toList
theorem s_sg : (PyData.str "0123456789 -\"aZ#\n" : D) = T sgL := T_of _
theorem sg_len : sgL.length = 17 := by decide +kernel
theorem sg_lt : ∀ c ∈ sgL, c < 256 := by decide +kernel
def x21 : List Nat := List.replicate 21 120
def x24 : List Nat := 55 :: 32 :: 34 :: x21
def x26 : List Nat := x24 ++ [34, 10]
theorem r_x : gRepS (.str "x") (.int 21) = some (T x21) := by kernel_rfl
theorem r_7 : gAddS (.str "7 \"") (T x21) = some (T x24) := by kernel_rfl
theorem r_8 : gAddS (T x24) (.str "\"\n") = some (T x26) := by kernel_rfl
theorem lt_of {l : List Nat} (h : l.all (fun c => decide (c < 256)) = true) : Lt l := by
  rw [List.all_eq_true] at h
  exact fun c hc => of_decide_eq_true (h c hc)
theorem extra_ok {z : D} (h : z ∈ ([.str "1000001 1\n", .str "5\n", .str "-1 2\n", .str "05 1\n", .str "\n", T x26, .str "7 12345678901\n", .str "\"a\" 1\n"] : List D)) : ∃ l, z = T l ∧ l.length ≤ 40 ∧ Lt l := by
  simp only [List.mem_cons, List.not_mem_nil, or_false] at h
  rcases h with rfl | rfl | rfl | rfl | rfl | rfl | rfl | rfl
  · exact ⟨_, T_of _, by decide +kernel, lt_of (by decide +kernel)⟩
  · exact ⟨_, T_of _, by decide +kernel, lt_of (by decide +kernel)⟩
  · exact ⟨_, T_of _, by decide +kernel, lt_of (by decide +kernel)⟩
  · exact ⟨_, T_of _, by decide +kernel, lt_of (by decide +kernel)⟩
  · exact ⟨_, T_of _, by decide +kernel, lt_of (by decide +kernel)⟩
  · exact ⟨_, rfl, by decide +kernel, lt_of (by decide +kernel)⟩
  · exact ⟨_, T_of _, by decide +kernel, lt_of (by decide +kernel)⟩
  · exact ⟨_, T_of _, by decide +kernel, lt_of (by decide +kernel)⟩
def lI (sc : List (D × Bool)) (es : List Ev) (_i : Nat) (ρ : Rho) : Prop := ∃ x5 x6 x7 x8 x9 x10 : Option D, ρ = [none, some .none, some (scD sc), some (.list (es.map eE)), some (T (textL es)), x5, x6, x7, x8, x9, x10]
theorem turn_tot {sc : List (D × Bool)} {es : List Ev} {tx : List Nat} {x5 x6 x7 x8 x9 x10 : Option D} (hs : sc.length ≤ 4) (hl : tx.length ≤ 1000) (ht : Lt tx) :
    Tot (Bd_law_2 [none, some .none, some (scD sc), some (.list (es.map eE)), some (T tx), x5, x6, x7, x8, x9, x10]) fun o => ∃ y6 y7 y8 y9, o = .nx [none, some .none, some (scD sc), some (.list (es.map eE)), some (T tx), x5, y6, y7, y8, y9, x10] := by
  have l1 : tx.length ≤ 1000000 := by omega
  simp [Bd_law_2, l1, r_x, r_7, r_8, -o_AddS, -o_RepS]
  refine (tot_take (by omega) (by omega)).bnd ?_
  rintro _ ⟨n, rfl, n0, n1⟩
  obtain ⟨i, rfl⟩ := Int.eq_ofNat_of_zero_le n0
  simp [s_sg, -o_AddS, -o_RepS]
  refine (tot_take (by decide) (by decide)).bnd ?_
  rintro _ ⟨m, rfl, m0, m1⟩
  have hsg : atI sgL m = some (sgL[m.toNat]'(by rw [sg_len]; omega)) := atI_of (by omega) (by rw [sg_len]; omega)
  have hc := sg_lt _ (List.getElem_mem (l := sgL) (n := m.toNat) (by rw [sg_len]; omega))
  generalize (sgL[m.toNat]'(by rw [sg_len]; omega)) = c at hsg hc
  obtain ⟨p, hA, hAl, hAt⟩ : ∃ p, cutL tx none (some (i : Int)) = p ∧ p.length ≤ 1000 ∧ Lt p := ⟨_, cut_to tx i, by rw [List.length_take]; omega, ht.take⟩
  obtain ⟨q, hB, hBl, hBt⟩ : ∃ p, cutL tx (some ((i : Int) + 1)) none = p ∧ p.length ≤ 1000 ∧ Lt p := ⟨_, cut_from tx (i + 1), by rw [List.length_drop]; omega, ht.drop⟩
  obtain ⟨r, hC, hCl, hCt⟩ : ∃ p, cutL tx (some (i : Int)) none = p ∧ p.length ≤ 1000 ∧ Lt p := ⟨_, cut_from tx i, by rw [List.length_drop]; omega, ht.drop⟩
  obtain ⟨v, hD, hDl, hDt⟩ : ∃ p, cutL tx none (some (-1)) = p ∧ p.length ≤ 1000 ∧ Lt p := ⟨_, cut_butlast tx, by rw [List.length_dropLast]; omega, ht.sub fun _ h => List.dropLast_subset _ h⟩
  have hct : Lt [c] := fun x hx => by simp at hx; omega
  simp [hsg, sg_len, hA, hB, hC, hD, -o_AddS, -o_RepS]
  refine (pick_tot (by simp) (by simp)).bnd ?_
  intro ex hex
  obtain ⟨ex, rfl, exl, ext⟩ := extra_ok hex
  have c1 : p.length + q.length ≤ 1000000 := by omega
  have c2 : p.length ≤ 999999 := by omega
  have c3 : p.length + (r.length + 1) ≤ 1000000 := by omega
  have c4 : p.length + (q.length + 1) ≤ 1000000 := by omega
  have c5 : tx.length + ex.length ≤ 1000000 := by omega
  have c6 : tx.length + v.length ≤ 1000000 := by omega
  have c7 : p.length + 1 + r.length ≤ 1000000 := by omega
  have c8 : p.length + 1 + q.length ≤ 1000000 := by omega
  simp [c1, c2, c5, c6, c7, c8, -o_AddS, -o_RepS]
  refine (pick_tot (by simp) (by simp)).bnd ?_
  intro bt hbt
  obtain ⟨b, rfl, bl, blt⟩ : ∃ b, bt = T b ∧ b.length ≤ 90000 ∧ Lt b := by
    simp only [List.mem_cons, List.not_mem_nil, or_false] at hbt
    rcases hbt with rfl | rfl | rfl | rfl | rfl
    · exact ⟨_, rfl, by simp; omega, hAt.app hBt⟩
    · refine ⟨_, rfl, ?_, ?_⟩
      · simp; omega
      · intro x hx
        simp at hx
        rcases hx with h | h | h
        · exact hAt x h
        · omega
        · exact hCt x h
    · refine ⟨_, rfl, ?_, ?_⟩
      · simp; omega
      · intro x hx
        simp at hx
        rcases hx with h | h | h
        · exact hAt x h
        · omega
        · exact hBt x h
    · exact ⟨_, rfl, by simp; omega, ht.app ext⟩
    · exact ⟨_, rfl, by simp; omega, ht.app hDt⟩
  have e1 := law_told_of (sc := sc) (text := b) (by omega) bl blt
  have e2 := law_due_of (sc := sc) (text := b) (by omega) bl blt
  have e3 := o_NeSame (due_sh (sc := sc) (text := b))
  simp [e1, e2, e3]
  exact Tot.ret ⟨_, _, _, _, rfl⟩
theorem law_true : ∀ st : Dr, ∃ st', B_law (drRho 11) st = .ok (.rt (.bool true)) st' := by
  have key : Tot (B_law (drRho 11)) fun o => o = .rt (.bool true) := by
    unfold B_law
    rw [show drRho 11 = [none, some .none, none, none, none, none, none, none, none, none, none] from rfl]
    simp
    refine fields_tot.bnd ?_
    rintro _ ⟨sc, rfl, s1, s2⟩
    simp
    refine (events_tot s2).bnd ?_
    rintro _ ⟨es, rfl, el, hes⟩
    have hne : sc ≠ [] := fun z => by rw [z] at s1; simp at s1
    obtain ⟨t1, t2⟩ := text_ok s2 hes
    have lc : mLcL (gN 10) mYes Be_law_1 [none, some .none, some (scD sc), some (.list (es.map eE)), none, none, none, none, none, none, none] (es.map eE) = (ret (es.map fun p => T (lineT p)) : M Dr (List D)) :=
      pu_lcM (enc := eE) (h := fun p => T (lineT p)) fun p hp => by
        have := law_line_of s2 (hes p hp)
        simp [Be_law_1, this]
    have hsum := sum_le (B := 66) (ws := es.map lineT) fun w hw => by
      obtain ⟨p, hp, rfl⟩ := List.mem_map.mp hw
      exact line_len (hes p hp) s2
    rw [List.length_map] at hsum
    have e2 := tj_em (ws := es.map lineT) (by omega)
    rw [List.map_map] at e2
    have e2' : (jnD "" (.list (es.map fun p => T (lineT p))) : M Dr D) = ret (T (textL es)) := e2
    have hel : es.length ≤ 1000000 := by omega
    have hf := format_events_of s2 hes (by omega)
    have ht := law_told_of (sc := sc) (text := textL es) (by omega) (by omega) t2
    rw [due_text s2 hne hes] at ht
    have hq := t_ne t2 t2
    have hsh := due_sh (sc := sc) (text := textL es)
    rw [due_text s2 hne hes] at hsh
    have hq2 := o_NeSame hsh
    simp only [prD] at ht hq2
    generalize (es.map fun p => T (lineT p)) = LL at lc e2'
    simp [hel, lc, e2', hf, ht, hq, hq2, rng1_of (j := 8) (by omega) (by omega)]
    refine (tot_for (I := lI sc es) ⟨none, none, none, none, none, none, rfl⟩ ?_).bnd ?_
    · rintro i d ρ hi ⟨x5, x6, x7, x8, x9, x10, rfl⟩
      rw [x_gN, lift_some, bnd_ret]
      refine (turn_tot s2 (by omega) t2).mono ?_
      rintro _ ⟨y6, y7, y8, y9, rfl⟩
      exact ⟨_, _, _, _, _, _, rfl⟩
    · rintro _ ⟨ρ, rfl, x5, x6, x7, x8, x9, x10, rfl⟩
      simp
      exact Tot.ret rfl
  intro st
  obtain ⟨z, st', e, rfl⟩ := key st
  exact ⟨st', e⟩
end K02

open PySem PySem.W PyProof.Rows
set_option maxRecDepth 100000 in
set_option maxHeartbeats 0 in
theorem PySem.Challenge.cw_latewater_k02_texts_of_events_holds : PySem.Challenge.rw_latewater_k02_texts_of_events.Holds := by
  w_on; o_law; k_head; (case hw => w_witness2)
  k_fill
  refine L2.walk_of (l := PySem.Challenge.rw_latewater_k02_texts_of_events) (n := 63) (k := 8) (x := "script") (CX := fun _ => L2.CX0) (sp := fun w => B.spLaw _) rfl (by decide) rfl ⟨rfl, by decide, by decide⟩ (fun w h Y => PySem.W.kIn_of Y) ?F (fun _ _ a ns hl _ hS => ⟨a, ns, rfl, hS, hl, fun _ => rfl⟩) (fun _ _ _ _ _ h => h)
  case F =>
    intro w mg fa h KX G hmg
    refine B.law_end hmg (K02.all_ok ?T K02.law_true)
    case T =>
      refine' K02.top_mk KX G ?a1 ?l1 ?c1 ?k1 ?a2 ?l2 ?c2 ?k2 ?a3 ?l3 ?c3 ?k3 ?a4 ?l4 ?c4 ?k4 ?a5 ?l5 ?c5 ?k5 ?a6 ?l6 ?c6 ?k6 ?a7 ?l7 ?c7 ?k7 ?a8 ?l8 ?c8 ?k8 ?a9 ?l9 ?c9 ?k9 ?a10 ?l10 ?c10 ?k10 ?a11 ?l11 ?c11 ?k11 ?a12 ?l12 ?c12 ?k12 ?a13 ?l13 ?c13 ?k13 ?a14 ?l14 ?c14 ?k14 ?a15 ?l15 ?c15 ?k15 ?a16 ?l16 ?c16 ?k16 ?a17 ?l17 ?c17 ?k17 ?a18 ?l18 ?c18 ?k18 ?a19 ?l19 ?c19 ?k19 ?a20 ?l20 ?c20 ?k20 ?a21 ?l21 ?c21 ?k21 ?a22 ?l22 ?c22 ?k22 ?a23 ?l23 ?c23 ?k23 ?a24 ?l24 ?c24 ?k24 ?a25 ?l25 ?c25 ?k25 ?z_abs ?z_all ?z_any ?z_bool ?z_enumerate ?z_int ?z_isinstance ?z_len ?z_list ?z_range ?z_str ?z_tuple ?z_zip ?opq ?nos ?htop ?aE_StreamError ?xE_StreamError ?bE_StreamError ?saE_StreamError ?gaE_StreamError ?ggE_StreamError ?noE_StreamError ?kcE_StreamError ?exE_StreamError ?veE_StreamError ?seE_StreamError ?tyE_StreamError ?hdE_StreamError ?suE_StreamError ?iE_StreamError ?tiE_StreamError ?lE_StreamError ?cE_StreamError ?dE_StreamError ?vE_StreamError ?fE_StreamError ?gE_StreamError ?hcE_StreamError ?icE_StreamError ?aE_EventError ?xE_EventError ?bE_EventError ?saE_EventError ?gaE_EventError ?ggE_EventError ?noE_EventError ?nwE_EventError ?kcE_EventError ?exE_EventError ?veE_EventError ?seE_EventError ?tyE_EventError ?hdE_EventError ?suE_EventError ?iE_EventError ?tiE_EventError ?lE_EventError ?cE_EventError ?dE_EventError ?vE_EventError ?fE_EventError ?gE_EventError ?hcE_EventError ?icE_EventError ?sE_StreamError_EventError ?sE_EventError_EventError ?sE_StreamError_StreamError ?sE_EventError_StreamError ?u_DIGITS ?u_INT ?u_LAST_TIME ?u_LONGEST_TEXT ?u_MOST_DIGITS ?u_QUOTE ?u_TEXT ?u_TEXT_SIGNS
      (case a1 => k_is)
      (case l1 => k_is)
      (case c1 => k_is)
      (case k1 => k_is)
      (case a2 => k_is)
      (case l2 => k_is)
      (case c2 => k_is)
      (case k2 => k_is)
      (case a3 => k_is)
      (case l3 => k_is)
      (case c3 => k_is)
      (case k3 => k_is)
      (case a4 => k_is)
      (case l4 => k_is)
      (case c4 => k_is)
      (case k4 => k_is)
      (case a5 => k_is)
      (case l5 => k_is)
      (case c5 => k_is)
      (case k5 => k_is)
      (case a6 => k_is)
      (case l6 => k_is)
      (case c6 => k_is)
      (case k6 => k_is)
      (case a7 => k_is)
      (case l7 => k_is)
      (case c7 => k_is)
      (case k7 => k_is)
      (case a8 => k_is)
      (case l8 => k_is)
      (case c8 => k_is)
      (case k8 => k_is)
      (case a9 => k_is)
      (case l9 => k_is)
      (case c9 => k_is)
      (case k9 => k_is)
      (case a10 => k_is)
      (case l10 => k_is)
      (case c10 => k_is)
      (case k10 => k_is)
      (case a11 => k_is)
      (case l11 => k_is)
      (case c11 => k_is)
      (case k11 => k_is)
      (case a12 => k_is)
      (case l12 => k_is)
      (case c12 => k_is)
      (case k12 => k_is)
      (case a13 => k_is)
      (case l13 => k_is)
      (case c13 => k_is)
      (case k13 => k_is)
      (case a14 => k_is)
      (case l14 => k_is)
      (case c14 => k_is)
      (case k14 => k_is)
      (case a15 => k_is)
      (case l15 => k_is)
      (case c15 => k_is)
      (case k15 => k_is)
      (case a16 => k_is)
      (case l16 => k_is)
      (case c16 => k_is)
      (case k16 => k_is)
      (case a17 => k_is)
      (case l17 => k_is)
      (case c17 => k_is)
      (case k17 => k_is)
      (case a18 => k_is)
      (case l18 => k_is)
      (case c18 => k_is)
      (case k18 => k_is)
      (case a19 => k_is)
      (case l19 => k_is)
      (case c19 => k_is)
      (case k19 => k_is)
      (case a20 => k_is)
      (case l20 => k_is)
      (case c20 => k_is)
      (case k20 => k_is)
      (case a21 => k_is)
      (case l21 => k_is)
      (case c21 => k_is)
      (case k21 => k_is)
      (case a22 => k_is)
      (case l22 => k_is)
      (case c22 => k_is)
      (case k22 => k_is)
      (case a23 => k_is)
      (case l23 => k_is)
      (case c23 => k_is)
      (case k23 => k_is)
      (case a24 => k_is)
      (case l24 => k_is)
      (case c24 => k_is)
      (case k24 => k_is)
      (case a25 => k_is)
      (case l25 => k_is)
      (case c25 => k_is)
      (case k25 => k_is)
      (case z_abs => k_is)
      (case z_all => k_is)
      (case z_any => k_is)
      (case z_bool => k_is)
      (case z_enumerate => k_is)
      (case z_int => k_is)
      (case z_isinstance => k_is)
      (case z_len => k_is)
      (case z_list => k_is)
      (case z_range => k_is)
      (case z_str => k_is)
      (case z_tuple => k_is)
      (case z_zip => k_is)
      (case opq => k_is)
      (case nos => k_is)
      (case htop => first | rfl | decide +kernel)
      (case aE_StreamError => k_is)
      (case xE_StreamError => k_is)
      (case bE_StreamError => rfl)
      (case saE_StreamError => k_is)
      (case gaE_StreamError => k_is)
      (case ggE_StreamError => k_is)
      (case noE_StreamError => k_is)
      (case kcE_StreamError => k_is)
      (case exE_StreamError => k_is)
      (case veE_StreamError => k_is)
      (case seE_StreamError => first | k_is | rfl | kernel_rfl)
      (case tyE_StreamError => k_is)
      (case hdE_StreamError => k_is)
      (case suE_StreamError => first | ks_is | k_is | kernel_rfl)
      (case iE_StreamError => k_is)
      (case tiE_StreamError => k_is)
      (case lE_StreamError => k_is)
      (case cE_StreamError => k_is)
      (case dE_StreamError => k_is)
      (case vE_StreamError => rfl)
      (case fE_StreamError => first | rfl | decide +kernel)
      (case gE_StreamError => first | k_is | rfl)
      (case hcE_StreamError => exact fun _ _ _ => ⟨_, rfl⟩)
      (case icE_StreamError => k_is)
      (case aE_EventError => k_is)
      (case xE_EventError => k_is)
      (case bE_EventError => rfl)
      (case saE_EventError => k_is)
      (case gaE_EventError => k_is)
      (case ggE_EventError => k_is)
      (case noE_EventError => k_is)
      (case nwE_EventError => k_is)
      (case kcE_EventError => k_is)
      (case exE_EventError => k_is)
      (case veE_EventError => k_is)
      (case seE_EventError => first | k_is | rfl | kernel_rfl)
      (case tyE_EventError => k_is)
      (case hdE_EventError => k_is)
      (case suE_EventError => first | ks_is | k_is | kernel_rfl)
      (case iE_EventError => k_is)
      (case tiE_EventError => k_is)
      (case lE_EventError => k_is)
      (case cE_EventError => k_is)
      (case dE_EventError => k_is)
      (case vE_EventError => rfl)
      (case fE_EventError => first | rfl | decide +kernel)
      (case gE_EventError => first | k_is | rfl)
      (case hcE_EventError => exact fun _ _ _ => ⟨_, rfl⟩)
      (case icE_EventError => k_is)
      (case sE_StreamError_EventError => first | rfl | k_is)
      (case sE_EventError_EventError => first | rfl | k_is)
      (case sE_StreamError_StreamError => first | rfl | k_is)
      (case sE_EventError_StreamError => first | rfl | k_is)
      (case u_DIGITS => k_is)
      (case u_INT => k_is)
      (case u_LAST_TIME => k_is)
      (case u_LONGEST_TEXT => k_is)
      (case u_MOST_DIGITS => k_is)
      (case u_QUOTE => k_is)
      (case u_TEXT => k_is)
      (case u_TEXT_SIGNS => k_is)

