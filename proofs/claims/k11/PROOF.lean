import PyProof.Rows.All
import Wide.All
import OpenK.AllK
import Wide.FinOn
import HandS.ForMost
import HandS.Walk
import HandS.Exc
import HandS.ExcOwn
import HandS.IsInst
import HandS.Conv
import HandS.Defaults
import HandS.NoneIn
import HandS.DictComp
import HandS.TupAny
import HandS.StrMore
import HandS.Replace
import HandS.FStr
import HandS.Wide
import HandS.SortInts
import KE.DataEq
import KE.DataFind
import HandS.TupLe
import HandS.TupMul
import HandS.Codes
import HandS.CallRecv
import HandS.OwnEq
import HandS.NamedTupSort
import PyProof.InstNe
import KE.SortData
import HandS.Text
import HandS.Deep
import KE.GoesMore
import KE.GoesComp
import HandS.Dict
import HandS.TupLen
import HandS.WordsDict
import HandS.Zip
import KE.KExcSuper
import HandS.ExcInit
import KE.GoesEnum
import HandS.Star
import HandS.Style
import HandS.HeadHook1
import HandS.HeadHook2
import HandS.HeadHook3
import HandS.HeadHook4
import PySem.Challenge.RW_watchwebs_k11_whole_webs_renamed_and_fau
import KE.KStateDown
import HandS.Base
import HandS.Call
import HandS.Ends
import HandS.More
import HandS.Words
import HandS.WordsExc
import HandS.Head0
import HandS.Head1
import HandS.Head2
import HandS.HeadEnd
import HandS.HeadWalk
section
set_option Elab.async false
set_option linter.all false
set_option maxRecDepth 100000
set_option maxHeartbeats 4000000
/-! DA: data, the store, what stands for what, how the heap grows. -/
namespace DL
open PySem L2

/-- data. obj k: the k-th object of the store -/
inductive D where
  | non | bl (b : Bool) | int (i : Int) | str (x : Str)
  | lst (l : List D) | tup (l : List D)
  | dct (kvs : List (D × D))
  | ins (c : Nat) (fs : List (Str × D))
  | obj (k : Nat)
  /-- a list that is known to the object (the script) -/
  | frl (l : List D)

/-- what may be changed: a list, a dict, an instance -/
inductive MO where
  | lst (l : List D) | dct (kvs : List (D × D)) | ins (c : Nat) (fs : List (Str × D))
abbrev Store := List (Option MO)
/-- a slot: data, or an object of the frame's own -/
inductive SV where
  | val (d : D) | own (m : MO)
abbrev Sl := List (Option SV)

/-- what a piece of the program comes to -/
inductive Out (α : Type) where
  | ok (a : α) (mu : Store)
  | ex (c : Nat) (fs : List (Str × D)) (mu : Store)
  | bad
/-- .. a statement: the next one, a return, break, continue -/
inductive OutS where
  | nx (sl : Sl) (mu : Store)
  | rt (d : D) (mu : Store)
  | bk (sl : Sl) (mu : Store)
  | ct (sl : Sl) (mu : Store)
  | ex (c : Nat) (fs : List (Str × D)) (sl : Sl) (mu : Store)
  | bad

/-- the theory: the written part, the classes' addresses -/
structure Th where
  K : PySem.W.Frag
  cls : Nat → Addr

/-- dicts: by a heap's predicate, told later -/
structure DKit where
  ok : Hp → Addr → List (V × V) → Prop

/-- a class of instances that is there (from 1000 on: errors) -/
def Lv (cl : Nat → Addr) (c : Nat) : Prop := cl c ≠ 0 ∧ c < 1000

section
variable (T : Th) (F : Hp) (al : Nat → Addr) (n : Nat)
mutual
inductive Rp : V → D → Prop
  | non : Rp .non .non
  | bl (b : Bool) : Rp (.bl b) (.bl b)
  | int (i : Int) : Rp (.int i) (.int i)
  | str (x : Str) : Rp (.str x) (.str x)
  | lst {a : Addr} {xs : List V} {ds : List D} : F a = some (.lst xs) → RpL xs ds → Rp (.ref a) (.lst ds)
  | tup {a : Addr} {xs : List V} {ds : List D} : F a = some (.tup xs) → RpL xs ds → Rp (.ref a) (.tup ds)
  | ins {a dx : Addr} {c : Nat} {fs : List (Str × V)} {ds : List (Str × D)} : Lv T.cls c → F a = some (.ins (T.cls c) dx fs) → RpF fs ds → Rp (.ref a) (.ins c ds)
  | dct {a : Addr} : F a = some (.dK []) → Rp (.ref a) (.dct [])
  | obj {k : Nat} : k < n → Rp (.ref (al k)) (.obj k)
  | frl {a : Addr} {xs : List V} {ds : List D} : SqL T.K F a xs → RpL xs ds → Rp (.ref a) (.frl ds)
inductive RpL : List V → List D → Prop
  | nil : RpL [] []
  | cons {v : V} {vs : List V} {d : D} {ds : List D} : Rp v d → RpL vs ds → RpL (v :: vs) (d :: ds)
inductive RpF : List (Str × V) → List (Str × D) → Prop
  | nil : RpF [] []
  | cons {x : Str} {v : V} {vs : List (Str × V)} {d : D} {ds : List (Str × D)} : Rp v d → RpF vs ds → RpF ((x, v) :: vs) ((x, d) :: ds)
end
/-- what stands at an address for a changeable object -/
def Conc : HO → MO → Prop
  | .lst xs, .lst ds => RpL T F al n xs ds
  | .ins C _ fs, .ins c ds => (C = T.cls c ∧ Lv T.cls c) ∧ RpF T F al n fs ds
  | _, _ => False
end

section
variable {T : Th} {F F' : Hp} {al al' : Nat → Addr} {n n' : Nat}
theorem sqT_mono {K : PySem.W.Frag} {a : Addr} {xs : List V} (s : ∀ a o, F a = some o → F' a = some o) (h : F a = some (.tup xs)) : SqT K F' a xs := .inl (.inl (s _ _ h))
theorem sqL_mono {K : PySem.W.Frag} {a : Addr} {xs : List V} (s : ∀ a o, F a = some o → F' a = some o) (h : SqL K F a xs) : SqL K F' a xs := by
  rcases h with (h | ⟨o, h⟩) | h
  · exact .inl (.inl (s _ _ h))
  · exact .inl (.inr ⟨o, s _ _ h⟩)
  · exact .inr h
mutual
theorem Rp.mono (s : ∀ a o, F a = some o → F' a = some o) (e : ∀ k, k < n → al' k = al k) (l : n ≤ n') : ∀ {d : D} {v : V}, Rp T F al n v d → Rp T F' al' n' v d
  | .non, _, h => by cases h; exact .non
  | .bl b, _, h => by cases h; exact .bl b
  | .int i, _, h => by cases h; exact .int i
  | .str x, _, h => by cases h; exact .str x
  | .lst ds, _, h => by cases h with | lst h1 h2 => exact .lst (s _ _ h1) (RpL.mono s e l h2)
  | .tup ds, _, h => by cases h with | tup h1 h2 => exact .tup (s _ _ h1) (RpL.mono s e l h2)
  | .dct kvs, _, h => by cases h with | dct h1 => exact .dct (s _ _ h1)
  | .frl ds, _, h => by cases h with | frl h1 h2 => exact .frl (sqL_mono s h1) (RpL.mono s e l h2)
  | .ins c ds, _, h => by cases h with | ins h0 h1 h2 => exact .ins h0 (s _ _ h1) (RpF.mono s e l h2)
  | .obj k, _, h => by
    cases h with
    | obj h1 =>
      rw [← e k h1]
      exact .obj (Nat.lt_of_lt_of_le h1 l)
theorem RpL.mono (s : ∀ a o, F a = some o → F' a = some o) (e : ∀ k, k < n → al' k = al k) (l : n ≤ n') : ∀ {ds : List D} {vs : List V}, RpL T F al n vs ds → RpL T F' al' n' vs ds
  | [], _, h => by cases h; exact .nil
  | d :: ds, _, h => by cases h with | cons h1 h2 => exact .cons (Rp.mono s e l h1) (RpL.mono s e l h2)
theorem RpF.mono (s : ∀ a o, F a = some o → F' a = some o) (e : ∀ k, k < n → al' k = al k) (l : n ≤ n') : ∀ {ds : List (Str × D)} {vs : List (Str × V)}, RpF T F al n vs ds → RpF T F' al' n' vs ds
  | [], _, h => by cases h; exact .nil
  | (x, d) :: ds, _, h => by cases h with | cons h1 h2 => exact .cons (Rp.mono s e l h1) (RpF.mono s e l h2)
end
end
end DL
end

section
set_option Elab.async false
set_option linter.all false
set_option maxRecDepth 100000
set_option maxHeartbeats 4000000
/-! DB: the world of a frame, how it goes on; readings of denotations. -/
namespace DL
open PySem L2
variable {T : Th} {F F1 F2 : Hp} {al al1 al2 : Nat → Addr} {mu mu1 mu2 : Store} {H H1 H2 : Hp} {sl : Sl} {σ : St}

/-- the store stands in H, F is of H -/
structure Mus (T : Th) (F : Hp) (al : Nat → Addr) (mu : Store) (H : Hp) : Prop where
  sub : ∀ a o, F a = some o → H a = some o
  at_ : ∀ k m, mu[k]? = some (some m) → F (al k) = none ∧ ∃ o, H (al k) = some o ∧ Conc T F al mu.length o m
  inj : ∀ k m k' m', mu[k]? = some (some m) → mu[k']? = some (some m') → al k = al k' → k = k'

structure Wd (T : Th) (F : Hp) (al : Nat → Addr) (sl : Sl) (mu : Store) (σ : St) (H : Hp) : Prop extends Mus T F al mu H where
  len : σ.length = sl.length
  val : ∀ (i : Nat) d, sl[i]? = some (some (SV.val d)) → ∃ v, σ[i]? = some (some v) ∧ Rp T F al mu.length v d
  own : ∀ (i : Nat) m, sl[i]? = some (some (SV.own m)) → ∃ a o, σ[i]? = some (some (V.ref a)) ∧ F a = none ∧ H a = some o ∧ Conc T F al mu.length o m ∧ ∀ k m', mu[k]? = some (some m') → al k ≠ a
  apart : ∀ (i j : Nat) m m' a, i ≠ j → sl[i]? = some (some (SV.own m)) → sl[j]? = some (some (SV.own m')) → σ[i]? = some (some (V.ref a)) → σ[j]? = some (some (V.ref a)) → False

structure Ext (T : Th) (F : Hp) (al : Nat → Addr) (mu : Store) (H : Hp) (F' : Hp) (al' : Nat → Addr) (mu' : Store) (H' : Hp) : Prop where
  mus : Mus T F' al' mu' H'
  sub : ∀ a o, F a = some o → F' a = some o
  new : ∀ a o, F' a = some o → F a = some o ∨ H a = none ∨ ∃ k m, mu[k]? = some (some m) ∧ al k = a
  keep : ∀ a o, H a = some o → (∀ k m, mu[k]? = some (some m) → al k ≠ a) → H' a = some o
  there : ∀ a, H' a = none → H a = none
  als : ∀ k, k < mu.length → al' k = al k
  ln : mu.length ≤ mu'.length
  fresh : ∀ k m, mu'[k]? = some (some m) → (∃ m0, mu[k]? = some (some m0)) ∨ H (al' k) = none

theorem lt_of_live {k : Nat} {m : MO} (h : mu[k]? = some (some m)) : k < mu.length := (List.getElem?_eq_some_iff.mp h).1
theorem Ext.refl (h : Mus T F al mu H) : Ext T F al mu H F al mu H :=
  ⟨h, fun _ _ e => e, fun _ _ e => .inl e, fun _ _ e _ => e, fun _ e => e, fun _ _ => rfl, Nat.le_refl _, fun k m e => .inl ⟨m, e⟩⟩
theorem Ext.trans (a : Ext T F al mu H F1 al1 mu1 H1) (b : Ext T F1 al1 mu1 H1 F2 al2 mu2 H2) : Ext T F al mu H F2 al2 mu2 H2 where
  mus := b.mus
  sub := fun x o e => b.sub x o (a.sub x o e)
  new := fun x o e => by
    rcases b.new x o e with h | h | ⟨k, m, e1, e2⟩
    · exact a.new x o h
    · exact .inr (.inl (a.there x h))
    · rcases a.fresh k m e1 with ⟨m0, h⟩ | h
      · exact .inr (.inr ⟨k, m0, h, by rw [← a.als k (lt_of_live h)]; exact e2⟩)
      · exact .inr (.inl (by rw [← e2]; exact h))
  keep := fun x o e n => b.keep x o (a.keep x o e n) fun k m e1 e2 => by
    rcases a.fresh k m e1 with ⟨m0, h⟩ | h
    · exact n k m0 h (by rw [← a.als k (lt_of_live h)]; exact e2)
    · rw [e2, e] at h; cases h
  there := fun x e => a.there x (b.there x e)
  als := fun k hk => (b.als k (Nat.lt_of_lt_of_le hk a.ln)).trans (a.als k hk)
  ln := Nat.le_trans a.ln b.ln
  fresh := fun k m e => by
    rcases b.fresh k m e with ⟨m0, h⟩ | h
    · rcases a.fresh k m0 h with h' | h'
      · exact .inl h'
      · exact .inr (by rw [b.als k (lt_of_live h)]; exact h')
    · exact .inr (a.there _ h)

theorem Ext.rp (a : Ext T F al mu H F1 al1 mu1 H1) {v : V} {d : D} (h : Rp T F al mu.length v d) : Rp T F1 al1 mu1.length v d := h.mono a.sub a.als a.ln
theorem Ext.rpL (a : Ext T F al mu H F1 al1 mu1 H1) {v : List V} {d : List D} (h : RpL T F al mu.length v d) : RpL T F1 al1 mu1.length v d := h.mono a.sub a.als a.ln
theorem Ext.rpF (a : Ext T F al mu H F1 al1 mu1 H1) {v : List (Str × V)} {d : List (Str × D)} (h : RpF T F al mu.length v d) : RpF T F1 al1 mu1.length v d := h.mono a.sub a.als a.ln
theorem Conc.mono {n n' : Nat} (s : ∀ a o, F a = some o → F1 a = some o) (e : ∀ k, k < n → al1 k = al k) (l : n ≤ n') {o : HO} {m : MO} (h : Conc T F al n o m) : Conc T F1 al1 n' o m := by
  cases o <;> cases m <;> first
    | exact False.elim h
    | exact RpL.mono s e l h
    | exact ⟨h.1, RpF.mono s e l h.2⟩
theorem Ext.conc (a : Ext T F al mu H F1 al1 mu1 H1) {o : HO} {m : MO} (h : Conc T F al mu.length o m) : Conc T F1 al1 mu1.length o m := h.mono a.sub a.als a.ln
theorem Wd.ext (w : Wd T F al sl mu σ H) (a : Ext T F al mu H F1 al1 mu1 H1) : Wd T F1 al1 sl mu1 σ H1 where
  toMus := a.mus
  len := w.len
  val := fun i d e => by
    obtain ⟨v, h1, h2⟩ := w.val i d e
    exact ⟨v, h1, a.rp h2⟩
  own := fun i m e => by
    obtain ⟨x, o, h1, h2, h3, h4, h5⟩ := w.own i m e
    refine ⟨x, o, h1, ?_, a.keep x o h3 h5, a.conc h4, fun k m' e' z => ?_⟩
    · cases q : F1 x with
      | none => rfl
      | some u =>
        rcases a.new x u q with h | h | ⟨k, m', e1, e2⟩
        · rw [h2] at h; cases h
        · rw [h3] at h; cases h
        · exact absurd e2 (h5 k m' e1)
    · rcases a.fresh k m' e' with ⟨m0, h⟩ | h
      · exact h5 k m0 h (by rw [← a.als k (lt_of_live h)]; exact z)
      · rw [z, h3] at h; cases h
  apart := w.apart
/-- a new object, frozen or not -/
theorem Mus.laidF (h : Mus T F al mu H) {p : Addr} {o : HO} (hp : H p = none) : Mus T (upd F p o) al mu (upd H p o) := by
  have hF : F p = none := by
    cases q : F p with
    | none => rfl
    | some u => rw [h.sub p u q] at hp; cases hp
  refine ⟨fun a u e => ?_, fun k m e => ?_, h.inj⟩
  · by_cases z : a = p
    · subst z; rw [upd_same] at e ⊢; exact e
    · rw [upd_ne z] at e ⊢; exact h.sub a u e
  · obtain ⟨h1, o', h2, h3⟩ := h.at_ k m e
    have ne : al k ≠ p := fun z => by rw [z, hp] at h2; cases h2
    refine ⟨by rw [upd_ne ne]; exact h1, o', by rw [upd_ne ne]; exact h2, h3.mono (fun a u e => ?_) (fun _ _ => rfl) (Nat.le_refl _)⟩
    rw [upd_ne (ne_of_none e hF)]; exact e
theorem Mus.laidH (h : Mus T F al mu H) {p : Addr} {o : HO} (hp : H p = none) : Mus T F al mu (upd H p o) := by
  refine ⟨fun a u e => ?_, fun k m e => ?_, h.inj⟩
  · rw [upd_ne (ne_of_none (h.sub a u e) hp)]; exact h.sub a u e
  · obtain ⟨h1, o', h2, h3⟩ := h.at_ k m e
    exact ⟨h1, o', by rw [upd_ne (ne_of_none h2 hp)]; exact h2, h3⟩
theorem there_upd {p : Addr} {o : HO} : ∀ a, upd H p o a = none → H a = none := fun a e => by
  by_cases z : a = p
  · subst z; rw [upd_same] at e; cases e
  · rw [upd_ne z] at e; exact e
theorem Ext.laidF (h : Mus T F al mu H) {p : Addr} {o : HO} (hp : H p = none) : Ext T F al mu H (upd F p o) al mu (upd H p o) := by
  have hF : F p = none := by
    cases q : F p with
    | none => rfl
    | some u => rw [h.sub p u q] at hp; cases hp
  refine ⟨h.laidF hp, fun a u e => by rw [upd_ne (ne_of_none e hF)]; exact e, fun a u e => ?_, fun a u e _ => by rw [upd_ne (ne_of_none e hp)]; exact e, there_upd, fun _ _ => rfl, Nat.le_refl _, fun k m e => .inl ⟨m, e⟩⟩
  by_cases z : a = p
  · subst z; exact .inr (.inl hp)
  · rw [upd_ne z] at e; exact .inl e
theorem Ext.laidH (h : Mus T F al mu H) {p : Addr} {o : HO} (hp : H p = none) : Ext T F al mu H F al mu (upd H p o) :=
  ⟨h.laidH hp, fun _ _ e => e, fun _ _ e => .inl e, fun a u e _ => by rw [upd_ne (ne_of_none e hp)]; exact e, there_upd, fun _ _ => rfl, Nat.le_refl _, fun k m e => .inl ⟨m, e⟩⟩
theorem Mus.F_none (h : Mus T F al mu H) {p : Addr} (hp : H p = none) : F p = none := by
  cases q : F p with
  | none => rfl
  | some u => rw [h.sub p u q] at hp; cases hp

/-! ### what a denotation's reading asks -/
/-- how an exception's fields stand -/
def ExR (T : Th) (F : Hp) (al : Nat → Addr) (n : Nat) (H : Hp) (d : Option Addr) (fs : List (Str × D)) : Prop :=
  fs = [] ∨ ∃ dx vs, d = some dx ∧ H dx = some (.xd vs) ∧ RpF T F al n vs fs
/-- the relation of what is handed on to what it stands for: the heap ahead, the frozen part, the store's places, the store, the heap -/
abbrev Rel (β α : Type) := Hp → Hp → (Nat → Addr) → Store → Hp → β → α → Prop
def Po {α β : Type} (T : Th) (W : WX) (F : Hp) (al : Nat → Addr) (mu : Store) (σ : St) (H : Hp) (R : Rel β α) (o : Out α) (Q : β → Hp → Prop) : Prop :=
  match o with
  | .ok d mu' => ∀ v F' al' H', Ext T F al mu H F' al' mu' H' → R H F' al' mu' H' v d → Q v H'
  | .ex c fs mu' => ∀ dx F' al' H', Ext T F al mu H F' al' mu' H' → ExR T F' al' mu'.length H' dx fs → W (.ref (T.cls c)) dx σ H'
  | .bad => False
def tG {α β : Type} (T : Th) (W : WX) (R : Rel β α) (f : Sl → Store → Out α) : St → Hp → (β → Hp → Prop) → Prop :=
  fun σ H Q => ∃ F al sl mu, Wd T F al sl mu σ H ∧ Po T W F al mu σ H R (f sl mu) Q
abbrev EF := Sl → Store → Out D
/-- data | a row of data | a new object | a truth value -/
def RD (T : Th) : Rel V D := fun _ F al mu _ v d => Rp T F al mu.length v d
def RLs (T : Th) : Rel (List V) (List D) := fun _ F al mu _ v d => RpL T F al mu.length v d
def RN (T : Th) : Rel V MO := fun H0 F al mu H v m => ∃ a o, v = .ref a ∧ H0 a = none ∧ F a = none ∧ H a = some o ∧ Conc T F al mu.length o m ∧ ∀ k m', mu[k]? = some (some m') → al k ≠ a
def RB : Rel Bool Bool := fun _ _ _ _ _ v d => v = d
abbrev tE (T : Th) (W : WX) (f : EF) : TE := tG T W (RD T) f

def obind {α β : Type} (o : Out α) (g : α → Store → Out β) : Out β :=
  match o with
  | .ok d mu => g d mu
  | .ex c fs mu => .ex c fs mu
  | .bad => .bad
/-- then -/
def dBind {α β : Type} (f : Sl → Store → Out α) (g : α → Sl → Store → Out β) : Sl → Store → Out β := fun sl mu => obind (f sl mu) fun d mu => g d sl mu
/-- a relation that does not mind an older heap ahead -/
def Back {α β : Type} (R : Rel β α) : Prop := ∀ H0 H1 F al mu H v d, (∀ a, H1 a = none → H0 a = none) → R H1 F al mu H v d → R H0 F al mu H v d
theorem back_RD : Back (RD T) := fun _ _ _ _ _ _ _ _ _ h => h
theorem back_RLs : Back (RLs T) := fun _ _ _ _ _ _ _ _ _ h => h
theorem back_RB : Back RB := fun _ _ _ _ _ _ _ _ _ h => h
theorem back_RN : Back (RN T) := fun _ _ _ _ _ _ _ _ e ⟨a, o, h1, h2, h3⟩ => ⟨a, o, h1, e a h2, h3⟩
section
variable {α β γ δ : Type} {W : WX} {R : Rel β α} {R2 : Rel δ γ}
theorem Po.step {o : Out γ} {Q : δ → Hp → Prop} (hb : Back R2) (x : Ext T F al mu H F1 al1 mu1 H1) (h : Po T W F al mu σ H R2 o Q) : Po T W F1 al1 mu1 σ H1 R2 o Q := by
  cases o with
  | ok d2 mu2 => exact fun v2 F2 al2 H2 x2 r => h v2 F2 al2 H2 (x.trans x2) (hb _ _ _ _ _ _ _ _ x.there r)
  | ex c fs mu2 => exact fun dx F2 al2 H2 x2 => h dx F2 al2 H2 (x.trans x2)
  | bad => exact h
/-- from a reading of a whole to that of its first part -/
theorem seqG (hb : Back R2) {f : Sl → Store → Out α} {o : Out γ} {g : α → Store → Out γ} {Q : δ → Hp → Prop} {P : β → Hp → Prop} (w : Wd T F al sl mu σ H) (h : Po T W F al mu σ H R2 o Q) (e : o = obind (f sl mu) g)
    (k : ∀ v d F1 al1 mu1 H1, Ext T F al mu H F1 al1 mu1 H1 → Wd T F1 al1 sl mu1 σ H1 → R H F1 al1 mu1 H1 v d → Po T W F1 al1 mu1 σ H1 R2 (g d mu1) Q → P v H1) : tG T W R f σ H P := by
  refine ⟨F, al, sl, mu, w, ?_⟩
  subst e
  cases q : f sl mu with
  | ok d mu1 =>
    rw [q] at h
    intro v F1 al1 H1 x r
    exact k v d F1 al1 mu1 H1 x (w.ext x) r (Po.step hb x (show Po T W F al mu σ H R2 (g d mu1) Q from h))
  | ex c fs mu1 => rw [q] at h; exact h
  | bad => rw [q] at h; exact h
theorem Po.here {d : α} {Q : β → Hp → Prop} {v : β} (h : Po T W F al mu σ H R (.ok d mu) Q) (m : Mus T F al mu H) (r : R H F al mu H v d) : Q v H := h v F al H (Ext.refl m) r
end
theorem PE.imp {X : Cx} {e : PySem.Expr} {t t' : TE} (h : PE X e t) (i : ∀ σ H Q, t' σ H Q → t σ H Q) : PE X e t' := ⟨fun pins s σ H Q I q => h.run pins s σ H Q I (i σ H Q q)⟩
theorem PT.imp {X : Cx} {e : PySem.Expr} {t t' : TT} (h : PT X e t) (i : ∀ σ H Q, t' σ H Q → t σ H Q) : PT X e t' := ⟨fun pins s σ H Q I q => h.run pins s σ H Q I (i σ H Q q)⟩
theorem PA.imp {X : Cx} {e : List PySem.Expr} {t t' : TA} (h : PA X e t) (i : ∀ σ H Q, t' σ H Q → t σ H Q) : PA X e t' := ⟨fun pos pins s σ H Q I q => h.run pos pins s σ H Q I (i σ H Q q)⟩
theorem PS.imp {X : Cx} {e : PySem.Stmt} {t t' : TS} (h : PS X e t) (i : ∀ D σ H, t' D σ H → t D σ H) : PS X e t' := ⟨fun pins s σ H D I q => h.run pins s σ H D I (i D σ H q)⟩
theorem PSs.imp {X : Cx} {e : List PySem.Stmt} {t t' : TS} (h : PSs X e t) (i : ∀ D σ H, t' D σ H → t D σ H) : PSs X e t' := ⟨fun pins s σ H D I q => h.run pins s σ H D I (i D σ H q)⟩

/-- a new object is frozen -/
def MO.d : MO → D
  | .lst l => .lst l
  | .dct l => .dct l
  | .ins c fs => .ins c fs
theorem Ext.freeze {a : Addr} {o : HO} (x : Ext T F al mu H F1 al1 mu1 H1) (h0 : H a = none) (h1 : F1 a = none) (h2 : H1 a = some o) (ne : ∀ k m', mu1[k]? = some (some m') → al1 k ≠ a) : Ext T F al mu H (upd F1 a o) al1 mu1 H1 := by
  have up : ∀ b u, F1 b = some u → upd F1 a o b = some u := fun b u e => by rw [upd_ne (ne_of_none e h1)]; exact e
  refine ⟨⟨fun b u e => ?_, fun k m e => ?_, x.mus.inj⟩, fun b u e => up b u (x.sub b u e), fun b u e => ?_, x.keep, x.there, x.als, x.ln, x.fresh⟩
  · by_cases z : b = a
    · subst z; rw [upd_same] at e; cases e; exact h2
    · rw [upd_ne z] at e; exact x.mus.sub b u e
  · obtain ⟨g1, o', g2, g3⟩ := x.mus.at_ k m e
    exact ⟨by rw [upd_ne (ne k m e)]; exact g1, o', g2, g3.mono up (fun _ _ => rfl) (Nat.le_refl _)⟩
  · by_cases z : b = a
    · subst z; exact .inr (.inl h0)
    · rw [upd_ne z] at e; exact x.new b u e
theorem rp_freeze {n : Nat} {a : Addr} {o : HO} {m : MO} (h1 : F a = none) (h : Conc T F al n o m) (k : ∀ kvs, m ≠ .dct kvs) : Rp T (upd F a o) al n (.ref a) m.d := by
  have up : ∀ b u, F b = some u → upd F a o b = some u := fun b u e => by rw [upd_ne (ne_of_none e h1)]; exact e
  cases o <;> cases m <;> first
    | exact False.elim h
    | exact .lst upd_same (RpL.mono up (fun _ _ => rfl) (Nat.le_refl _) h)
    | (obtain ⟨⟨h2, h4⟩, h3⟩ := h; subst h2; exact .ins h4 upd_same (RpF.mono up (fun _ _ => rfl) (Nat.le_refl _) h3))
end DL
end

section
set_option Elab.async false
set_option linter.all false
set_option maxRecDepth 100000
set_option maxHeartbeats 4000000
/-! DC: expressions, tests, arguments. -/
namespace DL
open PySem L2

abbrev BF := Sl → Store → Out Bool
abbrev LF := Sl → Store → Out (List D)
abbrev NF := Sl → Store → Out MO
abbrev Cx.th (X : Cx) (cl : Nat → Addr) : Th := ⟨X.K, cl⟩
abbrev DE (X : Cx) (cl : Nat → Addr) (W : WX) (e : PySem.Expr) (f : EF) : Prop := PE X e (tG (Cx.th X cl) W (RD (Cx.th X cl)) f)
abbrev DN (X : Cx) (cl : Nat → Addr) (W : WX) (e : PySem.Expr) (f : NF) : Prop := PE X e (tG (Cx.th X cl) W (RN (Cx.th X cl)) f)
abbrev DAs (X : Cx) (cl : Nat → Addr) (W : WX) (e : List PySem.Expr) (f : LF) : Prop := PA X e (tG (Cx.th X cl) W (RLs (Cx.th X cl)) f)
abbrev DT (X : Cx) (cl : Nat → Addr) (W : WX) (e : PySem.Expr) (f : BF) : Prop := PT X e (tG (Cx.th X cl) W RB f)
abbrev DW (X : Cx) (cl : Nat → Addr) (W : WX) (e : PySem.Expr) (f : BF) : Prop := PW X e (tG (Cx.th X cl) W RB f)

/-! ### denotations -/
def dVar (i : Nat) : EF := fun sl mu => match sl[i]? with
  | some (some (.val d)) => .ok d mu
  | _ => .bad
def dC (d : D) : EF := fun _ mu => .ok d mu
def dNil : LF := fun _ mu => .ok [] mu
def dCons (f : EF) (g : LF) : LF := dBind f fun d => dBind g fun ds _ mu => .ok (d :: ds) mu
def dTup (g : LF) : EF := dBind g fun ds _ mu => .ok (.tup ds) mu
def dLst (g : LF) : NF := dBind g fun ds _ mu => .ok (.lst ds) mu
def dFrz (f : NF) : EF := dBind f fun m _ mu => match m with
  | .dct _ => .bad
  | m => .ok m.d mu
def dOp1 (g : D → Option D) (f : EF) : EF := dBind f fun d _ mu => match g d with
  | some r => .ok r mu
  | none => .bad
def dOp2 (g : D → D → Option D) (fa fb : EF) : EF := dBind fa fun x => dBind fb fun y _ mu => match g x y with
  | some r => .ok r mu
  | none => .bad
def dCmp (g : D → D → Option Bool) (fa fb : EF) : BF := dBind fa fun x => dBind fb fun y _ mu => match g x y with
  | some r => .ok r mu
  | none => .bad
def dB2v (f : BF) : EF := dBind f fun b _ mu => .ok (.bl b) mu
def dTst (f : EF) : BF := dBind f fun d _ mu => match d with
  | .bl b => .ok b mu
  | _ => .bad
def dAnd (f g : BF) : BF := dBind f fun b sl mu => if b = true then g sl mu else .ok false mu
def dOr (f g : BF) : BF := dBind f fun b sl mu => if b = true then .ok true mu else g sl mu
def dNot (f : BF) : BF := dBind f fun b _ mu => .ok (!b) mu
def dIf {α : Type} (c : BF) (f g : Sl → Store → Out α) : Sl → Store → Out α := dBind c fun b sl mu => if b = true then f sl mu else g sl mu

/-! ### names, constants -/
section
variable {X : Cx} {cl : Nat → Addr} {W : WX} {a b e : PySem.Expr} {es rest : List PySem.Expr} {fa fb f : EF} {pos : Pos}
theorem de_var {i : Nat} (h : PE X e (tVar i)) : DE X cl W e (dVar i) := by
  refine PE.imp h fun σ H Q q => ?_
  obtain ⟨F, al, sl, mu, w, po⟩ := q
  unfold dVar at po
  split at po
  · rename_i d hd
    obtain ⟨v, h1, h2⟩ := w.val i d hd
    exact ⟨v, h1, Po.here po w.toMus h2⟩
  · exact False.elim po
theorem de_c {v : V} {d : D} (h : PE X e (tC v)) (r : ∀ F al n, Rp (Cx.th X cl) F al n v d) : DE X cl W e (dC d) := by
  refine PE.imp h fun σ H Q q => ?_
  obtain ⟨F, al, sl, mu, w, po⟩ := q
  exact Po.here po w.toMus (r F al _)
theorem de_int {i : Int} {j : Nat} : DE X cl W (.Constant (.int i) j pos) (dC (.int i)) := de_c pe_int fun _ _ _ => .int i
theorem de_bl {i : Bool} {j : Nat} : DE X cl W (.Constant (.bool i) j pos) (dC (.bl i)) := de_c pe_bl fun _ _ _ => .bl i
theorem de_non {j : Nat} : DE X cl W (.Constant .none j pos) (dC .non) := de_c pe_non fun _ _ _ => .non
theorem de_str {x : Str} {j : Nat} : DE X cl W (.Constant (.str x) j pos) (dC (.str x)) := de_c pe_str fun _ _ _ => .str x

/-! ### arguments, displays -/
theorem da_nil : DAs X cl W [] dNil := PA.imp pa_nil fun σ H Q q => by
  obtain ⟨F, al, sl, mu, w, po⟩ := q
  exact Po.here po w.toMus .nil
theorem da_cons {g : LF} (ha : DE X cl W a fa) (hr : DAs X cl W es g) (hs : starEach (a :: es) X.env = (false, eval a X.env) :: starEach es X.env := by rfl) : DAs X cl W (a :: es) (dCons fa g) :=
  PA.imp (pa_cons ha hr hs) fun σ H Q q => by
    obtain ⟨F, al, sl, mu, w, po⟩ := q
    refine seqG back_RLs w po rfl fun v d F1 al1 mu1 H1 x1 w1 r1 po1 => ?_
    refine seqG back_RLs w1 po1 rfl fun vs ds F2 al2 mu2 H2 x2 w2 r2 po2 => ?_
    exact Po.here po2 w2.toMus (.cons (x2.rp r1) r2)
theorem RpL.len {T : Th} {F : Hp} {al : Nat → Addr} {n : Nat} : ∀ {vs : List V} {ds : List D}, RpL T F al n vs ds → vs.length = ds.length
  | [], [], _ => rfl
  | v :: vs, d :: ds, h => by
    cases h with
    | cons _ h2 => rw [List.length_cons, List.length_cons, RpL.len h2]
  | [], d :: ds, h => by cases h
  | v :: vs, [], h => by cases h
def Len (g : LF) (n : Nat) : Prop := ∀ sl mu ds mu', g sl mu = .ok ds mu' → ds.length = n
theorem len_nil : Len dNil 0 := fun sl mu ds mu' h => by cases h; rfl
theorem len_cons {g : LF} {n : Nat} (h : Len g n) : Len (dCons fa g) (n + 1) := fun sl mu ds mu' e => by
  unfold dCons dBind obind at e
  split at e
  · rename_i d mu1 _
    dsimp only at e
    split at e
    · rename_i ds1 mu2 e2
      cases e
      rw [List.length_cons, h _ _ _ _ e2]
    · cases e
    · cases e
  · cases e
  · cases e
theorem le_line {n : Nat} (h : n ≤ 10000) : n ≤ sizeLine := by rw [sizeLine_eq]; omega
theorem de_tup {g : LF} {n k : Nat} (ha : DAs X cl W es g) (hl : Len g n) (hn : n ≤ 10000 := by decide) : DE X cl W (.Tuple es k pos) (dTup g) :=
  PE.imp (pe_tup ha) fun σ H Q q => by
    obtain ⟨F, al, sl, mu, w, po⟩ := q
    refine ⟨F, al, sl, mu, w, ?_⟩
    unfold dTup dBind obind at po
    cases q : g sl mu with
    | ok ds mu1 =>
      rw [q] at po
      intro vs F1 al1 H1 x r
      refine ⟨by rw [RpL.len r, hl _ _ _ _ q]; exact le_line hn, fun p hp => ?_⟩
      have x2 := x.trans (Ext.laidF x.mus (o := .tup vs) hp)
      exact po _ _ _ _ x2 (.tup upd_same ((Ext.laidF x.mus hp).rpL r))
    | ex c fs mu1 => rw [q] at po; exact po
    | bad => rw [q] at po; exact po
theorem Mus.ne_laid {T : Th} {F : Hp} {al : Nat → Addr} {mu : Store} {H : Hp} {p : Addr} (m : Mus T F al mu H) (hp : H p = none) : ∀ k m', mu[k]? = some (some m') → al k ≠ p := fun k m' e z => by
  obtain ⟨_, o, h, _⟩ := m.at_ k m' e
  rw [z, hp] at h; cases h
theorem dn_lst {g : LF} {n : Nat} (ha : DAs X cl W es g) (hl : Len g n) (hn : n ≤ 10000 := by decide) : DN X cl W (.List es pos) (dLst g) :=
  PE.imp (pe_lst ha) fun σ H Q q => by
    obtain ⟨F, al, sl, mu, w, po⟩ := q
    refine ⟨F, al, sl, mu, w, ?_⟩
    unfold dLst dBind obind at po
    cases q : g sl mu with
    | ok ds mu1 =>
      rw [q] at po
      intro vs F1 al1 H1 x r
      refine ⟨by rw [RpL.len r, hl _ _ _ _ q]; exact le_line hn, fun p hp => ?_⟩
      have x2 := x.trans (Ext.laidH x.mus (o := .lst vs) hp)
      exact po _ _ _ _ x2 ⟨p, _, rfl, x.there p hp, x.mus.F_none hp, upd_same, r, Mus.ne_laid x.mus hp⟩
    | ex c fs mu1 => rw [q] at po; exact po
    | bad => rw [q] at po; exact po
/-- a new object, frozen at once -/
theorem de_frz {f : NF} (h : DN X cl W e f) : DE X cl W e (dFrz f) := PE.imp h fun σ H Q q => by
  obtain ⟨F, al, sl, mu, w, po⟩ := q
  refine ⟨F, al, sl, mu, w, ?_⟩
  unfold dFrz dBind obind at po
  cases q : f sl mu with
  | ok m mu1 =>
    rw [q] at po
    intro v F1 al1 H1 x r
    obtain ⟨a, o, rfl, h0, h1, h2, h3, h4⟩ := r
    have x2 := x.freeze h0 h1 h2 h4
    cases m with
    | dct kvs => exact False.elim po
    | lst l => exact po _ _ _ _ x2 (rp_freeze (m := .lst l) h1 h3 fun _ z => nomatch z)
    | ins c fs => exact po _ _ _ _ x2 (rp_freeze (m := .ins c fs) h1 h3 fun _ z => nomatch z)
  | ex c fs mu1 => rw [q] at po; exact po
  | bad => rw [q] at po; exact po

/-! ### operators -/
def Pur2 (T : Th) (r : R2) (g : D → D → Option D) : Prop := ∀ (F : Hp) (al : Nat → Addr) (mu : Store) (H : Hp), Mus T F al mu H → ∀ (x y : V) (d e res : D), Rp T F al mu.length x d → Rp T F al mu.length y e → g d e = some res → ∀ Q : VK,
  (∀ v F' H', Ext T F al mu H F' al mu H' → Rp T F' al mu.length v res → Q v H') → r x y H Q
def PurB (T : Th) (r : R2) (g : D → D → Option Bool) : Prop := ∀ (F : Hp) (al : Nat → Addr) (mu : Store) (H : Hp), Mus T F al mu H → ∀ (x y : V) (d e : D) (res : Bool), Rp T F al mu.length x d → Rp T F al mu.length y e → g d e = some res → ∀ Q : VK,
  Q (.bl res) H → r x y H Q
theorem tOp_of {r : R2} {g : D → D → Option D} (hr : Pur2 (Cx.th X cl) r g) {σ : St} {H : Hp} {Q : VK} (q : tG (Cx.th X cl) W (RD (Cx.th X cl)) (dOp2 g fa fb) σ H Q) : tOp r (tG (Cx.th X cl) W (RD (Cx.th X cl)) fa) (tG (Cx.th X cl) W (RD (Cx.th X cl)) fb) σ H Q := by
  obtain ⟨F, al, sl, mu, w, po⟩ := q
  refine seqG back_RD w po rfl fun v d F1 al1 mu1 H1 x1 w1 r1 po1 => ?_
  refine seqG back_RD w1 po1 rfl fun u e F2 al2 mu2 H2 x2 w2 r2 po2 => ?_
  dsimp only at po2
  cases z : g d e with
  | none => rw [z] at po2; exact False.elim po2
  | some res =>
    rw [z] at po2
    exact hr F2 al2 mu2 H2 w2.toMus v u d e res (x2.rp r1) r2 z Q fun v' F' H' x' r' => po2 v' F' al2 H' x' r'
theorem de_op {op : Operator} {r : R2} {g : D → D → Option D} (ho : OpR X (binaryOp op) r) (hr : Pur2 (Cx.th X cl) r g) (ha : DE X cl W a fa) (hb : DE X cl W b fb) : DE X cl W (.BinOp a op b pos) (dOp2 g fa fb) :=
  PE.imp (pe_op ho ha hb) fun σ H Q q => tOp_of hr q
theorem tCmp_of {r : R2} {g : D → D → Option Bool} (hr : PurB (Cx.th X cl) r g) {σ : St} {H : Hp} {Q : VK} (q : tG (Cx.th X cl) W (RD (Cx.th X cl)) (dB2v (dCmp g fa fb)) σ H Q) : tOp r (tG (Cx.th X cl) W (RD (Cx.th X cl)) fa) (tG (Cx.th X cl) W (RD (Cx.th X cl)) fb) σ H Q := by
  have q' : tG (Cx.th X cl) W (RD (Cx.th X cl)) (dOp2 (fun x y => (g x y).map D.bl) fa fb) σ H Q := by
    have e : dB2v (dCmp g fa fb) = dOp2 (fun x y => (g x y).map D.bl) fa fb := by
      funext sl mu
      unfold dB2v dCmp dOp2 dBind obind
      cases fa sl mu with
      | ok x mu1 =>
        dsimp only
        cases fb sl mu1 with
        | ok y mu2 => dsimp only; cases g x y <;> rfl
        | ex _ _ _ => rfl
        | bad => rfl
      | ex _ _ _ => rfl
      | bad => rfl
    rw [← e]; exact q
  refine tOp_of (g := fun x y => (g x y).map D.bl) (fun F al mu H m x y d e res rx ry z Q k => ?_) q'
  obtain ⟨b, h1, rfl⟩ := Option.map_eq_some_iff.mp z
  exact hr F al mu H m x y d e b rx ry h1 Q (k _ _ _ (Ext.refl m) (.bl b))
theorem de_cmp {op : CmpOp} {r : R2} {g : D → D → Option Bool} (ho : OpR X (compareOp op) r) (hm : behindInMarks op b = false) (hr : PurB (Cx.th X cl) r g) (ha : DE X cl W a fa) (hb : DE X cl W b fb) : DE X cl W (.Compare a [op] [b] pos) (dB2v (dCmp g fa fb)) :=
  PE.imp (pe_cmpR ho ha hb hm) fun σ H Q q => tCmp_of hr q

/-! ### tests -/
theorem tB2v {f : BF} {σ : St} {H : Hp} {Q : Bool → Hp → Prop} (q : tG (Cx.th X cl) W RB f σ H Q) : tG (Cx.th X cl) W (RD (Cx.th X cl)) (dB2v f) σ H fun x H' => ∃ c, x = .bl c ∧ Q c H' := by
  obtain ⟨F, al, sl, mu, w, po⟩ := q
  refine ⟨F, al, sl, mu, w, ?_⟩
  unfold dB2v dBind obind
  cases z : f sl mu with
  | ok b mu1 =>
    rw [z] at po
    intro v F1 al1 H1 x r
    cases r
    exact ⟨b, rfl, po b F1 al1 H1 x rfl⟩
  | ex c fs mu1 => rw [z] at po; exact po
  | bad => rw [z] at po; exact po
theorem tTst {f : EF} {σ : St} {H : Hp} {Q : Bool → Hp → Prop} (q : tG (Cx.th X cl) W RB (dTst f) σ H Q) : tG (Cx.th X cl) W (RD (Cx.th X cl)) f σ H fun x H' => ∃ c, x = .bl c ∧ Q c H' := by
  obtain ⟨F, al, sl, mu, w, po⟩ := q
  refine seqG back_RB w po rfl fun v d F1 al1 mu1 H1 x1 w1 r1 po1 => ?_
  cases d <;> first
    | exact False.elim po1
    | (cases r1; exact ⟨_, rfl, Po.here po1 w1.toMus rfl⟩)
theorem dt_cmp {f : BF} (h : DE X cl W e (dB2v f)) (he : ∀ whole, isTrue e X.env whole = (do let v ← whole; standAt e.pos; holding [v] (truthy v)) := by intro _; rfl) : DT X cl W e f := PT.imp (pt_val h he) fun σ H Q q => tB2v q
theorem dt_val {f : EF} (h : DE X cl W e f) (he : ∀ whole, isTrue e X.env whole = (do let v ← whole; standAt e.pos; holding [v] (truthy v)) := by intro _; rfl) : DT X cl W e (dTst f) := PT.imp (pt_val h he) fun σ H Q q => tTst q
theorem PW.imp {t t' : TT} (h : PW X e t) (i : ∀ σ H Q, t' σ H Q → t σ H Q) : PW X e t' := ⟨fun whole pins s σ H Q I q => h.run whole pins s σ H Q I (i σ H Q q)⟩
theorem dw_and1 {f : BF} (h : DT X cl W a f) : DW X cl W (.BoolOp .And [a] pos) f := pw_and1 h
theorem dw_or1 {f : BF} (h : DT X cl W a f) : DW X cl W (.BoolOp .Or [a] pos) f := pw_or1 h
theorem dw_and {f g : BF} (h : DT X cl W a f) (hr : DW X cl W (.BoolOp .And (b :: rest) pos) g) : DW X cl W (.BoolOp .And (a :: b :: rest) pos) (dAnd f g) :=
  PW.imp (pw_and h hr) fun σ H Q q => by
    obtain ⟨F, al, sl, mu, w, po⟩ := q
    refine seqG back_RB w po rfl fun v d F1 al1 mu1 H1 x1 w1 r1 po1 => ?_
    cases r1
    dsimp only at po1
    split
    · rename_i hb
      rw [if_pos hb] at po1
      exact ⟨_, _, _, _, w1, po1⟩
    · rename_i hb
      rw [if_neg hb] at po1
      exact Po.here po1 w1.toMus rfl
theorem dw_or {f g : BF} (h : DT X cl W a f) (hr : DW X cl W (.BoolOp .Or (b :: rest) pos) g) : DW X cl W (.BoolOp .Or (a :: b :: rest) pos) (dOr f g) :=
  PW.imp (pw_or h hr) fun σ H Q q => by
    obtain ⟨F, al, sl, mu, w, po⟩ := q
    refine seqG back_RB w po rfl fun v d F1 al1 mu1 H1 x1 w1 r1 po1 => ?_
    cases r1
    dsimp only at po1
    split
    · rename_i hb
      rw [if_pos hb] at po1
      exact Po.here po1 w1.toMus rfl
    · rename_i hb
      rw [if_neg hb] at po1
      exact ⟨_, _, _, _, w1, po1⟩
theorem dt_w {f : BF} (h : DW X cl W e f) : DT X cl W e f := PW.pt h
theorem dt_not {f : BF} (h : DT X cl W a f) : DT X cl W (.UnaryOp .Not a pos) (dNot f) := PT.imp (pt_not h) fun σ H Q q => by
  obtain ⟨F, al, sl, mu, w, po⟩ := q
  refine seqG back_RB w po rfl fun v d F1 al1 mu1 H1 x1 w1 r1 po1 => ?_
  cases r1
  exact Po.here po1 w1.toMus rfl
/-- the same as values -/
theorem de_one {op : PySem.BoolOp} {f : BF} (h : DE X cl W a (dB2v f)) : DE X cl W (.BoolOp op [a] pos) (dB2v f) := pe_one h
theorem b2v_tst {f : BF} : dTst (dB2v f) = f := by
  funext sl mu
  unfold dTst dB2v dBind obind
  cases f sl mu <;> rfl
theorem tTst' {f : BF} {g : BF} {σ : St} {H : Hp} {Q : VK} {k : Bool → Bool → Prop} (q : tG (Cx.th X cl) W RB f σ H (fun c H' => Q (.bl c) H')) : tG (Cx.th X cl) W (RD (Cx.th X cl)) (dB2v f) σ H Q := by
  obtain ⟨F, al, sl, mu, w, po⟩ := tB2v q
  refine ⟨F, al, sl, mu, w, ?_⟩
  cases z : dB2v f sl mu with
  | ok d mu1 =>
    rw [z] at po
    intro v F1 al1 H1 x r
    obtain ⟨c, rfl, h⟩ := po v F1 al1 H1 x r
    exact h
  | ex c fs mu1 => rw [z] at po; exact po
  | bad => rw [z] at po; exact po
theorem tV2B {f : BF} {σ : St} {H : Hp} {Q : VK} (q : tG (Cx.th X cl) W (RD (Cx.th X cl)) (dB2v f) σ H Q) : tG (Cx.th X cl) W RB f σ H (fun c H' => Q (.bl c) H') := by
  obtain ⟨F, al, sl, mu, w, po⟩ := q
  refine ⟨F, al, sl, mu, w, ?_⟩
  unfold dB2v dBind obind at po
  cases z : f sl mu with
  | ok b mu1 =>
    rw [z] at po
    intro v F1 al1 H1 x r
    cases r
    exact po _ F1 al1 H1 x (.bl _)
  | ex c fs mu1 => rw [z] at po; exact po
  | bad => rw [z] at po; exact po
theorem de_and {f g : BF} (h : DE X cl W a (dB2v f)) (hr : DE X cl W (.BoolOp .And (b :: rest) pos) (dB2v g)) : DE X cl W (.BoolOp .And (a :: b :: rest) pos) (dB2v (dAnd f g)) :=
  PE.imp (pe_and h hr) fun σ H Q q => by
    obtain ⟨F, al, sl, mu, w, po⟩ := tV2B q
    refine tB2v (Q := fun c H' => if c = true then tG (Cx.th X cl) W (RD (Cx.th X cl)) (dB2v g) σ H' Q else Q (.bl false) H') ?_
    refine seqG back_RB w po rfl fun v d F1 al1 mu1 H1 x1 w1 r1 po1 => ?_
    cases r1
    dsimp only at po1
    split
    · rename_i hb
      rw [if_pos hb] at po1
      exact tTst' (g := g) (k := fun _ _ => True) ⟨_, _, _, _, w1, po1⟩
    · rename_i hb
      rw [if_neg hb] at po1
      exact Po.here (R := RB) (Q := fun c H' => Q (.bl c) H') po1 w1.toMus rfl
theorem de_or {f g : BF} (h : DE X cl W a (dB2v f)) (hr : DE X cl W (.BoolOp .Or (b :: rest) pos) (dB2v g)) : DE X cl W (.BoolOp .Or (a :: b :: rest) pos) (dB2v (dOr f g)) :=
  PE.imp (pe_or h hr) fun σ H Q q => by
    obtain ⟨F, al, sl, mu, w, po⟩ := tV2B q
    refine tB2v (Q := fun c H' => if c = true then Q (.bl true) H' else tG (Cx.th X cl) W (RD (Cx.th X cl)) (dB2v g) σ H' Q) ?_
    refine seqG back_RB w po rfl fun v d F1 al1 mu1 H1 x1 w1 r1 po1 => ?_
    cases r1
    dsimp only at po1
    split
    · rename_i hb
      rw [if_pos hb] at po1
      exact Po.here (R := RB) (Q := fun c H' => Q (.bl c) H') po1 w1.toMus rfl
    · rename_i hb
      rw [if_neg hb] at po1
      exact tTst' (g := g) (k := fun _ _ => True) ⟨_, _, _, _, w1, po1⟩
theorem de_not {f : BF} (h : DE X cl W a (dB2v f)) : DE X cl W (.UnaryOp .Not a pos) (dB2v (dNot f)) := PE.imp (pe_not h) fun σ H Q q => by
  obtain ⟨F, al, sl, mu, w, po⟩ := tV2B q
  refine tB2v (Q := fun c H' => Q (.bl (!c)) H') ?_
  refine seqG back_RB w po rfl fun v d F1 al1 mu1 H1 x1 w1 r1 po1 => ?_
  cases r1
  exact Po.here (R := RB) (Q := fun c H' => Q (.bl c) H') po1 w1.toMus rfl
/-- a call that gives a truth value, as an operand of and, or, not -/
theorem de_tst {f : EF} (h : DE X cl W e f) : DE X cl W e (dB2v (dTst f)) := PE.imp h fun σ H Q q => by
  obtain ⟨F, al, sl, mu, w, po⟩ := tV2B q
  refine seqG back_RB w po rfl fun v d F1 al1 mu1 H1 x1 w1 r1 po1 => ?_
  cases d <;> first
    | exact False.elim po1
    | (cases r1; exact Po.here (R := RB) (Q := fun c H' => Q (.bl c) H') po1 w1.toMus rfl)
theorem de_if {c : PySem.Expr} {f : BF} (hc : DT X cl W c f) (ha : DE X cl W a fa) (hb : DE X cl W b fb) : DE X cl W (.IfExp c a b pos) (dIf f fa fb) :=
  PE.imp (pe_ifExp hc ha hb) fun σ H Q q => by
    obtain ⟨F, al, sl, mu, w, po⟩ := q
    refine seqG back_RD w po rfl fun v d F1 al1 mu1 H1 x1 w1 r1 po1 => ?_
    cases r1
    dsimp only at po1
    split
    · rename_i hb
      rw [if_pos hb] at po1
      exact ⟨_, _, _, _, w1, po1⟩
    · rename_i hb
      rw [if_neg hb] at po1
      exact ⟨_, _, _, _, w1, po1⟩
end
end DL
end

section
set_option Elab.async false
set_option linter.all false
set_option maxRecDepth 100000
set_option maxHeartbeats 4000000
/-! DD: calls of defs, statements, loops. -/
namespace DL
open PySem L2

/-! ### what a def promises -/
abbrev FF := List D → Store → Out D
def spD (T : Th) (np : Nat) (p : FF) : Sp := fun vs H Q E => ∃ F al mu ds, Mus T F al mu H ∧ RpL T F al mu.length vs ds ∧ ds.length = np ∧ Po T (fun c d _ H' => E c d H') F al mu [] H (RD T) (p ds mu) Q
structure Gf (P : Program) (w : World) (K : PySem.W.Frag) (mg : Str → Option Value) (base : Heap) (cl : Nat → Addr) (k : Nat) (x : Str) (np : Nat) (p : FF) : Prop where
  ex : ∃ (f : Addr) (fd : FuncData) (ps : List Str), FnOk P w K mg base (L2.CX P w) k f fd ps (spD ⟨K, cl⟩ np p) ∧ mg x = some (.ref f) ∧ PySem.W.keepIn K (.ref f) = true ∧ L2.Binds K fd ps []
def dCall (p : FF) (g : LF) : EF := dBind g fun ds _ mu => p ds mu
section
variable {X : Cx} {cl : Nat → Addr} {W : WX} {a b e : PySem.Expr} {es rest : List PySem.Expr} {fa fb f : EF} {pos p1 : Pos} {k np : Nat} {x : Str} {p : FF}
theorem Po.wish {α β : Type} {T : Th} {W1 W2 : WX} {F : Hp} {al : Nat → Addr} {mu : Store} {σ τ : St} {H : Hp} {R : Rel β α} {o : Out α} {Q : β → Hp → Prop} (h : Po T W1 F al mu σ H R o Q) (i : ∀ c d H', W1 c d σ H' → W2 c d τ H') : Po T W2 F al mu τ H R o Q := by
  cases o with
  | ok d mu' => exact h
  | ex c fs mu' => exact fun dx F' al' H' x r => i _ _ _ (h dx F' al' H' x r)
  | bad => exact h
theorem de_call {g : LF} (c : Gf X.prog X.w X.K X.mg X.base cl k x np p) (hr : Room k X.A) (hg : Gl X x) (tk : Takes X W) (ha : DAs X cl W (e :: es) g) (hl : Len g np) (hdb : (x == ("__debug__" : Str)) = false := by decide)
    (he : starEach (e :: es) X.env = (false, eval e X.env) :: starEach es X.env := by rfl) (hpl : (backTo pos (starEach es X.env)).any (·.1) = false := by rfl) : DE X cl W (.Call (.Name x p1) (e :: es) [] pos) (dCall p g) := by
  obtain ⟨f, fd, ps, hf, hm, hk, hb⟩ := c.ex
  refine PE.imp (pe_callS (E := WE W) hf hr hg hm hk hb (passAt tk) ha hdb he hpl) fun σ H Q q => ?_
  obtain ⟨F, al, sl, mu, w, po⟩ := q
  refine ⟨F, al, sl, mu, w, ?_⟩
  unfold dCall dBind obind at po
  cases z : g sl mu with
  | ok ds mu1 =>
    rw [z] at po
    intro vs F1 al1 H1 x1 r1
    exact ⟨F1, al1, mu1, ds, x1.mus, r1, hl _ _ _ _ z, Po.wish (Po.step back_RD x1 po) fun _ _ _ h => h⟩
  | ex c fs mu1 => rw [z] at po; exact po
  | bad => rw [z] at po; exact po
end

/-! ### statements -/
abbrev SF := Sl → Store → OutS
/-- where the frame began -/
structure En where
  F : Hp
  al : Nat → Addr
  mu : Store
  H : Hp
def OwnNew (n : En) (sl : Sl) (σ : St) : Prop := ∀ (i : Nat) m a, sl[i]? = some (some (SV.own m)) → σ[i]? = some (some (V.ref a)) → n.H a = none
structure W3 (T : Th) (n : En) (F : Hp) (al : Nat → Addr) (sl : Sl) (mu : Store) (σ : St) (H : Hp) : Prop where
  x : Ext T n.F n.al n.mu n.H F al mu H
  w : Wd T F al sl mu σ H
  o : OwnNew n sl σ
/-- the frozen part grows, the store's places stay -/
structure Gr (F : Hp) (al : Nat → Addr) (mu : Store) (F' : Hp) (al' : Nat → Addr) (mu' : Store) : Prop where
  sub : ∀ a o, F a = some o → F' a = some o
  als : ∀ k, k < mu.length → al' k = al k
  ln : mu.length ≤ mu'.length
theorem Gr.refl {F : Hp} {al : Nat → Addr} {mu : Store} : Gr F al mu F al mu := ⟨fun _ _ h => h, fun _ _ => rfl, Nat.le_refl _⟩
theorem Gr.trans {F F1 F2 : Hp} {al al1 al2 : Nat → Addr} {mu mu1 mu2 : Store} (a : Gr F al mu F1 al1 mu1) (b : Gr F1 al1 mu1 F2 al2 mu2) : Gr F al mu F2 al2 mu2 :=
  ⟨fun x o h => b.sub x o (a.sub x o h), fun k h => (b.als k (Nat.lt_of_lt_of_le h a.ln)).trans (a.als k h), Nat.le_trans a.ln b.ln⟩
theorem Ext.gr {T : Th} {F F1 H H1 : Hp} {al al1 : Nat → Addr} {mu mu1 : Store} (x : Ext T F al mu H F1 al1 mu1 H1) : Gr F al mu F1 al1 mu1 := ⟨x.sub, x.als, x.ln⟩
def PoS (T : Th) (W : WX) (n : En) (F : Hp) (al : Nat → Addr) (mu : Store) (Z : Ends) (o : OutS) : Prop :=
  match o with
  | .nx sl' mu' => ∀ σ' F' al' H', Gr F al mu F' al' mu' → W3 T n F' al' sl' mu' σ' H' → Z.nx σ' H'
  | .bk sl' mu' => ∀ σ' F' al' H', Gr F al mu F' al' mu' → W3 T n F' al' sl' mu' σ' H' → Z.bk σ' H'
  | .ct sl' mu' => ∀ σ' F' al' H', Gr F al mu F' al' mu' → W3 T n F' al' sl' mu' σ' H' → Z.ct σ' H'
  | .rt d mu' => ∀ v F' al' H', Gr F al mu F' al' mu' → Ext T n.F n.al n.mu n.H F' al' mu' H' → Rp T F' al' mu'.length v d → Z.rt v H'
  | .ex c fs sl' mu' => ∀ dx σ' F' al' H', Gr F al mu F' al' mu' → W3 T n F' al' sl' mu' σ' H' → ExR T F' al' mu'.length H' dx fs → W (.ref (T.cls c)) dx σ' H'
  | .bad => False
def tS (T : Th) (W : WX) (n : En) (g : SF) : TS := fun Z σ H => ∃ F al sl mu, W3 T n F al sl mu σ H ∧ PoS T W n F al mu Z (g sl mu)
abbrev DS (X : Cx) (cl : Nat → Addr) (W : WX) (n : En) (st : PySem.Stmt) (g : SF) : Prop := PS X st (tS (Cx.th X cl) W n g)
abbrev DSs (X : Cx) (cl : Nat → Addr) (W : WX) (n : En) (st : List PySem.Stmt) (g : SF) : Prop := PSs X st (tS (Cx.th X cl) W n g)
def sbind {α : Type} (o : Out α) (sl : Sl) (g : α → Store → OutS) : OutS :=
  match o with
  | .ok d mu => g d mu
  | .ex c fs mu => .ex c fs sl mu
  | .bad => .bad
section
variable {T : Th} {W : WX} {n : En} {F F1 H H1 : Hp} {al al1 : Nat → Addr} {mu mu1 : Store} {sl : Sl} {σ : St} {Z : Ends}
theorem W3.ext (w : W3 T n F al sl mu σ H) (x : Ext T F al mu H F1 al1 mu1 H1) : W3 T n F1 al1 sl mu1 σ H1 := ⟨w.x.trans x, w.w.ext x, w.o⟩
theorem PoS.step {o : OutS} (g : Gr F al mu F1 al1 mu1) (h : PoS T W n F al mu Z o) : PoS T W n F1 al1 mu1 Z o := by
  cases o with
  | nx sl' mu' => exact fun σ' F' al' H' g' => h σ' F' al' H' (g.trans g')
  | bk sl' mu' => exact fun σ' F' al' H' g' => h σ' F' al' H' (g.trans g')
  | ct sl' mu' => exact fun σ' F' al' H' g' => h σ' F' al' H' (g.trans g')
  | rt d mu' => exact fun v F' al' H' g' => h v F' al' H' (g.trans g')
  | ex c fs sl' mu' => exact fun dx σ' F' al' H' g' => h dx σ' F' al' H' (g.trans g')
  | bad => exact h
/-- an expression ahead of the rest of a statement -/
theorem seqS {α β : Type} {R : Rel β α} {f : Sl → Store → Out α} {o : OutS} {g : α → Store → OutS} {P : β → Hp → Prop} (w : W3 T n F al sl mu σ H) (h : PoS T W n F al mu Z o) (e : o = sbind (f sl mu) sl g)
    (k : ∀ v d F1 al1 mu1 H1, Ext T F al mu H F1 al1 mu1 H1 → W3 T n F1 al1 sl mu1 σ H1 → R H F1 al1 mu1 H1 v d → PoS T W n F1 al1 mu1 Z (g d mu1) → P v H1) : tG T W R f σ H P := by
  refine ⟨F, al, sl, mu, w.w, ?_⟩
  subst e
  cases q : f sl mu with
  | ok d mu1 =>
    rw [q] at h
    intro v F1 al1 H1 x r
    exact k v d F1 al1 mu1 H1 x (w.ext x) r (PoS.step x.gr (show PoS T W n F al mu Z (g d mu1) from h))
  | ex c fs mu1 =>
    rw [q] at h
    intro dx F1 al1 H1 x r
    exact h dx σ F1 al1 H1 x.gr (w.ext x) r
  | bad => rw [q] at h; exact h
theorem PoS.nx {sl' : Sl} {mu' : Store} (h : PoS T W n F al mu Z (.nx sl' mu')) {σ' : St} (w : W3 T n F al sl' mu' σ' H) (e : mu.length ≤ mu'.length := by exact Nat.le_refl _) : Z.nx σ' H := h σ' F al H ⟨fun _ _ h => h, fun _ _ => rfl, e⟩ w
/-- another end -/
theorem PoS.ends {o : OutS} {Z' : Ends} (h : PoS T W n F al mu Z o) (h1 : ∀ σ H, Z.nx σ H → Z'.nx σ H) (h2 : ∀ v H, Z.rt v H → Z'.rt v H) (h3 : ∀ σ H, Z.bk σ H → Z'.bk σ H) (h4 : ∀ σ H, Z.ct σ H → Z'.ct σ H) : PoS T W n F al mu Z' o := by
  cases o with
  | nx sl' mu' => exact fun σ' F' al' H' g w => h1 _ _ (h σ' F' al' H' g w)
  | bk sl' mu' => exact fun σ' F' al' H' g w => h3 _ _ (h σ' F' al' H' g w)
  | ct sl' mu' => exact fun σ' F' al' H' g w => h4 _ _ (h σ' F' al' H' g w)
  | rt d mu' => exact fun v F' al' H' g w r => h2 _ _ (h v F' al' H' g w r)
  | ex c fs sl' mu' => exact h
  | bad => exact h
end

/-! ### denotations of statements -/
def sSkip : SF := fun sl mu => .nx sl mu
def sExpr (f : EF) : SF := fun sl mu => sbind (f sl mu) sl fun _ mu => .nx sl mu
def sAsg (i : Nat) (f : EF) : SF := fun sl mu => sbind (f sl mu) sl fun d mu => .nx (sl.set i (some (.val d))) mu
def sOwn (i : Nat) (f : NF) : SF := fun sl mu => sbind (f sl mu) sl fun m mu => .nx (sl.set i (some (.own m))) mu
def sRet (f : EF) : SF := fun sl mu => sbind (f sl mu) sl fun d mu => .rt d mu
def sRetN : SF := fun _ mu => .rt .non mu
def sIf (c : BF) (s t : SF) : SF := fun sl mu => sbind (c sl mu) sl fun b mu => if b = true then s sl mu else t sl mu
def snext (o : OutS) (t : SF) : OutS := match o with
  | .nx sl mu => t sl mu
  | o => o
def sSeq (s t : SF) : SF := fun sl mu => snext (s sl mu) t
def sBrk : SF := fun sl mu => .bk sl mu
def sCnt : SF := fun sl mu => .ct sl mu
/-- a slot's own object is frozen -/
def sFz (i : Nat) (s : SF) : SF := fun sl mu => match sl[i]? with
  | some (some (.own (.lst l))) => s (sl.set i (some (.val (.lst l)))) mu
  | some (some (.own (.ins c fs))) => s (sl.set i (some (.val (.ins c fs)))) mu
  | some (some (.val _)) => s sl mu
  | _ => .bad
section
variable {T : Th} {W : WX} {n : En} {F F1 H H0 H1 : Hp} {al al1 : Nat → Addr} {mu mu1 : Store} {sl : Sl} {σ : St} {Z : Ends}
theorem set_get {α : Type} {l : List (Option α)} {i j : Nat} {x : Option α} {y : α} (h : (l.set i x)[j]? = some (some y)) : (i = j ∧ x = some y ∧ i < l.length) ∨ (i ≠ j ∧ l[j]? = some (some y)) := by
  rw [List.getElem?_set] at h
  split at h
  · rename_i e
    split at h
    · rename_i hl
      cases h
      exact .inl ⟨e, rfl, hl⟩
    · cases h
  · rename_i e
    exact .inr ⟨e, h⟩
/-- data into a slot -/
theorem Wd.setVal (w : Wd T F al sl mu σ H) {i : Nat} {v : V} {d : D} (r : Rp T F al mu.length v d) : Wd T F al (sl.set i (some (.val d))) mu (σ.set i (some v)) H where
  toMus := w.toMus
  len := by rw [List.length_set, List.length_set]; exact w.len
  val := fun j d' e => by
    rcases set_get e with ⟨rfl, h, hl⟩ | ⟨ne, h⟩
    · cases h
      exact ⟨v, List.getElem?_set_self (by rw [w.len]; exact hl), r⟩
    · obtain ⟨v', h1, h2⟩ := w.val j d' h
      exact ⟨v', by rw [List.getElem?_set_ne ne]; exact h1, h2⟩
  own := fun j m e => by
    rcases set_get e with ⟨_, h, _⟩ | ⟨ne, h⟩
    · cases h
    · obtain ⟨a, o, h1, h2⟩ := w.own j m h
      exact ⟨a, o, by rw [List.getElem?_set_ne ne]; exact h1, h2⟩
  apart := fun j k m m' a ne e1 e2 g1 g2 => by
    rcases set_get e1 with ⟨_, h, _⟩ | ⟨n1, h1⟩
    · cases h
    · rcases set_get e2 with ⟨_, h, _⟩ | ⟨n2, h2⟩
      · cases h
      · rw [List.getElem?_set_ne n1] at g1
        rw [List.getElem?_set_ne n2] at g2
        exact w.apart j k m m' a ne h1 h2 g1 g2
theorem OwnNew.setVal (o : OwnNew n sl σ) {i : Nat} {v : V} {d : D} : OwnNew n (sl.set i (some (.val d))) (σ.set i (some v)) := fun j m a e g => by
  rcases set_get e with ⟨_, h, _⟩ | ⟨ne, h⟩
  · cases h
  · rw [List.getElem?_set_ne ne] at g
    exact o j m a h g
theorem W3.setVal (w : W3 T n F al sl mu σ H) {i : Nat} {v : V} {d : D} (r : Rp T F al mu.length v d) : W3 T n F al (sl.set i (some (.val d))) mu (σ.set i (some v)) H := ⟨w.x, w.w.setVal r, w.o.setVal⟩
/-- a new object into a slot -/
theorem Wd.setOwn (w : Wd T F al sl mu σ H) (hs : ∀ (j : Nat) m a, sl[j]? = some (some (SV.own m)) → σ[j]? = some (some (V.ref a)) → H0 a ≠ none) {i : Nat} {v : V} {m : MO} (r : RN T H0 F al mu H v m) : Wd T F al (sl.set i (some (.own m))) mu (σ.set i (some v)) H where
  toMus := w.toMus
  len := by rw [List.length_set, List.length_set]; exact w.len
  val := fun j d' e => by
    rcases set_get e with ⟨_, h, _⟩ | ⟨ne, h⟩
    · cases h
    · obtain ⟨v', h1, h2⟩ := w.val j d' h
      exact ⟨v', by rw [List.getElem?_set_ne ne]; exact h1, h2⟩
  own := fun j m' e => by
    rcases set_get e with ⟨rfl, h, hl⟩ | ⟨ne, h⟩
    · cases h
      obtain ⟨a, o, rfl, h0, h1, h2, h3, h4⟩ := r
      exact ⟨a, o, List.getElem?_set_self (by rw [w.len]; exact hl), h1, h2, h3, h4⟩
    · obtain ⟨a, o, h1, h2⟩ := w.own j m' h
      exact ⟨a, o, by rw [List.getElem?_set_ne ne]; exact h1, h2⟩
  apart := fun j k m1 m2 a ne e1 e2 g1 g2 => by
    obtain ⟨b, o, rfl, h0, _⟩ := r
    rcases set_get e1 with ⟨rfl, h, hl⟩ | ⟨n1, h1⟩
    · rcases set_get e2 with ⟨rfl, _, _⟩ | ⟨n2, h2⟩
      · exact ne rfl
      · rw [List.getElem?_set_self (by rw [w.len]; exact hl)] at g1
        rw [List.getElem?_set_ne n2] at g2
        cases g1
        exact hs k m2 a h2 g2 h0
    · rcases set_get e2 with ⟨rfl, h, hl⟩ | ⟨n2, h2⟩
      · rw [List.getElem?_set_self (by rw [w.len]; exact hl)] at g2
        rw [List.getElem?_set_ne n1] at g1
        cases g2
        exact hs j m1 a h1 g1 h0
      · rw [List.getElem?_set_ne n1] at g1
        rw [List.getElem?_set_ne n2] at g2
        exact w.apart j k m1 m2 a ne h1 h2 g1 g2
theorem Wd.ownThere (w : Wd T F al sl mu σ H) : ∀ (j : Nat) m a, sl[j]? = some (some (SV.own m)) → σ[j]? = some (some (V.ref a)) → H a ≠ none := fun j m a e g z => by
  obtain ⟨b, o, h1, _, h2, _⟩ := w.own j m e
  rw [g] at h1; cases h1
  rw [z] at h2; cases h2
theorem W3.setOwn (w0 : W3 T n F al sl mu σ H) (x : Ext T F al mu H F1 al1 mu1 H1) {i : Nat} {v : V} {m : MO} (r : RN T H F1 al1 mu1 H1 v m) : W3 T n F1 al1 (sl.set i (some (.own m))) mu1 (σ.set i (some v)) H1 := by
  have w := w0.ext x
  refine ⟨w.x, w.w.setOwn w0.w.ownThere r, fun j m' a e g => ?_⟩
  rcases set_get e with ⟨rfl, h, hl⟩ | ⟨ne, h⟩
  · obtain ⟨b, o, rfl, h0, _⟩ := r
    rw [List.getElem?_set_self (by rw [w.w.len]; exact hl)] at g
    cases g
    exact w0.x.there a h0
  · rw [List.getElem?_set_ne ne] at g
    exact w.o j m' a h g
/-- a slot's own object is frozen -/
theorem W3.freeze (w : W3 T n F al sl mu σ H) {i : Nat} {m : MO} (e : sl[i]? = some (some (.own m))) (hm : ∀ kvs, m ≠ .dct kvs) : ∃ F', Gr F al mu F' al mu ∧ W3 T n F' al (sl.set i (some (.val m.d))) mu σ H := by
  obtain ⟨a, o, h1, h2, h3, h4, h5⟩ := w.w.own i m e
  have x2 := w.x.freeze (w.o i m a e h1) h2 h3 h5
  have up : ∀ b u, F b = some u → upd F a o b = some u := fun b u q => by rw [upd_ne (ne_of_none q h2)]; exact q
  refine ⟨upd F a o, ⟨up, fun _ _ => rfl, Nat.le_refl _⟩, x2, ⟨x2.mus, by rw [List.length_set]; exact w.w.len, fun j d q => ?_, fun j m' q => ?_, fun j k m1 m2 b ne e1 e2 g1 g2 => ?_⟩, fun j m' b q g => ?_⟩
  · rcases set_get q with ⟨rfl, h, hl⟩ | ⟨ne, h⟩
    · cases h
      exact ⟨_, h1, rp_freeze h2 h4 hm⟩
    · obtain ⟨v, g1, g2⟩ := w.w.val j d h
      exact ⟨v, g1, g2.mono up (fun _ _ => rfl) (Nat.le_refl _)⟩
  · rcases set_get q with ⟨_, h, _⟩ | ⟨ne, h⟩
    · cases h
    · obtain ⟨b, u, g1, g2, g3, g4, g5⟩ := w.w.own j m' h
      refine ⟨b, u, g1, ?_, g3, g4.mono up (fun _ _ => rfl) (Nat.le_refl _), g5⟩
      have : b ≠ a := fun z => w.w.apart i j m m' a ne e h h1 (by rw [← z]; exact g1)
      rw [upd_ne this]; exact g2
  · rcases set_get e1 with ⟨_, h, _⟩ | ⟨_, k1⟩
    · cases h
    · rcases set_get e2 with ⟨_, h, _⟩ | ⟨_, k2⟩
      · cases h
      · exact w.w.apart j k m1 m2 b ne k1 k2 g1 g2
  · rcases set_get q with ⟨_, h, _⟩ | ⟨_, h⟩
    · cases h
    · exact w.o j m' b h g
/-- a slot's own object is changed -/
theorem W3.upd (w : W3 T n F al sl mu σ H) {i : Nat} {m m' : MO} {a : Addr} {o : HO} (e : sl[i]? = some (some (.own m))) (ha : σ[i]? = some (some (V.ref a))) (c : Conc T F al mu.length o m') : W3 T n F al (sl.set i (some (.own m'))) mu σ (upd H a o) := by
  obtain ⟨a', o', h1, h2, h3, h4, h5⟩ := w.w.own i m e
  rw [ha] at h1; cases h1
  have h0 : n.H a = none := w.o i m a e ha
  have hl : i < sl.length := (List.getElem?_eq_some_iff.mp e).1
  have M : Mus T F al mu (L2.upd H a o) := ⟨fun b u q => by rw [upd_ne (ne_of_none q h2)]; exact w.w.sub b u q, fun k m q => by
    obtain ⟨g1, u, g2, g3⟩ := w.w.at_ k m q
    exact ⟨g1, u, by rw [upd_ne (h5 k m q)]; exact g2, g3⟩, w.w.inj⟩
  refine ⟨⟨M, w.x.sub, w.x.new, fun b u q z => ?_, fun b q => w.x.there b (there_upd b q), w.x.als, w.x.ln, w.x.fresh⟩, ⟨M, by rw [List.length_set]; exact w.w.len, fun j d q => ?_, fun j m2 q => ?_, fun j k m1 m2 b ne e1 e2 g1 g2 => ?_⟩, fun j m2 b q g => ?_⟩
  · rw [upd_ne (ne_of_none q h0)]; exact w.x.keep b u q z
  · rcases set_get q with ⟨_, h, _⟩ | ⟨_, h⟩
    · cases h
    · exact w.w.val j d h
  · rcases set_get q with ⟨rfl, h, _⟩ | ⟨ne, h⟩
    · cases h
      exact ⟨a, o, ha, h2, upd_same, c, h5⟩
    · obtain ⟨b, u, g1, g2, g3, g4, g5⟩ := w.w.own j m2 h
      have : b ≠ a := fun z => w.w.apart i j m m2 a ne e h ha (by rw [← z]; exact g1)
      exact ⟨b, u, g1, g2, by rw [upd_ne this]; exact g3, g4, g5⟩
  · have own_of : ∀ {j : Nat} {m1 : MO}, (sl.set i (some (SV.own m')))[j]? = some (some (SV.own m1)) → ∃ m0, sl[j]? = some (some (SV.own m0)) := fun {j m1} q => by
      rcases set_get q with ⟨rfl, _, _⟩ | ⟨_, h⟩
      · exact ⟨m, e⟩
      · exact ⟨m1, h⟩
    obtain ⟨p1, k1⟩ := own_of e1
    obtain ⟨p2, k2⟩ := own_of e2
    exact w.w.apart j k p1 p2 b ne k1 k2 g1 g2
  · rcases set_get q with ⟨rfl, _, _⟩ | ⟨_, h⟩
    · exact w.o _ m b e g
    · exact w.o j m2 b h g
end
end DL
end

section
set_option Elab.async false
set_option linter.all false
set_option maxRecDepth 100000
set_option maxHeartbeats 4000000
/-! DF: the rules of statements, loops, defs. -/
namespace DL
open PySem L2
section
variable {X : Cx} {cl : Nat → Addr} {W : WX} {n : En} {a b e : PySem.Expr} {es : List PySem.Expr} {st : PySem.Stmt} {sts : List PySem.Stmt} {f : EF} {s t : SF} {pos p1 : Pos} {x : Str}
theorem ds_expr (he : DE X cl W e f) (hs : swapsWith e none pos.line X.env = pure false := by rfl) : DS X cl W n (.Expr e pos) (sExpr f) := PS.imp (ps_expr he hs) fun Z σ H q => by
  obtain ⟨F, al, sl, mu, w, po⟩ := q
  exact seqS w po rfl fun v d F1 al1 mu1 H1 x1 w1 r1 po1 => PoS.nx po1 w1
theorem ds_asg {i : Nat} {p' : Pos} (hN : X.N.Nodup) (hi : X.N[i]? = some x) (hx : Loc X.env.scope x) (he : DE X cl W e f) (hs : swapsWith e (some (.Name x p')) pos.line X.env = pure false := by rfl)
    (hf : X.fn x = true ∨ X.env.scope.names.lookup x = some .local := by first | exact .inl rfl | exact .inr rfl | assumption) : DS X cl W n (.Assign [.Name x p'] e pos) (sAsg i f) := PS.imp (ps_set hN hi hx he hs hf) fun Z σ H q => by
  obtain ⟨F, al, sl, mu, w, po⟩ := q
  exact seqS w po rfl fun v d F1 al1 mu1 H1 x1 w1 r1 po1 => PoS.nx po1 (w1.setVal r1)
theorem ds_own {i : Nat} {p' : Pos} {f : NF} (hN : X.N.Nodup) (hi : X.N[i]? = some x) (hx : Loc X.env.scope x) (he : DN X cl W e f) (hs : swapsWith e (some (.Name x p')) pos.line X.env = pure false := by rfl)
    (hf : X.fn x = true ∨ X.env.scope.names.lookup x = some .local := by first | exact .inl rfl | exact .inr rfl | assumption) : DS X cl W n (.Assign [.Name x p'] e pos) (sOwn i f) := PS.imp (ps_set hN hi hx he hs hf) fun Z σ H q => by
  obtain ⟨F, al, sl, mu, w, po⟩ := q
  exact seqS w po rfl fun v m F1 al1 mu1 H1 x1 w1 r1 po1 => PoS.nx po1 (w.setOwn x1 r1)
theorem ds_ret (he : DE X cl W e f) : DS X cl W n (.Return (some e) pos) (sRet f) := PS.imp (ps_ret he) fun Z σ H q => by
  obtain ⟨F, al, sl, mu, w, po⟩ := q
  exact seqS w po rfl fun v d F1 al1 mu1 H1 x1 w1 r1 po1 => po1 v F1 al1 H1 Gr.refl w1.x r1
theorem ds_retN : DS X cl W n (.Return none pos) sRetN := PS.imp ps_retN fun Z σ H q => by
  obtain ⟨F, al, sl, mu, w, po⟩ := q
  exact po .non F al H Gr.refl w.x .non
theorem ds_if {c : BF} (hc : DT X cl W e c) (ha : DSs X cl W n sts s) {ss : List PySem.Stmt} (hb : DSs X cl W n ss t) : DS X cl W n (.If e sts ss pos) (sIf c s t) := PS.imp (ps_if hc ha hb) fun Z σ H q => by
  obtain ⟨F, al, sl, mu, w, po⟩ := q
  refine seqS w po rfl fun v d F1 al1 mu1 H1 x1 w1 r1 po1 => ?_
  cases r1
  split
  · rename_i hb
    rw [if_pos hb] at po1
    exact ⟨_, _, _, _, w1, po1⟩
  · rename_i hb
    rw [if_neg hb] at po1
    exact ⟨_, _, _, _, w1, po1⟩
theorem ds_pass : DS X cl W n (.Pass pos) sSkip := PS.imp ps_pass fun Z σ H q => by
  obtain ⟨F, al, sl, mu, w, po⟩ := q
  exact PoS.nx po w
theorem ds_brk : DS X cl W n (.Break pos) sBrk := PS.imp ps_break fun Z σ H q => by
  obtain ⟨F, al, sl, mu, w, po⟩ := q
  exact po σ F al H Gr.refl w
theorem ds_cnt : DS X cl W n (.Continue pos) sCnt := PS.imp ps_continue fun Z σ H q => by
  obtain ⟨F, al, sl, mu, w, po⟩ := q
  exact po σ F al H Gr.refl w
theorem dss_nil : DSs X cl W n [] sSkip := PSs.imp pss_nil fun Z σ H q => by
  obtain ⟨F, al, sl, mu, w, po⟩ := q
  exact PoS.nx po w
theorem dss_one (h : DS X cl W n st s) : DSs X cl W n [st] s := pss_one h
theorem dss_cons (h : DS X cl W n st s) (hr : DSs X cl W n sts t) : DSs X cl W n (st :: sts) (sSeq s t) := PSs.imp (pss_cons h hr) fun Z σ H q => by
  obtain ⟨F, al, sl, mu, w, po⟩ := q
  refine ⟨F, al, sl, mu, w, ?_⟩
  unfold sSeq snext at po
  cases z : s sl mu with
  | nx sl' mu' =>
    rw [z] at po
    exact fun σ' F' al' H' g w' => ⟨F', al', sl', mu', w', PoS.step g po⟩
  | rt d mu' => rw [z] at po; exact po
  | bk sl' mu' => rw [z] at po; exact po
  | ct sl' mu' => rw [z] at po; exact po
  | ex c fs sl' mu' => rw [z] at po; exact po
  | bad => rw [z] at po; exact po
theorem ds_fz {i : Nat} (h : DS X cl W n st s) : DS X cl W n st (sFz i s) := PS.imp h fun Z σ H q => by
  obtain ⟨F, al, sl, mu, w, po⟩ := q
  unfold sFz at po
  split at po
  · rename_i l e
    obtain ⟨F', g, w'⟩ := w.freeze e fun _ z => nomatch z
    exact ⟨F', al, _, mu, w', PoS.step g po⟩
  · rename_i c fs e
    obtain ⟨F', g, w'⟩ := w.freeze e fun _ z => nomatch z
    exact ⟨F', al, _, mu, w', PoS.step g po⟩
  · exact ⟨F, al, sl, mu, w, po⟩
  · exact False.elim po
/-- the end of a block that is never come to, or whose denotation is never asked -/
theorem ds_never : DS X cl W n st (fun _ _ => .bad) := PS.imp ps_never fun Z σ H q => by
  obtain ⟨F, al, sl, mu, w, po⟩ := q
  exact po
theorem dss_never : DSs X cl W n sts (fun _ _ => .bad) := PSs.imp pss_never fun Z σ H q => by
  obtain ⟨F, al, sl, mu, w, po⟩ := q
  exact po
end

/-! ### loops -/
/-- what is walked: its items -/
def RI (T : Th) : Rel It (List D) := fun _ F al mu _ J ds => ∃ (G : Hp → Prop) (Y : Nat → Hp → V → Hp → Prop), Walk J ds.length G Y ∧
  (∀ (F' H' : Hp), (∀ a o, F a = some o → F' a = some o) → (∀ a o, F' a = some o → H' a = some o) → G H') ∧
  ∀ (F' : Hp) (al' : Nat → Addr) (mu' : Store) (H' : Hp) (i : Nat) (x : V) (H2 : Hp), Gr F al mu F' al' mu' → Mus T F' al' mu' H' → i < ds.length → Y i H' x H2 → ∃ d F2, ds[i]? = some d ∧ Ext T F' al' mu' H' F2 al' mu' H2 ∧ Rp T F2 al' mu'.length x d
abbrev DI (X : Cx) (cl : Nat → Addr) (W : WX) (tg e : PySem.Expr) (f : LF) : Prop := PI X tg e (tG (Cx.th X cl) W (RI (Cx.th X cl)) f)
/-- a target: a name; names of a tuple, of a list -/
inductive Tg where
  | nm (i : Nat) | tp (is : List Nat) | ls (is : List Nat)
def Tg.ix : Tg → List Nat
  | .nm i => [i]
  | .tp is => is
  | .ls is => is
def gSets : List Nat → List D → Sl → Option Sl
  | [], [], sl => some sl
  | i :: is, d :: ds, sl => gSets is ds (sl.set i (some (.val d)))
  | _, _, _ => none
def Tg.run : Tg → D → Sl → Option Sl
  | .nm i, d, sl => some (sl.set i (some (.val d)))
  | .tp is, d, sl => match d with
    | .tup ds => gSets is ds sl
    | _ => none
  | .ls is, d, sl => match d with
    | .lst ds => gSets is ds sl
    | _ => none
/-- the slots changed at is alone -/
def AtIx (is : List Nat) (σ σ' : St) : Prop := ∀ vs : List Nat, (∀ i ∈ is, i ∈ vs) → wipe σ' vs = wipe σ vs
def tTgt (T : Th) (g : Tg) : TG := fun v σ H Q => ∃ F al sl mu d sl', Wd T F al sl mu σ H ∧ Rp T F al mu.length v d ∧ g.run d sl = some sl' ∧ ∀ σ', Wd T F al sl' mu σ' H → (∀ n, OwnNew n sl σ → OwnNew n sl' σ') → AtIx g.ix σ σ' → Q σ' H
abbrev DG (X : Cx) (cl : Nat → Addr) (tg : PySem.Expr) (g : Tg) : Prop := PG X tg (tTgt (Cx.th X cl) g)
theorem wipe_set {i : Nat} {x : Option V} : ∀ {vs : List Nat} {σ : St}, i ∈ vs → wipe (σ.set i x) vs = wipe σ vs
  | [], _, h => by cases h
  | v :: vs, σ, h => by
    show (wipe (σ.set i x) vs).set v none = (wipe σ vs).set v none
    by_cases hm : i ∈ vs
    · rw [wipe_set hm]
    · have e : i = v := by
        rcases List.mem_cons.mp h with h | h
        · exact h
        · exact absurd h hm
      subst e
      have key : ∀ (vs : List Nat) (σ : St), i ∉ vs → wipe (σ.set i x) vs = (wipe σ vs).set i x := by
        intro vs
        induction vs with
        | nil => intro σ _; rfl
        | cons w ws ih =>
          intro σ hn
          show (wipe (σ.set i x) ws).set w none = ((wipe σ ws).set w none).set i x
          rw [ih σ fun q => hn (List.mem_cons_of_mem _ q)]
          rw [List.set_comm]
          intro e
          exact hn (by rw [e]; exact List.mem_cons_self)
      rw [key vs σ hm, List.set_set]
theorem AtIx.set {i : Nat} {x : Option V} {σ : St} : AtIx [i] σ (σ.set i x) := fun vs h => wipe_set (h i List.mem_cons_self)
theorem AtIx.refl {σ : St} {is : List Nat} : AtIx is σ σ := fun _ _ => rfl
def tTgts (T : Th) (is : List Nat) : TGs := fun vs σ H Q => ∃ F al sl mu ds sl', Wd T F al sl mu σ H ∧ RpL T F al mu.length vs ds ∧ gSets is ds sl = some sl' ∧ ∀ σ', Wd T F al sl' mu σ' H → (∀ n, OwnNew n sl σ → OwnNew n sl' σ') → AtIx is σ σ' → Q σ' H
section
variable {X : Cx} {cl : Nat → Addr} {W : WX} {n : En} {a b e tg : PySem.Expr} {es : List PySem.Expr} {pos : Pos} {x : Str}
theorem PG.imp {t t' : TG} (h : PG X e t) (i : ∀ v σ H Q, t' v σ H Q → t v σ H Q) : PG X e t' := ⟨fun pins s σ H v u Q I r q => h.run pins s σ H v u Q I r (i v σ H Q q)⟩
theorem PGs.imp {t t' : TGs} (h : PGs X es t) (i : ∀ v σ H Q, t' v σ H Q → t v σ H Q) : PGs X es t' := ⟨fun pins s σ H v u Q I r q => h.run pins s σ H v u Q I r (i v σ H Q q)⟩
theorem dg_name {i : Nat} (hN : X.N.Nodup) (hi : X.N[i]? = some x) (hx : Loc X.env.scope x) (hf : X.fn x = true ∨ X.env.scope.names.lookup x = some .local := by first | exact .inl rfl | exact .inr rfl | assumption) : DG X cl (.Name x pos) (.nm i) :=
  PG.imp (pg_name hN hi hx hf) fun v σ H Q q => by
    obtain ⟨F, al, sl, mu, d, sl', w, r, e, k⟩ := q
    cases e
    exact k _ (w.setVal r) (fun n o => o.setVal) AtIx.set
abbrev DGs (X : Cx) (cl : Nat → Addr) (es : List PySem.Expr) (is : List Nat) : Prop := PGs X es (tTgts (Cx.th X cl) is)
theorem dgs_nil : DGs X cl [] [] := PGs.imp pgs_nil fun v σ H Q q => by
  obtain ⟨F, al, sl, mu, ds, sl', w, r, e, k⟩ := q
  cases ds with
  | cons _ _ => cases e
  | nil =>
    cases e
    cases r
    exact ⟨rfl, k σ w (fun _ o => o) AtIx.refl⟩
theorem dgs_cons {i : Nat} {is : List Nat} (hN : X.N.Nodup) (hi : X.N[i]? = some x) (hx : Loc X.env.scope x) (hr : DGs X cl es is) (hf : X.fn x = true ∨ X.env.scope.names.lookup x = some .local := by first | exact .inl rfl | exact .inr rfl | assumption) : DGs X cl (.Name x pos :: es) (i :: is) :=
  PGs.imp (pgs_cons (pg_name hN hi hx hf) hr) fun v σ H Q q => by
    obtain ⟨F, al, sl, mu, ds, sl', w, r, e, k⟩ := q
    cases ds with
    | nil => cases e
    | cons d ds =>
      cases r with
      | cons r1 r2 =>
        exact ⟨_, _, rfl, F, al, _, mu, ds, sl', w.setVal r1, r2, e, fun σ' w' o' i' => k σ' w' (fun n o => o' n o.setVal) fun vs h => by rw [i' vs fun j hj => h j (List.mem_cons_of_mem _ hj)]; exact wipe_set (h _ List.mem_cons_self)⟩
theorem gSets_len : ∀ {is : List Nat} {ds : List D} {sl sl' : Sl}, gSets is ds sl = some sl' → ds.length = is.length
  | [], [], _, _, _ => rfl
  | i :: is, d :: ds, _, _, h => by
    have := gSets_len (is := is) (ds := ds) h
    rw [List.length_cons, List.length_cons, this]
  | [], _ :: _, _, _, h => by cases h
  | _ :: _, [], _, _, h => by cases h
theorem dg_tup {is : List Nat} {k : Nat} (hc : X.calm = true) (h : DGs X cl es is) (hn : (assignEach es X.env).length = is.length := by rfl) (hst : (assignEach es X.env).findIdx? (·.1) = none := by rfl) : DG X cl (.Tuple es k pos) (.tp is) :=
  PG.imp (pg_tup (n := is.length) hc h hn hst) fun v σ H Q q => by
    obtain ⟨F, al, sl, mu, d, sl', w, r, e, k⟩ := q
    cases r with
    | @tup a xs ds hs hl =>
      have e' : gSets is ds sl = some sl' := e
      exact ⟨a, xs, rfl, sqT_mono w.sub hs, by rw [RpL.len hl]; exact gSets_len e', F, al, sl, mu, ds, sl', w, hl, e', k⟩
    | _ => cases e
theorem dg_lst {is : List Nat} {k : Nat} (hc : X.calm = true) (h : DGs X cl es is) (hn : (assignEach es X.env).length = is.length := by rfl) (hst : (assignEach es X.env).findIdx? (·.1) = none := by rfl) : DG X cl (.Tuple es k pos) (.ls is) :=
  PG.imp (pg_unl (n := is.length) hc h hn hst) fun v σ H Q q => by
    obtain ⟨F, al, sl, mu, d, sl', w, r, e, k⟩ := q
    cases r with
    | @lst a xs ds hs hl =>
      have e' : gSets is ds sl = some sl' := e
      exact ⟨a, xs, rfl, SqL.of (w.sub _ _ hs), by rw [RpL.len hl]; exact gSets_len e', F, al, sl, mu, ds, sl', w, hl, e', k⟩
    | _ => cases e
end
/-- an assignment to several names -/
def sTg (g : Tg) (f : EF) : SF := fun sl mu => sbind (f sl mu) sl fun d mu => match g.run d sl with
  | some sl' => .nx sl' mu
  | none => .bad
def sForL (tgt : Tg) (body : SF) : List D → Sl → Store → OutS
  | [], sl, mu => .nx sl mu
  | d :: ds, sl, mu => match tgt.run d sl with
    | none => .bad
    | some sl1 => match body sl1 mu with
      | .nx sl2 mu2 => sForL tgt body ds sl2 mu2
      | .ct sl2 mu2 => sForL tgt body ds sl2 mu2
      | .bk sl2 mu2 => .nx sl2 mu2
      | o => o
def sFor (src : LF) (tgt : Tg) (body : SF) : SF := fun sl mu => sbind (src sl mu) sl fun ds mu => sForL tgt body ds sl mu
def sWhl (c : BF) (body : SF) : Nat → SF
  | 0, _, _ => .bad
  | n + 1, sl, mu => sbind (c sl mu) sl fun b mu => if b = true then (match body sl mu with
      | .nx sl2 mu2 => sWhl c body n sl2 mu2
      | .ct sl2 mu2 => sWhl c body n sl2 mu2
      | .bk sl2 mu2 => .nx sl2 mu2
      | o => o) else .nx sl mu
section
variable {X : Cx} {cl : Nat → Addr} {W : WX} {n : En} {a b e tg : PySem.Expr} {es : List PySem.Expr} {sts : List PySem.Stmt} {pos : Pos} {x : Str}
theorem ds_tg {f : EF} {g : Tg} (hg : DG X cl tg g) (he : DE X cl W e f) (hs : swapsWithSole [tg] e pos.line X.env = pure false := by rfl) (hw : swappedStores [tg] e X.env = pure none := by rfl) (h1 : (assignEach [tg] X.env).map (·.2) = [assign tg X.env] := by rfl) : DS X cl W n (.Assign [tg] e pos) (sTg g f) :=
  PS.imp (ps_asg he hg hs hw h1) fun Z σ H q => by
    obtain ⟨F, al, sl, mu, w, po⟩ := q
    refine seqS w po rfl fun v d F1 al1 mu1 H1 x1 w1 r1 po1 => ?_
    cases z : g.run d sl with
    | none => simp only [z] at po1; exact False.elim po1
    | some sl' =>
      simp only [z] at po1
      exact ⟨F1, al1, sl, mu1, d, sl', w1.w, r1, z, fun σ' w' o' _ => PoS.nx po1 ⟨w1.x, w', o' n w1.o⟩⟩
/-- the ends of a loop's turn -/
theorem turn_ends {T : Th} {F : Hp} {al : Nat → Addr} {mu : Store} {Z : Ends} {o : OutS} {P : St → Hp → Prop} {go : Sl → Store → OutS} (h : PoS T W n F al mu Z (match o with
      | .nx sl2 mu2 => go sl2 mu2
      | .ct sl2 mu2 => go sl2 mu2
      | .bk sl2 mu2 => .nx sl2 mu2
      | o => o)) (k : ∀ σ' F' al' sl' mu' H', Gr F al mu F' al' mu' → W3 T n F' al' sl' mu' σ' H' → PoS T W n F' al' mu' Z (go sl' mu') → P σ' H') : PoS T W n F al mu { Z with nx := P, ct := P, bk := Z.nx } o := by
  cases o with
  | nx sl2 mu2 => exact fun σ' F' al' H' g w => k σ' F' al' sl2 mu2 H' g w (PoS.step g h)
  | ct sl2 mu2 => exact fun σ' F' al' H' g w => k σ' F' al' sl2 mu2 H' g w (PoS.step g h)
  | bk sl2 mu2 => exact h
  | rt d mu2 => exact h
  | ex c fs sl2 mu2 => exact h
  | bad => exact h
theorem ds_for {src : LF} {g : Tg} {body : SF} (hp : PassesOwn (model X.prog X.w) X.A X.env X.xe) (hc : X.calm = true) (hi : DI X cl W tg e src) (hg : DG X cl tg g) (hb : DSs X cl W n sts body)
    (hs : ∀ x, foldedSetIterable e X.env x = pure x := by intro _; rfl) : DS X cl W n (.For tg e sts [] pos) (sFor src g body) :=
  PS.imp (ps_for hp hc hi hg hb hs) fun Z σ H q => by
    obtain ⟨F, al, sl, mu, w, po⟩ := q
    refine seqS w po rfl fun J ds F1 al1 mu1 H1 x1 w1 r1 po1 => ?_
    obtain ⟨G, Y, wk, hG, hY⟩ := r1
    refine for_it wk (fun i σ H => ∃ F2 al2 sl2 mu2, Gr F1 al1 mu1 F2 al2 mu2 ∧ W3 (Cx.th X cl) n F2 al2 sl2 mu2 σ H ∧ PoS (Cx.th X cl) W n F2 al2 mu2 Z (sForL g body (ds.drop i) sl2 mu2)) ?_ ?_ ?_ ?_
    · exact ⟨F1, al1, sl, mu1, Gr.refl, w1, po1⟩
    · rintro i σ H _ ⟨F2, al2, sl2, mu2, gr, w2, _⟩
      exact hG F2 H gr.sub w2.w.sub
    · rintro i x σ H H' hi ⟨F2, al2, sl2, mu2, gr, w2, po2⟩ y
      obtain ⟨d, F3, hd, x3, r3⟩ := hY F2 al2 mu2 H i x H' gr w2.w.toMus hi y
      have e : ds.drop i = d :: ds.drop (i + 1) := by
        rw [List.getElem?_eq_some_iff] at hd
        obtain ⟨h1, h2⟩ := hd
        rw [← h2]
        exact List.drop_eq_getElem_cons h1
      rw [e] at po2
      unfold sForL at po2
      split at po2
      · exact False.elim po2
      · rename_i sl3 hg3
        have w3 := w2.ext x3
        refine ⟨F3, al2, sl2, mu2, d, sl3, w3.w, r3, hg3, fun σ' w' o' _ => ⟨F3, al2, sl3, mu2, ⟨w3.x, w', o' n w3.o⟩, ?_⟩⟩
        refine turn_ends (PoS.step x3.gr po2) fun σ5 F5 al5 sl5 mu5 H5 g5 w5 po5 => ?_
        exact ⟨F5, al5, sl5, mu5, gr.trans (x3.gr.trans g5), w5, po5⟩
    · rintro σ H ⟨F2, al2, sl2, mu2, gr, w2, po2⟩
      rw [List.drop_length] at po2
      exact PoS.nx po2 w2
theorem ds_while {c : BF} {body : SF} {m : Nat} (hp : PassesOwn (model X.prog X.w) X.A X.env X.xe) (hc : DT X cl W e c) (hb : DSs X cl W n sts body) : DS X cl W n (.While e sts [] pos) (sWhl c body m) :=
  PS.imp (ps_while hp hc hb) fun Z σ H q => by
    obtain ⟨F, al, sl, mu, w, po⟩ := q
    refine ⟨fun m σ H => ∃ F al sl mu, W3 (Cx.th X cl) n F al sl mu σ H ∧ PoS (Cx.th X cl) W n F al mu Z (sWhl c body m sl mu), ⟨m, F, al, sl, mu, w, po⟩, ?_⟩
    rintro m σ H ⟨F, al, sl, mu, w, po⟩
    cases m with
    | zero => exact False.elim po
    | succ m =>
      unfold sWhl at po
      refine seqS w po rfl fun v d F1 al1 mu1 H1 x1 w1 r1 po1 => ?_
      cases r1
      split
      · rename_i hb
        rw [if_pos hb] at po1
        refine ⟨fun σ' H' => ∃ F al sl mu, W3 (Cx.th X cl) n F al sl mu σ' H' ∧ PoS (Cx.th X cl) W n F al mu Z (sWhl c body m sl mu), fun σ' H' h => ⟨m, Nat.lt_succ_self m, h⟩, F1, al1, sl, mu1, w1, ?_⟩
        exact turn_ends po1 fun σ5 F5 al5 sl5 mu5 H5 g5 w5 po5 => ⟨F5, al5, sl5, mu5, w5, po5⟩
      · rename_i hb
        rw [if_neg hb] at po1
        exact PoS.nx po1 w1
end

/-! ### a def by its body -/
def dFun (N : Nat) (b : SF) : FF := fun ds mu => match b (ds.map (fun d => some (.val d)) ++ List.replicate (N - ds.length) none) mu with
  | .nx _ mu' => .ok .non mu'
  | .rt d mu' => .ok d mu'
  | .ex c fs _ mu' => .ex c fs mu'
  | _ => .bad
theorem RpL.get {T : Th} {F : Hp} {al : Nat → Addr} {n : Nat} : ∀ {vs : List V} {ds : List D}, RpL T F al n vs ds → ∀ {i : Nat} {d : D}, ds[i]? = some d → ∃ v, vs[i]? = some v ∧ Rp T F al n v d
  | [], [], _, _, _, h => by simp at h
  | v :: vs, d :: ds, .cons r1 r2, i, d', h => by
    cases i with
    | zero => simp at h; subst h; exact ⟨v, rfl, r1⟩
    | succ i =>
      obtain ⟨v', h1, h2⟩ := RpL.get r2 (i := i) (d := d') (by simpa using h)
      exact ⟨v', by simpa using h1, h2⟩
  | [], d :: ds, h, _, _, _ => by cases h
  | v :: vs, [], h, _, _, _ => by cases h
theorem wd_start {T : Th} {F : Hp} {al : Nat → Addr} {mu : Store} {H : Hp} {N : List Str} {vs : List V} {ds : List D} (m : Mus T F al mu H) (r : RpL T F al mu.length vs ds) :
    Wd T F al (ds.map (fun d => some (SV.val d)) ++ List.replicate (N.length - ds.length) none) mu (L2.start N vs) H := by
  have hl := RpL.len r
  have noOwn : ∀ (i : Nat) m, (ds.map (fun d => some (SV.val d)) ++ List.replicate (N.length - ds.length) none)[i]? = some (some (SV.own m)) → False := fun i m e => by
    by_cases hi : i < ds.length
    · rw [List.getElem?_append_left (by simpa using hi), List.getElem?_map] at e
      cases q : ds[i]? with
      | none => rw [q] at e; cases e
      | some d => rw [q] at e; cases e
    · rw [List.getElem?_append_right (by simpa using hi), List.getElem?_replicate] at e
      split at e <;> cases e
  refine ⟨m, ?_, fun i d e => ?_, fun i m e => (noOwn i m e).elim, fun i j m m' a _ e _ _ _ => noOwn i m e⟩
  · unfold L2.start
    simp [hl]
  · by_cases hi : i < ds.length
    · rw [List.getElem?_append_left (by simpa using hi), List.getElem?_map] at e
      cases q : ds[i]? with
      | none => rw [q] at e; cases e
      | some d' =>
        rw [q] at e
        cases e
        obtain ⟨v, h1, h2⟩ := r.get q
        refine ⟨v, ?_, h2⟩
        unfold L2.start
        rw [List.getElem?_append_left (by simp; omega), List.getElem?_map, h1]
        rfl
    · rw [List.getElem?_append_right (by simpa using hi), List.getElem?_replicate] at e
      split at e <;> cases e
theorem ownNew_start {n : En} {N : List Str} {vs : List V} {ds : List D} : OwnNew n (ds.map (fun d => some (SV.val d)) ++ List.replicate (N.length - ds.length) none) (L2.start N vs) := fun i m a e _ => by
  exfalso
  by_cases hi : i < ds.length
  · rw [List.getElem?_append_left (by simpa using hi), List.getElem?_map] at e
    cases q : ds[i]? with
    | none => rw [q] at e; cases e
    | some d => rw [q] at e; cases e
  · rw [List.getElem?_append_right (by simpa using hi), List.getElem?_replicate] at e
    split at e <;> cases e
theorem body_of {T : Th} {N : List Str} {np : Nat} {g : SF} {vs : List V} {H : Hp} {Q : VK} {E : XK} (h : spD T np (dFun N.length g) vs H Q E) :
    ∃ n : En, tS T (fun c d _ H' => E c d H') n g { nx := fun _ H' => Q .non H', rt := Q } (L2.start N vs) H := by
  obtain ⟨F, al, mu, ds, m, r, hl, po⟩ := h
  refine ⟨⟨F, al, mu, H⟩, F, al, _, mu, ⟨Ext.refl m, wd_start (N := N) m r, ownNew_start⟩, ?_⟩
  unfold dFun at po
  cases z : g (ds.map (fun d => some (SV.val d)) ++ List.replicate (N.length - ds.length) none) mu with
  | nx sl' mu' => rw [z] at po; exact fun σ' F' al' H' _ w => po _ _ _ _ w.x .non
  | rt d mu' => rw [z] at po; exact fun v F' al' H' _ x r => po _ _ _ _ x r
  | bk sl' mu' => rw [z] at po; exact False.elim po
  | ct sl' mu' => rw [z] at po; exact False.elim po
  | ex c fs sl' mu' => rw [z] at po; exact fun dx σ' F' al' H' _ w r => po _ _ _ _ w.x r
  | bad => rw [z] at po; exact po
section
variable {P : Program} {w : World} {K : PySem.W.Frag} {mg : Str → Option Value} {base : Heap} {cl : Nat → Addr}
theorem fn_body {x qual : Str} {params : Arguments} {body : List PySem.Stmt} {scope : Scope} {f : Addr} {fd : FuncData} {N ps : List Str} {k : Nat} {g : SF} (F : FunD K x qual params body scope [] [] f fd) (S : FnScope N ps scope)
    (hb : ∀ (cdv : Value) (A : Around) (outer : List Env) (s : Shared) (H : Hp) (E : XK) (n : En), Room k (A.deeper (PyProof.Rows.envOfC qual scope s.heap.objs.size f cdv)) →
      DSs (cxOf (L2.CX P w) P w K mg base N qual scope f cdv A outer s H E) cl (fun c d _ H' => E c d H') n body g) :
    FnOk P w K mg base (L2.CX P w) (k + 1) f fd ps (spD ⟨K, cl⟩ ps.length (dFun N.length g)) := by
  refine F.ok S (fun vs H Q E h => ?_) (fun cdv A outer s H vs Q E hr h => ?_)
  · obtain ⟨F, al, mu, ds, _, r, hl, _⟩ := h
    rw [RpL.len r, hl]
  · obtain ⟨n, q⟩ := body_of (N := N) h
    exact ⟨_, hb cdv A outer s H E n hr, q⟩
theorem gf_of {x : Str} {params : Arguments} {body : List PySem.Stmt} {scope : Scope} {f : Addr} {fd : FuncData} {N ps : List Str} {k : Nat} {g : SF} (F : FunD K x x params body scope [] [] f fd) (S : FnScope N ps scope) (hm : mg x = some (.ref f)) (hbd : L2.Binds K fd ps [])
    (hb : ∀ (cdv : Value) (A : Around) (outer : List Env) (s : Shared) (H : Hp) (E : XK) (n : En), Room k (A.deeper (PyProof.Rows.envOfC x scope s.heap.objs.size f cdv)) →
      DSs (cxOf (L2.CX P w) P w K mg base N x scope f cdv A outer s H E) cl (fun c d _ H' => E c d H') n body g) :
    Gf P w K mg base cl (k + 1) x ps.length (dFun N.length g) := ⟨f, fd, ps, fn_body F S hb, hm, F.kp, hbd⟩
theorem spD_imp {T : Th} {np : Nat} {p q : FF} (h : ∀ ds mu, ds.length = np → q ds mu ≠ .bad → p ds mu = q ds mu) : ∀ vs H Q E, spD T np q vs H Q E → spD T np p vs H Q E := fun vs H Q E ⟨F, al, mu, ds, m, r, hl, po⟩ => by
  refine ⟨F, al, mu, ds, m, r, hl, ?_⟩
  by_cases z : q ds mu = .bad
  · rw [z] at po; exact False.elim po
  · rw [h ds mu hl z]; exact po
/-- the def by another function: the same wherever that one tells anything -/
theorem Gf.to {k np : Nat} {x : Str} {p q : FF} (c : Gf P w K mg base cl k x np p) (h : ∀ ds mu, ds.length = np → q ds mu ≠ .bad → p ds mu = q ds mu) : Gf P w K mg base cl k x np q := by
  obtain ⟨f, fd, ps, hf, r⟩ := c.ex
  exact ⟨f, fd, ps, hf.imp (spD_imp h), r⟩
theorem Gf.mono {j k np : Nat} {x : Str} {p : FF} (c : Gf P w K mg base cl j x np p) (h : j ≤ k) : Gf P w K mg base cl k x np p := by
  obtain ⟨f, fd, ps, hf, r⟩ := c.ex
  exact ⟨f, fd, ps, hf.mono h, r⟩
end
end DL
end

section
set_option Elab.async false
set_option linter.all false
set_option maxRecDepth 100000
set_option maxHeartbeats 4000000
/-! DH: comprehensions, what is walked. -/
namespace DL
open PySem L2
section
variable {T : Th} {F F1 H H1 : Hp} {al al1 : Nat → Addr} {mu mu1 : Store} {sl : Sl} {σ : St}
/-- an object aside is left as it is -/
theorem Ext.guard (x : Ext T F al mu H F1 al1 mu1 H1) {a : Addr} {o : HO} (h : H a = some o) (hF : F a = none) (hm : ∀ k m, mu[k]? = some (some m) → al k ≠ a) : H1 a = some o ∧ F1 a = none ∧ ∀ k m, mu1[k]? = some (some m) → al1 k ≠ a := by
  refine ⟨x.keep a o h hm, ?_, fun k m e z => ?_⟩
  · cases q : F1 a with
    | none => rfl
    | some u =>
      rcases x.new a u q with g | g | ⟨k, m', e1, e2⟩
      · rw [hF] at g; cases g
      · rw [h] at g; cases g
      · exact absurd e2 (hm k m' e1)
  · rcases x.fresh k m e with ⟨m0, g⟩ | g
    · exact hm k m0 g (by rw [← x.als k (lt_of_live g)]; exact z)
    · rw [z, h] at g; cases g
theorem Ext.updNew (x : Ext T F al mu H F1 al1 mu1 H1) {a : Addr} {o : HO} (h0 : H a = none) (hF : F1 a = none) (hm : ∀ k m, mu1[k]? = some (some m) → al1 k ≠ a) : Ext T F al mu H F1 al1 mu1 (upd H1 a o) :=
  ⟨⟨fun b u q => by rw [upd_ne (ne_of_none q hF)]; exact x.mus.sub b u q, fun k m q => by
    obtain ⟨g1, u, g2, g3⟩ := x.mus.at_ k m q
    exact ⟨g1, u, by rw [upd_ne (hm k m q)]; exact g2, g3⟩, x.mus.inj⟩, x.sub, x.new, fun b u q z => by rw [upd_ne (ne_of_none q h0)]; exact x.keep b u q z, fun b q => x.there b (there_upd b q), x.als, x.ln, x.fresh⟩

def wipeS (sl : Sl) : List Nat → Sl
  | [] => sl
  | v :: vs => (wipeS sl vs).set v none
theorem wipeS_length : ∀ vs : List Nat, (wipeS sl vs).length = sl.length
  | [] => rfl
  | v :: vs => by unfold wipeS; rw [List.length_set, wipeS_length vs]
theorem wipeS_some {i : Nat} {x : SV} : ∀ {vs : List Nat}, (wipeS sl vs)[i]? = some (some x) → sl[i]? = some (some x) ∧ i ∉ vs
  | [], h => ⟨h, by simp⟩
  | v :: vs, h => by
    unfold wipeS at h
    rcases set_get h with ⟨_, q, _⟩ | ⟨ne, q⟩
    · cases q
    · obtain ⟨h1, h2⟩ := wipeS_some q
      exact ⟨h1, by simp only [List.mem_cons, not_or]; exact ⟨fun e => ne e.symm, h2⟩⟩
theorem wipe_keep {i : Nat} : ∀ {vs : List Nat}, i ∉ vs → (wipe σ vs)[i]? = σ[i]?
  | [], _ => rfl
  | v :: vs, h => by
    unfold wipe
    rw [List.getElem?_set_ne fun e => h (by rw [e]; exact List.mem_cons_self)]
    exact wipe_keep fun q => h (List.mem_cons_of_mem _ q)
theorem Wd.wipe (w : Wd T F al sl mu σ H) (vs : List Nat) : Wd T F al (wipeS sl vs) mu (L2.wipe σ vs) H where
  toMus := w.toMus
  len := by rw [wipeS_length, wipe_length]; exact w.len
  val := fun i d e => by
    obtain ⟨h1, h2⟩ := wipeS_some e
    rw [wipe_keep h2]
    exact w.val i d h1
  own := fun i d e => by
    obtain ⟨h1, h2⟩ := wipeS_some e
    rw [wipe_keep h2]
    exact w.own i d h1
  apart := fun i j m m' a ne e1 e2 g1 g2 => by
    obtain ⟨h1, h2⟩ := wipeS_some e1
    obtain ⟨h3, h4⟩ := wipeS_some e2
    rw [wipe_keep h2] at g1
    rw [wipe_keep h4] at g2
    exact w.apart i j m m' a ne h1 h3 g1 g2
theorem wipe_wipe : ∀ (vs : List Nat), wipe (wipe σ vs) vs = wipe σ vs := fun vs => by
  have key : ∀ ws : List Nat, (∀ i ∈ ws, i ∈ vs) → wipe (wipe σ vs) ws = wipe σ vs := by
    intro ws
    induction ws with
    | nil => intro _; rfl
    | cons w ws ih =>
      intro h
      show (wipe (wipe σ vs) ws).set w none = wipe σ vs
      rw [ih fun i hi => h i (List.mem_cons_of_mem _ hi)]
      have hw := h w List.mem_cons_self
      have none_at : ∀ vs : List Nat, w ∈ vs → (wipe σ vs).set w none = wipe σ vs := by
        intro vs
        induction vs with
        | nil => intro h; cases h
        | cons v vs ih2 =>
          intro h
          show ((wipe σ vs).set v none).set w none = (wipe σ vs).set v none
          by_cases e : v = w
          · subst e; rw [List.set_set]
          · rw [List.set_comm _ _ e]
            rcases List.mem_cons.mp h with h | h
            · exact absurd h.symm e
            · rw [ih2 h]
      exact none_at vs hw
  exact key vs fun _ h => h
end

/-- no exception -/
def noex {α : Type} (o : Out α) : Out α := match o with
  | .ex _ _ _ => .bad
  | o => o
def dLcL (g : Tg) (sw : Sl) (c : BF) (elt : EF) : List D → List D → Store → Out MO
  | [], acc, mu => .ok (.lst acc) mu
  | d :: ds, acc, mu => match g.run d sw with
    | none => .bad
    | some sl1 => obind (noex (c sl1 mu)) fun b mu1 => if b = true then obind (noex (elt sl1 mu1)) fun y mu2 => dLcL g sw c elt ds (acc ++ [y]) mu2 else dLcL g sw c elt ds acc mu1
def sizeOk (ds : List D) : Bool := decide (ds.length ≤ 16000000)
def dLc (src : LF) (g : Tg) (own : List Nat) (c : BF) (elt : EF) : NF := dBind src fun ds sl mu => if sizeOk ds = true then dLcL g (wipeS sl own) c elt ds [] mu else .bad
def dYes : BF := fun _ mu => .ok true mu
abbrev WF : WX := fun _ _ _ _ => False
abbrev DTs (X : Cx) (cl : Nat → Addr) (W : WX) (ifs : List PySem.Expr) (f : BF) : Prop := PTs X ifs (tG (Cx.th X cl) W RB f)
section
variable {X : Cx} {cl : Nat → Addr} {W : WX} {n : En} {elt iter tg e : PySem.Expr} {ifs : List PySem.Expr} {pos : Pos} {scope : Scope} {own : List (Str × Nat)} {src : LF} {g : Tg} {c : BF} {f : EF}
theorem dts_nil : DTs X cl W [] dYes := ⟨fun pins s σ H Q I h => by
  obtain ⟨F, al, sl, mu, w, po⟩ := h
  exact pts_nil.run pins s σ H Q I (Po.here po w.toMus rfl)⟩
theorem dts_one {c : BF} (h : DT X cl W e c) : DTs X cl W [e] c := pts_one h
/-- the turns of a comprehension -/
theorem lc_turns {T : Th} {F1 H1 : Hp} {al1 : Nat → Addr} {mu1 : Store} {sl : Sl} {σ : St} {vs : List Nat} {ds : List D} {J : It} {Q : VK} (w1 : Wd T F1 al1 sl mu1 σ H1) (hix : ∀ i ∈ g.ix, i ∈ vs) (hsz : ds.length ≤ 16000000) (r1 : RI T H F1 al1 mu1 H1 J ds)
    (po : Po T W F1 al1 mu1 σ H1 (RN T) (dLcL g (wipeS sl vs) c f ds [] mu1) Q) {D : Addr} (hD : H1 D = none) :
    ∃ W2 : Nat → Nat → Hp → Prop, (∃ m, W2 0 m (upd H1 D (.lst []))) ∧ ∀ i m H, W2 i m H →
      (J.stop i H ∧ Q (.ref D) H) ∨ (J.go i H ∧ ∃ Nx : Hp → Prop, (∀ H', Nx H' → ∃ m', m' < m ∧ W2 (i + 1) m' H') ∧ ∀ x H', J.yld i H x H' → tTgt T g x (wipe σ vs) H' fun σ2 H2 => wipe σ2 vs = wipe σ vs ∧ tG T WF RB c σ2 H2 fun b H3 =>
        if b = true then tG T WF (RD T) f σ2 H3 fun y H4 => ∃ acc, H4 D = some (.lst acc) ∧ acc.length < sizeLine ∧ Nx (upd H4 D (.lst (acc ++ [y]))) else Nx H3) := by
  obtain ⟨G, Y, wk, hG, hY⟩ := r1
  refine lc_it (Qd := fun H => Q (.ref D) H) wk (fun i H' => ∃ F2 al2 mu2 acc vs', Ext T F1 al1 mu1 H1 F2 al2 mu2 H' ∧ H' D = some (.lst vs') ∧ F2 D = none ∧ (∀ k m, mu2[k]? = some (some m) → al2 k ≠ D) ∧ RpL T F2 al2 mu2.length vs' acc ∧ acc.length ≤ i ∧
    Po T W F1 al1 mu1 σ H1 (RN T) (dLcL g (wipeS sl vs) c f (ds.drop i) acc mu2) Q) ?_ ?_ ?_ ?_
  · exact ⟨F1, al1, mu1, [], [], Ext.laidH w1.toMus hD, upd_same, w1.F_none hD, Mus.ne_laid w1.toMus hD, .nil, Nat.le_refl _, po⟩
  · rintro i H' _ ⟨F2, al2, mu2, acc, vs', x2, _⟩
    exact hG F2 H' x2.sub x2.mus.sub
  · rintro i x H' H'' hi ⟨F2, al2, mu2, acc, vs', x2, hd, hF, hm, ra, hl, po2⟩ y
    obtain ⟨d, F3, hdd, x3, r3⟩ := hY F2 al2 mu2 H' i x H'' x2.gr x2.mus hi y
    have e : ds.drop i = d :: ds.drop (i + 1) := by
      rw [List.getElem?_eq_some_iff] at hdd
      obtain ⟨h1, h2⟩ := hdd
      rw [← h2]
      exact List.drop_eq_getElem_cons h1
    rw [e] at po2
    unfold dLcL at po2
    split at po2
    · exact False.elim po2
    · rename_i sl3 hg3
      have x4 := x2.trans x3
      obtain ⟨hd4, hF4, hm4⟩ := x3.guard hd hF hm
      refine ⟨F3, al2, wipeS sl vs, mu2, d, sl3, (w1.wipe vs).ext x4, r3, hg3, fun σ' w' _ ix' => ⟨by rw [ix' vs hix, wipe_wipe], F3, al2, sl3, mu2, w', ?_⟩⟩
      cases z : c sl3 mu2 with
      | bad => rw [z] at po2; exact po2
      | ex a b d => rw [z] at po2; exact False.elim po2
      | ok b mu3 =>
        rw [z] at po2
        intro v F5 al5 H5 x5 r5
        cases r5
        obtain ⟨hd5, hF5, hm5⟩ := x5.guard hd4 hF4 hm4
        cases b with
        | false =>
          exact ⟨F5, al5, mu3, acc, vs', x4.trans x5, hd5, hF5, hm5, x5.rpL (x3.rpL ra), by omega, po2⟩
        | true =>
          show tG T WF (RD T) f σ' H5 _
          refine ⟨F5, al5, sl3, mu3, w'.ext x5, ?_⟩
          cases z2 : f sl3 mu3 with
          | bad => simp only [noex, obind, if_true, z2] at po2; exact po2
          | ex a b d => simp only [noex, obind, if_true, z2] at po2; exact False.elim po2
          | ok y mu4 =>
            simp only [noex, obind, if_true, z2] at po2
            intro u F6 al6 H6 x6 r6
            obtain ⟨hd6, hF6, hm6⟩ := x6.guard hd5 hF5 hm5
            have hlen := RpL.len ra
            refine ⟨vs', hd6, by rw [hlen, sizeLine_eq]; omega, F6, al6, mu4, acc ++ [y], vs' ++ [u], ((x4.trans x5).trans x6).updNew hD hF6 hm6, upd_same, hF6, hm6, ?_, by simp; omega, po2⟩
            have happ : ∀ {us : List V} {es : List DL.D}, RpL T F6 al6 mu4.length us es → RpL T F6 al6 mu4.length (us ++ [u]) (es ++ [y]) := by
              intro us
              induction us with
              | nil =>
                intro es h
                cases h
                exact .cons r6 .nil
              | cons v us ih =>
                intro es h
                cases h with
                | cons h1 h2 => exact .cons h1 (ih h2)
            exact happ (x6.rpL (x5.rpL (x3.rpL ra)))
  · rintro H' ⟨F2, al2, mu2, acc, vs', x2, hd, hF, hm, ra, hl, po2⟩
    rw [List.drop_length] at po2
    exact po2 _ F2 al2 H' x2 ⟨D, _, rfl, hD, hF, hd, ra, hm⟩
theorem dn_lc (hc : X.calm = true) (hN : X.N.Nodup) (hi : DI X cl W tg iter src) (ok : BlkOk X.N X.env.scope scope own) (hg : ∀ (s : Shared) (H : Hp) (C : Addr) (l : List (Str × Addr)) (fp : List Addr), DG (X.blk s H scope (compEnvC scope l C X.env) fp) cl tg g)
    (ht : ∀ (s : Shared) (H : Hp) (C : Addr) (l : List (Str × Addr)) (fp : List Addr), DTs (X.blk s H scope (compEnvC scope l C X.env) fp) cl WF ifs c) (he : ∀ (s : Shared) (H : Hp) (C : Addr) (l : List (Str × Addr)) (fp : List Addr), DE (X.blk s H scope (compEnvC scope l C X.env) fp) cl WF elt f)
    (hix : ∀ i ∈ g.ix, i ∈ own.map (·.2)) (hs : ∀ x, foldedSetIterable iter X.env x = pure x := by intro _; rfl) : DN X cl W (.ListComp elt [⟨tg, iter, ifs, 0⟩] scope pos) (dLc src g (own.map (·.2)) c f) :=
  PE.imp (pe_lc hc hN hi ok hg ht he hs) fun σ H Q q => by
    obtain ⟨F, al, sl, mu, w, po⟩ := q
    refine seqG back_RN w po rfl fun J ds F1 al1 mu1 H1 x1 w1 r1 po1 D hD => ?_
    dsimp only at po1
    split at po1
    · rename_i hsz
      exact lc_turns (W := W) (H := H) w1 hix (of_decide_eq_true hsz) r1 po1 hD
    · exact False.elim po1
/-- y = [.. for ..] -/
theorem ds_lc {i : Nat} {y : Str} {py spos : Pos} (hc : X.calm = true) (hN : X.N.Nodup) (hy : X.N[i]? = some y) (hyl : X.env.scope.names.lookup y = some .local) (hsw : swapsWith (.ListComp elt [⟨tg, iter, ifs, 0⟩] scope pos) (some (.Name y py)) spos.line X.env = pure true)
    (hi : DI X cl W tg iter src) (ok : BlkOk X.N X.env.scope scope own) (hg : ∀ (s : Shared) (H : Hp) (C : Addr) (l : List (Str × Addr)) (fp : List Addr), DG (X.blk s H scope (compEnvC scope l C X.env) fp) cl tg g)
    (ht : ∀ (s : Shared) (H : Hp) (C : Addr) (l : List (Str × Addr)) (fp : List Addr), DTs (X.blk s H scope (compEnvC scope l C X.env) fp) cl WF ifs c) (he : ∀ (s : Shared) (H : Hp) (C : Addr) (l : List (Str × Addr)) (fp : List Addr), DE (X.blk s H scope (compEnvC scope l C X.env) fp) cl WF elt f)
    (hix : ∀ i ∈ g.ix, i ∈ own.map (·.2)) (hs : ∀ x, foldedSetIterable iter X.env x = pure x := by intro _; rfl) : DS X cl W n (.Assign [.Name y py] (.ListComp elt [⟨tg, iter, ifs, 0⟩] scope pos) spos) (sOwn i (dLc src g (own.map (·.2)) c f)) :=
  PS.imp (ps_setLc hc hN hy hyl hsw hi ok hg ht he hs) fun Z σ H q => by
    obtain ⟨F, al, sl, mu, w, po⟩ := q
    have q2 : tG (Cx.th X cl) W (RN (Cx.th X cl)) (dLc src g (own.map (·.2)) c f) σ H fun v H' => Z.nx (σ.set i (some v)) H' :=
      seqS w po rfl fun v m F1 al1 mu1 H1 x1 w1 r1 po1 => PoS.nx po1 (w.setOwn x1 r1)
    obtain ⟨F, al, sl, mu, w, po⟩ := q2
    refine seqG back_RN w po rfl fun J ds F1 al1 mu1 H1 x1 w1 r1 po1 D hD => ?_
    dsimp only at po1
    split at po1
    · rename_i hsz
      exact lc_turns (W := W) (H := H) (Q := fun v H' => Z.nx (σ.set i (some v)) H') w1 hix (of_decide_eq_true hsz) r1 po1 hD
    · exact False.elim po1
end

/-! ### what is walked -/
def lItems (d : D) : Option (List D) := match d with
  | .lst l => some l
  | .tup l => some l
  | _ => none
def dItL (f : EF) : LF := dBind f fun d _ mu => match d with
  | .lst l => .ok l mu
  | _ => .bad
def dItT (f : EF) : LF := dBind f fun d _ mu => match d with
  | .tup l => .ok l mu
  | _ => .bad
def rangeD (lo : Int) (n : Nat) : List D := (List.range n).map fun i => .int (lo + (i : Nat))
def rgOk (j : Int) : Bool := decide (-1000000000 ≤ j) && decide (j ≤ 1000000000)
theorem rgOk_of {j : Int} (h : rgOk j = true) : -1000000000 ≤ j ∧ j ≤ 1000000000 := by
  unfold rgOk at h
  rw [Bool.and_eq_true] at h
  exact ⟨of_decide_eq_true h.1, of_decide_eq_true h.2⟩
theorem rgOk_nat {n : Nat} (h : n ≤ 1000000000) : rgOk (n : Int) = true := by
  unfold rgOk
  rw [Bool.and_eq_true]
  exact ⟨decide_eq_true (by omega), decide_eq_true (by omega)⟩
def dRg1 (f : EF) : LF := dBind f fun d _ mu => match d with
  | .int j => if rgOk j = true then .ok (rangeD 0 j.toNat) mu else .bad
  | _ => .bad
def dRg2 (f g : EF) : LF := dBind f fun d => dBind g fun e _ mu => match d, e with
  | .int i, .int j => if (rgOk i && rgOk j) = true then .ok (rangeD i (j - i).toNat) mu else .bad
  | _, _ => .bad
def signsD (z : Str) : List D := z.cps.toList.map fun c => .str ⟨#[c]⟩
def dItS (f : EF) : LF := dBind f fun d _ mu => match d with
  | .str z => .ok (signsD z) mu
  | _ => .bad
section
variable {X : Cx} {cl : Nat → Addr} {W : WX} {e tg a b : PySem.Expr} {f fa fb : EF} {pos p1 : Pos}
theorem back_RI {T : Th} : Back (RI T) := fun _ _ _ _ _ _ _ _ _ h => h
theorem PI.imp {t t' : TI} (h : PI X tg e t) (i : ∀ σ H R, t' σ H R → t σ H R) : PI X tg e t' := ⟨fun pins s σ H R I q => h.run pins s σ H R I (i σ H R q)⟩
theorem gr_at {T : Th} {F F' : Hp} {al al' : Nat → Addr} {mu mu' : Store} {xs : List V} {ds : List D} {i : Nat} {x : V} (g : Gr F al mu F' al' mu') (h : RpL T F al mu.length xs ds) (e : xs[i]? = some x) : ∃ d, ds[i]? = some d ∧ Rp T F' al' mu'.length x d := by
  have h' := RpL.mono (T := T) g.sub g.als g.ln h
  have hl := RpL.len h'
  have hi : i < xs.length := (List.getElem?_eq_some_iff.mp e).1
  cases q : ds[i]? with
  | none => rw [List.getElem?_eq_none_iff] at q; omega
  | some d =>
    obtain ⟨v, h1, h2⟩ := h'.get q
    rw [e] at h1; cases h1
    exact ⟨d, rfl, h2⟩
theorem di_list (h : DE X cl W e f) : DI X cl W tg e (dItL f) := PI.imp (pi_list h) fun σ H R q => by
  obtain ⟨F, al, sl, mu, w, po⟩ := q
  refine seqG back_RI w po rfl fun v d F1 al1 mu1 H1 x1 w1 r1 po1 => ?_
  cases r1 with
  | @lst a xs ds ha hl =>
    refine ⟨a, rfl, ⟨xs, SqL.of (w1.sub _ _ ha)⟩, Po.here po1 w1.toMus ⟨_, _, by rw [← RpL.len hl]; exact walk_list (xs := xs), fun F' H' s1 s2 => SqL.of (s2 _ _ (s1 _ _ ha)), fun F' al' mu' H' i x H2 g m hi y => ?_⟩⟩
    obtain ⟨rfl, hx⟩ := y
    obtain ⟨d, h1, h2⟩ := gr_at g hl hx
    exact ⟨d, F', h1, Ext.refl m, h2⟩
  | _ => exact False.elim po1
theorem di_tup (h : DE X cl W e f) : DI X cl W tg e (dItT f) := PI.imp (pi_tup h) fun σ H R q => by
  obtain ⟨F, al, sl, mu, w, po⟩ := q
  refine seqG back_RI w po rfl fun v d F1 al1 mu1 H1 x1 w1 r1 po1 => ?_
  cases r1 with
  | @tup a xs ds ha hl =>
    refine ⟨a, rfl, ⟨xs, sqT_mono w1.sub ha⟩, Po.here po1 w1.toMus ⟨_, _, by rw [← RpL.len hl]; exact walk_tup (xs := xs), fun F' H' s1 s2 => sqT_mono s2 (s1 _ _ ha), fun F' al' mu' H' i x H2 g m hi y => ?_⟩⟩
    obtain ⟨rfl, hx⟩ := y
    obtain ⟨d, h1, h2⟩ := gr_at g hl hx
    exact ⟨d, F', h1, Ext.refl m, h2⟩
  | _ => exact False.elim po1
theorem rangeD_len {lo : Int} {n : Nat} : (rangeD lo n).length = n := by unfold rangeD; simp
theorem ri_range {T : Th} {H0 F H : Hp} {al : Nat → Addr} {mu : Store} {lo : Int} {n : Nat} : RI T H0 F al mu H (Itr lo n) (rangeD lo n) :=
  ⟨_, _, by rw [rangeD_len]; exact walk_range, fun _ _ _ _ => trivial, fun F' al' mu' H' i x H2 g m hi y => by
    obtain ⟨rfl, rfl⟩ := y
    rw [rangeD_len] at hi
    exact ⟨.int (lo + (i : Nat)), F', by unfold rangeD; simp [hi], Ext.refl m, .int _⟩⟩
theorem di_range1 {g : LF} (hg : Gl X "range") (hm : X.mg "range" = none) (ha : DAs X cl W [a] g) (hf : g = dCons fa dNil) (hs : starEach [a] X.env = [(false, eval a X.env)] := by rfl) : DI X cl W tg (.Call (.Name "range" p1) [a] [] pos) (dRg1 fa) :=
  PI.imp (pi_range1 hg hm ha hs) fun σ H R q => by
    obtain ⟨F, al, sl, mu, w, po⟩ := q
    subst hf
    refine ⟨F, al, sl, mu, w, ?_⟩
    unfold dCons dNil dBind obind
    unfold dRg1 dBind obind at po
    cases z : fa sl mu with
    | bad => rw [z] at po; exact po
    | ex c fs mu1 => rw [z] at po; exact po
    | ok d mu1 =>
      rw [z] at po
      intro vs F1 al1 H1 x1 r1
      cases r1 with
      | cons r1 r2 =>
        cases r2
        cases r1 with
        | int j =>
          dsimp only at po
          split at po
          · rename_i hj
            have hj := rgOk_of hj
            exact ⟨j, rfl, by omega, by omega, po _ F1 al1 H1 x1 ri_range⟩
          · exact False.elim po
        | _ => exact False.elim po
theorem di_range2 {g : LF} (hg : Gl X "range") (hm : X.mg "range" = none) (ha : DAs X cl W [a, b] g) (hf : g = dCons fa (dCons fb dNil)) (hs : starEach [a, b] X.env = [(false, eval a X.env), (false, eval b X.env)] := by rfl) (hs2 : starEach [b] X.env = [(false, eval b X.env)] := by rfl) : DI X cl W tg (.Call (.Name "range" p1) [a, b] [] pos) (dRg2 fa fb) :=
  PI.imp (pi_range2 hg hm ha hs hs2) fun σ H R q => by
    obtain ⟨F, al, sl, mu, w, po⟩ := q
    subst hf
    refine ⟨F, al, sl, mu, w, ?_⟩
    unfold dCons dNil dBind obind
    unfold dRg2 dBind obind at po
    cases z : fa sl mu with
    | bad => rw [z] at po; exact po
    | ex c fs mu1 => rw [z] at po; exact po
    | ok d mu1 =>
      rw [z] at po
      dsimp only at po ⊢
      cases z2 : fb sl mu1 with
      | bad => rw [z2] at po; exact po
      | ex c fs mu1 => rw [z2] at po; exact po
      | ok e mu2 =>
        rw [z2] at po
        intro vs F1 al1 H1 x1 r1
        cases r1 with
        | cons r1 r2 =>
          cases r2 with
          | cons r2 r3 =>
            cases r3
            cases r1 with
            | int i =>
              cases r2 with
              | int j =>
                dsimp only at po
                split at po
                · rename_i hj
                  rw [Bool.and_eq_true] at hj
                  have hi := rgOk_of hj.1
                  have hj := rgOk_of hj.2
                  exact ⟨i, j, rfl, ⟨by omega, by omega, by omega, by omega⟩, po _ F1 al1 H1 x1 ri_range⟩
                · exact False.elim po
              | _ => exact False.elim po
            | _ => exact False.elim po
theorem di_str (h : DE X cl W e f) : DI X cl W tg e (dItS f) := PI.imp (pi_str h) fun σ H R q => by
  obtain ⟨F, al, sl, mu, w, po⟩ := q
  refine seqG back_RI w po rfl fun v d F1 al1 mu1 H1 x1 w1 r1 po1 => ?_
  cases r1 with
  | str z =>
    have hl : (signsD z).length = z.cps.size := by unfold signsD; simp
    refine ⟨z, rfl, Po.here po1 w1.toMus ⟨_, _, by rw [hl]; exact walk_str (z := z), fun _ _ _ _ => trivial, fun F' al' mu' H' i x H2 g m hi y => ?_⟩⟩
    obtain ⟨rfl, c, h1, rfl⟩ := y
    refine ⟨.str ⟨#[c]⟩, F', ?_, Ext.refl m, .str _⟩
    unfold signsD
    rw [List.getElem?_map]
    have : z.cps.toList[i]? = some c := by simpa using h1
    rw [this]; rfl
  | _ => exact False.elim po1
end
end DL
end

section
set_option Elab.async false
set_option linter.all false
set_option maxRecDepth 100000
set_option maxHeartbeats 4000000
/-! DK: operands that are looked into, built-ins of one argument, subscripts, slices. -/
namespace DL
open PySem L2
def lookD (mu : Store) : D → D
  | .obj k => match mu[k]? with
    | some (some m) => m.d
    | _ => .obj k
  | d => d
/-- as it stands just now: its top in H, what is within in F -/
def Top (T : Th) (F : Hp) (al : Nat → Addr) (n : Nat) (H : Hp) (v : V) : D → Prop
  | .lst ds => ∃ a xs, v = .ref a ∧ H a = some (.lst xs) ∧ RpL T F al n xs ds
  | .ins c fs => Lv T.cls c ∧ ∃ a dx vs, v = .ref a ∧ H a = some (.ins (T.cls c) dx vs) ∧ RpF T F al n vs fs
  | d => Rp T F al n v d
section
variable {T : Th} {F F1 H H1 : Hp} {al al1 : Nat → Addr} {mu mu1 : Store} {sl : Sl} {σ : St} {v : V} {d : D}
theorem top_of (m : Mus T F al mu H) (r : Rp T F al mu.length v d) : Top T F al mu.length H v d := by
  cases r with
  | lst h1 h2 => exact ⟨_, _, rfl, m.sub _ _ h1, h2⟩
  | ins h0 h1 h2 => exact ⟨h0, _, _, _, rfl, m.sub _ _ h1, h2⟩
  | non => exact .non
  | bl b => exact .bl b
  | int i => exact .int i
  | str x => exact .str x
  | tup h1 h2 => exact .tup h1 h2
  | obj h => exact .obj h
  | frl h1 h2 => exact .frl h1 h2
  | dct h1 => exact .dct h1
theorem top_conc {a : Addr} {o : HO} {m : MO} (h : H a = some o) (c : Conc T F al mu.length o m) : Top T F al mu.length H (.ref a) m.d := by
  cases o <;> cases m <;> first
    | exact False.elim c
    | exact ⟨_, _, rfl, h, c⟩
    | (obtain ⟨⟨c1, c3⟩, c2⟩ := c; subst c1; exact ⟨c3, _, _, _, rfl, h, c2⟩)
theorem top_look (m : Mus T F al mu H) (r : Rp T F al mu.length v d) : Top T F al mu.length H v (lookD mu d) := by
  cases r with
  | @obj k hk =>
    unfold lookD
    dsimp only
    split
    · rename_i m' e
      obtain ⟨_, o, h1, h2⟩ := m.at_ k m' e
      exact top_conc h1 h2
    · exact .obj hk
  | lst h1 h2 => exact ⟨_, _, rfl, m.sub _ _ h1, h2⟩
  | ins h0 h1 h2 => exact ⟨h0, _, _, _, rfl, m.sub _ _ h1, h2⟩
  | non => exact .non
  | bl b => exact .bl b
  | int i => exact .int i
  | str x => exact .str x
  | tup h1 h2 => exact .tup h1 h2
  | frl h1 h2 => exact .frl h1 h2
  | dct h1 => exact .dct h1
end
def RK (T : Th) : Rel V D := fun _ F al mu H v d => Top T F al mu.length H v d
abbrev DKk (X : Cx) (cl : Nat → Addr) (W : WX) (e : PySem.Expr) (f : EF) : Prop := PE X e (tG (Cx.th X cl) W (RK (Cx.th X cl)) f)
def dLook (f : EF) : EF := dBind f fun d _ mu => .ok (lookD mu d) mu
def dOwnV (i : Nat) : EF := fun sl mu => match sl[i]? with
  | some (some (.own m)) => .ok m.d mu
  | some (some (.val d)) => .ok (lookD mu d) mu
  | _ => .bad
def Pur1K (T : Th) (r : List V → Hp → VK → Prop) (g : D → Option D) : Prop := ∀ (F : Hp) (al : Nat → Addr) (mu : Store) (H : Hp), Mus T F al mu H → ∀ (x : V) (d res : D), Top T F al mu.length H x d → g d = some res → ∀ Q : VK,
  (∀ v F' H', Ext T F al mu H F' al mu H' → Rp T F' al mu.length v res → Q v H') → r [x] H Q
def Pur1N (T : Th) (r : List V → Hp → VK → Prop) (g : D → Option MO) : Prop := ∀ (F : Hp) (al : Nat → Addr) (mu : Store) (H : Hp), Mus T F al mu H → ∀ (x : V) (d : D) (res : MO), Top T F al mu.length H x d → g d = some res → ∀ Q : VK,
  (∀ v F' H', Ext T F al mu H F' al mu H' → RN T H F' al mu H' v res → Q v H') → r [x] H Q
def dNw1 (g : D → Option MO) (f : EF) : NF := dBind f fun d _ mu => match g d with
  | some r => .ok r mu
  | none => .bad
section
variable {X : Cx} {cl : Nat → Addr} {W : WX} {a b e : PySem.Expr} {f fa fb : EF} {pos p1 : Pos} {x : Str} {id : String} {r : List V → Hp → VK → Prop}
theorem dk_look (h : DE X cl W e f) : DKk X cl W e (dLook f) := PE.imp h fun σ H Q q => by
  obtain ⟨F, al, sl, mu, w, po⟩ := q
  refine ⟨F, al, sl, mu, w, ?_⟩
  unfold dLook dBind obind at po
  cases z : f sl mu with
  | ok d mu1 =>
    rw [z] at po
    exact fun v F1 al1 H1 x1 r1 => po v F1 al1 H1 x1 (top_look x1.mus r1)
  | ex c fs mu1 => rw [z] at po; exact po
  | bad => rw [z] at po; exact po
theorem dk_own {i : Nat} (h : PE X e (tVar i)) : DKk X cl W e (dOwnV i) := PE.imp h fun σ H Q q => by
  obtain ⟨F, al, sl, mu, w, po⟩ := q
  unfold dOwnV at po
  split at po
  · rename_i m hm
    obtain ⟨a, o, h1, h2, h3, h4, h5⟩ := w.own i m hm
    exact ⟨_, h1, po _ F al H (Ext.refl w.toMus) (top_conc h3 h4)⟩
  · rename_i d hd
    obtain ⟨v, h1, h2⟩ := w.val i d hd
    exact ⟨v, h1, po _ F al H (Ext.refl w.toMus) (top_look w.toMus h2)⟩
  · exact False.elim po
theorem tCB1 {g : D → Option D} (hr : Pur1K (Cx.th X cl) r g) {σ : St} {H : Hp} {Q : VK} (q : tG (Cx.th X cl) W (RD (Cx.th X cl)) (dOp1 g f) σ H Q) : tCB r (tCons (tG (Cx.th X cl) W (RK (Cx.th X cl)) f) tNil) σ H Q := by
  obtain ⟨F, al, sl, mu, w, po⟩ := q
  refine seqG back_RD w po rfl fun v d F1 al1 mu1 H1 x1 w1 r1 po1 => ?_
  dsimp only at po1
  cases z : g d with
  | none => rw [z] at po1; exact False.elim po1
  | some res =>
    rw [z] at po1
    exact hr F1 al1 mu1 H1 w1.toMus v d res r1 z Q fun v' F' H' x' r' => po1 v' F' al1 H' x' r'
theorem tCB1N {g : D → Option MO} (hr : Pur1N (Cx.th X cl) r g) {σ : St} {H : Hp} {Q : VK} (q : tG (Cx.th X cl) W (RN (Cx.th X cl)) (dNw1 g f) σ H Q) : tCB r (tCons (tG (Cx.th X cl) W (RK (Cx.th X cl)) f) tNil) σ H Q := by
  obtain ⟨F, al, sl, mu, w, po⟩ := q
  refine seqG back_RN w po rfl fun v d F1 al1 mu1 H1 x1 w1 r1 po1 => ?_
  dsimp only at po1
  cases z : g d with
  | none => rw [z] at po1; exact False.elim po1
  | some res =>
    rw [z] at po1
    exact hr F1 al1 mu1 H1 w1.toMus v d res r1 z Q fun v' F' H' x' r' => po1 v' F' al1 H' x' r'
theorem de_b1 {g : D → Option D} (hc : CallR X (.builtin id) r) (hr : Pur1K (Cx.th X cl) r g) (hg : Gl X x) (hm : X.mg x = none) (hv : bootBuiltins x = some (.builtin id)) (h : DKk X cl W e f) (hn : x ≠ "__name__" := by decide) (hdb : (x == ("__debug__" : Str)) = false := by decide)
    (he : starEach [e] X.env = (false, eval e X.env) :: starEach [] X.env := by rfl) (hpl : (backTo pos (starEach [] X.env)).any (·.1) = false := by rfl) : DE X cl W (.Call (.Name x p1) [e] [] pos) (dOp1 g f) :=
  PE.imp (pe_callB hc hg hm hv (pa_cons h pa_nil he) hn hdb he hpl) fun σ H Q q => tCB1 hr q
theorem de_t1 {g : D → Option D} (hc : CallR X (.type id) r) (hr : Pur1K (Cx.th X cl) r g) (hg : Gl X x) (hm : X.mg x = none) (hv : bootBuiltins x = some (.type id)) (h : DKk X cl W e f) (hn : x ≠ "__name__" := by decide) (hdb : (x == ("__debug__" : Str)) = false := by decide)
    (he : starEach [e] X.env = (false, eval e X.env) :: starEach [] X.env := by rfl) (hpl : (backTo pos (starEach [] X.env)).any (·.1) = false := by rfl) : DE X cl W (.Call (.Name x p1) [e] [] pos) (dOp1 g f) :=
  PE.imp (pe_callTy hc hg hm hv (pa_cons h pa_nil he) hn hdb he hpl) fun σ H Q q => tCB1 hr q
theorem dn_b1 {g : D → Option MO} (hc : CallR X (.builtin id) r) (hr : Pur1N (Cx.th X cl) r g) (hg : Gl X x) (hm : X.mg x = none) (hv : bootBuiltins x = some (.builtin id)) (h : DKk X cl W e f) (hn : x ≠ "__name__" := by decide) (hdb : (x == ("__debug__" : Str)) = false := by decide)
    (he : starEach [e] X.env = (false, eval e X.env) :: starEach [] X.env := by rfl) (hpl : (backTo pos (starEach [] X.env)).any (·.1) = false := by rfl) : DN X cl W (.Call (.Name x p1) [e] [] pos) (dNw1 g f) :=
  PE.imp (pe_callB hc hg hm hv (pa_cons h pa_nil he) hn hdb he hpl) fun σ H Q q => tCB1N hr q
theorem dn_t1 {g : D → Option MO} (hc : CallR X (.type id) r) (hr : Pur1N (Cx.th X cl) r g) (hg : Gl X x) (hm : X.mg x = none) (hv : bootBuiltins x = some (.type id)) (h : DKk X cl W e f) (hn : x ≠ "__name__" := by decide) (hdb : (x == ("__debug__" : Str)) = false := by decide)
    (he : starEach [e] X.env = (false, eval e X.env) :: starEach [] X.env := by rfl) (hpl : (backTo pos (starEach [] X.env)).any (·.1) = false := by rfl) : DN X cl W (.Call (.Name x p1) [e] [] pos) (dNw1 g f) :=
  PE.imp (pe_callTy hc hg hm hv (pa_cons h pa_nil he) hn hdb he hpl) fun σ H Q q => tCB1N hr q

/-! ### len, abs, int, list, tuple, all, str of an int -/
def lenD : D → Option D
  | .lst l => some (.int l.length)
  | .tup l => some (.int l.length)
  | .str z => if z.length ≤ 16000000 then some (.int z.length) else none
  | _ => none
theorem de_len (hg : Gl X "len") (hm : X.mg "len" = none) (h : DKk X cl W e f) (he : starEach [e] X.env = (false, eval e X.env) :: starEach [] X.env := by rfl) (hpl : (backTo pos (starEach [] X.env)).any (·.1) = false := by rfl) : DE X cl W (.Call (.Name "len" p1) [e] [] pos) (dOp1 lenD f) := by
  refine de_b1 (CallR.or call_len_seq call_len_str) (fun F al mu H m x d res t e Q k => ?_) hg hm boot_len h (by decide) (by decide) he hpl
  cases d with
  | lst l =>
    cases e
    obtain ⟨a, xs, rfl, h1, h2⟩ := t
    exact .inl ⟨a, xs, rfl, .inl (SqL.of h1), k _ F H (Ext.refl m) (by rw [RpL.len h2]; exact .int _)⟩
  | tup l =>
    cases e
    cases (show Rp _ _ _ _ _ _ from t) with
    | tup h1 h2 => exact .inl ⟨_, _, rfl, .inr (sqT_mono m.sub h1), k _ F H (Ext.refl m) (by rw [RpL.len h2]; exact .int _)⟩
  | str z =>
    have e' : (if z.length ≤ 16000000 then some (D.int z.length) else none) = some res := e
    by_cases hz : z.length ≤ 16000000
    · rw [if_pos hz] at e'
      cases e'
      cases (show Rp _ _ _ _ _ _ from t)
      exact .inr ⟨z, rfl, by rw [sizeLine_eq]; omega, k _ F H (Ext.refl m) (.int _)⟩
    · rw [if_neg hz] at e'
      cases e'
  | _ => cases e
def absD : D → Option D
  | .int i => some (.int (if i < 0 then -i else i))
  | _ => none
theorem de_abs (hg : Gl X "abs") (hm : X.mg "abs" = none) (h : DKk X cl W e f) (he : starEach [e] X.env = (false, eval e X.env) :: starEach [] X.env := by rfl) (hpl : (backTo pos (starEach [] X.env)).any (·.1) = false := by rfl) : DE X cl W (.Call (.Name "abs" p1) [e] [] pos) (dOp1 absD f) := by
  refine de_b1 call_abs (fun F al mu H m x d res t e Q k => ?_) hg hm (by decide +kernel) h (by decide) (by decide) he hpl
  cases d with
  | int i =>
    cases e
    cases (show Rp _ _ _ _ _ _ from t)
    exact ⟨_, rfl, k _ F H (Ext.refl m) (.int _)⟩
  | _ => cases e
def intD : D → Option D
  | .int i => some (.int i)
  | .bl b => some (.int (if b then 1 else 0))
  | _ => none
theorem de_int1 (hg : Gl X "int") (hm : X.mg "int" = none) (h : DKk X cl W e f) (he : starEach [e] X.env = (false, eval e X.env) :: starEach [] X.env := by rfl) (hpl : (backTo pos (starEach [] X.env)).any (·.1) = false := by rfl) : DE X cl W (.Call (.Name "int" p1) [e] [] pos) (dOp1 intD f) := by
  refine de_t1 call_int1 (fun F al mu H m x d res t e Q k => ?_) hg hm (by decide +kernel) h (by decide) (by decide) he hpl
  cases d with
  | int i =>
    cases e
    cases (show Rp _ _ _ _ _ _ from t)
    exact .inl ⟨_, rfl, k _ F H (Ext.refl m) (.int _)⟩
  | bl i =>
    cases e
    cases (show Rp _ _ _ _ _ _ from t)
    exact .inr ⟨_, rfl, k _ F H (Ext.refl m) (.int _)⟩
  | _ => cases e
def listD : D → Option MO
  | .lst l => some (.lst l)
  | .tup l => some (.lst l)
  | _ => none
theorem rn_new {T : Th} {F H : Hp} {al : Nat → Addr} {mu : Store} {p : Addr} {o : HO} {m : MO} (M : Mus T F al mu H) (hp : H p = none) (c : Conc T F al mu.length o m) : RN T H F al mu (upd H p o) (.ref p) m := ⟨p, o, rfl, hp, M.F_none hp, upd_same, c, Mus.ne_laid M hp⟩
theorem dn_list (hg : Gl X "list") (hm : X.mg "list" = none) (h : DKk X cl W e f) (he : starEach [e] X.env = (false, eval e X.env) :: starEach [] X.env := by rfl) (hpl : (backTo pos (starEach [] X.env)).any (·.1) = false := by rfl) : DN X cl W (.Call (.Name "list" p1) [e] [] pos) (dNw1 listD f) := by
  refine dn_t1 call_list_of (fun F al mu H m x d res t e Q k => ?_) hg hm (by decide +kernel) h (by decide) (by decide) he hpl
  cases d with
  | lst l =>
    cases e
    obtain ⟨a, xs, rfl, h1, h2⟩ := t
    exact ⟨a, xs, rfl, .inl (SqL.of h1), fun p hp => k _ F _ (Ext.laidH m hp) (rn_new (o := .lst xs) (m := .lst l) m hp h2)⟩
  | tup l =>
    cases e
    cases (show Rp _ _ _ _ _ _ from t) with
    | @tup a xs ds h1 h2 => exact ⟨a, xs, rfl, .inr (sqT_mono m.sub h1), fun p hp => k _ F _ (Ext.laidH m hp) (rn_new (o := .lst xs) (m := .lst l) m hp h2)⟩
  | _ => cases e
def tupleD : D → Option D
  | .lst l => some (.tup l)
  | .tup l => some (.tup l)
  | _ => none
theorem de_tuple (hg : Gl X "tuple") (hm : X.mg "tuple" = none) (h : DKk X cl W e f) (he : starEach [e] X.env = (false, eval e X.env) :: starEach [] X.env := by rfl) (hpl : (backTo pos (starEach [] X.env)).any (·.1) = false := by rfl) : DE X cl W (.Call (.Name "tuple" p1) [e] [] pos) (dOp1 tupleD f) := by
  refine de_t1 call_tuple_of (fun F al mu H m x d res t e Q k => ?_) hg hm (by decide +kernel) h (by decide) (by decide) he hpl
  cases d with
  | lst l =>
    cases e
    obtain ⟨a, xs, rfl, h1, h2⟩ := t
    exact ⟨a, xs, rfl, .inl ⟨SqL.of h1, fun p hp => k _ _ _ (Ext.laidF m (o := .tup xs) hp) (.tup upd_same ((Ext.laidF m hp).rpL h2))⟩⟩
  | tup l =>
    cases e
    cases (show Rp _ _ _ _ _ _ from t) with
    | @tup a xs ds h1 h2 => exact ⟨a, xs, rfl, .inr ⟨sqT_mono m.sub h1, k _ F H (Ext.refl m) (.tup h1 h2)⟩⟩
  | _ => cases e
/-- a list of truth values -/
def boolsD : List D → Option (List Bool)
  | [] => some []
  | .bl b :: l => (boolsD l).map (b :: ·)
  | _ => none
def allD : D → Option D
  | .lst l => (boolsD l).map fun bs => .bl (bs.all _root_.id)
  | _ => none
theorem boolsD_rp {T : Th} {F : Hp} {al : Nat → Addr} {n : Nat} : ∀ {l : List D} {xs : List V} {bs : List Bool}, RpL T F al n xs l → boolsD l = some bs → xs = bs.map V.bl
  | [], _, _, r, e => by cases r; cases e; rfl
  | d :: l, _, bs, r, e => by
    cases r with
    | cons r1 r2 =>
      cases d with
      | bl b =>
        cases r1
        obtain ⟨bs', h1, rfl⟩ := Option.map_eq_some_iff.mp e
        rw [boolsD_rp r2 h1]; rfl
      | _ => cases e
theorem de_all (hc : X.calm = true) (hg : Gl X "all") (hm : X.mg "all" = none) (h : DKk X cl W e f) (he : starEach [e] X.env = (false, eval e X.env) :: starEach [] X.env := by rfl) (hpl : (backTo pos (starEach [] X.env)).any (·.1) = false := by rfl) : DE X cl W (.Call (.Name "all" p1) [e] [] pos) (dOp1 allD f) := by
  refine de_b1 (cr_all hc) (fun F al mu H m x d res t e Q k => ?_) hg hm (by decide +kernel) h (by decide) (by decide) he hpl
  cases d with
  | lst l =>
    obtain ⟨bs, h1, rfl⟩ := Option.map_eq_some_iff.mp e
    obtain ⟨a, xs, rfl, h2, h3⟩ := t
    exact ⟨a, bs, rfl, by rw [← boolsD_rp h3 h1]; exact SqL.of h2, k _ F H (Ext.refl m) (.bl _)⟩
  | _ => cases e
end
end DL
end

section
set_option Elab.async false
set_option linter.all false
set_option maxRecDepth 100000
set_option maxHeartbeats 4000000
/-! DM: arithmetic, comparisons, in, is, subscripts, slices. -/
namespace DL
open PySem L2
mutual
def toP : D → Option PyData
  | .non => some .none
  | .bl b => some (.bool b)
  | .int i => some (.int i)
  | .str x => some (.str x)
  | .lst l => match toPL l with
    | some ps => some (.list ps)
    | none => none
  | .tup l => match toPL l with
    | some ps => some (.tuple ps)
    | none => none
  | .dct _ => none
  | .ins _ _ => none
  | .obj _ => none
  | .frl _ => none
def toPL : List D → Option (List PyData)
  | [] => some []
  | d :: ds => match toP d, toPL ds with
    | some p, some ps => some (p :: ps)
    | _, _ => none
end
mutual
theorem toP_plain : ∀ {d : D} {p : PyData}, toP d = some p → p.plain = true
  | .non, _, h => by cases h; rfl
  | .bl b, _, h => by cases h; rfl
  | .int i, _, h => by cases h; rfl
  | .str x, _, h => by cases h; rfl
  | .lst l, p, h => by
    unfold toP at h
    split at h
    · rename_i ps e
      cases h
      show PyData.plainAll ps = true
      exact toPL_plain e
    · cases h
  | .tup l, p, h => by
    unfold toP at h
    split at h
    · rename_i ps e
      cases h
      show PyData.plainAll ps = true
      exact toPL_plain e
    · cases h
  | .dct _, _, h => by cases h
  | .ins _ _, _, h => by cases h
  | .obj _, _, h => by cases h
  | .frl _, _, h => by cases h
theorem toPL_plain : ∀ {l : List D} {ps : List PyData}, toPL l = some ps → PyData.plainAll ps = true
  | [], _, h => by cases h; rfl
  | d :: ds, _, h => by
    unfold toPL at h
    split at h
    · rename_i p ps e1 e2
      cases h
      show (p.plain && PyData.plainAll ps) = true
      rw [toP_plain e1, toPL_plain e2]; rfl
    · cases h
end
section
variable {T : Th} {F H : Hp} {al : Nat → Addr} {n : Nat}
mutual
theorem Rp.dp (s : ∀ a o, F a = some o → H a = some o) : ∀ {d : D} {v : V} {p : PyData}, Rp T F al n v d → toP d = some p → Dp T.K H v p
  | .non, _, _, r, h => by cases h; cases r; exact .non
  | .bl b, _, _, r, h => by cases h; cases r; exact .bl b
  | .int i, _, _, r, h => by cases h; cases r; exact .int i
  | .str x, _, _, r, h => by cases h; cases r; exact .str x
  | .lst l, v, p, r, h => by
    unfold toP at h
    split at h
    · rename_i ps e
      cases h
      cases r with
      | lst h1 h2 => exact .lst (SqL.of (s _ _ h1)) (RpL.dp s h2 e)
    · cases h
  | .tup l, v, p, r, h => by
    unfold toP at h
    split at h
    · rename_i ps e
      cases h
      cases r with
      | tup h1 h2 => exact .tup (sqT_mono s h1) (RpL.dp s h2 e)
    · cases h
  | .dct _, _, _, _, h => by cases h
  | .ins _ _, _, _, _, h => by cases h
  | .obj _, _, _, _, h => by cases h
  | .frl _, _, _, _, h => by cases h
theorem RpL.dp (s : ∀ a o, F a = some o → H a = some o) : ∀ {l : List D} {vs : List V} {ps : List PyData}, RpL T F al n vs l → toPL l = some ps → DpAll T.K H vs ps
  | [], _, _, r, h => by cases h; cases r; exact .nil
  | d :: ds, _, _, r, h => by
    unfold toPL at h
    split at h
    · rename_i p ps e1 e2
      cases h
      cases r with
      | cons r1 r2 => exact .cons (Rp.dp s r1 e1) (RpL.dp s r2 e2)
    · cases h
end
end
/-! ### == -/
def eqD (d e : D) : Option Bool := match toP d, toP e with
  | some p, some q => if min p.depth q.depth ≤ 60 then some (PyData.eqv p q) else none
  | _, _ => none
def neD (d e : D) : Option Bool := (eqD d e).map (!·)
def rEqP (K : PySem.W.Frag) : R2 := fun x y H Q => ∃ d e, Dp K H x d ∧ Dp K H y e ∧ d.plain = true ∧ e.plain = true ∧ min d.depth e.depth ≤ 60 ∧ Q (.bl (PyData.eqv d e)) H
def rNeP (K : PySem.W.Frag) : R2 := fun x y H Q => ∃ d e, Dp K H x d ∧ Dp K H y e ∧ d.plain = true ∧ e.plain = true ∧ min d.depth e.depth ≤ 60 ∧ Q (.bl (!PyData.eqv d e)) H
section
variable {X : Cx} {cl : Nat → Addr} {W : WX} {a b e : PySem.Expr} {f fa fb : EF} {pos p1 : Pos} {x : Str}
theorem op_eqP (hu : X.A.units + 64 < cLine) : OpR X (compareOp .Eq) (rEqP X.K) := by
  intro pins s σ H x y v u Q I rx ry h
  obtain ⟨d, e, hd, he, sd, se, hm, q⟩ := h
  obtain ⟨as, r1⟩ := Dp.reads I d x v hd rx
  obtain ⟨bs, r2⟩ := Dp.reads I e y u he ry
  exact SeqAt.eq_plain r1 r2 sd se (by omega) ⟨.bl _, H, I, rfl, q⟩
theorem op_neP (hu : X.A.units + 64 < cLine) : OpR X (compareOp .NotEq) (rNeP X.K) := by
  intro pins s σ H x y v u Q I rx ry h
  obtain ⟨d, e, hd, he, sd, se, hm, q⟩ := h
  obtain ⟨as, r1⟩ := Dp.reads I d x v hd rx
  obtain ⟨bs, r2⟩ := Dp.reads I e y u he ry
  exact SeqAt.ne_plain r1 r2 sd se (by omega) ⟨.bl _, H, I, rfl, q⟩
theorem pur_eq {T : Th} : PurB T (rEqP T.K) eqD := fun F al mu H m x y d e res rx ry z Q k => by
  unfold eqD at z
  split at z
  · rename_i p q e1 e2
    split at z
    · rename_i hm
      cases z
      exact ⟨p, q, rx.dp m.sub e1, ry.dp m.sub e2, toP_plain e1, toP_plain e2, hm, k⟩
    · cases z
  · cases z
theorem pur_ne {T : Th} : PurB T (rNeP T.K) neD := fun F al mu H m x y d e res rx ry z Q k => by
  obtain ⟨b, z1, rfl⟩ := Option.map_eq_some_iff.mp z
  unfold eqD at z1
  split at z1
  · rename_i p q e1 e2
    split at z1
    · rename_i hm
      cases z1
      exact ⟨p, q, rx.dp m.sub e1, ry.dp m.sub e2, toP_plain e1, toP_plain e2, hm, k⟩
    · cases z1
  · cases z1
theorem de_eq (hu : X.A.units + 64 < cLine) (ha : DE X cl W a fa) (hb : DE X cl W b fb) : DE X cl W (.Compare a [.Eq] [b] pos) (dB2v (dCmp eqD fa fb)) := de_cmp (op_eqP hu) (nobehind _ (by decide) (by decide)) (pur_eq (T := Cx.th X cl)) ha hb
theorem de_ne (hu : X.A.units + 64 < cLine) (ha : DE X cl W a fa) (hb : DE X cl W b fb) : DE X cl W (.Compare a [.NotEq] [b] pos) (dB2v (dCmp neD fa fb)) := de_cmp (op_neP hu) (nobehind _ (by decide) (by decide)) (pur_ne (T := Cx.th X cl)) ha hb

/-! ### order of ints, of tuples of ints -/
def cmpI (p : Int → Int → Bool) : D → D → Option Bool
  | .int i, .int j => some (p i j)
  | _, _ => none
theorem pur_int {T : Th} {p : Int → Int → Bool} : PurB T (rI0 fun i j => .bl (p i j)) (cmpI p) := fun F al mu H m x y d e res rx ry z Q k => by
  cases d with
  | int i =>
    cases e with
    | int j =>
      cases z
      cases rx
      cases ry
      exact ⟨i, j, rfl, rfl, k⟩
    | _ => cases z
  | _ => cases z
abbrev leI := cmpI fun i j => decide (i ≤ j)
abbrev gtI := cmpI fun i j => decide (j < i)
abbrev geI := cmpI fun i j => decide (j ≤ i)
theorem de_le (ha : DE X cl W a fa) (hb : DE X cl W b fb) : DE X cl W (.Compare a [.LtE] [b] pos) (dB2v (dCmp leI fa fb)) := de_cmp op_le (nobehind _ (by decide) (by decide)) pur_int ha hb
theorem de_gt (ha : DE X cl W a fa) (hb : DE X cl W b fb) : DE X cl W (.Compare a [.Gt] [b] pos) (dB2v (dCmp gtI fa fb)) := de_cmp op_gt (nobehind _ (by decide) (by decide)) pur_int ha hb
theorem de_ge (ha : DE X cl W a fa) (hb : DE X cl W b fb) : DE X cl W (.Compare a [.GtE] [b] pos) (dB2v (dCmp geI fa fb)) := de_cmp op_ge (nobehind _ (by decide) (by decide)) pur_int ha hb
def intsD : List D → Option (List Int)
  | [] => some []
  | .int i :: l => (intsD l).map (i :: ·)
  | _ => none
theorem intsD_rp {T : Th} {F : Hp} {al : Nat → Addr} {n : Nat} : ∀ {l : List D} {xs : List V} {is : List Int}, RpL T F al n xs l → intsD l = some is → xs = is.map V.int
  | [], _, _, r, e => by cases r; cases e; rfl
  | d :: l, _, is, r, e => by
    cases r with
    | cons r1 r2 =>
      cases d with
      | int i =>
        cases r1
        obtain ⟨is', h1, rfl⟩ := Option.map_eq_some_iff.mp e
        rw [intsD_rp r2 h1]; rfl
      | _ => cases e
def ltD : D → D → Option Bool
  | .int i, .int j => some (decide (i < j))
  | .tup l, .tup m => match intsD l, intsD m with
    | some is, some js => some (HT.lexLt is js)
    | _, _ => none
  | _, _ => none
theorem pur_lt {T : Th} : PurB T (fun x y H Q => rI0 (fun i j => .bl (decide (i < j))) x y H Q ∨ rLtT T.K x y H Q) ltD := fun F al mu H m x y d e res rx ry z Q k => by
  cases d with
  | int i =>
    cases e with
    | int j =>
      cases z
      cases rx
      cases ry
      exact .inl ⟨i, j, rfl, rfl, k⟩
    | _ => cases z
  | tup l =>
    cases e with
    | tup l' =>
      have z' : (match intsD l, intsD l' with
        | some is, some js => some (HT.lexLt is js)
        | _, _ => none) = some res := z
      split at z'
      · rename_i is js e1 e2
        cases z'
        cases rx with
        | tup h1 h2 =>
          cases ry with
          | tup h3 h4 =>
            rw [intsD_rp h2 e1] at h1
            rw [intsD_rp h4 e2] at h3
            exact .inr ⟨_, _, is, js, rfl, rfl, sqT_mono m.sub h1, sqT_mono m.sub h3, k⟩
      · cases z'
    | _ => cases z
  | _ => cases z
theorem de_lt (hu : X.A.units < cLine) (ha : DE X cl W a fa) (hb : DE X cl W b fb) : DE X cl W (.Compare a [.Lt] [b] pos) (dB2v (dCmp ltD fa fb)) := de_cmp (OpR.or op_lt (op_ltT hu)) (nobehind _ (by decide) (by decide)) (pur_lt (T := Cx.th X cl)) ha hb
/-- a <= b <= c of ints -/
def dChn (g h : D → D → Option Bool) (fa fb fc : EF) : BF := dBind fa fun x => dBind fb fun y sl mu => match g x y with
  | some true => obind (fc sl mu) fun z mu => match h y z with
    | some r => .ok r mu
    | none => .bad
  | some false => .ok false mu
  | none => .bad
theorem de_chain {op op' : CmpOp} {r r' : R2} {g h : D → D → Option Bool} {c : PySem.Expr} {fc : EF} (ho : OpR X (compareOp op) r) (ho' : OpR X (compareOp op') r') (hr : PurB (Cx.th X cl) r g) (hr' : PurB (Cx.th X cl) r' h) (ha : DE X cl W a fa) (hb : DE X cl W b fb) (hc : DE X cl W c fc)
    (he : ∀ {ta tb tc : TE}, PE X a ta → PE X b tb → PE X c tc → PE X (.Compare a [op, op'] [b, c] pos) (tChain r r' ta tb tc)) : DE X cl W (.Compare a [op, op'] [b, c] pos) (dB2v (dChn g h fa fb fc)) :=
  PE.imp (he ha hb hc) fun σ H Q q => by
    obtain ⟨F, al, sl, mu, w, po⟩ := tV2B q
    refine seqG back_RB w po rfl fun v d F1 al1 mu1 H1 x1 w1 r1 po1 => ?_
    refine seqG back_RB w1 po1 rfl fun u e F2 al2 mu2 H2 x2 w2 r2 po2 => ?_
    try dsimp only at po2
    cases z : g d e with
    | none => rw [z] at po2; exact False.elim po2
    | some k =>
      rw [z] at po2
      refine hr F2 al2 mu2 H2 w2.toMus v u d e k (x2.rp r1) r2 z _ ⟨k, rfl, ?_⟩
      cases k with
      | false =>
        rw [if_neg Bool.false_ne_true]
        exact Po.here (R := RB) (Q := fun c H' => Q (.bl c) H') po2 w2.toMus rfl
      | true =>
        rw [if_pos rfl]
        refine seqG back_RB w2 po2 rfl fun t e3 F3 al3 mu3 H3 x3 w3 r3 po3 => ?_
        try dsimp only at po3
        cases z2 : h e e3 with
        | none => rw [z2] at po3; exact False.elim po3
        | some k2 =>
          rw [z2] at po3
          exact hr' F3 al3 mu3 H3 w3.toMus u t e e3 k2 (x3.rp r2) r3 z2 _ (Po.here (R := RB) (Q := fun c H' => Q (.bl c) H') po3 w3.toMus rfl)

/-! ### is -/
def isNon : D → Bool
  | .non => true
  | _ => false
theorem Rp.isNon {T : Th} {F : Hp} {al : Nat → Addr} {n : Nat} {v : V} {d : D} (r : Rp T F al n v d) : decide (v = .non) = DL.isNon d := by
  cases r <;> first | rfl | (apply decide_eq_false; intro h; cases h)
def dIsN (f : EF) : BF := dBind f fun d _ mu => .ok (isNon d) mu
def dNotN (f : EF) : BF := dBind f fun d _ mu => .ok (!isNon d) mu
theorem de_isN {j : Nat} {p2 : Pos} (h : DE X cl W a f) : DE X cl W (.Compare a [.Is] [.Constant .none j p2] pos) (dB2v (dIsN f)) := PE.imp (pe_cmp (pc_isN h) rfl) fun σ H Q q => by
  obtain ⟨F, al, sl, mu, w, po⟩ := tV2B q
  refine seqG back_RB w po rfl fun v d F1 al1 mu1 H1 x1 w1 r1 po1 => ?_
  rw [Rp.isNon r1]
  exact Po.here (R := RB) (Q := fun c H' => Q (.bl c) H') po1 w1.toMus rfl
theorem de_notN {j : Nat} {p2 : Pos} (h : DE X cl W a f) : DE X cl W (.Compare a [.IsNot] [.Constant .none j p2] pos) (dB2v (dNotN f)) := PE.imp (pe_cmp (pc_notN h) rfl) fun σ H Q q => by
  obtain ⟨F, al, sl, mu, w, po⟩ := tV2B q
  refine seqG back_RB w po rfl fun v d F1 al1 mu1 H1 x1 w1 r1 po1 => ?_
  rw [Rp.isNon r1]
  exact Po.here (R := RB) (Q := fun c H' => Q (.bl c) H') po1 w1.toMus rfl
def isB : D → D → Option Bool
  | .bl a, .bl b => some (decide (a = b))
  | _, _ => none
def isntB : D → D → Option Bool
  | .bl a, .bl b => some (!decide (a = b))
  | _, _ => none
theorem de_isntB {j : Nat} {p2 : Pos} {c : Bool} (h : DE X cl W a f) : DE X cl W (.Compare a [.IsNot] [.Constant (.bool c) j p2] pos) (dB2v (dCmp isntB f (dC (.bl c)))) :=
  de_cmp op_isnot_bl (nobehind _ (by decide) (by decide)) (fun F al mu H m x y d e res rx ry z Q k => by
    cases d with
    | bl i =>
      cases e with
      | bl j => cases z; cases rx; cases ry; exact ⟨i, j, rfl, rfl, k⟩
      | _ => cases z
    | _ => cases z) h de_bl

/-! ### + - * % // ** -/
def addD : D → D → Option D
  | .int i, .int j => some (.int (i + j))
  | .str x, .str y => if x.length + y.length ≤ 16000000 then some (.str (x ++ y)) else none
  | .lst l, .lst m => if l.length + m.length ≤ 16000000 then some (.lst (l ++ m)) else none
  | .tup l, .tup m => if l.length + m.length ≤ 16000000 then some (.tup (l ++ m)) else none
  | _, _ => none
theorem RpL.append {T : Th} {F : Hp} {al : Nat → Addr} {n : Nat} {vs us : List V} {ds es : List D} (h : RpL T F al n vs ds) (k : RpL T F al n us es) : RpL T F al n (vs ++ us) (ds ++ es) := by
  induction vs generalizing ds with
  | nil => cases h; exact k
  | cons v vs ih =>
    cases h with
    | cons h1 h2 => exact .cons h1 (ih h2)
abbrev rAdd4 (K : PySem.W.Frag) : R2 := fun x y H Q => (rI0 (fun i j => .int (i + j)) x y H Q ∨ ∃ i j, x = .str i ∧ y = .str j ∧ i.length + j.length ≤ sizeLine ∧ Q (.str (i ++ j)) H) ∨ rCat x y H Q ∨ rCatA K x y H Q
theorem pur_add {T : Th} : Pur2 T (rAdd4 T.K) addD := fun F al mu H m x y d e res rx ry z Q k => by
  cases d with
  | int i =>
    cases e with
    | int j => cases z; cases rx; cases ry; exact .inl (.inl ⟨i, j, rfl, rfl, k _ F H (Ext.refl m) (.int _)⟩)
    | _ => cases z
  | str i =>
    cases e with
    | str j =>
      have z' : (if i.length + j.length ≤ 16000000 then some (D.str (i ++ j)) else none) = some res := z
      split at z'
      · rename_i hz
        cases z'
        cases rx
        cases ry
        exact .inl (.inr ⟨i, j, rfl, rfl, by rw [sizeLine_eq]; omega, k _ F H (Ext.refl m) (.str _)⟩)
      · cases z'
    | _ => cases z
  | lst l =>
    cases e with
    | lst l' =>
      have z' : (if l.length + l'.length ≤ 16000000 then some (D.lst (l ++ l')) else none) = some res := z
      split at z'
      · rename_i hz
        cases z'
        cases rx with
        | @lst p xs ds h1 h2 =>
          cases ry with
          | @lst q ys es h3 h4 =>
            have e1 := RpL.len h2
            have e2 := RpL.len h4
            exact .inr (.inl ⟨p, q, xs, ys, rfl, rfl, m.sub _ _ h1, m.sub _ _ h3, by rw [sizeLine_eq]; omega, fun r hr => k _ _ _ (Ext.laidF m (o := .lst (xs ++ ys)) hr) (.lst upd_same ((Ext.laidF m hr).rpL (h2.append h4)))⟩)
      · cases z'
    | _ => cases z
  | tup l =>
    cases e with
    | tup l' =>
      have z' : (if l.length + l'.length ≤ 16000000 then some (D.tup (l ++ l')) else none) = some res := z
      split at z'
      · rename_i hz
        cases z'
        cases rx with
        | @tup p xs ds h1 h2 =>
          cases ry with
          | @tup q ys es h3 h4 =>
            have e1 := RpL.len h2
            have e2 := RpL.len h4
            refine .inr (.inr ⟨p, q, xs, ys, rfl, rfl, sqT_mono m.sub h1, sqT_mono m.sub h3, by rw [sizeLine_eq]; omega, fun e => ?_, fun _ e => ?_, fun _ _ r hr => ?_⟩)
            · subst e
              cases h2
              exact k _ F H (Ext.refl m) (.tup h3 h4)
            · subst e
              cases h4
              rw [List.append_nil] at k
              exact k _ F H (Ext.refl m) (.tup h1 h2)
            · exact k _ _ _ (Ext.laidF m (o := .tup (xs ++ ys)) hr) (.tup upd_same ((Ext.laidF m hr).rpL (h2.append h4)))
      · cases z'
    | _ => cases z
  | _ => cases z
theorem de_add (ha : DE X cl W a fa) (hb : DE X cl W b fb) : DE X cl W (.BinOp a .Add b pos) (dOp2 addD fa fb) := de_op (OpR.or (OpR.or op_add op_add_str) (OpR.or op_cat op_catA)) (pur_add (T := Cx.th X cl)) ha hb
def arI (c : Int → Int → Bool) (g : Int → Int → Int) : D → D → Option D
  | .int i, .int j => if c i j = true then some (.int (g i j)) else none
  | _, _ => none
theorem pur_ar {T : Th} {c : Int → Int → Bool} {C : Int → Int → Prop} {g : Int → Int → Int} (hc : ∀ i j, c i j = true → C i j) : Pur2 T (rI C fun i j => .int (g i j)) (arI c g) := fun F al mu H m x y d e res rx ry z Q k => by
  cases d with
  | int i =>
    cases e with
    | int j =>
      have z' : (if c i j = true then some (D.int (g i j)) else none) = some res := z
      split at z'
      · rename_i h
        cases z'
        cases rx
        cases ry
        exact ⟨i, j, rfl, rfl, hc i j h, k _ F H (Ext.refl m) (.int _)⟩
      · cases z'
    | _ => cases z
  | _ => cases z
def subD : D → D → Option D
  | .int i, .int j => some (.int (i - j))
  | _, _ => none
theorem de_sub (ha : DE X cl W a fa) (hb : DE X cl W b fb) : DE X cl W (.BinOp a .Sub b pos) (dOp2 subD fa fb) := de_op op_sub (fun F al mu H m x y d e res rx ry z Q k => by
  cases d with
  | int i =>
    cases e with
    | int j => cases z; cases rx; cases ry; exact ⟨i, j, rfl, rfl, k _ F H (Ext.refl m) (.int _)⟩
    | _ => cases z
  | _ => cases z) ha hb
abbrev modD := arI (fun _ j => decide (0 < j)) fun i j => i % j
abbrev divD := arI (fun _ j => decide (0 < j ∧ j < 2 ^ 60)) fun i j => i / j
abbrev powD := arI (fun i j => decide (0 ≤ j ∧ j ≤ 1000 ∧ i.natAbs < 2 ^ 64)) fun i j => i ^ j.toNat
theorem de_mod (ha : DE X cl W a fa) (hb : DE X cl W b fb) : DE X cl W (.BinOp a .Mod b pos) (dOp2 modD fa fb) := de_op op_mod (pur_ar fun i j h => of_decide_eq_true h) ha hb
theorem de_div (ha : DE X cl W a fa) (hb : DE X cl W b fb) : DE X cl W (.BinOp a .FloorDiv b pos) (dOp2 divD fa fb) := de_op op_fdivW (pur_ar fun i j h => by
  obtain ⟨h1, h2⟩ := of_decide_eq_true h
  exact wide_div (b := 60) h1 (by omega) (by decide) (by decide)) ha hb
theorem de_pow (ha : DE X cl W a fa) (hb : DE X cl W b fb) : DE X cl W (.BinOp a .Pow b pos) (dOp2 powD fa fb) := de_op op_pow (pur_ar fun i j h => by
  obtain ⟨h1, h2, h3⟩ := of_decide_eq_true h
  exact ⟨h1, by omega, h3⟩) ha hb
def mulD : D → D → Option D
  | .int i, .int j => if -(2 ^ 64) < i ∧ i < 2 ^ 64 then some (.int (i * j)) else none
  | .lst l, .int j => if rgOk j = true ∧ l.length * j.toNat ≤ 16000000 then some (.lst (List.replicate j.toNat l).flatten) else none
  | _, _ => none
theorem rpL_rep {T : Th} {F : Hp} {al : Nat → Addr} {n : Nat} {vs : List V} {ds : List D} (h : RpL T F al n vs ds) : ∀ k : Nat, RpL T F al n (List.replicate k vs).flatten (List.replicate k ds).flatten
  | 0 => .nil
  | k + 1 => by
    rw [List.replicate_succ, List.replicate_succ, List.flatten_cons, List.flatten_cons]
    exact h.append (rpL_rep h k)
theorem de_mul (ha : DE X cl W a fa) (hb : DE X cl W b fb) : DE X cl W (.BinOp a .Mult b pos) (dOp2 mulD fa fb) := de_op (OpR.or op_mul op_rep) (fun F al mu H m x y d e res rx ry z Q k => by
  cases d with
  | int i =>
    cases e with
    | int j =>
      have z' : (if -(2 ^ 64) < i ∧ i < 2 ^ 64 then some (D.int (i * j)) else none) = some res := z
      split at z'
      · rename_i h
        cases z'
        cases rx
        cases ry
        exact .inl ⟨i, j, rfl, rfl, .inl h, k _ F H (Ext.refl m) (.int _)⟩
      · cases z'
    | _ => cases z
  | lst l =>
    cases e with
    | int j =>
      have z' : (if rgOk j = true ∧ l.length * j.toNat ≤ 16000000 then some (D.lst (List.replicate j.toNat l).flatten) else none) = some res := z
      split at z'
      · rename_i h
        cases z'
        cases ry
        cases rx with
        | @lst p xs ds h1 h2 =>
          have hj := rgOk_of h.1
          refine .inr ⟨p, j, xs, rfl, rfl, m.sub _ _ h1, by omega, by omega, by rw [sizeLine_eq, RpL.len h2]; omega, fun r hr => k _ _ _ (Ext.laidF m (o := .lst _) hr) (.lst upd_same ((Ext.laidF m hr).rpL (rpL_rep h2 _)))⟩
      · cases z'
    | _ => cases z
  | _ => cases z) ha hb
def negD : D → Option D
  | .int i => some (.int (-i))
  | _ => none
theorem de_neg (h : DE X cl W a f) : DE X cl W (.UnaryOp .USub a pos) (dOp1 negD f) := PE.imp (pe_un un_neg h) fun σ H Q q => by
  obtain ⟨F, al, sl, mu, w, po⟩ := q
  refine seqG back_RD w po rfl fun v d F1 al1 mu1 H1 x1 w1 r1 po1 => ?_
  cases d with
  | int i => cases r1; exact ⟨i, rfl, Po.here po1 w1.toMus (.int _)⟩
  | _ => exact False.elim po1

/-! ### in -/
def inD (d : D) (c : D) : Option Bool := match c with
  | .lst l => match toP d, toPL l with
    | some p, some ps => if min (PyData.depthAll ps) p.depth ≤ 60 then some (ps.any fun y => PyData.eqv y p) else none
    | _, _ => none
  | .tup l => match toP d, toPL l with
    | some p, some ps => if min (PyData.depthAll ps) p.depth ≤ 60 then some (ps.any fun y => PyData.eqv y p) else none
    | _, _ => none
  | .str z => match d with
    | .str y => match y.cps.toList with
      | [c] => some (decide (c ∈ z.cps.toList))
      | _ => none
    | _ => none
  | _ => none
def rInP (K : PySem.W.Frag) (neg : Bool) : R2 := fun x y H Q => ∃ d, Dp K H x d ∧ d.plain = true ∧ ∃ ps, (Dp K H y (.list ps) ∨ Dp K H y (.tuple ps)) ∧ PyData.plainAll ps = true ∧ min (PyData.depthAll ps) d.depth ≤ 60 ∧ Q (.bl (if neg then !(ps.any fun z => PyData.eqv z d) else ps.any fun z => PyData.eqv z d)) H
theorem op_inP (hu : X.A.units + 65 < cLine) : OpR X (compareOp .In) (rInP X.K false) := by
  intro pins s σ H x y v u Q I rx ry h
  obtain ⟨d, hd, sd, ps, he, sp, hm, q⟩ := h
  obtain ⟨as, r1⟩ := Dp.reads I d x v hd rx
  rcases he with he | he
  · obtain ⟨bs, r2⟩ := Dp.reads I _ y u he ry
    exact SeqAt.in_list_data r2 r1 sp sd (by omega) ⟨.bl _, H, I, rfl, q⟩
  · obtain ⟨bs, r2⟩ := Dp.reads I _ y u he ry
    exact SeqAt.in_tuple_data r2 r1 sp sd (by omega) ⟨.bl _, H, I, rfl, q⟩
theorem op_ninP (hu : X.A.units + 65 < cLine) : OpR X (compareOp .NotIn) (rInP X.K true) := by
  intro pins s σ H x y v u Q I rx ry h
  obtain ⟨d, hd, sd, ps, he, sp, hm, q⟩ := h
  obtain ⟨as, r1⟩ := Dp.reads I d x v hd rx
  rcases he with he | he
  · obtain ⟨bs, r2⟩ := Dp.reads I _ y u he ry
    exact SeqAt.notIn_list_data r2 r1 sp sd (by omega) ⟨.bl _, H, I, rfl, q⟩
  · obtain ⟨bs, r2⟩ := Dp.reads I _ y u he ry
    exact SeqAt.notIn_tuple_data r2 r1 sp sd (by omega) ⟨.bl _, H, I, rfl, q⟩
/-- the container looked into -/
def dIn (neg : Bool) (fa fb : EF) : BF := dBind fa fun x => dBind fb fun y _ mu => match inD x y with
  | some r => .ok (if neg then !r else r) mu
  | none => .bad
theorem in_reads {T : Th} {F : Hp} {al : Nat → Addr} {mu : Store} {H : Hp} {x y : V} {d c : D} {neg res : Bool} {Q : VK} (m : Mus T F al mu H) (rx : Rp T F al mu.length x d) (ry : Top T F al mu.length H y c) (z : inD d c = some res) (k : Q (.bl (if neg then !res else res)) H) :
    rInP T.K neg x y H Q ∨ ∃ (c : Nat) (z : Str), x = .str ⟨#[c]⟩ ∧ y = .str z ∧ Q (.bl (if neg then !decide (c ∈ z.cps.toList) else decide (c ∈ z.cps.toList))) H := by
  cases c with
  | lst l =>
    obtain ⟨a, xs, rfl, h1, h2⟩ := ry
    unfold inD at z
    dsimp only at z
    split at z
    · rename_i p ps e1 e2
      split at z
      · rename_i hm
        cases z
        exact .inl ⟨p, rx.dp m.sub e1, toP_plain e1, ps, .inl (.lst (SqL.of h1) (h2.dp m.sub e2)), toPL_plain e2, hm, k⟩
      · cases z
    · cases z
  | tup l =>
    cases (show Rp _ _ _ _ _ _ from ry) with
    | tup h1 h2 =>
      unfold inD at z
      dsimp only at z
      split at z
      · rename_i p ps e1 e2
        split at z
        · rename_i hm
          cases z
          exact .inl ⟨p, rx.dp m.sub e1, toP_plain e1, ps, .inr (.tup (sqT_mono m.sub h1) (h2.dp m.sub e2)), toPL_plain e2, hm, k⟩
        · cases z
      · cases z
  | str s =>
    cases (show Rp _ _ _ _ _ _ from ry)
    cases d with
    | str y =>
      unfold inD at z
      dsimp only at z
      split at z
      · rename_i c hc
        cases z
        cases rx
        obtain ⟨cps⟩ := y
        have e : cps = #[c] := by
          have hc' : cps.toList = [c] := hc
          rw [← Array.toArray_toList (xs := cps), hc']
        subst e
        exact .inr ⟨c, s, rfl, rfl, k⟩
      · cases z
    | _ => cases z
  | _ => cases z
theorem de_in (hu : X.A.units + 65 < cLine) (ha : DE X cl W a fa) (hb : DKk X cl W b fb) (hm : behindInMarks .In b = false) : DE X cl W (.Compare a [.In] [b] pos) (dB2v (dIn false fa fb)) :=
  PE.imp (pe_cmpR (OpR.or (op_inP hu) op_in_sign) ha hb hm) fun σ H Q q => by
    obtain ⟨F, al, sl, mu, w, po⟩ := tV2B q
    refine seqG back_RB w po rfl fun v d F1 al1 mu1 H1 x1 w1 r1 po1 => ?_
    refine seqG back_RB w1 po1 rfl fun u e F2 al2 mu2 H2 x2 w2 r2 po2 => ?_
    dsimp only at po2
    cases z : inD d e with
    | none => rw [z] at po2; exact False.elim po2
    | some r =>
      rw [z] at po2
      exact in_reads (neg := false) w2.toMus (x2.rp r1) r2 z (Po.here (R := RB) (Q := fun c H' => Q (.bl c) H') po2 w2.toMus rfl)
theorem de_nin (hu : X.A.units + 65 < cLine) (ha : DE X cl W a fa) (hb : DKk X cl W b fb) (hm : behindInMarks .NotIn b = false) : DE X cl W (.Compare a [.NotIn] [b] pos) (dB2v (dIn true fa fb)) :=
  PE.imp (pe_cmpR (OpR.or (op_ninP hu) op_notIn_sign) ha hb hm) fun σ H Q q => by
    obtain ⟨F, al, sl, mu, w, po⟩ := tV2B q
    refine seqG back_RB w po rfl fun v d F1 al1 mu1 H1 x1 w1 r1 po1 => ?_
    refine seqG back_RB w1 po1 rfl fun u e F2 al2 mu2 H2 x2 w2 r2 po2 => ?_
    dsimp only at po2
    cases z : inD d e with
    | none => rw [z] at po2; exact False.elim po2
    | some r =>
      rw [z] at po2
      exact in_reads (neg := true) w2.toMus (x2.rp r1) r2 z (Po.here (R := RB) (Q := fun c H' => Q (.bl c) H') po2 w2.toMus rfl)
end
end DL
end

section
set_option Elab.async false
set_option linter.all false
set_option maxRecDepth 100000
set_option maxHeartbeats 4000000
/-! DN: subscripts, slices, isinstance, attributes. -/
namespace DL
open PySem L2
/-! ### subscripts -/
def ixD : D → D → Option D
  | .lst l, .int i => atI l i
  | .tup l, .int i => atI l i
  | .str z, .int i => if z.length ≤ 16000000 then (atI z.cps.toList i).map fun c => .str ⟨#[c]⟩ else none
  | _, _ => none
def dIx (f g : EF) : EF := dBind f fun d => dBind g fun y _ mu => match ixD (lookD mu d) y with
  | some r => .ok r mu
  | none => .bad
def svD (mu : Store) : SV → D
  | .own m => m.d
  | .val d => lookD mu d
def dIxS (i : Nat) (g : EF) : EF := fun sl mu => match sl[i]? with
  | some (some s) => obind (g sl mu) fun y mu => match ixD (svD mu s) y with
    | some r => .ok r mu
    | none => .bad
  | _ => .bad
theorem atI_some {α : Type} {l : List α} {i : Int} {x : α} (h : atI l i = some x) : ∃ j, ixN l.length i = some j ∧ l[j]? = some x := by
  unfold atI at h
  cases q : ixN l.length i with
  | none => rw [q] at h; cases h
  | some j => rw [q] at h; exact ⟨j, rfl, h⟩
theorem RpL.atI {T : Th} {F : Hp} {al : Nat → Addr} {n : Nat} {xs : List V} {l : List D} {i : Int} {d : D} (r : RpL T F al n xs l) (h : L2.atI l i = some d) : ∃ v, L2.atI xs i = some v ∧ Rp T F al n v d := by
  obtain ⟨j, h1, h2⟩ := atI_some h
  obtain ⟨v, h3, h4⟩ := r.get h2
  refine ⟨v, ?_, h4⟩
  unfold L2.atI
  rw [RpL.len r, h1]
  exact h3
abbrev rIx3 (K : PySem.W.Frag) : R2 := fun x y H Q => rIxL K x y H Q ∨ rIxT K x y H Q ∨ rIxS x y H Q
theorem ix_top {T : Th} {F : Hp} {al : Nat → Addr} {mu : Store} {H : Hp} {x y : V} {d e res : D} {Q : VK} (m : Mus T F al mu H) (rx : Top T F al mu.length H x d) (ry : Rp T F al mu.length y e) (z : ixD d e = some res) (k : ∀ v, Rp T F al mu.length v res → Q v H) : rIx3 T.K x y H Q := by
  cases d with
  | lst l =>
    cases e with
    | int i =>
      cases ry
      obtain ⟨a, xs, rfl, h1, h2⟩ := rx
      obtain ⟨v, h3, h4⟩ := h2.atI (show L2.atI l i = some res from z)
      exact .inl ⟨a, xs, i, v, rfl, rfl, SqL.of h1, h3, k v h4⟩
    | _ => cases z
  | tup l =>
    cases e with
    | int i =>
      cases ry
      cases (show Rp _ _ _ _ _ _ from rx) with
      | tup h1 h2 =>
        obtain ⟨v, h3, h4⟩ := h2.atI (show L2.atI l i = some res from z)
        exact .inr (.inl ⟨_, _, i, v, rfl, rfl, sqT_mono m.sub h1, h3, k v h4⟩)
    | _ => cases z
  | str s =>
    cases e with
    | int i =>
      cases ry
      cases (show Rp _ _ _ _ _ _ from rx)
      have z' : (if s.length ≤ 16000000 then (L2.atI s.cps.toList i).map fun c => D.str ⟨#[c]⟩ else none) = some res := z
      split at z'
      · rename_i hs
        obtain ⟨c, h1, rfl⟩ := Option.map_eq_some_iff.mp z'
        exact .inr (.inr ⟨s, i, c, rfl, rfl, by rw [sizeLine_eq]; omega, h1, k _ (.str _)⟩)
      · cases z'
    | _ => cases z
  | _ => cases z
/-! ### slices -/
def cutG {α : Type} (xs : List α) (lo hi : Option Int) : List α := (xs.drop (HT.sIx xs.length 0 lo)).take (HT.sIx xs.length xs.length hi - HT.sIx xs.length 0 lo)
def sliceD (d : D) (lo hi : Option Int) : Option D := match d with
  | .lst l => some (.lst (cutG l lo hi))
  | .tup l => some (.tup (cutG l lo hi))
  | .frl l => some (.lst (cutG l lo hi))
  | .str z => if z.length ≤ 16000000 then some (.str (cutS z lo hi)) else none
  | _ => none
abbrev OF := Sl → Store → Out (Option Int)
def ROi : Rel (Option Int) (Option Int) := fun _ _ _ _ _ v d => v = d
abbrev DO (X : Cx) (cl : Nat → Addr) (W : WX) (e : Option PySem.Expr) (f : OF) : Prop := PO X e (tG (Cx.th X cl) W ROi f)
def dNoP : OF := fun _ mu => .ok none mu
def dP (f : EF) : OF := dBind f fun d _ mu => match d with
  | .int i => .ok (some i) mu
  | _ => .bad
def dSl (f : EF) (lo hi : OF) : EF := dBind f fun d => dBind lo fun l => dBind hi fun h _ mu => match sliceD (lookD mu d) l h with
  | some r => .ok r mu
  | none => .bad
theorem back_ROi : Back ROi := fun _ _ _ _ _ _ _ _ _ h => h
theorem RpL.take {T : Th} {F : Hp} {al : Nat → Addr} {n : Nat} : ∀ {xs : List V} {l : List D} (k : Nat), RpL T F al n xs l → RpL T F al n (xs.take k) (l.take k)
  | [], [], 0, _ => .nil
  | [], [], _ + 1, _ => .nil
  | _ :: _, _ :: _, 0, _ => .nil
  | _ :: _, _ :: _, k + 1, .cons r1 r2 => .cons r1 (RpL.take k r2)
  | [], _ :: _, _, h => by cases h
  | _ :: _, [], _, h => by cases h
theorem RpL.drop {T : Th} {F : Hp} {al : Nat → Addr} {n : Nat} : ∀ {xs : List V} {l : List D} (k : Nat), RpL T F al n xs l → RpL T F al n (xs.drop k) (l.drop k)
  | [], [], 0, _ => .nil
  | [], [], _ + 1, _ => .nil
  | _ :: _, _ :: _, 0, h => h
  | _ :: _, _ :: _, k + 1, .cons _ r2 => RpL.drop k r2
  | [], _ :: _, _, h => by cases h
  | _ :: _, [], _, h => by cases h
theorem RpL.cut {T : Th} {F : Hp} {al : Nat → Addr} {n : Nat} {xs : List V} {l : List D} (r : RpL T F al n xs l) (lo hi : Option Int) : RpL T F al n (cutV xs lo hi) (cutG l lo hi) := by
  unfold cutV cutG
  rw [RpL.len r]
  exact (r.drop _).take _
theorem cut_whole {α : Type} {l : List α} {lo hi : Option Int} (h : HT.sIx l.length 0 lo = 0 ∧ HT.sIx l.length l.length hi = l.length) : cutG l lo hi = l := by
  unfold cutG
  rw [h.1, h.2]
  simp
abbrev rSl3 (K : PySem.W.Frag) : V → Option Int → Option Int → Hp → VK → Prop := fun x lo hi H Q => rSlL K x lo hi H Q ∨ rSlA K x lo hi H Q ∨ rSlS x lo hi H Q
theorem sl_top {T : Th} {F : Hp} {al : Nat → Addr} {mu : Store} {H : Hp} {x : V} {d res : D} {lo hi : Option Int} {Q : VK} (m : Mus T F al mu H) (rx : Top T F al mu.length H x d) (z : sliceD d lo hi = some res) (k : ∀ v F' H', Ext T F al mu H F' al mu H' → Rp T F' al mu.length v res → Q v H') : rSl3 T.K x lo hi H Q := by
  cases d with
  | lst l =>
    cases z
    obtain ⟨a, xs, rfl, h1, h2⟩ := rx
    exact .inl ⟨a, xs, rfl, SqL.of h1, fun p hp => k _ _ _ (Ext.laidF m (o := .lst _) hp) (.lst upd_same ((Ext.laidF m hp).rpL (h2.cut lo hi)))⟩
  | tup l =>
    cases z
    cases (show Rp _ _ _ _ _ _ from rx) with
    | @tup a xs ds h1 h2 =>
      refine .inr (.inl ⟨a, xs, rfl, sqT_mono m.sub h1, fun h => ?_, fun _ p hp => k _ _ _ (Ext.laidF m (o := .tup _) hp) (.tup upd_same ((Ext.laidF m hp).rpL (h2.cut lo hi)))⟩)
      rw [RpL.len h2] at h
      exact k _ F H (Ext.refl m) (by rw [cut_whole h]; exact .tup h1 h2)
  | frl l =>
    cases z
    cases (show Rp _ _ _ _ _ _ from rx) with
    | @frl a xs ds h1 h2 => exact .inl ⟨a, xs, rfl, sqL_mono m.sub h1, fun p hp => k _ _ _ (Ext.laidF m (o := .lst _) hp) (.lst upd_same ((Ext.laidF m hp).rpL (h2.cut lo hi)))⟩
  | str s =>
    have z' : (if s.length ≤ 16000000 then some (D.str (cutS s lo hi)) else none) = some res := z
    split at z'
    · rename_i hs
      cases z'
      cases (show Rp _ _ _ _ _ _ from rx)
      exact .inr (.inr ⟨s, rfl, by rw [sizeLine_eq]; omega, k _ F H (Ext.refl m) (.str _)⟩)
    · cases z'
  | _ => cases z
section
variable {X : Cx} {cl : Nat → Addr} {W : WX} {a b e : PySem.Expr} {lo hi : Option PySem.Expr} {f fa fb : EF} {pos p1 p2 : Pos} {x : Str}
theorem de_ix (ha : DE X cl W a fa) (hb : DE X cl W b fb) (hs : PlainIx b) : DE X cl W (.Subscript a b pos) (dIx fa fb) :=
  PE.imp (pe_ix (IxR.or ix_list (IxR.or ix_tup ix_str)) ha hb hs) fun σ H Q q => by
    obtain ⟨F, al, sl, mu, w, po⟩ := q
    refine seqG back_RD w po rfl fun v d F1 al1 mu1 H1 x1 w1 r1 po1 => ?_
    refine seqG back_RD w1 po1 rfl fun u e F2 al2 mu2 H2 x2 w2 r2 po2 => ?_
    dsimp only at po2
    cases z : ixD (lookD mu2 d) e with
    | none => rw [z] at po2; exact False.elim po2
    | some res =>
      rw [z] at po2
      exact ix_top (T := Cx.th X cl) w2.toMus (top_look w2.toMus (x2.rp r1)) r2 z fun v' r' => Po.here po2 w2.toMus r'
theorem de_ixS {i : Nat} (ha : PE X a (tVar i)) (hb : DE X cl W b fb) (hs : PlainIx b) : DE X cl W (.Subscript a b pos) (dIxS i fb) :=
  PE.imp (pe_ix (IxR.or ix_list (IxR.or ix_tup ix_str)) ha hb hs) fun σ H Q q => by
    obtain ⟨F, al, sl, mu, w, po⟩ := q
    unfold dIxS at po
    split at po
    · rename_i sv hsv
      have hv : ∃ v, σ[i]? = some (some v) := by
        cases sv with
        | val d =>
          obtain ⟨v, h1, _⟩ := w.val i d hsv
          exact ⟨v, h1⟩
        | own m =>
          obtain ⟨a, _, h1, _⟩ := w.own i m hsv
          exact ⟨_, h1⟩
      obtain ⟨v, hv⟩ := hv
      refine ⟨v, hv, ?_⟩
      refine seqG back_RD w po rfl fun u e F2 al2 mu2 H2 x2 w2 r2 po2 => ?_
      have ht : Top (Cx.th X cl) F2 al2 mu2.length H2 v (svD mu2 sv) := by
        cases sv with
        | val d =>
          obtain ⟨v', h1, h2⟩ := w2.val i d hsv
          rw [hv] at h1; cases h1
          exact top_look w2.toMus h2
        | own m =>
          obtain ⟨a, o, h1, h2, h3, h4, _⟩ := w2.own i m hsv
          rw [hv] at h1; cases h1
          exact top_conc h3 h4
      cases z : ixD (svD mu2 sv) e with
      | none => simp only [z] at po2; exact False.elim po2
      | some res =>
        simp only [z] at po2
        exact ix_top (T := Cx.th X cl) w2.toMus ht r2 z fun v' r' => Po.here po2 w2.toMus r'
    · exact False.elim po
theorem do_none : DO X cl W none dNoP := ⟨fun pins s σ H Q I h => by
  obtain ⟨F, al, sl, mu, w, po⟩ := h
  exact po_none.run pins s σ H Q I (Po.here po w.toMus rfl)⟩
theorem PO.imp {o : Option PySem.Expr} {t t' : TO} (h : PO X o t) (i : ∀ σ H Q, t' σ H Q → t σ H Q) : PO X o t' := ⟨fun pins s σ H Q I q => h.run pins s σ H Q I (i σ H Q q)⟩
theorem do_some (h : DE X cl W a fa) : DO X cl W (some a) (dP fa) := PO.imp (po_some h) fun σ H Q q => by
  obtain ⟨F, al, sl, mu, w, po⟩ := q
  refine seqG back_ROi w po rfl fun v d F1 al1 mu1 H1 x1 w1 r1 po1 => ?_
  cases d with
  | int i => cases r1; exact ⟨i, rfl, Po.here (R := ROi) po1 w1.toMus rfl⟩
  | _ => exact False.elim po1
theorem de_sl {l h : OF} (ha : DE X cl W a fa) (hl : DO X cl W lo l) (hh : DO X cl W hi h) : DE X cl W (.Subscript a (.Slice lo hi none p2) pos) (dSl fa l h) :=
  PE.imp (pe_slice (SlR.or sl_list (SlR.or sl_tupA sl_str)) ha hl hh) fun σ H Q q => by
    obtain ⟨F, al, sl, mu, w, po⟩ := q
    refine seqG back_RD w po rfl fun v d F1 al1 mu1 H1 x1 w1 r1 po1 => ?_
    refine seqG back_RD w1 po1 rfl fun i i' F2 al2 mu2 H2 x2 w2 r2 po2 => ?_
    refine seqG back_RD w2 po2 rfl fun j j' F3 al3 mu3 H3 x3 w3 r3 po3 => ?_
    cases r2
    cases r3
    dsimp only at po3
    cases z : sliceD (lookD mu3 d) i j with
    | none => rw [z] at po3; exact False.elim po3
    | some res =>
      rw [z] at po3
      exact sl_top (T := Cx.th X cl) w3.toMus (top_look w3.toMus (x3.rp (x2.rp r1))) z fun v' F' H' x' r' => po3 v' F' al3 H' x' r'
end

/-! ### isinstance -/
inductive Ty where
  | int | bool | str | list | tuple | dict
  deriving DecidableEq
def Ty.n : Ty → String
  | .int => "int" | .bool => "bool" | .str => "str" | .list => "list" | .tuple => "tuple" | .dict => "dict"
def isTy : Ty → D → Bool
  | .int, .int _ => true
  | .int, .bl _ => true
  | .bool, .bl _ => true
  | .str, .str _ => true
  | .list, .lst _ => true
  | .tuple, .tup _ => true
  | .dict, .dct _ => true
  | _, _ => false
/-- what isinstance may look at -/
def isiOk : D → Bool
  | .obj _ => false
  | .frl _ => false
  | _ => true
/-- what of the text a class of instances must have -/
structure ClsT (K : PySem.W.Frag) (C : Addr) : Prop where
  cl : Cls K C
  ha : PySem.W.findIn K (.ref C) "__class__" = some (some (.builtin "object.__class__"))
  hn : PySem.W.specialIn K (.builtin "object.__class__") "__get__" = some (some (.builtin "getset_descriptor.__get__"))
  tk : PySem.W.takesIn K (.builtin "object.__class__") = some true
  mr : PySem.W.mroIn K C (.type "object") = some true
  is : ∀ t : Ty, PySem.W.kitOne K (.ref C) (.type t.n) = some false
def tyNm : D → Option String
  | .non => some "NoneType"
  | .bl _ => some "bool"
  | .int _ => some "int"
  | .str _ => some "str"
  | .lst _ => some "list"
  | .tup _ => some "tuple"
  | .dct _ => some "dict"
  | _ => none
theorem kit_tbl : ∀ (t : Ty), kitB "NoneType" t.n = some false ∧ kitB "bool" t.n = some (decide (t = .int ∨ t = .bool)) ∧ kitB "int" t.n = some (decide (t = .int)) ∧ kitB "str" t.n = some (decide (t = .str)) ∧ kitB "list" t.n = some (decide (t = .list)) ∧ kitB "tuple" t.n = some (decide (t = .tuple)) ∧ kitB "dict" t.n = some (decide (t = .dict)) := by
  intro t
  cases t <;> decide +kernel
/-- the type of what is looked at -/
theorem tyX_top {T : Th} {F : Hp} {al : Nat → Addr} {mu : Store} {H : Hp} {v : V} {d : D} (m : Mus T F al mu H) (hC : ∀ c, Lv T.cls c → ClsT T.K (T.cls c)) (r : Top T F al mu.length H v d) (ok : isiOk d = true) :
    ∃ t, TyX T.K H v t ∧ ((∃ n, tyNm d = some n ∧ t = .type n) ∨ ∃ c fs, d = .ins c fs ∧ Lv T.cls c ∧ t = .ref (T.cls c)) := by
  cases d with
  | non => cases (show Rp _ _ _ _ _ _ from r); exact ⟨_, .base .non, .inl ⟨_, rfl, rfl⟩⟩
  | bl b => cases (show Rp _ _ _ _ _ _ from r); exact ⟨_, .base (.bl b), .inl ⟨_, rfl, rfl⟩⟩
  | int b => cases (show Rp _ _ _ _ _ _ from r); exact ⟨_, .base (.int b), .inl ⟨_, rfl, rfl⟩⟩
  | str b => cases (show Rp _ _ _ _ _ _ from r); exact ⟨_, .base (.str b), .inl ⟨_, rfl, rfl⟩⟩
  | lst l =>
    obtain ⟨a, xs, rfl, h1, h2⟩ := r
    exact ⟨_, .base (.lst h1), .inl ⟨_, rfl, rfl⟩⟩
  | tup l =>
    cases (show Rp _ _ _ _ _ _ from r) with
    | tup h1 h2 =>
      exact ⟨_, .base (.tup (m.sub _ _ h1)), .inl ⟨_, rfl, rfl⟩⟩
  | ins c fs =>
    obtain ⟨hc, a, dx, vs, rfl, h1, h2⟩ := r
    have k := hC c hc
    exact ⟨_, .base (.ins h1 k.cl k.ha k.hn k.tk k.mr), .inr ⟨c, fs, rfl, hc, rfl⟩⟩
  | dct _ =>
    cases (show Rp _ _ _ _ _ _ from r) with
    | dct h1 => exact ⟨_, .base (.dK (m.sub _ _ h1)), .inl ⟨_, rfl, rfl⟩⟩
  | obj _ => cases ok
  | frl _ => cases ok
theorem kit_isTy {T : Th} {d : D} {t : Value} (y : Ty) (hC : ∀ c, Lv T.cls c → ClsT T.K (T.cls c)) (h : (∃ n, tyNm d = some n ∧ t = .type n) ∨ ∃ c fs, d = .ins c fs ∧ Lv T.cls c ∧ t = .ref (T.cls c)) : PySem.W.kitOne T.K t (.type y.n) = some (isTy y d) := by
  obtain ⟨k1, k2, k3, k4, k5, k6, k7⟩ := kit_tbl y
  rcases h with ⟨n, e, rfl⟩ | ⟨c, fs, rfl, hc, rfl⟩
  · cases d with
    | non => cases e; rw [kit_ty k1]; cases y <;> rfl
    | bl b => cases e; rw [kit_ty k2]; cases y <;> rfl
    | int b => cases e; rw [kit_ty k3]; cases y <;> rfl
    | str b => cases e; rw [kit_ty k4]; cases y <;> rfl
    | lst b => cases e; rw [kit_ty k5]; cases y <;> rfl
    | tup b => cases e; rw [kit_ty k6]; cases y <;> rfl
    | dct b => cases e; rw [kit_ty k7]; cases y <;> rfl
    | _ => cases e
  · rw [(hC c hc).is y]
    cases y <;> rfl
/-- isinstance(x, T) -/
def dIsi (y : Ty) (f : EF) : BF := dBind f fun d _ mu => if isiOk d = true then .ok (isTy y d) mu else .bad
/-- isinstance(x, (T1, T2)) -/
def dIsi2 (y z : Ty) (f : EF) : BF := dBind f fun d _ mu => if isiOk d = true then .ok (isTy y d || isTy z d) mu else .bad
/-- isinstance(x, an own class) -/
def isIn (c : Nat) : D → Bool
  | .ins c' _ => c' == c
  | _ => false
def dIsC (c : Nat) (f : EF) : BF := dBind f fun d _ mu => if isiOk d = true then .ok (isIn c d) mu else .bad
structure ClsI (K : PySem.W.Frag) (cl : Nat → Addr) (c : Nat) : Prop where
  ty : ∀ n ∈ ["NoneType", "bool", "int", "str", "list", "tuple", "dict"], PySem.W.kitOne K (.type n) (.ref (cl c)) = some false
  own : ∀ c', Lv cl c' → PySem.W.kitOne K (.ref (cl c')) (.ref (cl c)) = some (c' == c)
section
variable {X : Cx} {cl : Nat → Addr} {W : WX} {a b e : PySem.Expr} {f fa fb : EF} {pos p1 p2 p3 p4 : Pos} {x : Str}
theorem de_isi {y : Ty} {tn : PySem.Expr} (hC : ∀ c, Lv cl c → ClsT X.K (cl c)) (hg : Gl X "isinstance") (hm : X.mg "isinstance" = none) (h : DKk X cl W e f) (ht : PE X tn (tC (.ty y.n)))
    (he : starEach [e, tn] X.env = (false, eval e X.env) :: starEach [tn] X.env := by rfl) (he2 : starEach [tn] X.env = (false, eval tn X.env) :: starEach [] X.env := by rfl) (hpl : (backTo pos (starEach [tn] X.env)).any (·.1) = false := by rfl) :
    DE X cl W (.Call (.Name "isinstance" p1) [e, tn] [] pos) (dB2v (dIsi y f)) :=
  PE.imp (pe_callB call_isi hg hm PyProof.Rows.boot_isinstance (pa_cons h (pa_cons ht pa_nil he2) he) (by decide) (by decide) he hpl) fun σ H Q q => by
    obtain ⟨F, al, sl, mu, w, po⟩ := tV2B q
    refine seqG back_RB w po rfl fun v d F1 al1 mu1 H1 x1 w1 r1 po1 => ?_
    dsimp only at po1
    split at po1
    · rename_i ok
      obtain ⟨t, h1, h2⟩ := tyX_top (T := Cx.th X cl) w1.toMus hC r1 ok
      exact ⟨v, .ty y.n, t, .type y.n, isTy y d, rfl, .ty _, h1, kit_isTy (T := Cx.th X cl) y hC h2, Po.here (R := RB) (Q := fun c H' => Q (.bl c) H') po1 w1.toMus rfl⟩
    · exact False.elim po1
theorem de_isi2 {y z : Ty} {tn tm : PySem.Expr} {k : Nat} (hC : ∀ c, Lv cl c → ClsT X.K (cl c)) (hg : Gl X "isinstance") (hm : X.mg "isinstance" = none) (h : DKk X cl W e f) (ht : PE X tn (tC (.ty y.n))) (hu : PE X tm (tC (.ty z.n)))
    (he : starEach [e, .Tuple [tn, tm] k p4] X.env = (false, eval e X.env) :: starEach [.Tuple [tn, tm] k p4] X.env := by rfl) (he2 : starEach [.Tuple [tn, tm] k p4] X.env = (false, eval (.Tuple [tn, tm] k p4) X.env) :: starEach [] X.env := by rfl)
    (he3 : starEach [tn, tm] X.env = (false, eval tn X.env) :: starEach [tm] X.env := by rfl) (he4 : starEach [tm] X.env = (false, eval tm X.env) :: starEach [] X.env := by rfl) (hpl : (backTo pos (starEach [.Tuple [tn, tm] k p4] X.env)).any (·.1) = false := by rfl) :
    DE X cl W (.Call (.Name "isinstance" p1) [e, .Tuple [tn, tm] k p4] [] pos) (dB2v (dIsi2 y z f)) :=
  PE.imp (pe_callB call_isiT hg hm PyProof.Rows.boot_isinstance (pa_cons h (pa_cons (pe_tup (pa_cons ht (pa_cons hu pa_nil he4) he3)) pa_nil he2) he) (by decide) (by decide) he hpl) fun σ H Q q => by
    obtain ⟨F, al, sl, mu, w, po⟩ := tV2B q
    refine seqG back_RB w po rfl fun v d F1 al1 mu1 H1 x1 w1 r1 po1 => ?_
    refine ⟨by show 2 ≤ sizeLine; rw [sizeLine_eq]; decide, fun p hp => ?_⟩
    dsimp only at po1
    split at po1
    · rename_i ok
      have x2 := Ext.laidH w1.toMus (o := .tup [V.ty y.n, V.ty z.n]) hp
      have r2 : Top (Cx.th X cl) F1 al1 mu1.length (upd H1 p (.tup [V.ty y.n, V.ty z.n])) v d := by
        cases d with
        | lst l =>
          obtain ⟨a, xs, e, h1, h2⟩ := r1
          exact ⟨a, xs, e, by rw [upd_ne (ne_of_none h1 hp)]; exact h1, h2⟩
        | ins c fs =>
          obtain ⟨h0, a, dx, xs, e, h1, h2⟩ := r1
          exact ⟨h0, a, dx, xs, e, by rw [upd_ne (ne_of_none h1 hp)]; exact h1, h2⟩
        | _ => exact r1
      obtain ⟨t, h1, h2⟩ := tyX_top (T := Cx.th X cl) x2.mus hC r2 ok
      have k1 := kit_isTy (T := Cx.th X cl) y hC h2
      have k2 := kit_isTy (T := Cx.th X cl) z hC h2
      refine ⟨v, p, [.ty y.n, .ty z.n], t, [.type y.n, .type z.n], isTy y d || isTy z d, rfl, upd_same, .cons (.ty _) (.cons (.ty _) .nil), h1, ?_, po1 _ F1 al1 _ x2 rfl⟩
      refine kitAny_cons k1 (fun e1 => ?_) (fun e1 => by rw [e1]; rfl)
      refine kitAny_cons k2 (fun e2 => ?_) (fun e2 => by rw [e2, Bool.or_true])
      rw [e1, e2]; rfl
    · exact False.elim po1
theorem de_isC {c : Nat} {tn : PySem.Expr} (hC : ∀ c, Lv cl c → ClsT X.K (cl c)) (hI : ClsI X.K cl c) (hg : Gl X "isinstance") (hm : X.mg "isinstance" = none) (h : DKk X cl W e f) (ht : PE X tn (tC (.ref (cl c))))
    (he : starEach [e, tn] X.env = (false, eval e X.env) :: starEach [tn] X.env := by rfl) (he2 : starEach [tn] X.env = (false, eval tn X.env) :: starEach [] X.env := by rfl) (hpl : (backTo pos (starEach [tn] X.env)).any (·.1) = false := by rfl) :
    DE X cl W (.Call (.Name "isinstance" p1) [e, tn] [] pos) (dB2v (dIsC c f)) :=
  PE.imp (pe_callB call_isi hg hm PyProof.Rows.boot_isinstance (pa_cons h (pa_cons ht pa_nil he2) he) (by decide) (by decide) he hpl) fun σ H Q q => by
    obtain ⟨F, al, sl, mu, w, po⟩ := tV2B q
    refine seqG back_RB w po rfl fun v d F1 al1 mu1 H1 x1 w1 r1 po1 => ?_
    dsimp only at po1
    split at po1
    · rename_i ok
      obtain ⟨t, h1, h2⟩ := tyX_top (T := Cx.th X cl) w1.toMus hC r1 ok
      have hk : PySem.W.kitOne X.K t (.ref (cl c)) = some (isIn c d) := by
        rcases h2 with ⟨n, e, rfl⟩ | ⟨c', fs, rfl, hc, rfl⟩
        · have hn : n ∈ ["NoneType", "bool", "int", "str", "list", "tuple", "dict"] := by
            cases d <;> first | (cases e; decide) | cases e
          rw [hI.ty n hn]
          cases d <;> first | rfl | cases e
        · exact hI.own c' hc
      exact ⟨v, .ref (cl c), t, .ref (cl c), isIn c d, rfl, .own _, h1, hk, Po.here (R := RB) (Q := fun c H' => Q (.bl c) H') po1 w1.toMus rfl⟩
    · exact False.elim po1

/-! ### attributes -/
def attrD (x : Str) : D → Option D
  | .ins c fs => fs.lookup x
  | _ => none
theorem RpF.lookup {T : Th} {F : Hp} {al : Nat → Addr} {n : Nat} {x : Str} {d : D} : ∀ {vs : List (Str × V)} {fs : List (Str × D)}, RpF T F al n vs fs → fs.lookup x = some d → ∃ v, vs.lookup x = some v ∧ Rp T F al n v d
  | [], [], _, h => by cases h
  | (y, v) :: vs, (z, d') :: fs, r, h => by
    cases r with
    | cons r1 r2 =>
      rw [List.lookup_cons] at h ⊢
      cases q : x == y with
      | true => rw [q] at h; cases h; exact ⟨v, rfl, r1⟩
      | false => rw [q] at h; exact RpF.lookup r2 h
  | [], _ :: _, r, _ => by cases r
  | _ :: _, [], r, _ => by cases r
theorem de_attr (hC : ∀ c, Lv cl c → ClsT X.K (cl c)) (hN : ∀ c, Lv cl c → NoAttr X.K (cl c) x) (h : DKk X cl W e f) (hb : attributeBase e x X.env (eval e X.env) = eval e X.env) : DE X cl W (.Attribute e x pos) (dOp1 (attrD x) f) :=
  PE.imp (pe_fld h hb) fun σ H Q q => by
    obtain ⟨F, al, sl, mu, w, po⟩ := q
    refine seqG back_RD w po rfl fun v d F1 al1 mu1 H1 x1 w1 r1 po1 => ?_
    dsimp only at po1
    cases z : attrD x d with
    | none => rw [z] at po1; exact False.elim po1
    | some res =>
      rw [z] at po1
      cases d with
      | ins c fs =>
        obtain ⟨hc, a, dx, vs, rfl, h1, h2⟩ := r1
        obtain ⟨u, h3, h4⟩ := h2.lookup z
        exact ⟨a, _, dx, vs, u, rfl, h1, (hC c hc).cl, hN c hc, h3, Po.here po1 w1.toMus h4⟩
      | _ => cases z
end
end DL
end

section
set_option Elab.async false
set_option linter.all false
set_option maxRecDepth 100000
set_option maxHeartbeats 4000000
/-! DO: objects of the store: made, changed, frozen; methods of lists; stores. -/
namespace DL
open PySem L2
section
variable {T : Th} {F F1 H H1 : Hp} {al al1 : Nat → Addr} {mu mu1 : Store} {sl : Sl} {σ : St} {v : V} {d : D}
def regA (al : Nat → Addr) (n : Nat) (a : Addr) : Nat → Addr := fun k => if k = n then a else al k
theorem regA_lt {n k : Nat} {a : Addr} (h : k < n) : regA al n a k = al k := if_neg (Nat.ne_of_lt h)
theorem app_get {m m' : MO} {k : Nat} (e : (mu ++ [some m])[k]? = some (some m')) : (k < mu.length ∧ mu[k]? = some (some m')) ∨ (k = mu.length ∧ m' = m) := by
  rcases Nat.lt_trichotomy k mu.length with h | h | h
  · rw [List.getElem?_append_left h] at e
    exact .inl ⟨h, e⟩
  · subst h
    rw [List.getElem?_append_right (Nat.le_refl _), Nat.sub_self] at e
    cases e
    exact .inr ⟨rfl, rfl⟩
  · rw [List.getElem?_eq_none (by rw [List.length_append]; exact h)] at e
    cases e
/-- a new object becomes one of the store -/
theorem Ext.reg (x : Ext T F al mu H F1 al1 mu1 H1) {a : Addr} {o : HO} {m : MO} (h0 : H a = none) (h1 : F1 a = none) (h2 : H1 a = some o) (c : Conc T F1 al1 mu1.length o m) (ne : ∀ k m', mu1[k]? = some (some m') → al1 k ≠ a) :
    Ext T F al mu H F1 (regA al1 mu1.length a) (mu1 ++ [some m]) H1 := by
  have len : (mu1 ++ [some m]).length = mu1.length + 1 := by simp
  have old : ∀ k, k < mu1.length → regA al1 mu1.length a k = al1 k := fun k h => regA_lt h
  have here : regA al1 mu1.length a mu1.length = a := if_pos rfl
  have up : ∀ {o m}, Conc T F1 al1 mu1.length o m → Conc T F1 (regA al1 mu1.length a) (mu1 ++ [some m]).length o m := fun c => c.mono (fun _ _ h => h) old (by rw [List.length_append]; exact Nat.le_add_right _ _)
  refine ⟨⟨x.mus.sub, fun k m' e => ?_, fun k m' k' m2 e1 e2 z => ?_⟩, x.sub, x.new, x.keep, x.there, fun k h => ?_, by rw [len]; exact Nat.le_succ_of_le x.ln, fun k m' e => ?_⟩
  · rcases app_get e with ⟨h, e⟩ | ⟨rfl, rfl⟩
    · obtain ⟨g1, o', g2, g3⟩ := x.mus.at_ k m' e
      rw [old k h]
      exact ⟨g1, o', g2, g3.mono (fun _ _ h => h) old (by rw [List.length_append]; exact Nat.le_add_right _ _)⟩
    · rw [here]
      exact ⟨h1, o, h2, up c⟩
  · rcases app_get e1 with ⟨l1, g1⟩ | ⟨i1, _⟩ <;> rcases app_get e2 with ⟨l2, g2⟩ | ⟨i2, _⟩
    · rw [old k l1, old k' l2] at z
      exact x.mus.inj k m' k' m2 g1 g2 z
    · rw [old k l1, i2, here] at z
      exact absurd z (ne k m' g1)
    · rw [old k' l2, i1, here] at z
      exact absurd z.symm (ne k' m2 g2)
    · rw [i1, i2]
  · rw [old k (Nat.lt_of_lt_of_le h x.ln)]
    exact x.als k h
  · rcases app_get e with ⟨h, e⟩ | ⟨rfl, rfl⟩
    · rcases x.fresh k m' e with g | g
      · exact .inl g
      · exact .inr (by rw [old k h]; exact g)
    · exact .inr (by rw [here]; exact h0)
/-- an object of the store is changed -/
theorem Ext.updO (M : Mus T F al mu H) {k : Nat} {m0 m : MO} {o : HO} (hk : mu[k]? = some (some m0)) (c : Conc T F al mu.length o m) : Ext T F al mu H F al (mu.set k (some m)) (upd H (al k) o) := by
  have hF := (M.at_ k m0 hk).1
  have lt := lt_of_live hk
  have get : ∀ {j : Nat} {m' : MO}, (mu.set k (some m))[j]? = some (some m') → (j = k ∧ m' = m) ∨ (k ≠ j ∧ mu[j]? = some (some m')) := fun e => by
    rcases set_get e with ⟨rfl, h, _⟩ | ⟨ne, h⟩
    · cases h; exact .inl ⟨rfl, rfl⟩
    · exact .inr ⟨ne, h⟩
  have live : ∀ {j : Nat} {m' : MO}, (mu.set k (some m))[j]? = some (some m') → ∃ m2, mu[j]? = some (some m2) := fun e => by
    rcases get e with ⟨rfl, _⟩ | ⟨_, h⟩
    · exact ⟨_, hk⟩
    · exact ⟨_, h⟩
  refine ⟨⟨fun a u e => ?_, fun j m' e => ?_, fun j m1 j' m2 e1 e2 z => ?_⟩, fun _ _ h => h, fun _ _ h => .inl h, fun a u e n => ?_, there_upd, fun _ _ => rfl, by rw [List.length_set]; exact Nat.le_refl _, fun j m' e => .inl (live e)⟩
  · rw [upd_ne (ne_of_none e hF)]; exact M.sub a u e
  · rw [List.length_set]
    rcases get e with ⟨rfl, rfl⟩ | ⟨ne, h⟩
    · exact ⟨hF, o, upd_same, c⟩
    · obtain ⟨g1, o', g2, g3⟩ := M.at_ j m' h
      exact ⟨g1, o', by rw [upd_ne fun z => ne (M.inj j m' k m0 h hk z).symm]; exact g2, g3⟩
  · obtain ⟨m3, e3⟩ := live e1
    obtain ⟨m4, e4⟩ := live e2
    exact M.inj j m3 j' m4 e3 e4 z
  · rw [upd_ne fun z => n k m0 hk z.symm]; exact e
/-- an object of the store is frozen -/
theorem Ext.frzO (M : Mus T F al mu H) {k : Nat} {m : MO} (hk : mu[k]? = some (some m)) (hm : ∀ kvs, m ≠ .dct kvs) : ∃ F', Ext T F al mu H F' al (mu.set k none) H ∧ Rp T F' al (mu.set k none).length (.ref (al k)) m.d := by
  obtain ⟨hF, o, ho, c⟩ := M.at_ k m hk
  have up : ∀ b u, F b = some u → upd F (al k) o b = some u := fun b u e => by rw [upd_ne (ne_of_none e hF)]; exact e
  have live : ∀ {j : Nat} {m' : MO}, (mu.set k none)[j]? = some (some m') → k ≠ j ∧ mu[j]? = some (some m') := fun e => by
    rcases set_get e with ⟨rfl, h, _⟩ | ⟨ne, h⟩
    · cases h
    · exact ⟨ne, h⟩
  refine ⟨upd F (al k) o, ⟨⟨fun a u e => ?_, fun j m' e => ?_, fun j m1 j' m2 e1 e2 z => M.inj j m1 j' m2 (live e1).2 (live e2).2 z⟩, up, fun a u e => ?_, fun a u e _ => e, fun _ h => h, fun _ _ => rfl, by rw [List.length_set]; exact Nat.le_refl _, fun j m' e => .inl ⟨m', (live e).2⟩⟩, by rw [List.length_set]; exact rp_freeze hF c hm⟩
  · by_cases z : a = al k
    · subst z; rw [upd_same] at e; cases e; exact ho
    · rw [upd_ne z] at e; exact M.sub a u e
  · obtain ⟨ne, h⟩ := live e
    obtain ⟨g1, o', g2, g3⟩ := M.at_ j m' h
    rw [List.length_set]
    exact ⟨by rw [upd_ne fun z => ne (M.inj j m' k m h hk z).symm]; exact g1, o', g2, g3.mono up (fun _ _ => rfl) (Nat.le_refl _)⟩
  · by_cases z : a = al k
    · exact .inr (.inr ⟨k, m, hk, z.symm⟩)
    · rw [upd_ne z] at e; exact .inl e
end

/-- a new object becomes one of the store -/
def dReg (f : NF) : EF := dBind f fun m _ mu => .ok (.obj mu.length) (mu ++ [some m])
/-- an object of the store is frozen; what is none stays -/
def dFz (f : EF) : EF := dBind f fun d _ mu => match d with
  | .obj k => match mu[k]? with
    | some (some (.lst l)) => .ok (.lst l) (mu.set k none)
    | some (some (.ins c fs)) => .ok (.ins c fs) (mu.set k none)
    | _ => .bad
  | d => .ok d mu
section
variable {X : Cx} {cl : Nat → Addr} {W : WX} {n : En} {a b e o i : PySem.Expr} {es : List PySem.Expr} {f fa fb fo fi : EF} {ga : LF} {pos p1 pos' apos cpos : Pos} {x : Str}
theorem de_reg {f : NF} (h : DN X cl W e f) : DE X cl W e (dReg f) := PE.imp h fun σ H Q q => by
  obtain ⟨F, al, sl, mu, w, po⟩ := q
  refine ⟨F, al, sl, mu, w, ?_⟩
  unfold dReg dBind obind at po
  cases q : f sl mu with
  | ok m mu1 =>
    rw [q] at po
    intro v F1 al1 H1 x r
    obtain ⟨a, o, rfl, h0, h1, h2, h3, h4⟩ := r
    refine po _ _ _ _ (x.reg h0 h1 h2 h3 h4) ?_
    have := Rp.obj (T := Cx.th X cl) (F := F1) (al := regA al1 mu1.length a) (n := (mu1 ++ [some m]).length) (k := mu1.length) (by simp)
    rwa [show regA al1 mu1.length a mu1.length = a from if_pos rfl] at this
  | ex c fs mu1 => rw [q] at po; exact po
  | bad => rw [q] at po; exact po
theorem de_fz (h : DE X cl W e f) : DE X cl W e (dFz f) := PE.imp h fun σ H Q q => by
  obtain ⟨F, al, sl, mu, w, po⟩ := q
  refine seqG back_RD w po rfl fun v d F1 al1 mu1 H1 x1 w1 r1 po1 => ?_
  cases d with
  | obj k =>
    dsimp only at po1
    cases r1
    split at po1
    · rename_i l hk
      obtain ⟨F', x2, r2⟩ := Ext.frzO w1.toMus hk (fun _ z => nomatch z)
      exact po1 _ _ _ _ x2 r2
    · rename_i c fs hk
      obtain ⟨F', x2, r2⟩ := Ext.frzO w1.toMus hk (fun _ z => nomatch z)
      exact po1 _ _ _ _ x2 r2
    · exact False.elim po1
  | _ => exact Po.here po1 w1.toMus r1

/-! ### methods that change a list of the store -/
def lstOf (mu : Store) : D → Option (List D)
  | .obj k => match mu[k]? with
    | some (some (.lst l)) => some l
    | _ => none
  | _ => none
def putO (mu : Store) (d : D) (m : MO) : Store := match d with
  | .obj k => mu.set k (some m)
  | _ => mu
theorem lstOf_get {mu : Store} {d : D} {l : List D} (h : lstOf mu d = some l) : ∃ k, d = .obj k ∧ mu[k]? = some (some (.lst l)) := by
  cases d with
  | obj k =>
    unfold lstOf at h
    dsimp only at h
    split at h
    · rename_i l' e
      cases h
      exact ⟨k, rfl, e⟩
    · cases h
  | _ => cases h
def RMut (T : Th) (r : V → List V → Hp → VK → Prop) (g : List D → List D → Option (D × List D)) : Prop := ∀ (F : Hp) (al : Nat → Addr) (mu : Store) (H : Hp), Mus T F al mu H → ∀ (a : Addr) (xs : List V) (l : List D) (vs : List V) (ds : List D) (res : D) (l' : List D) (Q : VK),
  H a = some (.lst xs) → RpL T F al mu.length xs l → RpL T F al mu.length vs ds → g l ds = some (res, l') → (∀ v xs', RpL T F al mu.length xs' l' → Rp T F al mu.length v res → Q v (upd H a (.lst xs'))) → r (.ref a) vs H Q
def dMut (g : List D → List D → Option (D × List D)) (fo : EF) (ga : LF) : EF := dBind fo fun d sl mu => match lstOf mu d with
  | some _ => obind (ga sl mu) fun ds mu => match lstOf mu d with
    | some l => match g l ds with
      | some (res, l') => .ok res (putO mu d (.lst l'))
      | none => .bad
    | none => .bad
  | none => .bad
theorem Mus.lst {T : Th} {F H : Hp} {al : Nat → Addr} {mu : Store} (M : Mus T F al mu H) {k : Nat} {l : List D} (hk : mu[k]? = some (some (.lst l))) : ∃ xs, H (al k) = some (.lst xs) ∧ RpL T F al mu.length xs l := by
  obtain ⟨_, o, h1, h2⟩ := M.at_ k _ hk
  cases o <;> first
    | exact False.elim h2
    | exact ⟨_, h1, h2⟩
theorem tMut {r : V → List V → Hp → VK → Prop} {g : List D → List D → Option (D × List D)} (hr : RMut (Cx.th X cl) r g) {σ : St} {H : Hp} {Q : VK} (q : tG (Cx.th X cl) W (RD (Cx.th X cl)) (dMut g fo ga) σ H Q) : tBM X.K "list" r (tG (Cx.th X cl) W (RD (Cx.th X cl)) fo) (tG (Cx.th X cl) W (RLs (Cx.th X cl)) ga) σ H Q := by
  obtain ⟨F, al, sl, mu, w, po⟩ := q
  refine seqG back_RD w po rfl fun v d F1 al1 mu1 H1 x1 w1 r1 po1 => ?_
  dsimp only at po1
  cases z : lstOf mu1 d with
  | none => rw [z] at po1; exact False.elim po1
  | some l1 =>
    rw [z] at po1
    dsimp only at po1
    obtain ⟨k, rfl, hk⟩ := lstOf_get z
    cases r1 with
    | obj lt =>
    obtain ⟨xs, h1, _⟩ := w1.toMus.lst hk
    refine ⟨.inl ⟨rfl, xs, SqL.of h1⟩, ?_⟩
    refine seqG back_RD w1 po1 rfl fun vs ds F2 al2 mu2 H2 x2 w2 r2 po2 => ?_
    cases z2 : lstOf mu2 (.obj k) with
    | none => rw [z2] at po2; exact False.elim po2
    | some l2 =>
      rw [z2] at po2
      dsimp only at po2
      cases z3 : g l2 ds with
      | none => rw [z3] at po2; exact False.elim po2
      | some p =>
        obtain ⟨res, l'⟩ := p
        rw [z3] at po2
        obtain ⟨k', e', hk2⟩ := lstOf_get z2
        cases e'
        obtain ⟨ys, h2, h3⟩ := w2.toMus.lst hk2
        rw [← x2.als k lt]
        refine hr F2 al2 mu2 H2 w2.toMus _ ys l2 vs ds res l' Q h2 h3 r2 z3 fun v xs' h4 h5 => ?_
        exact po2 v F2 al2 _ (Ext.updO w2.toMus hk2 (o := .lst xs') (m := .lst l') h4) (by show Rp _ _ _ (mu2.set k _).length _ _; rw [List.length_set]; exact h5)
theorem de_mut {name : Str} {id : String} {r : V → List V → Hp → VK → Prop} {g : List D → List D → Option (D × List D)} (slot : Slot "list" name id) (hty : typeOf (.builtin id) = pure (.type "method_descriptor")) (hm : MtR X id r) (hr : RMut (Cx.th X cl) r g) (ho : DE X cl W o fo) (ha : DAs X cl W (e :: es) ga)
    (hbase : attributeBase o name X.env (eval o X.env) = eval o X.env := by rfl)
    (hfew : ((backTo cpos (starEach (e :: es) X.env)).all (fun x => !x.1) && (backToKw cpos (keywordEach [] X.env)).all (fun x => x.1.isSome)
      && decide ((e :: es).length + ([] : List Keyword).length + (if ([] : List Keyword).isEmpty then 0 else 1) < 30)) = true := by rfl)
    (hline : (apos.endLine == cpos.line) = true := by rfl) (hs : starEach (e :: es) X.env = (false, eval e X.env) :: starEach es X.env := by rfl) (hplain : (backTo cpos (starEach es X.env)).any (·.1) = false := by rfl) :
    DE X cl W (.Call (.Attribute o name apos) (e :: es) [] cpos) (dMut g fo ga) :=
  PE.imp (pe_bm F.plainAttrs_list slot hty hm ho ha hbase hfew hline hs hplain) fun σ H Q q => tMut hr q
def appD (l ds : List D) : Option (D × List D) := match ds with
  | [d] => if l.length < 16000000 then some (.non, l ++ [d]) else none
  | _ => none
theorem rm_append {T : Th} : RMut T rAppend appD := fun F al mu H m a xs l vs ds res l' Q h1 h2 h3 z k => by
  unfold appD at z
  split at z
  · rename_i d
    split at z
    · rename_i hl
      cases z
      cases h3 with
      | cons r1 r2 =>
        cases r2
        exact ⟨a, xs, _, rfl, rfl, h1, by rw [RpL.len h2, sizeLine_eq]; omega, k _ _ (h2.append (.cons r1 .nil)) .non⟩
    · cases z
  · cases z
def extD (l ds : List D) : Option (D × List D) := match ds with
  | [.lst l'] => if l.length + l'.length ≤ 16000000 then some (.non, l ++ l') else none
  | _ => none
theorem rm_extend {T : Th} : RMut T rExtend extD := fun F al mu H m a xs l vs ds res l' Q h1 h2 h3 z k => by
  unfold extD at z
  split at z
  · rename_i d
    split at z
    · rename_i hl
      cases z
      cases h3 with
      | cons r1 r2 =>
        cases r2
        cases r1 with
        | lst g1 g2 => exact ⟨a, _, xs, _, rfl, rfl, h1, m.sub _ _ g1, by rw [RpL.len h2, RpL.len g2, sizeLine_eq]; omega, k _ _ (h2.append g2) .non⟩
    · cases z
  · cases z
def popD (l ds : List D) : Option (D × List D) := match ds with
  | [.int i] => if rgOk i = true then match seqIndex? i l.length with
    | some k => match l[k]? with
      | some d => some (d, l.eraseIdx k)
      | none => none
    | none => none
    else none
  | _ => none
theorem RpL.erase {T : Th} {F : Hp} {al : Nat → Addr} {n : Nat} : ∀ {vs : List V} {ds : List D} (k : Nat), RpL T F al n vs ds → RpL T F al n (vs.eraseIdx k) (ds.eraseIdx k)
  | [], [], _, h => h
  | v :: vs, d :: ds, 0, .cons _ h => h
  | v :: vs, d :: ds, k + 1, .cons h1 h => .cons h1 (RpL.erase k h)
  | [], d :: ds, _, h => by cases h
  | v :: vs, [], _, h => by cases h
theorem rm_pop {T : Th} : RMut T rPopAt popD := fun F al mu H m a xs l vs ds res l' Q h1 h2 h3 z k => by
  unfold popD at z
  split at z
  · rename_i i
    split at z
    · rename_i hi
      split at z
      · rename_i j hj
        split at z
        · rename_i d hd
          cases z
          cases h3 with
          | cons r1 r2 =>
            cases r2
            cases r1
            obtain ⟨y, g1, g2⟩ := h2.get hd
            have hi := rgOk_of hi
            exact ⟨a, xs, i, j, y, rfl, rfl, h1, by omega, by omega, by rw [RpL.len h2]; exact hj, g1, k _ _ (h2.erase j) g2⟩
        · cases z
      · cases z
    · cases z
  · cases z
theorem de_append (ho : DE X cl W o fo) (ha : DAs X cl W [e] ga)
    (hbase : attributeBase o "append" X.env (eval o X.env) = eval o X.env := by rfl)
    (hfew : ((backTo cpos (starEach [e] X.env)).all (fun x => !x.1) && (backToKw cpos (keywordEach [] X.env)).all (fun x => x.1.isSome)
      && decide ([e].length + ([] : List Keyword).length + (if ([] : List Keyword).isEmpty then 0 else 1) < 30)) = true := by rfl)
    (hline : (apos.endLine == cpos.line) = true := by rfl) (hs : starEach [e] X.env = (false, eval e X.env) :: starEach [] X.env := by rfl) (hplain : (backTo cpos (starEach [] X.env)).any (·.1) = false := by rfl) :
    DE X cl W (.Call (.Attribute o "append" apos) [e] [] cpos) (dMut appD fo ga) := de_mut F.slot_list_append (by rfl) mt_append rm_append ho ha hbase hfew hline hs hplain
theorem de_extend (ho : DE X cl W o fo) (ha : DAs X cl W [e] ga)
    (hbase : attributeBase o "extend" X.env (eval o X.env) = eval o X.env := by rfl)
    (hfew : ((backTo cpos (starEach [e] X.env)).all (fun x => !x.1) && (backToKw cpos (keywordEach [] X.env)).all (fun x => x.1.isSome)
      && decide ([e].length + ([] : List Keyword).length + (if ([] : List Keyword).isEmpty then 0 else 1) < 30)) = true := by rfl)
    (hline : (apos.endLine == cpos.line) = true := by rfl) (hs : starEach [e] X.env = (false, eval e X.env) :: starEach [] X.env := by rfl) (hplain : (backTo cpos (starEach [] X.env)).any (·.1) = false := by rfl) :
    DE X cl W (.Call (.Attribute o "extend" apos) [e] [] cpos) (dMut extD fo ga) := de_mut F.slot_list_extend (by rfl) mt_extend rm_extend ho ha hbase hfew hline hs hplain
theorem de_pop (ho : DE X cl W o fo) (ha : DAs X cl W [e] ga)
    (hbase : attributeBase o "pop" X.env (eval o X.env) = eval o X.env := by rfl)
    (hfew : ((backTo cpos (starEach [e] X.env)).all (fun x => !x.1) && (backToKw cpos (keywordEach [] X.env)).all (fun x => x.1.isSome)
      && decide ([e].length + ([] : List Keyword).length + (if ([] : List Keyword).isEmpty then 0 else 1) < 30)) = true := by rfl)
    (hline : (apos.endLine == cpos.line) = true := by rfl) (hs : starEach [e] X.env = (false, eval e X.env) :: starEach [] X.env := by rfl) (hplain : (backTo cpos (starEach [] X.env)).any (·.1) = false := by rfl) :
    DE X cl W (.Call (.Attribute o "pop" apos) [e] [] cpos) (dMut popD fo ga) := de_mut F.slot_list_pop (by rfl) mt_popAt rm_pop ho ha hbase hfew hline hs hplain

/-! ### o[i] = v, o.f = v, x op= v -/
def setD (l : List D) (i v : D) : Option (List D) := match i with
  | .int k => match ixN l.length k with
    | some j => some (l.set j v)
    | none => none
  | _ => none
def sSetI (fo fi f : EF) : SF := fun sl mu => sbind (f sl mu) sl fun v mu => sbind (fo sl mu) sl fun d mu => sbind (fi sl mu) sl fun i mu => match lstOf mu d with
  | some l => match setD l i v with
    | some l' => .nx sl (putO mu d (.lst l'))
    | none => .bad
  | none => .bad
theorem RpL.set {T : Th} {F : Hp} {al : Nat → Addr} {n : Nat} {v : V} {d : D} (r : Rp T F al n v d) : ∀ {vs : List V} {ds : List D} (k : Nat), RpL T F al n vs ds → RpL T F al n (vs.set k v) (ds.set k d)
  | [], [], _, h => h
  | _ :: vs, _ :: ds, 0, .cons _ h => .cons r h
  | _ :: vs, _ :: ds, k + 1, .cons h1 h => .cons h1 (RpL.set r k h)
  | [], d :: ds, _, h => by cases h
  | v :: vs, [], _, h => by cases h
theorem W3.updO {T : Th} {F H : Hp} {al : Nat → Addr} {mu : Store} {sl : Sl} {σ : St} (w : W3 T n F al sl mu σ H) {k : Nat} {m0 m : MO} {o : HO} (hk : mu[k]? = some (some m0)) (c : Conc T F al mu.length o m) : W3 T n F al sl (mu.set k (some m)) σ (L2.upd H (al k) o) := w.ext (Ext.updO w.w.toMus hk c)
theorem ds_setI (hf : DE X cl W e f) (ho : DE X cl W o fo) (hi : DE X cl W i fi)
    (ha : ∀ v, assign (.Subscript o i pos') X.env v = (do
      let ov ← holding [v] (eval o X.env)
      let iv ← holding [v, ov] (eval i X.env)
      standAt pos'
      holding [v, ov, iv] (setItem ov iv v)
      release [v, ov, iv] []) := by intro _; rfl)
    (hs : swapsWithSole [.Subscript o i pos'] e pos.line X.env = pure false := by rfl) (hw : swappedStores [.Subscript o i pos'] e X.env = pure none := by rfl)
    (h1 : (assignEach [.Subscript o i pos'] X.env).map (·.2) = [assign (.Subscript o i pos') X.env] := by rfl) : DS X cl W n (.Assign [.Subscript o i pos'] e pos) (sSetI fo fi f) :=
  PS.imp (ps_asg hf (pg_sub ho hi set_list ha) hs hw h1) fun Z σ H q => by
    obtain ⟨F, al, sl, mu, w, po⟩ := q
    refine seqS w po rfl fun v d F1 al1 mu1 H1 x1 w1 r1 po1 => ?_
    refine seqS w1 po1 rfl fun ov dd F2 al2 mu2 H2 x2 w2 r2 po2 => ?_
    refine seqS w2 po2 rfl fun iv di F3 al3 mu3 H3 x3 w3 r3 po3 => ?_
    cases z : lstOf mu3 dd with
    | none => rw [z] at po3; exact False.elim po3
    | some l =>
      rw [z] at po3
      dsimp only at po3
      obtain ⟨k, rfl, hk⟩ := lstOf_get z
      cases z2 : setD l di d with
      | none => rw [z2] at po3; exact False.elim po3
      | some l' =>
        rw [z2] at po3
        unfold setD at z2
        cases di with
        | int ii =>
          dsimp only at z2
          cases r3
          have r4 := x3.rp r2
          cases r4
          obtain ⟨xs, h1, h2⟩ := w3.w.toMus.lst hk
          split at z2
          · rename_i j hj
            cases z2
            exact ⟨_, xs, ii, j, rfl, rfl, h1, by rw [RpL.len h2]; exact hj, PoS.nx po3 (w3.updO hk (o := .lst (xs.set j v)) (m := .lst (l.set j d)) (h2.set (x3.rp (x2.rp r1)) j)) (by show mu3.length ≤ (mu3.set k _).length; rw [List.length_set]; exact Nat.le_refl _)⟩
          · cases z2
        | _ => cases z2
def putFD (f : Str) (v : D) : List (Str × D) → List (Str × D)
  | [] => [(f, v)]
  | (g, u) :: r => if g = f then (g, v) :: r else (g, u) :: putFD f v r
end
end DL
end

section
set_option Elab.async false
set_option linter.all false
set_option maxRecDepth 100000
set_option maxHeartbeats 4000000
/-! DP: attributes stored, augmented names, methods, instances made, own ==. -/
namespace DL
open PySem L2
section
variable {X : Cx} {k : Nat} {f C : Addr} {fd : FuncData} {ps : List Str} {sp : Sp} {E : St → XK} {x m : Str} {p pos apos : Pos} {e o : PySem.Expr} {es : List PySem.Expr} {ta : TE} {t : TA} {CX : CXT}
def tMeW (C : Addr) (m : Str) (sp : Sp) (E : St → XK) (ta : TE) (t : TA) : TE := fun σ H Q => ta σ H fun x H1 => ∃ a dx fs, x = .ref a ∧ H1 a = some (.ins C dx fs) ∧ fs.lookup m = none ∧ t σ H1 fun vs H2 => sp (x :: vs) H2 Q (E σ)
def tMkW (C : Addr) (sp : Sp) (E : St → XK) (t : TA) : TE := fun σ H Q => t σ H fun vs H1 => ∀ x dx, H1 x = none → H1 dx = none → dx ≠ x → sp (.ref x :: vs) (upd (upd H1 dx (.own x)) x (.ins C dx [])) (fun v H2 => v = .non ∧ Q (.ref x) H2) (E σ)
theorem pe_meW {pl : Sem Bool} (he : PE X o ta) (c : Cls X.K C) (hm : Meth X.K C m f) (F : FnOk X.prog X.w X.K X.mg X.base CX k f fd ps sp) (hr : Room k X.A) (hb : Binds X.K fd ps []) (hx : ∀ σ, PassesAt CX X σ (E σ)) (ha : PA X (e :: es) t)
    (hst : starEach (e :: es) X.env = (false, eval e X.env) :: starEach es X.env := by rfl) (hpl : (backTo pos (starEach es X.env)).any (·.1) = false := by rfl)
    (ht : eval (.Call (.Attribute o m apos) (e :: es) [] pos) X.env = (do
      let ov ← eval o X.env
      standAt apos.atName
      let (f, first) ← holding [ov] (getMethod ov m pl)
      callWith pos f first (backTo pos (starEach (e :: es) X.env)) (backToKw pos (keywordEach [] X.env))) := by rfl) :
    PE X (.Call (.Attribute o m apos) (e :: es) [] pos) (tMeW C m sp E ta t) := by
  refine ⟨fun pins s σ H Q I h => ?_⟩
  refine PySem.W.methodCall_KW (pl := pl) (thn (he.run pins s σ H _ I h) fun u s1 ⟨x, H1, I1, rx, a, dx, fs, ex, ea, l, q⟩ => ?_) ht
  subst ex
  obtain rfl : u = Value.ref a := rx
  refine getmeth_ok I1 ea c hm l ?_
  refine PySem.W.callWith_K (first := [.ref a]) (h₀ := X.base) I.ok.mod.kin hm.kp (thn (ha.run pos pins s1 σ H1 _ I1 q) fun us s2 ⟨vs, H2, I2, r, q2⟩ => ⟨I2.kIn, ?_⟩) hst hpl
  exact run_fnS (us := .ref a :: us) (vs := .ref a :: vs) F hr hb (hx σ) I2 (.cons rfl r) q2
theorem pe_meW0 {pl : Sem Bool} (he : PE X o ta) (c : Cls X.K C) (hm : Meth X.K C m f) (F : FnOk X.prog X.w X.K X.mg X.base CX k f fd ps sp) (hr : Room k X.A) (hb : Binds X.K fd ps []) (hx : ∀ σ, PassesAt CX X σ (E σ))
    (ht : eval (.Call (.Attribute o m apos) [] [] pos) X.env = (do
      let ov ← eval o X.env
      standAt apos.atName
      let (f, first) ← holding [ov] (getMethod ov m pl)
      callWith pos f first (backTo pos (starEach [] X.env)) (backToKw pos (keywordEach [] X.env))) := by rfl) :
    PE X (.Call (.Attribute o m apos) [] [] pos) (tMeW C m sp E ta tNil) := by
  refine ⟨fun pins s σ H Q I h => ?_⟩
  refine PySem.W.methodCall_KW (pl := pl) (thn (he.run pins s σ H _ I h) fun u s1 ⟨x, H1, I1, rx, a, dx, fs, ex, ea, l, q⟩ => ?_) ht
  subst ex
  obtain rfl : u = Value.ref a := rx
  refine getmeth_ok I1 ea c hm l ?_
  exact PySem.W.callWith_K0 (first := [.ref a]) I1.kIn hm.kp (run_fnS (us := [.ref a]) (vs := [.ref a]) F hr hb (hx σ) I1 (.cons rfl .nil) q)
theorem run_mkW {pins : List (Addr × Obj)} {σ : St} {H : Hp} {s : Shared} {Q : VK} {us : List Value} {vs : List V} (M : Mk X.K C f) (F : FnOk X.prog X.w X.K X.mg X.base CX k f fd ps sp) (hr : Room (k + 1) X.A) (hb : Binds X.K fd ps [])
    (hx : PassesAt CX X σ (E σ)) (I : Inv X pins σ H s) (r : Vals vs us)
    (h : ∀ x dx, H x = none → H dx = none → dx ≠ x → sp (.ref x :: vs) (upd (upd H dx (.own x)) x (.ins C dx [])) (fun v H2 => v = .non ∧ Q (.ref x) H2) (E σ)) :
    wpAny (model X.prog X.w) X.A (call (.ref C) us) (EP X pins σ Q) X.xe s := by
  have hq := h (s.heap.objs.size + 1) s.heap.objs.size (I.hok.fresh (Nat.le_succ _)) (I.hok.fresh (Nat.le_refl _)) (Nat.ne_of_lt (Nat.lt_succ_self _))
  have I2 := Inv.made (C := C) I
  have r2 : Vals (V.ref (s.heap.objs.size + 1) :: vs) (Value.ref (s.heap.objs.size + 1) :: us) := .cons rfl r
  have hl : (Value.ref (s.heap.objs.size + 1) :: us).length = ps.length := by rw [← r2.length]; exact F.len _ _ _ _ hq
  have b := hb _ (Value.ref (s.heap.objs.size + 1) :: us) I2.kIn (by rw [List.append_nil]; exact hl)
  rw [List.append_nil] at b
  refine wpAny_call (make_map (f := f) I.kIn M.makes M.init (beq_iff_eq.mp M.fn) (codeAny_mono (F.run _ X.stack _ _ ⟨Value.ref (s.heap.objs.size + 1) :: us, []⟩ (Value.ref (s.heap.objs.size + 1) :: us) _ _ (E σ) (hr.make C us [])
    (I2.env0.make C us []) b r2 hq) fun r s' hq' => ?_))
  cases r with
  | error e => exact hx pins _ _ e s' I2 hq'
  | ok fl =>
    cases fl with
    | ret u =>
      obtain ⟨v, H', I3, rv, ev, q3⟩ := I2.after hq'
      subst ev
      exact ⟨rv, ⟨V.ref (s.heap.objs.size + 1), H', I3, rfl, q3⟩⟩
    | next => exact False.elim hq'
    | brk => exact False.elim hq'
    | cont => exact False.elim hq'
theorem pe_mkW (M : Mk X.K C f) (F : FnOk X.prog X.w X.K X.mg X.base CX k f fd ps sp) (hr : Room (k + 1) X.A) (hg : Gl X x) (hm : X.mg x = some (.ref C)) (hb : Binds X.K fd ps []) (hx : ∀ σ, PassesAt CX X σ (E σ))
    (ha : PA X (e :: es) t) (hdb : (x == ("__debug__" : Str)) = false := by decide) (he : starEach (e :: es) X.env = (false, eval e X.env) :: starEach es X.env := by rfl) (hpl : (backTo pos (starEach es X.env)).any (·.1) = false := by rfl) :
    PE X (.Call (.Name x p) (e :: es) [] pos) (tMkW C sp E t) := by
  refine ⟨fun pins s σ H Q I h => ?_⟩
  refine wpAny_Call_Name_kw (ld_glob I hg hm ?_ hdb)
  refine PySem.W.callWith_K (h₀ := X.base) I.ok.mod.kin M.kp (thn (ha.run pos pins s σ H _ I h) fun us s1 ⟨vs, H1, I1, r, q⟩ => ⟨I1.kIn, ?_⟩) he hpl
  exact run_mkW M F hr hb (hx σ) I1 r q
theorem pe_mkW0 (M : Mk X.K C f) (F : FnOk X.prog X.w X.K X.mg X.base CX k f fd ps sp) (hr : Room (k + 1) X.A) (hg : Gl X x) (hm : X.mg x = some (.ref C)) (hb : Binds X.K fd ps []) (hx : ∀ σ, PassesAt CX X σ (E σ))
    (hdb : (x == ("__debug__" : Str)) = false := by decide) : PE X (.Call (.Name x p) [] [] pos) (tMkW C sp E tNil) := by
  refine ⟨fun pins s σ H Q I h => ?_⟩
  refine wpAny_Call_Name_kw (ld_glob I hg hm ?_ hdb)
  exact PySem.W.callWith_K0 I.kIn M.kp (run_mkW (us := []) M F hr hb (hx σ) I .nil h)
end

/-! ### methods of own classes -/
structure Gm (P : Program) (w : World) (K : PySem.W.Frag) (mg : Str → Option Value) (base : Heap) (cl : Nat → Addr) (k c : Nat) (m : Str) (np : Nat) (p : FF) : Prop where
  ex : ∃ (f : Addr) (fd : FuncData) (ps : List Str), FnOk P w K mg base (L2.CX P w) k f fd ps (spD ⟨K, cl⟩ np p) ∧ Meth K (cl c) m f ∧ Cls K (cl c) ∧ L2.Binds K fd ps []
structure Gi (P : Program) (w : World) (K : PySem.W.Frag) (mg : Str → Option Value) (base : Heap) (cl : Nat → Addr) (k : Nat) (x : Str) (c : Nat) (np : Nat) (p : FF) : Prop where
  ex : ∃ (f : Addr) (fd : FuncData) (ps : List Str), FnOk P w K mg base (L2.CX P w) k f fd ps (spD ⟨K, cl⟩ np p) ∧ (Mk K (cl c) f ∧ Lv cl c) ∧ mg x = some (.ref (cl c)) ∧ L2.Binds K fd ps []
def hasC (c : Nat) (m : Str) : D → Bool
  | .ins c' fs => c' == c && (fs.lookup m).isNone
  | _ => false
def dMeth (c : Nat) (m : Str) (p : FF) (fo : EF) (ga : LF) : EF := dBind fo fun d sl mu => if hasC c m (lookD mu d) = true then obind (ga sl mu) fun ds mu => p (d :: ds) mu else .bad
def dMake (c : Nat) (p : FF) (ga : LF) : EF := dBind ga fun ds _ mu => match p (.obj mu.length :: ds) (mu ++ [some (.ins c [])]) with
  | .ok .non mu' => .ok (.obj mu.length) mu'
  | .ex c fs mu' => .ex c fs mu'
  | _ => .bad
theorem RpF.lookup_none {T : Th} {F : Hp} {al : Nat → Addr} {n : Nat} {x : Str} : ∀ {vs : List (Str × V)} {fs : List (Str × D)}, RpF T F al n vs fs → fs.lookup x = none → vs.lookup x = none
  | [], [], _, _ => rfl
  | (y, v) :: vs, (z, d') :: fs, r, h => by
    cases r with
    | cons r1 r2 =>
      rw [List.lookup_cons] at h ⊢
      cases q : x == y with
      | true => rw [q] at h; cases h
      | false => rw [q] at h; exact RpF.lookup_none r2 h
  | [], _ :: _, r, _ => by cases r
  | _ :: _, [], r, _ => by cases r
section
variable {X : Cx} {cl : Nat → Addr} {W : WX} {n : En} {a b e o i : PySem.Expr} {es : List PySem.Expr} {f fa fb fo fi : EF} {ga : LF} {pos p1 pos' apos cpos : Pos} {x m : Str} {k c np : Nat} {p : FF}
theorem top_ins {T : Th} {F H : Hp} {al : Nat → Addr} {mu : Store} {v : V} {d : D} (M : Mus T F al mu H) (r : Rp T F al mu.length v d) (h : hasC c m (lookD mu d) = true) : ∃ a dx fs, v = .ref a ∧ H a = some (.ins (T.cls c) dx fs) ∧ fs.lookup m = none := by
  have t := top_look M r
  cases z : lookD mu d with
  | ins c' fs =>
    rw [z] at h t
    have h' : (c' == c && (fs.lookup m).isNone) = true := h
    rw [Bool.and_eq_true] at h'
    obtain ⟨_, a, dx, vs, e1, e2, e3⟩ := t
    have hc : c' = c := by simpa using h'.1
    subst hc
    exact ⟨a, dx, vs, e1, e2, e3.lookup_none (by simpa using h'.2)⟩
  | _ => rw [z] at h; cases h
theorem tMe {F0 : FF} (hl : ∀ sl mu ds mu', ga sl mu = .ok ds mu' → ds.length + 1 = np) {σ : St} {H : Hp} {Q : VK} (q : tG (Cx.th X cl) W (RD (Cx.th X cl)) (dMeth c m p fo ga) σ H Q) :
    tMeW (cl c) m (spD (Cx.th X cl) np p) (WE W) (tG (Cx.th X cl) W (RD (Cx.th X cl)) fo) (tG (Cx.th X cl) W (RLs (Cx.th X cl)) ga) σ H Q := by
  obtain ⟨F, al, sl, mu, w, po⟩ := q
  refine seqG back_RD w po rfl fun v d F1 al1 mu1 H1 x1 w1 r1 po1 => ?_
  dsimp only at po1
  split at po1
  · rename_i hc
    obtain ⟨a, dx, fs, e1, e2, e3⟩ := top_ins (T := Cx.th X cl) w1.toMus r1 hc
    subst e1
    refine ⟨a, dx, fs, rfl, e2, e3, F1, al1, sl, mu1, w1, ?_⟩
    unfold obind at po1
    cases z : ga sl mu1 with
    | ok ds mu2 =>
      rw [z] at po1
      intro vs F2 al2 H2 x2 r2
      exact ⟨F2, al2, mu2, d :: ds, x2.mus, .cons (x2.rp r1) r2, hl _ _ _ _ z, Po.wish (Po.step back_RD x2 po1) fun _ _ _ h => h⟩
    | ex c fs mu2 => rw [z] at po1; exact po1
    | bad => rw [z] at po1; exact po1
  · exact False.elim po1
theorem de_meth {pl : Sem Bool} (g : Gm X.prog X.w X.K X.mg X.base cl k c m (np + 1) p) (hr : Room k X.A) (tk : Takes X W) (ho : DE X cl W o fo) (ha : DAs X cl W (e :: es) ga) (hl : Len ga np)
    (hst : starEach (e :: es) X.env = (false, eval e X.env) :: starEach es X.env := by rfl) (hpl : (backTo pos (starEach es X.env)).any (·.1) = false := by rfl)
    (ht : eval (.Call (.Attribute o m apos) (e :: es) [] pos) X.env = (do
      let ov ← eval o X.env
      standAt apos.atName
      let (f, first) ← holding [ov] (getMethod ov m pl)
      callWith pos f first (backTo pos (starEach (e :: es) X.env)) (backToKw pos (keywordEach [] X.env))) := by rfl) :
    DE X cl W (.Call (.Attribute o m apos) (e :: es) [] pos) (dMeth c m p fo ga) := by
  obtain ⟨f, fd, ps, hf, hm, hc, hb⟩ := g.ex
  exact PE.imp (pe_meW (pl := pl) (E := WE W) ho hc hm hf hr hb (passAt tk) ha hst hpl ht) fun σ H Q q => tMe (F0 := p) (fun _ _ _ _ h => by rw [hl _ _ _ _ h]) q
theorem de_meth0 {pl : Sem Bool} (g : Gm X.prog X.w X.K X.mg X.base cl k c m 1 p) (hr : Room k X.A) (tk : Takes X W) (ho : DE X cl W o fo)
    (ht : eval (.Call (.Attribute o m apos) [] [] pos) X.env = (do
      let ov ← eval o X.env
      standAt apos.atName
      let (f, first) ← holding [ov] (getMethod ov m pl)
      callWith pos f first (backTo pos (starEach [] X.env)) (backToKw pos (keywordEach [] X.env))) := by rfl) :
    DE X cl W (.Call (.Attribute o m apos) [] [] pos) (dMeth c m p fo dNil) := by
  obtain ⟨f, fd, ps, hf, hm, hc, hb⟩ := g.ex
  refine PE.imp (pe_meW0 (pl := pl) (E := WE W) ho hc hm hf hr hb (passAt tk) ht) fun σ H Q q => ?_
  have q1 := tMe (F0 := p) (np := 1) (fun _ _ _ _ h => by cases h; rfl) q
  obtain ⟨F, al, sl, mu, w, po⟩ := q1
  refine ⟨F, al, sl, mu, w, ?_⟩
  cases z : fo sl mu with
  | ok d mu1 =>
    rw [z] at po
    intro v F1 al1 H1 x1 r1
    obtain ⟨a, dx, fs, e1, e2, e3, F2, al2, sl2, mu2, w2, po2⟩ := po v F1 al1 H1 x1 r1
    exact ⟨a, dx, fs, e1, e2, e3, Po.here po2 w2.toMus .nil⟩
  | ex c fs mu1 => rw [z] at po; exact po
  | bad => rw [z] at po; exact po
theorem tMkD (h0 : Lv cl c) (hl : ∀ sl mu ds mu', ga sl mu = .ok ds mu' → ds.length + 1 = np) {σ : St} {H : Hp} {Q : VK} (q : tG (Cx.th X cl) W (RD (Cx.th X cl)) (dMake c p ga) σ H Q) :
    tMkW (cl c) (spD (Cx.th X cl) np p) (WE W) (tG (Cx.th X cl) W (RLs (Cx.th X cl)) ga) σ H Q := by
  obtain ⟨F, al, sl, mu, w, po⟩ := q
  refine ⟨F, al, sl, mu, w, ?_⟩
  unfold dMake dBind obind at po
  cases z : ga sl mu with
  | ok ds mu1 =>
    rw [z] at po
    dsimp only at po
    intro vs F1 al1 H1 x1 r1 x dx hx hdx ne
    have g1 := x1.trans (Ext.laidH x1.mus (o := .own x) hdx)
    have hx2 : upd H1 dx (.own x) x = none := by rw [upd_ne ne.symm]; exact hx
    have g2 := g1.trans (Ext.laidH g1.mus (o := .ins (cl c) dx []) hx2)
    have g3 := Ext.reg (T := Cx.th X cl) (mu1 := mu1) (m := .ins c []) g2 (a := x) (x1.there x hx) (x1.mus.F_none hx) upd_same ⟨⟨rfl, h0⟩, .nil⟩ (Mus.ne_laid x1.mus hx)
    have ro : Rp (Cx.th X cl) F1 (regA al1 mu1.length x) (mu1 ++ [some (MO.ins c [])]).length (.ref x) (.obj mu1.length) := by
      have := Rp.obj (T := Cx.th X cl) (F := F1) (al := regA al1 mu1.length x) (n := (mu1 ++ [some (MO.ins c [])]).length) (k := mu1.length) (by simp)
      rwa [show regA al1 mu1.length x mu1.length = x from if_pos rfl] at this
    have rds := r1.mono (T := Cx.th X cl) (F' := F1) (al' := regA al1 mu1.length x) (n' := (mu1 ++ [some (MO.ins c [])]).length) (fun _ _ h => h) (fun k h => regA_lt h) (by rw [List.length_append]; exact Nat.le_add_right _ _)
    refine ⟨F1, regA al1 mu1.length x, mu1 ++ [some (.ins c [])], .obj mu1.length :: ds, g3.mus, .cons ro rds, hl _ _ _ _ z, ?_⟩
    cases z2 : p (.obj mu1.length :: ds) (mu1 ++ [some (.ins c [])]) with
    | ok d mu2 =>
      rw [z2] at po
      cases d with
      | non =>
        intro v F2 al2 H2 x2 r2
        cases r2
        refine ⟨rfl, po _ _ _ _ (g3.trans x2) ?_⟩
        exact x2.rp ro
      | _ => exact False.elim po
    | ex c' fs mu2 =>
      rw [z2] at po
      exact fun dx F2 al2 H2 x2 r2 => po _ _ _ _ (g3.trans x2) r2
    | bad => rw [z2] at po; exact False.elim po
  | ex c' fs mu1 => rw [z] at po; exact po
  | bad => rw [z] at po; exact po
theorem de_make (g : Gi X.prog X.w X.K X.mg X.base cl k x c (np + 1) p) (hr : Room (k + 1) X.A) (hg : Gl X x) (tk : Takes X W) (ha : DAs X cl W (e :: es) ga) (hl : Len ga np)
    (hdb : (x == ("__debug__" : Str)) = false := by decide) (he : starEach (e :: es) X.env = (false, eval e X.env) :: starEach es X.env := by rfl) (hpl : (backTo pos (starEach es X.env)).any (·.1) = false := by rfl) : DE X cl W (.Call (.Name x p1) (e :: es) [] pos) (dMake c p ga) := by
  obtain ⟨f, fd, ps, hf, ⟨hM, h0⟩, hm, hb⟩ := g.ex
  exact PE.imp (pe_mkW (E := WE W) hM hf hr hg hm hb (passAt tk) ha hdb he hpl) fun σ H Q q => tMkD h0 (fun _ _ _ _ h => by rw [hl _ _ _ _ h]) q
theorem de_make0 (g : Gi X.prog X.w X.K X.mg X.base cl k x c 1 p) (hr : Room (k + 1) X.A) (hg : Gl X x) (tk : Takes X W) (hdb : (x == ("__debug__" : Str)) = false := by decide) : DE X cl W (.Call (.Name x p1) [] [] pos) (dMake c p dNil) := by
  obtain ⟨f, fd, ps, hf, ⟨hM, h0⟩, hm, hb⟩ := g.ex
  refine PE.imp (pe_mkW0 (E := WE W) hM hf hr hg hm hb (passAt tk) hdb) fun σ H Q q => ?_
  obtain ⟨F, al, sl, mu, w, po⟩ := tMkD (np := 1) h0 (fun _ _ _ _ h => by cases h; rfl) q
  exact Po.here po w.toMus .nil
end
end DL
end

section
set_option Elab.async false
set_option linter.all false
set_option maxRecDepth 100000
set_option maxHeartbeats 4000000
/-! DQ: own == and !=, attributes stored, augmented names, what is out of reach goes. -/
namespace DL
open PySem L2
section
open PySem.W PyProof.Rows
variable {prog : Program} {w : World} {A : Around} {E : Value → Shared → Prop} {s : Shared} {K : Frag} {x C L f : Addr} {h₀ : Heap} {m : PySem.Str → Option Value} {ox : Obj} {od : Option Obj} {b tb : Value}
theorem objNe_own (X : K.In s.heap) (I : InstAt s.heap x ox C od) (hs : findIn K (.ref C) "__eq__" = some (some (.ref f))) (hf : isFn K (.ref f) = true) (hu : A.units < cLine) {Q : Fin → Shared → Prop}
    (hcall : wpAny (model prog w) A (call (.ref f) [.ref x, b]) (fun v s' => ∃ c, v = .bool c ∧ Q (.done (.ret (.bool (!c)))) s') E s) : wpAny (model prog w) A (Builtin.«object.__ne__» ⟨[.ref x, b], []⟩) Q E s := by
  obtain ⟨h, g, d, t, os⟩ := s
  unfold Builtin.«object.__ne__»
  repeat (first
    | with_reducible refine wpAny_cRoomFor hu ?_
    | (refine wpAny_bind (m := callSpecialIfBound? (.ref x) (PySem.Str.ofString "__eq__") [b])
        (ifBound_K (s := ⟨h, g, d, t, os⟩) X I hs hf (wpAny_mono hcall (fun v s' hv => by
          obtain ⟨c, rfl, hq⟩ := hv
          repeat (first | exact hq | exact wpAny_pure hq | exact wpAny_truthy_bool hq | (refine wpAny_bind (m := truthy (.bool _)) (wpAny_truthy_bool ?_)) | wp_step)) fun _ _ e => e)))
    | wp_step)
theorem tryNe_own (X : K.In s.heap) (I : InstAt s.heap x ox C od) (hs : findIn K (.ref C) "__eq__" = some (some (.ref f))) (hf : isFn K (.ref f) = true) (hne : findIn K (.ref C) "__ne__" = some (some (.builtin "object.__ne__"))) (hm : mroIn K C (.type "object") = some true) (hu : A.units + 1 < cLine) {Q : Option Value → Shared → Prop}
    (hcall : wpAny (model prog w) A.in1 (call (.ref f) [.ref x, b]) (fun v s' => ∃ c, v = .bool c ∧ Q (some (.bool (!c))) s') E s) : wpAny (model prog w) A (tryCompare (.ref x) "__ne__" b) Q E s := by
  unfold tryCompare
  have FB := (show Slot "object" "__ne__" "object.__ne__" from .of (owner := "object") (n := "__ne__") (by rw [typeLookup_type, builtinLookup_eq_fast]; kernel_rfl) (by decide +kernel) (by decide +kernel) (by decide +kernel)
    (by first | exact .inl (by decide +kernel) | exact .inr (by decide +kernel)) (by rw [isSubtype_type]; kernel_rfl))
  refine wpAny_bind (NtL.csib (E := E) (I.type.andThen (looks_findIn X hne)) (FB.bind _) ?_)
  refine wpAny_call (codeAny_call_builtin FB.plain PySem.F.cmpEntry_ne (check_slot PySem.F.cmpKind_ne PySem.F.cmpSplit_ne (I.type.andThen (looks_mroIn X hm)) (PySem.F.cmpArgs_ne _ _) ?_))
  refine objNe_own (A := A.in1) X I hs hf (by exact hu) (wpAny_mono hcall (fun v s' hv => ?_) fun _ _ e => e)
  obtain ⟨c, rfl, hq⟩ := hv
  first | exact ⟨c, rfl, wpAny_pure hq⟩ | exact ⟨c, rfl, wpAny_pure (wpAny_pure hq)⟩ | exact ⟨c, rfl, hq⟩
theorem ne_K {Q : Value → Shared → Prop} (hu : A.units + 1 < cLine) (F : Fr h₀ L s.heap m) (X₀ : K.In h₀) (I : InstAt s.heap x ox C od) (hb : Looks (model prog w) s.heap (typeOf b) tb) (hn : notFirst K C tb = true)
    (hs : findIn K (.ref C) "__eq__" = some (some (.ref f))) (hf : isFn K (.ref f) = true) (hne : findIn K (.ref C) "__ne__" = some (some (.builtin "object.__ne__"))) (hm : mroIn K C (.type "object") = some true)
    (h : wpAny (model prog w) A.in1 (call (.ref f) [.ref x, b]) (fun v s' => ∃ c, v = .bool c ∧ Q (.bool (!c)) s') E s) : wpAny (model prog w) A (richCompare .NotEq (.ref x) b) Q E s := by
  have X := X₀.keeps F.keep
  have one : wpAny (model prog w) A (tryCompare (.ref x) "__ne__" b) (fun r s' => ∃ v, r = some v ∧ Q v s') E s :=
    tryNe_own X I hs hf hne hm hu (wpAny_mono h (fun v s' hv => by obtain ⟨c, e1, e2⟩ := hv; exact ⟨c, e1, _, rfl, e2⟩) fun _ _ e => e)
  unfold richCompare
  simp only [oneThing_ref]
  refine wpAny_holding (wpAny_bind (wpAny_cRoomFor (Nat.lt_of_succ_lt hu) ?_))
  rw [cmpInfo_NotEq]
  dsimp only
  refine wpAny_bind (I.type.here (wpAny_bind (hb.here ?_)))
  split
  · rename_i q
    have e : subIn K tb (.ref C) = some false := by
      rcases Bool.or_eq_true_iff.mp hn with e | e
      · rw [beq_iff_eq.mp e] at q; simp at q
      · exact beq_iff_eq.mp e
    refine wpAny_bind ((looks_subIn X e).here ?_)
    simp only [Bool.false_eq_true, if_false]
    refine wpAny_bind (wpAny_mono one (fun r s' z => ?_) fun _ _ e => e)
    obtain ⟨v, rfl, hq⟩ := z
    exact wpAny_pure hq
  · refine wpAny_bind (wpAny_pure ?_)
    simp only [Bool.false_eq_true, if_false]
    refine wpAny_bind (wpAny_mono one (fun r s' z => ?_) fun _ _ e => e)
    obtain ⟨v, rfl, hq⟩ := z
    exact wpAny_pure hq
end
end DL
end

section
set_option Elab.async false
set_option linter.all false
set_option maxRecDepth 100000
set_option maxHeartbeats 4000000
namespace DL
open PySem L2
/-! DR: own == and != of the layer, attributes stored, augmented names, what is out of reach goes. -/
structure ClsE (K : PySem.W.Frag) (cl : Nat → Addr) (c : Nat) : Prop where
  ty : ∀ n ∈ ["NoneType", "bool", "int", "str", "list", "tuple", "dict"], PySem.W.notFirst K (cl c) (.type n) = true
  own : ∀ c', Lv cl c' → PySem.W.notFirst K (cl c) (.ref (cl c')) = true
structure ClsN (K : PySem.W.Frag) (C : Addr) : Prop where
  ne : PySem.W.findIn K (.ref C) "__ne__" = some (some (.builtin "object.__ne__"))
  ob : PySem.W.mroIn K C (.type "object") = some true
def isC (c : Nat) : D → Bool
  | .ins c' _ => c' == c
  | _ => false
def dEqO (neg : Bool) (c : Nat) (p : FF) (fa fb : EF) : BF := dBind fa fun x => dBind fb fun y _ mu => if isC c (lookD mu x) && isiOk (lookD mu y) then match p [x, y] mu with
  | .ok (.bl r) mu' => .ok (neg ^^ r) mu'
  | _ => .bad
  else .bad
abbrev E0 : XK := fun _ _ _ => False
def rOwn (K : PySem.W.Frag) (neg : Bool) (C : Addr) (sp : Sp) : R2 := fun x y H Q => ∃ a dx fs ty, x = .ref a ∧ H a = some (.ins C dx fs) ∧ TyX K H y ty ∧ PySem.W.notFirst K C ty = true ∧ sp [x, y] H (fun v H' => ∃ r, v = .bl r ∧ Q (.bl (neg ^^ r)) H') E0
section
variable {X : Cx} {cl : Nat → Addr} {W : WX} {n : En} {a b e o i : PySem.Expr} {es : List PySem.Expr} {f fa fb fo fi : EF} {ga : LF} {pos p1 pos' apos cpos : Pos} {x m : Str} {k c np : Nat} {p : FF}
theorem run_own {A : Around} {fd : FuncData} {ps : List Str} {sp : Sp} {g : Addr} {pins : List (Addr × Obj)} {s : Shared} {σ : St} {H : Hp} {x y : V} {v u : Value} {Q : VK} (F : FnOk X.prog X.w X.K X.mg X.base (L2.CX X.prog X.w) k g fd ps sp) (hr : Room k A) (hb : L2.Binds X.K fd ps []) (I : Inv X pins σ H s)
    (ev : Env0 X.prog X.w X.K X.mg X.base A X.stack s H) (rx : RelV x v) (ry : RelV y u) (h : sp [x, y] H Q E0) : wpAny (model X.prog X.w) A (call (.ref g) [v, u]) (EP X pins σ Q) X.xe s := by
  have r : Vals [x, y] [v, u] := .cons rx (.cons ry .nil)
  have hl := F.len _ _ _ _ h
  have b := hb s [v, u] I.kIn (by simpa using hl)
  rw [List.append_nil] at b
  refine wpAny_call (codeAny_mono (F.run A X.stack s H ⟨[v, u], []⟩ [v, u] [x, y] Q E0 hr ev b r h) fun r s' hq => ?_)
  cases r with
  | error e =>
    obtain ⟨_, _, _, _, _, _, _, _, _, _, _, _, hE⟩ := hq
    exact hE.elim
  | ok fl =>
    cases fl with
    | ret w => exact I.after hq
    | next => exact False.elim hq
    | brk => exact False.elim hq
    | cont => exact False.elim hq
theorem op_own_eq {sp : Sp} {g C : Addr} {fd : FuncData} {ps : List Str} (F : FnOk X.prog X.w X.K X.mg X.base (L2.CX X.prog X.w) k g fd ps sp) (hm : Meth X.K C "__eq__" g) (hb : L2.Binds X.K fd ps []) (hr : Room k X.A) : OpR X (compareOp .Eq) (rOwn X.K false C sp) := by
  intro pins s σ H x y v u Q I rx ry hq
  obtain ⟨a, dx, fs, ty, rfl, ha, hty, hn, q⟩ := hq
  cases rx
  obtain ⟨P, kx, hp, _⟩ := kit_of I ry hty
  obtain ⟨mA, J, _⟩ := ins_get I.hok ha
  obtain ⟨od, J, _⟩ := J.look
  obtain ⟨m, hF⟩ := I.fr
  refine PySem.W.cmp_K (op := .Eq) hr.units0 hF I.ok.mod.kin J (kx.ty _ _ I.kIn hp) hn hm.at_ hm.fn ?_
  refine wpAny_mono (run_own F hr hb I I.env0 (show RelV (.ref a) (.ref a) from rfl) ry q) (fun r s' z => ?_) fun _ _ z => z
  obtain ⟨w, H', I', rw', b, rfl, q'⟩ := z
  cases rw'
  exact ⟨.bl b, H', I', rfl, by rwa [Bool.false_xor] at q'⟩
theorem op_own_ne {sp : Sp} {g C : Addr} {fd : FuncData} {ps : List Str} (F : FnOk X.prog X.w X.K X.mg X.base (L2.CX X.prog X.w) k g fd ps sp) (hm : Meth X.K C "__eq__" g) (hN : ClsN X.K C) (hb : L2.Binds X.K fd ps []) (hr : Room (k + 1) X.A) : OpR X (compareOp .NotEq) (rOwn X.K true C sp) := by
  intro pins s σ H x y v u Q I rx ry hq
  obtain ⟨a, dx, fs, ty, rfl, ha, hty, hn, q⟩ := hq
  cases rx
  obtain ⟨P, kx, hp, _⟩ := kit_of I ry hty
  obtain ⟨mA, J, _⟩ := ins_get I.hok ha
  obtain ⟨od, J, _⟩ := J.look
  obtain ⟨m, hF⟩ := I.fr
  have hu : X.A.units + 1 < cLine := by have := hr.units; omega
  refine ne_K hu hF I.ok.mod.kin J (kx.ty _ _ I.kIn hp) hn hm.at_ hm.fn hN.ne hN.ob ?_
  refine wpAny_mono (run_own F hr.in1 hb I I.env0.in1 (show RelV (.ref a) (.ref a) from rfl) ry q) (fun r s' z => ?_) fun _ _ z => z
  obtain ⟨w, H', I', rw', b, rfl, q'⟩ := z
  cases rw'
  exact ⟨b, rfl, .bl (!b), H', I', rfl, by rwa [Bool.true_xor] at q'⟩
theorem tOwn {neg : Bool} (hC : ∀ c, Lv cl c → ClsT X.K (cl c)) (hE : ClsE X.K cl c) {σ : St} {H : Hp} {Q : VK} (q : tG (Cx.th X cl) W (RD (Cx.th X cl)) (dB2v (dEqO neg c p fa fb)) σ H Q) :
    tOp (rOwn X.K neg (cl c) (spD (Cx.th X cl) 2 p)) (tG (Cx.th X cl) W (RD (Cx.th X cl)) fa) (tG (Cx.th X cl) W (RD (Cx.th X cl)) fb) σ H Q := by
  obtain ⟨F, al, sl, mu, w, po⟩ := tV2B q
  refine seqG back_RB w po rfl fun v d F1 al1 mu1 H1 x1 w1 r1 po1 => ?_
  refine seqG back_RB w1 po1 rfl fun u e F2 al2 mu2 H2 x2 w2 r2 po2 => ?_
  dsimp only at po2
  split at po2
  · rename_i hc
    rw [Bool.and_eq_true] at hc
    have r1' := x2.rp r1
    have t1 := top_look w2.toMus r1'
    obtain ⟨t, h1, h2⟩ := tyX_top (T := Cx.th X cl) w2.toMus hC (top_look w2.toMus r2) hc.2
    cases z : lookD mu2 d with
    | ins c' fs =>
      rw [z] at hc t1
      have e' : c' = c := by simpa [isC] using hc.1
      subst e'
      obtain ⟨_, a, dx, vs, rfl, e2, e3⟩ := t1
      refine ⟨a, dx, vs, t, rfl, e2, h1, ?_, F2, al2, mu2, [d, e], w2.toMus, .cons r1' (.cons r2 .nil), rfl, ?_⟩
      · rcases h2 with ⟨n, e, rfl⟩ | ⟨c', fs, _, hc, rfl⟩
        · exact hE.ty n (by cases q : lookD mu2 _ <;> rw [q] at e <;> first | (cases e; decide) | cases e)
        · exact hE.own c' hc
      · cases z2 : p [d, e] mu2 with
        | ok r mu3 =>
          rw [z2] at po2
          cases r with
          | bl r =>
            intro v F3 al3 H3 x3 r3
            cases r3
            exact ⟨r, rfl, po2 _ _ _ _ x3 rfl⟩
          | _ => exact False.elim po2
        | ex c fs mu3 => rw [z2] at po2; exact False.elim po2
        | bad => rw [z2] at po2; exact False.elim po2
    | _ => rw [z] at hc; exact absurd hc.1 Bool.false_ne_true
  · exact False.elim po2
theorem de_eqO (g : Gm X.prog X.w X.K X.mg X.base cl k c "__eq__" 2 p) (hr : Room k X.A) (hC : ∀ c, Lv cl c → ClsT X.K (cl c)) (hE : ClsE X.K cl c) (ha : DE X cl W a fa) (hb : DE X cl W b fb) : DE X cl W (.Compare a [.Eq] [b] pos) (dB2v (dEqO false c p fa fb)) := by
  obtain ⟨f, fd, ps, hf, hm, hc, hbd⟩ := g.ex
  exact PE.imp (pe_cmpR (op_own_eq hf hm hbd hr) ha hb (nobehind _ (by decide) (by decide))) fun σ H Q q => tOwn hC hE q
theorem de_neO (g : Gm X.prog X.w X.K X.mg X.base cl k c "__eq__" 2 p) (hr : Room (k + 1) X.A) (hC : ∀ c, Lv cl c → ClsT X.K (cl c)) (hE : ClsE X.K cl c) (hN : ClsN X.K (cl c)) (ha : DE X cl W a fa) (hb : DE X cl W b fb) : DE X cl W (.Compare a [.NotEq] [b] pos) (dB2v (dEqO true c p fa fb)) := by
  obtain ⟨f, fd, ps, hf, hm, hc, hbd⟩ := g.ex
  exact PE.imp (pe_cmpR (op_own_ne hf hm hN hbd hr) ha hb (nobehind _ (by decide) (by decide))) fun σ H Q q => tOwn hC hE q

/-! ### o.f = v -/
def insOf (mu : Store) : D → Option (Nat × List (Str × D))
  | .obj k => match mu[k]? with
    | some (some (.ins c fs)) => some (c, fs)
    | _ => none
  | _ => none
theorem insOf_get {mu : Store} {d : D} {c : Nat} {l : List (Str × D)} (h : insOf mu d = some (c, l)) : ∃ k, d = .obj k ∧ mu[k]? = some (some (.ins c l)) := by
  cases d with
  | obj k =>
    unfold insOf at h
    dsimp only at h
    split at h
    · rename_i c' l' e
      cases h
      exact ⟨k, rfl, e⟩
    · cases h
  | _ => cases h
def sSetA (x : Str) (fo f : EF) : SF := fun sl mu => sbind (f sl mu) sl fun v mu => sbind (fo sl mu) sl fun d mu => match insOf mu d with
  | some (c, fs) => if fs.length < 1000 then .nx sl (putO mu d (.ins c (putFD x v fs))) else .bad
  | none => .bad
theorem RpF.len {T : Th} {F : Hp} {al : Nat → Addr} {n : Nat} : ∀ {vs : List (Str × V)} {ds : List (Str × D)}, RpF T F al n vs ds → vs.length = ds.length
  | [], [], _ => rfl
  | _ :: vs, _ :: ds, .cons _ h => by rw [List.length_cons, List.length_cons, RpF.len h]
  | [], _ :: _, h => by cases h
  | _ :: _, [], h => by cases h
theorem RpF.put {T : Th} {F : Hp} {al : Nat → Addr} {n : Nat} {v : V} {d : D} {x : Str} (r : Rp T F al n v d) : ∀ {vs : List (Str × V)} {ds : List (Str × D)}, RpF T F al n vs ds → RpF T F al n (putF x v vs) (putFD x d ds)
  | [], [], _ => .cons r .nil
  | (y, u) :: vs, (z, e) :: ds, h => by
    cases h with
    | cons h1 h2 =>
      unfold putF putFD
      split
      · exact .cons r h2
      · exact .cons h1 (RpF.put r h2)
  | [], _ :: _, h => by cases h
  | _ :: _, [], h => by cases h
theorem ds_setA (hC : ∀ c, Lv cl c → ClsT X.K (cl c)) (hN : ∀ c, Lv cl c → NoAttr X.K (cl c) x) (ho : DE X cl W o fo) (hf : DE X cl W e f) (hs : swapsWith e (some (.Attribute o x pos')) pos.line X.env = pure false := by rfl) : DS X cl W n (.Assign [.Attribute o x pos'] e pos) (sSetA x fo f) :=
  PS.imp (ps_fld ho hf hs) fun Z σ H q => by
    obtain ⟨F, al, sl, mu, w, po⟩ := q
    refine seqS w po rfl fun v d F1 al1 mu1 H1 x1 w1 r1 po1 => ?_
    refine seqS w1 po1 rfl fun ov dd F2 al2 mu2 H2 x2 w2 r2 po2 => ?_
    cases z : insOf mu2 dd with
    | none => rw [z] at po2; exact False.elim po2
    | some q =>
      obtain ⟨c, fs⟩ := q
      rw [z] at po2
      dsimp only at po2
      split at po2
      · rename_i hl
        obtain ⟨k, rfl, hk⟩ := insOf_get z
        cases r2
        obtain ⟨_, ho, h1, h2⟩ := w2.w.toMus.at_ k _ hk
        cases ho with
        | ins C dx vs =>
          obtain ⟨⟨e1, h0⟩, h3⟩ := h2
          subst e1
          exact ⟨_, _, dx, vs, rfl, h1, (hC c h0).cl, hN c h0, by rw [h3.len]; exact hl, PoS.nx po2 (w2.updO hk (o := .ins (cl c) dx (putF x v vs)) (m := .ins c (putFD x d fs)) ⟨⟨rfl, h0⟩, RpF.put (x2.rp r1) h3⟩) (by show mu2.length ≤ (mu2.set k _).length; rw [List.length_set]; exact Nat.le_refl _)⟩
        | _ => exact False.elim h2
      · exact False.elim po2

/-! ### x += e, x -= e of ints -/
def sAug (i : Nat) (g : Int → Int → Int) (f : EF) : SF := fun sl mu => match sl[i]? with
  | some (some (.val (.int z))) => sbind (f sl mu) sl fun d mu => match d with
    | .int j => .nx (sl.set i (some (.val (.int (g z j))))) mu
    | _ => .bad
  | _ => .bad
theorem ds_aug {i : Nat} {p' : Pos} {op : Operator} {g : Int → Int → Int} (hip : PIp X op (ipI g)) (hN : X.N.Nodup) (hi : X.N[i]? = some x) (hx : Loc X.env.scope x) (he : DE X cl W e f)
    (hf : X.fn x = true ∨ X.env.scope.names.lookup x = some .local := by first | exact .inl rfl | exact .inr rfl | assumption) : DS X cl W n (.AugAssign (.Name x p') op e pos) (sAug i g f) := PS.imp (ps_aug hN hi hx he hip hf) fun Z σ H q => by
  obtain ⟨F, al, sl, mu, w, po⟩ := q
  unfold sAug at po
  split at po
  · rename_i z hz
    obtain ⟨v, h1, h2⟩ := w.w.val i _ hz
    cases h2
    refine ⟨_, h1, ?_⟩
    refine seqS w po rfl fun v d F1 al1 mu1 H1 x1 w1 r1 po1 => ?_
    cases d with
    | int j => cases r1; exact ⟨z, j, rfl, rfl, PoS.nx po1 (w1.setVal (.int _))⟩
    | _ => exact False.elim po1
  · exact False.elim po
theorem ds_inc {i : Nat} {p' : Pos} (hN : X.N.Nodup) (hi : X.N[i]? = some x) (hx : Loc X.env.scope x) (he : DE X cl W e f)
    (hf : X.fn x = true ∨ X.env.scope.names.lookup x = some .local := by first | exact .inl rfl | exact .inr rfl | assumption) : DS X cl W n (.AugAssign (.Name x p') .Add e pos) (sAug i (fun i j => i + j) f) := ds_aug ip_add hN hi hx he hf
theorem ds_dec {i : Nat} {p' : Pos} (hN : X.N.Nodup) (hi : X.N[i]? = some x) (hx : Loc X.env.scope x) (he : DE X cl W e f)
    (hf : X.fn x = true ∨ X.env.scope.names.lookup x = some .local := by first | exact .inl rfl | exact .inr rfl | assumption) : DS X cl W n (.AugAssign (.Name x p') .Sub e pos) (sAug i (fun i j => i - j) f) := ds_aug ip_sub hN hi hx he hf
end

/-! ### what is out of reach goes -/
mutual
def clD (n : Nat) : D → Bool
  | .obj k => decide (k < n)
  | .lst l => clL n l
  | .frl l => clL n l
  | .tup l => clL n l
  | .ins _ fs => clF n fs
  | _ => true
def clL (n : Nat) : List D → Bool
  | [] => true
  | d :: ds => clD n d && clL n ds
def clF (n : Nat) : List (Str × D) → Bool
  | [] => true
  | (_, d) :: ds => clD n d && clF n ds
end
def clM (n : Nat) : Option MO → Bool
  | some (.lst l) => clL n l
  | some (.ins _ fs) => clF n fs
  | some (.dct _) => false
  | none => true
section
variable {T : Th} {F : Hp} {al : Nat → Addr} {n n' : Nat}
mutual
theorem Rp.shrink : ∀ {d : D} {v : V}, Rp T F al n v d → clD n' d = true → Rp T F al n' v d
  | .non, _, h, _ => by cases h; exact .non
  | .bl b, _, h, _ => by cases h; exact .bl b
  | .int i, _, h, _ => by cases h; exact .int i
  | .str x, _, h, _ => by cases h; exact .str x
  | .lst ds, _, h, c => by cases h with | lst h1 h2 => exact .lst h1 (RpL.shrink h2 c)
  | .tup ds, _, h, c => by cases h with | tup h1 h2 => exact .tup h1 (RpL.shrink h2 c)
  | .dct kvs, _, h, _ => by cases h with | dct h1 => exact .dct h1
  | .frl ds, _, h, c => by cases h with | frl h1 h2 => exact .frl h1 (RpL.shrink h2 c)
  | .ins c ds, _, h, q => by cases h with | ins h0 h1 h2 => exact .ins h0 h1 (RpF.shrink h2 q)
  | .obj k, _, h, c => by cases h with | obj h1 => exact .obj (of_decide_eq_true c)
theorem RpL.shrink : ∀ {ds : List D} {vs : List V}, RpL T F al n vs ds → clL n' ds = true → RpL T F al n' vs ds
  | [], _, h, _ => by cases h; exact .nil
  | d :: ds, _, h, c => by
    have c' : (clD n' d && clL n' ds) = true := c
    rw [Bool.and_eq_true] at c'
    cases h with | cons h1 h2 => exact .cons (Rp.shrink h1 c'.1) (RpL.shrink h2 c'.2)
theorem RpF.shrink : ∀ {ds : List (Str × D)} {vs : List (Str × V)}, RpF T F al n vs ds → clF n' ds = true → RpF T F al n' vs ds
  | [], _, h, _ => by cases h; exact .nil
  | (x, d) :: ds, _, h, c => by
    have c' : (clD n' d && clF n' ds) = true := c
    rw [Bool.and_eq_true] at c'
    cases h with | cons h1 h2 => exact .cons (Rp.shrink h1 c'.1) (RpF.shrink h2 c'.2)
end
theorem Conc.shrink {o : HO} {m : MO} (h : Conc T F al n o m) (c : clM n' (some m) = true) : Conc T F al n' o m := by
  cases o <;> cases m <;> first
    | exact False.elim h
    | exact RpL.shrink h c
    | exact ⟨h.1, RpF.shrink h.2 c⟩
end
/-- the objects made since go, where nothing that stays names one -/
def gcO {α : Type} (cl : Nat → α → Bool) (n : Nat) (o : Out α) : Out α := match o with
  | .ok d mu => if cl n d && (mu.take n).all (clM n) then .ok d (mu.take n) else .bad
  | .ex c fs mu => if clF n fs && (mu.take n).all (clM n) then .ex c fs (mu.take n) else .bad
  | .bad => .bad
theorem take_get {mu : Store} {n k : Nat} {m : MO} (h : (mu.take n)[k]? = some (some m)) : k < n ∧ mu[k]? = some (some m) := by
  rw [List.getElem?_take] at h
  split at h
  · exact ⟨by assumption, h⟩
  · cases h
theorem Ext.gc {T : Th} {F F1 H H1 : Hp} {al al1 : Nat → Addr} {mu mu1 : Store} (x : Ext T F al mu H F1 al1 mu1 H1) (c : (mu1.take mu.length).all (clM mu.length) = true) : Ext T F al mu H F1 al1 (mu1.take mu.length) H1 := by
  have ln : (mu1.take mu.length).length = mu.length := by rw [List.length_take]; exact Nat.min_eq_left x.ln
  refine ⟨⟨x.mus.sub, fun k m e => ?_, fun k m k' m' e1 e2 z => x.mus.inj k m k' m' (take_get e1).2 (take_get e2).2 z⟩, x.sub, x.new, x.keep, x.there, x.als, by rw [ln]; exact Nat.le_refl _, fun k m e => x.fresh k m (take_get e).2⟩
  obtain ⟨h1, o, h2, h3⟩ := x.mus.at_ k m (take_get e).2
  rw [ln]
  exact ⟨h1, o, h2, h3.shrink (List.all_eq_true.mp c _ (List.mem_of_getElem? e))⟩
theorem po_gc {T : Th} {W : WX} {F : Hp} {al : Nat → Addr} {mu : Store} {σ : St} {H : Hp} {o : Out D} {Q : VK} (h : Po T W F al mu σ H (RD T) (gcO clD mu.length o) Q) : Po T W F al mu σ H (RD T) o Q := by
  cases o with
  | ok d mu1 =>
    unfold gcO at h
    dsimp only at h
    split at h
    · rename_i c
      rw [Bool.and_eq_true] at c
      intro v F1 al1 H1 x r
      have ln : (mu1.take mu.length).length = mu.length := by rw [List.length_take]; exact Nat.min_eq_left x.ln
      exact h v F1 al1 H1 (x.gc c.2) (by show Rp _ _ _ (mu1.take mu.length).length _ _; rw [ln]; exact Rp.shrink r c.1)
    · exact False.elim h
  | ex c fs mu1 =>
    unfold gcO at h
    dsimp only at h
    split at h
    · rename_i c
      rw [Bool.and_eq_true] at c
      intro dx F1 al1 H1 x r
      have ln : (mu1.take mu.length).length = mu.length := by rw [List.length_take]; exact Nat.min_eq_left x.ln
      refine h dx F1 al1 H1 (x.gc c.2) ?_
      rcases r with r | ⟨dx', vs, e1, e2, e3⟩
      · exact .inl r
      · exact .inr ⟨dx', vs, e1, e2, by rw [ln]; exact RpF.shrink e3 c.1⟩
    · exact False.elim h
  | bad => exact h
def dGc (f : EF) : EF := fun sl mu => gcO clD mu.length (f sl mu)
def fGc (p : FF) : FF := fun ds mu => gcO clD mu.length (p ds mu)
theorem de_gc {X : Cx} {cl : Nat → Addr} {W : WX} {e : PySem.Expr} {f : EF} (h : DE X cl W e f) : DE X cl W e (dGc f) := PE.imp h fun σ H Q q => by
  obtain ⟨F, al, sl, mu, w, po⟩ := q
  exact ⟨F, al, sl, mu, w, po_gc po⟩
theorem spD_gc {T : Th} {np : Nat} {p : FF} : ∀ vs H Q E, spD T np (fGc p) vs H Q E → spD T np p vs H Q E := fun vs H Q E ⟨F, al, mu, ds, m, r, hl, po⟩ => ⟨F, al, mu, ds, m, r, hl, po_gc po⟩
section
variable {P : Program} {w : World} {K : PySem.W.Frag} {mg : Str → Option Value} {base : Heap} {cl : Nat → Addr}
theorem Gf.gc {k np : Nat} {x : Str} {p : FF} (c : Gf P w K mg base cl k x np p) : Gf P w K mg base cl k x np (fGc p) := by
  obtain ⟨f, fd, ps, hf, r⟩ := c.ex
  exact ⟨f, fd, ps, hf.imp spD_gc, r⟩
theorem Gm.gc {k c np : Nat} {x : Str} {p : FF} (g : Gm P w K mg base cl k c x np p) : Gm P w K mg base cl k c x np (fGc p) := by
  obtain ⟨f, fd, ps, hf, r⟩ := g.ex
  exact ⟨f, fd, ps, hf.imp spD_gc, r⟩
theorem Gm.to {k c np : Nat} {x : Str} {p q : FF} (g : Gm P w K mg base cl k c x np p) (h : ∀ ds mu, ds.length = np → q ds mu ≠ .bad → p ds mu = q ds mu) : Gm P w K mg base cl k c x np q := by
  obtain ⟨f, fd, ps, hf, r⟩ := g.ex
  exact ⟨f, fd, ps, hf.imp (spD_imp h), r⟩
theorem Gi.gc {k c np : Nat} {x : Str} {p : FF} (g : Gi P w K mg base cl k x c np p) : Gi P w K mg base cl k x c np (fGc p) := by
  obtain ⟨f, fd, ps, hf, r⟩ := g.ex
  exact ⟨f, fd, ps, hf.imp spD_gc, r⟩
theorem Gi.to {k c np : Nat} {x : Str} {p q : FF} (g : Gi P w K mg base cl k x c np p) (h : ∀ ds mu, ds.length = np → q ds mu ≠ .bad → p ds mu = q ds mu) : Gi P w K mg base cl k x c np q := by
  obtain ⟨f, fd, ps, hf, r⟩ := g.ex
  exact ⟨f, fd, ps, hf.imp (spD_imp h), r⟩
theorem Gm.mono {j k c np : Nat} {x : Str} {p : FF} (g : Gm P w K mg base cl j c x np p) (h : j ≤ k) : Gm P w K mg base cl k c x np p := by
  obtain ⟨f, fd, ps, hf, r⟩ := g.ex
  exact ⟨f, fd, ps, hf.mono h, r⟩
theorem Gi.mono {j k c np : Nat} {x : Str} {p : FF} (g : Gi P w K mg base cl j x c np p) (h : j ≤ k) : Gi P w K mg base cl k x c np p := by
  obtain ⟨f, fd, ps, hf, r⟩ := g.ex
  exact ⟨f, fd, ps, hf.mono h, r⟩
end
end DL
end

section
set_option Elab.async false
set_option linter.all false
set_option maxRecDepth 100000
set_option maxHeartbeats 4000000
namespace DL
open PySem L2
/-! DS: methods of one argument, sorted, texts. -/
def tyOk : String → D → Bool
  | "str", .str _ => true
  | "list", .lst _ => true
  | _, _ => false
def PurM (T : Th) (r : V → List V → Hp → VK → Prop) (g : D → D → Option D) : Prop := ∀ (F : Hp) (al : Nat → Addr) (mu : Store) (H : Hp), Mus T F al mu H → ∀ (x y : V) (d e res : D), Top T F al mu.length H x d → Top T F al mu.length H y e → g d e = some res → ∀ Q : VK,
  (∀ v F' H', Ext T F al mu H F' al mu H' → Rp T F' al mu.length v res → Q v H') → r x [y] H Q
/-- o.m(e): o, e looked into -/
def dM1 (ty : String) (g : D → D → Option D) (fo fa : EF) : EF := dBind fo fun d sl mu => if tyOk ty (lookD mu d) = true then obind (fa sl mu) fun e mu => match g (lookD mu d) (lookD mu e) with
  | some r => .ok r mu
  | none => .bad
  else .bad
theorem tyV_of {T : Th} {F H : Hp} {al : Nat → Addr} {n : Nat} {ty : String} {v : V} {d : D} (t : Top T F al n H v d) (h : tyOk ty d = true) : tyV T.K ty v H := by
  unfold tyOk at h
  split at h
  · cases (show Rp _ _ _ _ _ _ from t)
    exact (rfl : "str" = "str")
  · obtain ⟨a, xs, rfl, h1, _⟩ := t
    exact .inl ⟨rfl, xs, SqL.of h1⟩
  · cases h
section
variable {X : Cx} {cl : Nat → Addr} {W : WX} {n : En} {a b e o i : PySem.Expr} {es : List PySem.Expr} {f fa fb fo fi : EF} {ga : LF} {pos p1 pos' apos cpos : Pos} {x m : Str} {k c np : Nat} {p : FF}
theorem de_m1 {name : Str} {ty id : String} {r : V → List V → Hp → VK → Prop} {g : D → D → Option D} (pa : PlainAttrs ty) (slot : Slot ty name id) (hty : typeOf (.builtin id) = pure (.type "method_descriptor")) (hm : MtR X id r) (hr : PurM (Cx.th X cl) r g) (ho : DE X cl W o fo) (he : DE X cl W e fa)
    (hbase : attributeBase o name X.env (eval o X.env) = eval o X.env := by rfl)
    (hfew : ((backTo cpos (starEach [e] X.env)).all (fun x => !x.1) && (backToKw cpos (keywordEach [] X.env)).all (fun x => x.1.isSome)
      && decide ([e].length + ([] : List Keyword).length + (if ([] : List Keyword).isEmpty then 0 else 1) < 30)) = true := by rfl)
    (hline : (apos.endLine == cpos.line) = true := by rfl) (hs : starEach [e] X.env = (false, eval e X.env) :: starEach [] X.env := by rfl) (hplain : (backTo cpos (starEach [] X.env)).any (·.1) = false := by rfl) :
    DE X cl W (.Call (.Attribute o name apos) [e] [] cpos) (dM1 ty g fo fa) :=
  PE.imp (pe_bm pa slot hty hm ho (pa_cons (dk_look he) pa_nil hs) hbase hfew hline hs hplain) fun σ H Q q => by
    obtain ⟨F, al, sl, mu, w, po⟩ := q
    refine seqG back_RD w po rfl fun v d F1 al1 mu1 H1 x1 w1 r1 po1 => ?_
    dsimp only at po1
    split at po1
    · rename_i hok
      refine ⟨tyV_of (T := Cx.th X cl) (top_look w1.toMus r1) hok, ?_⟩
      obtain ⟨F', al', sl', mu', w', po'⟩ : tG (Cx.th X cl) W (RK (Cx.th X cl)) (dLook fa) σ H1 fun y H2 => r v [y] H2 Q := by
        refine ⟨F1, al1, sl, mu1, w1, ?_⟩
        unfold dLook dBind obind
        unfold obind at po1
        cases z : fa sl mu1 with
        | ok e mu2 =>
          rw [z] at po1
          dsimp only at po1 ⊢
          intro y F2 al2 H2 x2 r2
          cases z2 : g (lookD mu2 d) (lookD mu2 e) with
          | none => rw [z2] at po1; exact False.elim po1
          | some res =>
            rw [z2] at po1
            exact hr F2 al2 mu2 H2 x2.mus v y _ _ res (top_look x2.mus (x2.rp r1)) r2 z2 Q fun v' F' H' x' r' => po1 v' F' al2 H' (x2.trans x') r'
        | ex c fs mu2 => rw [z] at po1; exact po1
        | bad => rw [z] at po1; exact po1
      exact ⟨F', al', sl', mu', w', po'⟩
    · exact False.elim po1
def strsD : List D → Option (List Str)
  | [] => some []
  | .str x :: l => (strsD l).map (x :: ·)
  | _ => none
theorem strsD_rp {T : Th} {F : Hp} {al : Nat → Addr} {n : Nat} : ∀ {l : List D} {xs : List V} {ys : List Str}, RpL T F al n xs l → strsD l = some ys → xs = ys.map V.str
  | [], _, _, r, e => by cases r; cases e; rfl
  | d :: l, _, is, r, e => by
    cases r with
    | cons r1 r2 =>
      cases d with
      | str i =>
        cases r1
        obtain ⟨is', h1, rfl⟩ := Option.map_eq_some_iff.mp e
        rw [strsD_rp r2 h1]; rfl
      | _ => cases e
theorem strsRp {T : Th} {F : Hp} {al : Nat → Addr} {n : Nat} : ∀ ys : List Str, RpL T F al n (ys.map V.str) (ys.map D.str)
  | [] => .nil
  | _ :: ys => .cons (.str _) (strsRp ys)
def joinD : D → D → Option D
  | .str a, .lst l => match strsD l with
    | some ys => if (ys.map (·.length)).sum + ys.length * a.length ≤ 16777216 then some (.str (Txt.join a ys)) else none
    | none => none
  | _, _ => none
theorem de_join (ho : DE X cl W o fo) (he : DE X cl W e fa)
    (hbase : attributeBase o "join" X.env (eval o X.env) = eval o X.env := by rfl)
    (hfew : ((backTo cpos (starEach [e] X.env)).all (fun x => !x.1) && (backToKw cpos (keywordEach [] X.env)).all (fun x => x.1.isSome)
      && decide ([e].length + ([] : List Keyword).length + (if ([] : List Keyword).isEmpty then 0 else 1) < 30)) = true := by rfl)
    (hline : (apos.endLine == cpos.line) = true := by rfl) (hs : starEach [e] X.env = (false, eval e X.env) :: starEach [] X.env := by rfl) (hplain : (backTo cpos (starEach [] X.env)).any (·.1) = false := by rfl) :
    DE X cl W (.Call (.Attribute o "join" apos) [e] [] cpos) (dM1 "str" joinD fo fa) :=
  de_m1 PySem.F.plainAttrs_str PySem.F.slot_str_join (by rfl) mt_join (fun F al mu H m x y d e res t1 t2 z Q k => by
    cases d with
    | str a =>
      cases e with
      | lst l =>
        unfold joinD at z
        dsimp only at z
        split at z
        · rename_i ys hy
          split at z
          · rename_i hl
            cases z
            cases (show Rp _ _ _ _ _ _ from t1)
            obtain ⟨p, xs, rfl, h1, h2⟩ := t2
            have h3 : xs = ys.map V.str := strsD_rp h2 hy
            subst h3
            exact ⟨a, p, ys, rfl, rfl, .inl (SqL.of h1), hl, k _ _ _ (Ext.refl m) (.str _)⟩
          · cases z
        · cases z
      | _ => cases z
    | _ => cases z) ho he hbase hfew hline hs hplain
def splitD : D → D → Option D
  | .str a, .str b => if (b.length == 0) = false ∧ a.length + 2 ≤ 16000000 then some (.lst ((Txt.split a b).map D.str)) else none
  | _, _ => none
theorem de_split (ho : DE X cl W o fo) (he : DE X cl W e fa)
    (hbase : attributeBase o "split" X.env (eval o X.env) = eval o X.env := by rfl)
    (hfew : ((backTo cpos (starEach [e] X.env)).all (fun x => !x.1) && (backToKw cpos (keywordEach [] X.env)).all (fun x => x.1.isSome)
      && decide ([e].length + ([] : List Keyword).length + (if ([] : List Keyword).isEmpty then 0 else 1) < 30)) = true := by rfl)
    (hline : (apos.endLine == cpos.line) = true := by rfl) (hs : starEach [e] X.env = (false, eval e X.env) :: starEach [] X.env := by rfl) (hplain : (backTo cpos (starEach [] X.env)).any (·.1) = false := by rfl) :
    DE X cl W (.Call (.Attribute o "split" apos) [e] [] cpos) (dM1 "str" splitD fo fa) :=
  de_m1 PySem.F.plainAttrs_str PySem.F.slot_str_split (by rfl) mt_split (fun F al mu H m x y d e res t1 t2 z Q k => by
    cases d with
    | str a =>
      cases e with
      | str b =>
        unfold splitD at z
        dsimp only at z
        split at z
        · rename_i hl
          cases z
          cases (show Rp _ _ _ _ _ _ from t1)
          cases (show Rp _ _ _ _ _ _ from t2)
          exact ⟨a, b, rfl, rfl, hl.1, by rw [sizeLine_eq]; omega, fun p hp => k _ _ _ (Ext.laidF m hp) (.lst upd_same (strsRp _))⟩
        · cases z
      | _ => cases z
    | _ => cases z) ho he hbase hfew hline hs hplain
def stripD : D → D → Option D
  | .str a, .str b => if a.length ≤ 16000000 then some (.str (Txt.stripChars a b)) else none
  | _, _ => none
theorem de_strip (ho : DE X cl W o fo) (he : DE X cl W e fa)
    (hbase : attributeBase o "strip" X.env (eval o X.env) = eval o X.env := by rfl)
    (hfew : ((backTo cpos (starEach [e] X.env)).all (fun x => !x.1) && (backToKw cpos (keywordEach [] X.env)).all (fun x => x.1.isSome)
      && decide ([e].length + ([] : List Keyword).length + (if ([] : List Keyword).isEmpty then 0 else 1) < 30)) = true := by rfl)
    (hline : (apos.endLine == cpos.line) = true := by rfl) (hs : starEach [e] X.env = (false, eval e X.env) :: starEach [] X.env := by rfl) (hplain : (backTo cpos (starEach [] X.env)).any (·.1) = false := by rfl) :
    DE X cl W (.Call (.Attribute o "strip" apos) [e] [] cpos) (dM1 "str" stripD fo fa) :=
  de_m1 PySem.F.plainAttrs_str PySem.F.slot_str_strip (by rfl) mt_stripChars (fun F al mu H m x y d e res t1 t2 z Q k => by
    cases d with
    | str a =>
      cases e with
      | str b =>
        unfold stripD at z
        dsimp only at z
        split at z
        · rename_i hl
          cases z
          cases (show Rp _ _ _ _ _ _ from t1)
          cases (show Rp _ _ _ _ _ _ from t2)
          exact ⟨a, b, rfl, rfl, by rw [sizeLine_eq]; omega, k _ _ _ (Ext.refl m) (.str _)⟩
        · cases z
      | _ => cases z
    | _ => cases z) ho he hbase hfew hline hs hplain
/-- the first place of an equal one -/
def indexD : D → D → Option D
  | .lst l, e => match toPL l, toP e with
    | some ps, some p => if SeqAt.shaped (.list ps) && SeqAt.shaped p then match ps.findIdx? fun z => PyData.eqv z p with
        | some j => some (.int (j : Nat))
        | none => none
      else none
    | _, _ => none
  | _, _ => none
theorem de_index (hu : X.A.units + 65 < cLine) (ho : DE X cl W o fo) (he : DE X cl W e fa)
    (hbase : attributeBase o "index" X.env (eval o X.env) = eval o X.env := by rfl)
    (hfew : ((backTo cpos (starEach [e] X.env)).all (fun x => !x.1) && (backToKw cpos (keywordEach [] X.env)).all (fun x => x.1.isSome)
      && decide ([e].length + ([] : List Keyword).length + (if ([] : List Keyword).isEmpty then 0 else 1) < 30)) = true := by rfl)
    (hline : (apos.endLine == cpos.line) = true := by rfl) (hs : starEach [e] X.env = (false, eval e X.env) :: starEach [] X.env := by rfl) (hplain : (backTo cpos (starEach [] X.env)).any (·.1) = false := by rfl) :
    DE X cl W (.Call (.Attribute o "index" apos) [e] [] cpos) (dM1 "list" indexD fo fa) :=
  de_m1 PySem.F.plainAttrs_list PySem.F.slot_list_index (by rfl) (mt_indexD hu) (fun F al mu H m x y d e res t1 t2 z Q k => by
    cases d with
    | lst l =>
      unfold indexD at z
      dsimp only at z
      split at z
      · rename_i ps p e1 e2
        split at z
        · rename_i hsh
          rw [Bool.and_eq_true] at hsh
          split at z
          · rename_i j hj
            cases z
            obtain ⟨a, xs, rfl, h1, h2⟩ := t1
            rw [List.findIdx?_eq_some_iff_getElem] at hj
            obtain ⟨hlt, hj1, hj2⟩ := hj
            have t2' : Rp (Cx.th X cl) F al mu.length y e ∨ ∃ l', e = .lst l' := by
              cases e with
              | lst l' => exact .inr ⟨l', rfl⟩
              | ins c fs => cases e2
              | dct _ => cases e2
              | _ => exact .inl t2
            have hy : Dp X.K H y p := by
              rcases t2' with h | ⟨l', rfl⟩
              · exact h.dp m.sub e2
              · obtain ⟨b, ys, rfl, g1, g2⟩ := t2
                unfold toP at e2
                split at e2
                · rename_i qs e3
                  cases e2
                  exact .lst (SqL.of g1) (g2.dp m.sub e3)
                · cases e2
            refine ⟨a, y, p, ps, j, ps[j], rfl, rfl, .lst (SqL.of h1) (h2.dp m.sub e1), hy, hsh.1, hsh.2, List.getElem?_eq_getElem hlt, hj1, fun m' z' hm hz => ?_, k _ _ _ (Ext.refl m) (.int _)⟩
            obtain ⟨hml, rfl⟩ := List.getElem?_eq_some_iff.mp hz
            have := hj2 m' hm
            simpa using this
          · cases z
        · cases z
      · cases z
    | _ => cases z) ho he hbase hfew hline hs hplain
end
end DL
end

section
set_option Elab.async false
set_option linter.all false
set_option maxRecDepth 100000
set_option maxHeartbeats 4000000
/-! DT: sorted of a list of tuples whose first one is (). -/
namespace DL
open PySem PySem.W PySem.Calls PySem.SeqAt PyProof.Rows
/-- the call of tuple's own __lt__, as sorting makes it -/
theorem tup_lt_call {prog : Program} {w : World} {A : Around} {s : Shared} {E : Value → Shared → Prop} {Q : Value → Shared → Prop} {l b : Addr} {items items2 : Array Value} {e r : Nat → Bool} (hl : s.heap.IsTuple l items) (hb : s.heap.IsTuple b items2)
    (he : ∀ j (h1 : j < items.size) (h2 : j < items2.size), EqAt A.in1 s items[j] items2[j] (e j)) (hr : ∀ j (h1 : j < items.size) (h2 : j < items2.size), e j = false → RcLt A.in1 s items[j] items2[j] (r j))
    (h : Q (.bool (firstLt e r (decide (items.size < items2.size)) (List.range (min items.size items2.size)))) s) : wpAny (model prog w) A (call (.builtin "tuple.__lt__") [.ref l, .ref b]) Q E s := by
  obtain ⟨⟨cls, dd, data, sl⟩, ho, hc, n, hd⟩ := id hl
  obtain ⟨⟨cls2, dd2, data2, sl2⟩, ho2, hc2, n2, hd2⟩ := id hb
  simp only at hc hd hc2 hd2
  subst hc hd hc2 hd2
  exact call_meets F.slot_tuple_lt ⟨_, ho, rfl⟩ F.entry_tuple_lt (F.args_tuple_lt_2 _ _) (tuple_ltAt l b items items2 n n2 dd dd2 sl sl2 e r) ⟨ho, ho2, he, hr, h⟩
section
variable {prog : Program} {w : World} {A : Around} {E : Value → Shared → Prop} {s : Shared}
theorem tup_oneLt {xs ys : List PyData} {a b : Value} {as bs : List Addr} {Q : Bool → Shared → Prop} (ra : Reads s.heap a (.tuple xs) as) (rb : Reads s.heap b (.tuple ys) bs) (hal : alikeAll xs ys = true)
    (hu : A.units + min (PyData.tuple xs).depth (PyData.tuple ys).depth < cLine) (hq : Q (dataLt (.tuple xs) (.tuple ys)) s) : wpAny (model prog w) A (oneLt' true a b) Q E s := by
  cases ra with
  | @tuple l o vs n _ as₁ h1 h2 h3 h4 =>
    cases rb with
    | @tuple l' o' vs' n' _ bs₁ k1 k2 k3 k4 =>
      have n1 : vs.size = xs.length := by simpa using ReadsAll.length _ _ _ h4
      have n2 : vs'.size = ys.length := by simpa using ReadsAll.length _ _ _ k4
      rw [dataLt_tuple, ← firstLt_toks xs ys hal, ← n1, ← n2] at hq
      rw [oneLt'_eq]
      simp only [if_true]
      refine wpAny_bind (wpAny_cRoomFor (room_here hu) ?_)
      refine wpAny_bind (wpAny_callSpecialIfBound?_slot (T := "tuple") ⟨_, h1, h2⟩ F.slot_tuple_lt (tup_lt_call (e := pairEq xs ys) (r := fun j => dataLt (xs.getD j .none) (ys.getD j .none)) ⟨_, h1, h2, _, h3⟩ ⟨_, k1, k2, _, k3⟩ (fun j j1 j2 => ?_) (fun j j1 j2 hj => ?_) ?_))
      · have := eqAt_alikeAll xs ys A.in1 s vs.toList vs'.toList _ _ h4 k4 hal (room_in hu) j (by simpa using j1) (by simpa using j2)
        simpa using this
      · have := rcLt_alikeAll xs ys A.in1 s vs.toList vs'.toList _ _ h4 k4 hal (room_in hu) j (by simpa using j1) (by simpa using j2) hj
        simpa using this
      · exact wpAny_truthy_bool hq
/-- what the first items of tuples are -/
theorem firsts0 {h : Heap} {M : Model} : ∀ {vs : List Value} {ds : List PyData}, EachIs (fun v d => ∃ as, Reads h v d as) vs ds → (∀ d, d ∈ ds → ∃ xs, d = .tuple xs) → ∀ {Q : List (Option Value) → Shared → Prop} {s : Shared}, s.heap = h → (∀ fs : List (Option Value), (∀ d r, ds = d :: r → d = .tuple [] → ∃ r, fs = none :: r) → Q fs s) → wpAny M A (vs.mapM firstOfTuple') Q E s
  | _, _, .nil, _, Q, s, _, hq => by rw [List.mapM_nil]; exact wpAny_pure (hq [] fun d r e => by cases e)
  | v :: vs, d :: ds, .cons ⟨as, r⟩ t, ht, Q, s, hs, hq => by
    rw [List.mapM_cons]
    obtain ⟨xs, rfl⟩ := ht d List.mem_cons_self
    cases r with
    | @tuple l o its n _ _ h1 h2 h3 h4 =>
      refine wpAny_bind ?_
      rw [kas_first_eq]
      refine wpAny_bind (Looks.here (looks_reads (M := M) (Reads.tuple (h := s.heap) (by rw [hs]; exact h1) h2 h3 (by rw [hs]; exact h4))) ?_)
      rw [show (dataType (.tuple xs) != Value.type "tuple") = false from by simp [dataType]]
      simp only [Bool.false_eq_true, if_false]
      refine wpAny_bind (listItems_at (s := s) (by rw [hs]; exact h1) h3 (wpAny_pure ?_))
      refine wpAny_bind (firsts0 t (fun d hd => ht d (List.mem_cons_of_mem _ hd)) hs fun fs hfs => wpAny_pure (hq _ fun d' r' e z => ?_))
      cases e
      injection z with z
      subst z
      have hz : its.size = 0 := by simpa using ReadsAll.length _ _ _ h4
      refine ⟨fs, ?_⟩
      rw [Array.getElem?_eq_none (by omega)]
theorem kind0 {vs : List Value} {ds : List PyData} {Q : SortKind → Shared → Prop} (e : EachIs (fun v d => ∃ as, Reads s.heap v d as) vs ds) (ht : ∀ d, d ∈ ds → ∃ xs, d = .tuple xs) (h0 : ∃ r, ds = .tuple [] :: r) (h : Q oneType' s) : wpAny (model prog w) A (keyKind' vs.toArray) Q E s := by
  obtain ⟨r, rfl⟩ := h0
  rw [keyKind'_eq, List.mapM_toArray, map_eq_pure_bind]
  refine wpAny_bind (wpAny_bind (firsts0 e ht rfl fun fs hfs => wpAny_pure ?_))
  obtain ⟨fr, rfl⟩ := hfs _ _ rfl rfl
  rw [if_neg (by simp), if_neg (by simp)]
  rw [oneTypeOnly'_eq, List.mapM_toArray, map_eq_pure_bind]
  refine wpAny_bind (wpAny_bind (wpAny_bind (kas_mapM (r := Value.type "tuple") _ (fun v hv Q' hq => ?_) (wpAny_pure ?_))))
  · obtain ⟨d, hd, as, rd⟩ := e.left v hv
    obtain ⟨xs, rfl⟩ := ht d hd
    exact (looks_reads rd).here hq
  · cases e with
    | @cons v _ vs' _ _ t =>
      have hall : ((List.map (fun _ => Value.type "tuple") (v :: vs')).toArray.all fun x => x == Value.type "tuple") = true := by
        simp only [List.all_toArray, List.all_map, List.all_eq_true]
        intro _ _
        rfl
      have h0 : (List.map (fun _ => Value.type "tuple") (v :: vs')).toArray[0]? = some (Value.type "tuple") := by simp
      rw [h0]
      simp only [hall, if_true]
      exact wpAny_pure (wpAny_pure h)
theorem sorts0 {vs : List Value} {ds : List PyData} (e : EachIs (fun v d => ∃ as, Reads s.heap v d as) vs ds) (hal : AllAlike ds) (ht : ∀ d, d ∈ ds → ∃ xs, d = .tuple xs) (h0 : ∃ r, ds = .tuple [] :: r) (hu : ∀ d, d ∈ ds → A.units + d.depth < cLine) : SortsAt prog w A s (dataKind s.heap ds) vs := by
  refine ⟨fun v hv => ?_, oneType', ?_, fun h2 E Q hq => kind0 e ht h0 hq⟩
  · obtain ⟨d, hd, as, r⟩ := e.left v hv
    exact ⟨_, dataKind_some hal hd r⟩
  · intro E x y a b Q ha hb hq
    obtain ⟨d, as, hd, ra, rfl⟩ := dataKind_inv ha
    obtain ⟨d', as', hd', rb, rfl⟩ := dataKind_inv hb
    obtain ⟨xs, rfl⟩ := ht d hd
    obtain ⟨ys, rfl⟩ := ht d' hd'
    rw [keyLt'_oneType]
    exact tup_oneLt ra rb (by simpa [alike] using hal _ hd _ hd') (Nat.lt_of_le_of_lt (Nat.add_le_add_left (Nat.min_le_left _ _) _) (hu _ hd)) hq
theorem sorted0 {β : Type} {vs : List Value} {bs : List β} {enc : β → PyData} {R : Value → β → Prop} {l : Addr} {Q : Value → Shared → Prop} (hl : s.heap.IsList l vs.toArray) (e : EachIs R vs bs) (er : EachIs (fun v b => ∃ as, Reads s.heap v (enc b) as) vs bs) (hal : AllAlike (bs.map enc))
    (ht : ∀ d, d ∈ bs.map enc → ∃ xs, d = .tuple xs) (h0 : ∃ r, bs.map enc = .tuple [] :: r) (hL : bs.length ≤ sizeLine)
    (hu : ∀ b, b ∈ bs → A.units + 2 + (enc b).depth < cLine) (h : ∀ out, out.length = bs.length → EachIs R out (bs.mergeSort (dataLe false enc)) → Q (.ref (s.heap.objs.size + 1)) { s with heap := sortedAll s.heap vs (List.toArray out) }) :
    wpAny (model prog w) A (call (.builtin "sorted") [.ref l]) Q E s := by
  have er' : EachIs (fun v b => ∃ as, Reads (sortingHeap (copyHeap s.heap vs) (s.heap.objs.size + 1) vs) v (enc b) as) vs bs := er.mono fun _ _ ⟨as, r⟩ => ⟨as, PyProof.Rows.Reads.keeps (fun _ _ => sorting_copy_old) r⟩
  exact sorted_vals hl (sorts0 (s := { s with heap := sortingHeap (copyHeap s.heap vs) (s.heap.objs.size + 1) vs }) (each_map (R := fun v d => ∃ as, Reads (sortingHeap (copyHeap s.heap vs) (s.heap.objs.size + 1) vs) v d as) enc er') hal ht h0 (bound_map hu)) (by rw [e.length]; exact hL)
    (h _ (by rw [sortVals_length false rfl]; exact e.length) (sortVals_data false e er' hal))
end
end DL
end

section
set_option Elab.async false
set_option linter.all false
set_option maxRecDepth 100000
set_option maxHeartbeats 4000000
namespace DL
open PySem L2
/-! DU: sorted, f-strings. -/
def datD (d : D) : PyData := (toP d).getD .none
def alikeB (ps : List PyData) : Bool := ps.all fun p => ps.all fun q => PySem.W.alike p q
def tupNE : PyData → Bool
  | .tuple (_ :: _) => true
  | _ => false
def notNT : PyData → Bool
  | .none => false
  | .tuple _ => false
  | _ => true
def isTupP : PyData → Bool
  | .tuple _ => true
  | _ => false
/-- tuples, the first one is () -/
def tup0 : List PyData → Bool
  | .tuple [] :: ps => ps.all isTupP
  | _ => false
def sortLe (d e : D) : Bool := PySem.W.dataLe false datD d e
def sortedD : D → Option MO
  | .lst l => match toPL l with
    | some ps => if (alikeB ps && (ps.all tupNE || ps.all notNT || tup0 ps)) && (ps.all fun p => decide (p.depth ≤ 60)) then some (.lst (l.mergeSort sortLe)) else none
    | none => none
  | _ => none
theorem toPL_map : ∀ {l : List D} {ps : List PyData}, toPL l = some ps → ps = l.map datD ∧ ∀ d ∈ l, ∃ p, toP d = some p
  | [], _, h => by cases h; exact ⟨rfl, fun _ h => by cases h⟩
  | d :: ds, _, h => by
    unfold toPL at h
    split at h
    · rename_i p ps e1 e2
      cases h
      obtain ⟨h1, h2⟩ := toPL_map e2
      refine ⟨by rw [List.map_cons, ← h1]; unfold datD; rw [e1]; rfl, fun x hx => ?_⟩
      rcases List.mem_cons.mp hx with rfl | hx
      · exact ⟨p, e1⟩
      · exact h2 x hx
    · cases h
section
variable {X : Cx} {cl : Nat → Addr} {W : WX} {n : En} {a b e o i : PySem.Expr} {es : List PySem.Expr} {f fa fb fo fi : EF} {ga : LF} {pos p1 pos' apos cpos : Pos} {x m : Str} {k c np : Nat} {p : FF}
/-- rows of pairs -/
inductive Prs (T : Th) (F : Hp) (al : Nat → Addr) (n : Nat) : List V → List D → List Value → List (V × D) → Prop where
  | nil : Prs T F al n [] [] [] []
  | cons {v : V} {d : D} {u : Value} {vs : List V} {ds : List D} {us : List Value} {bs : List (V × D)} (r : Rp T F al n v d) (q : RelV v u) (t : Prs T F al n vs ds us bs) : Prs T F al n (v :: vs) (d :: ds) (u :: us) ((v, d) :: bs)
theorem prs_of {T : Th} {F : Hp} {al : Nat → Addr} {n : Nat} : ∀ {vs : List V} {ds : List D} {us : List Value}, RpL T F al n vs ds → Vals vs us → ∃ bs, Prs T F al n vs ds us bs
  | [], [], _, _, .nil => ⟨[], .nil⟩
  | v :: vs, d :: ds, _, .cons r1 r2, .cons q1 q2 => by
    obtain ⟨bs, h⟩ := prs_of r2 q2
    exact ⟨(v, d) :: bs, .cons r1 q1 h⟩
  | [], d :: ds, _, h, _ => by cases h
  | v :: vs, [], _, h, _ => by cases h
theorem Prs.bs {T : Th} {F : Hp} {al : Nat → Addr} {n : Nat} {vs : List V} {ds : List D} {us : List Value} {bs : List (V × D)} (h : Prs T F al n vs ds us bs) : bs.map (·.1) = vs ∧ bs.map (·.2) = ds ∧ (∀ b ∈ bs, Rp T F al n b.1 b.2) := by
  induction h with
  | nil => exact ⟨rfl, rfl, fun _ h => by cases h⟩
  | cons r q t ih =>
    refine ⟨by rw [List.map_cons, ih.1], by rw [List.map_cons, ih.2.1], fun b hb => ?_⟩
    rcases List.mem_cons.mp hb with rfl | hb
    · exact r
    · exact ih.2.2 b hb
theorem rpL_of {T : Th} {F : Hp} {al : Nat → Addr} {n : Nat} : ∀ {bs : List (V × D)}, (∀ b ∈ bs, Rp T F al n b.1 b.2) → RpL T F al n (bs.map (·.1)) (bs.map (·.2))
  | [], _ => .nil
  | b :: bs, h => .cons (h b List.mem_cons_self) (rpL_of fun c hc => h c (List.mem_cons_of_mem _ hc))
theorem vals_each : ∀ {out : List Value} {bs : List (V × D)}, PySem.W.EachIs (fun u b => RelV b.1 u) out bs → Vals (bs.map (·.1)) out
  | _, _, .nil => .nil
  | _, _, .cons h t => .cons h (vals_each t)
def rSortD (T : Th) : List V → Hp → VK → Prop := fun vs H Q => ∃ (F : Hp) (al : Nat → Addr) (n : Nat) (a : Addr) (xs : List V) (l : List D) (l' : List D), vs = [V.ref a] ∧ (∀ a o, F a = some o → H a = some o) ∧ H a = some (.lst xs) ∧ RpL T F al n xs l ∧ sortedD (.lst l) = some (.lst l') ∧
  ∀ p ys, H p = none → RpL T F al n ys l' → Q (.ref p) (upd H p (.lst ys))
theorem cr_sortedDat (hu : X.A.units + 64 < cLine) : CallR X (.builtin "sorted") (rSortD (Cx.th X cl)) := by
  intro pins s σ H vs us Q I r h
  obtain ⟨F, al, n, a, xs, l, l', rfl, sub, ha, hl, hs, q⟩ := h
  obtain ⟨its, rv, il, hz⟩ := I.list (SqL.of ha)
  rw [Vals.ref1 r]
  unfold sortedD at hs
  dsimp only at hs
  split at hs
  · rename_i ps hps
    split at hs
    · rename_i hc
      cases hs
      obtain ⟨h1, h2⟩ := toPL_map hps
      rw [Bool.and_eq_true, Bool.and_eq_true] at hc
      obtain ⟨⟨c1, c2⟩, c3⟩ := hc
      obtain ⟨bs, pr⟩ := prs_of hl rv
      have pb := pr.bs
      have eenc : bs.map (fun b => datD b.2) = ps := by
        rw [h1, ← pb.2.1, List.map_map]; rfl
      have each : ∀ {vs ds us bs}, Prs (Cx.th X cl) F al n vs ds us bs → (∀ d ∈ ds, ∃ p, toP d = some p) → PySem.W.EachIs (fun u (b : V × D) => RelV b.1 u) us bs ∧ PySem.W.EachIs (fun u (b : V × D) => ∃ as, Reads s.heap u (datD b.2) as) us bs := by
        intro vs ds us bs h hd
        induction h with
        | nil => exact ⟨.nil, .nil⟩
        | @cons v d u vs ds us bs r q t ih =>
          obtain ⟨i1, i2⟩ := ih fun d hd' => hd d (List.mem_cons_of_mem _ hd')
          obtain ⟨p, hp⟩ := hd d List.mem_cons_self
          obtain ⟨as, rd⟩ := Dp.reads I p v u (r.dp sub hp) q
          exact ⟨.cons q i1, .cons ⟨as, by show Reads s.heap u (datD d) as; unfold datD; rw [hp]; exact rd⟩ i2⟩
      obtain ⟨e1, e2⟩ := each pr h2
      have mem : ∀ d, d ∈ bs.map (fun b => datD b.2) → d ∈ ps := fun d hd => by rw [← eenc]; exact hd
      have al2 : PySem.W.AllAlike (bs.map fun b => datD b.2) := fun d hd d' hd' => by
        rw [eenc] at hd hd'
        have := List.all_eq_true.mp c1 d hd
        exact List.all_eq_true.mp this d' hd'
      have so : PySem.W.Sortable (bs.map fun b => datD b.2) ∨ ((∀ d, d ∈ bs.map (fun b => datD b.2) → ∃ xs, d = .tuple xs) ∧ ∃ r, bs.map (fun b => datD b.2) = .tuple [] :: r) := by
        rw [eenc]
        rcases Bool.or_eq_true_iff.mp c2 with h | h
        rcases Bool.or_eq_true_iff.mp h with h | h
        · refine .inl (.inl fun d hd => ?_)
          have := List.all_eq_true.mp h d hd
          unfold tupNE at this
          split at this
          · exact ⟨_, _, rfl⟩
          · cases this
        · refine .inl (.inr fun d hd => ?_)
          have := List.all_eq_true.mp h d hd
          refine ⟨fun z => ?_, fun ys z => ?_⟩
          · subst z; cases this
          · subst z; cases this
        · refine .inr ?_
          unfold tup0 at h
          split at h
          · refine ⟨fun d hd => ?_, _, rfl⟩
            rcases List.mem_cons.mp hd with rfl | hd
            · exact ⟨_, rfl⟩
            · have := List.all_eq_true.mp h d hd
              unfold isTupP at this
              split at this
              · exact ⟨_, rfl⟩
              · cases this
          · cases h
      have hlen : bs.length = xs.length := by rw [← pb.1, List.length_map]
      have hdep : ∀ b, b ∈ bs → X.A.units + 2 + (datD b.2).depth < cLine := fun b hb => by
        have := List.all_eq_true.mp c3 (datD b.2) (mem _ (List.mem_map.mpr ⟨b, hb, rfl⟩))
        have := of_decide_eq_true this
        omega
      have fin : ∀ out : List Value, out.length = bs.length → PySem.W.EachIs (fun u (b : V × D) => RelV b.1 u) out (bs.mergeSort (PySem.W.dataLe false fun b => datD b.2)) → EP X pins σ Q (.ref (s.heap.objs.size + 1)) { s with heap := PyProof.Rows.sortedAll s.heap its (List.toArray out) } := fun out ho h3 => by
        obtain ⟨ep, he'⟩ := PyProof.Rows.sortedAll_at s.heap its out.toArray
        have hv := vals_each h3
        have hm : (bs.mergeSort (PySem.W.dataLe false fun b => datD b.2)).map (·.2) = l.mergeSort sortLe := by
          rw [List.map_mergeSort (r := PySem.W.dataLe false fun b : V × D => datD b.2) (s := sortLe) (f := fun b : V × D => b.2) (fun _ _ _ _ => rfl), pb.2.1]
        have hr : RpL (Cx.th X cl) F al n ((bs.mergeSort (PySem.W.dataLe false fun b => datD b.2)).map (·.1)) (l.mergeSort sortLe) := by
          rw [← hm]
          exact rpL_of fun b hb => pb.2.2 b (List.mem_mergeSort.mp hb)
        have hll : ((bs.mergeSort (PySem.W.dataLe false fun b => datD b.2)).map (·.1)).length ≤ sizeLine := by
          rw [List.length_map, List.length_mergeSort, hlen]; exact hz
        exact ⟨.ref _, upd H (s.heap.objs.size + 1) (.lst _), I.laid (t' := s.toks) (fun _ _ => PyProof.Rows.sortedAll_old) (Nat.le_succ _) ⟨hll, out, ep, hv, he'⟩, rfl, q _ _ (I.hok.fresh (Nat.le_succ _)) hr⟩
      rcases so with so | ⟨s1, s2⟩
      · exact PySem.W.sorted_data il.isList e1 e2 al2 so (by rw [hlen]; exact hz) hdep fin
      · exact sorted0 il.isList e1 e2 al2 s1 s2 (by rw [hlen]; exact hz) hdep fin
    · cases hs
  · cases hs
theorem dn_sorted (hu : X.A.units + 64 < cLine) (hg : Gl X "sorted") (hm : X.mg "sorted" = none) (h : DKk X cl W e f) (he : starEach [e] X.env = (false, eval e X.env) :: starEach [] X.env := by rfl) (hpl : (backTo pos (starEach [] X.env)).any (·.1) = false := by rfl) : DN X cl W (.Call (.Name "sorted" p1) [e] [] pos) (dNw1 sortedD f) := by
  refine dn_b1 (cr_sortedDat (cl := cl) hu) (fun F al mu H m x d res t e Q k => ?_) hg hm (by decide +kernel) h (by decide) (by decide) he hpl
  cases d with
  | lst l =>
    have e0 := e
    unfold sortedD at e
    dsimp only at e
    split at e
    · split at e
      · cases e
        obtain ⟨a, xs, rfl, h1, h2⟩ := t
        refine ⟨F, al, mu.length, a, xs, l, _, rfl, m.sub, h1, h2, e0, fun p ys hp r => k _ F _ (Ext.laidH m hp) (rn_new (o := .lst ys) (m := .lst _) m hp r)⟩
      · cases e
    · cases e
  | _ => cases e

/-! ### f-strings -/
def fmtD : D → Option D
  | .str y => if y.length ≤ 16000000 then some (.str y) else none
  | .int i => if i.natAbs.log2 < 1920 then some (.str (toString i)) else none
  | _ => none
theorem de_fmt (h : DE X cl W e f) : DE X cl W (.FormattedValue e (-1) none pos) (dOp1 fmtD f) := PE.imp (pe_fmt h) fun σ H Q q => by
  obtain ⟨F, al, sl, mu, w, po⟩ := q
  refine seqG back_RD w po rfl fun v d F1 al1 mu1 H1 x1 w1 r1 po1 => ?_
  dsimp only at po1
  cases z : fmtD d with
  | none => rw [z] at po1; exact False.elim po1
  | some res =>
    rw [z] at po1
    unfold fmtD at z
    split at z
    · rename_i y
      split at z
      · rename_i hl
        cases z
        cases r1
        exact .inl ⟨y, rfl, by rw [sizeLine_eq]; omega, Po.here po1 w1.toMus (.str _)⟩
      · cases z
    · rename_i j
      split at z
      · rename_i hl
        cases z
        cases r1
        exact .inr ⟨j, rfl, hl, Po.here po1 w1.toMus (.str _)⟩
      · cases z
    · cases z
inductive DJs (X : Cx) (cl : Nat → Addr) (W : WX) : List PySem.Expr → List EF → Prop where
  | nil : DJs X cl W [] []
  | cons {e : PySem.Expr} {f : EF} {es : List PySem.Expr} {fs : List EF} (h : DE X cl W e f) (t : DJs X cl W es fs) : DJs X cl W (e :: es) (f :: fs)
theorem DJs.pj {es : List PySem.Expr} {fs : List EF} (h : DJs X cl W es fs) : PJ X es (fs.map fun f => tG (Cx.th X cl) W (RD (Cx.th X cl)) f) := by
  induction h with
  | nil => exact .nil
  | cons h t ih => exact .cons h ih
def dJs : List EF → Str → EF
  | [], acc, _, mu => .ok (.str acc) mu
  | f :: fs, acc, sl, mu => obind (f sl mu) fun d mu => match d with
    | .str y => if (acc ++ y).length ≤ 16000000 then dJs fs (acc ++ y) sl mu else .bad
    | _ => .bad
theorem tJs_of {σ : St} {Q : VK} : ∀ (fs : List EF) (acc : Str) (H : Hp), tG (Cx.th X cl) W (RD (Cx.th X cl)) (dJs fs acc) σ H Q → tJs (fs.map fun f => tG (Cx.th X cl) W (RD (Cx.th X cl)) f) acc σ H fun out H1 => Q (.str out) H1
  | [], acc, H, q => by
    obtain ⟨F, al, sl, mu, w, po⟩ := q
    exact Po.here po w.toMus (.str _)
  | f :: fs, acc, H, q => by
    obtain ⟨F, al, sl, mu, w, po⟩ := q
    show tG (Cx.th X cl) W (RD (Cx.th X cl)) f σ H fun x H1 => _
    refine seqG back_RD w po (g := fun d mu => match d with
      | .str y => if (acc ++ y).length ≤ 16000000 then dJs fs (acc ++ y) sl mu else .bad
      | _ => .bad) rfl fun v d F1 al1 mu1 H1 x1 w1 r1 po1 => ?_
    cases d with
    | str y =>
      dsimp only at po1
      split at po1
      · rename_i hl
        cases r1
        exact ⟨y, rfl, by rw [sizeLine_eq]; omega, tJs_of fs (acc ++ y) H1 ⟨F1, al1, sl, mu1, w1, po1⟩⟩
      · exact False.elim po1
    | _ => exact False.elim po1
theorem de_fstr {v1 v2 : PySem.Expr} {rest : List PySem.Expr} {fs : List EF} (h : DJs X cl W (v1 :: v2 :: rest) fs) : DE X cl W (.JoinedStr (v1 :: v2 :: rest) pos) (dJs fs Str.empty) := PE.imp (pe_joined h.pj) fun σ H Q q => tJs_of fs Str.empty H q
theorem de_fstr1 (h : DE X cl W e f) : DE X cl W (.JoinedStr [e] pos) f := pe_joined1 h
end
end DL
end

section
set_option Elab.async false
set_option linter.all false
set_option maxRecDepth 100000
set_option maxHeartbeats 4000000
/-! DV: {x: True for x in a list} and how many keys it has. -/
namespace DL
open PySem L2 PyProof.Rows
section
variable {X : Cx} {pins : List (Addr × Obj)} {σ : L2.St} {H : Hp} {s1 : Shared}
/-- what a table of the rows must keep, row by row -/
structure Tab (X : Cx) (H : Hp) (s1 : Shared) (items : Array Value) (o : HO) (T : Addr → Nat → Heap → Prop) : Prop where
  start : ∀ (D : Addr) (h : Heap), sysModules < D → h.get? D = some { cls := .type "dict", dict := none, data := .dict #[] } → T D 0 h
  stay : ∀ (D : Addr) (i : Nat) (h h' : Heap), T D i h → (∀ u, h.get? D = some u → h'.get? D = some u) → T D i h'
  step : ∀ (D : Addr) (i : Nat) (s : Shared) (v : Value) (E : Value → Shared → Prop) (Q : Unit → Shared → Prop), T D i s.heap → (∀ b u, s1.heap.get? b = some u → s.heap.get? b = some u) → s1.heap.objs.size ≤ D → items[i]? = some v →
    (∀ h' t, T D (i + 1) h' → Heap.SameBut D s.heap h' → Q () { s with heap := h', toks := t }) → wpAny (model X.prog X.w) X.A (dictSet D v (.bool true)) Q E s
  fin : ∀ (D : Addr) (h : Heap), (∀ b u, s1.heap.get? b = some u → h.get? b = some u) → s1.heap.objs.size ≤ D → T D items.size h → ObjOk X.prog X.w (upd H D o) h D o
theorem dc_rows {l : Addr} {items : Array Value} {o : HO} {T : Addr → Nat → Heap → Prop} {x : Str} {p1 p2 p3 : Pos} {j : Nat} {scope : Scope} {Q : VK} (hc : X.calm = true) (I : Inv X pins σ H s1) (hl : s1.heap.IsList l items) (tb : Tab X H s1 items o T)
    (hx : scope.names.lookup x = some .local) (hdb : (x == ("__debug__" : Str)) = false) (hk : scope.kind = .function) (hcell : ∀ y ∈ scope.names, y.2 ≠ .cell) (q : ∀ D, H D = none → Q (.ref D) (upd H D o)) :
    wpAny (model X.prog X.w) X.A (pyIter (.ref l)) (DcGoes X.prog X.w X.A X.xe X.env scope [] (.Name x p3) [] (.Name x p1) (.Constant (.bool true) j p2) none (EP X pins σ Q)) X.xe s1 := by
  have hh : X.A.handled = none := I.ok.hd hc
  refine wpAny_pyIter_list hl ?_
  have ltl : l < s1.heap.objs.size := let ⟨u, e, _⟩ := hl; Heap.lt_size e
  have hne : l ≠ s1.heap.objs.size := Nat.ne_of_lt ltl
  refine ⟨s1.heap.objs.size, [s1.heap.objs.size, l], [s1.heap.objs.size], items.size, _, _, rfl, Goes.list hh s1.heap.objs.size l hne items, ⟨⟨_, Heap.get?_push_size _ rfl, rfl, rfl⟩, hl.push _⟩, fun D C s3 b hD => ?_⟩
  have szp : s1.heap.objs.size < D := by
    have := b.newD
    rw [Heap.size_push] at this
    exact this
  have szc : s1.heap.objs.size < C := by
    have := b.newC
    rw [Heap.size_push] at this
    exact this
  have big : sysModules < D := Nat.lt_trans I.big szp
  have oldD : ∀ {b u}, s1.heap.get? b = some u → b ≠ D := fun e => Nat.ne_of_lt (Nat.lt_trans (Heap.lt_size e) szp)
  have oldC : ∀ {b u}, s1.heap.get? b = some u → b ≠ C := fun e => Nat.ne_of_lt (Nat.lt_trans (Heap.lt_size e) szc)
  have kf : (compEnvC scope [] C X.env).scope.kind = .function := hk
  have kl : (compEnvC scope [] C X.env).kindOf x = some .local := lookup_relabel_local hx
  refine ⟨fun i s' => (∃ h' tk, s' = { s1 with heap := h', toks := tk }) ∧ (∀ b u, s1.heap.get? b = some u → s'.heap.get? b = some u) ∧ (∃ m, s'.heap.Ns C m) ∧ T D i s'.heap, ?_, ?_, ?_, ?_⟩
  · obtain ⟨h, tk, e⟩ := b.only
    refine ⟨⟨h, tk, by rw [e]⟩, fun a u e => b.old a u (Heap.get?_push_of_some _ e), ⟨_, b.names⟩, tb.start D _ big hD⟩
  · rintro i s h' tk ⟨⟨h, t, e⟩, kept, ⟨m, hm⟩, ht⟩ k _
    refine ⟨⟨h', tk, by rw [e]⟩, fun a u ea => k a u (fun z => ?_) (kept a u ea), ⟨m, ?_⟩, tb.stay D i _ _ ht fun u eu => k D u (fun z => ?_) eu⟩
    · rw [List.mem_singleton] at z; subst z; exact absurd (Heap.lt_size ea) (Nat.lt_irrefl _)
    · obtain ⟨ob, es, ep, ho, r⟩ := hm
      exact ⟨ob, es, ep, k C ob (fun z => by rw [List.mem_singleton] at z; rw [z] at szc; exact absurd szc (Nat.lt_irrefl _)) ho, r⟩
    · rw [List.mem_singleton] at z; rw [z] at szp; exact absurd szp (Nat.lt_irrefl _)
  · rintro i v s hi hv st ⟨⟨h, t, e⟩, kept, ⟨m, hm⟩, ht⟩
    refine wpAny_assign_Name (wpAny_storeName_local kl (show s.heap.Ns (compEnvC scope [] C X.env).locals m from hm) (fun h2 hn2 hs2 => ?_) (by rw [kf]; rfl))
    have kept2 : ∀ b u, s1.heap.get? b = some u → h2.get? b = some u := fun a u ea => (hs2.2 a (oldC ea)).trans (kept a u ea)
    have st2 : ∀ (h3 : Heap), (∀ a u, a = s1.heap.objs.size ∨ a = l → s.heap.get? a = some u → h3.get? a = some u) → h3.IsListIter s1.heap.objs.size l (i + 1) ∧ h3.IsList l items := fun h3 k => by
      obtain ⟨⟨ob, e1, r1⟩, ob2, e2, r2⟩ := st
      exact ⟨⟨ob, k _ _ (.inl rfl) e1, r1⟩, ob2, k _ _ (.inr rfl) e2, r2⟩
    refine wpAny_pure ?_
    rw [if_pos rfl]
    refine wpAny_Name (wpAny_loadName_local kf kl hn2 (if_pos rfl) ?_) hdb
    refine Constant_bool ?_
    refine tb.step D i _ v _ _ (tb.stay D i _ _ ht fun u eu => (hs2.2 D b.ne).trans eu) kept2 (Nat.le_of_lt szp) hv fun h3 t3 ht3 hs3 => ?_
    refine ⟨⟨⟨h3, t3, by rw [e]⟩, fun a u ea => (hs3.2 a (oldD ea)).trans (kept2 a u ea), ⟨_, hn2.sameBut hs3 b.ne.symm⟩, ht3⟩, st2 h3 fun a u ha ea => ?_⟩
    have h1 : a ≠ D := by
      rcases ha with z | z
      · rw [z]; exact Nat.ne_of_lt szp
      · rw [z]; exact Nat.ne_of_lt (Nat.lt_trans ltl szp)
    have h2' : a ≠ C := by
      rcases ha with z | z
      · rw [z]; exact Nat.ne_of_lt szc
      · rw [z]; exact Nat.ne_of_lt (Nat.lt_trans ltl szc)
    exact (hs3.2 a h1).trans ((hs2.2 a h2').trans ea)
  · rintro s ⟨⟨h, t, e⟩, kept, ⟨m, hm⟩, ht⟩
    refine ⟨m, hm, fun h4 hs4 => ?_⟩
    have kept4 : ∀ b u, s1.heap.get? b = some u → h4.get? b = some u := fun a u ea => (hs4.2 a (oldC ea)).trans (kept a u ea)
    refine ⟨.ref D, upd H D o, ?_, rfl, q D (I.hok.fresh (Nat.le_of_lt szp))⟩
    have := I.laid (a := D) (o := o) (h' := h4) (t' := t) kept4 (Nat.le_of_lt szp) (tb.fin D h4 kept4 (Nat.le_of_lt szp) (tb.stay D _ _ _ ht fun u eu => (hs4.2 D b.ne).trans eu))
    rw [e]
    exact this
/-! the tables -/
def kvsOf {α : Type} [DecidableEq α] (ks : List α) (n : Nat) : List (α × V) := (ks.take n).foldl (fun acc k => putK acc k (.bl true)) []
theorem kvsOf_len {α : Type} [DecidableEq α] {ks : List α} : ∀ n, (kvsOf ks n).length ≤ n := by
  have key : ∀ (l : List α) (acc : List (α × V)), (l.foldl (fun acc k => putK acc k (.bl true)) acc).length ≤ acc.length + l.length := by
    intro l
    induction l with
    | nil => intro acc; exact Nat.le_refl _
    | cons k l ih =>
      intro acc
      have h1 := ih (putK acc k (.bl true))
      have h2 := length_putK acc k (.bl true)
      rw [List.foldl_cons, List.length_cons]
      omega
  intro n
  have := key (ks.take n) []
  rw [List.length_nil, Nat.zero_add] at this
  exact Nat.le_trans this (List.length_take_le n ks)
theorem kvsOf_succ {α : Type} [DecidableEq α] {ks : List α} {n : Nat} {k : α} (h : ks[n]? = some k) : kvsOf ks (n + 1) = putK (kvsOf ks n) k (.bl true) := by
  unfold kvsOf
  obtain ⟨hl, rfl⟩ := List.getElem?_eq_some_iff.mp h
  rw [List.take_succ_eq_append_getElem hl, List.foldl_append]
  rfl
theorem tab_K {l : Addr} {ks : List Key} {its : List Value} (I : Inv X pins σ H s1) (rv : Vals (ks.map kV) its) (hz : its.length ≤ sizeLine) :
    Tab X H s1 its.toArray (.dK (kvsOf ks its.length)) (fun D i h => (D == sysModules) = false ∧ i ≤ its.length ∧ ∃ vs, KV (kvsOf ks i) vs ∧ h.DictOf (mixKind X.prog X.w) D vs) where
  start D h big e := ⟨beq_eq_false_iff_ne.mpr (Ne.symm (Nat.ne_of_lt big)), Nat.zero_le _, [], .nil, _, #[], 0, e, ⟨rfl, rfl, rfl⟩, rfl, fun _ he => by simp at he, .nil, List.nodup_nil⟩
  stay D i h h' t k := by
    obtain ⟨t0, t1, vs, t2, o, es, ep, e, r⟩ := t
    exact ⟨t0, t1, vs, t2, o, es, ep, k o e, r⟩
  step D i s v E Q t kept hD hv q := by
    obtain ⟨t0, t1, vs, t2, t3⟩ := t
    have hl := rv.length
    rw [List.length_map] at hl
    have hi : i < its.length := by
      have := (List.getElem?_eq_some_iff.mp (by simpa using hv : its[i]? = some v)).1
      exact this
    have hk : ks[i]? = some (ks[i]'(by omega)) := List.getElem?_eq_getElem _
    obtain ⟨u, hu, ru⟩ := rv.get (i := i) (x := kV (ks[i]'(by omega))) (by rw [List.getElem?_map, hk]; rfl)
    have : u = v := by
      have hv' : its[i]? = some v := by simpa using hv
      rw [hu] at hv'; exact Option.some.inj hv'
    subst this
    have hlen : vs.length ≤ sizeLine := by
      rw [← Paired.length t2]
      have := kvsOf_len (ks := ks) i
      omega
    refine wpAny_dictSet_pairs (hsz := hlen) (kV_is ru) t3 fun h' dd hs => q h' _ ⟨t0, hi, _, ?_, dd⟩ hs
    rw [kvsOf_succ hk]
    exact t2.put _ rfl
  fin D h kept hD t := by
    obtain ⟨t0, t1, vs, t2, t3⟩ := t
    have hn : its.toArray.size = its.length := by simp
    rw [hn] at t2
    exact ⟨Nat.le_trans (kvsOf_len _) hz, t0, vs, t2, t3⟩
theorem tab_T {l : Addr} {ks : List (List Key)} {xs : List V} {its : List Value} (I : Inv X pins σ H s1) (rv : Vals xs its) (hu : X.A.units + 1 < cLine) (hz : its.length ≤ sizeLine) (hx : Paired (fun x k => ∃ b, x = V.ref b ∧ H b = some (.tup (k.map kV))) xs ks) :
    Tab X H s1 its.toArray (.dT (kvsOf ks its.length)) (fun D i h => (D == sysModules) = false ∧ i ≤ its.length ∧ ∃ zs, KT H (kvsOf ks i) zs ∧ ∃ o es ep, h.get? D = some o ∧ o.ExactDict ∧ o.data = .dict es ep ∧ es.toList = zs.map (entryOfKey (tupleKind (mixKind X.prog X.w))) ∧ (zs.map (·.1)).Nodup) where
  start D h big e := ⟨beq_eq_false_iff_ne.mpr (Ne.symm (Nat.ne_of_lt big)), Nat.zero_le _, [], .nil, _, #[], 0, e, ⟨rfl, rfl, rfl⟩, rfl, rfl, List.nodup_nil⟩
  stay D i h h' t k := by
    obtain ⟨t0, t1, zs, t2, o, es, ep, e, r⟩ := t
    exact ⟨t0, t1, zs, t2, o, es, ep, k o e, r⟩
  step D i s v E Q t kept hD hv q := by
    obtain ⟨t0, t1, zs, t2, o, es, ep, e1, e2, e3, e4, e5⟩ := t
    have hl := rv.length
    have hl2 := Paired.length hx
    have hi : i < its.length := (List.getElem?_eq_some_iff.mp (by simpa using hv : its[i]? = some v)).1
    have hk : ks[i]? = some (ks[i]'(by omega)) := List.getElem?_eq_getElem _
    have hxi : xs[i]? = some (xs[i]'(by omega)) := List.getElem?_eq_getElem _
    obtain ⟨u, hu', ru⟩ := rv.get hxi
    have hv' : its[i]? = some v := by simpa using hv
    rw [hu'] at hv'
    cases hv'
    obtain ⟨b, eb, hb⟩ : ∃ b, xs[i]'(by omega) = V.ref b ∧ H b = some (.tup ((ks[i]'(by omega)).map kV)) := by
      have key : ∀ {xs : List V} {ks : List (List Key)}, Paired (fun x k => ∃ b, x = V.ref b ∧ H b = some (.tup (k.map kV))) xs ks → ∀ (i : Nat) (h1 : i < xs.length) (h2 : i < ks.length), ∃ b, xs[i] = V.ref b ∧ H b = some (.tup (ks[i].map kV)) := by
        intro xs ks h
        induction h with
        | nil => intro i h1; exact absurd h1 (Nat.not_lt_zero _)
        | cons r t ih =>
          intro i h1 h2
          cases i with
          | zero => exact r
          | succ i => exact ih i (Nat.lt_of_succ_lt_succ h1) (Nat.lt_of_succ_lt_succ h2)
      exact key hx i _ _
    rw [eb] at ru
    cases (show v = Value.ref b from ru)
    have hlen : zs.length ≤ sizeLine := by
      rw [← Paired.length t2]
      have := kvsOf_len (ks := ks) i
      omega
    have keyok : ∀ {c : Addr} {k : List Key}, H c = some (.tup (k.map kV)) → (tupleKind (mixKind X.prog X.w)).is s.heap k c := fun {c k} hc => by
      obtain ⟨ob, its', n, h1, h2, h3, h4⟩ := key_of I.hok hc
      exact ⟨ob, its', n, kept _ _ h1, h2, h3, h4⟩
    have all : ∀ x ∈ zs, (tupleKind (mixKind X.prog X.w)).is s.heap x.1 x.2.1 := by
      have key : ∀ {kvs : List (List Key × V)} {zs : List (List Key × Addr × Value)}, KT H kvs zs → ∀ x ∈ zs, (tupleKind (mixKind X.prog X.w)).is s.heap x.1 x.2.1 := by
        intro kvs zs h
        induction h with
        | nil => intro x hx; cases hx
        | cons r t ih =>
          intro x hx
          rcases List.mem_cons.mp hx with rfl | hx
          · exact keyok (by rw [← r.1]; exact r.2.1)
          · exact ih x hx
      exact key t2
    refine wpAny_dictSet_heap (hsz := hlen) (by exact Nat.lt_of_succ_lt hu) (keyok hb) ⟨o, es, ep, e1, e2, e3, e4, all, e5⟩ fun h' dd hs => q h' _ ⟨t0, hi, storedH zs (ks[i]'(by omega)) b (.bool true), ?_, ?_⟩ hs
    · rw [kvsOf_succ hk]
      exact t2.put _ hb rfl
    · obtain ⟨o', es', ep', h1, h2, h3, h4, _, h6⟩ := dd
      exact ⟨o', es', ep', h1, h2, h3, h4, h6⟩
  fin D h kept hD t := by
    obtain ⟨t0, t1, zs, t2, t3⟩ := t
    have hn : its.toArray.size = its.length := by simp
    rw [hn] at t2
    refine ⟨Nat.le_trans (kvsOf_len _) hz, t0, zs, t2.keeps fun c ys ec => ?_, t3⟩
    rw [upd_ne (ne_of_none ec (I.hok.fresh hD))]
    exact ec
/-- the rule: D the new dict -/
def tDR (te : TE) : TE := fun σ H Q => te σ H fun v H1 => ∃ l xs, v = .ref l ∧ H1 l = some (.lst xs) ∧
  ((∃ ks : List Key, xs = ks.map kV ∧ ∀ D, H1 D = none → Q (.ref D) (upd H1 D (.dK (kvsOf ks ks.length)))) ∨
   ∃ ks : List (List Key), Paired (fun x k => ∃ b, x = V.ref b ∧ H1 b = some (.tup (k.map kV))) xs ks ∧ ∀ D, H1 D = none → Q (.ref D) (upd H1 D (.dT (kvsOf ks ks.length))))
theorem pe_dcRow {x : Str} {p1 p2 p3 pos : Pos} {j : Nat} {iter : PySem.Expr} {scope : Scope} {te : TE} (hc : X.calm = true) (hu : X.A.units + 1 < cLine) (he : PE X iter te)
    (hx : scope.names.lookup x = some .local := by rfl) (hdb : (x == ("__debug__" : Str)) = false := by decide) (hk : scope.kind = .function := by rfl) (hcell : ∀ y ∈ scope.names, y.2 ≠ .cell := by decide) (hfree : ∀ y ∈ scope.names, y.2 ≠ .free := by decide)
    (hn : ∀ y ∈ scope.names, y.2 = .local → scope.names.lookup y.1 = some .local := by decide) (hs : ∀ x, foldedSetIterable iter X.env x = pure x := by intro _; rfl) :
    PE X (.DictComp (.Name x p1) (.Constant (.bool true) j p2) [⟨.Name x p3, iter, [], 0⟩] scope pos) (tDR te) := ⟨fun pins s σ H Q I h => by
  refine DictComp_goes (closureFor_none hfree) hcell hk hn (thn (he.run pins s σ H _ I h) fun u s1 ⟨v, H1, I1, rv, l, xs, ev, hl, q⟩ => ?_) hs
  subst ev
  cases (show u = Value.ref l from rv)
  obtain ⟨its, r, il, hz⟩ := I1.list (SqL.of hl)
  have hlen := r.length
  have hz' : its.length ≤ sizeLine := by rw [← hlen]; exact hz
  rcases q with ⟨ks, rfl, q⟩ | ⟨ks, hks, q⟩
  · rw [List.length_map] at hlen
    exact dc_rows hc I1 il.isList (tab_K (l := l) I1 r hz') hx hdb hk hcell (by rw [← hlen]; exact q)
  · have hl2 := Paired.length hks
    exact dc_rows hc I1 il.isList (tab_T (l := l) I1 r hu hz' hks) hx hdb hk hcell (by rw [← hlen, hl2]; exact q)⟩
end
end DL
end

section
set_option Elab.async false
set_option linter.all false
set_option maxRecDepth 100000
set_option maxHeartbeats 4000000
namespace DL
open PySem L2
/-! DX: how many unlike rows, not in a constant tuple of texts, enumerate, lists and tuples walked alike. -/
def keyD : D → Option Key
  | .int i => some (.inl i)
  | .str z => some (.inr z)
  | _ => none
def allSome {α β : Type} (f : α → Option β) : List α → Option (List β)
  | [] => some []
  | a :: l => match f a, allSome f l with
    | some b, some r => some (b :: r)
    | _, _ => none
def tkeyD : D → Option (List Key)
  | .tup l => allSome keyD l
  | _ => none
/-- how many unlike rows -/
def unlike : List D → Option Nat := fun l => match allSome keyD l with
  | some ks => some (kvsOf ks ks.length).length
  | none => match allSome tkeyD l with
    | some ks => some (kvsOf ks ks.length).length
    | none => none
def unlikeD : D → Option D
  | .lst l => (unlike l).map fun n => .int (n : Nat)
  | _ => none
section
variable {T : Th} {F : Hp} {al : Nat → Addr} {n : Nat}
theorem keyD_rp {v : V} {d : D} {k : Key} (r : Rp T F al n v d) (h : keyD d = some k) : v = kV k := by
  cases d with
  | int i => cases h; cases r; rfl
  | str i => cases h; cases r; rfl
  | _ => cases h
theorem keysD_rp : ∀ {l : List D} {xs : List V} {ks : List Key}, RpL T F al n xs l → allSome keyD l = some ks → xs = ks.map kV
  | [], _, _, r, h => by cases h; cases r; rfl
  | d :: l, _, ks, r, h => by
    unfold allSome at h
    split at h
    · rename_i b r' e1 e2
      cases h
      cases r with
      | cons r1 r2 => rw [keyD_rp r1 e1, keysD_rp r2 e2]; rfl
    · cases h
theorem tkeysD_rp : ∀ {l : List D} {xs : List V} {ks : List (List Key)}, RpL T F al n xs l → allSome tkeyD l = some ks → Paired (fun x k => ∃ b, x = V.ref b ∧ F b = some (.tup (k.map kV))) xs ks
  | [], _, _, r, h => by cases h; cases r; exact .nil
  | d :: l, _, ks, r, h => by
    unfold allSome at h
    split at h
    · rename_i b r' e1 e2
      cases h
      cases r with
      | cons r1 r2 =>
        refine .cons ?_ (tkeysD_rp r2 e2)
        cases d with
        | tup m =>
          cases r1 with
          | tup h1 h2 => exact ⟨_, rfl, by rw [← keysD_rp h2 e1]; exact h1⟩
        | _ => cases e1
    · cases h
end
section
variable {X : Cx} {cl : Nat → Addr} {W : WX} {n : En} {a b e o i : PySem.Expr} {es : List PySem.Expr} {f fa fb fo fi : EF} {ga : LF} {pos p1 p2 p3 p4 p5 pos' apos cpos : Pos} {x m : Str} {k c np : Nat} {p : FF}
theorem de_unlike {j : Nat} {scope : Scope} (hc : X.calm = true) (hu : X.A.units + 1 < cLine) (hg : Gl X "len") (hm : X.mg "len" = none) (h : DE X cl W e f)
    (hx : scope.names.lookup x = some .local := by rfl) (hdb : (x == ("__debug__" : Str)) = false := by decide) (hk : scope.kind = .function := by rfl) (hcell : ∀ y ∈ scope.names, y.2 ≠ .cell := by decide) (hfree : ∀ y ∈ scope.names, y.2 ≠ .free := by decide)
    (hn : ∀ y ∈ scope.names, y.2 = .local → scope.names.lookup y.1 = some .local := by decide) (hs : ∀ x, foldedSetIterable e X.env x = pure x := by intro _; rfl)
    (he : starEach [.DictComp (.Name x p2) (.Constant (.bool true) j p3) [⟨.Name x p4, e, [], 0⟩] scope p5] X.env = (false, eval (.DictComp (.Name x p2) (.Constant (.bool true) j p3) [⟨.Name x p4, e, [], 0⟩] scope p5) X.env) :: starEach [] X.env := by rfl) (hpl : (backTo pos (starEach [] X.env)).any (·.1) = false := by rfl) :
    DE X cl W (.Call (.Name "len" p1) [.DictComp (.Name x p2) (.Constant (.bool true) j p3) [⟨.Name x p4, e, [], 0⟩] scope p5] [] pos) (dOp1 unlikeD f) :=
  PE.imp (pe_callB (CallR.or call_lenD call_len_dT) hg hm boot_len (pa_cons (pe_dcRow hc hu h hx hdb hk hcell hfree hn hs) pa_nil he) (by decide) (by decide) he hpl) fun σ H Q q => by
    obtain ⟨F, al, sl, mu, w, po⟩ := q
    refine seqG back_RD w po rfl fun v d F1 al1 mu1 H1 x1 w1 r1 po1 => ?_
    dsimp only at po1
    cases z : unlikeD d with
    | none => rw [z] at po1; exact False.elim po1
    | some res =>
      rw [z] at po1
      cases d with
      | lst l =>
        obtain ⟨m, hm, rfl⟩ := Option.map_eq_some_iff.mp z
        cases r1 with
        | lst h1 h2 =>
          refine ⟨_, _, rfl, w1.sub _ _ h1, ?_⟩
          unfold unlike at hm
          split at hm
          · rename_i ks hks
            cases hm
            exact .inl ⟨ks, keysD_rp h2 hks, fun D hD => .inl ⟨D, _, rfl, upd_same, po1 _ F1 al1 _ (Ext.laidH w1.toMus hD) (.int _)⟩⟩
          · split at hm
            · rename_i ks hks
              cases hm
              exact .inr ⟨ks, Paired.mapP (tkeysD_rp h2 hks) fun x k ⟨b, e1, e2⟩ => ⟨b, e1, w1.sub _ _ e2⟩, fun D hD => .inr ⟨D, _, rfl, upd_same, po1 _ F1 al1 _ (Ext.laidH w1.toMus hD) (.int _)⟩⟩
            · cases hm
      | _ => cases z
theorem toPL_strs : ∀ ws : List Str, toPL (ws.map D.str) = some (ws.map PyData.str)
  | [] => rfl
  | w :: ws => by
    show toPL (D.str w :: ws.map D.str) = _
    unfold toPL
    rw [toPL_strs ws]
    rfl
theorem dpAll_strs {K : PySem.W.Frag} {H : Hp} : ∀ ws : List Str, DpAll K H (ws.map V.str) (ws.map PyData.str)
  | [] => .nil
  | w :: ws => .cons (.str w) (dpAll_strs ws)
theorem de_ninK {ca : Addr} {ws : List Str} (hu : X.A.units + 65 < cLine) (ha : DE X cl W a fa) (hb : PE X b (tC (.ref ca))) (hq : ∀ H, SqT X.K H ca (ws.map V.str)) (hm : behindInMarks .NotIn b = false := by rfl) : DE X cl W (.Compare a [.NotIn] [b] pos) (dB2v (dIn true fa (dC (.tup (ws.map D.str))))) :=
  PE.imp (pe_cmpR (op_ninP hu) ha hb hm) fun σ H Q q => by
    obtain ⟨F, al, sl, mu, w, po⟩ := tV2B q
    refine seqG back_RB w po rfl fun v d F1 al1 mu1 H1 x1 w1 r1 po1 => ?_
    unfold dC dBind obind at po1
    dsimp only at po1
    cases z : inD d (.tup (ws.map D.str)) with
    | none => rw [z] at po1; exact False.elim po1
    | some r =>
      rw [z] at po1
      unfold inD at z
      dsimp only at z
      rw [toPL_strs] at z
      split at z
      · rename_i p ps e1 e2
        cases e2
        split at z
        · rename_i hd
          cases z
          exact ⟨p, Rp.dp w1.sub r1 e1, toP_plain e1, ws.map PyData.str, .inr (.tup (hq H1) (dpAll_strs ws)), toPL_plain (toPL_strs ws), hd, Po.here (R := RB) (Q := fun c H' => Q (.bl c) H') po1 w1.toMus rfl⟩
        · cases z
      · cases z

/-! ### what is walked -/
def dItQ (f : EF) : LF := dBind f fun d _ mu => match d with
  | .lst l => .ok l mu
  | .tup l => .ok l mu
  | _ => .bad
theorem di_seq {tg : PySem.Expr} (h : DE X cl W e f) : DI X cl W tg e (dItQ f) := ⟨fun pins s σ H R I q => by
  obtain ⟨F, al, sl, mu, w, po⟩ := q
  cases z : f sl mu with
  | ok d mu1 =>
    cases d with
    | lst l => exact (di_list (tg := tg) h).run pins s σ H R I ⟨F, al, sl, mu, w, by unfold dItQ dItL dBind obind at *; rw [z] at po ⊢; exact po⟩
    | tup l => exact (di_tup (tg := tg) h).run pins s σ H R I ⟨F, al, sl, mu, w, by unfold dItQ dItT dBind obind at *; rw [z] at po ⊢; exact po⟩
    | _ => unfold dItQ dBind obind at po; rw [z] at po; exact False.elim po
  | ex c fs mu1 => exact (di_list (tg := tg) h).run pins s σ H R I ⟨F, al, sl, mu, w, by unfold dItQ dItL dBind obind at *; rw [z] at po ⊢; exact po⟩
  | bad => unfold dItQ dBind obind at po; rw [z] at po; exact False.elim po⟩
def numD (n : Nat) : List D → List D
  | [] => []
  | d :: l => .tup [.int (n : Nat), d] :: numD (n + 1) l
theorem numD_get : ∀ {l : List D} {n i : Nat}, (numD n l)[i]? = l[i]?.map fun d => .tup [.int ((n + i : Nat) : Int), d]
  | [], _, _ => by simp [numD]
  | d :: l, n, 0 => by simp [numD]
  | d :: l, n, i + 1 => by
    unfold numD
    rw [List.getElem?_cons_succ, List.getElem?_cons_succ, numD_get]
    congr 1
    funext d
    rw [show n + 1 + i = n + (i + 1) from by omega]
theorem numD_len : ∀ {l : List D} {n : Nat}, (numD n l).length = l.length
  | [], _ => rfl
  | d :: l, n => by
    unfold numD
    rw [List.length_cons, List.length_cons, numD_len]
def dEnum (f : EF) : LF := dBind f fun d _ mu => match d with
  | .lst l => .ok (numD 0 l) mu
  | _ => .bad
theorem di_enum {elts : List PySem.Expr} {kk : Nat} {tpos : Pos} (hg : Gl X "enumerate") (hm : X.mg "enumerate" = none) (h : DE X cl W e f) (hs : starEach [e] X.env = [(false, eval e X.env)] := by rfl) : DI X cl W (.Tuple elts kk tpos) (.Call (.Name "enumerate" p1) [e] [] pos) (dEnum f) :=
  PI.imp (pi_enum hg hm (pa_cons h pa_nil hs) hs) fun σ H R q => by
    obtain ⟨F, al, sl, mu, w, po⟩ := q
    refine seqG back_RI w po rfl fun v d F1 al1 mu1 H1 x1 w1 r1 po1 => ?_
    cases r1 with
    | @lst a xs ds ha hl =>
      refine ⟨a, xs, rfl, SqL.of (w1.sub _ _ ha), Po.here po1 w1.toMus ⟨_, _, by rw [numD_len, ← RpL.len hl]; exact walk_enum (xs := xs), fun F' H' s1 s2 => SqL.of (s2 _ _ (s1 _ _ ha)), fun F' al' mu' H' i x H2 g m hi y => ?_⟩⟩
      obtain ⟨T, u, y', rfl, hT, rfl, e1, e2⟩ := y
      cases e1
      obtain ⟨d, h1, h2⟩ := gr_at g hl e2
      refine ⟨.tup [.int ((0 + i : Nat) : Int), d], _, by rw [numD_get, h1]; rfl, Ext.laidF m hT, .tup upd_same (.cons ?_ (.cons ((Ext.laidF m hT).rp h2) .nil))⟩
      rw [Nat.zero_add]
      exact .int _
    | _ => exact False.elim po1
end
end DL
end

section
set_option Elab.async false
set_option linter.all false
set_option maxRecDepth 100000
set_option maxHeartbeats 4000000
namespace DL
open PySem L2
/-! DY: small helps for written walks. -/
section
variable {A : Around} {k : Nat}
theorem u0 (r : Room k A) : A.units < cLine := by have := r.un; omega
theorem u1 (r : Room k A) : A.units + 1 < cLine := by have := r.un; omega
theorem u64 (r : Room k A) : A.units + 64 < cLine := by have := r.un; omega
theorem u65 (r : Room k A) : A.units + 65 < cLine := by have := r.un; omega
end
section
variable {X : Cx} {cl : Nat → Addr} {W : WX} {n : En} {a b e o i : PySem.Expr} {st : PySem.Stmt} {es : List PySem.Expr} {f fa fb fo fi : EF} {ga : LF} {pos p1 p2 p3 p4 p5 pos' apos cpos : Pos} {x y : Str} {k c np : Nat} {p : FF}
/-- a new object into a slot, frozen at once -/
theorem ds_ownF {i : Nat} {f : NF} (h : DS X cl W n st (sOwn i f)) : DS X cl W n st (sAsg i (dFrz f)) := PS.imp h fun Z σ H q => by
  obtain ⟨F, al, sl, mu, w, po⟩ := q
  refine ⟨F, al, sl, mu, w, ?_⟩
  unfold sOwn
  unfold sAsg dFrz dBind obind at po
  unfold sbind at po ⊢
  cases z : f sl mu with
  | ok m mu1 =>
    rw [z] at po
    have key : ∀ (hm : ∀ kvs, m ≠ .dct kvs), PoS (Cx.th X cl) W n F al mu Z (.nx (sl.set i (some (.val m.d))) mu1) → PoS (Cx.th X cl) W n F al mu Z (.nx (sl.set i (some (.own m))) mu1) := by
      intro hm po σ' F' al' H' g w'
      by_cases hi : i < sl.length
      · obtain ⟨F2, g2, w2⟩ := w'.freeze (i := i) (m := m) (List.getElem?_set_self hi) hm
        rw [List.set_set] at w2
        exact po σ' F2 al' H' (g.trans g2) w2
      · rw [List.set_eq_of_length_le (Nat.le_of_not_lt hi)] at w' po
        exact po σ' F' al' H' g w'
    cases m with
    | dct kvs => exact False.elim po
    | lst l => exact key (fun _ z => nomatch z) po
    | ins c fs => exact key (fun _ z => nomatch z) po
  | ex c fs mu1 => rw [z] at po; exact po
  | bad => rw [z] at po; exact po
/-- a, b = x, y -/
def sPar (i j : Nat) (fa fb : EF) : SF := fun sl mu => sbind (fa sl mu) sl fun d mu => sbind (fb sl mu) sl fun e mu => .nx ((sl.set i (some (.val d))).set j (some (.val e))) mu
theorem ds_par {i j : Nat} {px py pt : Pos} {kt k2 : Nat} {pt2 : Pos} (hc : X.calm = true) (hN : X.N.Nodup) (hi : X.N[i]? = some x) (hj : X.N[j]? = some y) (hij : i ≠ j) (hx : X.env.scope.names.lookup x = some .local) (hy : X.env.scope.names.lookup y = some .local) (ha : DE X cl W a fa) (hb : DE X cl W b fb)
    (hst : starEach [a, b] X.env = (false, eval a X.env) :: starEach [b] X.env := by rfl) (hst2 : starEach [b] X.env = (false, eval b X.env) :: starEach [] X.env := by rfl)
    (hw : swappedStores [.Tuple [.Name x px, .Name y py] kt pt] (.Tuple [a, b] k2 pt2) X.env = pure (some [x, y]) := by rfl) (hs : swapsWithSole [.Tuple [.Name x px, .Name y py] kt pt] (.Tuple [a, b] k2 pt2) pos.line X.env = pure false := by rfl) :
    DS X cl W n (.Assign [.Tuple [.Name x px, .Name y py] kt pt] (.Tuple [a, b] k2 pt2) pos) (sPar i j fa fb) :=
  PS.imp (ps_par hc hN hi hj hij hx hy (pa_cons ha (pa_cons hb pa_nil hst2) hst) hw hs) fun Z σ H q => by
    obtain ⟨F, al, sl, mu, w, po⟩ := q
    refine seqS w po rfl fun v d F1 al1 mu1 H1 x1 w1 r1 po1 => ?_
    refine seqS w1 po1 rfl fun u e F2 al2 mu2 H2 x2 w2 r2 po2 => ?_
    exact ⟨v, u, rfl, PoS.nx po2 ((w2.setVal (x2.rp r1)).setVal r2)⟩
theorem tChn_of {r r' : R2} {g h : D → D → Option Bool} {fc : EF} (hr : PurB (Cx.th X cl) r g) (hr' : PurB (Cx.th X cl) r' h) {σ : St} {H : Hp} {Q : VK} (q : tG (Cx.th X cl) W (RD (Cx.th X cl)) (dB2v (dChn g h fa fb fc)) σ H Q) : tChain r r' (tG (Cx.th X cl) W (RD (Cx.th X cl)) fa) (tG (Cx.th X cl) W (RD (Cx.th X cl)) fb) (tG (Cx.th X cl) W (RD (Cx.th X cl)) fc) σ H Q := by
    obtain ⟨F, al, sl, mu, w, po⟩ := tV2B q
    refine seqG back_RB w po rfl fun v d F1 al1 mu1 H1 x1 w1 r1 po1 => ?_
    refine seqG back_RB w1 po1 rfl fun u e F2 al2 mu2 H2 x2 w2 r2 po2 => ?_
    try dsimp only at po2
    cases z : g d e with
    | none => rw [z] at po2; exact False.elim po2
    | some k =>
      rw [z] at po2
      refine hr F2 al2 mu2 H2 w2.toMus v u d e k (x2.rp r1) r2 z _ ⟨k, rfl, ?_⟩
      cases k with
      | false =>
        rw [if_neg Bool.false_ne_true]
        exact Po.here (R := RB) (Q := fun c H' => Q (.bl c) H') po2 w2.toMus rfl
      | true =>
        rw [if_pos rfl]
        refine seqG back_RB w2 po2 rfl fun t e3 F3 al3 mu3 H3 x3 w3 r3 po3 => ?_
        try dsimp only at po3
        cases z2 : h e e3 with
        | none => rw [z2] at po3; exact False.elim po3
        | some k2 =>
          rw [z2] at po3
          exact hr' F3 al3 mu3 H3 w3.toMus u t e e3 k2 (x3.rp r2) r3 z2 _ (Po.here (R := RB) (Q := fun c H' => Q (.bl c) H') po3 w3.toMus rfl)
theorem dt_chain {op op' : CmpOp} {r r' : R2} {g h : D → D → Option Bool} {d : PySem.Expr} {fc : EF} (ho : OpR X (compareOp op) r) (ho' : OpR X (compareOp op') r') (hr : PurB (Cx.th X cl) r g) (hr' : PurB (Cx.th X cl) r' h) (ha : DE X cl W a fa) (hb : DE X cl W b fb) (hc : DE X cl W d fc)
    (hm : lastMarks [op, op'] [b, d] = false := by with_unfolding_all rfl) : DT X cl W (.Compare a [op, op'] [b, d] pos) (dChn g h fa fb fc) :=
  PT.imp (pt_chain ho ho' ha hb hc hm) fun σ H Q q => tChn_of hr hr' (tB2v q)

/-! ### comparisons as tests -/
theorem dt_cmpR {op : CmpOp} {r : R2} {g : D → D → Option Bool} (ho : OpR X (compareOp op) r) (hm : behindInMarks op b = false) (hr : PurB (Cx.th X cl) r g) (ha : DE X cl W a fa) (hb : DE X cl W b fb) : DT X cl W (.Compare a [op] [b] pos) (dCmp g fa fb) :=
  PT.imp (pt_cmpR ho ha hb hm) fun σ H Q q => tCmp_of hr (tB2v q)
theorem dt_eq (hu : X.A.units + 64 < cLine) (ha : DE X cl W a fa) (hb : DE X cl W b fb) : DT X cl W (.Compare a [.Eq] [b] pos) (dCmp eqD fa fb) := dt_cmpR (op_eqP hu) (nobehind _ (by decide) (by decide)) (pur_eq (T := Cx.th X cl)) ha hb
theorem dt_ne (hu : X.A.units + 64 < cLine) (ha : DE X cl W a fa) (hb : DE X cl W b fb) : DT X cl W (.Compare a [.NotEq] [b] pos) (dCmp neD fa fb) := dt_cmpR (op_neP hu) (nobehind _ (by decide) (by decide)) (pur_ne (T := Cx.th X cl)) ha hb
theorem dt_le (ha : DE X cl W a fa) (hb : DE X cl W b fb) : DT X cl W (.Compare a [.LtE] [b] pos) (dCmp leI fa fb) := dt_cmpR op_le (nobehind _ (by decide) (by decide)) pur_int ha hb
theorem dt_gt (ha : DE X cl W a fa) (hb : DE X cl W b fb) : DT X cl W (.Compare a [.Gt] [b] pos) (dCmp gtI fa fb) := dt_cmpR op_gt (nobehind _ (by decide) (by decide)) pur_int ha hb
theorem dt_ge (ha : DE X cl W a fa) (hb : DE X cl W b fb) : DT X cl W (.Compare a [.GtE] [b] pos) (dCmp geI fa fb) := dt_cmpR op_ge (nobehind _ (by decide) (by decide)) pur_int ha hb
theorem dt_lt (hu : X.A.units < cLine) (ha : DE X cl W a fa) (hb : DE X cl W b fb) : DT X cl W (.Compare a [.Lt] [b] pos) (dCmp ltD fa fb) := dt_cmpR (OpR.or op_lt (op_ltT hu)) (nobehind _ (by decide) (by decide)) (pur_lt (T := Cx.th X cl)) ha hb
theorem tIn_of {neg : Bool} {σ : St} {H : Hp} {Q : VK} (q : tG (Cx.th X cl) W (RD (Cx.th X cl)) (dB2v (dIn neg fa fb)) σ H Q) :
    tOp (fun x y H Q => rInP X.K neg x y H Q ∨ ∃ (c : Nat) (z : Str), x = .str ⟨#[c]⟩ ∧ y = .str z ∧ Q (.bl (if neg then !decide (c ∈ z.cps.toList) else decide (c ∈ z.cps.toList))) H) (tG (Cx.th X cl) W (RD (Cx.th X cl)) fa) (tG (Cx.th X cl) W (RK (Cx.th X cl)) fb) σ H Q := by
  obtain ⟨F, al, sl, mu, w, po⟩ := tV2B q
  refine seqG back_RB w po rfl fun v d F1 al1 mu1 H1 x1 w1 r1 po1 => ?_
  refine seqG back_RB w1 po1 rfl fun u e F2 al2 mu2 H2 x2 w2 r2 po2 => ?_
  dsimp only at po2
  cases z : inD d e with
  | none => rw [z] at po2; exact False.elim po2
  | some r =>
    rw [z] at po2
    exact in_reads (T := Cx.th X cl) (neg := neg) w2.toMus (x2.rp r1) r2 z (Po.here (R := RB) (Q := fun c H' => Q (.bl c) H') po2 w2.toMus rfl)
theorem dt_in (hu : X.A.units + 65 < cLine) (ha : DE X cl W a fa) (hb : DKk X cl W b fb) (hm : behindInMarks .In b = false) : DT X cl W (.Compare a [.In] [b] pos) (dIn false fa fb) :=
  PT.imp (pt_cmpR (OpR.or (op_inP hu) op_in_sign) ha hb hm) fun σ H Q q => tIn_of (neg := false) (tB2v q)
theorem dt_nin (hu : X.A.units + 65 < cLine) (ha : DE X cl W a fa) (hb : DKk X cl W b fb) (hm : behindInMarks .NotIn b = false) : DT X cl W (.Compare a [.NotIn] [b] pos) (dIn true fa fb) :=
  PT.imp (pt_cmpR (OpR.or (op_ninP hu) op_notIn_sign) ha hb hm) fun σ H Q q => tIn_of (neg := true) (tB2v q)
theorem tIsN_of {σ : St} {H : Hp} {Q : VK} (q : tG (Cx.th X cl) W (RD (Cx.th X cl)) (dB2v (dIsN f)) σ H Q) : tIsN (tG (Cx.th X cl) W (RD (Cx.th X cl)) f) σ H Q := by
  obtain ⟨F, al, sl, mu, w, po⟩ := tV2B q
  refine seqG back_RB w po rfl fun v d F1 al1 mu1 H1 x1 w1 r1 po1 => ?_
  rw [Rp.isNon r1]
  exact Po.here (R := RB) (Q := fun c H' => Q (.bl c) H') po1 w1.toMus rfl
theorem tNotN_of {σ : St} {H : Hp} {Q : VK} (q : tG (Cx.th X cl) W (RD (Cx.th X cl)) (dB2v (dNotN f)) σ H Q) : tNotN (tG (Cx.th X cl) W (RD (Cx.th X cl)) f) σ H Q := by
  obtain ⟨F, al, sl, mu, w, po⟩ := tV2B q
  refine seqG back_RB w po rfl fun v d F1 al1 mu1 H1 x1 w1 r1 po1 => ?_
  rw [Rp.isNon r1]
  exact Po.here (R := RB) (Q := fun c H' => Q (.bl c) H') po1 w1.toMus rfl
theorem dt_isN {j : Nat} (h : DE X cl W a f) : DT X cl W (.Compare a [.Is] [.Constant .none j p2] pos) (dIsN f) := PT.imp (pt_cmp (pc_isN h) rfl) fun σ H Q q => tIsN_of (tB2v q)
theorem dt_notN {j : Nat} (h : DE X cl W a f) : DT X cl W (.Compare a [.IsNot] [.Constant .none j p2] pos) (dNotN f) := PT.imp (pt_cmp (pc_notN h) rfl) fun σ H Q q => tNotN_of (tB2v q)
theorem dt_eqO (g : Gm X.prog X.w X.K X.mg X.base cl k c "__eq__" 2 p) (hr : Room k X.A) (hC : ∀ c, Lv cl c → ClsT X.K (cl c)) (hE : ClsE X.K cl c) (ha : DE X cl W a fa) (hb : DE X cl W b fb) : DT X cl W (.Compare a [.Eq] [b] pos) (dEqO false c p fa fb) := by
  obtain ⟨f, fd, ps, hf, hm, hc, hbd⟩ := g.ex
  exact PT.imp (pt_cmpR (op_own_eq hf hm hbd hr) ha hb (nobehind _ (by decide) (by decide))) fun σ H Q q => tOwn hC hE (tB2v q)
theorem dt_neO (g : Gm X.prog X.w X.K X.mg X.base cl k c "__eq__" 2 p) (hr : Room (k + 1) X.A) (hC : ∀ c, Lv cl c → ClsT X.K (cl c)) (hE : ClsE X.K cl c) (hN : ClsN X.K (cl c)) (ha : DE X cl W a fa) (hb : DE X cl W b fb) : DT X cl W (.Compare a [.NotEq] [b] pos) (dEqO true c p fa fb) := by
  obtain ⟨f, fd, ps, hf, hm, hc, hbd⟩ := g.ex
  exact PT.imp (pt_cmpR (op_own_ne hf hm hN hbd hr) ha hb (nobehind _ (by decide) (by decide))) fun σ H Q q => tOwn hC hE (tB2v q)

/-! ### a global's value; nothing is raised; a list repeated, new -/
theorem pe_gv {v : V} (hg : Gl X x) (h : ∃ u, X.mg x = some u ∧ RelV v u) (hd : (x == ("__debug__" : Str)) = false := by decide) : PE X (.Name x pos) (tC v) := by
  obtain ⟨u, h1, h2⟩ := h
  exact pe_glob hg h1 h2 hd
theorem tk0 {X : Cx} : Takes X WF := fun _ _ ⟨_, _, _, _, _, _, _, _, _, _, _, _, _, _, _, _, w⟩ => w.elim
def repD : D → D → Option MO
  | .lst l, .int j => if rgOk j = true ∧ l.length * j.toNat ≤ 16000000 then some (.lst (List.replicate j.toNat l).flatten) else none
  | _, _ => none
def dNw2 (g : D → D → Option MO) (fa fb : EF) : NF := dBind fa fun x => dBind fb fun y _ mu => match g x y with
  | some r => .ok r mu
  | none => .bad
theorem dn_rep (ha : DE X cl W a fa) (hb : DE X cl W b fb) : DN X cl W (.BinOp a .Mult b pos) (dNw2 repD fa fb) := PE.imp (pe_op op_rep ha hb) fun σ H Q q => by
  obtain ⟨F, al, sl, mu, w, po⟩ := q
  refine seqG back_RN w po rfl fun v d F1 al1 mu1 H1 x1 w1 r1 po1 => ?_
  refine seqG back_RN w1 po1 rfl fun u e F2 al2 mu2 H2 x2 w2 r2 po2 => ?_
  dsimp only at po2
  cases z : repD d e with
  | none => rw [z] at po2; exact False.elim po2
  | some res =>
    rw [z] at po2
    cases d with
    | lst l =>
      cases e with
      | int j =>
        have z' : (if rgOk j = true ∧ l.length * j.toNat ≤ 16000000 then some (MO.lst (List.replicate j.toNat l).flatten) else none) = some res := z
        split at z'
        · rename_i h
          cases z'
          cases r2
          cases x2.rp r1 with
          | @lst p xs ds h1 h2 =>
            have hl := RpL.len h2
            have hj := rgOk_of h.1
            refine ⟨p, j, xs, rfl, rfl, w2.sub _ _ h1, by omega, by omega, by rw [hl, sizeLine_eq]; omega, fun q hq => ?_⟩
            exact po2 _ F2 al2 _ (Ext.laidH w2.toMus hq) (rn_new (o := .lst _) (m := .lst _) w2.toMus hq (rpL_rep h2 _))
        · cases z'
      | _ => cases z
    | _ => cases z
end
end DL
end

section
set_option Elab.async false
set_option linter.all false
set_option maxRecDepth 100000
set_option maxHeartbeats 4000000
/-! EA: an own error class whose __init__ says super().__init__(..), then stores its parameters. -/
namespace DL
open PySem PySem.W PySem.Calls PyProof.Rows
open L2 hiding St
section
variable {prog : Program} {w : World} {A : Around} {E : Value → Shared → Prop} {s : Shared} {h₀ base : Heap} {L : Addr} {m mg : Str → Option Value} {news : List (Addr × Obj)} {K : Frag}
variable {x C Dc f cc cda : Addr} {ox : Obj} {odx : Option Obj}
/-- what the written part says of an __init__ that says super() -/
structure SupD (prog : Program) (K : Frag) (mg : Str → Option Value) (C Dc f cc cda : Addr) (fd : FuncData) (scope : Scope) (me : Str) : Prop where
  at_ : ∃ oc od osl, K.lookup f = some ⟨oc, od, .func fd, osl⟩
  par : ∃ ar, (fd.params.posonlyargs ++ fd.params.args).head? = some ar ∧ ar.arg = me
  code : ∃ ccl cdd vs ccs file tf, K.lookup cda = some ⟨ccl, cdd, .fields vs, ccs⟩ ∧ vs[2]? = some (.str file tf) ∧ ((prog.main.file : Str) == file) = true
  cell : ∃ cl cld csl, K.lookup cc = some ⟨cl, cld, .cell (some (.ref Dc)), csl⟩
  own : ∃ cdD, clsIn K Dc = some cdD
  sub : mroIn K C (.ref Dc) = some true
  sup : mg "super" = none
  nsup : scope.names.lookup ("super" : Str) = some .globalImplicit
  ncls : scope.names.lookup ("__class__" : Str) = some .free
  nself : scope.names.lookup me = some .local
  kind : scope.kind = .function
  top : (prog.main.scope.names.lookup ("super" : Str)).isSome = false
theorem sup_node {body : List Stmt} {q : Str} {scope : Scope} {p0 p1 : Pos} {attr me : Str} {whole : Sem Value} {fd : FuncData} {Q : Value → Shared → Prop}
    (S : SupD prog K mg C Dc f cc cda fd scope me) (F : Fr h₀ L s.heap m) (X₀ : K.In h₀) (M : Mod K mg base) (kb : ∀ b o, base.get? b = some o → h₀.get? b = some o) (N : News h₀ L s.heap news)
    (hv : m me = some (.ref x)) (I : InstAt s.heap x ox C odx) (hat : (attr == ("__class__" : Str)) = false)
    (k : ∀ so h', Fr h₀ L h' m → News h₀ L h' ((so, ks_superObj Dc x C) :: news) → (∀ p ∈ news, p.1 < so) → Q (.ref so) { s with heap := h' }) :
    _root_.PySem.wpAt (model prog w) A (.func body (ksEnv q scope L f (.ref cda) cc)) (attributeBase (.Call (.Name "super" p0) [] [] p1) attr (ksEnv q scope L f (.ref cda) cc) whole) Q E s := by
  have KX : K.In s.heap := X₀.keeps F.keep
  have kbs : ∀ b o, base.get? b = some o → s.heap.get? b = some o := fun b o e => F.keep _ _ (kb b o e)
  obtain ⟨_, _, _, hf⟩ := S.at_
  obtain ⟨ar, hp, rfl⟩ := S.par
  obtain ⟨_, _, vs, _, file, tf, hcode, hvs, hfile⟩ := S.code
  obtain ⟨_, _, _, hcell⟩ := S.cell
  obtain ⟨cdD, hD⟩ := S.own
  obtain ⟨mb, hb1, hb2⟩ := M.blt
  obtain ⟨oD, hD1, hD2⟩ : ∃ oD, s.heap.get? Dc = some oD ∧ oD.data = .cls cdD := by
    unfold clsIn at hD
    split at hD
    · rename_i ho
      cases hD
      exact ⟨_, KX _ _ ho, rfl⟩
    · cases hD
  have hk := S.kind
  obtain ⟨hh, g, d, t, os⟩ := s
  refine ks_wpAt_super_base (env := ksEnv q scope L f (.ref cda) cc) S.nsup S.ncls hat rfl (KX _ _ hf) rfl hp rfl (KX _ _ hcode) rfl hvs hfile S.top ?_
  refine ks_loadName_global hk S.nsup (loadGlobal_builtin (env := ksEnv q scope L f (.ref cda) cc) (M.glob.keeps kbs) S.sup (hb1.keeps kbs) ((hb2 _ (by decide)).trans (show bootBuiltins "super" = some (.type "super") by decide +kernel)) ⟨rfl, ?_⟩)
  refine wpAny_loadName_free hk S.ncls rfl ⟨_, KX _ _ hcell, rfl⟩ ?_
  refine wpAny_loadName_local hk S.nself F.ns hv ?_
  refine ks_wpAny_isType_cls hD1 hD2 ⟨rfl, ?_⟩
  refine ks_wpAny_call_super hD1 hD2 I.at_ I.cls (fun c e => ?_) (looks_mroIn KX S.sub) (fun h' e kk => ?_)
  · have z := I.no
    unfold notCls at z
    rw [e] at z
    cases z
  · obtain ⟨F', N', l'⟩ := ks_newsPush (s := ⟨hh, g, d, t, os⟩) F N rfl e kk
    exact k _ _ F' N' l'
/-- the arguments are read off the frame -/
def ArgRd (env : Env) (L : Addr) (m : Str → Option Value) (es : List PySem.Expr) (us : List Value) : Prop := ∀ (M : Model) (A : Around) (E : Value → Shared → Prop) (s : Shared) (pos : Pos) (Q : List Value → Shared → Prop), s.heap.Ns L m → Q us s → wpAny M A (spliced (backTo pos (starEach es env))) Q E s
theorem reads_nil {env : Env} : ArgRd env L m [] [] := fun _ _ _ _ _ _ _ h => Calls.spliced_nil h
theorem reads_name {env : Env} {y : Str} {p : Pos} {v : Value} {es : List PySem.Expr} {us : List Value} (hL : env.locals = L) (hk : env.scope.kind = .function) (hl : env.kindOf y = some .local) (hv : m y = some v) (hd : (y == ("__debug__" : Str)) = false) (r : ArgRd env L m es us)
    (hs : starEach (.Name y p :: es) env = (false, eval (.Name y p) env) :: starEach es env) : ArgRd env L m (.Name y p :: es) (v :: us) := fun M A E s pos Q hn h => by
  rw [hs]
  refine Calls.spliced_cons (wpAny_Name (wpAny_loadName_local hk hl (by rw [hL]; exact hn) hv ?_) hd)
  exact r M A E s pos _ hn h
/-- super().__init__(..): the error's args are laid anew -/
theorem sup_stmt {body : List Stmt} {q : Str} {scope : Scope} {p0 p1 ap pc pe : Pos} {me : Str} {fd : FuncData} {B i newId : String} {bmB : List Value} {t : Addr} {es : List PySem.Expr} {us : List Value} {pl : Sem Bool} {Q : Flow → Shared → Prop}
    (S : SupD prog K mg C Dc f cc cda fd scope me) (F : Fr h₀ L s.heap m) (X₀ : K.In h₀) (M : Mod K mg base) (kb : ∀ b o, base.get? b = some o → h₀.get? b = some o) (N : News h₀ L s.heap [(x, excObj C t none .none)])
    (hv : m me = some (.ref x)) (KF : KxsFacts B i) (FB : ExcBaseFacts B newId i bmB) (hno : nsIn K cStatics "thirdparty.any" = some none) (hm : ks_superIn K C Dc "__init__" = some (some (.builtin i)))
    (hB : subIn K (.ref C) (.type B) = some true) (hi : excInitIn K C bmB newId = true) (hr : ArgRd (ksEnv q scope L f (.ref cda) cc) L m es us) (hz : us.length ≤ sizeLine) (hsh : (es = [] ∧ us = []) ∨ ∃ a b, backTo pc (starEach es (ksEnv q scope L f (.ref cda) cc)) = (false, a) :: b)
    (hpl : (backTo pc (starEach es (ksEnv q scope L f (.ref cda) cc))).any (·.1) = false)
    (hin : interactive (ksEnv q scope L f (.ref cda) cc) = false) (hsw : swapsWith (.Call (.Attribute (.Call (.Name "super" p0) [] [] p1) "__init__" ap) es [] pc) none pe.line (ksEnv q scope L f (.ref cda) cc) = pure false)
    (hev : eval (.Call (.Attribute (.Call (.Name "super" p0) [] [] p1) "__init__" ap) es [] pc) (ksEnv q scope L f (.ref cda) cc) = (do
      let ov ← attributeBase (.Call (.Name "super" p0) [] [] p1) "__init__" (ksEnv q scope L f (.ref cda) cc) (eval (.Call (.Name "super" p0) [] [] p1) (ksEnv q scope L f (.ref cda) cc))
      standAt ap.atName
      let (g, first) ← holding [ov] (getMethod ov "__init__" pl)
      callWith pc g first (backTo pc (starEach es (ksEnv q scope L f (.ref cda) cc))) []))
    (k : ∀ t' h' tk, Fr h₀ L h' m → News h₀ L h' [(x, excObj C t' none .none)] → Q .next { s with heap := h', toks := tk }) :
    _root_.PySem.wpAt (model prog w) A (.func body (ksEnv q scope L f (.ref cda) cc)) (exec (.Expr (.Call (.Attribute (.Call (.Name "super" p0) [] [] p1) "__init__" ap) es [] pc) pe) (ksEnv q scope L f (.ref cda) cc)) Q E s := by
  refine ks_wpAt_Expr_any ?_ hin hsw
  refine ks_wpAt_MethodCall (pl := pl) ?_ hev
  have I : InstAt s.heap x (excObj C t none .none) C none := ⟨(N (x, excObj C t none .none) (by simp)).1, rfl, rfl, trivial⟩
  refine sup_node S F X₀ M kb N hv I (by decide) fun so h1 F1 N1 l1 => ?_
  have I1 : InstAt h1 x (excObj C t none .none) C none := ⟨(N1 (x, excObj C t none .none) (by simp)).1, rfl, rfl, trivial⟩
  refine kxs_method (s := { s with heap := h1 }) KF F1 X₀ N1 List.mem_cons_self I1 hno hm hB (by decide) fun u h2 F2 N2 l2 => ?_
  have ux : u ≠ x := fun z => by
    have := l2 (x, excObj C t none .none) (by simp)
    rw [z] at this
    exact Nat.lt_irrefl _ this
  have sx : so ≠ x := fun z => by
    have := l1 (x, excObj C t none .none) (by simp)
    rw [z] at this
    exact Nat.lt_irrefl _ this
  refine kxs_callWith (i := i) (x := x) hpl ?_
  have key : wpAny (model prog w) A (evalArgs (.ref u) true (backTo pc (starEach es (ksEnv q scope L f (.ref cda) cc))) []) (fun ar s₁ => ar = ⟨us, []⟩ ∧ s₁ = { s with heap := h2, toks := s.toks + 1 }) E { s with heap := h2, toks := s.toks + 1 } := by
    rcases hsh with ⟨rfl, rfl⟩ | ⟨a, b, hs⟩
    · exact evalArgs_empty ⟨rfl, rfl⟩
    · have := hr (model prog w) A E { s with heap := h2, toks := s.toks + 1 } pc (fun vs s₁ => (⟨vs, []⟩ : Args) = ⟨us, []⟩ ∧ s₁ = { s with heap := h2, toks := s.toks + 1 }) F2.ns ⟨rfl, rfl⟩
      rw [hs] at this ⊢
      exact Calls.evalArgs_plain this
  refine wpAny_mono key (fun ar s₁ hh => ?_) fun _ _ z => z
  obtain ⟨rfl, rfl⟩ := hh
  refine ⟨kxs_at N2 List.mem_cons_self, ?_⟩
  refine kxs_call (nw := fun o => [(u, kxs_mw i x), (so, ks_superObj Dc x C), (x, o)]) F2 X₀ N2 FB hi List.mem_cons_self (.tail ux (.tail sx (.head (by simp)))) hz fun t' h3 F3 N3 l3 => ?_
  exact k t' h3 _ F3 fun p hp => N3 p (by
    rcases List.mem_cons.mp hp with rfl | hp
    · simp
    · cases hp)
/-- what an error class's text says of the stores -/
structure StoD (K : Frag) (C : Addr) : Prop where
  cls : ∃ cd, clsIn K C = some cd ∧ PySem.HandSPX.refsVE cd.mro = true ∧ cd.hasDict = true
  sa : findIn K (.ref C) "__setattr__" = some (some (.builtin "object.__setattr__"))
/-- the error at x, its dict none as yet -/
def Err0 (C x : Addr) (h : Heap) : Prop := ∃ t : Addr, h.get? x = some { cls := .ref C, data := .fields #[.ref t, .none, .none, .none, .bool false, .none] }
/-- .. its dict at dx -/
def ErrD (C x dx : Addr) (mA : Str → Option Value) (h : Heap) : Prop := (∃ t : Addr, h.get? x = some { cls := .ref C, dict := some dx, data := .fields #[.ref t, .none, .none, .none, .bool false, .none] }) ∧ h.Ns1 dx mA
theorem Fr.keepBut {h h' : Heap} (F : Fr h₀ L h m) (hx : h₀.get? x = none) (xL : x ≠ L) (k : ∀ b o, b ≠ x → h.get? b = some o → h'.get? b = some o) : Fr h₀ L h' m := by
  obtain ⟨oL, es, ep, hL, r⟩ := F.ns
  exact ⟨⟨oL, es, ep, k _ _ (Ne.symm xL) hL, r⟩, fun b o e => k b o (fun z => by rw [z, hx] at e; cases e) (F.keep b o e), F.above⟩
theorem store0 {me name y : Str} {p1 p2 p3 pos : Pos} {v : Value} {env : Env} {Q : Flow → Shared → Prop} (D : StoD K C) (F : Fr h₀ L s.heap m) (X₀ : K.In h₀) (hx : h₀.get? x = none) (xL : x ≠ L) (e0 : Err0 C x s.heap)
    (hn : findIn K (.ref C) name = some none) (hL : env.locals = L) (hk : env.scope.kind = .function) (ly : env.kindOf y = some .local) (lm : env.kindOf me = some .local) (vy : m y = some v) (vm : m me = some (.ref x)) (dy : (y == ("__debug__" : Str)) = false) (dm : (me == ("__debug__" : Str)) = false)
    (hsw : swapsWith (.Name y p3) (some (.Attribute (.Name me p1) name p2)) pos.line env = pure false)
    (k : ∀ dx h' tk, Fr h₀ L h' m → h₀.objs.size ≤ dx → h₀.get? dx = none → dx ≠ L → dx ≠ x → ErrD C x dx (fun z => if z = name then some v else none) h' → Q .next { s with heap := h', toks := tk }) :
    wpAny (model prog w) A (exec (.Assign [.Attribute (.Name me p1) name p2] (.Name y p3) pos) env) Q E s := by
  obtain ⟨cd, hcd, hm, hh⟩ := D.cls
  obtain ⟨t, ho⟩ := e0
  have KX := X₀.keeps F.keep
  subst hL
  refine plainObj_wpAny_Assign_Attribute ?_ hsw
  refine wpAny_Name (wpAny_loadName_local hk ly F.ns vy ?_) dy
  refine wpAny_Name (wpAny_loadName_local hk lm F.ns vm ?_) dm
  obtain ⟨hp, g, d, tk, os⟩ := s
  refine set_plain KX (ox := { cls := .ref C, dict := none, data := .fields #[.ref t, .none, .none, .none, .bool false, .none] }) (od := none) ⟨ho, rfl, rfl, trivial⟩ D.sa ?_
  refine PySem.HandSPX.exc_osa KX ho hcd hm hh hn (fun h' tk' dx kk dn dne hx' hns => ?_)
  have hd0 : h₀.get? dx = none := by
    cases z : h₀.get? dx with
    | none => rfl
    | some o => exact absurd (Heap.lt_size (F.keep _ _ z)) (Nat.not_lt.mpr dn)
  obtain ⟨oL, _, _, hoL, _⟩ := F.ns
  have dL : dx ≠ env.locals := fun z => by
    have := Heap.lt_size (show hp.get? env.locals = some oL from hoL)
    rw [← z] at this
    exact absurd this (Nat.not_lt.mpr dn)
  have up : h₀.objs.size ≤ dx := Nat.le_trans F.above (Nat.le_trans (Nat.le_of_lt (Heap.lt_size (show hp.get? env.locals = some oL from hoL))) dn)
  exact k dx h' tk' (Fr.keepBut F hx xL kk) up hd0 dL dne ⟨⟨t, hx'⟩, hns⟩
theorem storeD {me name y : Str} {dx : Addr} {mA : Str → Option Value} {nl : List Str} {p1 p2 p3 pos : Pos} {v : Value} {env : Env} {Q : Flow → Shared → Prop} (D : StoD K C) (F : Fr h₀ L s.heap m) (X₀ : K.In h₀) (hd : h₀.get? dx = none) (dL : dx ≠ L) (dne : dx ≠ x) (e0 : ErrD C x dx mA s.heap) (hw : Within mA nl) (hz : nl.length ≤ 1000)
    (hn : findIn K (.ref C) name = some none) (hL : env.locals = L) (hk : env.scope.kind = .function) (ly : env.kindOf y = some .local) (lm : env.kindOf me = some .local) (vy : m y = some v) (vm : m me = some (.ref x)) (dy : (y == ("__debug__" : Str)) = false) (dm : (me == ("__debug__" : Str)) = false)
    (hsw : swapsWith (.Name y p3) (some (.Attribute (.Name me p1) name p2)) pos.line env = pure false)
    (k : ∀ h' tk, Fr h₀ L h' m → ErrD C x dx (fun z => if z = name then some v else mA z) h' → Q .next { s with heap := h', toks := tk }) :
    wpAny (model prog w) A (exec (.Assign [.Attribute (.Name me p1) name p2] (.Name y p3) pos) env) Q E s := by
  obtain ⟨cd, hcd, hm, hh⟩ := D.cls
  obtain ⟨⟨t, ho⟩, hns⟩ := e0
  have KX := X₀.keeps F.keep
  subst hL
  refine plainObj_wpAny_Assign_Attribute ?_ hsw
  refine wpAny_Name (wpAny_loadName_local hk ly F.ns vy ?_) dy
  refine wpAny_Name (wpAny_loadName_local hk lm F.ns vm ?_) dm
  obtain ⟨hp, g, d, tk, os⟩ := s
  obtain ⟨oD, _, _, hoD, _, _⟩ := hns.count hw
  refine set_plain KX (ox := { cls := .ref C, dict := some dx, data := .fields #[.ref t, .none, .none, .none, .bool false, .none] }) (od := some oD) ⟨ho, rfl, rfl, hoD⟩ D.sa ?_
  refine PySem.OEX.osa_old KX ho hns hw hz hcd hm hh hn (fun h' tk' kk hn' => ?_)
  exact k h' tk' (Fr.keepBut F hd dL kk) ⟨⟨t, kk _ _ (Ne.symm dne) ho⟩, hn'⟩
/-- the frame of such an __init__ -/
theorem init_enter {name qual : Str} {params : Arguments} {body : List Stmt} {scope : Scope} {dV kV doc pm ct oc : Value} {an od : Option Addr} {osl : Array (Option Value)} {args : Args} {binds : List (Str × Value)} {R : Result → Shared → Prop}
    (lk : K.lookup f = some ⟨oc, od, .func (ksFn name qual params body scope dV kV doc pm an (.ref cda) ct cc), osl⟩) (hcd : codeIn K (.ref cda) qual = true) (KX : K.In s.heap) (lim : s.heap.NoLimit) (hroom : A.depth < recursionLimit)
    (hbind : BindsTo s (ksFn name qual params body scope dV kV doc pm an (.ref cda) ct cc) args binds) (hloc : ∀ y ∈ binds, scope.names.lookup y.1 = some .local) (hcell : ∀ y ∈ scope.names, y.2 ≠ .cell)
    (hco : scope.isCoroutine = false) (hgen : scope.isGenerator = false) (hk : scope.kind = .function) (KB : K.In base) (kb : ∀ b o, base.get? b = some o → s.heap.get? b = some o) (hx : base.get? x = none) (e0 : Err0 C x s.heap)
    (h : ∀ h₀ L h₁, Fr h₀ L h₁ (fun y => binds.reverse.lookup y) → K.In h₀ → (∀ b o, base.get? b = some o → h₀.get? b = some o) → h₀.get? x = none → (∀ b o, b ≠ x → s.heap.get? b = some o → h₀.get? b = some o) → h₀.objs.size = s.heap.objs.size → x ≠ L → Err0 C x h₁ →
      _root_.PySem.wpAt (model prog w) (A.deeper (ksEnv qual scope L f (.ref cda) cc)) (.func body (ksEnv qual scope L f (.ref cda) cc)) (execs body (ksEnv qual scope L f (.ref cda) cc))
        (fun fl s' => R (.ok (.ret (match fl with | .ret v => v | _ => .none))) s')
        (fun e s' => wpAny (model prog w) (A.deeper (ksEnv qual scope L f (.ref cda) cc)) (leaving (ksEnv qual scope L f (.ref cda) cc) e) (fun _ s'' => R (.error e) s'') (fun e' s'' => R (.error e') s'') s')
        { s with heap := h₁, toks := s.toks + binds.length }) : codeAny (model prog w) A (.call (.ref f) args) R s := by
  obtain ⟨t, ho⟩ := e0
  have k0 : ∀ b o, b ≠ x → s.heap.get? b = some o → (hideAll s.heap [x]).get? b = some o := fun b o hb e => hideAll_get _ e (by simpa using hb)
  have kb0 : ∀ b o, base.get? b = some o → (hideAll s.heap [x]).get? b = some o := fun b o e => k0 b o (fun z => by rw [z, hx] at e; cases e) (kb b o e)
  refine ks_codeAny_call_defAt (fd := ksFn name qual params body scope dV kV doc pm an (.ref cda) ct cc) (body := body) (binds := binds) hroom (KX _ _ lk) rfl lim (codeRec_of KX hcd) rfl hbind hcell hloc (fun h₁ hns hk₁ => ?_) hco hgen hk
  exact h (hideAll s.heap [x]) s.heap.objs.size h₁ ⟨hns, fun b o e => hk₁ b o (of_hideAll _ e), Nat.le_of_eq (hideAll_size _ _)⟩ (KB.keeps kb0) kb0 (hideAll_none _ (by simp)) k0 (hideAll_size _ _) (Nat.ne_of_lt (Heap.lt_size ho)) ⟨t, hk₁ _ _ ho⟩
end
end DL
end

section
set_option Elab.async false
set_option linter.all false
set_option maxRecDepth 100000
set_option maxHeartbeats 4000000
/-! EB: such an __init__ run as a whole: no, one, two fields. -/
namespace DL
open PySem PySem.W PySem.Calls PyProof.Rows
open L2 hiding St
section
variable {prog : Program} {w : World} {A : Around} {s : Shared} {base : Heap} {mg : Str → Option Value} {K : Frag}
variable {x C Dc f cc cda : Addr} {name qual me : Str} {params : Arguments} {scope : Scope} {dV kV doc pm ct oc : Value} {an od : Option Addr} {osl : Array (Option Value)} {R : Result → Shared → Prop}
/-- the frame's own conditions -/
structure FrmD (K : Frag) (f cc cda : Addr) (name qual : Str) (params : Arguments) (body : List Stmt) (scope : Scope) (dV kV doc pm ct oc : Value) (an od : Option Addr) (osl : Array (Option Value)) : Prop where
  lk : K.lookup f = some ⟨oc, od, .func (ksFn name qual params body scope dV kV doc pm an (.ref cda) ct cc), osl⟩
  cd : codeIn K (.ref cda) qual = true
  cell : ∀ y ∈ scope.names, y.2 ≠ .cell
  co : scope.isCoroutine = false
  gen : scope.isGenerator = false
  kind : scope.kind = .function
/-- the built-in __init__ that is come to -/
structure SupB (K : Frag) (C Dc : Addr) (B i newId : String) (bmB : List Value) : Prop where
  kf : KxsFacts B i
  fb : ExcBaseFacts B newId i bmB
  no : nsIn K cStatics "thirdparty.any" = some none
  along : ks_superIn K C Dc "__init__" = some (some (.builtin i))
  sub : subIn K (.ref C) (.type B) = some true
  ini : excInitIn K C bmB newId = true
variable {B i newId : String} {bmB : List Value}
theorem lost {h h0 : Heap} {x dx : Addr} (k : ∀ b o, b ≠ x → h.get? b = some o → h0.get? b = some o) (e : h0.get? dx = none) (n : dx ≠ x) : h.get? dx = none := by
  cases z : h.get? dx with
  | none => rfl
  | some o => rw [k _ _ n z] at e; cases e
/-- one field -/
theorem init1 {a nm : Str} {p0 p1 ap pc pe q1 q2 q3 q4 q5 : Pos} {pl : Sem Bool} {u : Value}
    (Fm : FrmD K f cc cda name qual params [.Expr (.Call (.Attribute (.Call (.Name "super" p0) [] [] p1) "__init__" ap) [.Name a q1] [] pc) pe, .Assign [.Attribute (.Name me q2) nm q3] (.Name a q4) q5] scope dV kV doc pm ct oc an od osl)
    (S : SupD prog K mg C Dc f cc cda (ksFn name qual params [.Expr (.Call (.Attribute (.Call (.Name "super" p0) [] [] p1) "__init__" ap) [.Name a q1] [] pc) pe, .Assign [.Attribute (.Name me q2) nm q3] (.Name a q4) q5] scope dV kV doc pm an (.ref cda) ct cc) scope me)
    (SB : SupB K C Dc B i newId bmB) (D : StoD K C) (M : L2.Mod K mg base) (kb : ∀ b o, base.get? b = some o → s.heap.get? b = some o) (hx : base.get? x = none) (e0 : Err0 C x s.heap) (hroom : A.depth < recursionLimit)
    (hbind : BindsTo s (ksFn name qual params [.Expr (.Call (.Attribute (.Call (.Name "super" p0) [] [] p1) "__init__" ap) [.Name a q1] [] pc) pe, .Assign [.Attribute (.Name me q2) nm q3] (.Name a q4) q5] scope dV kV doc pm an (.ref cda) ct cc) ⟨[.ref x, u], []⟩ [(me, .ref x), (a, u)])
    (la : scope.names.lookup a = some .local) (ham : a ≠ me) (da : (a == ("__debug__" : Str)) = false) (dm : (me == ("__debug__" : Str)) = false) (hn : findIn K (.ref C) nm = some none)
    (hev : ∀ L, eval (.Call (.Attribute (.Call (.Name "super" p0) [] [] p1) "__init__" ap) [.Name a q1] [] pc) (ksEnv qual scope L f (.ref cda) cc) = (do
      let ov ← attributeBase (.Call (.Name "super" p0) [] [] p1) "__init__" (ksEnv qual scope L f (.ref cda) cc) (eval (.Call (.Name "super" p0) [] [] p1) (ksEnv qual scope L f (.ref cda) cc))
      standAt ap.atName
      let (g, first) ← holding [ov] (getMethod ov "__init__" pl)
      callWith pc g first (backTo pc (starEach [.Name a q1] (ksEnv qual scope L f (.ref cda) cc))) []))
    (hst : ∀ L, starEach [.Name a q1] (ksEnv qual scope L f (.ref cda) cc) = [(false, eval (.Name a q1) (ksEnv qual scope L f (.ref cda) cc))])
    (hin : ∀ L, interactive (ksEnv qual scope L f (.ref cda) cc) = false)
    (hs1 : ∀ L, swapsWith (.Call (.Attribute (.Call (.Name "super" p0) [] [] p1) "__init__" ap) [.Name a q1] [] pc) none pe.line (ksEnv qual scope L f (.ref cda) cc) = pure false)
    (hs2 : ∀ L, swapsWith (.Name a q4) (some (.Attribute (.Name me q2) nm q3)) q5.line (ksEnv qual scope L f (.ref cda) cc) = pure false)
    (k : ∀ dx h' tk, (∀ b o, b ≠ x → s.heap.get? b = some o → h'.get? b = some o) → s.heap.objs.size ≤ dx → dx ≠ x → ErrD C x dx (fun z => if z = nm then some u else none) h' → R (.ok (.ret .none)) { s with heap := h', toks := tk }) :
    codeAny (model prog w) A (.call (.ref f) ⟨[.ref x, u], []⟩) R s := by
  have KX : K.In s.heap := M.kin.keeps kb
  refine init_enter (binds := [(me, .ref x), (a, u)]) Fm.lk Fm.cd KX (M.nolimit.keeps kb) hroom hbind (fun y hy => ?_) Fm.cell Fm.co Fm.gen Fm.kind M.kin kb hx e0 fun h₀ L h₁ F X₀ kb0 hx0 k0 hsz xL e1 => ?_
  · simp only [List.mem_cons, List.not_mem_nil, or_false] at hy
    rcases hy with rfl | rfl
    · exact S.nself
    · exact la
  have vm : ([(me, Value.ref x), (a, u)] : List (Str × Value)).reverse.lookup me = some (.ref x) := by
    have : (me == a) = false := by simpa using fun z => ham z.symm
    simp [List.lookup, this]
  have va : ([(me, Value.ref x), (a, u)] : List (Str × Value)).reverse.lookup a = some u := by simp [List.lookup]
  obtain ⟨t, ho⟩ := e1
  refine ks_wpAt_execs_cons ?_
  refine sup_stmt (s := { s with heap := h₁, toks := s.toks + 2 }) (t := t) S F X₀ M kb0 (fun p hp => by
    rcases List.mem_cons.mp hp with rfl | hp
    · exact ⟨ho, xL, hx0⟩
    · cases hp) vm SB.kf SB.fb SB.no SB.along SB.sub SB.ini (reads_name rfl Fm.kind la va da reads_nil (hst L)) (by show 1 ≤ sizeLine; rw [sizeLine_eq]; omega) (.inr ⟨_, _, by rw [hst L]; rfl⟩) (by rw [hst L]; rfl) (hin L) (hs1 L) (hev L) fun t' h2 tk2 F2 N2 => ?_
  refine wpAt_of_wpAny (wpAny_execs_cons ?_)
  refine store0 (s := { s with heap := h2, toks := tk2 }) D F2 X₀ hx0 xL ⟨t', (N2 _ List.mem_cons_self).1⟩ hn rfl Fm.kind la S.nself va vm da dm (hs2 L) fun dx h3 tk3 F3 up d0 dL dne e3 => ?_
  refine wpAny_execs_nil ?_
  exact k dx h3 tk3 (fun b o hb e => F3.keep _ _ (k0 b o hb e)) (by rw [← hsz]; exact up) dne e3
/-- no field -/
theorem init0 {p0 p1 ap pc pe : Pos} {pl : Sem Bool}
    (Fm : FrmD K f cc cda name qual params [.Expr (.Call (.Attribute (.Call (.Name "super" p0) [] [] p1) "__init__" ap) [] [] pc) pe] scope dV kV doc pm ct oc an od osl)
    (S : SupD prog K mg C Dc f cc cda (ksFn name qual params [.Expr (.Call (.Attribute (.Call (.Name "super" p0) [] [] p1) "__init__" ap) [] [] pc) pe] scope dV kV doc pm an (.ref cda) ct cc) scope me)
    (SB : SupB K C Dc B i newId bmB) (M : L2.Mod K mg base) (kb : ∀ b o, base.get? b = some o → s.heap.get? b = some o) (hx : base.get? x = none) (e0 : Err0 C x s.heap) (hroom : A.depth < recursionLimit)
    (hbind : BindsTo s (ksFn name qual params [.Expr (.Call (.Attribute (.Call (.Name "super" p0) [] [] p1) "__init__" ap) [] [] pc) pe] scope dV kV doc pm an (.ref cda) ct cc) ⟨[.ref x], []⟩ [(me, .ref x)])
    (hev : ∀ L, eval (.Call (.Attribute (.Call (.Name "super" p0) [] [] p1) "__init__" ap) [] [] pc) (ksEnv qual scope L f (.ref cda) cc) = (do
      let ov ← attributeBase (.Call (.Name "super" p0) [] [] p1) "__init__" (ksEnv qual scope L f (.ref cda) cc) (eval (.Call (.Name "super" p0) [] [] p1) (ksEnv qual scope L f (.ref cda) cc))
      standAt ap.atName
      let (g, first) ← holding [ov] (getMethod ov "__init__" pl)
      callWith pc g first (backTo pc (starEach [] (ksEnv qual scope L f (.ref cda) cc))) []))
    (hin : ∀ L, interactive (ksEnv qual scope L f (.ref cda) cc) = false)
    (hs1 : ∀ L, swapsWith (.Call (.Attribute (.Call (.Name "super" p0) [] [] p1) "__init__" ap) [] [] pc) none pe.line (ksEnv qual scope L f (.ref cda) cc) = pure false)
    (k : ∀ h' tk, (∀ b o, b ≠ x → s.heap.get? b = some o → h'.get? b = some o) → Err0 C x h' → R (.ok (.ret .none)) { s with heap := h', toks := tk }) :
    codeAny (model prog w) A (.call (.ref f) ⟨[.ref x], []⟩) R s := by
  have KX : K.In s.heap := M.kin.keeps kb
  refine init_enter (binds := [(me, .ref x)]) Fm.lk Fm.cd KX (M.nolimit.keeps kb) hroom hbind (fun y hy => ?_) Fm.cell Fm.co Fm.gen Fm.kind M.kin kb hx e0 fun h₀ L h₁ F X₀ kb0 hx0 k0 hsz xL e1 => ?_
  · simp only [List.mem_cons, List.not_mem_nil, or_false] at hy
    subst hy
    exact S.nself
  have vm : ([(me, Value.ref x)] : List (Str × Value)).reverse.lookup me = some (.ref x) := by simp [List.lookup]
  obtain ⟨t, ho⟩ := e1
  refine ks_wpAt_execs_cons ?_
  refine sup_stmt (s := { s with heap := h₁, toks := s.toks + 1 }) (t := t) S F X₀ M kb0 (fun p hp => by
    rcases List.mem_cons.mp hp with rfl | hp
    · exact ⟨ho, xL, hx0⟩
    · cases hp) vm SB.kf SB.fb SB.no SB.along SB.sub SB.ini reads_nil (Nat.zero_le _) (.inl ⟨rfl, rfl⟩) rfl (hin L) (hs1 L) (hev L) fun t' h2 tk2 F2 N2 => ?_
  refine wpAt_of_wpAny (wpAny_execs_nil ?_)
  exact k h2 tk2 (fun b o hb e => F2.keep _ _ (k0 b o hb e)) ⟨t', (N2 _ List.mem_cons_self).1⟩
/-- two fields -/
theorem init2 {a b nm nm2 : Str} {p0 p1 ap pc pe q1 q2 q3 q4 q5 r1 r2 r3 r4 r5 : Pos} {pl : Sem Bool} {u v : Value}
    (Fm : FrmD K f cc cda name qual params [.Expr (.Call (.Attribute (.Call (.Name "super" p0) [] [] p1) "__init__" ap) [.Name a q1, .Name b r1] [] pc) pe, .Assign [.Attribute (.Name me q2) nm q3] (.Name a q4) q5, .Assign [.Attribute (.Name me r2) nm2 r3] (.Name b r4) r5] scope dV kV doc pm ct oc an od osl)
    (S : SupD prog K mg C Dc f cc cda (ksFn name qual params [.Expr (.Call (.Attribute (.Call (.Name "super" p0) [] [] p1) "__init__" ap) [.Name a q1, .Name b r1] [] pc) pe, .Assign [.Attribute (.Name me q2) nm q3] (.Name a q4) q5, .Assign [.Attribute (.Name me r2) nm2 r3] (.Name b r4) r5] scope dV kV doc pm an (.ref cda) ct cc) scope me)
    (SB : SupB K C Dc B i newId bmB) (D : StoD K C) (M : L2.Mod K mg base) (kb : ∀ b o, base.get? b = some o → s.heap.get? b = some o) (hx : base.get? x = none) (e0 : Err0 C x s.heap) (hroom : A.depth < recursionLimit)
    (hbind : BindsTo s (ksFn name qual params [.Expr (.Call (.Attribute (.Call (.Name "super" p0) [] [] p1) "__init__" ap) [.Name a q1, .Name b r1] [] pc) pe, .Assign [.Attribute (.Name me q2) nm q3] (.Name a q4) q5, .Assign [.Attribute (.Name me r2) nm2 r3] (.Name b r4) r5] scope dV kV doc pm an (.ref cda) ct cc) ⟨[.ref x, u, v], []⟩ [(me, .ref x), (a, u), (b, v)])
    (la : scope.names.lookup a = some .local) (ham : a ≠ me) (da : (a == ("__debug__" : Str)) = false) (dm : (me == ("__debug__" : Str)) = false) (hn : findIn K (.ref C) nm = some none)
    (lb : scope.names.lookup b = some .local) (hbm : b ≠ me) (hba : b ≠ a) (db : (b == ("__debug__" : Str)) = false) (hn2 : findIn K (.ref C) nm2 = some none)
    (hev : ∀ L, eval (.Call (.Attribute (.Call (.Name "super" p0) [] [] p1) "__init__" ap) [.Name a q1, .Name b r1] [] pc) (ksEnv qual scope L f (.ref cda) cc) = (do
      let ov ← attributeBase (.Call (.Name "super" p0) [] [] p1) "__init__" (ksEnv qual scope L f (.ref cda) cc) (eval (.Call (.Name "super" p0) [] [] p1) (ksEnv qual scope L f (.ref cda) cc))
      standAt ap.atName
      let (g, first) ← holding [ov] (getMethod ov "__init__" pl)
      callWith pc g first (backTo pc (starEach [.Name a q1, .Name b r1] (ksEnv qual scope L f (.ref cda) cc))) []))
    (hst : ∀ L, starEach [.Name a q1, .Name b r1] (ksEnv qual scope L f (.ref cda) cc) = (false, eval (.Name a q1) (ksEnv qual scope L f (.ref cda) cc)) :: starEach [.Name b r1] (ksEnv qual scope L f (.ref cda) cc))
    (hst2 : ∀ L, starEach [.Name b r1] (ksEnv qual scope L f (.ref cda) cc) = [(false, eval (.Name b r1) (ksEnv qual scope L f (.ref cda) cc))])
    (hin : ∀ L, interactive (ksEnv qual scope L f (.ref cda) cc) = false)
    (hs1 : ∀ L, swapsWith (.Call (.Attribute (.Call (.Name "super" p0) [] [] p1) "__init__" ap) [.Name a q1, .Name b r1] [] pc) none pe.line (ksEnv qual scope L f (.ref cda) cc) = pure false)
    (hs2 : ∀ L, swapsWith (.Name a q4) (some (.Attribute (.Name me q2) nm q3)) q5.line (ksEnv qual scope L f (.ref cda) cc) = pure false)
    (hs3 : ∀ L, swapsWith (.Name b r4) (some (.Attribute (.Name me r2) nm2 r3)) r5.line (ksEnv qual scope L f (.ref cda) cc) = pure false)
    (k : ∀ dx h' tk, (∀ b o, b ≠ x → s.heap.get? b = some o → h'.get? b = some o) → s.heap.objs.size ≤ dx → dx ≠ x → ErrD C x dx (fun z => if z = nm2 then some v else if z = nm then some u else none) h' → R (.ok (.ret .none)) { s with heap := h', toks := tk }) :
    codeAny (model prog w) A (.call (.ref f) ⟨[.ref x, u, v], []⟩) R s := by
  have KX : K.In s.heap := M.kin.keeps kb
  refine init_enter (binds := [(me, .ref x), (a, u), (b, v)]) Fm.lk Fm.cd KX (M.nolimit.keeps kb) hroom hbind (fun y hy => ?_) Fm.cell Fm.co Fm.gen Fm.kind M.kin kb hx e0 fun h₀ L h₁ F X₀ kb0 hx0 k0 hsz xL e1 => ?_
  · simp only [List.mem_cons, List.not_mem_nil, or_false] at hy
    rcases hy with rfl | rfl | rfl
    · exact S.nself
    · exact la
    · exact lb
  have vm : ([(me, Value.ref x), (a, u), (b, v)] : List (Str × Value)).reverse.lookup me = some (.ref x) := by
    have z1 : (me == a) = false := by simpa using fun z => ham z.symm
    have z2 : (me == b) = false := by simpa using fun z => hbm z.symm
    simp [List.lookup, z1, z2]
  have va : ([(me, Value.ref x), (a, u), (b, v)] : List (Str × Value)).reverse.lookup a = some u := by
    have z2 : (a == b) = false := by simpa using fun z => hba z.symm
    simp [List.lookup, z2]
  have vb : ([(me, Value.ref x), (a, u), (b, v)] : List (Str × Value)).reverse.lookup b = some v := by simp [List.lookup]
  obtain ⟨t, ho⟩ := e1
  refine ks_wpAt_execs_cons ?_
  refine sup_stmt (s := { s with heap := h₁, toks := s.toks + 3 }) (t := t) S F X₀ M kb0 (fun p hp => by
    rcases List.mem_cons.mp hp with rfl | hp
    · exact ⟨ho, xL, hx0⟩
    · cases hp) vm SB.kf SB.fb SB.no SB.along SB.sub SB.ini (reads_name rfl Fm.kind la va da (reads_name rfl Fm.kind lb vb db reads_nil (hst2 L)) (hst L)) (by show 2 ≤ sizeLine; rw [sizeLine_eq]; omega) (.inr ⟨_, _, by rw [hst L]; rfl⟩) (by rw [hst L, hst2 L]; rfl) (hin L) (hs1 L) (hev L) fun t' h2 tk2 F2 N2 => ?_
  refine wpAt_of_wpAny (wpAny_execs_cons ?_)
  refine store0 (s := { s with heap := h2, toks := tk2 }) D F2 X₀ hx0 xL ⟨t', (N2 _ List.mem_cons_self).1⟩ hn rfl Fm.kind la S.nself va vm da dm (hs2 L) fun dx h3 tk3 F3 up d0 dL dne e3 => ?_
  refine wpAny_execs_cons ?_
  have hw : Within (fun z => if z = nm then some u else none) [nm] := fun z hz => by
    by_cases e : z = nm
    · simp [e]
    · exact absurd (if_neg e) hz
  refine storeD (s := { s with heap := h3, toks := tk3 }) D F3 X₀ d0 dL dne e3 hw (by show 1 ≤ 1000; decide) hn2 rfl Fm.kind lb S.nself vb vm db dm (hs3 L) fun h4 tk4 F4 e4 => ?_
  refine wpAny_execs_nil ?_
  exact k dx h4 tk4 (fun b o hb e => F4.keep _ _ (k0 b o hb e)) (by rw [← hsz]; exact up) dne e4
end
end DL
end

section
set_option Elab.async false
set_option linter.all false
set_option maxRecDepth 100000
set_option maxHeartbeats 4000000
/-! EC: C(e, ..), an error of one's own: what is raised. -/
namespace DL
open PySem PySem.W PySem.Calls PyProof.Rows
open L2 hiding St
/-- the error's dict after its __init__, or none -/
def ErrAt (C x : Addr) (ns : List Str) (us : List Value) (size : Nat) (h' : Heap) : Option Addr → Prop
  | none => ns = [] ∧ Err0 C x h'
  | some dx => size ≤ dx ∧ dx ≠ x ∧ ∃ mA, ErrD C x dx mA h' ∧ ∀ f, mA f = (ns.zip us).lookup f
/-- C's __init__ keeps its arguments under the names ns -/
def InitOk (prog : Program) (w : World) (K : Frag) (mg : Str → Option Value) (base : Heap) (C f : Addr) (ns : List Str) : Prop :=
  ∀ (A : Around) (s : Shared) (x : Addr) (us : List Value) (R : Result → Shared → Prop), us.length = ns.length → L2.Mod K mg base → (∀ b o, base.get? b = some o → s.heap.get? b = some o) → base.get? x = none → Err0 C x s.heap → A.depth < recursionLimit →
    (∀ dx h' tk, (∀ b o, b ≠ x → s.heap.get? b = some o → h'.get? b = some o) → ErrAt C x ns us s.heap.objs.size h' dx → R (.ok (.ret .none)) { s with heap := h', toks := tk }) →
    codeAny (model prog w) A (.call (.ref f) ⟨.ref x :: us, []⟩) R s
section
variable {X : Cx} {e : PySem.Expr} {es : List PySem.Expr} {ta : TA} {x : Str} {p pos : Pos} {C fI : Addr} {ns : List Str}
/-- C(e, ..) -/
def tErr (C : Addr) (ns : List Str) (ta : TA) : L2.St → Hp → XK → Prop := fun σ H Q => ta σ H fun vs H1 => vs.length = ns.length ∧ vs.length ≤ 1000 ∧ ∀ d : Option Addr, (d = none → ns = []) → (∀ a, d = some a → H1 a = none) →
  Q (.ref C) d (match d with | none => H1 | some a => upd H1 a (.xd (ns.zip vs)))
theorem zip_rel : ∀ {ns : List Str} {vs : List V} {us : List Value} (_ : Vals vs us) (f : Str), RelO ((ns.zip vs).lookup f) ((ns.zip us).lookup f)
  | [], _, _, _, _ => True.intro
  | n :: ns, _, _, .nil, _ => True.intro
  | n :: ns, _, _, .cons h r, f => by
    rw [List.zip_cons_cons, List.zip_cons_cons, List.lookup_cons, List.lookup_cons]
    cases f == n with
    | true => exact h
    | false => exact zip_rel r f
theorem err_end {pins : List (Addr × Obj)} {σ : L2.St} {H1 : Hp} {Q : XK} {hp h2 : Heap} {g : Array GenState} {dr : Drawn} {t1 t2 : Nat} {os : OsState} {a : Addr} {vs : List V} {us : List Value} {dx : Option Addr} (T : Raises X (.ref C)) (I1 : L2.Inv X pins σ H1 ⟨hp, g, dr, t1, os⟩)
    (ha : hp.objs.size ≤ a) (k : ∀ b o, hp.get? b = some o → h2.get? b = some o) (r : Vals vs us) (hn : vs.length = ns.length) (E : ErrAt C a ns us hp.objs.size h2 dx)
    (q : ∀ d : Option Addr, (d = none → ns = []) → (∀ a, d = some a → H1 a = none) → Q (.ref C) d (match d with | none => H1 | some a => upd H1 a (.xd (ns.zip vs)))) : MkP X pins σ Q (.ref a) ⟨h2, g, dr, t2, os⟩ := by
  obtain ⟨G, g1, g2⟩ := restrict h2 fun b => decide (b ≠ a)
  have gk : ∀ b, b ≠ a → G.get? b = h2.get? b := fun b hb => g1 b (decide_eq_true hb)
  have ge : G.get? a = none := g2 a (by simp)
  have na : H1 a = none := I1.hok.fresh ha
  have kG : ∀ b o, hp.get? b = some o → G.get? b = some o := fun b o e => by
    rw [gk b (Nat.ne_of_lt (Nat.lt_of_lt_of_le (Heap.lt_size e) ha))]
    exact k b o e
  have kg : ∀ b o, G.get? b = some o → h2.get? b = some o := fun b o e => by
    by_cases hb : b = a
    · rw [hb, ge] at e; cases e
    · rw [← gk b hb]; exact e
  cases dx with
  | none =>
    obtain ⟨hns, t, he⟩ := E
    exact ⟨a, _, _, ⟨G, g, dr, t2, os⟩, H1, .ref C, none, rfl, I1.kept kG, kg, ge, he, ⟨rfl, rfl⟩, rfl, rfl, na, rfl, I1.bare, T, q none (fun _ => hns) (fun _ z => nomatch z)⟩
  | some d =>
    obtain ⟨hd, hda, mA, ⟨⟨t, he⟩, hns⟩, hm⟩ := E
    have nd : H1 d = none := I1.hok.fresh hd
    have ok : ObjOk X.prog X.w (upd H1 d (.xd (ns.zip vs))) G d (.xd (ns.zip vs)) := ⟨mA, hns.at fun o y => (gk d hda).trans y, fun f => by rw [hm]; exact zip_rel r f⟩
    exact ⟨a, _, _, ⟨G, g, dr, t2, os⟩, upd H1 d (.xd (ns.zip vs)), .ref C, some d, rfl, I1.laid kG hd ok, kg, ge, he, ⟨rfl, rfl⟩, rfl, rfl, by rw [upd_ne (Ne.symm hda)]; exact na, rfl, I1.bare, T, q (some d) (fun z => nomatch z) fun b z => by cases z; exact nd⟩
theorem err_call {pins : List (Addr × Obj)} {σ : L2.St} {H1 : Hp} {Q : XK} {s : Shared} {k : Nat} {vs : List V} {us : List Value} (T : OexC X.K C) (iC : findIn X.K (.ref C) "__init__" = some (some (.ref fI))) (tI : typeIn X.K (.ref fI) = some (.type "function"))
    (IO : InitOk X.prog X.w X.K X.mg X.base C fI ns) (hr : Room (k + 1) X.A) (I1 : L2.Inv X pins σ H1 s) (r : Vals vs us) (hn : vs.length = ns.length) (hz : vs.length ≤ 1000)
    (q : ∀ d : Option Addr, (d = none → ns = []) → (∀ a, d = some a → H1 a = none) → Q (.ref C) d (match d with | none => H1 | some a => upd H1 a (.xd (ns.zip vs)))) :
    wpAny (model X.prog X.w) X.A (call (.ref C) us) (MkP X pins σ Q) X.xe s := by
  obtain ⟨nm, qn, N, bs, bm, sn, sub, ab, col, dd, k0, k1, k2, k3, k5, hC, hbm⟩ := T.cls
  obtain ⟨hp, g, dr, tk, os⟩ := s
  have hget : ((hp.push (kdv_tup us)).push (PySem.HandSPX.excO C hp.objs.size)).get? (hp.objs.size + 1) = some (PySem.HandSPX.excO C hp.objs.size) := by heap_get
  have kk : ∀ b o, hp.get? b = some o → ((hp.push (kdv_tup us)).push (PySem.HandSPX.excO C hp.objs.size)).get? b = some o := fun b o z => Heap.get?_push_of_some _ (Heap.get?_push_of_some _ z)
  have hus : us.length ≤ sizeLine := by
    rw [← Paired.length r, sizeLine_eq]
    omega
  have up : hp.objs.size ≤ ((hp.push (kdv_tup us)).push (PySem.HandSPX.excO C hp.objs.size)).objs.size := by
    rw [Heap.size_push, Heap.size_push]
    omega
  have hb : X.base.get? (hp.objs.size + 1) = none := by
    cases z : X.base.get? (hp.objs.size + 1) with
    | none => rfl
    | some o =>
      have : hp.objs.size + 1 < hp.objs.size := Heap.lt_size (I1.bk _ _ z)
      omega
  refine wpAny_call (PySem.HandSPX.call_own PySem.F.excBase_ValueError (fun Y => PySem.HandSPX.refsVE_contains Y bm hbm) (I1.kIn _ _ hC) (looks_findIn I1.kIn iC) (fun me => bind_fn I1.kIn me tI) hus ?_)
  refine IO _ _ (hp.objs.size + 1) us _ (by rw [← Paired.length r, hn]) I1.mod (fun b o z => kk b o (I1.bk b o z)) hb ⟨_, hget⟩ (hr.make C us []).depth fun dx h' tk' hk E => ?_
  refine ⟨rfl, ?_⟩
  show MkP X pins σ Q (.ref (hp.objs.size + 1)) _
  exact err_end (dx := dx) (raises_own T.exC T.tyC) I1 (Nat.le_succ _) (fun b o z => hk b o (Nat.ne_of_lt (Nat.lt_succ_of_lt (Heap.lt_size z))) (kk b o z)) r hn (by
    cases dx with
    | none => exact E
    | some d => exact ⟨Nat.le_trans up E.1, E.2⟩) q
theorem pmk_err {k : Nat} (T : OexC X.K C) (iC : findIn X.K (.ref C) "__init__" = some (some (.ref fI))) (tI : typeIn X.K (.ref fI) = some (.type "function")) (IO : InitOk X.prog X.w X.K X.mg X.base C fI ns) (hr : Room (k + 1) X.A)
    (hg : Gl X x) (hm : X.mg x = some (.ref C)) (ha : PA X (e :: es) ta) (hdb : (x == ("__debug__" : Str)) = false := by decide) (he : starEach (e :: es) X.env = (false, eval e X.env) :: starEach es X.env := by rfl) (hpl : (backTo pos (starEach es X.env)).any (·.1) = false := by rfl) :
    PMk X (.Call (.Name x p) (e :: es) [] pos) (tErr C ns ta) := by
  intro pins s σ H Q I h
  refine wpAny_Call_Name_kw (ld_glob I hg hm ?_ hdb)
  refine callWith_K (h₀ := X.base) I.ok.mod.kin T.kC (thn (ha.run pos pins s σ H _ I h) fun us s1 ⟨vs, H1, I1, r, hn, hz, q⟩ => ⟨I1.kIn, ?_⟩) he hpl
  exact err_call T iC tI IO hr I1 r hn hz q
/-- C() -/
theorem pmk_err0 {k : Nat} (T : OexC X.K C) (iC : findIn X.K (.ref C) "__init__" = some (some (.ref fI))) (tI : typeIn X.K (.ref fI) = some (.type "function")) (IO : InitOk X.prog X.w X.K X.mg X.base C fI []) (hr : Room (k + 1) X.A)
    (hg : Gl X x) (hm : X.mg x = some (.ref C)) (hdb : (x == ("__debug__" : Str)) = false := by decide) : PMk X (.Call (.Name x p) [] [] pos) (tErr C [] tNil) := by
  intro pins s σ H Q I h
  refine wpAny_Call_Name_kw (ld_glob I hg hm ?_ hdb)
  obtain ⟨hn, hz, q⟩ := h
  exact callWith_K0 (s := s) I.kIn T.kC (err_call T iC tI IO hr I .nil hn hz q)
end
end DL
end

section
set_option Elab.async false
set_option linter.all false
set_option maxRecDepth 100000
set_option maxHeartbeats 4000000
/-! ED: raise C(e, ..). -/
namespace DL
open PySem PyProof.Rows
open L2 hiding St
def sRaise (c : Nat) (ns : List Str) (g : LF) : SF := fun sl mu => sbind (g sl mu) sl fun ds mu => if ds.length = ns.length ∧ ds.length ≤ 1000 then .ex c (ns.zip ds) sl mu else .bad
theorem rpF_zip {T : Th} {F : Hp} {al : Nat → Addr} {n : Nat} : ∀ {ns : List Str} {vs : List V} {ds : List D} (_ : RpL T F al n vs ds), RpF T F al n (ns.zip vs) (ns.zip ds)
  | [], _, _, _ => .nil
  | n :: ns, [], _, h => by cases h; exact .nil
  | n :: ns, v :: vs, _, h => by
    cases h with
    | cons h1 h2 => exact .cons h1 (rpF_zip h2)
theorem rpL_len {T : Th} {F : Hp} {al : Nat → Addr} {n : Nat} : ∀ {vs : List V} {ds : List D} (_ : RpL T F al n vs ds), vs.length = ds.length
  | [], _, h => by cases h; rfl
  | v :: vs, _, h => by
    cases h with
    | cons h1 h2 => rw [List.length_cons, List.length_cons, rpL_len h2]
section
variable {X : Cx} {cl : Nat → Addr} {W : WX} {n : En} {es : List PySem.Expr} {e : PySem.Expr} {x : Str} {p pos pos' : Pos} {C fI : Addr} {ns : List Str} {g : LF} {c : Nat}
theorem ds_raise0 (hc : X.calm = true) (tk : Takes X W) (hC : cl c = C) (hm : PMk X e (tErr C ns (tG (Cx.th X cl) W (RLs (Cx.th X cl)) g))) : DS X cl W n (.Raise (some e) none pos) (sRaise c ns g) := PS.imp (ps_raise hc tk hm) fun Z σ H q => by
  obtain ⟨F, al, sl, mu, w, po⟩ := q
  refine seqS w po rfl fun vs ds F1 al1 mu1 H1 x1 w1 r1 po1 => ?_
  subst hC
  have hl := rpL_len r1
  by_cases hz : ds.length = ns.length ∧ ds.length ≤ 1000
  · have po2 : PoS (Cx.th X cl) W n F1 al1 mu1 Z (.ex c (ns.zip ds) sl mu1) := by
      rw [if_pos hz] at po1
      exact po1
    refine ⟨hl.trans hz.1, by rw [hl]; exact hz.2, fun d h0 h1 => ?_⟩
    cases d with
    | none =>
      have : ns = [] := h0 rfl
      subst this
      exact po2 none σ F1 al1 H1 Gr.refl w1 (.inl rfl)
    | some a =>
      have x2 : Ext (Cx.th X cl) F1 al1 mu1 H1 F1 al1 mu1 (upd H1 a (.xd (ns.zip vs))) := Ext.laidH w1.w.toMus (h1 a rfl)
      exact po2 (some a) σ F1 al1 _ Gr.refl (w1.ext x2) (.inr ⟨a, ns.zip vs, rfl, upd_same, rpF_zip r1⟩)
  · rw [if_neg hz] at po1
    exact po1.elim
end
end DL
end

section
set_option Elab.async false
set_option linter.all false
set_option maxRecDepth 100000
set_option maxHeartbeats 4000000
/-! EE: what the three kinds of __init__ keep, as InitOk. -/
namespace DL
open PySem PySem.W PySem.Calls PyProof.Rows
open L2 hiding St
section
variable {prog : Program} {w : World} {base : Heap} {mg : Str → Option Value} {K : Frag}
variable {C Dc f cc cda : Addr} {name qual me : Str} {params : Arguments} {scope : Scope} {dV kV doc pm ct oc : Value} {an od : Option Addr} {osl : Array (Option Value)} {B i newId : String} {bmB : List Value}
theorem init0_ok {p0 p1 ap pc pe : Pos} {pl : Sem Bool}
    (Fm : FrmD K f cc cda name qual params [.Expr (.Call (.Attribute (.Call (.Name "super" p0) [] [] p1) "__init__" ap) [] [] pc) pe] scope dV kV doc pm ct oc an od osl)
    (S : SupD prog K mg C Dc f cc cda (ksFn name qual params [.Expr (.Call (.Attribute (.Call (.Name "super" p0) [] [] p1) "__init__" ap) [] [] pc) pe] scope dV kV doc pm an (.ref cda) ct cc) scope me)
    (SB : SupB K C Dc B i newId bmB)
    (hbind : ∀ (s : Shared) (x : Addr), BindsTo s (ksFn name qual params [.Expr (.Call (.Attribute (.Call (.Name "super" p0) [] [] p1) "__init__" ap) [] [] pc) pe] scope dV kV doc pm an (.ref cda) ct cc) ⟨[.ref x], []⟩ [(me, .ref x)])
    (hev : ∀ L, eval (.Call (.Attribute (.Call (.Name "super" p0) [] [] p1) "__init__" ap) [] [] pc) (ksEnv qual scope L f (.ref cda) cc) = (do
      let ov ← attributeBase (.Call (.Name "super" p0) [] [] p1) "__init__" (ksEnv qual scope L f (.ref cda) cc) (eval (.Call (.Name "super" p0) [] [] p1) (ksEnv qual scope L f (.ref cda) cc))
      standAt ap.atName
      let (g, first) ← holding [ov] (getMethod ov "__init__" pl)
      callWith pc g first (backTo pc (starEach [] (ksEnv qual scope L f (.ref cda) cc))) []))
    (hin : ∀ L, interactive (ksEnv qual scope L f (.ref cda) cc) = false)
    (hs1 : ∀ L, swapsWith (.Call (.Attribute (.Call (.Name "super" p0) [] [] p1) "__init__" ap) [] [] pc) none pe.line (ksEnv qual scope L f (.ref cda) cc) = pure false) :
    InitOk prog w K mg base C f [] := fun A s x us R hl M kb hx e0 hr k => match us, hl with
  | [], _ => init0 Fm S SB M kb hx e0 hr (hbind s x) hev hin hs1 (fun h' tk kk e => k none h' tk kk ⟨rfl, e⟩)
theorem init1_ok {a nm : Str} {p0 p1 ap pc pe q1 q2 q3 q4 q5 : Pos} {pl : Sem Bool}
    (Fm : FrmD K f cc cda name qual params [.Expr (.Call (.Attribute (.Call (.Name "super" p0) [] [] p1) "__init__" ap) [.Name a q1] [] pc) pe, .Assign [.Attribute (.Name me q2) nm q3] (.Name a q4) q5] scope dV kV doc pm ct oc an od osl)
    (S : SupD prog K mg C Dc f cc cda (ksFn name qual params [.Expr (.Call (.Attribute (.Call (.Name "super" p0) [] [] p1) "__init__" ap) [.Name a q1] [] pc) pe, .Assign [.Attribute (.Name me q2) nm q3] (.Name a q4) q5] scope dV kV doc pm an (.ref cda) ct cc) scope me)
    (SB : SupB K C Dc B i newId bmB) (D : StoD K C)
    (hbind : ∀ (s : Shared) (x : Addr) (u : Value), BindsTo s (ksFn name qual params [.Expr (.Call (.Attribute (.Call (.Name "super" p0) [] [] p1) "__init__" ap) [.Name a q1] [] pc) pe, .Assign [.Attribute (.Name me q2) nm q3] (.Name a q4) q5] scope dV kV doc pm an (.ref cda) ct cc) ⟨[.ref x, u], []⟩ [(me, .ref x), (a, u)])
    (la : scope.names.lookup a = some .local) (ham : a ≠ me) (da : (a == ("__debug__" : Str)) = false) (dm : (me == ("__debug__" : Str)) = false) (hn : findIn K (.ref C) nm = some none)
    (hev : ∀ L, eval (.Call (.Attribute (.Call (.Name "super" p0) [] [] p1) "__init__" ap) [.Name a q1] [] pc) (ksEnv qual scope L f (.ref cda) cc) = (do
      let ov ← attributeBase (.Call (.Name "super" p0) [] [] p1) "__init__" (ksEnv qual scope L f (.ref cda) cc) (eval (.Call (.Name "super" p0) [] [] p1) (ksEnv qual scope L f (.ref cda) cc))
      standAt ap.atName
      let (g, first) ← holding [ov] (getMethod ov "__init__" pl)
      callWith pc g first (backTo pc (starEach [.Name a q1] (ksEnv qual scope L f (.ref cda) cc))) []))
    (hst : ∀ L, starEach [.Name a q1] (ksEnv qual scope L f (.ref cda) cc) = [(false, eval (.Name a q1) (ksEnv qual scope L f (.ref cda) cc))])
    (hin : ∀ L, interactive (ksEnv qual scope L f (.ref cda) cc) = false)
    (hs1 : ∀ L, swapsWith (.Call (.Attribute (.Call (.Name "super" p0) [] [] p1) "__init__" ap) [.Name a q1] [] pc) none pe.line (ksEnv qual scope L f (.ref cda) cc) = pure false)
    (hs2 : ∀ L, swapsWith (.Name a q4) (some (.Attribute (.Name me q2) nm q3)) q5.line (ksEnv qual scope L f (.ref cda) cc) = pure false) :
    InitOk prog w K mg base C f [nm] := fun A s x us R hl M kb hx e0 hr k => match us, hl with
  | [u], _ => init1 Fm S SB D M kb hx e0 hr (hbind s x u) la ham da dm hn hev hst hin hs1 hs2 (fun dx h' tk kk up ne ed => k (some dx) h' tk kk ⟨up, ne, _, ed, fun f => by
      show _ = ([(nm, u)] : List (Str × Value)).lookup f
      by_cases e : f = nm
      · subst e; simp [List.lookup]
      · simp [List.lookup, e, show (f == nm) = false by simpa using e]⟩)
theorem init2_ok {a b nm nm2 : Str} {p0 p1 ap pc pe q1 q2 q3 q4 q5 r1 r2 r3 r4 r5 : Pos} {pl : Sem Bool}
    (Fm : FrmD K f cc cda name qual params [.Expr (.Call (.Attribute (.Call (.Name "super" p0) [] [] p1) "__init__" ap) [.Name a q1, .Name b r1] [] pc) pe, .Assign [.Attribute (.Name me q2) nm q3] (.Name a q4) q5, .Assign [.Attribute (.Name me r2) nm2 r3] (.Name b r4) r5] scope dV kV doc pm ct oc an od osl)
    (S : SupD prog K mg C Dc f cc cda (ksFn name qual params [.Expr (.Call (.Attribute (.Call (.Name "super" p0) [] [] p1) "__init__" ap) [.Name a q1, .Name b r1] [] pc) pe, .Assign [.Attribute (.Name me q2) nm q3] (.Name a q4) q5, .Assign [.Attribute (.Name me r2) nm2 r3] (.Name b r4) r5] scope dV kV doc pm an (.ref cda) ct cc) scope me)
    (SB : SupB K C Dc B i newId bmB) (D : StoD K C)
    (hbind : ∀ (s : Shared) (x : Addr) (u v : Value), BindsTo s (ksFn name qual params [.Expr (.Call (.Attribute (.Call (.Name "super" p0) [] [] p1) "__init__" ap) [.Name a q1, .Name b r1] [] pc) pe, .Assign [.Attribute (.Name me q2) nm q3] (.Name a q4) q5, .Assign [.Attribute (.Name me r2) nm2 r3] (.Name b r4) r5] scope dV kV doc pm an (.ref cda) ct cc) ⟨[.ref x, u, v], []⟩ [(me, .ref x), (a, u), (b, v)])
    (la : scope.names.lookup a = some .local) (ham : a ≠ me) (da : (a == ("__debug__" : Str)) = false) (dm : (me == ("__debug__" : Str)) = false) (hn : findIn K (.ref C) nm = some none)
    (lb : scope.names.lookup b = some .local) (hbm : b ≠ me) (hba : b ≠ a) (db : (b == ("__debug__" : Str)) = false) (hnn : nm ≠ nm2) (hn2 : findIn K (.ref C) nm2 = some none)
    (hev : ∀ L, eval (.Call (.Attribute (.Call (.Name "super" p0) [] [] p1) "__init__" ap) [.Name a q1, .Name b r1] [] pc) (ksEnv qual scope L f (.ref cda) cc) = (do
      let ov ← attributeBase (.Call (.Name "super" p0) [] [] p1) "__init__" (ksEnv qual scope L f (.ref cda) cc) (eval (.Call (.Name "super" p0) [] [] p1) (ksEnv qual scope L f (.ref cda) cc))
      standAt ap.atName
      let (g, first) ← holding [ov] (getMethod ov "__init__" pl)
      callWith pc g first (backTo pc (starEach [.Name a q1, .Name b r1] (ksEnv qual scope L f (.ref cda) cc))) []))
    (hst : ∀ L, starEach [.Name a q1, .Name b r1] (ksEnv qual scope L f (.ref cda) cc) = (false, eval (.Name a q1) (ksEnv qual scope L f (.ref cda) cc)) :: starEach [.Name b r1] (ksEnv qual scope L f (.ref cda) cc))
    (hst2 : ∀ L, starEach [.Name b r1] (ksEnv qual scope L f (.ref cda) cc) = [(false, eval (.Name b r1) (ksEnv qual scope L f (.ref cda) cc))])
    (hin : ∀ L, interactive (ksEnv qual scope L f (.ref cda) cc) = false)
    (hs1 : ∀ L, swapsWith (.Call (.Attribute (.Call (.Name "super" p0) [] [] p1) "__init__" ap) [.Name a q1, .Name b r1] [] pc) none pe.line (ksEnv qual scope L f (.ref cda) cc) = pure false)
    (hs2 : ∀ L, swapsWith (.Name a q4) (some (.Attribute (.Name me q2) nm q3)) q5.line (ksEnv qual scope L f (.ref cda) cc) = pure false)
    (hs3 : ∀ L, swapsWith (.Name b r4) (some (.Attribute (.Name me r2) nm2 r3)) r5.line (ksEnv qual scope L f (.ref cda) cc) = pure false) :
    InitOk prog w K mg base C f [nm, nm2] := fun A s x us R hl M kb hx e0 hr k => match us, hl with
  | [u, v], _ => init2 Fm S SB D M kb hx e0 hr (hbind s x u v) la ham da dm hn lb hbm hba db hn2 hev hst hst2 hin hs1 hs2 hs3 (fun dx h' tk kk up ne ed => k (some dx) h' tk kk ⟨up, ne, _, ed, fun f => by
      show _ = ([(nm, u), (nm2, v)] : List (Str × Value)).lookup f
      by_cases e : f = nm
      · subst e
        simp [List.lookup, hnn]
      · by_cases e2 : f = nm2
        · subst e2
          simp [List.lookup, show (f == nm) = false by simpa using e]
        · simp [List.lookup, e, e2, show (f == nm) = false by simpa using e, show (f == nm2) = false by simpa using e2]⟩)
end
end DL
end

section
set_option Elab.async false
set_option linter.all false
set_option maxRecDepth 100000
set_option maxHeartbeats 4000000
/-! EF: enumerate of a tuple, at the level of the hand layer. -/
namespace DL
open PySem PySem.Spec PyProof.Rows L2
theorem meets_enum1 {v : Value} {o : Obj} {H : Heap → Prop} (B : Begins v o H) :
    Meets (Builtin.«enumerate.__new__» ⟨[.type "enumerate", v], []⟩) (fun _ R s => H s.heap ∧
      R (.ok (.ret (.ref (s.heap.push o).objs.size))) { s with heap := (s.heap.push o).push { cls := .type "enumerate", data := .fields #[.none, .bool false, .ref s.heap.objs.size, rawInt 0, .none, .none] } }) :=
  .of_wp fun prog w A R s h => by
    obtain ⟨hp, g, d, tk, os⟩ := s; obtain ⟨h1, h⟩ := h
    have hsub := sub_enumerate
    have q1 : ∀ {A' : Around} {E : Value → Shared → Prop} {Q : Value → Shared → Prop}, Q (.ref hp.objs.size) ⟨hp.push o, g, d, tk, os⟩ → wpAny (model prog w) A' (pyIter v) Q E ⟨hp, g, d, tk, os⟩ :=
      fun q => B.iter prog w _ _ ⟨hp, g, d, tk, os⟩ _ h1 q
    wp_walk using q1
    refine wpAny_stack_any fun st => wpAny_pure ?_
    split
    · rename_i c _ _ _ _ _
      cases (c == Value.type "enumerate")
      · wp_walk using q1
        exact ⟨_, rfl, h⟩
      · wp_walk using q1
        exact ⟨_, rfl, h⟩
    · wp_walk using q1
      exact ⟨_, rfl, h⟩
section
variable {prog : Program} {w : World} {A : Around} {E : Value → Shared → Prop} {s : Shared}
/-- enumerate(v): its two new cells -/
theorem call_enum1 {v : Value} {o : Obj} {H : Heap → Prop} {Q : Value → Shared → Prop} (B : Begins v o H) (h1 : H s.heap)
    (h : ∀ h', IsEnum h' (s.heap.objs.size + 1) s.heap.objs.size 0 .none → h'.get? s.heap.objs.size = some o → h'.objs.size = s.heap.objs.size + 2 →
      (∀ b o, s.heap.get? b = some o → h'.get? b = some o) → Q (.ref (s.heap.objs.size + 1)) { s with heap := h' }) :
    wpAny (model prog w) A (call (.type "enumerate") [v]) Q E s := by
  refine callType_new F.called_enumerate (by decide) (F.typeCall_enumerate_1 _) (F.newCall_enumerate_1 _) (fun obj => F.args_object_init_2 obj _) F.entry_enumerate_new
    (meets_enum1 B) ⟨h1, ?_⟩
  have hz : (s.heap.push o).objs.size = s.heap.objs.size + 1 := Heap.size_push ..
  show _ ∧ _
  rw [hz]
  have he : IsEnum ((s.heap.push o).push { cls := .type "enumerate", data := .fields #[.none, .bool false, .ref s.heap.objs.size, rawInt 0, .none, .none] }) (s.heap.objs.size + 1) s.heap.objs.size 0 .none := by
    have := Heap.get?_push_size (s.heap.push o) (o := { cls := .type "enumerate", data := .fields #[.none, .bool false, .ref s.heap.objs.size, rawInt 0, .none, .none] }) rfl
    rw [hz] at this; exact this
  refine ⟨⟨_, he, rfl⟩, h _ he (Heap.get?_push_of_some _ (Heap.get?_push_size _ B.free)) (by rw [Heap.size_push, hz]) fun b o x => Heap.get?_push_of_some _ (Heap.get?_push_of_some _ x)⟩
theorem enum_endT {e it t : Addr} {i : Nat} {items : Array Value} {old : Value} {Q : Option Value → Shared → Prop} (hh : A.handled = none)
    (he : IsEnum s.heap e it i old) (hit : s.heap.IsTupleIter it t i) (hl : s.heap.IsTuple t items) (hx : items[i]? = none)
    (hQ : ∀ h', Heap.ExtBut it s.heap h' → Q none { s with heap := h' }) : wpAny (model prog w) A (pyNext (.ref e)) Q E s := by
  have hT : s.TypeIs (.ref e) "enumerate" := ⟨_, he, rfl⟩
  unfold pyNext
  refine wpAny_bind (wpAny_attempt (wpAny_callSpecial?_slot (name := Str.ofString "__next__") hT F.slot_enumerate_next
    (wpAny_call_entry F.slot_enumerate_next hT F.entry_enumerate_next ?_ (F.args_enumerate_next_1 _))))
  show wpAny _ _ (field (.ref e) 2 >>= _) _ _ _
  refine wpAny_bind (wpAny_field he rfl (x := .ref it) rfl ?_)
  refine wpAny_bind (wpAny_nextOf_tuple_end hh hit hl hx fun h' x he' hx' => ?_)
  obtain ⟨o, ho, hc⟩ := hx'
  refine wpAny_bind (wpAny_isInstance (T := "StopIteration") (b := true) ⟨o, ho, hc⟩ isSubtype_stop ?_)
  exact wpAny_pure (hQ _ he')
end
/-- the tuple at a as it stands at each turn, each item in a new pair -/
def IteT (K : PySem.W.Frag) (a : Addr) : It :=
  ⟨fun i H => ∃ (xs : List V) (x : V), SqT K H a xs ∧ xs[i]? = some x, fun i H v H' => ∃ T x, v = .ref T ∧ H T = none ∧ H' = upd H T (.tup [.int (i : Nat), x]) ∧ ∀ xs, SqT K H a xs → xs[i]? = some x, fun i H => ∃ xs : List V, SqT K H a xs ∧ xs.length ≤ i⟩
theorem turn_enumT {P : Program} {w : World} {K : PySem.W.Frag} {elts : List Expr} {kk : Nat} {tpos : Pos} (a e it : Addr) :
    Turn P w K (.Tuple elts kk tpos) (IteT K a) [e, it] e (fun i h => (∃ old, IsEnum h e it ((i : Nat) : Int) old) ∧ h.IsTupleIter it a i ∧ e ≠ it ∧ a ≠ it ∧ e ≠ a) where
  mem := by simp
  obj := fun i h st b hb => by
    obtain ⟨⟨old, he⟩, ⟨o, ho, hc, hd⟩, _⟩ := st
    have e' : b = e ∨ b = it := by simpa using hb
    rcases e' with z | z
    · rw [z]; exact ⟨_, he, fun v q => nomatch q⟩
    · rw [z]; exact ⟨o, ho, fun v q => by rw [hd] at q; cases q⟩
  keep := fun i h h' st k => let ⟨⟨old, he⟩, hi, hne⟩ := st; ⟨⟨old, k e (by simp) _ he⟩, hi.at fun o q => k it (by simp) o q, hne⟩
  item := by
    intro X hP hw hK hc i pins s σ H E I hf st hg
    subst hP hw hK
    obtain ⟨⟨old, he⟩, hit, hne, hat, hea⟩ := st
    obtain ⟨xs, x, hq, hx⟩ := hg
    obtain ⟨its, rv, p, hz⟩ := I.tuple hq
    obtain ⟨u, hu, ru⟩ := rv.get hx
    have hel : e < s.heap.objs.size := Heap.lt_size he
    have hil : it < s.heap.objs.size := by obtain ⟨_, q, _⟩ := hit; exact Heap.lt_size q
    have hil' : i < its.length := (List.getElem?_eq_some_iff.mp hu).1
    refine wpAny_pyNext_enum_itemD (Draws.tuple (show X.A.in1.handled = none from I.ok.hd hc) it a hat its.toArray) he ⟨hit, p⟩ (by simpa using hil') hne (by simp; exact ⟨hne, hea⟩) fun x' h' tk hx' ho st' hT hsz hk => ?_
    have ex : x' = u := by
      have : its.toArray[i]? = some u := by simpa using hu
      rw [this] at hx'; exact (Option.some.inj hx').symm
    subst ex
    refine ⟨_, rfl, wpAny_letOwnedTupleGo_enum (s := { s with heap := h', toks := tk + 1 }) ho fun h'' he' sb => ?_⟩
    have hT2 : h''.get? s.heap.objs.size = some { cls := .type "tuple", data := .seq #[.int i tk, x'] } := (sb.2 _ (Nat.ne_of_gt hel)).trans hT
    have new : ObjOk X.prog X.w (upd H s.heap.objs.size (.tup [.int (i : Nat), x])) h'' s.heap.objs.size (.tup [.int (i : Nat), x]) :=
      ⟨by show 2 ≤ sizeLine; decide, [.int i tk, x'], .cons ⟨_, rfl⟩ (.cons ru .nil), ⟨_, hT2, rfl, _, rfl⟩⟩
    have I1 : Inv X pins σ (upd H s.heap.objs.size (.tup [.int (i : Nat), x])) { s with heap := h'', toks := tk + 1 } :=
      I.turnedNew (ch := [e, it]) (fun b ob hb q => (sb.2 b (fun z => hb (by simp [z]))).trans (hk b ob (fun z => hb (by simp [z])) (fun z => hb (by simp [z])) q)) hf (Nat.le_refl _) new
    refine ⟨.ref s.heap.objs.size, _, I1, rfl, ⟨_, x, rfl, I.hok.fresh (Nat.le_refl _), rfl, fun ys hy => by rw [I.tuple_inj hy hq]; exact hx⟩, ⟨⟨x', ?_⟩, st'.1.at fun o q => (sb.2 it (Ne.symm hne)).trans q, hne, hat, hea⟩, fun b hb => ?_⟩
    · have e1 : ((i + 1 : Nat) : Int) = (i : Int) + 1 := by omega
      rw [e1]; exact he'
    · have hb' : b < s.heap.objs.size := by
        have e' : b = e ∨ b = it := by simpa using hb
        rcases e' with z | z
        · rw [z]; exact hel
        · rw [z]; exact hil
      rw [upd_ne (Nat.ne_of_lt hb')]
      exact (hf b hb).1
  done := by
    intro X hP hw hK hc i pins s σ H E I hf st hg
    subst hP hw hK
    obtain ⟨⟨old, he⟩, hit, hne, hat, hea⟩ := st
    obtain ⟨xs, hq, hx⟩ := hg
    obtain ⟨its, rv, p, hz⟩ := I.tuple hq
    obtain ⟨f0, f1, f2, f3, f4, f5⟩ := hf it (by simp)
    have hl := rv.length
    exact enum_endT (I.ok.hd hc) he hit p (by simp; omega) fun h' eb => ⟨rfl, I.turned (t' := s.toks) (fun b o hb q => eb b o hb q) f0 f1 f3 f4 f5⟩
  self := fun A i s Q E st h => let ⟨⟨_, he⟩, _⟩ := st; wpAny_pyIter_enum he h
def iEnumT (K : PySem.W.Frag) (ta : TA) : TI := fun σ H R => ta σ H fun vs H1 => ∃ a xs, vs = [.ref a] ∧ ((SqL K H1 a xs ∧ R (Ite K a) H1) ∨ (SqT K H1 a xs ∧ R (IteT K a) H1))
theorem pi_enumA {X : Cx} {e : Expr} {ta : TA} {p pos tpos : Pos} {elts : List Expr} {kk : Nat} (hg : Gl X "enumerate") (hm : X.mg "enumerate" = none) (ha : PA X [e] ta) (hs : starEach [e] X.env = [(false, eval e X.env)] := by rfl) :
    PI X (.Tuple elts kk tpos) (.Call (.Name "enumerate" p) [e] [] pos) (iEnumT X.K ta) := by
  refine ⟨fun pins s σ H R I h => ?_⟩
  refine Call_ (ld_blt I hg hm boot_enumerate (PyProof.Rows.callWith_type1 (thn (ha.run pos pins s σ H _ I h) fun us s1 ⟨vs, H1, I1, r1, q1⟩ => ?_) hs rfl))
  obtain ⟨a, xs, ex, hq⟩ := q1
  subst ex
  cases r1 with
  | cons r rr =>
    cases rr
    cases r
    have fresh2 : ∀ b, b ∈ [s1.heap.objs.size + 1, s1.heap.objs.size] → FpOk X pins H1 b := fun b hb => by
      have e' : b = s1.heap.objs.size + 1 ∨ b = s1.heap.objs.size := by simpa using hb
      have hle : s1.heap.objs.size ≤ b := by
        rcases e' with z | z
        · rw [z]; exact Nat.le_add_right _ _
        · rw [z]; exact Nat.le_refl _
      exact I1.fpOk hle (I1.hok.fresh hle)
    rcases hq with ⟨hq, q⟩ | ⟨hq, q⟩
    · obtain ⟨its, rv, p', hz⟩ := I1.list hq
      refine call_enumerate_list p'.isList fun h' he hit hsz hk => wpAny_pyIter_enum he ?_
      have I2 : Inv X pins σ H1 { s1 with heap := h' } := I1.kept (t' := s1.toks) hk
      exact ⟨s1.heap.objs.size + 1, [s1.heap.objs.size + 1, s1.heap.objs.size], _, _, H1, rfl, I2, turn_enum a (s1.heap.objs.size + 1) s1.heap.objs.size, ⟨⟨.none, he⟩, hit, Nat.succ_ne_self _⟩, fresh2, q⟩
    · obtain ⟨its, rv, p', hz⟩ := I1.tuple hq
      have lt : a < s1.heap.objs.size := by obtain ⟨o, ho, _⟩ := p'; exact Heap.lt_size ho
      refine call_enum1 (begins_tuple a its.toArray) p' fun h' he hit hsz hk => wpAny_pyIter_enum he ?_
      have I2 : Inv X pins σ H1 { s1 with heap := h' } := I1.kept (t' := s1.toks) hk
      exact ⟨s1.heap.objs.size + 1, [s1.heap.objs.size + 1, s1.heap.objs.size], _, _, H1, rfl, I2, turn_enumT a (s1.heap.objs.size + 1) s1.heap.objs.size, ⟨⟨.none, he⟩, ⟨_, hit, rfl, rfl⟩, Nat.succ_ne_self _, Nat.ne_of_lt lt, Nat.ne_of_gt (Nat.lt_succ_of_lt lt)⟩, fresh2, q⟩
theorem walk_enumT {K : PySem.W.Frag} {a : Addr} {xs : List V} : Walk (IteT K a) xs.length (fun H => SqT K H a xs) (YPair (fun i => some (.int (i : Nat))) (fun i => xs[i]?)) := by
  refine ⟨fun i _ hi q => ⟨xs, xs[i], q, by simp [hi]⟩, fun _ q => ⟨xs, q, Nat.le_refl _⟩, fun i H v H' _ q y => ?_⟩
  obtain ⟨T, x, h1, h2, h3, h4⟩ := y
  exact ⟨T, .int (i : Nat), x, h1, h2, h3, rfl, h4 xs q⟩
theorem walk_zipT {K : PySem.W.Frag} {a b : Addr} {xs ys : List V} {n : Nat} (hn : n = min xs.length ys.length) : Walk (RZ.ItzT K a b) n (fun H => SqT K H a xs ∧ SqT K H b ys) (YPair (fun i => xs[i]?) (fun i => ys[i]?)) := by
  subst hn
  refine ⟨fun i _ hi q => ?_, fun _ q => ⟨xs, ys, q.1, q.2, by omega⟩, fun i H v H' _ q y => ?_⟩
  · have h1 : i < xs.length := by omega
    have h2 : i < ys.length := by omega
    exact ⟨xs, ys, xs[i], ys[i], q.1, q.2, by simp [h1], by simp [h2]⟩
  · obtain ⟨T, x, z, h1, h2, h3, h4, h5⟩ := y
    exact ⟨T, x, z, h1, h2, h3, h4 xs q.1, h5 ys q.2⟩
end DL
end

section
set_option Elab.async false
set_option linter.all false
set_option maxRecDepth 100000
set_option maxHeartbeats 4000000
/-! EG: enumerate, zip, star displays, min and max, three names at once. -/
namespace DL
open PySem L2
def dEnumQ (f : EF) : LF := dBind f fun d _ mu => match d with
  | .lst l => .ok (numD 0 l) mu
  | .tup l => .ok (numD 0 l) mu
  | _ => .bad
def zipD : List D → List D → List D
  | x :: xs, y :: ys => .tup [x, y] :: zipD xs ys
  | _, _ => []
theorem zipD_len : ∀ {l m : List D}, (zipD l m).length = min l.length m.length
  | [], _ => by simp [zipD]
  | _ :: _, [] => by simp [zipD]
  | _ :: l, _ :: m => by
    unfold zipD
    rw [List.length_cons, List.length_cons, List.length_cons, zipD_len]
    omega
theorem zipD_get : ∀ {l m : List D} {i : Nat} {a b : D}, l[i]? = some a → m[i]? = some b → (zipD l m)[i]? = some (.tup [a, b])
  | [], _, _, _, _, h, _ => by simp at h
  | _ :: _, [], _, _, _, _, h => by simp at h
  | x :: l, y :: m, 0, a, b, h1, h2 => by
    simp at h1 h2
    subst h1 h2
    rfl
  | x :: l, y :: m, i + 1, a, b, h1, h2 => by
    unfold zipD
    rw [List.getElem?_cons_succ] at h1 h2 ⊢
    exact zipD_get h1 h2
def seqD : D → Option (Bool × List D)
  | .lst l => some (true, l)
  | .tup l => some (false, l)
  | _ => none
def dZip (fa fb : EF) : LF := dBind fa fun x => dBind fb fun y _ mu => match x, y with
  | .lst l, .lst m => .ok (zipD l m) mu
  | .tup l, .tup m => .ok (zipD l m) mu
  | _, _ => .bad
section
variable {X : Cx} {cl : Nat → Addr} {W : WX} {n : En} {a b c e : PySem.Expr} {es : List PySem.Expr} {f fa fb fc : EF} {g : LF} {pos p1 sp : Pos}
theorem di_enumQ {elts : List PySem.Expr} {kk : Nat} {tpos : Pos} (hg : Gl X "enumerate") (hm : X.mg "enumerate" = none) (h : DE X cl W e f) (hs : starEach [e] X.env = [(false, eval e X.env)] := by rfl) : DI X cl W (.Tuple elts kk tpos) (.Call (.Name "enumerate" p1) [e] [] pos) (dEnumQ f) :=
  PI.imp (pi_enumA hg hm (pa_cons h pa_nil hs) hs) fun σ H R q => by
    obtain ⟨F, al, sl, mu, w, po⟩ := q
    refine seqG back_RI w po rfl fun v d F1 al1 mu1 H1 x1 w1 r1 po1 => ?_
    have key : ∀ {xs : List V} {ds : List D} {J : It}, RpL (Cx.th X cl) F1 al1 mu1.length xs ds → ∀ {G : Hp → Prop}, Walk J xs.length G (YPair (fun i => some (.int (i : Nat))) (fun i => xs[i]?)) →
        (∀ (F' H' : Hp), (∀ a o, F1 a = some o → F' a = some o) → (∀ a o, F' a = some o → H' a = some o) → G H') → RI (Cx.th X cl) H F1 al1 mu1 H1 J (numD 0 ds) := fun {xs ds J} hl {G} wk hG =>
      ⟨G, _, by rw [numD_len, ← RpL.len hl]; exact wk, hG, fun F' al' mu' H' i x H2 g m hi y => by
        obtain ⟨T, u, y', rfl, hT, rfl, e1, e2⟩ := y
        cases e1
        obtain ⟨d, h1, h2⟩ := gr_at g hl e2
        refine ⟨.tup [.int ((0 + i : Nat) : Int), d], _, by rw [numD_get, h1]; rfl, Ext.laidF m hT, .tup upd_same (.cons ?_ (.cons ((Ext.laidF m hT).rp h2) .nil))⟩
        rw [Nat.zero_add]
        exact .int _⟩
    cases r1 with
    | @lst a xs ds ha hl => exact ⟨a, xs, rfl, .inl ⟨SqL.of (w1.sub _ _ ha), Po.here po1 w1.toMus (key hl walk_enum fun F' H' s1 s2 => SqL.of (s2 _ _ (s1 _ _ ha)))⟩⟩
    | @tup a xs ds ha hl => exact ⟨a, xs, rfl, .inr ⟨sqT_mono w1.sub ha, Po.here po1 w1.toMus (key hl walk_enumT fun F' H' s1 s2 => sqT_mono s2 (s1 _ _ ha))⟩⟩
    | _ => exact False.elim po1
theorem di_zip {elts : List PySem.Expr} {kk : Nat} {tpos : Pos} (hg : Gl X "zip") (hm : X.mg "zip" = none) (ha : DE X cl W a fa) (hb : DE X cl W b fb) (hs : starEach [a, b] X.env = (false, eval a X.env) :: starEach [b] X.env := by rfl) (hs2 : starEach [b] X.env = (false, eval b X.env) :: starEach [] X.env := by rfl) (hpl : (backTo pos (starEach [b] X.env)).any (·.1) = false := by rfl) :
    DI X cl W (.Tuple elts kk tpos) (.Call (.Name "zip" p1) [a, b] [] pos) (dZip fa fb) :=
  PI.imp (RZ.pi_zipA hg hm (pa_cons ha (pa_cons hb pa_nil hs2) hs) hs hpl) fun σ H R q => by
    obtain ⟨F, al, sl, mu, w, po⟩ := q
    refine seqG back_RI w po rfl fun v d F1 al1 mu1 H1 x1 w1 r1 po1 => ?_
    refine seqG back_RI w1 po1 rfl fun u e F2 al2 mu2 H2 x2 w2 r2 po2 => ?_
    have r1' := x2.rp r1
    have key : ∀ {xs ys : List V} {ds es : List D} {J : It}, RpL (Cx.th X cl) F2 al2 mu2.length xs ds → RpL (Cx.th X cl) F2 al2 mu2.length ys es → ∀ {G : Hp → Prop}, Walk J (min xs.length ys.length) G (YPair (fun i => xs[i]?) (fun i => ys[i]?)) →
        (∀ (F' H' : Hp), (∀ a o, F2 a = some o → F' a = some o) → (∀ a o, F' a = some o → H' a = some o) → G H') → RI (Cx.th X cl) H1 F2 al2 mu2 H2 J (zipD ds es) := fun {xs ys ds es J} hl hl2 {G} wk hG =>
      ⟨G, _, by rw [zipD_len, ← RpL.len hl, ← RpL.len hl2]; exact wk, hG, fun F' al' mu' H' i x H2 g m hi y => by
        obtain ⟨T, u, y', rfl, hT, rfl, e1, e2⟩ := y
        obtain ⟨d, h1, h2⟩ := gr_at g hl e1
        obtain ⟨d', h3, h4⟩ := gr_at g hl2 e2
        exact ⟨.tup [d, d'], _, zipD_get h1 h3, Ext.laidF m hT, .tup upd_same (.cons ((Ext.laidF m hT).rp h2) (.cons ((Ext.laidF m hT).rp h4) .nil))⟩⟩
    cases r1' with
    | @lst a xs ds ha hl =>
      cases r2 with
      | @lst b ys es hb hl2 => exact ⟨a, b, xs, ys, rfl, .inl ⟨SqL.of (w2.sub _ _ ha), SqL.of (w2.sub _ _ hb), Po.here po2 w2.toMus (key hl hl2 (walk_zip rfl) fun F' H' s1 s2 => ⟨SqL.of (s2 _ _ (s1 _ _ ha)), SqL.of (s2 _ _ (s1 _ _ hb))⟩)⟩⟩
      | _ => exact False.elim po2
    | @tup a xs ds ha hl =>
      cases r2 with
      | @tup b ys es hb hl2 => exact ⟨a, b, xs, ys, rfl, .inr ⟨sqT_mono w2.sub ha, sqT_mono w2.sub hb, Po.here po2 w2.toMus (key hl hl2 (walk_zipT rfl) fun F' H' s1 s2 => ⟨sqT_mono s2 (s1 _ _ ha), sqT_mono s2 (s1 _ _ hb)⟩)⟩⟩
      | _ => exact False.elim po2
    | _ => exact False.elim po2

/-! ### star displays -/
def seqL : D → Option (List D)
  | .lst l => some l
  | .tup l => some l
  | _ => none
def dStar (f : EF) (g : LF) : LF := dBind f fun d sl mu => match seqL d with
  | some l => obind (g sl mu) fun ds mu => .ok (l ++ ds) mu
  | none => .bad
def dTupS (g : LF) : EF := dBind g fun ds _ mu => if sizeOk ds = true then .ok (.tup ds) mu else .bad
def dLstS (g : LF) : NF := dBind g fun ds _ mu => if sizeOk ds = true then .ok (.lst ds) mu else .bad
theorem da_star (ha : DE X cl W a fa) (hr : DAs X cl W es g) (hs : starEach (.Starred a sp :: es) X.env = (true, eval a X.env) :: starEach es X.env := by rfl) : DAs X cl W (.Starred a sp :: es) (dStar fa g) :=
  PA.imp (StX.pa_star ha hr hs) fun σ H Q q => by
    obtain ⟨F, al, sl, mu, w, po⟩ := q
    refine seqG back_RLs w po rfl fun v d F1 al1 mu1 H1 x1 w1 r1 po1 => ?_
    have key : ∀ {p : Addr} {xs : List V} {l : List D}, RpL (Cx.th X cl) F1 al1 mu1.length xs l → Po (Cx.th X cl) W F1 al1 mu1 σ H1 (RLs (Cx.th X cl)) (obind (g sl mu1) fun ds mu => .ok (l ++ ds) mu) Q →
        tG (Cx.th X cl) W (RLs (Cx.th X cl)) g σ H1 fun ys H2 => Q (xs ++ ys) H2 := fun {p xs l} hl po => by
      refine seqG (g := fun ds mu => .ok (l ++ ds) mu) back_RLs w1 po rfl fun us ds F2 al2 mu2 H2 x2 w2 r2 po2 => ?_
      exact Po.here po2 w2.toMus ((x2.rpL hl).append r2)
    cases r1 with
    | @lst p xs l h1 h2 => exact ⟨p, xs, rfl, .inr (SqL.of (w1.sub _ _ h1)), key (p := p) h2 po1⟩
    | @tup p xs l h1 h2 => exact ⟨p, xs, rfl, .inl (sqT_mono w1.sub h1), key (p := p) h2 po1⟩
    | _ => exact False.elim po1
theorem de_tupS {k : Nat} (ha : DAs X cl W es g) : DE X cl W (.Tuple es k pos) (dTupS g) :=
  PE.imp (pe_tup ha) fun σ H Q q => by
    obtain ⟨F, al, sl, mu, w, po⟩ := q
    refine seqG back_RD w po rfl fun vs ds F1 al1 mu1 H1 x1 w1 r1 po1 => ?_
    dsimp only at po1
    split at po1
    · rename_i hz
      refine ⟨by rw [RpL.len r1, sizeLine_eq]; have := of_decide_eq_true hz; omega, fun p hp => ?_⟩
      exact po1 _ _ _ _ (Ext.laidF w1.toMus (o := .tup vs) hp) (.tup upd_same ((Ext.laidF w1.toMus hp).rpL r1))
    · exact False.elim po1
theorem dn_lstS (ha : DAs X cl W es g) : DN X cl W (.List es pos) (dLstS g) :=
  PE.imp (pe_lst ha) fun σ H Q q => by
    obtain ⟨F, al, sl, mu, w, po⟩ := q
    refine seqG back_RN w po rfl fun vs ds F1 al1 mu1 H1 x1 w1 r1 po1 => ?_
    dsimp only at po1
    split at po1
    · rename_i hz
      refine ⟨by rw [RpL.len r1, sizeLine_eq]; have := of_decide_eq_true hz; omega, fun p hp => ?_⟩
      exact po1 _ _ _ _ (Ext.laidH w1.toMus (o := .lst vs) hp) (rn_new (o := .lst vs) (m := .lst ds) w1.toMus hp r1)
    · exact False.elim po1

/-! ### min, max -/
/-- the least -/
def leastI (i : Int) (is : List Int) : Int := is.foldl (fun a b => if b < a then b else a) i
theorem leastI_mem (is : List Int) : ∀ i : Int, leastI i is ∈ i :: is := by
  induction is with
  | nil => intro i; exact List.mem_cons_self
  | cons j is ih =>
    intro i
    show leastI (if j < i then j else i) is ∈ _
    have := ih (if j < i then j else i)
    split at this
    · rename_i h
      rw [if_pos h]
      exact List.mem_cons_of_mem _ this
    · rename_i h
      rw [if_neg h]
      rcases List.mem_cons.mp this with e | e
      · rw [e]; exact List.mem_cons_self
      · exact List.mem_cons_of_mem _ (List.mem_cons_of_mem _ e)
theorem leastI_le (is : List Int) : ∀ i : Int, ∀ j ∈ i :: is, leastI i is ≤ j := by
  induction is with
  | nil => intro i j hj; rw [List.mem_singleton] at hj; subst hj; exact Int.le_refl _
  | cons k is ih =>
    intro i j hj
    show leastI (if k < i then k else i) is ≤ j
    have := ih (if k < i then k else i)
    have h0 := this _ List.mem_cons_self
    rcases List.mem_cons.mp hj with rfl | hj
    · split at h0 <;> rename_i h
      · rw [if_pos h]; omega
      · rw [if_neg h]; omega
    · rcases List.mem_cons.mp hj with rfl | hj
      · split at h0 <;> rename_i h
        · rw [if_pos h]; omega
        · rw [if_neg h]; omega
      · exact this j (List.mem_cons_of_mem _ hj)
theorem leastI_uniq {i m : Int} {is : List Int} (h1 : m ∈ i :: is) (h2 : ∀ y ∈ i :: is, m ≤ y) : m = leastI i is := by
  have a := leastI_le is i m h1
  have b := h2 _ (leastI_mem is i)
  omega
def minLD : D → Option D
  | .lst l => match intsD l with
    | some (i :: is) => some (.int (leastI i is))
    | _ => none
  | _ => none
theorem de_minL (hc : X.calm = true) (hg : Gl X "min") (hm : X.mg "min" = none) (h : DKk X cl W e f) (he : starEach [e] X.env = (false, eval e X.env) :: starEach [] X.env := by rfl) (hpl : (backTo pos (starEach [] X.env)).any (·.1) = false := by rfl) : DE X cl W (.Call (.Name "min" p1) [e] [] pos) (dOp1 minLD f) := by
  refine de_b1 (cr_min hc) (fun F al mu H m x d res t e Q k => ?_) hg hm (by decide +kernel) h (by decide) (by decide) he hpl
  cases d with
  | lst l =>
    obtain ⟨a, xs, rfl, h1, h2⟩ := t
    unfold minLD at e
    dsimp only at e
    split at e
    · rename_i i is hi
      cases e
      have hx := intsD_rp h2 hi
      subst hx
      exact ⟨a, i :: is, rfl, SqL.of h1, Nat.succ_pos _, fun z hz hy => by rw [leastI_uniq hz hy]; exact k _ F H (Ext.refl m) (.int _)⟩
    · cases e
  | _ => cases e
def dOpC (g : D → D → Option D) (fa fb : EF) : EF := dOp2 g fa fb
theorem de_b2 {x : Str} {id : String} {r : List V → Hp → VK → Prop} {g : D → D → Option D} (hc : CallR X (.builtin id) r) (hr : ∀ (F : Hp) (al : Nat → Addr) (mu : Store) (H : Hp), Mus (Cx.th X cl) F al mu H → ∀ (x y : V) (d e res : D), Rp (Cx.th X cl) F al mu.length x d → Rp (Cx.th X cl) F al mu.length y e → g d e = some res → ∀ Q : VK,
      (∀ v F' H', Ext (Cx.th X cl) F al mu H F' al mu H' → Rp (Cx.th X cl) F' al mu.length v res → Q v H') → r [x, y] H Q)
    (hg : Gl X x) (hm : X.mg x = none) (hv : bootBuiltins x = some (.builtin id)) (ha : DE X cl W a fa) (hb : DE X cl W b fb) (hn : x ≠ "__name__" := by decide) (hdb : (x == ("__debug__" : Str)) = false := by decide)
    (he : starEach [a, b] X.env = (false, eval a X.env) :: starEach [b] X.env := by rfl) (he2 : starEach [b] X.env = (false, eval b X.env) :: starEach [] X.env := by rfl) (hpl : (backTo pos (starEach [b] X.env)).any (·.1) = false := by rfl) : DE X cl W (.Call (.Name x p1) [a, b] [] pos) (dOp2 g fa fb) :=
  PE.imp (pe_callB hc hg hm hv (pa_cons ha (pa_cons hb pa_nil he2) he) hn hdb he hpl) fun σ H Q q => by
    obtain ⟨F, al, sl, mu, w, po⟩ := q
    refine seqG back_RD w po rfl fun v d F1 al1 mu1 H1 x1 w1 r1 po1 => ?_
    refine seqG back_RD w1 po1 rfl fun u e F2 al2 mu2 H2 x2 w2 r2 po2 => ?_
    dsimp only at po2
    cases z : g d e with
    | none => rw [z] at po2; exact False.elim po2
    | some res =>
      rw [z] at po2
      exact hr F2 al2 mu2 H2 w2.toMus v u d e res (x2.rp r1) r2 z Q fun v' F' H' x' r' => po2 v' F' al2 H' x' r'
def min2D : D → D → Option D
  | .int i, .int j => some (.int (if j < i then j else i))
  | _, _ => none
def max2D : D → D → Option D
  | .int i, .int j => some (.int (if j > i then j else i))
  | _, _ => none
theorem de_min2 (hc : X.calm = true) (hg : Gl X "min") (hm : X.mg "min" = none) (ha : DE X cl W a fa) (hb : DE X cl W b fb)
    (he : starEach [a, b] X.env = (false, eval a X.env) :: starEach [b] X.env := by rfl) (he2 : starEach [b] X.env = (false, eval b X.env) :: starEach [] X.env := by rfl) (hpl : (backTo pos (starEach [b] X.env)).any (·.1) = false := by rfl) : DE X cl W (.Call (.Name "min" p1) [a, b] [] pos) (dOp2 min2D fa fb) :=
  de_b2 (call_min2 hc) (fun F al mu H m x y d e res rx ry z Q k => by
    cases d with
    | int i =>
      cases e with
      | int j => cases z; cases rx; cases ry; exact ⟨i, j, rfl, k _ F H (Ext.refl m) (.int _)⟩
      | _ => cases z
    | _ => cases z) hg hm (by decide +kernel) ha hb (by decide) (by decide) he he2 hpl
theorem de_max2 (hc : X.calm = true) (hg : Gl X "max") (hm : X.mg "max" = none) (ha : DE X cl W a fa) (hb : DE X cl W b fb)
    (he : starEach [a, b] X.env = (false, eval a X.env) :: starEach [b] X.env := by rfl) (he2 : starEach [b] X.env = (false, eval b X.env) :: starEach [] X.env := by rfl) (hpl : (backTo pos (starEach [b] X.env)).any (·.1) = false := by rfl) : DE X cl W (.Call (.Name "max" p1) [a, b] [] pos) (dOp2 max2D fa fb) :=
  de_b2 (call_max2 hc) (fun F al mu H m x y d e res rx ry z Q k => by
    cases d with
    | int i =>
      cases e with
      | int j => cases z; cases rx; cases ry; exact ⟨i, j, rfl, k _ F H (Ext.refl m) (.int _)⟩
      | _ => cases z
    | _ => cases z) hg hm (by decide +kernel) ha hb (by decide) (by decide) he he2 hpl
/-- a, b, c = x, y, z -/
def sPar3 (i j l : Nat) (fa fb fc : EF) : SF := fun sl mu => sbind (fa sl mu) sl fun d mu => sbind (fb sl mu) sl fun e mu => sbind (fc sl mu) sl fun h mu => .nx (((sl.set i (some (.val d))).set j (some (.val e))).set l (some (.val h))) mu
theorem ds_par3 {i j l : Nat} {x y z : Str} {px py pz pt : Pos} {kt k2 : Nat} {pt2 : Pos} (hc : X.calm = true) (hN : X.N.Nodup) (hi : X.N[i]? = some x) (hj : X.N[j]? = some y) (hl : X.N[l]? = some z) (hij : i ≠ j) (hil : i ≠ l) (hjl : j ≠ l)
    (hx : X.env.scope.names.lookup x = some .local) (hy : X.env.scope.names.lookup y = some .local) (hz : X.env.scope.names.lookup z = some .local) (ha : DE X cl W a fa) (hb : DE X cl W b fb) (hcc : DE X cl W c fc)
    (hst : starEach [a, b, c] X.env = (false, eval a X.env) :: starEach [b, c] X.env := by rfl) (hst2 : starEach [b, c] X.env = (false, eval b X.env) :: starEach [c] X.env := by rfl) (hst3 : starEach [c] X.env = (false, eval c X.env) :: starEach [] X.env := by rfl)
    (hw : swappedStores [.Tuple [.Name x px, .Name y py, .Name z pz] kt pt] (.Tuple [a, b, c] k2 pt2) X.env = pure (some [x, y, z]) := by rfl) (hs : swapsWithSole [.Tuple [.Name x px, .Name y py, .Name z pz] kt pt] (.Tuple [a, b, c] k2 pt2) pos.line X.env = pure false := by rfl) :
    DS X cl W n (.Assign [.Tuple [.Name x px, .Name y py, .Name z pz] kt pt] (.Tuple [a, b, c] k2 pt2) pos) (sPar3 i j l fa fb fc) :=
  PS.imp (L2.ps_par3 hc hN hi hj hl hij hil hjl hx hy hz (pa_cons ha (pa_cons hb (pa_cons hcc pa_nil hst3) hst2) hst) hw hs) fun Z σ H q => by
    obtain ⟨F, al, sl, mu, w, po⟩ := q
    refine seqS w po rfl fun v d F1 al1 mu1 H1 x1 w1 r1 po1 => ?_
    refine seqS w1 po1 rfl fun u e F2 al2 mu2 H2 x2 w2 r2 po2 => ?_
    refine seqS w2 po2 rfl fun t h F3 al3 mu3 H3 x3 w3 r3 po3 => ?_
    exact ⟨v, u, t, rfl, PoS.nx po3 (((w3.setVal (x3.rp (x2.rp r1))).setVal (x3.rp r2)).setVal r3)⟩
end
end DL
end

section
set_option Elab.async false
set_option linter.all false
set_option maxRecDepth 100000
set_option maxHeartbeats 4000000
/-! EH: the facts of own error classes, told by a Hook of their own. -/
namespace DL
open PySem PySem.W PyProof.Rows
/-! ### one error class: its __init__ -/
structure EDef where
  cls : Str
  qual : Str
  params : Arguments
  body : List Stmt
  scope : Scope
  ns : List Str
abbrev FnE : Type := Option (Str × Str × Arguments × FuncBody × Scope × Addr × List Str × Addr)
def iAd (K : Frag) (x : Str) : Addr := He.ma K (He.ga K x) "__init__"
def fnE (K : Frag) (x : Str) : FnE := match K.lookup (iAd K x) with
  | some ⟨_, _, .func fd, _⟩ => some (fd.name, fd.qualname, fd.params, fd.body, fd.scope, fd.globals, fd.closure.map (·.1), fd.builtins)
  | _ => none
def EDef.val (d : EDef) : FnE := some ("__init__", d.qual, d.params, .stmts d.body, d.scope, mainGlobals, ["__class__"], builtinsNs)
/-- the frame's bits: the code, the closure's cell -/
def initB (K : Frag) (d : EDef) (file : Str) : Bool := match K.lookup (iAd K d.cls) with
  | some ⟨_, _, .func fd, _⟩ => (match fd.code, fd.closure with
    | .ref cda, [(_, cc)] => codeIn K (.ref cda) d.qual && (match K.lookup cda with
        | some ⟨_, _, .fields vs, _⟩ => (match (vs[2]? : Option Value) with
          | some (Value.str z _) => file == z
          | _ => false)
        | _ => false) && (match K.lookup cc with
        | some ⟨_, _, .cell (some (.ref a)), _⟩ => a == He.ga K d.cls
        | _ => false) && (match fd.defaults with
        | .none => true
        | _ => false)
    | _, _ => false)
  | _ => false
structure InitF (K : Frag) (d : EDef) (file : Str) : Prop where
  ex : ∃ (cda cc : Addr) (kV doc pm ct oc : Value) (an od : Option Addr) (osl : Array (Option Value)),
    K.lookup (iAd K d.cls) = some ⟨oc, od, .func (ksFn "__init__" d.qual d.params d.body d.scope .none kV doc pm an (.ref cda) ct cc), osl⟩ ∧ codeIn K (.ref cda) d.qual = true ∧
    (∃ ccl cdd vs ccs z tf, K.lookup cda = some ⟨ccl, cdd, .fields vs, ccs⟩ ∧ vs[2]? = some (.str z tf) ∧ (file == z) = true) ∧ ∃ cl cld csl, K.lookup cc = some ⟨cl, cld, .cell (some (.ref (He.ga K d.cls))), csl⟩
theorem initF_of {K : Frag} {d : EDef} {file : Str} (e : fnE K d.cls = d.val) (c : initB K d file = true) : InitF K d file := by
  unfold fnE at e
  unfold initB at c
  cases q : K.lookup (iAd K d.cls) with
  | none => rw [q] at c; cases c
  | some o =>
    obtain ⟨oc, od, dt, osl⟩ := o
    rw [q] at c e
    cases dt with
    | func fd =>
      obtain ⟨n1, n2, n3, n4, n5, n6, n7, n8, n9, n10, n11, n12, n13, n14, n15⟩ := fd
      have e2 : (some (n1, n2, n3, n4, n5, n6, n7.map (·.1), n15) : FnE) = some (("__init__" : Str), d.qual, d.params, FuncBody.stmts d.body, d.scope, mainGlobals, [("__class__" : Str)], builtinsNs) := e
      simp only [Option.some.injEq, Prod.mk.injEq] at e2
      obtain ⟨h1, h2, h3, h4, h5, h6, h7, h8⟩ := e2
      subst h1 h2 h3 h4 h5 h6 h8
      dsimp only at c
      cases n13 with
      | ref cda =>
        obtain ⟨cc, rfl⟩ : ∃ cc, n7 = [(("__class__" : Str), cc)] := by
          cases n7 with
          | nil => cases h7
          | cons p r =>
            cases r with
            | nil =>
              obtain ⟨a, b⟩ := p
              simp at h7
              exact ⟨b, by rw [h7]⟩
            | cons _ _ => simp at h7
        dsimp only at c
        simp only [Bool.and_eq_true] at c
        obtain ⟨⟨⟨c1, c2⟩, c3⟩, c4⟩ := c
        cases n8 with
        | none =>
          refine ⟨cda, cc, n9, n10, n11, n14, oc, n12, od, osl, q, c1, ?_, ?_⟩
          · split at c2
            · rename_i vs _ hv
              split at c2
              · rename_i z _ hz
                exact ⟨_, _, vs, _, z, _, hv, hz, c2⟩
              · cases c2
            · cases c2
          · split at c3
            · rename_i a _ ha
              have : a = He.ga K d.cls := by simpa using c3
              subst this
              exact ⟨_, _, _, ha⟩
            · cases c3
        | _ => cases c4
      | _ => cases c
    | _ => cases c
/-! ### the class -/
def clsB (K : Frag) (C : Addr) : Bool := match K.lookup C with
  | some ⟨.type t, _, .cls cd, sl⟩ => (match cd.mro, sl.toList with
    | .ref C' :: bm, [_, _, _, _, some (.builtin n), _] => t == "type" && C' == C && n == "ValueError.__new__" && !cd.hasDel && cd.hasDict && HandSPX.refsVE bm
    | _, _ => false)
  | _ => false
def oexB (K : Frag) (C : Addr) : Bool := clsB K C && He.eqO (findIn K (.ref C) "__setattr__") (some (some (.builtin "object.__setattr__"))) && decide (subIn K (.ref C) (.type "BaseException") = some true) && decide (typeIn K (.ref C) = some (.type "type")) && keepIn K (.ref C)
theorem oexB_ok {K : Frag} {C : Addr} (h : oexB K C = true) : L2.OexC K C ∧ StoD K C := by
  unfold oexB at h
  simp only [Bool.and_eq_true] at h
  obtain ⟨⟨⟨⟨h1, h2⟩, h3⟩, h4⟩, h5⟩ := h
  have key : ∃ nm q N bs bm sn sub ab col dd k0 k1 k2 k3 k5, K.lookup C = some (excClassObj nm q C N bs bm true sn sub ab col dd k0 k1 k2 k3 k5 "ValueError.__new__") ∧ HandSPX.refsVE bm = true := by
    unfold clsB at h1
    split at h1
    · rename_i t dd cd sl ho
      split at h1
      · rename_i C' bm k0 k1 k2 k3 n k5 hm hs
        simp only [Bool.and_eq_true, beq_iff_eq, Bool.not_eq_true'] at h1
        obtain ⟨⟨⟨⟨⟨rfl, rfl⟩, rfl⟩, hdel⟩, hdict⟩, ht⟩ := h1
        obtain ⟨nm, bs, mro, ns, qn, hd, sn, sub, ab, col, del⟩ := cd
        dsimp only at hm hdel hdict
        subst hm hdel hdict
        have hsl : sl = #[k0, k1, k2, k3, some (.builtin "ValueError.__new__"), k5] := by
          obtain ⟨l⟩ := sl
          simp only at hs
          rw [hs]
        subst hsl
        exact ⟨nm, qn, ns, bs, bm, sn, sub, ab, col, dd, k0, k1, k2, k3, k5, ho, ht⟩
      · cases h1
    · cases h1
  refine ⟨⟨key, He.eqO_ok h2, of_decide_eq_true h3, of_decide_eq_true h4, h5⟩, ?_, He.eqO_ok h2⟩
  obtain ⟨nm, q, N, bs, bm, sn, sub, ab, col, dd, k0, k1, k2, k3, k5, ho, hb⟩ := key
  refine ⟨_, by unfold clsIn; rw [ho], ?_, rfl⟩
  exact hb
/-- the built-in __init__ that super() comes to -/
def supB (K : Frag) (C : Addr) : Bool := decide (nsIn K cStatics "thirdparty.any" = some none) && He.eqO (ks_superIn K C C "__init__") (some (some (.builtin "ValueError.__init__"))) && decide (subIn K (.ref C) (.type "ValueError") = some true) && excInitIn K C He.veBase "ValueError.__new__"
theorem supB_ok {K : Frag} {C : Addr} (h : supB K C = true) : SupB K C C "ValueError" "ValueError.__init__" "ValueError.__new__" He.veBase := by
  unfold supB at h
  simp only [Bool.and_eq_true] at h
  obtain ⟨⟨⟨h1, h2⟩, h3⟩, h4⟩ := h
  exact ⟨kxs_ValueError, F.excBase_ValueError, of_decide_eq_true h1, He.eqO_ok h2, of_decide_eq_true h3, h4⟩
/-- all of one error class -/
def errB (K : Frag) (d : EDef) (file : Str) : Bool := He.eqO (nsIn K mainGlobals d.cls) (some (some (.ref (He.ga K d.cls)))) && oexB K (He.ga K d.cls) && supB K (He.ga K d.cls) && initB K d file && He.eqO (findIn K (.ref (He.ga K d.cls)) "__init__") (some (some (.ref (iAd K d.cls)))) &&
  decide (typeIn K (.ref (iAd K d.cls)) = some (.type "function")) && decide (mroIn K (He.ga K d.cls) (.ref (He.ga K d.cls)) = some true) && (d.ns.all fun n => He.eqO (findIn K (.ref (He.ga K d.cls)) n) (some none))
/-- what a raise asks -/
structure Ge (P : Program) (w : World) (K : Frag) (mg : Str → Option Value) (base : Heap) (cl : Nat → Addr) (x : Str) (c : Nat) (ns : List Str) : Prop where
  ex : ∃ fI : Addr, L2.OexC K (cl c) ∧ findIn K (.ref (cl c)) "__init__" = some (some (.ref fI)) ∧ typeIn K (.ref fI) = some (.type "function") ∧ InitOk P w K mg base (cl c) fI ns ∧ mg x = some (.ref (cl c))
/-! ### the Hook -/
abbrev AlE : Type := He.AlX × List FnE
def asE (g : Addr → Option Obj) (n : Nat) : List Addr := He.asD g n ++ [cStatics]
def obsE (n : Nat) (fa : List He.Fa) (fn : List He.DefD) (es : List EDef) (ex : Frag → Bool) (g : Addr → Option Obj) : AlE :=
  ((He.obsT fa fn [] (He.frT g (asE g n)), ex (He.frT g (asE g n))), es.map fun d => fnE (He.frT g (asE g n)) d.cls)
def valE (fn : List He.DefD) (es : List EDef) (w : World) : AlE := ((He.valT fn [] w, true), es.map EDef.val)
structure SaysE (fa : List He.Fa) (fn : List He.DefD) (es : List EDef) (ex : Frag → Bool) (w : World) (h : Heap) (K : Frag) : Prop where
  t : He.SaysT fa fn [] w K
  more : ex K = true
  er : es.map (fun d => fnE K d.cls) = es.map EDef.val
theorem saysE_of {n : Nat} {fa : List He.Fa} {fn : List He.DefD} {es : List EDef} {ex : Frag → Bool} {w : World} {h : Heap} (e : obsE n fa fn es ex h.get? = valE fn es w) : SaysE fa fn es ex w h (He.frT h.get? (asE h.get? n)) :=
  ⟨congrArg (fun z : AlE => z.1.1) e, congrArg (fun z : AlE => z.1.2) e, congrArg (fun z : AlE => z.2) e⟩
def hookE (n : Nat) (fa : List He.Fa) (fn : List He.DefD) (es : List EDef) (ex : Frag → Bool) : Hook where
  α := AlE
  obs := fun s => obsE n fa fn es ex s.heap.get?
  val := fun w => valE fn es w
  says := fun w h => ∃ K : Frag, K.In h ∧ SaysE fa fn es ex w h K
  of := fun _ _ e => ⟨_, He.frT_in, saysE_of e⟩
  keeps := fun _ _ _ ⟨K, hK, c⟩ k => ⟨K, Frag.In.keeps hK k, ⟨c.t, c.more, c.er⟩⟩
theorem obsE_eq {n : Nat} {fa : List He.Fa} {fn : List He.DefD} {es : List EDef} {ex : Frag → Bool} {g : Addr → Option Obj} {s : Shared} (h : ∀ a, g a = s.heap.get? a) : obsE n fa fn es ex g = (hookE n fa fn es ex).obs s := by
  have e : g = s.heap.get? := funext h
  rw [e] <;> rfl
theorem SaysE.err {fa : List He.Fa} {fn : List He.DefD} {es : List EDef} {ex : Frag → Bool} {w : World} {h : Heap} {K : Frag} (c : SaysE fa fn es ex w h K) (i : Nat) {d : EDef} (hi : es[i]? = some d := by rfl) : fnE K d.cls = d.val := by
  have e2 : (es.map fun d => fnE K d.cls)[i]? = (es.map EDef.val)[i]? := by rw [c.er]
  rw [List.getElem?_map, List.getElem?_map, hi] at e2
  exact Option.some.inj e2
/-! ### the rule of raise -/
section
open L2
variable {X : Cx} {cl : Nat → Addr} {W : WX} {n : En} {e : PySem.Expr} {es : List PySem.Expr} {pos p1 pos' : Pos} {x : Str} {c k : Nat} {ns : List Str} {g : LF}
theorem ds_raise (G : Ge X.prog X.w X.K X.mg X.base cl x c ns) (hc : X.calm = true) (tk : Takes X W) (hr : Room (k + 1) X.A) (hg : Gl X x) (ha : DAs X cl W (e :: es) g)
    (hdb : (x == ("__debug__" : Str)) = false := by decide) (he : starEach (e :: es) X.env = (false, eval e X.env) :: starEach es X.env := by rfl) (hpl : (backTo pos (starEach es X.env)).any (·.1) = false := by rfl) :
    DS X cl W n (.Raise (some (.Call (.Name x p1) (e :: es) [] pos)) none pos') (sRaise c ns g) := by
  obtain ⟨fI, T, iC, tI, IO, hm⟩ := G.ex
  exact ds_raise0 hc tk rfl (pmk_err T iC tI IO hr hg hm ha hdb he hpl)
theorem ds_raiseN (G : Ge X.prog X.w X.K X.mg X.base cl x c []) (hc : X.calm = true) (tk : Takes X W) (hr : Room (k + 1) X.A) (hg : Gl X x) (hdb : (x == ("__debug__" : Str)) = false := by decide) :
    DS X cl W n (.Raise (some (.Call (.Name x p1) [] [] pos)) none pos') (sRaise c [] dNil) := by
  obtain ⟨fI, T, iC, tI, IO, hm⟩ := G.ex
  refine ds_raise0 hc tk rfl ?_
  intro pins s σ H Q I h
  refine pmk_err0 T iC tI IO hr hg hm hdb pins s σ H Q I ?_
  obtain ⟨F, al, sl, mu, w, po⟩ := h
  exact Po.here po w.toMus .nil
end
end DL
end

section
set_option Elab.async false
set_option linter.all false
set_option maxRecDepth 100000
set_option maxHeartbeats 4000000
/-! EI: from the facts of an error class to what its raise asks. -/
namespace DL
open PySem PySem.W PyProof.Rows
section
variable {P : Program} {w : World} {K : Frag} {mg : Str → Option Value} {base : Heap} {cl : Nat → Addr} {c : Nat} {x qual me : Str} {params : Arguments} {scope : Scope}
/-- the scope's bits -/
structure ScE (scope : Scope) (params : Arguments) (me : Str) : Prop where
  cell : ∀ y ∈ scope.names, y.2 ≠ .cell
  co : scope.isCoroutine = false
  gen : scope.isGenerator = false
  kind : scope.kind = .function
  nsup : scope.names.lookup ("super" : Str) = some .globalImplicit
  ncls : scope.names.lookup ("__class__" : Str) = some .free
  nself : scope.names.lookup me = some .local
  par : ∃ ar, (params.posonlyargs ++ params.args).head? = some ar ∧ ar.arg = me
theorem errB_ok {d : EDef} {file : Str} (b : errB K d file = true) : L2.OexC K (He.ga K d.cls) ∧ StoD K (He.ga K d.cls) ∧ SupB K (He.ga K d.cls) (He.ga K d.cls) "ValueError" "ValueError.__init__" "ValueError.__new__" He.veBase ∧ initB K d file = true ∧
    findIn K (.ref (He.ga K d.cls)) "__init__" = some (some (.ref (iAd K d.cls))) ∧ typeIn K (.ref (iAd K d.cls)) = some (.type "function") ∧ mroIn K (He.ga K d.cls) (.ref (He.ga K d.cls)) = some true ∧ (∀ n ∈ d.ns, findIn K (.ref (He.ga K d.cls)) n = some none) ∧ nsIn K mainGlobals d.cls = some (some (.ref (He.ga K d.cls))) := by
  unfold errB at b
  simp only [Bool.and_eq_true] at b
  obtain ⟨⟨⟨⟨⟨⟨⟨b0, b1⟩, b2⟩, b3⟩, b4⟩, b5⟩, b6⟩, b7⟩ := b
  obtain ⟨o1, o2⟩ := oexB_ok b1
  exact ⟨o1, o2, supB_ok b2, b3, He.eqO_ok b4, of_decide_eq_true b5, of_decide_eq_true b6, fun n hn => He.eqO_ok (List.all_eq_true.mp b7 n hn), He.eqO_ok b0⟩
theorem supD_of {d : EDef} {file : Str} {me : Str} {f cc cda : Addr} {kV doc pm ct oc : Value} {an od : Option Addr} {osl : Array (Option Value)} {b : List Stmt} (hfile : P.main.file = file) (SC : ScE scope params me) (hmro : mroIn K (He.ga K x) (.ref (He.ga K x)) = some true) (hsup : mg "super" = none) (htop : (P.main.scope.names.lookup ("super" : Str)).isSome = false) (O : L2.OexC K (He.ga K x))
    (lk : K.lookup f = some ⟨oc, od, .func (ksFn "__init__" qual params b scope .none kV doc pm an (.ref cda) ct cc), osl⟩)
    (hc : ∃ ccl cdd vs ccs z tf, K.lookup cda = some ⟨ccl, cdd, .fields vs, ccs⟩ ∧ vs[2]? = some (.str z tf) ∧ (file == z) = true) (hcell : ∃ cl cld csl, K.lookup cc = some ⟨cl, cld, .cell (some (.ref (He.ga K x))), csl⟩) :
    SupD P K mg (He.ga K x) (He.ga K x) f cc cda (ksFn "__init__" qual params b scope .none kV doc pm an (.ref cda) ct cc) scope me := by
  refine ⟨⟨_, _, _, lk⟩, SC.par, ?_, hcell, ?_, hmro, hsup, SC.nsup, SC.ncls, SC.nself, SC.kind, htop⟩
  · obtain ⟨a1, a2, a3, a4, a5, a6, a7, a8, a9⟩ := hc
    exact ⟨a1, a2, a3, a4, a5, a6, a7, a8, by rw [hfile]; exact a9⟩
  · obtain ⟨nm, q, N, bs, bm, sn, sub, ab, col, dd, k0, k1, k2, k3, k5, ho, hb⟩ := O.cls
    exact ⟨_, by unfold clsIn; rw [ho]⟩
theorem ge0 {p0 p1 ap pc pe : Pos} {pl : Sem Bool} {file : Str} (hfile : P.main.file = file)
    (e : fnE K x = (EDef.mk x qual params [.Expr (.Call (.Attribute (.Call (.Name "super" p0) [] [] p1) "__init__" ap) [] [] pc) pe] scope []).val)
    (b : errB K (EDef.mk x qual params [.Expr (.Call (.Attribute (.Call (.Name "super" p0) [] [] p1) "__init__" ap) [] [] pc) pe] scope []) file = true) (hcl : cl c = He.ga K x) (hmg : mg x = some (.ref (He.ga K x))) (hsup : mg "super" = none) (htop : (P.main.scope.names.lookup ("super" : Str)).isSome = false) (SC : ScE scope params me)
    (hbind : ∀ (kV doc pm ct : Value) (an : Option Addr) (cda cc : Addr) (u : Value), bindArgs (ksFn "__init__" qual params [.Expr (.Call (.Attribute (.Call (.Name "super" p0) [] [] p1) "__init__" ap) [] [] pc) pe] scope .none kV doc pm an (.ref cda) ct cc) ⟨[u], []⟩ = pure [(me, u)])
    (hev : ∀ f cda cc L, eval (.Call (.Attribute (.Call (.Name "super" p0) [] [] p1) "__init__" ap) [] [] pc) (ksEnv qual scope L f (.ref cda) cc) = (do
      let ov ← attributeBase (.Call (.Name "super" p0) [] [] p1) "__init__" (ksEnv qual scope L f (.ref cda) cc) (eval (.Call (.Name "super" p0) [] [] p1) (ksEnv qual scope L f (.ref cda) cc))
      standAt ap.atName
      let (g, first) ← holding [ov] (getMethod ov "__init__" pl)
      callWith pc g first (backTo pc (starEach [] (ksEnv qual scope L f (.ref cda) cc))) []))
    (hin : ∀ f cda cc L, interactive (ksEnv qual scope L f (.ref cda) cc) = false)
    (hs1 : ∀ f cda cc L, swapsWith (.Call (.Attribute (.Call (.Name "super" p0) [] [] p1) "__init__" ap) [] [] pc) none pe.line (ksEnv qual scope L f (.ref cda) cc) = pure false) :
    Ge P w K mg base cl x c [] := by
  obtain ⟨O, D, SB, b3, iC, tI, hmro, hns, _⟩ := errB_ok b
  obtain ⟨cda, cc, kV, doc, pm, ct, oc, an, od, osl, lk, hcd, hc, hcell⟩ := (initF_of e b3).ex
  refine ⟨iAd K x, by rw [hcl]; exact O, by rw [hcl]; exact iC, tI, ?_, by rw [hcl]; exact hmg⟩
  rw [hcl]
  exact init0_ok ⟨lk, hcd, SC.cell, SC.co, SC.gen, SC.kind⟩ (supD_of (d := EDef.mk x qual params [] scope []) hfile SC hmro hsup htop O lk hc hcell) SB (fun s y => BindsTo.of_eq (hbind _ _ _ _ _ _ _ _)) (hev _ _ _) (hin _ _ _) (hs1 _ _ _)
theorem ge1 {a nm : Str} {p0 p1 ap pc pe q1 q2 q3 q4 q5 : Pos} {pl : Sem Bool} {file : Str} (hfile : P.main.file = file)
    (e : fnE K x = (EDef.mk x qual params [.Expr (.Call (.Attribute (.Call (.Name "super" p0) [] [] p1) "__init__" ap) [.Name a q1] [] pc) pe, .Assign [.Attribute (.Name me q2) nm q3] (.Name a q4) q5] scope [nm]).val)
    (b : errB K (EDef.mk x qual params [.Expr (.Call (.Attribute (.Call (.Name "super" p0) [] [] p1) "__init__" ap) [.Name a q1] [] pc) pe, .Assign [.Attribute (.Name me q2) nm q3] (.Name a q4) q5] scope [nm]) file = true) (hcl : cl c = He.ga K x) (hmg : mg x = some (.ref (He.ga K x))) (hsup : mg "super" = none) (htop : (P.main.scope.names.lookup ("super" : Str)).isSome = false) (SC : ScE scope params me)
    (hbind : ∀ (kV doc pm ct : Value) (an : Option Addr) (cda cc : Addr) (u v : Value), bindArgs (ksFn "__init__" qual params [.Expr (.Call (.Attribute (.Call (.Name "super" p0) [] [] p1) "__init__" ap) [.Name a q1] [] pc) pe, .Assign [.Attribute (.Name me q2) nm q3] (.Name a q4) q5] scope .none kV doc pm an (.ref cda) ct cc) ⟨[u, v], []⟩ = pure [(me, u), (a, v)])
    (la : scope.names.lookup a = some .local) (ham : a ≠ me) (da : (a == ("__debug__" : Str)) = false) (dm : (me == ("__debug__" : Str)) = false)
    (hev : ∀ f cda cc L, eval (.Call (.Attribute (.Call (.Name "super" p0) [] [] p1) "__init__" ap) [.Name a q1] [] pc) (ksEnv qual scope L f (.ref cda) cc) = (do
      let ov ← attributeBase (.Call (.Name "super" p0) [] [] p1) "__init__" (ksEnv qual scope L f (.ref cda) cc) (eval (.Call (.Name "super" p0) [] [] p1) (ksEnv qual scope L f (.ref cda) cc))
      standAt ap.atName
      let (g, first) ← holding [ov] (getMethod ov "__init__" pl)
      callWith pc g first (backTo pc (starEach [.Name a q1] (ksEnv qual scope L f (.ref cda) cc))) []))
    (hst : ∀ f cda cc L, starEach [.Name a q1] (ksEnv qual scope L f (.ref cda) cc) = [(false, eval (.Name a q1) (ksEnv qual scope L f (.ref cda) cc))])
    (hin : ∀ f cda cc L, interactive (ksEnv qual scope L f (.ref cda) cc) = false)
    (hs1 : ∀ f cda cc L, swapsWith (.Call (.Attribute (.Call (.Name "super" p0) [] [] p1) "__init__" ap) [.Name a q1] [] pc) none pe.line (ksEnv qual scope L f (.ref cda) cc) = pure false)
    (hs2 : ∀ f cda cc L, swapsWith (.Name a q4) (some (.Attribute (.Name me q2) nm q3)) q5.line (ksEnv qual scope L f (.ref cda) cc) = pure false) :
    Ge P w K mg base cl x c [nm] := by
  obtain ⟨O, D, SB, b3, iC, tI, hmro, hns, _⟩ := errB_ok b
  obtain ⟨cda, cc, kV, doc, pm, ct, oc, an, od, osl, lk, hcd, hc, hcell⟩ := (initF_of e b3).ex
  refine ⟨iAd K x, by rw [hcl]; exact O, by rw [hcl]; exact iC, tI, ?_, by rw [hcl]; exact hmg⟩
  rw [hcl]
  exact init1_ok ⟨lk, hcd, SC.cell, SC.co, SC.gen, SC.kind⟩ (supD_of (d := EDef.mk x qual params [] scope []) hfile SC hmro hsup htop O lk hc hcell) SB D (fun s y u => BindsTo.of_eq (hbind _ _ _ _ _ _ _ _ _)) la ham da dm (hns nm List.mem_cons_self) (hev _ _ _) (hst _ _ _) (hin _ _ _) (hs1 _ _ _) (hs2 _ _ _)
theorem ge2 {a b' nm nm2 : Str} {p0 p1 ap pc pe q1 q2 q3 q4 q5 r1 r2 r3 r4 r5 : Pos} {pl : Sem Bool} {file : Str} (hfile : P.main.file = file)
    (e : fnE K x = (EDef.mk x qual params [.Expr (.Call (.Attribute (.Call (.Name "super" p0) [] [] p1) "__init__" ap) [.Name a q1, .Name b' r1] [] pc) pe, .Assign [.Attribute (.Name me q2) nm q3] (.Name a q4) q5, .Assign [.Attribute (.Name me r2) nm2 r3] (.Name b' r4) r5] scope [nm, nm2]).val)
    (b : errB K (EDef.mk x qual params [.Expr (.Call (.Attribute (.Call (.Name "super" p0) [] [] p1) "__init__" ap) [.Name a q1, .Name b' r1] [] pc) pe, .Assign [.Attribute (.Name me q2) nm q3] (.Name a q4) q5, .Assign [.Attribute (.Name me r2) nm2 r3] (.Name b' r4) r5] scope [nm, nm2]) file = true) (hcl : cl c = He.ga K x) (hmg : mg x = some (.ref (He.ga K x))) (hsup : mg "super" = none) (htop : (P.main.scope.names.lookup ("super" : Str)).isSome = false) (SC : ScE scope params me)
    (hbind : ∀ (kV doc pm ct : Value) (an : Option Addr) (cda cc : Addr) (u v t : Value), bindArgs (ksFn "__init__" qual params [.Expr (.Call (.Attribute (.Call (.Name "super" p0) [] [] p1) "__init__" ap) [.Name a q1, .Name b' r1] [] pc) pe, .Assign [.Attribute (.Name me q2) nm q3] (.Name a q4) q5, .Assign [.Attribute (.Name me r2) nm2 r3] (.Name b' r4) r5] scope .none kV doc pm an (.ref cda) ct cc) ⟨[u, v, t], []⟩ = pure [(me, u), (a, v), (b', t)])
    (la : scope.names.lookup a = some .local) (ham : a ≠ me) (da : (a == ("__debug__" : Str)) = false) (dm : (me == ("__debug__" : Str)) = false)
    (lb : scope.names.lookup b' = some .local) (hbm : b' ≠ me) (hba : b' ≠ a) (db : (b' == ("__debug__" : Str)) = false) (hnn : nm ≠ nm2)
    (hev : ∀ f cda cc L, eval (.Call (.Attribute (.Call (.Name "super" p0) [] [] p1) "__init__" ap) [.Name a q1, .Name b' r1] [] pc) (ksEnv qual scope L f (.ref cda) cc) = (do
      let ov ← attributeBase (.Call (.Name "super" p0) [] [] p1) "__init__" (ksEnv qual scope L f (.ref cda) cc) (eval (.Call (.Name "super" p0) [] [] p1) (ksEnv qual scope L f (.ref cda) cc))
      standAt ap.atName
      let (g, first) ← holding [ov] (getMethod ov "__init__" pl)
      callWith pc g first (backTo pc (starEach [.Name a q1, .Name b' r1] (ksEnv qual scope L f (.ref cda) cc))) []))
    (hst : ∀ f cda cc L, starEach [.Name a q1, .Name b' r1] (ksEnv qual scope L f (.ref cda) cc) = (false, eval (.Name a q1) (ksEnv qual scope L f (.ref cda) cc)) :: starEach [.Name b' r1] (ksEnv qual scope L f (.ref cda) cc))
    (hst2 : ∀ f cda cc L, starEach [.Name b' r1] (ksEnv qual scope L f (.ref cda) cc) = [(false, eval (.Name b' r1) (ksEnv qual scope L f (.ref cda) cc))])
    (hin : ∀ f cda cc L, interactive (ksEnv qual scope L f (.ref cda) cc) = false)
    (hs1 : ∀ f cda cc L, swapsWith (.Call (.Attribute (.Call (.Name "super" p0) [] [] p1) "__init__" ap) [.Name a q1, .Name b' r1] [] pc) none pe.line (ksEnv qual scope L f (.ref cda) cc) = pure false)
    (hs2 : ∀ f cda cc L, swapsWith (.Name a q4) (some (.Attribute (.Name me q2) nm q3)) q5.line (ksEnv qual scope L f (.ref cda) cc) = pure false)
    (hs3 : ∀ f cda cc L, swapsWith (.Name b' r4) (some (.Attribute (.Name me r2) nm2 r3)) r5.line (ksEnv qual scope L f (.ref cda) cc) = pure false) :
    Ge P w K mg base cl x c [nm, nm2] := by
  obtain ⟨O, D, SB, b3, iC, tI, hmro, hns, _⟩ := errB_ok b
  obtain ⟨cda, cc, kV, doc, pm, ct, oc, an, od, osl, lk, hcd, hc, hcell⟩ := (initF_of e b3).ex
  refine ⟨iAd K x, by rw [hcl]; exact O, by rw [hcl]; exact iC, tI, ?_, by rw [hcl]; exact hmg⟩
  rw [hcl]
  exact init2_ok ⟨lk, hcd, SC.cell, SC.co, SC.gen, SC.kind⟩ (supD_of (d := EDef.mk x qual params [] scope []) hfile SC hmro hsup htop O lk hc hcell) SB D (fun s y u v => BindsTo.of_eq (hbind _ _ _ _ _ _ _ _ _ _)) la ham da dm (hns nm List.mem_cons_self) lb hbm hba db hnn (hns nm2 (List.mem_cons_of_mem _ List.mem_cons_self)) (hev _ _ _) (hst _ _ _) (hst2 _ _ _) (hin _ _ _) (hs1 _ _ _) (hs2 _ _ _) (hs3 _ _ _)
end
end DL
end

section
set_option Elab.async false
set_option linter.all false
set_option maxRecDepth 100000
set_option maxHeartbeats 4000000
/-! EJ: list(range(n)); a slot's object frozen ahead of a statement. -/
namespace DL
open PySem L2
def dLstRg (f : EF) : NF := dBind f fun d _ mu => match d with
  | .int j => if (rgOk j && decide (j ≤ 16000000)) = true then .ok (.lst (rangeD 0 j.toNat)) mu else .bad
  | _ => .bad
/-- slot i's object of the store is frozen, then s -/
def sFzO (i : Nat) (s : SF) : SF := fun sl mu => match sl[i]? with
  | some (some (.val (.obj k))) => (match mu[k]? with
    | some (some (.lst l)) => s (sl.set i (some (.val (.lst l)))) (mu.set k none)
    | some (some (.ins c fs)) => s (sl.set i (some (.val (.ins c fs)))) (mu.set k none)
    | _ => .bad)
  | some (some (.val _)) => s sl mu
  | _ => .bad
section
variable {X : Cx} {cl : Nat → Addr} {W : WX} {n : En} {a b c e : PySem.Expr} {st : PySem.Stmt} {s : SF} {es : List PySem.Expr} {f fa fb fc : EF} {g : LF} {pos p1 p2 sp pos2 : Pos}
theorem rgV_rp {T : Th} {F : Hp} {al : Nat → Addr} {n : Nat} {j : Int} : RpL T F al n (rgV 0 j) (rangeD 0 j.toNat) := by
  unfold rgV rangeD
  rw [Int.sub_zero]
  generalize List.range j.toNat = l
  induction l with
  | nil => exact .nil
  | cons i l ih => exact .cons (.int _) ih
theorem dn_listRg (hc : X.calm = true) (hg : Gl X "list") (hm : X.mg "list" = none) (hg2 : Gl X "range") (hm2 : X.mg "range" = none) (ha : DE X cl W a fa)
    (na : starEach [a] X.env = (false, eval a X.env) :: starEach [] X.env := by rfl) (na2 : starEach [.Call (.Name "range" p2) [a] [] pos2] X.env = (false, eval (.Call (.Name "range" p2) [a] [] pos2) X.env) :: starEach [] X.env := by rfl) :
    DN X cl W (.Call (.Name "list" p1) [.Call (.Name "range" p2) [a] [] pos2] [] pos) (dLstRg fa) :=
  PE.imp (pe_listRg hc hg hm (prg_1 hg2 hm2 ha na) na2) fun σ H Q q => by
    obtain ⟨F, al, sl, mu, w, po⟩ := q
    refine seqG back_RN w po rfl fun v d F1 al1 mu1 H1 x1 w1 r1 po1 => ?_
    cases d with
    | int j =>
      cases r1
      dsimp only at po1
      split at po1
      · rename_i h
        rw [Bool.and_eq_true] at h
        have h1 := rgOk_of h.1
        have h2 := of_decide_eq_true h.2
        refine ⟨j, rfl, ⟨by omega, by omega, by omega, by omega, by omega⟩, fun q hq => ?_⟩
        exact po1 _ F1 al1 _ (Ext.laidH w1.toMus hq) (rn_new (o := .lst (rgV 0 j)) (m := .lst _) w1.toMus hq rgV_rp)
      · exact False.elim po1
    | _ => exact False.elim po1
theorem ds_fzO {i : Nat} (h : DS X cl W n st s) : DS X cl W n st (sFzO i s) := PS.imp h fun Z σ H q => by
  obtain ⟨F, al, sl, mu, w, po⟩ := q
  unfold sFzO at po
  have key : ∀ {k : Nat} {m : MO}, sl[i]? = some (some (.val (.obj k))) → mu[k]? = some (some m) → (∀ kvs, m ≠ .dct kvs) → PoS (Cx.th X cl) W n F al mu Z (s (sl.set i (some (.val m.d))) (mu.set k none)) → tS (Cx.th X cl) W n s Z σ H := by
    intro k m hs hk hm po
    obtain ⟨v, h1, h2⟩ := w.w.val i _ hs
    cases h2 with
    | obj lt =>
      obtain ⟨F', x2, r2⟩ := Ext.frzO w.w.toMus hk hm
      have w2 := w.ext x2
      have e : σ.set i (some (.ref (al k))) = σ := by
        apply List.ext_getElem?
        intro j
        by_cases hj : i = j
        · subst hj
          rw [List.getElem?_set_self (List.getElem?_eq_some_iff.mp h1).1, h1]
        · rw [List.getElem?_set_ne hj]
      have w3 := w2.setVal (i := i) r2
      rw [e] at w3
      exact ⟨F', al, _, _, w3, PoS.step x2.gr po⟩
  split at po
  · rename_i k hs
    split at po
    · rename_i l hk
      exact key hs hk (fun _ z => nomatch z) po
    · rename_i c fs hk
      exact key hs hk (fun _ z => nomatch z) po
    · exact False.elim po
  · exact ⟨F, al, sl, mu, w, po⟩
  · exact False.elim po
theorem tNinK {ca : Addr} {ws : List Str} (hq : ∀ H, SqT X.K H ca (ws.map V.str)) {σ : St} {H : Hp} {Q : VK} (q : tG (Cx.th X cl) W (RD (Cx.th X cl)) (dB2v (dIn true fa (dC (.tup (ws.map D.str))))) σ H Q) : tOp (rInP X.K true) (tG (Cx.th X cl) W (RD (Cx.th X cl)) fa) (tC (.ref ca)) σ H Q := by
    obtain ⟨F, al, sl, mu, w, po⟩ := tV2B q
    refine seqG back_RB w po rfl fun v d F1 al1 mu1 H1 x1 w1 r1 po1 => ?_
    unfold dC dBind obind at po1
    dsimp only at po1
    cases z : inD d (.tup (ws.map D.str)) with
    | none => rw [z] at po1; exact False.elim po1
    | some r =>
      rw [z] at po1
      unfold inD at z
      dsimp only at z
      rw [toPL_strs] at z
      split at z
      · rename_i p ps e1 e2
        cases e2
        split at z
        · rename_i hd
          cases z
          exact ⟨p, Rp.dp w1.sub r1 e1, toP_plain e1, ws.map PyData.str, .inr (.tup (hq H1) (dpAll_strs ws)), toPL_plain (toPL_strs ws), hd, Po.here (R := RB) (Q := fun c H' => Q (.bl c) H') po1 w1.toMus rfl⟩
        · cases z
      · cases z
theorem dt_ninK {ca : Addr} {ws : List Str} (hu : X.A.units + 65 < cLine) (ha : DE X cl W a fa) (hb : PE X b (tC (.ref ca))) (hq : ∀ H, SqT X.K H ca (ws.map V.str)) (hm : behindInMarks .NotIn b = false := by rfl) : DT X cl W (.Compare a [.NotIn] [b] pos) (dIn true fa (dC (.tup (ws.map D.str)))) :=
  PT.imp (pt_cmpR (op_ninP hu) ha hb hm) fun σ H Q q => tNinK hq (tB2v q)
end
end DL
end

section
set_option Elab.async false
set_option linter.all false
set_option maxRecDepth 100000
set_option maxHeartbeats 4000000
namespace DL
open PySem
def q__law_pot_1 : NF :=
  (dLc (dItQ (dSl (dVar 0) dNoP (dP (dC (.int 63))))) (.nm 1) [1] dYes (dOp1 absD (dLook (dVar 1))))
def g__law_pot : SF :=
  (sRet (dReg (dLst (dCons (dFrz q__law_pot_1) (dCons (dC (.int 0)) (dCons (dC (.int 20011)) (dCons (dC (.int 0)) dNil)))))))
def f__law_pot : FF := (dFun 2 g__law_pot)

def g__law_draw : SF :=
  (sSeq (sIf (dCmp ltD (dVar 1) (dC (.int 2))) (sRet (dC (.int 0))) sSkip)
  (sSeq (sIf (dCmp gtI (dIx (dVar 0) (dC (.int 3))) (dC (.int 0))) (sSeq (sAsg 3 (dOp2 modD (dOp1 intD (dLook (dIx (dVar 0) (dC (.int 3))))) (dVar 1)))
  (sSeq (sSetI (dVar 0) (dC (.int 3)) (dOp2 divD (dIx (dVar 0) (dC (.int 3))) (dVar 1)))
  (sRet (dVar 3)))) sSkip)
  (sSeq (sAsg 2 (dC (.int 0)))
  (sSeq (sIf (dCmp ltD (dIx (dVar 0) (dC (.int 1))) (dOp1 lenD (dLook (dIx (dVar 0) (dC (.int 0)))))) (sSeq (sAsg 2 (dIx (dIx (dVar 0) (dC (.int 0))) (dIx (dVar 0) (dC (.int 1)))))
  (sSeq (sSetI (dVar 0) (dC (.int 1)) (dOp2 addD (dIx (dVar 0) (dC (.int 1))) (dC (.int 1))))
  (sIf (dCmp geI (dVar 2) (dOp2 powD (dC (.int 10)) (dC (.int 18)))) (sSeq (sSetI (dVar 0) (dC (.int 3)) (dOp2 divD (dVar 2) (dVar 1)))
  (sRet (dOp2 modD (dOp1 intD (dLook (dVar 2))) (dVar 1)))) sSkip))) sSkip)
  (sSeq (sSetI (dVar 0) (dC (.int 2)) (dOp2 modD (dOp1 intD (dLook (dOp2 addD (dOp2 addD (dOp2 mulD (dIx (dVar 0) (dC (.int 2))) (dC (.int 48271))) (dVar 2)) (dC (.int 12345))))) (dC (.int 2147483647))))
  (sRet (dOp2 modD (dOp1 intD (dLook (dOp2 addD (dOp2 divD (dOp2 mulD (dIx (dVar 0) (dC (.int 2))) (dIx (dVar 0) (dC (.int 2)))) (dC (.int 64))) (dOp2 divD (dIx (dVar 0) (dC (.int 2))) (dC (.int 7)))))) (dVar 1))))))))
def f__law_draw : FF := (dFun 4 g__law_draw)

def g__law_pick : SF :=
  (sRet (dIx (dVar 1) (dCall f__law_draw (dCons (dVar 0) (dCons (dOp1 lenD (dLook (dVar 1))) dNil)))))
def f__law_pick : FF := (dFun 2 g__law_pick)

def g_is_number : SF :=
  (sRet (dB2v (dAnd (dIsi .int (dLook (dVar 0))) (dNot (dIsi .bool (dLook (dVar 0)))))))
def f_is_number : FF := (dFun 1 g_is_number)

def g_is_within : SF :=
  (sRet (dB2v (dAnd (dTst (dCall f_is_number (dCons (dVar 0) dNil))) (dChn leI leI (dVar 1) (dVar 0) (dVar 2)))))
def f_is_within : FF := (dFun 3 g_is_within)

def g_is_listed : SF :=
  (sRet (dB2v (dIsi2 .list .tuple (dLook (dVar 0)))))
def f_is_listed : FF := (dFun 1 g_is_listed)

def g_have_no_twice : SF :=
  (sRet (dB2v (dCmp eqD (dOp1 unlikeD (dVar 0)) (dOp1 lenD (dLook (dVar 0))))))
def f_have_no_twice : FF := (dFun 2 g_have_no_twice)

def g_is_name : SF :=
  (sSeq (sIf (dOr (dNot (dIsi .str (dLook (dVar 0)))) (dOr (dNot (dChn leI leI (dC (.int 1)) (dOp1 lenD (dLook (dVar 0))) (dC (.int 8)))) (dCmp neD (dM1 "str" stripD (dVar 0) (dC (.str "abcdefghijklmnopqrstuvwxyz"))) (dC (.str ""))))) (sRet (dC (.bl false))) sSkip)
  (sRet (dB2v (dIn true (dVar 0) (dC (.tup ((["spot", "road", "over"] : List Str).map D.str)))))))
def f_is_name : FF := (dFun 1 g_is_name)

def q_are_spots_1 : NF :=
  (dLc (dItQ (dVar 0)) (.nm 1) [1] dYes (dCall f_is_name (dCons (dVar 1) dNil)))
def g_are_spots : SF :=
  (sSeq (sIf (dOr (dNot (dTst (dCall f_is_listed (dCons (dVar 0) dNil)))) (dNot (dChn leI leI (dC (.int 1)) (dOp1 lenD (dLook (dVar 0))) (dC (.int 9))))) (sRet (dC (.bl false))) sSkip)
  (sRet (dB2v (dAnd (dTst (dOp1 allD (dLook (dFrz q_are_spots_1)))) (dTst (dCall f_have_no_twice (dCons (dVar 0) dNil)))))))
def f_are_spots : FF := (dFun 2 g_are_spots)

def g_is_pair_below : SF :=
  (sSeq (sIf (dOr (dNot (dIsi .tuple (dLook (dVar 0)))) (dOr (dCmp neD (dOp1 lenD (dLook (dVar 0))) (dC (.int 2))) (dNot (dTst (dCall f_is_within (dCons (dIx (dVar 0) (dC (.int 1))) (dCons (dC (.int 1)) (dCons (dOp2 subD (dVar 1) (dC (.int 1))) dNil)))))))) (sRet (dC (.bl false))) sSkip)
  (sRet (dCall f_is_within (dCons (dIx (dVar 0) (dC (.int 0))) (dCons (dC (.int 0)) (dCons (dOp2 subD (dIx (dVar 0) (dC (.int 1))) (dC (.int 1))) dNil))))))
def f_is_pair_below : FF := (dFun 2 g_is_pair_below)

def b_steps_away_1 : SF :=
  (sIf (dIn false (dIx (dVar 4) (dVar 5)) (dLook (dTup (dCons (dVar 6) (dCons (dVar 7) dNil))))) (sSeq (sAsg 8 (dOp2 subD (dOp2 addD (dVar 6) (dVar 7)) (dIx (dVar 4) (dVar 5))))
  (sIf (dIsN (dIx (dVar 3) (dVar 8))) (sSeq (sSetI (dVar 3) (dVar 8) (dOp2 addD (dIx (dVar 3) (dIx (dVar 4) (dVar 5))) (dC (.int 1))))
  (sExpr (dMut appD (dVar 4) (dCons (dVar 8) dNil)))) sSkip)) sSkip)
def b_steps_away_2 : SF :=
  (sSeq (sFor (dItQ (dVar 1)) (.tp [6, 7]) b_steps_away_1)
  (sAug 5 (fun i j => i + j) (dC (.int 1))))
def c_steps_away_1 : BF :=
  (dCmp ltD (dVar 5) (dOp1 lenD (dLook (dVar 4))))
def g_steps_away : SF :=
  (sSeq (sAsg 3 (dReg (dNw2 repD (dFrz (dLst (dCons (dC .non) dNil))) (dVar 0))))
  (sSeq (sSetI (dVar 3) (dVar 2) (dC (.int 0)))
  (sSeq (sAsg 4 (dReg (dLst (dCons (dVar 2) dNil))))
  (sSeq (sAsg 5 (dC (.int 0)))
  (sSeq (sWhl c_steps_away_1 b_steps_away_2 60)
  (sRet (dFz (dVar 3))))))))
def f_steps_away : FF := fGc (dFun 9 g_steps_away)

def q_Web_init_1 : NF :=
  (dLc (dItQ (dVar 2)) (.nm 4) [4] dYes (dCall f_is_pair_below (dCons (dVar 4) (dCons (dOp1 lenD (dLook (dVar 1))) dNil))))
def q_Web_init_2 : NF :=
  (dLc (dRg1 (dOp1 lenD (dLook (dVar 1)))) (.nm 3) [3] dYes (dCall f_steps_away (dCons (dOp1 lenD (dLook (dVar 1))) (dCons (dVar 2) (dCons (dVar 3) dNil)))))
def g_Web_init : SF :=
  (sSeq (sIf (dNot (dTst (dCall f_are_spots (dCons (dVar 1) dNil)))) (sRaise 1001 ["what"] (dCons (dC (.str "spots")) dNil)) sSkip)
  (sSeq (sIf (dOr (dNot (dTst (dCall f_is_listed (dCons (dVar 2) dNil)))) (dNot (dTst (dOp1 allD (dLook (dFrz q_Web_init_1)))))) (sRaise 1001 ["what"] (dCons (dC (.str "roads")) dNil)) sSkip)
  (sSeq (sIf (dNot (dTst (dCall f_have_no_twice (dCons (dVar 2) dNil)))) (sRaise 1001 ["what"] (dCons (dC (.str "roads")) dNil)) sSkip)
  (sSeq (sSetA "spots" (dVar 0) (dOp1 tupleD (dLook (dVar 1))))
  (sSeq (sSetA "roads" (dVar 0) (dOp1 tupleD (dLook (dFrz (dNw1 sortedD (dLook (dVar 2)))))))
  (sSetA "away" (dVar 0) (dFrz q_Web_init_2)))))))
def f_Web_init : FF := (dFun 5 g_Web_init)

def g_Task_init : SF :=
  (sSeq (sIf (dOr (dNot (dIsi .str (dLook (dVar 1)))) (dIn true (dVar 1) (dC (.tup ((["near", "far"] : List Str).map D.str))))) (sRaise 1003 ["what"] (dCons (dC (.str "kind")) dNil)) sSkip)
  (sSeq (sIf (dNot (dTst (dCall f_is_within (dCons (dVar 2) (dCons (dC (.int 0)) (dCons (dC (.int 8)) dNil)))))) (sRaise 1003 ["what"] (dCons (dC (.str "reach")) dNil)) sSkip)
  (sSeq (sIf (dNot (dTst (dCall f_is_within (dCons (dVar 3) (dCons (dC (.int 1)) (dCons (dC (.int 3)) dNil)))))) (sRaise 1003 ["what"] (dCons (dC (.str "fires")) dNil)) sSkip)
  (sSeq (sIf (dNot (dTst (dCall f_is_within (dCons (dVar 4) (dCons (dC (.int 0)) (dCons (dC (.int 3)) dNil)))))) (sRaise 1003 ["what"] (dCons (dC (.str "broken")) dNil)) sSkip)
  (sSeq (sIf (dNot (dTst (dCall f_is_within (dCons (dVar 5) (dCons (dC (.int 0)) (dCons (dC (.int 3)) dNil)))))) (sRaise 1003 ["what"] (dCons (dC (.str "lying")) dNil)) sSkip)
  (sSeq (sSetA "kind" (dVar 0) (dVar 1))
  (sSeq (sSetA "reach" (dVar 0) (dVar 2))
  (sSeq (sSetA "fires" (dVar 0) (dVar 3))
  (sSeq (sSetA "broken" (dVar 0) (dVar 4))
  (sSetA "lying" (dVar 0) (dVar 5)))))))))))
def f_Task_init : FF := (dFun 6 g_Task_init)

def q__law_mixed_1 : NF :=
  (dLc (dRg1 (dOp1 lenD (dLook (dVar 1)))) (.nm 3) [3] dYes (dMut popD (dVar 2) (dCons (dCall f__law_draw (dCons (dVar 0) (dCons (dOp1 lenD (dLook (dVar 2))) dNil))) dNil)))
def g__law_mixed : SF :=
  (sSeq (sAsg 2 (dReg (dNw1 listD (dLook (dVar 1)))))
  (sRet (dFrz q__law_mixed_1)))
def f__law_mixed : FF := fGc (dFun 4 g__law_mixed)

def q__law_same_1 (fself : FF) : NF :=
  (dLc (dRg1 (dOp1 lenD (dLook (dVar 1)))) (.nm 2) [2] (dNot (dTst (dCall fself (dCons (dIx (dVar 0) (dVar 2)) (dCons (dIx (dVar 1) (dVar 2)) dNil))))) (dVar 2))
def g__law_same (fself : FF) : SF :=
  (sSeq (sIf (dOr (dIsi .tuple (dLook (dVar 1))) (dIsi .list (dLook (dVar 1)))) (sSeq (sIf (dOr (dCmp neD (dB2v (dIsi .tuple (dLook (dVar 1)))) (dB2v (dIsi .tuple (dLook (dVar 0))))) (dCmp neD (dB2v (dIsi .list (dLook (dVar 1)))) (dB2v (dIsi .list (dLook (dVar 0)))))) (sRet (dC (.bl false))) sSkip)
  (sSeq (sIf (dCmp neD (dOp1 lenD (dLook (dVar 0))) (dOp1 lenD (dLook (dVar 1)))) (sRet (dC (.bl false))) sSkip)
  (sRet (dB2v (dCmp eqD (dFrz (q__law_same_1 fself)) (dFrz (dLst dNil))))))) sSkip)
  (sSeq (sIf (dIsN (dVar 1)) (sRet (dB2v (dIsN (dVar 0)))) sSkip)
  (sSeq (sIf (dIsi .str (dLook (dVar 1))) (sRet (dB2v (dAnd (dIsi .str (dLook (dVar 0))) (dCmp eqD (dVar 0) (dVar 1))))) sSkip)
  (sRet (dB2v (dAnd (dIsi .int (dLook (dVar 0))) (dAnd (dCmp eqD (dB2v (dIsi .bool (dLook (dVar 0)))) (dB2v (dIsi .bool (dLook (dVar 1))))) (dCmp eqD (dVar 0) (dVar 1)))))))))
def f__law_same_at : Nat → FF
  | 0 => fun _ _ => .bad
  | n + 1 => (dFun 3 (g__law_same (f__law_same_at n)))
abbrev f__law_same : FF := f__law_same_at 6

def q__law_pairs_1 : NF :=
  (dLc (dRg1 (dVar 2)) (.nm 3) [3] dYes (dTup (dCons (dVar 3) (dCons (dVar 2) dNil))))
def b__law_pairs_1 : SF :=
  (sAsg 1 (dOp2 addD (dVar 1) (dFrz q__law_pairs_1)))
def g__law_pairs : SF :=
  (sSeq (sAsg 1 (dFrz (dLst dNil)))
  (sSeq (sFor (dRg1 (dVar 0)) (.nm 2) b__law_pairs_1)
  (sRet (dVar 1))))
def f__law_pairs : FF := (dFun 4 g__law_pairs)

def q__law_word_1 : NF :=
  (dLc (dRg1 (dVar 1)) (.nm 2) [2] dYes (dCall f__law_pick (dCons (dVar 0) (dCons (dC (.str "abcdefghijklmnopqrstuvwxyz")) dNil))))
def g__law_word : SF :=
  (sSeq (sIf (dCmp eqD (dCall f__law_draw (dCons (dVar 0) (dCons (dC (.int 6)) dNil))) (dC (.int 0))) (sRet (dCall f__law_pick (dCons (dVar 0) (dCons (dFrz (dLst (dCons (dC (.str "spot")) (dCons (dC (.str "road")) (dCons (dC (.str "over")) dNil))))) dNil)))) sSkip)
  (sSeq (sAsg 1 (dCall f__law_pick (dCons (dVar 0) (dCons (dFrz (dLst (dCons (dC (.int 1)) (dCons (dC (.int 2)) (dCons (dC (.int 3)) (dCons (dC (.int 5)) (dCons (dC (.int 8)) dNil))))))) dNil))))
  (sRet (dM1 "str" joinD (dC (.str "")) (dFrz q__law_word_1)))))
def f__law_word : FF := (dFun 3 g__law_word)

def q__law_is_name_1 : NF :=
  (dLc (dItS (dVar 0)) (.nm 1) [1] (dIn false (dVar 1) (dLook (dC (.str "abcdefghijklmnopqrstuvwxyz")))) (dVar 1))
def g__law_is_name : SF :=
  (sSeq (sIf (dOr (dNot (dIsi .str (dLook (dVar 0)))) (dOr (dNot (dChn leI leI (dC (.int 1)) (dOp1 lenD (dLook (dVar 0))) (dC (.int 8)))) (dIn false (dVar 0) (dLook (dTup (dCons (dC (.str "spot")) (dCons (dC (.str "road")) (dCons (dC (.str "over")) dNil)))))))) (sRet (dC (.bl false))) sSkip)
  (sRet (dB2v (dCmp eqD (dOp1 lenD (dLook (dFrz q__law_is_name_1))) (dOp1 lenD (dLook (dVar 0)))))))
def f__law_is_name : FF := (dFun 2 g__law_is_name)

def q__law_names_1 : NF :=
  (dLc (dItS (dC (.str "abcdefghijklmnopqrstuvwxyz"))) (.nm 6) [6] dYes (dOp2 addD (dVar 4) (dVar 6)))
def q__law_names_2 : NF :=
  (dLc (dItQ (dVar 5)) (.nm 7) [7] (dAnd (dIn true (dVar 7) (dLook (dVar 2))) (dTst (dCall f__law_is_name (dCons (dVar 7) dNil)))) (dVar 7))
def b__law_names_1 : SF :=
  (sSeq (sAsg 4 (dSl (dCall f__law_word (dCons (dVar 0) dNil)) dNoP (dP (dC (.int 7)))))
  (sSeq (sAsg 5 (dFrz q__law_names_1))
  (sExpr (dMut appD (dVar 2) (dCons (dIx (dFrz q__law_names_2) (dC (.int 0))) dNil)))))
def g__law_names : SF :=
  (sSeq (sAsg 2 (dReg (dLst dNil)))
  (sSeq (sFor (dRg1 (dVar 1)) (.nm 3) b__law_names_1)
  (sRet (dFz (dVar 2)))))
def f__law_names : FF := fGc (dFun 8 g__law_names)

def q__law_spec_1 : NF :=
  (dLc (dItQ (dCall f__law_pairs (dCons (dOp1 lenD (dLook (dVar 2))) dNil))) (.nm 4) [4] (dCmp eqD (dCall f__law_draw (dCons (dVar 0) (dCons (dVar 3) dNil))) (dC (.int 0))) (dVar 4))
def g__law_spec : SF :=
  (sSeq (sAsg 2 (dCall f__law_names (dCons (dVar 0) (dCons (dOp2 addD (dC (.int 1)) (dCall f__law_draw (dCons (dVar 0) (dCons (dVar 1) dNil)))) dNil))))
  (sSeq (sAsg 3 (dOp2 addD (dC (.int 1)) (dCall f__law_draw (dCons (dVar 0) (dCons (dC (.int 4)) dNil)))))
  (sRet (dFrz (dLst (dCons (dVar 2) (dCons (dFrz q__law_spec_1) dNil)))))))
def f__law_spec : FF := (dFun 5 g__law_spec)

def g__law_made : SF :=
  (sRet (dFz (dMake 0 f_Web_init (dCons (dFrz (dNw1 listD (dLook (dIx (dVar 0) (dC (.int 0)))))) (dCons (dFrz (dNw1 listD (dLook (dIx (dVar 0) (dC (.int 1)))))) dNil)))))
def f__law_made : FF := fGc (dFun 1 g__law_made)

def g__law_task : SF :=
  (sSeq (sAsg 2 (dCall f__law_pick (dCons (dVar 0) (dCons (dFrz (dLst (dCons (dFrz (dLst (dCons (dC (.int 0)) (dCons (dC (.int 0)) dNil)))) (dCons (dFrz (dLst (dCons (dC (.int 0)) (dCons (dC (.int 0)) dNil)))) (dCons (dFrz (dLst (dCons (dC (.int 1)) (dCons (dC (.int 0)) dNil)))) (dCons (dFrz (dLst (dCons (dC (.int 0)) (dCons (dC (.int 1)) dNil)))) (dCons (dFrz (dLst (dCons (dC (.int 2)) (dCons (dC (.int 0)) dNil)))) (dCons (dFrz (dLst (dCons (dC (.int 1)) (dCons (dC (.int 1)) dNil)))) dNil)))))))) dNil))))
  (sRet (dOp2 addD (dFrz (dLst (dCons (dCall f__law_pick (dCons (dVar 0) (dCons (dFrz (dLst (dCons (dC (.str "near")) (dCons (dC (.str "near")) (dCons (dC (.str "far")) dNil))))) dNil))) (dCons (dCall f__law_draw (dCons (dVar 0) (dCons (dC (.int 3)) dNil))) (dCons (dOp2 addD (dC (.int 1)) (dCall f__law_draw (dCons (dVar 0) (dCons (dVar 1) dNil)))) dNil))))) (dVar 2))))
def f__law_task : FF := (dFun 3 g__law_task)

def g__law_set : SF :=
  (sRet (dFz (dMake 2 f_Task_init (dCons (dIx (dVar 0) (dC (.int 0))) (dCons (dIx (dVar 0) (dC (.int 1))) (dCons (dIx (dVar 0) (dC (.int 2))) (dCons (dIx (dVar 0) (dC (.int 3))) (dCons (dIx (dVar 0) (dC (.int 4))) dNil))))))))
def f__law_set : FF := fGc (dFun 1 g__law_set)

def g__law_all : SF :=
  (sRet (dOp1 tupleD (dLook (dFrz (dLstRg (dOp1 lenD (dLook (dIx (dVar 0) (dC (.int 0))))))))))
def f__law_all : FF := (dFun 1 g__law_all)

def q_is_lot_below_1 : NF :=
  (dLc (dItQ (dVar 0)) (.nm 3) [3] dYes (dCall f_is_within (dCons (dVar 3) (dCons (dC (.int 0)) (dCons (dOp2 subD (dVar 1) (dC (.int 1))) dNil)))))
def q_is_lot_below_2 : NF :=
  (dLc (dRg1 (dOp2 subD (dOp1 lenD (dLook (dVar 0))) (dC (.int 1)))) (.nm 2) [2] dYes (dB2v (dCmp ltD (dIx (dVar 0) (dVar 2)) (dIx (dVar 0) (dOp2 addD (dVar 2) (dC (.int 1)))))))
def g_is_lot_below : SF :=
  (sSeq (sIf (dOr (dNot (dIsi .tuple (dLook (dVar 0)))) (dNot (dTst (dOp1 allD (dLook (dFrz q_is_lot_below_1)))))) (sRet (dC (.bl false))) sSkip)
  (sRet (dOp1 allD (dLook (dFrz q_is_lot_below_2)))))
def f_is_lot_below : FF := (dFun 4 g_is_lot_below)

def q_lots_by_size_1 : NF :=
  (dLc (dRg2 (dIf (dCmp gtI (dOp1 lenD (dLook (dVar 6))) (dC (.int 0))) (dOp2 addD (dIx (dVar 6) (dOp1 negD (dC (.int 1)))) (dC (.int 1))) (dC (.int 0))) (dVar 0)) (.nm 7) [7] dYes (dTupS (dStar (dVar 6) (dCons (dVar 7) dNil))))
def b_lots_by_size_1 : SF :=
  (sExpr (dMut extD (dVar 5) (dCons (dFrz q_lots_by_size_1) dNil)))
def b_lots_by_size_2 : SF :=
  (sSeq (sAsg 5 (dReg (dLst dNil)))
  (sSeq (sFor (dItQ (dVar 3)) (.nm 6) b_lots_by_size_1)
  (sSeq (sFzO 5 (sExpr (dMut extD (dVar 2) (dCons (dVar 5) dNil))))
  (sAsg 3 (dVar 5)))))
def g_lots_by_size : SF :=
  (sSeq (sAsg 2 (dReg (dLst (dCons (dTup dNil) dNil))))
  (sSeq (sAsg 3 (dFrz (dLst (dCons (dTup dNil) dNil))))
  (sSeq (sFor (dRg1 (dVar 1)) (.nm 4) b_lots_by_size_2)
  (sRet (dFz (dVar 2))))))
def f_lots_by_size : FF := fGc (dFun 8 g_lots_by_size)

def g_all_lots : SF :=
  (sRet (dFrz (dNw1 sortedD (dLook (dCall f_lots_by_size (dCons (dOp1 lenD (dLook (dOp1 (attrD "spots") (dLook (dVar 0))))) (dCons (dOp2 min2D (dOp1 (attrD "fires") (dLook (dVar 1))) (dOp1 lenD (dLook (dOp1 (attrD "spots") (dLook (dVar 0)))))) dNil)))))))
def f_all_lots : FF := (dFun 2 g_all_lots)

def g_is_lot : SF :=
  (sRet (dCall f_is_lot_below (dCons (dVar 1) (dCons (dOp1 lenD (dLook (dOp1 (attrD "spots") (dLook (dVar 0))))) dNil))))
def f_is_lot : FF := (dFun 2 g_is_lot)

def g_check_watchers : SF :=
  (sIf (dNot (dTst (dCall f_is_lot (dCons (dVar 0) (dCons (dVar 1) dNil))))) (sRaise 1006 [] dNil) sSkip)
def f_check_watchers : FF := (dFun 2 g_check_watchers)

def q_told_by_1 : NF :=
  (dLc (dItQ (dVar 3)) (.nm 6) [6] (dNotN (dIx (dIx (dOp1 (attrD "away") (dLook (dVar 0))) (dVar 2)) (dVar 6))) (dIx (dIx (dOp1 (attrD "away") (dLook (dVar 0))) (dVar 2)) (dVar 6)))
def g_told_by : SF :=
  (sSeq (sAsg 4 (dFrz q_told_by_1))
  (sSeq (sAsg 5 (dIf (dCmp gtI (dOp1 lenD (dLook (dVar 4))) (dC (.int 0))) (dOp1 minLD (dLook (dVar 4))) (dC .non)))
  (sSeq (sIf (dCmp eqD (dOp1 (attrD "kind") (dLook (dVar 1))) (dC (.str "far"))) (sRet (dVar 5)) sSkip)
  (sRet (dB2v (dAnd (dNotN (dVar 5)) (dCmp leI (dVar 5) (dOp1 (attrD "reach") (dLook (dVar 1))))))))))
def f_told_by : FF := (dFun 7 g_told_by)

def q_report_of_1 : NF :=
  (dLc (dItQ (dVar 2)) (.nm 4) [4] dYes (dCall f_told_by (dCons (dVar 0) (dCons (dVar 1) (dCons (dVar 4) (dCons (dVar 3) dNil))))))
def g_report_of : SF :=
  (sRet (dOp1 tupleD (dLook (dFrz q_report_of_1))))
def f_report_of : FF := (dFun 5 g_report_of)

def q__law_lots_1 : NF :=
  (dLc (dItQ (dVar 1)) (.nm 3) [3] dYes (dOp2 addD (dVar 3) (dTup (dCons (dVar 2) dNil))))
def b__law_lots_1 : SF :=
  (sAsg 1 (dOp2 addD (dVar 1) (dFrz q__law_lots_1)))
def g__law_lots : SF :=
  (sSeq (sAsg 1 (dFrz (dLst (dCons (dTup dNil) dNil))))
  (sSeq (sFor (dItQ (dVar 0)) (.nm 2) b__law_lots_1)
  (sRet (dVar 1))))
def f__law_lots : FF := (dFun 4 g__law_lots)

def q_gap_of_1 : NF :=
  (dLc (dZip (dVar 0) (dVar 1)) (.tp [2, 3]) [2, 3] (dCmp neD (dVar 2) (dVar 3)) (dC (.bl true)))
def g_gap_of : SF :=
  (sRet (dOp1 lenD (dLook (dFrz q_gap_of_1))))
def f_gap_of : FF := (dFun 4 g_gap_of)

def g_bound_of : SF :=
  (sRet (dOp2 addD (dOp1 (attrD "broken") (dLook (dVar 0))) (dOp2 mulD (dC (.int 2)) (dOp1 (attrD "lying") (dLook (dVar 0))))))
def f_bound_of : FF := (dFun 1 g_bound_of)

def q_pairs_of_1 : NF :=
  (dLc (dItQ (dSl (dVar 0) (dP (dOp2 addD (dVar 2) (dC (.int 1)))) dNoP)) (.nm 4) [4] dYes (dTup (dCons (dVar 3) (dCons (dVar 4) dNil))))
def b_pairs_of_1 : SF :=
  (sExpr (dMut extD (dVar 1) (dCons (dFrz q_pairs_of_1) dNil)))
def g_pairs_of : SF :=
  (sSeq (sAsg 1 (dReg (dLst dNil)))
  (sSeq (sFor (dEnumQ (dVar 0)) (.tp [2, 3]) b_pairs_of_1)
  (sRet (dFz (dVar 1)))))
def f_pairs_of : FF := fGc (dFun 5 g_pairs_of)

def b_mixed_row_1 : SF :=
  (sIf (dCmp eqD (dVar 6) (dVar 7)) (sExpr (dMut appD (dVar 3) (dCons (dVar 6) dNil))) (sIf (dCmp ltD (dVar 4) (dOp1 (attrD "broken") (dLook (dVar 0)))) (sSeq (sAug 4 (fun i j => i + j) (dC (.int 1)))
  (sExpr (dMut appD (dVar 3) (dCons (dC (.str "broken")) dNil)))) (sIf (dCmp ltD (dVar 5) (dOp1 (attrD "lying") (dLook (dVar 0)))) (sSeq (sAug 5 (fun i j => i + j) (dC (.int 1)))
  (sExpr (dMut appD (dVar 3) (dCons (dVar 6) dNil)))) (sExpr (dMut appD (dVar 3) (dCons (dVar 7) dNil))))))
def g_mixed_row : SF :=
  (sSeq (sAsg 3 (dReg (dLst dNil)))
  (sSeq (sAsg 4 (dC (.int 0)))
  (sSeq (sAsg 5 (dC (.int 0)))
  (sSeq (sFor (dZip (dVar 1) (dVar 2)) (.tp [6, 7]) b_mixed_row_1)
  (sRet (dOp1 tupleD (dLook (dVar 3))))))))
def f_mixed_row : FF := fGc (dFun 8 g_mixed_row)

def b_close_pair_1 : SF :=
  (sIf (dCmp leI (dCall f_gap_of (dCons (dCall f_report_of (dCons (dVar 0) (dCons (dVar 1) (dCons (dVar 2) (dCons (dVar 3) dNil))))) (dCons (dCall f_report_of (dCons (dVar 0) (dCons (dVar 1) (dCons (dVar 2) (dCons (dVar 4) dNil))))) dNil))) (dCall f_bound_of (dCons (dVar 1) dNil))) (sRet (dTup (dCons (dVar 3) (dCons (dVar 4) dNil)))) sSkip)
def g_close_pair : SF :=
  (sSeq (sFor (dItQ (dCall f_pairs_of (dCons (dCall f_all_lots (dCons (dVar 0) (dCons (dVar 1) dNil))) dNil))) (.tp [3, 4]) b_close_pair_1)
  (sRet (dC .non)))
def f_close_pair : FF := (dFun 5 g_close_pair)

def q_clash_1 : NF :=
  (dLc (dItQ (dVar 3)) (.nm 5) [5] dYes (dCall f_report_of (dCons (dVar 0) (dCons (dVar 1) (dCons (dVar 2) (dCons (dVar 5) dNil))))))
def g_clash : SF :=
  (sSeq (sExpr (dCall f_check_watchers (dCons (dVar 0) (dCons (dVar 2) dNil))))
  (sSeq (sAsg 3 (dCall f_close_pair (dCons (dVar 0) (dCons (dVar 1) (dCons (dVar 2) dNil)))))
  (sSeq (sIf (dIsN (dVar 3)) (sRet (dC .non)) sSkip)
  (sSeq (sAsg 4 (dFrz q_clash_1))
  (sRet (dTupS (dStar (dVar 3) (dCons (dCall f_mixed_row (dCons (dVar 1) (dCons (dIx (dVar 4) (dC (.int 0))) (dCons (dIx (dVar 4) (dC (.int 1))) dNil)))) dNil))))))))
def f_clash : FF := (dFun 6 g_clash)

def q_gap_1 : NF :=
  (dLc (dItQ (dCall f_all_lots (dCons (dVar 0) (dCons (dVar 1) dNil)))) (.nm 5) [5] dYes (dCall f_report_of (dCons (dVar 0) (dCons (dVar 1) (dCons (dVar 2) (dCons (dVar 5) dNil))))))
def q_gap_2 : NF :=
  (dLc (dItQ (dCall f_pairs_of (dCons (dVar 3) dNil))) (.tp [6, 7]) [6, 7] dYes (dCall f_gap_of (dCons (dVar 6) (dCons (dVar 7) dNil))))
def g_gap : SF :=
  (sSeq (sExpr (dCall f_check_watchers (dCons (dVar 0) (dCons (dVar 2) dNil))))
  (sSeq (sAsg 3 (dFrz q_gap_1))
  (sSeq (sAsg 4 (dFrz q_gap_2))
  (sRet (dIf (dCmp gtI (dOp1 lenD (dLook (dVar 4))) (dC (.int 0))) (dOp1 minLD (dLook (dVar 4))) (dC .non))))))
def f_gap : FF := (dFun 8 g_gap)

def b_bears_1 : SF :=
  (sSeq (sAsg 7 (dFz (dMake 2 f_Task_init (dCons (dOp1 (attrD "kind") (dLook (dVar 1))) (dCons (dOp1 (attrD "reach") (dLook (dVar 1))) (dCons (dOp1 (attrD "fires") (dLook (dVar 1))) (dCons (dVar 5) (dCons (dVar 6) dNil))))))))
  (sIf (dOr (dIsN (dVar 3)) (dCmp gtI (dVar 3) (dCall f_bound_of (dCons (dVar 7) dNil)))) (sExpr (dMut appD (dVar 4) (dCons (dTup (dCons (dVar 5) (dCons (dVar 6) dNil))) dNil))) sSkip))
def b_bears_2 : SF :=
  (sFor (dRg1 (dOp2 addD (dC (.int 3)) (dC (.int 1)))) (.nm 6) b_bears_1)
def g_bears : SF :=
  (sSeq (sAsg 3 (dCall f_gap (dCons (dVar 0) (dCons (dVar 1) (dCons (dVar 2) dNil)))))
  (sSeq (sAsg 4 (dReg (dLst dNil)))
  (sSeq (sFor (dRg1 (dOp2 addD (dC (.int 3)) (dC (.int 1)))) (.nm 5) b_bears_2)
  (sRet (dOp1 tupleD (dLook (dVar 4)))))))
def f_bears : FF := fGc (dFun 8 g_bears)

def b_spare_1 : SF :=
  (sIf (dIsN (dCall f_close_pair (dCons (dVar 0) (dCons (dVar 1) (dCons (dTupS (dStar (dSl (dVar 2) dNoP (dP (dVar 4))) (dStar (dSl (dVar 2) (dP (dOp2 addD (dVar 4) (dC (.int 1)))) dNoP) dNil))) dNil))))) (sExpr (dMut appD (dVar 3) (dCons (dVar 5) dNil))) sSkip)
def g_spare : SF :=
  (sSeq (sExpr (dCall f_check_watchers (dCons (dVar 0) (dCons (dVar 2) dNil))))
  (sSeq (sAsg 3 (dReg (dLst dNil)))
  (sSeq (sFor (dEnumQ (dVar 2)) (.tp [4, 5]) b_spare_1)
  (sRet (dOp1 tupleD (dLook (dVar 3)))))))
def f_spare : FF := fGc (dFun 6 g_spare)

def b_few_1 : SF :=
  (sIf (dIsN (dCall f_close_pair (dCons (dVar 0) (dCons (dVar 1) (dCons (dVar 2) dNil))))) (sRet (dVar 2)) sSkip)
def g_few : SF :=
  (sSeq (sFor (dItQ (dCall f_lots_by_size (dCons (dOp1 lenD (dLook (dOp1 (attrD "spots") (dLook (dVar 0))))) (dCons (dOp1 lenD (dLook (dOp1 (attrD "spots") (dLook (dVar 0))))) dNil)))) (.nm 2) b_few_1)
  (sRet (dC .non)))
def f_few : FF := (dFun 3 g_few)

def g_fewest : SF :=
  (sSeq (sAsg 2 (dCall f_few (dCons (dVar 0) (dCons (dVar 1) dNil))))
  (sRet (dIf (dIsN (dVar 2)) (dC .non) (dOp1 lenD (dLook (dVar 2))))))
def f_fewest : FF := (dFun 3 g_fewest)

def q_law_k11_1 : NF :=
  (dLc (dItQ (dIx (dVar 10) (dC (.int 1)))) (.tp [19, 20]) [19, 20] dYes (dOp1 tupleD (dLook (dFrz (dNw1 sortedD (dLook (dFrz (dLst (dCons (dM1 "list" indexD (dVar 3) (dVar 19)) (dCons (dM1 "list" indexD (dVar 3) (dVar 20)) dNil))))))))))
def q_law_k11_2 : NF :=
  (dLc (dItQ (dVar 3)) (.nm 21) [21] dYes (dIx (dIx (dVar 10) (dC (.int 0))) (dVar 21)))
def q_law_k11_3 : NF :=
  (dLc (dItQ (dVar 2)) (.nm 9) [9] dYes (dM1 "list" indexD (dVar 3) (dVar 9)))
def q_law_k11_4 : NF :=
  (dLc (dItQ (dCall f_spare (dCons (dVar 5) (dCons (dVar 13) (dCons (dVar 6) dNil))))) (.nm 9) [9] dYes (dIx (dVar 3) (dVar 9)))
def b_law_k11_1 : SF :=
  (sSeq (sAsg 15 (dOp2 addD (dOp2 addD (dSl (dVar 11) dNoP (dP (dVar 8))) (dFrz (dLst (dCons (dOp2 min2D (dC (.int 3)) (dOp2 addD (dIx (dVar 11) (dVar 8)) (dC (.int 1)))) dNil)))) (dSl (dVar 11) (dP (dOp2 addD (dVar 8) (dC (.int 1)))) dNoP)))
  (sSeq (sAsg 16 (dCall f_fewest (dCons (dVar 12) (dCons (dCall f__law_set (dCons (dVar 15) dNil)) dNil))))
  (sIf (dAnd (dNotN (dVar 16)) (dOr (dIsN (dVar 7)) (dCmp ltD (dVar 16) (dVar 7)))) (sRet (dC (.bl false))) sSkip)))
def b_law_k11_2 : SF :=
  (sIf (dAnd (dIn true (dVar 9) (dLook (dVar 2))) (dCmp ltD (dCall f_gap (dCons (dVar 12) (dCons (dVar 13) (dCons (dOp1 tupleD (dLook (dFrz (dNw1 sortedD (dLook (dOp2 addD (dFrz (dNw1 listD (dLook (dVar 2)))) (dFrz (dLst (dCons (dVar 9) dNil))))))))) dNil)))) (dCall f_gap (dCons (dVar 12) (dCons (dVar 13) (dCons (dVar 2) dNil)))))) (sRet (dC (.bl false))) sSkip)
def q_law_k11_5 : NF :=
  (dLc (dItQ (dVar 2)) (.nm 9) [9] (dCmp neD (dVar 9) (dVar 17)) (dVar 9))
def g_law_k11 : SF :=
  (sSeq (sAsg 1 (dCall f__law_pot (dCons (dVar 0) dNil)))
  (sSeq (sTg (.tp [10, 11]) (dTup (dCons (dCall f__law_spec (dCons (dVar 1) (dCons (dC (.int 4)) dNil))) (dCons (dCall f__law_task (dCons (dVar 1) (dCons (dC (.int 2)) dNil))) dNil))))
  (sSeq (sPar3 12 13 14 (dCall f__law_made (dCons (dVar 10) dNil)) (dCall f__law_set (dCons (dVar 11) dNil)) (dOp1 lenD (dLook (dIx (dVar 10) (dC (.int 0))))))
  (sSeq (sAsg 2 (dCall f__law_pick (dCons (dVar 1) (dCons (dCall f__law_lots (dCons (dCall f__law_all (dCons (dVar 10) dNil)) dNil)) dNil))))
  (sSeq (sAsg 3 (dCall f__law_mixed (dCons (dVar 1) (dCons (dFrz (dLstRg (dVar 14))) dNil))))
  (sSeq (sAsg 4 (dFrz q_law_k11_1))
  (sSeq (sAsg 5 (dCall f__law_made (dCons (dFrz (dLst (dCons (dFrz q_law_k11_2) (dCons (dVar 4) dNil)))) dNil)))
  (sSeq (sAsg 6 (dOp1 tupleD (dLook (dFrz (dNw1 sortedD (dLook (dFrz q_law_k11_3)))))))
  (sSeq (sIf (dOr (dCmp neD (dCall f_gap (dCons (dVar 5) (dCons (dVar 13) (dCons (dVar 6) dNil)))) (dCall f_gap (dCons (dVar 12) (dCons (dVar 13) (dCons (dVar 2) dNil))))) (dCmp neD (dCall f_bears (dCons (dVar 5) (dCons (dVar 13) (dCons (dVar 6) dNil)))) (dCall f_bears (dCons (dVar 12) (dCons (dVar 13) (dCons (dVar 2) dNil)))))) (sRet (dC (.bl false))) sSkip)
  (sSeq (sIf (dCmp neD (dFrz (dNw1 sortedD (dLook (dFrz q_law_k11_4)))) (dFrz (dNw1 listD (dLook (dCall f_spare (dCons (dVar 12) (dCons (dVar 13) (dCons (dVar 2) dNil)))))))) (sRet (dC (.bl false))) sSkip)
  (sSeq (sAsg 7 (dCall f_fewest (dCons (dVar 12) (dCons (dVar 13) dNil))))
  (sSeq (sIf (dNot (dTst (dCall f__law_same (dCons (dCall f_fewest (dCons (dVar 5) (dCons (dVar 13) dNil))) (dCons (dVar 7) dNil))))) (sRet (dC (.bl false))) sSkip)
  (sSeq (sFor (dItQ (dTup (dCons (dC (.int 2)) (dCons (dC (.int 3)) (dCons (dC (.int 4)) dNil))))) (.nm 8) b_law_k11_1)
  (sSeq (sFor (dItQ (dCall f__law_all (dCons (dVar 10) dNil))) (.nm 9) b_law_k11_2)
  (sSeq (sIf (dAnd (dIsN (dCall f_clash (dCons (dVar 12) (dCons (dVar 13) (dCons (dVar 2) dNil))))) (dAnd (dCmp gtI (dIx (dVar 11) (dC (.int 3))) (dC (.int 0))) (dCmp neD (dVar 2) (dTup dNil)))) (sSeq (sAsg 17 (dCall f__law_pick (dCons (dVar 1) (dCons (dVar 2) dNil))))
  (sSeq (sAsg 18 (dCall f__law_set (dCons (dOp2 addD (dSl (dVar 11) dNoP (dP (dC (.int 3)))) (dFrz (dLst (dCons (dOp2 subD (dIx (dVar 11) (dC (.int 3))) (dC (.int 1))) (dCons (dIx (dVar 11) (dC (.int 4))) dNil))))) dNil)))
  (sIf (dNotN (dCall f_clash (dCons (dVar 12) (dCons (dVar 18) (dCons (dOp1 tupleD (dLook (dFrz q_law_k11_5))) dNil))))) (sRet (dC (.bl false))) sSkip))) sSkip)
  (sRet (dB2v (dCmp eqD (dB2v (dIsN (dCall f_clash (dCons (dVar 12) (dCons (dVar 13) (dCons (dVar 2) dNil)))))) (dB2v (dIn false (dTup (dCons (dIx (dVar 11) (dC (.int 3))) (dCons (dIx (dVar 11) (dC (.int 4))) dNil))) (dLook (dCall f_bears (dCons (dVar 12) (dCons (dVar 13) (dCons (dVar 2) dNil)))))))))))))))))))))))))
def f_law_k11 : FF := (dFun 22 g_law_k11)

end DL
end

section
set_option Elab.async false
set_option linter.all false
set_option maxRecDepth 100000
set_option maxHeartbeats 4000000
namespace DL
/-! M1: distances in webs, the search of steps_away, plain. -/
abbrev Rds := List (Nat × Nat)
def Adj (rs : Rds) (a b : Nat) : Prop := (a, b) ∈ rs ∨ (b, a) ∈ rs
theorem Adj.symm {rs : Rds} {a b : Nat} (h : Adj rs a b) : Adj rs b a := h.elim .inr .inl
/-- a way of so many roads -/
inductive Way (rs : Rds) (a : Nat) : Nat → Nat → Prop
  | nil : Way rs a a 0
  | snoc {b c n : Nat} : Way rs a b n → Adj rs b c → Way rs a c (n + 1)
/-- the least number of roads, or that there is no way -/
def IsD (rs : Rds) (a b : Nat) : Option Nat → Prop
  | some d => Way rs a b d ∧ ∀ n, Way rs a b n → d ≤ n
  | none => ∀ n, ¬ Way rs a b n
theorem IsD.uniq {rs : Rds} {a b : Nat} {o o' : Option Nat} (h : IsD rs a b o) (h' : IsD rs a b o') : o = o' := by
  cases o with
  | none =>
    cases o' with
    | none => rfl
    | some d => exact absurd h'.1 (h d)
  | some d =>
    cases o' with
    | none => exact absurd h.1 (h' d)
    | some e =>
      have h1 := h.2 e h'.1
      have h2 := h'.2 d h.1
      rw [Nat.le_antisymm h1 h2]
theorem Adj.congr {rs rs' : Rds} (h : ∀ q, q ∈ rs ↔ q ∈ rs') {a b : Nat} : Adj rs a b ↔ Adj rs' a b := by
  unfold Adj
  rw [h, h]
theorem Way.mono {rs rs' : Rds} (h : ∀ a b, Adj rs a b → Adj rs' a b) {a b n : Nat} (w : Way rs a b n) : Way rs' a b n := by
  induction w with
  | nil => exact .nil
  | snoc _ e ih => exact .snoc ih (h _ _ e)
theorem IsD.congr {rs rs' : Rds} (h : ∀ q, q ∈ rs ↔ q ∈ rs') {a b : Nat} {o : Option Nat} (d : IsD rs a b o) : IsD rs' a b o := by
  have f : ∀ {a b n}, Way rs a b n → Way rs' a b n := fun w => w.mono fun a b e => (Adj.congr h).mp e
  have g : ∀ {a b n}, Way rs' a b n → Way rs a b n := fun w => w.mono fun a b e => (Adj.congr h).mpr e
  cases o with
  | none => exact fun n w => d n (g w)
  | some k => exact ⟨f d.1, fun n w => d.2 n (g w)⟩
/-- the names of places changed -/
theorem Way.map {rs rs' : Rds} (σ : Nat → Nat) (h : ∀ a b, Adj rs a b → Adj rs' (σ a) (σ b)) {a b n : Nat} (w : Way rs a b n) : Way rs' (σ a) (σ b) n := by
  induction w with
  | nil => exact .nil
  | snoc _ e ih => exact .snoc ih (h _ _ e)

/-! ### the search -/
/-- distances found, places in a line -/
structure Srch where
  fv : List (Option Nat)
  lv : List Nat
def fnd (s : Srch) (x : Nat) : Option Nat := (s.fv[x]?).join
/-- one road, seen from the place c -/
def bf1 (c : Nat) (s : Srch) (q : Nat × Nat) : Srch :=
  if q.1 = c ∨ q.2 = c then
    match fnd s (q.1 + q.2 - c) with
    | none => ⟨s.fv.set (q.1 + q.2 - c) (some ((fnd s c).getD 0 + 1)), s.lv ++ [q.1 + q.2 - c]⟩
    | some _ => s
  else s
def bfAll (c : Nat) (rs : Rds) (s : Srch) : Srch := rs.foldl (bf1 c) s
def bfRun (rs : Rds) : Nat → Nat → Srch → Srch
  | 0, _, s => s
  | m + 1, at_, s => match s.lv[at_]? with
    | some c => bfRun rs m (at_ + 1) (bfAll c rs s)
    | none => s
def bf0 (n s : Nat) : Srch := ⟨(List.replicate n none).set s (some 0), [s]⟩
/-- the table's row of s -/
def stepsOf (n : Nat) (rs : Rds) (s : Nat) : List (Option Nat) := (bfRun rs 60 0 (bf0 n s)).fv

/-- what the search keeps: at_ is the place in the line, done the roads seen from there -/
structure BfI (n : Nat) (rs : Rds) (st at_ : Nat) (done : Rds) (s : Srch) : Prop where
  len : s.fv.length = n
  nd : s.lv.Nodup
  lt : ∀ x ∈ s.lv, x < n
  mem : ∀ x, x ∈ s.lv ↔ ∃ d, fnd s x = some d
  way : ∀ x d, fnd s x = some d → Way rs st x d
  start : fnd s st = some 0
  ord : ∀ (i j a b d e : Nat), i ≤ j → s.lv[i]? = some a → s.lv[j]? = some b → fnd s a = some d → fnd s b = some e → d ≤ e
  near : ∀ (j a b d e : Nat), s.lv[at_]? = some a → s.lv[j]? = some b → fnd s a = some d → fnd s b = some e → e ≤ d + 1
  old : ∀ (i a b d : Nat), i < at_ → s.lv[i]? = some a → fnd s a = some d → Adj rs a b → ∃ e, fnd s b = some e ∧ e ≤ d + 1
  cur : ∀ (a b d : Nat), s.lv[at_]? = some a → fnd s a = some d → ((a, b) ∈ done ∨ (b, a) ∈ done) → ∃ e, fnd s b = some e ∧ e ≤ d + 1

theorem fnd_set {s : Srch} {w v x : Nat} {l : List Nat} (hw : w < s.fv.length) : fnd ⟨s.fv.set w (some v), l⟩ x = if w = x then some v else fnd s x := by
  unfold fnd
  rw [List.getElem?_set]
  split
  · rename_i h
    subst h
    simp [hw]
  · rfl
theorem lv_get {l : List Nat} {w i a : Nat} (h : (l ++ [w])[i]? = some a) : (i < l.length ∧ l[i]? = some a) ∨ (i = l.length ∧ a = w) := by
  by_cases hi : i < l.length
  · rw [List.getElem?_append_left hi] at h
    exact .inl ⟨hi, h⟩
  · rw [List.getElem?_append_right (by omega)] at h
    have : i - l.length = 0 := by
      cases z : i - l.length with
      | zero => rfl
      | succ k => rw [z] at h; simp at h
    rw [this] at h
    simp at h
    exact .inr ⟨by omega, h.symm⟩
theorem BfI.le {n : Nat} {rs done : Rds} {st at_ : Nat} {s : Srch} (h : BfI n rs st at_ done s) : s.lv.length ≤ n := by
  have := h.nd.length_le_of_subset (l₂ := List.range n) fun x hx => List.mem_range.mpr (h.lt x hx)
  rwa [List.length_range] at this
/-- one road more is seen -/
theorem bf1_ok {n : Nat} {rs done : Rds} {st at_ : Nat} {s : Srch} {c : Nat} {q : Nat × Nat} (h : BfI n rs st at_ done s) (hc : s.lv[at_]? = some c) (hq : q ∈ rs) (h1 : q.1 < n) (h2 : q.2 < n) :
    BfI n rs st at_ (done ++ [q]) (bf1 c s q) ∧ ∃ t, (bf1 c s q).lv = s.lv ++ t := by
  obtain ⟨dc, hdc⟩ := (h.mem c).mp (List.mem_of_getElem? hc)
  unfold bf1
  by_cases hin : q.1 = c ∨ q.2 = c
  · rw [if_pos hin]
    obtain ⟨w, hw, hwn, had⟩ : ∃ w, q.1 + q.2 - c = w ∧ w < n ∧ Adj rs c w := by
      rcases hin with e | e
      · exact ⟨q.2, by omega, h2, .inl (by rw [← e]; exact hq)⟩
      · exact ⟨q.1, by omega, h1, .inr (by rw [← e]; exact hq)⟩
    have hother : ∀ b, (c, b) ∈ [q] ∨ (b, c) ∈ [q] → b = w ∨ b = c ∧ w = c := by
      intro b hb
      simp only [List.mem_singleton] at hb
      rcases hb with e | e
      · have e1 : q.1 = c := by rw [← e]
        have e2 : q.2 = b := by rw [← e]
        exact .inl (by omega)
      · have e1 : q.1 = b := by rw [← e]
        have e2 : q.2 = c := by rw [← e]
        exact .inl (by omega)
    rw [hw]
    cases hf : fnd s w with
    | some e =>
      refine ⟨{ h with cur := fun a b d ha hd hb => ?_ }, [], by simp⟩
      rw [hc] at ha
      cases ha
      rw [hdc] at hd
      cases hd
      have hb' : ((c, b) ∈ done ∨ (b, c) ∈ done) ∨ ((c, b) ∈ [q] ∨ (b, c) ∈ [q]) := by
        rcases hb with hb | hb <;> rcases List.mem_append.mp hb with hb | hb
        · exact .inl (.inl hb)
        · exact .inr (.inl hb)
        · exact .inl (.inr hb)
        · exact .inr (.inr hb)
      rcases hb' with hb | hb
      · exact h.cur c b dc hc hdc hb
      · obtain ⟨j, hj⟩ := List.getElem?_of_mem ((h.mem w).mpr ⟨e, hf⟩)
        have hle := h.near j c w dc e hc hj hdc hf
        rcases hother b hb with e1 | ⟨e1, e2⟩
        · subst e1; exact ⟨e, hf, hle⟩
        · subst e1; exact ⟨dc, hdc, Nat.le_succ _⟩
    | none =>
      dsimp only
      have hwl : w < s.fv.length := by rw [h.len]; exact hwn
      have hcw : w ≠ c := fun z => by rw [z, hdc] at hf; cases hf
      have hwm : w ∉ s.lv := fun hm => by
        obtain ⟨d, hd⟩ := (h.mem w).mp hm
        rw [hf] at hd; cases hd
      have hv : (fnd s c).getD 0 + 1 = dc + 1 := by rw [hdc]; rfl
      rw [hv]
      have hold : ∀ {x d}, fnd s x = some d → w ≠ x := fun {x d} hx z => by rw [z, hx] at hf; cases hf
      have hget : ∀ {i a d}, (s.lv ++ [w])[i]? = some a → fnd ⟨s.fv.set w (some (dc + 1)), s.lv ++ [w]⟩ a = some d → (i < s.lv.length ∧ s.lv[i]? = some a ∧ fnd s a = some d) ∨ (i = s.lv.length ∧ a = w ∧ d = dc + 1) := by
        intro i a d ha hd
        rw [fnd_set hwl] at hd
        rcases lv_get ha with ⟨hi, ha⟩ | ⟨hi, ha⟩
        · have : w ≠ a := fun z => hwm (by rw [z]; exact List.mem_of_getElem? ha)
          rw [if_neg this] at hd
          exact .inl ⟨hi, ha, hd⟩
        · subst ha
          rw [if_pos rfl] at hd
          cases hd
          exact .inr ⟨hi, rfl, rfl⟩
      have hatl : at_ < s.lv.length := (List.getElem?_eq_some_iff.mp hc).1
      refine ⟨⟨by rw [List.length_set]; exact h.len, ?_, fun x hx => ?_, fun x => ?_, fun x d hd => ?_, ?_, fun i j a b d e hij ha hb hd he => ?_, fun j a b d e ha hb hd he => ?_, fun i a b d hi ha hd hab => ?_, fun a b d ha hd hb => ?_⟩, [w], rfl⟩
      · rw [List.nodup_append]
        refine ⟨h.nd, by simp, fun x hx y hy => ?_⟩
        rw [List.mem_singleton] at hy
        subst hy
        exact fun z => hwm (z ▸ hx)
      · rcases List.mem_append.mp hx with hx | hx
        · exact h.lt x hx
        · rw [List.mem_singleton] at hx; subst hx; exact hwn
      · rw [fnd_set hwl, List.mem_append, List.mem_singleton]
        by_cases hx : w = x
        · subst hx; simp
        · rw [if_neg hx, h.mem x]
          constructor
          · rintro (z | z)
            · exact z
            · exact absurd z.symm hx
          · exact fun z => .inl z
      · rw [fnd_set hwl] at hd
        by_cases hx : w = x
        · subst hx
          rw [if_pos rfl] at hd
          cases hd
          exact .snoc (h.way c dc hdc) had
        · rw [if_neg hx] at hd
          exact h.way x d hd
      · rw [fnd_set hwl, if_neg (hold h.start)]
        exact h.start
      · rcases hget ha hd with ⟨i1, a1, d1⟩ | ⟨i1, a1, d1⟩
        · rcases hget hb he with ⟨j1, b1, e1⟩ | ⟨j1, b1, e1⟩
          · exact h.ord i j a b d e hij a1 b1 d1 e1
          · have := h.near i c a dc d hc a1 hdc d1
            omega
        · rcases hget hb he with ⟨j1, b1, e1⟩ | ⟨j1, b1, e1⟩
          · omega
          · omega
      · rcases hget ha hd with ⟨i1, a1, d1⟩ | ⟨i1, a1, d1⟩
        · rw [hc] at a1
          cases a1
          rw [hdc] at d1
          cases d1
          rcases hget hb he with ⟨j1, b1, e1⟩ | ⟨j1, b1, e1⟩
          · exact h.near j c b dc e hc b1 hdc e1
          · omega
        · omega
      · rcases hget ha hd with ⟨i1, a1, d1⟩ | ⟨i1, a1, d1⟩
        · obtain ⟨e, he, hle⟩ := h.old i a b d hi a1 d1 hab
          exact ⟨e, by rw [fnd_set hwl, if_neg (hold he)]; exact he, hle⟩
        · omega
      · rcases hget ha hd with ⟨i1, a1, d1⟩ | ⟨i1, a1, d1⟩
        · rw [hc] at a1
          cases a1
          rw [hdc] at d1
          cases d1
          have hb' : ((c, b) ∈ done ∨ (b, c) ∈ done) ∨ ((c, b) ∈ [q] ∨ (b, c) ∈ [q]) := by
            rcases hb with hb | hb <;> rcases List.mem_append.mp hb with hb | hb
            · exact .inl (.inl hb)
            · exact .inr (.inl hb)
            · exact .inl (.inr hb)
            · exact .inr (.inr hb)
          rcases hb' with hb | hb
          · obtain ⟨e, he, hle⟩ := h.cur c b dc hc hdc hb
            exact ⟨e, by rw [fnd_set hwl, if_neg (hold he)]; exact he, hle⟩
          · rcases hother b hb with e1 | ⟨e1, e2⟩
            · subst e1; exact ⟨dc + 1, by rw [fnd_set hwl, if_pos rfl], Nat.le_refl _⟩
            · exact absurd e2 hcw
        · omega
  · rw [if_neg hin]
    rw [not_or] at hin
    refine ⟨{ h with cur := fun a b d ha hd hb => ?_ }, [], by simp⟩
    rw [hc] at ha
    cases ha
    refine h.cur c b d hc hd ?_
    rcases hb with hb | hb <;> rcases List.mem_append.mp hb with hb | hb
    · exact .inl hb
    · rw [List.mem_singleton] at hb; exact absurd (by rw [← hb]) hin.1
    · exact .inr hb
    · rw [List.mem_singleton] at hb; exact absurd (by rw [← hb]) hin.2
/-- all roads, seen from there -/
theorem bfAll_ok {n : Nat} {rs : Rds} {st at_ : Nat} {c : Nat} (hr : ∀ q ∈ rs, q.1 < n ∧ q.2 < n) : ∀ (qs done : Rds) (s : Srch), (∀ q ∈ qs, q ∈ rs) → BfI n rs st at_ done s → s.lv[at_]? = some c → BfI n rs st at_ (done ++ qs) (bfAll c qs s) ∧ ∃ t, (bfAll c qs s).lv = s.lv ++ t
  | [], done, s, _, h, hc => ⟨by rw [List.append_nil]; exact h, [], by simp [bfAll]⟩
  | q :: qs, done, s, hq, h, hc => by
    have hm := hq q List.mem_cons_self
    obtain ⟨h1, t1, e1⟩ := bf1_ok h hc hm (hr q hm).1 (hr q hm).2
    have hc1 : (bf1 c s q).lv[at_]? = some c := by
      rw [e1, List.getElem?_append_left (List.getElem?_eq_some_iff.mp hc).1]
      exact hc
    obtain ⟨h2, t2, e2⟩ := bfAll_ok hr qs (done ++ [q]) (bf1 c s q) (fun x hx => hq x (List.mem_cons_of_mem _ hx)) h1 hc1
    rw [List.append_assoc] at h2
    exact ⟨h2, t1 ++ t2, by show (bfAll c qs (bf1 c s q)).lv = _; rw [e2, e1, List.append_assoc]⟩
theorem BfI.next {n : Nat} {rs : Rds} {st at_ : Nat} {s : Srch} (h : BfI n rs st at_ rs s) (hat : at_ < s.lv.length) : BfI n rs st (at_ + 1) [] s := by
  refine { h with near := fun j a b d e ha hb hd he => ?_, old := fun i a b d hi ha hd hab => ?_, cur := fun a b d _ _ hb => by simp at hb }
  · have hc : s.lv[at_]? = some s.lv[at_] := List.getElem?_eq_getElem hat
    obtain ⟨dc, hdc⟩ := (h.mem s.lv[at_]).mp (List.getElem_mem hat)
    have h1 := h.near j _ b dc e hc hb hdc he
    have h2 := h.ord at_ (at_ + 1) _ a dc d (Nat.le_succ _) hc ha hdc hd
    omega
  · by_cases e : i = at_
    · subst e
      exact h.cur a b d ha hd hab
    · exact h.old i a b d (by omega) ha hd hab
theorem bfRun_ok {n : Nat} {rs : Rds} {st : Nat} (hr : ∀ q ∈ rs, q.1 < n ∧ q.2 < n) : ∀ (m at_ : Nat) (s : Srch), BfI n rs st at_ [] s → at_ ≤ s.lv.length → n + 1 ≤ m + at_ → BfI n rs st (bfRun rs m at_ s).lv.length [] (bfRun rs m at_ s)
  | 0, at_, s, h, hat, hm => by have := h.le; omega
  | m + 1, at_, s, h, hat, hm => by
    unfold bfRun
    cases hc : s.lv[at_]? with
    | none =>
      rw [List.getElem?_eq_none_iff] at hc
      have : at_ = s.lv.length := by omega
      rw [this] at h
      exact h
    | some c =>
      have hlt := (List.getElem?_eq_some_iff.mp hc).1
      obtain ⟨h1, t, e⟩ := bfAll_ok hr rs [] s (fun _ h => h) h hc
      rw [List.nil_append] at h1
      have hlt1 : at_ < (bfAll c rs s).lv.length := by rw [e, List.length_append]; omega
      exact bfRun_ok hr m (at_ + 1) _ (h1.next hlt1) hlt1 (by omega)
theorem bf0_ok {n : Nat} {rs : Rds} {st : Nat} (hs : st < n) : BfI n rs st 0 [] (bf0 n st) := by
  have hf : ∀ x, fnd (bf0 n st) x = if st = x then some 0 else none := fun x => by
    unfold fnd bf0
    dsimp only
    rw [List.getElem?_set]
    split
    · simp [hs]
    · rw [List.getElem?_replicate]
      split <;> rfl
  have one : ∀ {i a : Nat}, (bf0 n st).lv[i]? = some a → i = 0 ∧ a = st := fun {i a} h => by
    unfold bf0 at h
    cases i with
    | zero => simp at h; exact ⟨rfl, h.symm⟩
    | succ i => simp at h
  refine ⟨by simp [bf0], by simp [bf0], fun x hx => ?_, fun x => ?_, fun x d hd => ?_, by rw [hf, if_pos rfl], fun i j a b d e _ ha hb hd he => ?_, fun j a b d e ha hb hd he => ?_, fun i a b d hi => absurd hi (Nat.not_lt_zero _), fun a b d _ _ hb => by simp at hb⟩
  · simp [bf0] at hx; subst hx; exact hs
  · rw [hf]
    simp only [bf0, List.mem_singleton]
    constructor
    · intro h; subst h; exact ⟨0, if_pos rfl⟩
    · rintro ⟨d, hd⟩
      split at hd
      · rename_i h; exact h.symm
      · cases hd
  · rw [hf] at hd
    split at hd
    · rename_i h; subst h; cases hd; exact .nil
    · cases hd
  · rw [(one ha).2] at hd
    rw [(one hb).2, hd] at he
    cases he
    exact Nat.le_refl _
  · rw [(one ha).2] at hd
    rw [(one hb).2, hd] at he
    cases he
    exact Nat.le_succ _
/-- each row of the table is right -/
theorem steps_isD {n : Nat} (hn : n ≤ 9) {rs : Rds} {st : Nat} (hs : st < n) (hr : ∀ q ∈ rs, q.1 < n ∧ q.2 < n) (b : Nat) : IsD rs st b ((stepsOf n rs st)[b]?).join := by
  have h := bfRun_ok hr 60 0 _ (bf0_ok (rs := rs) hs) (Nat.zero_le _) (by omega)
  have key : ∀ {b m : Nat}, Way rs st b m → ∃ d, fnd (bfRun rs 60 0 (bf0 n st)) b = some d ∧ d ≤ m := by
    intro b m w
    induction w with
    | nil => exact ⟨0, h.start, Nat.le_refl _⟩
    | @snoc b c m _ e ih =>
      obtain ⟨d, hd, hle⟩ := ih
      obtain ⟨i, hi⟩ := List.getElem?_of_mem ((h.mem b).mpr ⟨d, hd⟩)
      obtain ⟨e', he', hle'⟩ := h.old i b c d (List.getElem?_eq_some_iff.mp hi).1 hi hd e
      exact ⟨e', he', by omega⟩
  show IsD rs st b (fnd (bfRun rs 60 0 (bf0 n st)) b)
  cases hf : fnd (bfRun rs 60 0 (bf0 n st)) b with
  | none =>
    intro m w
    obtain ⟨d, hd, _⟩ := key w
    rw [hf] at hd
    cases hd
  | some d =>
    refine ⟨h.way b d hf, fun m w => ?_⟩
    obtain ⟨d', hd', hle⟩ := key w
    rw [hf] at hd'
    cases hd'
    exact hle
theorem bf1_len {c : Nat} {s : Srch} {q : Nat × Nat} : (bf1 c s q).fv.length = s.fv.length := by
  unfold bf1
  split
  · split
    · exact List.length_set
    · rfl
  · rfl
theorem bfAll_len {c : Nat} : ∀ {qs : Rds} {s : Srch}, (bfAll c qs s).fv.length = s.fv.length
  | [], _ => rfl
  | q :: qs, s => by
    show (bfAll c qs (bf1 c s q)).fv.length = _
    rw [bfAll_len, bf1_len]
theorem bfRun_len {rs : Rds} : ∀ {m at_ : Nat} {s : Srch}, (bfRun rs m at_ s).fv.length = s.fv.length
  | 0, _, _ => rfl
  | m + 1, at_, s => by
    unfold bfRun
    split
    · rw [bfRun_len, bfAll_len]
    · rfl
theorem steps_len {n : Nat} {rs : Rds} {st : Nat} : (stepsOf n rs st).length = n := by
  unfold stepsOf
  rw [bfRun_len]
  simp [bf0]
end DL
end

section
set_option Elab.async false
set_option linter.all false
set_option maxRecDepth 100000
set_option maxHeartbeats 4000000
namespace DL
/-! M2: lots of places, plain. -/
/-- ascending, below n -/
structure Asc (n : Nat) (l : List Nat) : Prop where
  pw : l.Pairwise (· < ·)
  lt : ∀ x ∈ l, x < n
def nxt (l : List Nat) : Nat := match l.getLast? with
  | some x => x + 1
  | none => 0
def exts (n : Nat) (l : List Nat) : List (List Nat) := (List.range' (nxt l) (n - nxt l)).map fun i => l ++ [i]
def layer (n : Nat) : Nat → List (List Nat)
  | 0 => [[]]
  | k + 1 => (layer n k).flatMap (exts n)
def lotsBy (n : Nat) : Nat → List (List Nat)
  | 0 => [[]]
  | k + 1 => lotsBy n k ++ layer n (k + 1)
theorem asc_nil (n : Nat) : Asc n [] := ⟨.nil, fun x h => by simp at h⟩
theorem nxt_le {l : List Nat} (h : l.Pairwise (· < ·)) {i : Nat} : nxt l ≤ i ↔ ∀ x ∈ l, x < i := by
  unfold nxt
  cases l.eq_nil_or_concat with
  | inl e => subst e; simp
  | inr e =>
    obtain ⟨m, a, rfl⟩ := e
    rw [List.concat_eq_append] at h ⊢
    rw [List.getLast?_concat]
    dsimp only
    rw [List.pairwise_append] at h
    constructor
    · intro hi x hx
      rcases List.mem_append.mp hx with hx | hx
      · have := h.2.2 x hx a (by simp)
        omega
      · rw [List.mem_singleton] at hx; omega
    · intro hx
      exact hx a (by simp)
theorem asc_snoc {n : Nat} {l : List Nat} {i : Nat} : Asc n (l ++ [i]) ↔ Asc n l ∧ nxt l ≤ i ∧ i < n := by
  constructor
  · rintro ⟨h1, h2⟩
    rw [List.pairwise_append] at h1
    refine ⟨⟨h1.1, fun x hx => h2 x (List.mem_append_left _ hx)⟩, (nxt_le h1.1).mpr fun x hx => h1.2.2 x hx i (by simp), h2 i (by simp)⟩
  · rintro ⟨⟨h1, h2⟩, h3, h4⟩
    refine ⟨?_, fun x hx => ?_⟩
    · rw [List.pairwise_append]
      refine ⟨h1, by simp, fun x hx y hy => ?_⟩
      rw [List.mem_singleton] at hy
      subst hy
      exact (nxt_le h1).mp h3 x hx
    · rcases List.mem_append.mp hx with hx | hx
      · exact h2 x hx
      · rw [List.mem_singleton] at hx; omega
theorem mem_exts {n : Nat} {l m : List Nat} : m ∈ exts n l ↔ ∃ i, m = l ++ [i] ∧ nxt l ≤ i ∧ i < n := by
  unfold exts
  rw [List.mem_map]
  constructor
  · rintro ⟨i, hi, rfl⟩
    rw [List.mem_range'_1] at hi
    exact ⟨i, rfl, hi.1, by omega⟩
  · rintro ⟨i, rfl, h1, h2⟩
    exact ⟨i, by rw [List.mem_range'_1]; omega, rfl⟩
theorem mem_layer {n : Nat} : ∀ {k : Nat} {l : List Nat}, l ∈ layer n k ↔ Asc n l ∧ l.length = k
  | 0, l => by
    unfold layer
    rw [List.mem_singleton]
    constructor
    · rintro rfl; exact ⟨asc_nil n, rfl⟩
    · rintro ⟨_, h⟩; exact List.length_eq_zero_iff.mp h
  | k + 1, l => by
    unfold layer
    rw [List.mem_flatMap]
    constructor
    · rintro ⟨m, hm, hl⟩
      obtain ⟨i, rfl, h1, h2⟩ := mem_exts.mp hl
      obtain ⟨h3, h4⟩ := mem_layer.mp hm
      exact ⟨asc_snoc.mpr ⟨h3, h1, h2⟩, by simp [h4]⟩
    · rintro ⟨h1, h2⟩
      cases l.eq_nil_or_concat with
      | inl e => subst e; simp at h2
      | inr e =>
        obtain ⟨m, a, rfl⟩ := e
        rw [List.concat_eq_append] at h1 h2 ⊢
        obtain ⟨h3, h4, h5⟩ := asc_snoc.mp h1
        exact ⟨m, mem_layer.mpr ⟨h3, by simpa using h2⟩, mem_exts.mpr ⟨a, rfl, h4, h5⟩⟩
theorem mem_lots {n : Nat} : ∀ {k : Nat} {l : List Nat}, l ∈ lotsBy n k ↔ Asc n l ∧ l.length ≤ k
  | 0, l => by
    unfold lotsBy
    rw [List.mem_singleton]
    constructor
    · rintro rfl; exact ⟨asc_nil n, Nat.le_refl _⟩
    · rintro ⟨_, h⟩; exact List.length_eq_zero_iff.mp (Nat.le_zero.mp h)
  | k + 1, l => by
    unfold lotsBy
    rw [List.mem_append, mem_lots, mem_layer]
    constructor
    · rintro (⟨h1, h2⟩ | ⟨h1, h2⟩)
      · exact ⟨h1, by omega⟩
      · exact ⟨h1, by omega⟩
    · rintro ⟨h1, h2⟩
      by_cases h : l.length ≤ k
      · exact .inl ⟨h1, h⟩
      · exact .inr ⟨h1, by omega⟩
theorem exts_nodup (n : Nat) (l : List Nat) : (exts n l).Nodup := by
  unfold exts
  rw [List.Nodup, List.pairwise_map]
  refine (List.nodup_range' (step := 1)).imp fun {a b} hab e => hab ?_
  have := List.append_cancel_left e
  simpa using this
theorem layer_nodup (n : Nat) : ∀ k, (layer n k).Nodup
  | 0 => by unfold layer; simp
  | k + 1 => by
    unfold layer
    rw [List.Nodup, List.pairwise_flatMap]
    refine ⟨fun l _ => exts_nodup n l, (layer_nodup n k).imp fun {a b} hab x hx y hy e => hab ?_⟩
    obtain ⟨i, rfl, _⟩ := mem_exts.mp hx
    obtain ⟨j, rfl, _⟩ := mem_exts.mp hy
    exact (List.append_inj' e rfl).1
theorem lots_nodup (n : Nat) : ∀ k, (lotsBy n k).Nodup
  | 0 => by unfold lotsBy; simp
  | k + 1 => by
    unfold lotsBy
    rw [List.nodup_append]
    refine ⟨lots_nodup n k, layer_nodup n _, fun a ha b hb e => ?_⟩
    subst e
    have h1 := (mem_lots.mp ha).2
    have h2 := (mem_layer.mp hb).2
    omega
/-- the lesser lots ahead -/
theorem lots_sizes (n : Nat) : ∀ k, (lotsBy n k).Pairwise fun a b => a.length ≤ b.length
  | 0 => by unfold lotsBy; simp
  | k + 1 => by
    unfold lotsBy
    rw [List.pairwise_append]
    refine ⟨lots_sizes n k, ?_, fun a ha b hb => ?_⟩
    · rw [List.pairwise_iff_forall_sublist]
      intro a b hab
      have h1 := mem_layer.mp (hab.subset (List.mem_cons_self))
      have h2 := mem_layer.mp (hab.subset (List.mem_cons_of_mem _ List.mem_cons_self))
      omega
    · have h1 := (mem_lots.mp ha).2
      have h2 := (mem_layer.mp hb).2
      omega
theorem lots_head (n : Nat) : ∀ k, ∃ r, lotsBy n k = [] :: r
  | 0 => ⟨[], rfl⟩
  | k + 1 => by
    obtain ⟨r, e⟩ := lots_head n k
    exact ⟨r ++ layer n (k + 1), by unfold lotsBy; rw [e]; rfl⟩
theorem lots_mono (n : Nat) : ∀ {k m : Nat}, k ≤ m → (lotsBy n k).length ≤ (lotsBy n m).length
  | k, 0, h => by
    have : k = 0 := by omega
    subst this; exact Nat.le_refl _
  | k, m + 1, h => by
    by_cases e : k = m + 1
    · subst e; exact Nat.le_refl _
    · have := lots_mono n (k := k) (m := m) (by omega)
      show _ ≤ (lotsBy n m ++ layer n (m + 1)).length
      rw [List.length_append]
      omega
theorem lots_all : ∀ n : Fin 10, (lotsBy n.1 n.1).length ≤ 512 := by decide +kernel
theorem lots_len {n k : Nat} (hn : n ≤ 9) (hk : k ≤ n) : (lotsBy n k).length ≤ 512 := Nat.le_trans (lots_mono n hk) (lots_all ⟨n, by omega⟩)
theorem layer_len {n k : Nat} (hn : n ≤ 9) (hk : k ≤ n) : (layer n k).length ≤ 512 := by
  cases k with
  | zero => show 1 ≤ 512; decide
  | succ k =>
    have := lots_len hn hk
    unfold lotsBy at this
    rw [List.length_append] at this
    omega
theorem asc_len {n : Nat} {l : List Nat} (h : Asc n l) : l.length ≤ n := by
  have nd : l.Nodup := h.pw.imp fun {a b} hab => Nat.ne_of_lt hab
  have := nd.length_le_of_subset (l₂ := List.range n) fun x hx => List.mem_range.mpr (h.lt x hx)
  rwa [List.length_range] at this
/-- an ascending list is told by its members -/
theorem asc_ext : ∀ {a b : List Nat}, a.Pairwise (· < ·) → b.Pairwise (· < ·) → (∀ x, x ∈ a ↔ x ∈ b) → a = b
  | [], [], _, _, _ => rfl
  | [], y :: b, _, _, h => absurd ((h y).mpr List.mem_cons_self) (by simp)
  | x :: a, [], _, _, h => absurd ((h x).mp List.mem_cons_self) (by simp)
  | x :: a, y :: b, ha, hb, h => by
    rw [List.pairwise_cons] at ha hb
    have hxy : x = y := by
      rcases List.mem_cons.mp ((h x).mp List.mem_cons_self) with e | e
      · exact e
      · rcases List.mem_cons.mp ((h y).mpr List.mem_cons_self) with e2 | e2
        · exact e2.symm
        · have := hb.1 x e
          have := ha.1 y e2
          omega
    subst hxy
    rw [asc_ext ha.2 hb.2 fun z => ?_]
    have := h z
    rw [List.mem_cons, List.mem_cons] at this
    constructor
    · intro hz
      rcases this.mp (.inr hz) with e | e
      · subst e; exact absurd (ha.1 z hz) (Nat.lt_irrefl _)
      · exact e
    · intro hz
      rcases this.mpr (.inr hz) with e | e
      · subst e; exact absurd (hb.1 z hz) (Nat.lt_irrefl _)
      · exact e
end DL
end

section
set_option Elab.async false
set_option linter.all false
set_option maxRecDepth 100000
set_option maxHeartbeats 4000000
namespace DL
open PySem
/-! the plain law of k02: draws -/
structure Pot where
  cells : List Int
  i : Int
  m : Int
  d : Int
def Pot.mo (p : Pot) : MO := .lst [.lst (p.cells.map .int), .int p.i, .int p.m, .int p.d]
def mus (p : Pot) (r : Store) : Store := some p.mo :: r
structure Pot.Ok (p : Pot) : Prop where
  i0 : 0 ≤ p.i
  len : p.cells.length ≤ 63
  pos : ∀ c ∈ p.cells, 0 ≤ c
  m0 : 0 ≤ p.m
  m1 : p.m < 2147483648
  d0 : 0 ≤ p.d
theorem draw_ok {p : Pot} (h : p.Ok) {many : Int} (h0 : 0 ≤ many) (h1 : many < 2147483648) (r : Store) :
    ∃ v p', f__law_draw [.obj 0, .int many] (mus p r) = .ok (.int v) (mus p' r) ∧ p'.Ok ∧ 0 ≤ v ∧ (v < many ∨ v = 0) := by
  by_cases c1 : many < 2
  · exact ⟨0, p, by simp [f__law_draw, g__law_draw, dFun, sSeq, snext, sIf, sbind, sAsg, sRet, sSkip, sExpr, sPar, sSetI, sSetA, sAug, sFor, sTg, dVar, dC, dNil, dCons, dBind, obind, dTup, dLst, dFrz, MO.d, dReg, dFz, dOp1, dOp2, dCmp, dB2v, dTst, dAnd, dOr, dNot, dIf, dCall, dIx, dLook, lookD, dIsi, dIsi2, dIsC, dIn, dChn, dMut, lstOf, putO, dM1, tyOk, dNw1, dNw2, dSl, dP, dNoP, dIsN, dItQ, dItS, dRg1, dRg2, dEnum, dLc, dYes, noex, Tg.run, gSets, List.length_map, List.length_cons, List.length_nil, List.map_cons, List.map_nil, ltD, c1], h, by omega, by omega⟩
  by_cases c2 : 0 < p.d
  · refine ⟨p.d % many, { p with d := p.d / many }, ?_, ⟨h.i0, h.len, h.pos, h.m0, h.m1, Int.ediv_nonneg h.d0 h0⟩, Int.emod_nonneg _ (by omega), .inl (Int.emod_lt_of_pos _ (by omega))⟩
    have e1 : (0 : Int) < many := by omega
    have e2 : many < 1152921504606846976 := by omega
    simp [f__law_draw, g__law_draw, dFun, sSeq, snext, sIf, sbind, sAsg, sRet, sSkip, sExpr, sPar, sSetI, sSetA, sAug, sFor, sTg, dVar, dC, dNil, dCons, dBind, obind, dTup, dLst, dFrz, MO.d, dReg, dFz, dOp1, dOp2, dCmp, dB2v, dTst, dAnd, dOr, dNot, dIf, dCall, dIx, dLook, lookD, dIsi, dIsi2, dIsC, dIn, dChn, dMut, lstOf, putO, dM1, tyOk, dNw1, dNw2, dSl, dP, dNoP, dIsN, dItQ, dItS, dRg1, dRg2, dEnum, dLc, dYes, noex, Tg.run, gSets, List.length_map, List.length_cons, List.length_nil, List.map_cons, List.map_nil, ltD, gtI, cmpI, c1, c2, mus, Pot.mo, ixD, L2.atI, L2.ixN, setD, intD, arI, e1, e2]
  by_cases c3 : p.i < p.cells.length
  · obtain ⟨j, ej⟩ : ∃ j : Nat, p.i = (j : Int) := ⟨p.i.toNat, by have := h.i0; omega⟩
    have hj : j < p.cells.length := by omega
    have hc : 0 ≤ p.cells[j] := h.pos _ (List.getElem_mem hj)
    have e1 : (0 : Int) < many := by omega
    have e2 : many < 1152921504606846976 := by omega
    by_cases c4 : (1000000000000000000 : Int) ≤ p.cells[j]
    · refine ⟨p.cells[j] % many, { p with i := p.i + 1, d := p.cells[j] / many }, ?_, ⟨by have := h.i0; show 0 ≤ p.i + 1; omega, h.len, h.pos, h.m0, h.m1, Int.ediv_nonneg hc h0⟩, Int.emod_nonneg _ (by omega), .inl (Int.emod_lt_of_pos _ (by omega))⟩
      simp [f__law_draw, g__law_draw, dFun, sSeq, snext, sIf, sbind, sAsg, sRet, sSkip, sExpr, sPar, sSetI, sSetA, sAug, sFor, sTg, dVar, dC, dNil, dCons, dBind, obind, dTup, dLst, dFrz, MO.d, dReg, dFz, dOp1, dOp2, dCmp, dB2v, dTst, dAnd, dOr, dNot, dIf, dCall, dIx, dLook, lookD, dIsi, dIsi2, dIsC, dIn, dChn, dMut, lstOf, putO, dM1, tyOk, dNw1, dNw2, dSl, dP, dNoP, dIsN, dItQ, dItS, dRg1, dRg2, dEnum, dLc, dYes, noex, Tg.run, gSets, List.length_map, List.length_cons, List.length_nil, List.map_cons, List.map_nil, ltD, gtI, geI, cmpI, c1, c2, c3, c4, mus, Pot.mo, ixD, L2.atI, L2.ixN, setD, intD, arI, e1, e2, lenD, addD, ej, hj]
    · have hm : 0 ≤ (p.m * 48271 + p.cells[j] + 12345) % 2147483647 := Int.emod_nonneg _ (by omega)
      have hm2 : (p.m * 48271 + p.cells[j] + 12345) % 2147483647 < 2147483647 := Int.emod_lt_of_pos _ (by omega)
      have m1 : -18446744073709551616 < p.m := by have := h.m0; omega
      have m2 : p.m < 18446744073709551616 := by have := h.m1; omega
      refine ⟨(((p.m * 48271 + p.cells[j] + 12345) % 2147483647) * ((p.m * 48271 + p.cells[j] + 12345) % 2147483647) / 64 + ((p.m * 48271 + p.cells[j] + 12345) % 2147483647) / 7) % many, { p with i := p.i + 1, m := (p.m * 48271 + p.cells[j] + 12345) % 2147483647 }, ?_, ⟨by have := h.i0; show 0 ≤ p.i + 1; omega, h.len, h.pos, hm, by show (p.m * 48271 + p.cells[j] + 12345) % 2147483647 < 2147483648; omega, h.d0⟩, Int.emod_nonneg _ (by omega), .inl (Int.emod_lt_of_pos _ (by omega))⟩
      have m3 : -18446744073709551616 < (p.m * 48271 + p.cells[j] + 12345) % 2147483647 := by omega
      have m4 : (p.m * 48271 + p.cells[j] + 12345) % 2147483647 < 18446744073709551616 := by omega
      simp [f__law_draw, g__law_draw, dFun, sSeq, snext, sIf, sbind, sAsg, sRet, sSkip, sExpr, sPar, sSetI, sSetA, sAug, sFor, sTg, dVar, dC, dNil, dCons, dBind, obind, dTup, dLst, dFrz, MO.d, dReg, dFz, dOp1, dOp2, dCmp, dB2v, dTst, dAnd, dOr, dNot, dIf, dCall, dIx, dLook, lookD, dIsi, dIsi2, dIsC, dIn, dChn, dMut, lstOf, putO, dM1, tyOk, dNw1, dNw2, dSl, dP, dNoP, dIsN, dItQ, dItS, dRg1, dRg2, dEnum, dLc, dYes, noex, Tg.run, gSets, List.length_map, List.length_cons, List.length_nil, List.map_cons, List.map_nil, ltD, gtI, geI, cmpI, c1, c2, c3, c4, mus, Pot.mo, ixD, L2.atI, L2.ixN, setD, intD, arI, e1, e2, lenD, addD, mulD, ej, hj, m1, m2, m3, m4]
  · have hm : 0 ≤ (p.m * 48271 + 0 + 12345) % 2147483647 := Int.emod_nonneg _ (by omega)
    have hm2 : (p.m * 48271 + 0 + 12345) % 2147483647 < 2147483647 := Int.emod_lt_of_pos _ (by omega)
    have m1 : -18446744073709551616 < p.m := by have := h.m0; omega
    have m2 : p.m < 18446744073709551616 := by have := h.m1; omega
    have e1 : (0 : Int) < many := by omega
    have e2 : many < 1152921504606846976 := by omega
    have m3 : -18446744073709551616 < (p.m * 48271 + 12345) % 2147483647 := by omega
    have m4 : (p.m * 48271 + 12345) % 2147483647 < 18446744073709551616 := by omega
    refine ⟨(((p.m * 48271 + 12345) % 2147483647) * ((p.m * 48271 + 12345) % 2147483647) / 64 + ((p.m * 48271 + 12345) % 2147483647) / 7) % many, { p with m := (p.m * 48271 + 12345) % 2147483647 }, ?_, ⟨h.i0, h.len, h.pos, by simpa using hm, by show (p.m * 48271 + 12345) % 2147483647 < 2147483648; omega, h.d0⟩, Int.emod_nonneg _ (by omega), .inl (Int.emod_lt_of_pos _ (by omega))⟩
    simp [f__law_draw, g__law_draw, dFun, sSeq, snext, sIf, sbind, sAsg, sRet, sSkip, sExpr, sPar, sSetI, sSetA, sAug, sFor, sTg, dVar, dC, dNil, dCons, dBind, obind, dTup, dLst, dFrz, MO.d, dReg, dFz, dOp1, dOp2, dCmp, dB2v, dTst, dAnd, dOr, dNot, dIf, dCall, dIx, dLook, lookD, dIsi, dIsi2, dIsC, dIn, dChn, dMut, lstOf, putO, dM1, tyOk, dNw1, dNw2, dSl, dP, dNoP, dIsN, dItQ, dItS, dRg1, dRg2, dEnum, dLc, dYes, noex, Tg.run, gSets, List.length_map, List.length_cons, List.length_nil, List.map_cons, List.map_nil, ltD, gtI, geI, cmpI, c1, c2, c3, mus, Pot.mo, ixD, L2.atI, L2.ixN, setD, intD, arI, e1, e2, lenD, addD, mulD, m1, m2, m3, m4]
end DL
end

section
set_option Elab.async false
set_option linter.all false
set_option maxRecDepth 100000
set_option maxHeartbeats 4000000
namespace DL
open PySem
/-! the plain law of k02: picks, words -/
theorem pick_lst {p : Pot} (h : p.Ok) {l : List D} (h0 : l ≠ []) (h1 : l.length < 2147483648) (r : Store) :
    ∃ d p', f__law_pick [.obj 0, .lst l] (mus p r) = .ok d (mus p' r) ∧ p'.Ok ∧ d ∈ l := by
  obtain ⟨v, p', e, ok, v0, v1⟩ := draw_ok h (many := (l.length : Int)) (by omega) (by omega) r
  have hl : 0 < l.length := List.length_pos_iff.mpr h0
  have hv : v < (l.length : Int) := by omega
  obtain ⟨j, ej⟩ : ∃ j : Nat, v = (j : Int) := ⟨v.toNat, by omega⟩
  subst ej
  have hj : j < l.length := by omega
  refine ⟨l[j], p', ?_, ok, List.getElem_mem hj⟩
  simp [f__law_pick, g__law_pick, dFun, sSeq, snext, sIf, sbind, sAsg, sRet, sSkip, sExpr, sPar, sSetI, sSetA, sAug, sFor, sTg, dVar, dC, dNil, dCons, dBind, obind, dTup, dLst, dFrz, MO.d, dReg, dFz, dOp1, dOp2, dCmp, dB2v, dTst, dAnd, dOr, dNot, dIf, dCall, dIx, dLook, lookD, dIsi, dIsi2, dIsC, dIn, dChn, dMut, lstOf, putO, dM1, tyOk, dNw1, dNw2, dSl, dP, dNoP, dIsN, dItQ, dItS, dRg1, dRg2, dEnum, dLc, dYes, noex, Tg.run, gSets, List.length_map, List.length_cons, List.length_nil, List.map_cons, List.map_nil, lenD, e, ixD, L2.atI, L2.ixN, hj]
theorem pick_str {p : Pot} (h : p.Ok) {z : Str} (h0 : z.length ≠ 0) (h1 : z.length ≤ 16000000) (r : Store) :
    ∃ c p', f__law_pick [.obj 0, .str z] (mus p r) = .ok (.str ⟨#[c]⟩) (mus p' r) ∧ p'.Ok ∧ c ∈ z.cps.toList := by
  obtain ⟨v, p', e, ok, v0, v1⟩ := draw_ok h (many := (z.length : Int)) (by omega) (by omega) r
  have hv : v < (z.length : Int) := by omega
  obtain ⟨j, ej⟩ : ∃ j : Nat, v = (j : Int) := ⟨v.toNat, by omega⟩
  subst ej
  have hj : j < z.length := by omega
  have hj' : j < z.cps.size := hj
  have hs : z.length = z.cps.size := rfl
  refine ⟨z.cps[j], p', ?_, ok, by simp⟩
  simp [f__law_pick, g__law_pick, dFun, sSeq, snext, sIf, sbind, sAsg, sRet, sSkip, sExpr, sPar, sSetI, sSetA, sAug, sFor, sTg, dVar, dC, dNil, dCons, dBind, obind, dTup, dLst, dFrz, MO.d, dReg, dFz, dOp1, dOp2, dCmp, dB2v, dTst, dAnd, dOr, dNot, dIf, dCall, dIx, dLook, lookD, dIsi, dIsi2, dIsC, dIn, dChn, dMut, lstOf, putO, dM1, tyOk, dNw1, dNw2, dSl, dP, dNoP, dIsN, dItQ, dItS, dRg1, dRg2, dEnum, dLc, dYes, noex, Tg.run, gSets, List.length_map, List.length_cons, List.length_nil, List.map_cons, List.map_nil, lenD, h1, e, ixD, L2.atI, L2.ixN]
  simp [hj']
def signs : Str := "abcdefghijklmnopqrstuvwxyz"
theorem signs_len : signs.length = 26 := by decide +kernel
/-- a word of letters -/
def lett (x : Str) : Prop := ∀ c ∈ x.cps.toList, c ∈ signs.cps.toList
def lettersD (cs : List Nat) : List D := cs.map fun c => .str ⟨#[c]⟩
theorem word_loop (r : Store) : ∀ (ds : List D) (acc : List Nat) (p : Pot) (sw : Sl), p.Ok → sw.length = 3 → sw[0]? = some (some (.val (.obj 0))) → (∀ c ∈ acc, c ∈ signs.cps.toList) →
    ∃ cs p', dLcL (.nm 2) sw dYes (dCall f__law_pick (dCons (dVar 0) (dCons (dC (.str signs)) dNil))) ds (lettersD acc) (mus p r) = .ok (.lst (lettersD cs)) (mus p' r) ∧ p'.Ok ∧ (∀ c ∈ cs, c ∈ signs.cps.toList) ∧ cs.length = acc.length + ds.length
  | [], acc, p, sw, h, hl, hs, ha => ⟨acc, p, rfl, h, ha, rfl⟩
  | d :: ds, acc, p, sw, h, hl, hs, ha => by
    obtain ⟨c, p1, e, ok, hc⟩ := pick_str h (z := signs) (by rw [signs_len]; decide) (by rw [signs_len]; decide) r
    obtain ⟨cs, p', e2, ok2, h2, h3⟩ := word_loop r ds (acc ++ [c]) p1 sw ok hl hs (fun x hx => by rcases List.mem_append.mp hx with hx | hx; exact ha x hx; rw [List.mem_singleton] at hx; subst hx; exact hc)
    refine ⟨cs, p', ?_, ok2, h2, by rw [h3]; simp; omega⟩
    have hs2 : (sw.set 2 (some (.val d)))[0]? = some (some (.val (.obj 0))) := by rw [List.getElem?_set_ne (by decide)]; exact hs
    rw [← e2]
    conv => lhs; unfold dLcL
    simp [Tg.run, dYes, noex, obind, dCall, dBind, dCons, dVar, dC, dNil, hs2, e, lettersD]
theorem joinL_nil : ∀ L : List (List Nat), TL.joinL [] L = L.flatten
  | [] => rfl
  | [p] => by simp [TL.joinL]
  | p :: q :: r => by
    have := joinL_nil (q :: r)
    simp only [TL.joinL, List.nil_append, this, List.flatten_cons]
theorem tl_join0 (ys : List Str) : TL.tl (Txt.join "" ys) = (ys.map TL.tl).flatten := by
  rw [TL.join_eq, TL.tl_join, show TL.tl ("" : Str) = [] from rfl, joinL_nil]
theorem join_signs (cs : List Nat) : Txt.join "" (cs.map fun c => (⟨#[c]⟩ : Str)) = ⟨cs.toArray⟩ := by
  apply TL.ext_tl
  rw [tl_join0, List.map_map, TL.tl_mk]
  induction cs with
  | nil => rfl
  | cons c cs ih =>
    rw [List.map_cons, List.flatten_cons, ih]
    rfl
theorem strsD_letters : ∀ cs : List Nat, strsD (lettersD cs) = some (cs.map fun c => (⟨#[c]⟩ : Str))
  | [] => rfl
  | c :: cs => by
    have := strsD_letters cs
    unfold lettersD at this ⊢
    rw [List.map_cons]
    unfold strsD
    rw [this]
    rfl
theorem letters_len (cs : List Nat) : ((cs.map fun c => (⟨#[c]⟩ : Str)).map (·.length)).sum = cs.length := by
  induction cs with
  | nil => rfl
  | cons c cs ih => rw [List.map_cons, List.map_cons, List.sum_cons, ih, List.length_cons]; show 1 + cs.length = _; omega
/-- letters, not none, up to eight -/
structure Word (x : Str) : Prop where
  let_ : ∀ c ∈ TL.tl x, c ∈ TL.tl signs
  pos : 1 ≤ x.length
  le : x.length ≤ 8
theorem word_q {p : Pot} (h : p.Ok) {n : Nat} (hn : n ≤ 100) (r : Store) : ∃ cs p', q__law_word_1 [some (.val (.obj 0)), some (.val (.int (n : Int))), none] (mus p r) = .ok (.lst (lettersD cs)) (mus p' r) ∧ p'.Ok ∧ (∀ c ∈ cs, c ∈ TL.tl signs) ∧ cs.length = n := by
  obtain ⟨cs, p', e, ok, h2, h3⟩ := word_loop r (rangeD 0 n) [] p (wipeS [some (.val (.obj 0)), some (.val (.int (n : Int))), none] [2]) h rfl rfl (fun _ h => by cases h)
  rw [rangeD_len, List.length_nil, Nat.zero_add] at h3
  refine ⟨cs, p', ?_, ok, h2, h3⟩
  have h1 : rgOk (n : Int) = true := rgOk_nat (by omega)
  have hs : sizeOk (rangeD 0 n) = true := by unfold sizeOk; rw [rangeD_len]; exact decide_eq_true (by omega)
  rw [← e]
  unfold q__law_word_1 dLc dRg1 dBind obind dVar
  simp only [List.getElem?_cons_succ, List.getElem?_cons_zero, h1, if_true, Int.toNat_natCast, hs]
  rfl
theorem word_ok {p : Pot} (h : p.Ok) (r : Store) : ∃ w p', f__law_word [.obj 0] (mus p r) = .ok (.str w) (mus p' r) ∧ p'.Ok ∧ Word w := by
  obtain ⟨v, p1, e, ok, v0, v1⟩ := draw_ok h (many := 6) (by decide) (by decide) r
  by_cases hv : v = 0
  · subst hv
    obtain ⟨d, p2, e2, ok2, hd⟩ := pick_lst ok (l := [.str "spot", .str "road", .str "over"]) (by simp) (by decide) r
    have : ∃ w : Str, d = .str w ∧ Word w := by
      simp only [List.mem_cons, List.not_mem_nil, or_false] at hd
      rcases hd with rfl | rfl | rfl
      · exact ⟨_, rfl, by decide +kernel, by decide +kernel, by decide +kernel⟩
      · exact ⟨_, rfl, by decide +kernel, by decide +kernel, by decide +kernel⟩
      · exact ⟨_, rfl, by decide +kernel, by decide +kernel, by decide +kernel⟩
    obtain ⟨w, rfl, hw⟩ := this
    exact ⟨w, p2, by simp [f__law_word, g__law_word, dFun, sSeq, snext, sIf, sbind, sAsg, sRet, sSkip, sExpr, sPar, sSetI, sSetA, sAug, sFor, sTg, dVar, dC, dNil, dCons, dBind, obind, dTup, dLst, dFrz, MO.d, dReg, dFz, dOp1, dOp2, dCmp, dB2v, dTst, dAnd, dOr, dNot, dIf, dCall, dIx, dLook, lookD, dIsi, dIsi2, dIsC, dIn, dChn, dMut, lstOf, putO, dM1, tyOk, dNw1, dNw2, dSl, dP, dNoP, dIsN, dItQ, dItS, dRg1, dRg2, dEnum, dLc, dYes, noex, Tg.run, gSets, List.length_map, List.length_cons, List.length_nil, List.map_cons, List.map_nil, e, eqD, toP, PyData.depth, PyData.eqv, e2], ok2, hw⟩
  · obtain ⟨d, p2, e2, ok2, hd⟩ := pick_lst ok (l := [.int 1, .int 2, .int 3, .int 5, .int 8]) (by simp) (by decide) r
    have : ∃ n : Nat, d = .int (n : Int) ∧ 1 ≤ n ∧ n ≤ 8 := by
      simp only [List.mem_cons, List.not_mem_nil, or_false] at hd
      rcases hd with rfl | rfl | rfl | rfl | rfl
      · exact ⟨1, rfl, by decide, by decide⟩
      · exact ⟨2, rfl, by decide, by decide⟩
      · exact ⟨3, rfl, by decide, by decide⟩
      · exact ⟨5, rfl, by decide, by decide⟩
      · exact ⟨8, rfl, by decide, by decide⟩
    obtain ⟨n, rfl, n1, n8⟩ := this
    obtain ⟨cs, p3, e3, ok3, h2, h3⟩ := word_q ok2 (n := n) (by omega) r
    refine ⟨⟨cs.toArray⟩, p3, ?_, ok3, ⟨h2, ?_, ?_⟩⟩
    · have hj : joinD (.str "") (.lst (lettersD cs)) = some (.str ⟨cs.toArray⟩) := by
        unfold joinD
        dsimp only
        rw [strsD_letters]
        dsimp only
        rw [letters_len, List.length_map, if_pos (by rw [show ("" : Str).length = 0 from rfl]; omega), join_signs]
      simp [f__law_word, g__law_word, dFun, sSeq, snext, sIf, sbind, sAsg, sRet, sSkip, sExpr, sPar, sSetI, sSetA, sAug, sFor, sTg, dVar, dC, dNil, dCons, dBind, obind, dTup, dLst, dFrz, MO.d, dReg, dFz, dOp1, dOp2, dCmp, dB2v, dTst, dAnd, dOr, dNot, dIf, dCall, dIx, dLook, lookD, dIsi, dIsi2, dIsC, dIn, dChn, dMut, lstOf, putO, dM1, tyOk, dNw1, dNw2, dSl, dP, dNoP, dIsN, dItQ, dItS, dRg1, dRg2, dEnum, dLc, dYes, noex, Tg.run, gSets, List.length_map, List.length_cons, List.length_nil, List.map_cons, List.map_nil, e, eqD, toP, PyData.depth, PyData.eqv, hv, e2, e3, hj]
    · show 1 ≤ cs.toArray.size
      simp; omega
    · show cs.toArray.size ≤ 8
      simp; omega
end DL
end

section
set_option Elab.async false
set_option linter.all false
set_option maxRecDepth 100000
set_option maxHeartbeats 4000000
namespace DL
open PySem
/-! the plain law of k02: names -/
/-- a comprehension that leaves the store as it is -/
theorem lcL_pure {g : Tg} {sw : Sl} {c : BF} {elt : EF} {mu : Store} (T : D → Option D) : ∀ (ds acc : List D), (∀ d ∈ ds, ∃ sl1, g.run d sw = some sl1 ∧ ((∃ y, T d = some y ∧ c sl1 mu = .ok true mu ∧ elt sl1 mu = .ok y mu) ∨ (T d = none ∧ c sl1 mu = .ok false mu))) →
    dLcL g sw c elt ds acc mu = .ok (.lst (acc ++ ds.filterMap T)) mu
  | [], acc, _ => by rw [List.filterMap_nil, List.append_nil]; rfl
  | d :: ds, acc, h => by
    obtain ⟨sl1, e1, h1⟩ := h d List.mem_cons_self
    have ih := fun acc => lcL_pure (g := g) (sw := sw) (c := c) (elt := elt) (mu := mu) T ds acc fun x hx => h x (List.mem_cons_of_mem _ hx)
    rcases h1 with ⟨y, t, e2, e3⟩ | ⟨t, e2⟩
    · rw [List.filterMap_cons_some t]
      unfold dLcL
      simp only [e1, e2, e3, noex, obind, if_true]
      rw [ih, List.append_assoc]
      rfl
    · rw [List.filterMap_cons_none t]
      unfold dLcL
      simp only [e1, e2, noex, obind, Bool.false_eq_true, if_false]
      exact ih acc
theorem lc_pure {src : LF} {g : Tg} {own : List Nat} {c : BF} {elt : EF} {sl : Sl} {mu : Store} {ds : List D} (T : D → Option D) (hs : src sl mu = .ok ds mu) (hz : ds.length ≤ 16000000)
    (h : ∀ d ∈ ds, ∃ sl1, g.run d (wipeS sl own) = some sl1 ∧ ((∃ y, T d = some y ∧ c sl1 mu = .ok true mu ∧ elt sl1 mu = .ok y mu) ∨ (T d = none ∧ c sl1 mu = .ok false mu))) :
    dLc src g own c elt sl mu = .ok (.lst (ds.filterMap T)) mu := by
  unfold dLc dBind obind
  rw [hs]
  have e : sizeOk ds = true := decide_eq_true hz
  simp only [e, if_true]
  rw [lcL_pure T ds [] h, List.nil_append]
/-- .. every one -/
theorem lc_all {src : LF} {g : Tg} {own : List Nat} {elt : EF} {sl : Sl} {mu : Store} {ds : List D} (T : D → D) (hs : src sl mu = .ok ds mu) (hz : ds.length ≤ 16000000)
    (h : ∀ d ∈ ds, ∃ sl1, g.run d (wipeS sl own) = some sl1 ∧ elt sl1 mu = .ok (T d) mu) : dLc src g own dYes elt sl mu = .ok (.lst (ds.map T)) mu := by
  have := lc_pure (src := src) (g := g) (own := own) (c := dYes) (elt := elt) (sl := sl) (mu := mu) (ds := ds) (fun d => some (T d)) hs hz fun d hd => by
    obtain ⟨sl1, e1, e2⟩ := h d hd
    exact ⟨sl1, e1, .inl ⟨_, rfl, rfl, e2⟩⟩
  rw [this]
  congr 2
  induction ds with
  | nil => rfl
  | cons d ds ih => simp
def resv : List Str := ["spot", "road", "over"]
theorem str_beq (a b : Str) : (a == b) = decide (b = a) := by
  rw [Bool.eq_iff_iff, beq_iff_eq, decide_eq_true_iff]
  exact eq_comm
theorem any_strs (x : Str) : ∀ ys : List Str, ((ys.map PyData.str).any fun y => PyData.eqv y (.str x)) = decide (x ∈ ys)
  | [] => rfl
  | y :: ys => by
    rw [List.map_cons, List.any_cons, any_strs x ys]
    show (y == x || decide (x ∈ ys)) = _
    rw [str_beq]
    simp
theorem depth_strs : ∀ ys : List Str, PyData.depthAll (ys.map PyData.str) = 0
  | [] => by simp [PyData.depthAll]
  | y :: ys => by
    rw [List.map_cons]
    simp [PyData.depthAll, PyData.depth, depth_strs ys]
theorem in_strs (x : Str) (ys : List Str) : inD (.str x) (.lst (ys.map D.str)) = some (decide (x ∈ ys)) := by
  unfold inD
  simp only [toP, toPL_strs, depth_strs, any_strs]
  rw [if_pos (by simp [PyData.depth])]
theorem in_strsT (x : Str) (ys : List Str) : inD (.str x) (.tup (ys.map D.str)) = some (decide (x ∈ ys)) := by
  unfold inD
  simp only [toP, toPL_strs, depth_strs, any_strs]
  rw [if_pos (by simp [PyData.depth])]
theorem in_resv (x : Str) : inD (.str x) (.tup [.str "spot", .str "road", .str "over"]) = some (decide (x ∈ resv)) := in_strsT x resv
theorem signs_in (c : Nat) : inD (.str ⟨#[c]⟩) (.str "abcdefghijklmnopqrstuvwxyz") = some (decide (c ∈ TL.tl signs)) := rfl
theorem q_law_is_name {x : Str} (h : Word x) (mu : Store) : q__law_is_name_1 [some (.val (.str x)), none] mu = .ok (.lst (signsD x)) mu := by
  have := lc_pure (src := dItS (dVar 0)) (g := .nm 1) (own := [1]) (c := dIn false (dVar 1) (dLook (dC (.str "abcdefghijklmnopqrstuvwxyz")))) (elt := dVar 1) (sl := [some (.val (.str x)), none]) (mu := mu) (ds := signsD x) some rfl
    (by unfold signsD; rw [List.length_map]; have := h.le; have e : x.length = x.cps.toList.length := by simp [Str.length]
        omega) (fun d hd => by
      unfold signsD at hd
      obtain ⟨c, hc, rfl⟩ := List.mem_map.mp hd
      refine ⟨_, rfl, .inl ⟨_, rfl, ?_, rfl⟩⟩
      have : decide (c ∈ TL.tl signs) = true := decide_eq_true (h.let_ c hc)
      have hm : c ∈ signs.cps := by simpa using h.let_ c hc
      simp [wipeS, dFun, sSeq, snext, sIf, sbind, sAsg, sRet, sSkip, sExpr, sPar, sSetI, sSetA, sAug, sFor, sTg, dVar, dC, dNil, dCons, dBind, obind, dTup, dLst, dFrz, MO.d, dReg, dFz, dOp1, dOp2, dCmp, dB2v, dTst, dAnd, dOr, dNot, dIf, dCall, dIx, dLook, lookD, dIsi, dIsi2, dIsC, dIn, dChn, dMut, lstOf, putO, dM1, tyOk, dNw1, dNw2, dSl, dP, dNoP, dIsN, dItQ, dItS, dRg1, dRg2, dEnum, dLc, dYes, noex, Tg.run, gSets, List.length_map, List.length_cons, List.length_nil, List.map_cons, List.map_nil, signs_in, hm])
  rw [List.filterMap_some] at this
  exact this
theorem law_is_name {x : Str} (h : Word x) (mu : Store) : f__law_is_name [.str x] mu = .ok (.bl (!decide (x ∈ resv))) mu := by
  have h1 : (1 : Int) ≤ (x.length : Int) := by have := h.pos; omega
  have h2 : (x.length : Int) ≤ 8 := by have := h.le; omega
  have h3 : x.length ≤ 16000000 := by have := h.le; omega
  have hl : ((signsD x).length : Int) = (x.length : Int) := by unfold signsD; simp [Str.length]
  by_cases hx : x ∈ resv
  · simp [f__law_is_name, g__law_is_name, dFun, sSeq, snext, sIf, sbind, sAsg, sRet, sSkip, sExpr, sPar, sSetI, sSetA, sAug, sFor, sTg, dVar, dC, dNil, dCons, dBind, obind, dTup, dLst, dFrz, MO.d, dReg, dFz, dOp1, dOp2, dCmp, dB2v, dTst, dAnd, dOr, dNot, dIf, dCall, dIx, dLook, lookD, dIsi, dIsi2, dIsC, dIn, dChn, dMut, lstOf, putO, dM1, tyOk, dNw1, dNw2, dSl, dP, dNoP, dIsN, dItQ, dItS, dRg1, dRg2, dEnum, dLc, dYes, noex, Tg.run, gSets, List.length_map, List.length_cons, List.length_nil, List.map_cons, List.map_nil, isiOk, isTy, lenD, leI, cmpI, h3, h1, h2, in_resv, hx]
  · simp [f__law_is_name, g__law_is_name, dFun, sSeq, snext, sIf, sbind, sAsg, sRet, sSkip, sExpr, sPar, sSetI, sSetA, sAug, sFor, sTg, dVar, dC, dNil, dCons, dBind, obind, dTup, dLst, dFrz, MO.d, dReg, dFz, dOp1, dOp2, dCmp, dB2v, dTst, dAnd, dOr, dNot, dIf, dCall, dIx, dLook, lookD, dIsi, dIsi2, dIsC, dIn, dChn, dMut, lstOf, putO, dM1, tyOk, dNw1, dNw2, dSl, dP, dNoP, dIsN, dItQ, dItS, dRg1, dRg2, dEnum, dLc, dYes, noex, Tg.run, gSets, List.length_map, List.length_cons, List.length_nil, List.map_cons, List.map_nil, isiOk, isTy, lenD, leI, cmpI, h3, h1, h2, in_resv, hx, q_law_is_name h, hl, eqD, toP, PyData.depth, PyData.eqv]
/-! names -/
structure Name (x : Str) : Prop extends Word x where
  free : x ∉ resv
/-- unlike names -/
structure Names (l : List Str) : Prop where
  all : ∀ x ∈ l, Name x
  nd : l.Nodup
  le : l.length ≤ 9
def sg (c : Nat) : Str := ⟨#[c]⟩
theorem signsD_eq (x : Str) : signsD x = (TL.tl x).map fun c => .str (sg c) := rfl
theorem tl_sg (x : Str) (c : Nat) : TL.tl (x ++ sg c) = TL.tl x ++ [c] := TL.tl_append x (sg c)
theorem len_sg (x : Str) (c : Nat) : (x ++ sg c).length = x.length + 1 := by rw [TL.len_tl, TL.len_tl, tl_sg, List.length_append]; rfl
def cands (w : Str) : List Str := (TL.tl signs).map fun c => w ++ sg c
theorem q_names_1 {w : Str} (h : w.length ≤ 7) (mu : Store) {a0 a1 a2 a3 a5 a6 a7 : Option SV} : q__law_names_1 [a0, a1, a2, a3, some (.val (.str w)), a5, a6, a7] mu = .ok (.lst ((cands w).map D.str)) mu := by
  have := lc_all (src := dItS (dC (.str "abcdefghijklmnopqrstuvwxyz"))) (g := .nm 6) (own := [6]) (elt := dOp2 addD (dVar 4) (dVar 6)) (sl := [a0, a1, a2, a3, some (.val (.str w)), a5, a6, a7]) (mu := mu) (ds := signsD signs)
    (fun d => match d with | .str s => .str (w ++ s) | d => d) rfl (by decide +kernel) (fun d hd => by
      rw [signsD_eq] at hd
      obtain ⟨c, hc, rfl⟩ := List.mem_map.mp hd
      refine ⟨_, rfl, ?_⟩
      have h1 : w.length + (sg c).length ≤ 16000000 := by show w.length + 1 ≤ _; omega
      simp [wipeS, dFun, sSeq, snext, sIf, sbind, sAsg, sRet, sSkip, sExpr, sPar, sSetI, sSetA, sAug, sFor, sTg, dVar, dC, dNil, dCons, dBind, obind, dTup, dLst, dFrz, MO.d, dReg, dFz, dOp1, dOp2, dCmp, dB2v, dTst, dAnd, dOr, dNot, dIf, dCall, dIx, dLook, lookD, dIsi, dIsi2, dIsC, dIn, dChn, dMut, lstOf, putO, dM1, tyOk, dNw1, dNw2, dSl, dP, dNoP, dIsN, dItQ, dItS, dRg1, dRg2, dEnum, dLc, dYes, noex, Tg.run, gSets, List.length_map, List.length_cons, List.length_nil, List.map_cons, List.map_nil, addD, h1])
  rw [show q__law_names_1 = dLc (dItS (dC (.str "abcdefghijklmnopqrstuvwxyz"))) (.nm 6) [6] dYes (dOp2 addD (dVar 4) (dVar 6)) from rfl, this]
  rw [signsD_eq, cands, List.map_map, List.map_map]
  rfl
theorem cand_word {w x : Str} (hl : ∀ c ∈ TL.tl w, c ∈ TL.tl signs) (h : w.length ≤ 7) (hx : x ∈ cands w) : Word x := by
  obtain ⟨c, hc, rfl⟩ := List.mem_map.mp hx
  refine ⟨fun d hd => ?_, by rw [len_sg]; omega, by rw [len_sg]; omega⟩
  rw [tl_sg] at hd
  rcases List.mem_append.mp hd with hd | hd
  · exact hl d hd
  · rw [List.mem_singleton] at hd; subst hd; exact hc
theorem filterMap_filter (P : Str → Bool) : ∀ l : List Str, (l.map D.str).filterMap (fun d => match d with
    | .str x => if P x = true then some (.str x) else none
    | _ => none) = (l.filter P).map D.str
  | [] => rfl
  | x :: l => by
    have ih := filterMap_filter P l
    cases h : P x
    · rw [List.filter_cons_of_neg (by rw [h]; decide), ← ih, List.map_cons, List.filterMap_cons_none (by simp [h])]
    · rw [List.filter_cons_of_pos h, List.map_cons, List.map_cons, ← ih, List.filterMap_cons_some (b := D.str x) (by simp [h])]
/-- those not yet found that are names -/
def fresh (w : Str) (found : List Str) : List Str := (cands w).filter fun x => !decide (x ∈ found) && !decide (x ∈ resv)
theorem q_names_2 {w : Str} (hl : ∀ c ∈ TL.tl w, c ∈ TL.tl signs) (h : w.length ≤ 7) {found : List Str} (p : Pot) (r : Store) {a0 a1 a3 a4 a6 a7 : Option SV} :
    q__law_names_2 [a0, a1, some (.val (.obj (r.length + 1))), a3, a4, some (.val (.lst ((cands w).map D.str))), a6, a7] (mus p (r ++ [some (.lst (found.map D.str))])) = .ok (.lst ((fresh w found).map D.str)) (mus p (r ++ [some (.lst (found.map D.str))])) := by
  have hlen : ((cands w).map D.str).length ≤ 16000000 := by unfold cands; rw [List.length_map, List.length_map]; decide +kernel
  have hget : (mus p (r ++ [some (.lst (found.map D.str))]))[r.length + 1]? = some (some (.lst (found.map D.str))) := by unfold mus; simp
  have := lc_pure (src := dItQ (dVar 5)) (g := .nm 7) (own := [7]) (c := dAnd (dIn true (dVar 7) (dLook (dVar 2))) (dTst (dCall f__law_is_name (dCons (dVar 7) dNil)))) (elt := dVar 7)
    (sl := [a0, a1, some (.val (.obj (r.length + 1))), a3, a4, some (.val (.lst ((cands w).map D.str))), a6, a7]) (mu := mus p (r ++ [some (.lst (found.map D.str))])) (ds := (cands w).map D.str)
    (fun d => match d with | .str x => if (!decide (x ∈ found) && !decide (x ∈ resv)) = true then some (.str x) else none | _ => none) rfl hlen (fun d hd => by
      obtain ⟨x, hx, rfl⟩ := List.mem_map.mp hd
      refine ⟨_, rfl, ?_⟩
      have hn := law_is_name (cand_word hl h hx) (mus p (r ++ [some (.lst (found.map D.str))]))
      by_cases h1 : x ∈ found
      · exact .inr ⟨by simp [h1], by simp [wipeS, dFun, sSeq, snext, sIf, sbind, sAsg, sRet, sSkip, sExpr, sPar, sSetI, sSetA, sAug, sFor, sTg, dVar, dC, dNil, dCons, dBind, obind, dTup, dLst, dFrz, MO.d, dReg, dFz, dOp1, dOp2, dCmp, dB2v, dTst, dAnd, dOr, dNot, dIf, dCall, dIx, dLook, lookD, dIsi, dIsi2, dIsC, dIn, dChn, dMut, lstOf, putO, dM1, tyOk, dNw1, dNw2, dSl, dP, dNoP, dIsN, dItQ, dItS, dRg1, dRg2, dEnum, dLc, dYes, noex, Tg.run, gSets, List.length_map, List.length_cons, List.length_nil, List.map_cons, List.map_nil, hget, in_strs, h1]⟩
      · by_cases h2 : x ∈ resv
        · exact .inr ⟨by simp [h2], by simp [wipeS, dFun, sSeq, snext, sIf, sbind, sAsg, sRet, sSkip, sExpr, sPar, sSetI, sSetA, sAug, sFor, sTg, dVar, dC, dNil, dCons, dBind, obind, dTup, dLst, dFrz, MO.d, dReg, dFz, dOp1, dOp2, dCmp, dB2v, dTst, dAnd, dOr, dNot, dIf, dCall, dIx, dLook, lookD, dIsi, dIsi2, dIsC, dIn, dChn, dMut, lstOf, putO, dM1, tyOk, dNw1, dNw2, dSl, dP, dNoP, dIsN, dItQ, dItS, dRg1, dRg2, dEnum, dLc, dYes, noex, Tg.run, gSets, List.length_map, List.length_cons, List.length_nil, List.map_cons, List.map_nil, hget, in_strs, h1, hn, h2]⟩
        · exact .inl ⟨.str x, by simp [h1, h2], by simp [wipeS, dFun, sSeq, snext, sIf, sbind, sAsg, sRet, sSkip, sExpr, sPar, sSetI, sSetA, sAug, sFor, sTg, dVar, dC, dNil, dCons, dBind, obind, dTup, dLst, dFrz, MO.d, dReg, dFz, dOp1, dOp2, dCmp, dB2v, dTst, dAnd, dOr, dNot, dIf, dCall, dIx, dLook, lookD, dIsi, dIsi2, dIsC, dIn, dChn, dMut, lstOf, putO, dM1, tyOk, dNw1, dNw2, dSl, dP, dNoP, dIsN, dItQ, dItS, dRg1, dRg2, dEnum, dLc, dYes, noex, Tg.run, gSets, List.length_map, List.length_cons, List.length_nil, List.map_cons, List.map_nil, hget, in_strs, h1, hn, h2], rfl⟩)
  rw [show q__law_names_2 = dLc (dItQ (dVar 5)) (.nm 7) [7] (dAnd (dIn true (dVar 7) (dLook (dVar 2))) (dTst (dCall f__law_is_name (dCons (dVar 7) dNil)))) (dVar 7) from rfl, this]
  congr 2
  exact filterMap_filter (fun x => !decide (x ∈ found) && !decide (x ∈ resv)) (cands w)
/-! there is always one -/
theorem cands_nodup (w : Str) : (cands w).Nodup := by
  have h : (TL.tl signs).Nodup := by decide +kernel
  unfold cands
  rw [List.Nodup, List.pairwise_map]
  refine h.imp fun {a b} hab e => hab ?_
  have := congrArg TL.tl e
  rw [tl_sg, tl_sg] at this
  have := List.append_cancel_left this
  exact List.head_eq_of_cons_eq this
theorem cands_len (w : Str) : (cands w).length = 26 := by unfold cands; rw [List.length_map]; decide +kernel
theorem fresh_ne {w : Str} {found : List Str} (h : found.length ≤ 9) : fresh w found ≠ [] := by
  intro e
  have sub : ∀ x ∈ cands w, x ∈ found ++ resv := by
    intro x hx
    have : x ∉ fresh w found := by rw [e]; simp
    unfold fresh at this
    rw [List.mem_filter] at this
    by_cases h1 : x ∈ found
    · exact List.mem_append_left _ h1
    · by_cases h2 : x ∈ resv
      · exact List.mem_append_right _ h2
      · exact absurd ⟨hx, by simp [h1, h2]⟩ this
  have := (cands_nodup w).length_le_of_subset sub
  rw [cands_len, List.length_append] at this
  have h3 : resv.length = 3 := rfl
  omega
theorem cut7 (w : Str) : TL.tl (L2.cutS w none (some 7)) = (TL.tl w).take 7 := by
  unfold L2.cutS
  rw [TL.tl_mk]
  have e : HT.sIx w.length w.length (some 7) = min 7 w.length := HT.sIx_nat _ _ 7
  rw [e, HT.sIx_none, List.drop_zero, Nat.sub_zero]
  have : w.length = (TL.tl w).length := TL.len_tl w
  rw [this]
  by_cases h : 7 ≤ (TL.tl w).length
  · rw [Nat.min_eq_left h]
  · rw [Nat.min_eq_right (by omega), List.take_of_length_le (Nat.le_refl _), List.take_of_length_le (by omega)]
/-- a turn -/
theorem names_turn {p : Pot} (h : p.Ok) {found : List Str} (hf : Names found) (hl : found.length ≤ 8) (r : Store) {a1 x3 x4 x5 : Option SV} : ∃ x p' y4 y5,
    b__law_names_1 [some (.val (.obj 0)), a1, some (.val (.obj (r.length + 1))), x3, x4, x5, none, none] (mus p (r ++ [some (.lst (found.map D.str))])) =
      .nx [some (.val (.obj 0)), a1, some (.val (.obj (r.length + 1))), x3, y4, y5, none, none] (mus p' (r ++ [some (.lst ((found ++ [x]).map D.str))])) ∧ p'.Ok ∧ Names (found ++ [x]) := by
  obtain ⟨w, p1, e1, ok, hw⟩ := word_ok h (r ++ [some (.lst (found.map D.str))])
  have hl7 : ∀ c ∈ TL.tl (L2.cutS w none (some 7)), c ∈ TL.tl signs := fun c hc => by
    rw [cut7] at hc
    exact hw.let_ c (List.mem_of_mem_take hc)
  have hlen : (L2.cutS w none (some 7)).length ≤ 7 := by
    rw [TL.len_tl, cut7]
    exact List.length_take_le 7 _
  have e2 := q_names_1 hlen (mus p1 (r ++ [some (.lst (found.map D.str))])) (a0 := some (.val (.obj 0))) (a1 := a1) (a2 := some (.val (.obj (r.length + 1)))) (a3 := x3) (a5 := x5) (a6 := none) (a7 := none)
  have e3 := q_names_2 hl7 hlen (found := found) p1 r (a0 := some (.val (.obj 0))) (a1 := a1) (a3 := x3) (a4 := some (.val (.str (L2.cutS w none (some 7))))) (a6 := none) (a7 := none)
  obtain ⟨x, l, e4⟩ : ∃ x l, fresh (L2.cutS w none (some 7)) found = x :: l := by
    cases q : fresh (L2.cutS w none (some 7)) found with
    | nil => exact absurd q (fresh_ne (by omega))
    | cons x l => exact ⟨x, l, rfl⟩
  have hx : x ∈ fresh (L2.cutS w none (some 7)) found := by rw [e4]; exact List.mem_cons_self
  unfold fresh at hx
  rw [List.mem_filter] at hx
  obtain ⟨hx1, hx2⟩ := hx
  have hx3 : x ∉ found ∧ x ∉ resv := by simpa using hx2
  rw [e4] at e3
  have hw16 : w.length ≤ 16000000 := by have := hw.le; omega
  have hget : (mus p1 (r ++ [some (.lst (found.map D.str))]))[r.length + 1]? = some (some (.lst (found.map D.str))) := by unfold mus; simp
  have hset : ∀ m : MO, (mus p1 (r ++ [some (.lst (found.map D.str))])).set (r.length + 1) (some m) = mus p1 (r ++ [some m]) := fun m => by unfold mus; simp
  have hf16 : found.length < 16000000 := by omega
  have hix : ixD (.lst (D.str x :: l.map D.str)) (.int 0) = some (.str x) := by simp [ixD, L2.atI, L2.ixN]
  refine ⟨x, p1, some (.val (.str (L2.cutS w none (some 7)))), some (.val (.lst ((cands (L2.cutS w none (some 7))).map D.str))), ?_, ok, ⟨fun y hy => ?_, ?_, by rw [List.length_append]; show found.length + 1 ≤ 9; omega⟩⟩
  · simp [b__law_names_1, dFun, sSeq, snext, sIf, sbind, sAsg, sRet, sSkip, sExpr, sPar, sSetI, sSetA, sAug, sFor, sTg, dVar, dC, dNil, dCons, dBind, obind, dTup, dLst, dFrz, MO.d, dReg, dFz, dOp1, dOp2, dCmp, dB2v, dTst, dAnd, dOr, dNot, dIf, dCall, dIx, dLook, lookD, dIsi, dIsi2, dIsC, dIn, dChn, dMut, lstOf, putO, dM1, tyOk, dNw1, dNw2, dSl, dP, dNoP, dIsN, dItQ, dItS, dRg1, dRg2, dEnum, dLc, dYes, noex, Tg.run, gSets, List.length_map, List.length_cons, List.length_nil, List.map_cons, List.map_nil, e1, sliceD, hw16, e2, e3, hget, appD, hf16, hset, hix]
  · rcases List.mem_append.mp hy with hy | hy
    · exact hf.all y hy
    · rw [List.mem_singleton] at hy
      subst hy
      exact { cand_word hl7 hlen hx1 with free := hx3.2 }
  · rw [List.nodup_append]
    refine ⟨hf.nd, by simp, fun a ha b hb => ?_⟩
    rw [List.mem_singleton] at hb
    subst hb
    exact fun e => hx3.1 (e ▸ ha)
theorem names_loop (r : Store) (a1 : Option SV) : ∀ (ds : List D) (found : List Str) (p : Pot) (x3 x4 x5 : Option SV), p.Ok → Names found → found.length + ds.length ≤ 9 → ∃ fs p' y3 y4 y5,
    sForL (.nm 3) b__law_names_1 ds [some (.val (.obj 0)), a1, some (.val (.obj (r.length + 1))), x3, x4, x5, none, none] (mus p (r ++ [some (.lst (found.map D.str))])) =
      .nx [some (.val (.obj 0)), a1, some (.val (.obj (r.length + 1))), y3, y4, y5, none, none] (mus p' (r ++ [some (.lst (fs.map D.str))])) ∧ p'.Ok ∧ Names fs ∧ fs.length = found.length + ds.length
  | [], found, p, x3, x4, x5, h, hf, hl => ⟨found, p, x3, x4, x5, rfl, h, hf, rfl⟩
  | d :: ds, found, p, x3, x4, x5, h, hf, hl => by
    rw [List.length_cons] at hl
    obtain ⟨x, p1, y4, y5, e, ok, hn⟩ := names_turn h hf (by omega) r (a1 := a1) (x3 := some (.val d)) (x4 := x4) (x5 := x5)
    obtain ⟨fs, p2, z3, z4, z5, e2, ok2, hn2, hl2⟩ := names_loop r a1 ds (found ++ [x]) p1 (some (.val d)) y4 y5 ok hn (by rw [List.length_append]; show found.length + 1 + ds.length ≤ 9; omega)
    refine ⟨fs, p2, z3, z4, z5, ?_, ok2, hn2, by rw [hl2]; simp; omega⟩
    rw [← e2]
    conv => lhs; unfold sForL
    simp only [Tg.run, List.set_cons_succ, List.set_cons_zero, e]
/-- names of the store that stays are closed -/
def Shut (r : Store) : Prop := r.all (clM (r.length + 1)) = true
theorem pot_clM (p : Pot) (n : Nat) : clM n (some p.mo) = true := by
  unfold Pot.mo clM
  have : ∀ l : List Int, clL n (l.map D.int) = true := fun l => by
    induction l with
    | nil => rfl
    | cons a l ih => rw [List.map_cons]; unfold clL; rw [ih]; rfl
  simp [clL, clD, this]
theorem gc_mus {α : Type} (cl : Nat → α → Bool) {p : Pot} {r r2 : Store} {a : α} (h : Shut r) (hc : cl (r.length + 1) a = true) : gcO cl (r.length + 1) (.ok a (mus p (r ++ r2))) = .ok a (mus p r) := by
  have e : (mus p (r ++ r2)).take (r.length + 1) = mus p r := by unfold mus; simp
  unfold gcO
  dsimp only
  rw [e, hc]
  have : (mus p r).all (clM (r.length + 1)) = true := by
    unfold mus
    rw [List.all_cons, pot_clM]
    exact h
  rw [this]
  rfl
theorem cl_strs (n : Nat) (l : List Str) : clL n (l.map D.str) = true := by
  induction l with
  | nil => rfl
  | cons a l ih => rw [List.map_cons]; unfold clL; rw [ih]; rfl
theorem names_ok {p : Pot} (h : p.Ok) {n : Nat} (hn : n ≤ 9) {r : Store} (hr : Shut r) : ∃ fs p', f__law_names [.obj 0, .int (n : Int)] (mus p r) = .ok (.lst (fs.map D.str)) (mus p' r) ∧ p'.Ok ∧ Names fs ∧ fs.length = n := by
  obtain ⟨fs, p', y3, y4, y5, e, ok, hf, hl⟩ := names_loop r (some (.val (.int (n : Int)))) (rangeD 0 n) [] p none none none h ⟨(fun _ h => by cases h), List.nodup_nil, (by decide)⟩ (by rw [rangeD_len]; show 0 + n ≤ 9; omega)
  rw [rangeD_len, List.length_nil, Nat.zero_add] at hl
  refine ⟨fs, p', ?_, ok, hf, hl⟩
  have h1 : rgOk (n : Int) = true := rgOk_nat (by omega)
  have hlen : (mus p r).length = r.length + 1 := by unfold mus; rfl
  have happ : mus p r ++ [some (.lst [])] = mus p (r ++ [some (.lst [])]) := rfl
  have hget : (mus p' (r ++ [some (.lst (fs.map D.str))]))[r.length + 1]? = some (some (.lst (fs.map D.str))) := by unfold mus; simp
  have hset : (mus p' (r ++ [some (.lst (fs.map D.str))])).set (r.length + 1) none = mus p' (r ++ [none]) := by unfold mus; simp
  have key : dFun 8 g__law_names [.obj 0, .int (n : Int)] (mus p r) = .ok (.lst (fs.map D.str)) (mus p' (r ++ [none])) := by
    simp [g__law_names, dFun, sSeq, snext, sIf, sbind, sAsg, sRet, sSkip, sExpr, sPar, sSetI, sSetA, sAug, sFor, sTg, dVar, dC, dNil, dCons, dBind, obind, dTup, dLst, dFrz, MO.d, dReg, dFz, dOp1, dOp2, dCmp, dB2v, dTst, dAnd, dOr, dNot, dIf, dCall, dIx, dLook, lookD, dIsi, dIsi2, dIsC, dIn, dChn, dMut, lstOf, putO, dM1, tyOk, dNw1, dNw2, dSl, dP, dNoP, dIsN, dItQ, dItS, dRg1, dRg2, dEnum, dLc, dYes, noex, Tg.run, gSets, List.length_map, List.length_cons, List.length_nil, List.map_cons, List.map_nil, hlen, happ, h1]
    simp at e
    simp [e, hget, hset]
  unfold f__law_names fGc
  rw [key, hlen]
  exact gc_mus clD hr (cl_strs _ _)
end DL
end

section
set_option Elab.async false
set_option linter.all false
set_option maxRecDepth 100000
set_option maxHeartbeats 4000000
namespace DL
open PySem
/-! the plain law of k02: pairs, specs -/
def pD (p : Nat × Nat) : D := .tup [.int (p.1 : Int), .int (p.2 : Int)]
theorem rangeD0 (n : Nat) : rangeD 0 n = (List.range n).map fun (i : Nat) => D.int (i : Int) := by
  unfold rangeD
  simp
def rowOf (j : Nat) : List (Nat × Nat) := (List.range j).map fun i => (i, j)
theorem q_pairs {j : Nat} (hj : j ≤ 1000) {a0 a1 a3 : Option SV} (mu : Store) : q__law_pairs_1 [a0, a1, some (.val (.int (j : Int))), a3] mu = .ok (.lst ((rowOf j).map pD)) mu := by
  have h1 : rgOk (j : Int) = true := rgOk_nat (by omega)
  have := lc_all (src := dRg1 (dVar 2)) (g := .nm 3) (own := [3]) (elt := dTup (dCons (dVar 3) (dCons (dVar 2) dNil))) (sl := [a0, a1, some (.val (.int (j : Int))), a3]) (mu := mu) (ds := rangeD 0 j)
    (fun d => .tup [d, .int (j : Int)]) (by simp [dRg1, dBind, obind, dVar, h1]) (by rw [rangeD_len]; omega) (fun d hd => ⟨_, rfl, by simp [wipeS, dFun, sSeq, snext, sIf, sbind, sAsg, sRet, sSkip, sExpr, sPar, sSetI, sSetA, sAug, sFor, sTg, dVar, dC, dNil, dCons, dBind, obind, dTup, dLst, dFrz, MO.d, dReg, dFz, dOp1, dOp2, dCmp, dB2v, dTst, dAnd, dOr, dNot, dIf, dCall, dIx, dLook, lookD, dIsi, dIsi2, dIsC, dIn, dChn, dMut, lstOf, putO, dM1, tyOk, dNw1, dNw2, dSl, dP, dNoP, dIsN, dItQ, dItS, dRg1, dRg2, dEnum, dLc, dYes, noex, Tg.run, gSets, List.length_map, List.length_cons, List.length_nil, List.map_cons, List.map_nil]⟩)
  rw [show q__law_pairs_1 = dLc (dRg1 (dVar 2)) (.nm 3) [3] dYes (dTup (dCons (dVar 3) (dCons (dVar 2) dNil))) from rfl, this, rangeD0, rowOf, List.map_map, List.map_map]
  rfl
theorem pairs_loop (a0 : Option SV) (mu : Store) : ∀ (js : List Nat) (acc : List D) (x2 : Option SV), (∀ j ∈ js, j ≤ 9) → acc.length + 9 * js.length ≤ 1000 → ∃ y2,
    sForL (.nm 2) b__law_pairs_1 (js.map fun (j : Nat) => D.int (j : Int)) [a0, some (.val (.lst acc)), x2, none] mu = .nx [a0, some (.val (.lst (acc ++ (js.flatMap rowOf).map pD))), y2, none] mu
  | [], acc, x2, _, _ => ⟨x2, by simp [sForL]⟩
  | j :: js, acc, x2, h, hl => by
    rw [List.length_cons] at hl
    have hj := h j List.mem_cons_self
    have hrow : ((rowOf j).map pD).length = j := by unfold rowOf; simp
    obtain ⟨y2, e⟩ := pairs_loop a0 mu js (acc ++ (rowOf j).map pD) (some (.val (.int (j : Int)))) (fun x hx => h x (List.mem_cons_of_mem _ hx)) (by rw [List.length_append, hrow]; omega)
    refine ⟨y2, ?_⟩
    rw [List.flatMap_cons, List.map_append, ← List.append_assoc, ← e]
    have hq := q_pairs (j := j) (by omega) (a0 := a0) (a1 := some (.val (.lst acc))) (a3 := none) mu
    have h16 : acc.length + ((rowOf j).map pD).length ≤ 16000000 := by omega
    conv => lhs; rw [List.map_cons]; unfold sForL
    have hb : b__law_pairs_1 [a0, some (.val (.lst acc)), some (.val (.int (j : Int))), none] mu = .nx [a0, some (.val (.lst (acc ++ (rowOf j).map pD))), some (.val (.int (j : Int))), none] mu := by
      rw [List.length_map] at h16
      simp [b__law_pairs_1, dFun, sSeq, snext, sIf, sbind, sAsg, sRet, sSkip, sExpr, sPar, sSetI, sSetA, sAug, sFor, sTg, dVar, dC, dNil, dCons, dBind, obind, dTup, dLst, dFrz, MO.d, dReg, dFz, dOp1, dOp2, dCmp, dB2v, dTst, dAnd, dOr, dNot, dIf, dCall, dIx, dLook, lookD, dIsi, dIsi2, dIsC, dIn, dChn, dMut, lstOf, putO, dM1, tyOk, dNw1, dNw2, dSl, dP, dNoP, dIsN, dItQ, dItS, dRg1, dRg2, dEnum, dLc, dYes, noex, Tg.run, gSets, List.length_map, List.length_cons, List.length_nil, List.map_cons, List.map_nil, hq, addD, h16]
    simp only [Tg.run, List.set_cons_succ, List.set_cons_zero, hb]
def pairs (n : Nat) : List (Nat × Nat) := (List.range n).flatMap rowOf
theorem pairs_ok {n : Nat} (hn : n ≤ 9) (mu : Store) : f__law_pairs [.int (n : Int)] mu = .ok (.lst ((pairs n).map pD)) mu := by
  obtain ⟨y2, e⟩ := pairs_loop (some (.val (.int (n : Int)))) mu (List.range n) [] none (fun j hj => by have := List.mem_range.mp hj; omega) (by rw [List.length_range]; show 0 + 9 * n ≤ 1000; omega)
  rw [← rangeD0] at e
  have h1 : rgOk (n : Int) = true := rgOk_nat (by omega)
  simp only [List.nil_append] at e
  simp [f__law_pairs, g__law_pairs, dFun, sSeq, snext, sIf, sbind, sAsg, sRet, sSkip, sExpr, sPar, sSetI, sSetA, sAug, sFor, sTg, dVar, dC, dNil, dCons, dBind, obind, dTup, dLst, dFrz, MO.d, dReg, dFz, dOp1, dOp2, dCmp, dB2v, dTst, dAnd, dOr, dNot, dIf, dCall, dIx, dLook, lookD, dIsi, dIsi2, dIsC, dIn, dChn, dMut, lstOf, putO, dM1, tyOk, dNw1, dNw2, dSl, dP, dNoP, dIsN, dItQ, dItS, dRg1, dRg2, dEnum, dLc, dYes, noex, Tg.run, gSets, List.length_map, List.length_cons, List.length_nil, List.map_cons, List.map_nil, h1, e, pairs]
theorem mem_pairs {n i j : Nat} : (i, j) ∈ pairs n ↔ i < j ∧ j < n := by
  unfold pairs rowOf
  simp only [List.mem_flatMap, List.mem_range, List.mem_map, Prod.mk.injEq]
  constructor
  · rintro ⟨k, hk, a, ha, rfl, rfl⟩
    exact ⟨ha, hk⟩
  · rintro ⟨h1, h2⟩
    exact ⟨j, h2, i, h1, rfl, rfl⟩
theorem pairs_nodup (n : Nat) : (pairs n).Nodup := by
  unfold pairs
  rw [List.Nodup, List.pairwise_flatMap]
  refine ⟨fun j hj => ?_, ?_⟩
  · unfold rowOf
    rw [List.pairwise_map]
    exact List.nodup_range.imp fun {a b} h e => h (congrArg Prod.fst e)
  · exact List.nodup_range.imp fun {a b} h x hx y hy e => by
      unfold rowOf at hx hy
      obtain ⟨i, _, rfl⟩ := List.mem_map.mp hx
      obtain ⟨k, _, rfl⟩ := List.mem_map.mp hy
      exact h (congrArg Prod.snd e)
theorem pairs_len {n : Nat} (h : n ≤ 9) : (pairs n).length ≤ 36 := by
  have : ∀ n : Fin 10, (pairs n.1).length ≤ 36 := by decide +kernel
  exact this ⟨n, by omega⟩
theorem spec_loop (r : Store) {th : Nat} (h1 : th ≤ 100) : ∀ (ps acc : List (Nat × Nat)) (p : Pot) (a1 a2 : Option SV), p.Ok → ∃ rs p',
    dLcL (.nm 4) [some (.val (.obj 0)), a1, a2, some (.val (.int (th : Int))), none] (dCmp eqD (dCall f__law_draw (dCons (dVar 0) (dCons (dVar 3) dNil))) (dC (.int 0))) (dVar 4) (ps.map pD) (acc.map pD) (mus p r) = .ok (.lst ((acc ++ rs).map pD)) (mus p' r) ∧ p'.Ok ∧ rs.Sublist ps
  | [], acc, p, a1, a2, h => ⟨[], p, by simp [dLcL], h, List.Sublist.slnil⟩
  | q :: ps, acc, p, a1, a2, h => by
    obtain ⟨v, p1, e, ok, v0, v1⟩ := draw_ok h (many := (th : Int)) (by omega) (by omega) r
    by_cases hv : v = 0
    · obtain ⟨rs, p2, e2, ok2, hs⟩ := spec_loop r h1 ps (acc ++ [q]) p1 a1 a2 ok
      refine ⟨q :: rs, p2, ?_, ok2, hs.cons₂ _⟩
      rw [show acc ++ q :: rs = acc ++ [q] ++ rs by simp, ← e2]
      conv => lhs; rw [List.map_cons]; unfold dLcL
      simp [dFun, sSeq, snext, sIf, sbind, sAsg, sRet, sSkip, sExpr, sPar, sSetI, sSetA, sAug, sFor, sTg, dVar, dC, dNil, dCons, dBind, obind, dTup, dLst, dFrz, MO.d, dReg, dFz, dOp1, dOp2, dCmp, dB2v, dTst, dAnd, dOr, dNot, dIf, dCall, dIx, dLook, lookD, dIsi, dIsi2, dIsC, dIn, dChn, dMut, lstOf, putO, dM1, tyOk, dNw1, dNw2, dSl, dP, dNoP, dIsN, dItQ, dItS, dRg1, dRg2, dEnum, dLc, dYes, noex, Tg.run, gSets, List.length_map, List.length_cons, List.length_nil, List.map_cons, List.map_nil, e, hv, eqD, toP, PyData.depth, PyData.eqv]
    · obtain ⟨rs, p2, e2, ok2, hs⟩ := spec_loop r h1 ps acc p1 a1 a2 ok
      refine ⟨rs, p2, ?_, ok2, hs.cons _⟩
      rw [← e2]
      conv => lhs; rw [List.map_cons]; unfold dLcL
      simp [dFun, sSeq, snext, sIf, sbind, sAsg, sRet, sSkip, sExpr, sPar, sSetI, sSetA, sAug, sFor, sTg, dVar, dC, dNil, dCons, dBind, obind, dTup, dLst, dFrz, MO.d, dReg, dFz, dOp1, dOp2, dCmp, dB2v, dTst, dAnd, dOr, dNot, dIf, dCall, dIx, dLook, lookD, dIsi, dIsi2, dIsC, dIn, dChn, dMut, lstOf, putO, dM1, tyOk, dNw1, dNw2, dSl, dP, dNoP, dIsN, dItQ, dItS, dRg1, dRg2, dEnum, dLc, dYes, noex, Tg.run, gSets, List.length_map, List.length_cons, List.length_nil, List.map_cons, List.map_nil, e, hv, eqD, toP, PyData.depth, PyData.eqv]
structure Spec (fs : List Str) (rs : List (Nat × Nat)) : Prop where
  names : Names fs
  ne : 1 ≤ fs.length
  sub : rs.Sublist (pairs fs.length)
def specD (fs : List Str) (rs : List (Nat × Nat)) : D := .lst [.lst (fs.map D.str), .lst (rs.map pD)]
theorem spec_ok {p : Pot} (h : p.Ok) {r : Store} (hr : Shut r) {most : Nat} (hm1 : 1 ≤ most) (hm9 : most ≤ 9) : ∃ fs rs p', f__law_spec [.obj 0, .int (most : Int)] (mus p r) = .ok (specD fs rs) (mus p' r) ∧ p'.Ok ∧ Spec fs rs ∧ fs.length ≤ most := by
  obtain ⟨v, p1, e1, ok1, v0, v1⟩ := draw_ok h (many := (most : Int)) (by omega) (by omega) r
  obtain ⟨n, hn⟩ : ∃ n : Nat, 1 + v = (n : Int) := ⟨(1 + v).toNat, by omega⟩
  obtain ⟨fs, p2, e2, ok2, hf, hl⟩ := names_ok ok1 (n := n) (by omega) hr
  obtain ⟨t, p3, e3, ok3, t0, t1⟩ := draw_ok ok2 (many := 4) (by decide) (by decide) r
  obtain ⟨th, hth⟩ : ∃ th : Nat, 1 + t = (th : Int) := ⟨(1 + t).toNat, by omega⟩
  obtain ⟨rs, p4, e4, ok4, hs⟩ := spec_loop r (th := th) (by omega) (pairs n) [] p3 (some (.val (.int (most : Int)))) (some (.val (.lst (fs.map D.str)))) ok3
  have hp := pairs_ok (n := n) (by omega) (mus p3 r)
  have hq : q__law_spec_1 [some (.val (.obj 0)), some (.val (.int (most : Int))), some (.val (.lst (fs.map D.str))), some (.val (.int (th : Int))), none] (mus p3 r) = .ok (.lst (rs.map pD)) (mus p4 r) := by
    rw [List.nil_append] at e4
    rw [← e4]
    have hz : sizeOk ((pairs n).map pD) = true := decide_eq_true (by rw [List.length_map]; have := pairs_len (n := n) (by omega); omega)
    have hlen : lenD (.lst (fs.map D.str)) = some (.int (n : Int)) := by simp [lenD, hl]
    unfold q__law_spec_1 dLc
    unfold dItQ
    simp [dBind, obind, dCall, dCons, dOp1, dLook, dVar, dNil, lookD, hlen, hp, hz, wipeS]
  refine ⟨fs, rs, p4, ?_, ok4, ⟨hf, by omega, by rw [hl]; exact hs⟩, by omega⟩
  simp [f__law_spec, g__law_spec, dFun, sSeq, snext, sIf, sbind, sAsg, sRet, sSkip, sExpr, sPar, sSetI, sSetA, sAug, sFor, sTg, dVar, dC, dNil, dCons, dBind, obind, dTup, dLst, dFrz, MO.d, dReg, dFz, dOp1, dOp2, dCmp, dB2v, dTst, dAnd, dOr, dNot, dIf, dCall, dIx, dLook, lookD, dIsi, dIsi2, dIsC, dIn, dChn, dMut, lstOf, putO, dM1, tyOk, dNw1, dNw2, dSl, dP, dNoP, dIsN, dItQ, dItS, dRg1, dRg2, dEnum, dLc, dYes, noex, Tg.run, gSets, List.length_map, List.length_cons, List.length_nil, List.map_cons, List.map_nil, e1, addD, hn, e2, e3, hth, hq, specD]
end DL
end

section
set_option Elab.async false
set_option linter.all false
set_option maxRecDepth 100000
set_option maxHeartbeats 4000000
namespace DL
open PySem
/-! the plain law of k02: the judges of webs -/
theorem takeWhile_all {α : Type} {p : α → Bool} : ∀ {l : List α}, (∀ a ∈ l, p a = true) → l.takeWhile p = l
  | [], _ => rfl
  | a :: l, h => by rw [List.takeWhile_cons, h a List.mem_cons_self, if_pos rfl, takeWhile_all fun b hb => h b (List.mem_cons_of_mem _ hb)]
theorem strip_word {x : Str} (h : Word x) : Txt.stripChars x signs = "" := by
  have hg : ∀ c ∈ TL.tl x, signs.cps.contains c = true := fun c hc => by
    have := h.let_ c hc
    simpa using this
  have lo : stripLo signs.cps.contains true x = x.length := by
    unfold stripLo
    rw [if_pos rfl, takeWhile_all hg, TL.len_tl]
  unfold Txt.stripChars Txt.stripBy
  have hs : stripSame signs.cps.contains true true x = false := by
    unfold stripSame
    rw [lo]
    have : (x.length == 0) = false := by have := h.pos; simp; omega
    rw [this]; rfl
  rw [hs, if_neg (by decide)]
  apply TL.ext_tl
  unfold stripped
  rw [lo, TL.tl_strSub, TL.len_tl, List.drop_length]
  simp
  rfl
theorem is_name_ok {x : Str} (h : Name x) (mu : Store) : f_is_name [.str x] mu = .ok (.bl true) mu := by
  have h1 : (1 : Int) ≤ (x.length : Int) := by have := h.pos; omega
  have h2 : (x.length : Int) ≤ 8 := by have := h.le; omega
  have h3 : x.length ≤ 16000000 := by have := h.le; omega
  have hs : stripD (.str x) (.str "abcdefghijklmnopqrstuvwxyz") = some (.str "") := by
    unfold stripD
    dsimp only
    rw [if_pos h3]
    exact congrArg (fun z => some (D.str z)) (strip_word h.toWord)
  have hf := h.free
  have hi : inD (.str x) (.tup [.str "spot", .str "road", .str "over"]) = some false := by rw [in_resv, decide_eq_false hf]
  have hn : neD (.str "") (.str "") = some false := by decide +kernel
  simp [f_is_name, g_is_name, dFun, sSeq, snext, sIf, sbind, sAsg, sRet, sSkip, sExpr, sPar, sSetI, sSetA, sAug, sFor, sTg, dVar, dC, dNil, dCons, dBind, obind, dTup, dLst, dFrz, MO.d, dReg, dFz, dOp1, dOp2, dCmp, dB2v, dTst, dAnd, dOr, dNot, dIf, dCall, dIx, dLook, lookD, dIsi, dIsi2, dIsC, dIn, dChn, dMut, lstOf, putO, dM1, tyOk, dNw1, dNw2, dSl, dP, dNoP, dIsN, dItQ, dItS, dRg1, dRg2, dEnum, dLc, dYes, noex, Tg.run, gSets, List.length_map, List.length_cons, List.length_nil, List.map_cons, List.map_nil, isiOk, isTy, lenD, leI, cmpI, h3, h1, h2, hs, hi, hn]
theorem bools_true : ∀ (l : List D), boolsD (l.map fun _ => D.bl true) = some (l.map fun _ => true)
  | [] => rfl
  | d :: l => by
    rw [List.map_cons]
    unfold boolsD
    rw [bools_true l]
    rfl
theorem all_true (l : List D) : allD (.lst (l.map fun _ => D.bl true)) = some (.bl true) := by
  unfold allD
  dsimp only
  rw [bools_true]
  simp
theorem kvs_nodup {α : Type} [DecidableEq α] {ks : List α} (h : ks.Nodup) : (kvsOf ks ks.length).length = ks.length := by
  unfold kvsOf
  rw [List.take_length]
  have key : ∀ (l : List α) (acc : List (α × L2.V)), l.Nodup → (∀ k ∈ l, ∀ kv ∈ acc, kv.1 ≠ k) → (l.foldl (fun acc k => L2.putK acc k (.bl true)) acc).length = acc.length + l.length := by
    intro l
    induction l with
    | nil => intro acc _ _; rfl
    | cons k l ih =>
      intro acc hn hd
      rw [List.nodup_cons] at hn
      have e : L2.putK acc k (.bl true) = acc ++ [(k, .bl true)] := by
        unfold L2.putK
        rw [if_neg]
        rw [Bool.not_eq_true, List.any_eq_false]
        intro kv hkv
        simpa using hd k List.mem_cons_self kv hkv
      rw [List.foldl_cons, e, ih (acc ++ [(k, L2.V.bl true)]) hn.2 fun k' hk' kv hkv => by
        rcases List.mem_append.mp hkv with hkv | hkv
        · exact hd k' (List.mem_cons_of_mem _ hk') kv hkv
        · rw [List.mem_singleton] at hkv
          subst hkv
          exact fun e => hn.1 (by rw [show k = k' from e]; exact hk')]
      simp only [List.length_append, List.length_cons, List.length_nil]
      omega
  have := key ks [] h (fun _ _ _ h => by cases h)
  rw [this]
  simp
theorem keys_strs : ∀ l : List Str, allSome keyD (l.map D.str) = some (l.map Sum.inr)
  | [] => rfl
  | x :: l => by
    rw [List.map_cons]
    unfold allSome
    rw [keys_strs l]
    rfl
theorem unlike_strs {l : List Str} (h : l.Nodup) : unlikeD (.lst (l.map D.str)) = some (.int (l.length : Nat)) := by
  have hn : (l.map (Sum.inr : Str → L2.Key)).Nodup := by
    rw [List.Nodup, List.pairwise_map]
    exact h.imp fun {a b} hab e => hab (Sum.inr.inj e)
  unfold unlikeD unlike
  dsimp only
  rw [keys_strs]
  dsimp only
  rw [kvs_nodup hn, List.length_map]
  rfl
def pK (p : Nat × Nat) : List L2.Key := [.inl (p.1 : Int), .inl (p.2 : Int)]
theorem keys_prs : ∀ l : List (Nat × Nat), allSome tkeyD (l.map pD) = some (l.map pK)
  | [] => rfl
  | x :: l => by
    rw [List.map_cons]
    unfold allSome
    rw [keys_prs l]
    rfl
theorem unlike_prs {l : List (Nat × Nat)} (h : l.Nodup) : unlikeD (.lst (l.map pD)) = some (.int (l.length : Nat)) := by
  have hn : (l.map pK).Nodup := by
    rw [List.Nodup, List.pairwise_map]
    refine h.imp fun {a b} hab e => hab ?_
    unfold pK at e
    simp only [List.cons.injEq, Sum.inl.injEq, and_true] at e
    exact Prod.ext (by exact_mod_cast e.1) (by exact_mod_cast e.2)
  unfold unlikeD unlike
  cases l with
  | nil => rfl
  | cons p l =>
    dsimp only
    have e : allSome keyD ((p :: l).map pD) = none := rfl
    rw [e, keys_prs]
    dsimp only
    rw [kvs_nodup hn, List.length_map]
    rfl
theorem no_twice_strs {l : List Str} (h : l.Nodup) (mu : Store) : f_have_no_twice [.lst (l.map D.str)] mu = .ok (.bl true) mu := by
  simp [f_have_no_twice, g_have_no_twice, dFun, sSeq, snext, sIf, sbind, sAsg, sRet, sSkip, sExpr, sPar, sSetI, sSetA, sAug, sFor, sTg, dVar, dC, dNil, dCons, dBind, obind, dTup, dLst, dFrz, MO.d, dReg, dFz, dOp1, dOp2, dCmp, dB2v, dTst, dAnd, dOr, dNot, dIf, dCall, dIx, dLook, lookD, dIsi, dIsi2, dIsC, dIn, dChn, dMut, lstOf, putO, dM1, tyOk, dNw1, dNw2, dSl, dP, dNoP, dIsN, dItQ, dItS, dRg1, dRg2, dEnum, dLc, dYes, noex, Tg.run, gSets, List.length_map, List.length_cons, List.length_nil, List.map_cons, List.map_nil, unlike_strs h, lenD, eqD, toP, PyData.depth, PyData.eqv]
theorem no_twice_prs {l : List (Nat × Nat)} (h : l.Nodup) (mu : Store) : f_have_no_twice [.lst (l.map pD)] mu = .ok (.bl true) mu := by
  simp [f_have_no_twice, g_have_no_twice, dFun, sSeq, snext, sIf, sbind, sAsg, sRet, sSkip, sExpr, sPar, sSetI, sSetA, sAug, sFor, sTg, dVar, dC, dNil, dCons, dBind, obind, dTup, dLst, dFrz, MO.d, dReg, dFz, dOp1, dOp2, dCmp, dB2v, dTst, dAnd, dOr, dNot, dIf, dCall, dIx, dLook, lookD, dIsi, dIsi2, dIsC, dIn, dChn, dMut, lstOf, putO, dM1, tyOk, dNw1, dNw2, dSl, dP, dNoP, dIsN, dItQ, dItS, dRg1, dRg2, dEnum, dLc, dYes, noex, Tg.run, gSets, List.length_map, List.length_cons, List.length_nil, List.map_cons, List.map_nil, unlike_prs h, lenD, eqD, toP, PyData.depth, PyData.eqv]
theorem q_are_spots {fs : List Str} (h : Names fs) (mu : Store) : q_are_spots_1 [some (.val (.lst (fs.map D.str))), none] mu = .ok (.lst (fs.map fun _ => D.bl true)) mu := by
  have := lc_all (src := dItQ (dVar 0)) (g := .nm 1) (own := [1]) (elt := dCall f_is_name (dCons (dVar 1) dNil)) (sl := [some (.val (.lst (fs.map D.str))), none]) (mu := mu) (ds := fs.map D.str)
    (fun _ => .bl true) rfl (by rw [List.length_map]; have := h.le; omega) (fun d hd => by
      obtain ⟨x, hx, rfl⟩ := List.mem_map.mp hd
      exact ⟨_, rfl, by simp [wipeS, dFun, sSeq, snext, sIf, sbind, sAsg, sRet, sSkip, sExpr, sPar, sSetI, sSetA, sAug, sFor, sTg, dVar, dC, dNil, dCons, dBind, obind, dTup, dLst, dFrz, MO.d, dReg, dFz, dOp1, dOp2, dCmp, dB2v, dTst, dAnd, dOr, dNot, dIf, dCall, dIx, dLook, lookD, dIsi, dIsi2, dIsC, dIn, dChn, dMut, lstOf, putO, dM1, tyOk, dNw1, dNw2, dSl, dP, dNoP, dIsN, dItQ, dItS, dRg1, dRg2, dEnum, dLc, dYes, noex, Tg.run, gSets, List.length_map, List.length_cons, List.length_nil, List.map_cons, List.map_nil, is_name_ok (h.all x hx)]⟩)
  rw [show q_are_spots_1 = dLc (dItQ (dVar 0)) (.nm 1) [1] dYes (dCall f_is_name (dCons (dVar 1) dNil)) from rfl, this, List.map_map]
  rfl
theorem are_spots_ok {fs : List Str} (h : Names fs) (h1 : 1 ≤ fs.length) (mu : Store) : f_are_spots [.lst (fs.map D.str)] mu = .ok (.bl true) mu := by
  have e1 : f_is_listed [.lst (fs.map D.str)] mu = .ok (.bl true) mu := by simp [f_is_listed, g_is_listed, dFun, sSeq, snext, sIf, sbind, sAsg, sRet, sSkip, sExpr, sPar, sSetI, sSetA, sAug, sFor, sTg, dVar, dC, dNil, dCons, dBind, obind, dTup, dLst, dFrz, MO.d, dReg, dFz, dOp1, dOp2, dCmp, dB2v, dTst, dAnd, dOr, dNot, dIf, dCall, dIx, dLook, lookD, dIsi, dIsi2, dIsC, dIn, dChn, dMut, lstOf, putO, dM1, tyOk, dNw1, dNw2, dSl, dP, dNoP, dIsN, dItQ, dItS, dRg1, dRg2, dEnum, dLc, dYes, noex, Tg.run, gSets, List.length_map, List.length_cons, List.length_nil, List.map_cons, List.map_nil, isiOk, isTy]
  have ha : allD (.lst (fs.map fun _ => D.bl true)) = some (.bl true) := by
    have := all_true (fs.map D.str)
    rw [List.map_map] at this
    exact this
  have h2 : (1 : Int) ≤ (fs.length : Int) := by omega
  have h3 : (fs.length : Int) ≤ 9 := by have := h.le; omega
  have hq := q_are_spots h mu
  have hn := no_twice_strs h.nd mu
  simp [f_are_spots, g_are_spots, dFun, sSeq, snext, sIf, sbind, sAsg, sRet, sSkip, sExpr, sPar, sSetI, sSetA, sAug, sFor, sTg, dVar, dC, dNil, dCons, dBind, obind, dTup, dLst, dFrz, MO.d, dReg, dFz, dOp1, dOp2, dCmp, dB2v, dTst, dAnd, dOr, dNot, dIf, dCall, dIx, dLook, lookD, dIsi, dIsi2, dIsC, dIn, dChn, dMut, lstOf, putO, dM1, tyOk, dNw1, dNw2, dSl, dP, dNoP, dIsN, dItQ, dItS, dRg1, dRg2, dEnum, dLc, dYes, noex, Tg.run, gSets, List.length_map, List.length_cons, List.length_nil, List.map_cons, List.map_nil, e1, lenD, leI, cmpI, h2, h3, hq, ha, hn]
theorem pair_ok {n i j : Nat} (h1 : i < j) (h2 : j < n) (h9 : n ≤ 9) (mu : Store) : f_is_pair_below [pD (i, j), .int (n : Int)] mu = .ok (.bl true) mu := by
  have w : ∀ a b c : Int, b ≤ a → a ≤ c → f_is_within [.int a, .int b, .int c] mu = .ok (.bl true) mu := fun a b c h1 h2 => by
    have e : f_is_number [.int a] mu = .ok (.bl true) mu := by simp [f_is_number, g_is_number, dFun, sSeq, snext, sIf, sbind, sAsg, sRet, sSkip, sExpr, sPar, sSetI, sSetA, sAug, sFor, sTg, dVar, dC, dNil, dCons, dBind, obind, dTup, dLst, dFrz, MO.d, dReg, dFz, dOp1, dOp2, dCmp, dB2v, dTst, dAnd, dOr, dNot, dIf, dCall, dIx, dLook, lookD, dIsi, dIsi2, dIsC, dIn, dChn, dMut, lstOf, putO, dM1, tyOk, dNw1, dNw2, dSl, dP, dNoP, dIsN, dItQ, dItS, dRg1, dRg2, dEnum, dLc, dYes, noex, Tg.run, gSets, List.length_map, List.length_cons, List.length_nil, List.map_cons, List.map_nil, isiOk, isTy]
    simp [f_is_within, g_is_within, dFun, sSeq, snext, sIf, sbind, sAsg, sRet, sSkip, sExpr, sPar, sSetI, sSetA, sAug, sFor, sTg, dVar, dC, dNil, dCons, dBind, obind, dTup, dLst, dFrz, MO.d, dReg, dFz, dOp1, dOp2, dCmp, dB2v, dTst, dAnd, dOr, dNot, dIf, dCall, dIx, dLook, lookD, dIsi, dIsi2, dIsC, dIn, dChn, dMut, lstOf, putO, dM1, tyOk, dNw1, dNw2, dSl, dP, dNoP, dIsN, dItQ, dItS, dRg1, dRg2, dEnum, dLc, dYes, noex, Tg.run, gSets, List.length_map, List.length_cons, List.length_nil, List.map_cons, List.map_nil, e, leI, cmpI, h1, h2]
  have w1 := w j 1 (n - 1) (by omega) (by omega)
  have w2 := w i 0 (j - 1) (by omega) (by omega)
  simp [f_is_pair_below, g_is_pair_below, dFun, sSeq, snext, sIf, sbind, sAsg, sRet, sSkip, sExpr, sPar, sSetI, sSetA, sAug, sFor, sTg, dVar, dC, dNil, dCons, dBind, obind, dTup, dLst, dFrz, MO.d, dReg, dFz, dOp1, dOp2, dCmp, dB2v, dTst, dAnd, dOr, dNot, dIf, dCall, dIx, dLook, lookD, dIsi, dIsi2, dIsC, dIn, dChn, dMut, lstOf, putO, dM1, tyOk, dNw1, dNw2, dSl, dP, dNoP, dIsN, dItQ, dItS, dRg1, dRg2, dEnum, dLc, dYes, noex, Tg.run, gSets, List.length_map, List.length_cons, List.length_nil, List.map_cons, List.map_nil, isiOk, isTy, lenD, neD, eqD, toP, PyData.depth, PyData.eqv, pD, ixD, L2.atI, L2.ixN, subD, w1, w2]
end DL
end

section
set_option Elab.async false
set_option linter.all false
set_option maxRecDepth 100000
set_option maxHeartbeats 4000000
namespace DL
open PySem
/-! the plain law of k02: steps away -/
def intsN (l : List Nat) : List D := l.map fun (i : Nat) => D.int (i : Int)
def st2 (mu : Store) (fv : List D) (lv : List Nat) : Store := mu ++ [some (.lst fv), some (.lst (intsN lv))]
theorem st2_0 (mu : Store) (fv : List D) (lv : List Nat) : (st2 mu fv lv)[mu.length]? = some (some (.lst fv)) := by unfold st2; simp
theorem st2_1 (mu : Store) (fv : List D) (lv : List Nat) : (st2 mu fv lv)[mu.length + 1]? = some (some (.lst (intsN lv))) := by
  unfold st2
  rw [List.getElem?_append_right (by omega)]
  simp
theorem st2_s0 (mu : Store) (fv fv' : List D) (lv : List Nat) : (st2 mu fv lv).set mu.length (some (.lst fv')) = st2 mu fv' lv := by unfold st2; simp
theorem st2_s1 (mu : Store) (fv : List D) (lv lv' : List Nat) : (st2 mu fv lv).set (mu.length + 1) (some (.lst (intsN lv'))) = st2 mu fv lv' := by
  unfold st2
  rw [List.set_append_right _ _ (by omega)]
  simp
theorem ix_nat {l : List D} {i : Nat} {d : D} (h : l[i]? = some d) : ixD (.lst l) (.int (i : Int)) = some d := by
  have hi : i < l.length := (List.getElem?_eq_some_iff.mp h).1
  unfold ixD L2.atI L2.ixN
  have h1 : (0 : Int) ≤ (i : Int) := by omega
  have h2 : (i : Int) < (l.length : Int) := by omega
  simp only [if_pos h1, if_pos h2, Int.toNat_natCast, Option.bind_some]
  exact h
theorem set_nat {l : List D} {i : Nat} {v : D} (h : i < l.length) : setD l (.int (i : Int)) v = some (l.set i v) := by
  unfold setD L2.ixN
  have h1 : (0 : Int) ≤ (i : Int) := by omega
  have h2 : (i : Int) < (l.length : Int) := by omega
  simp only [if_pos h1, if_pos h2, Int.toNat_natCast]
theorem intsN_get {l : List Nat} {i c : Nat} (h : l[i]? = some c) : (intsN l)[i]? = some (.int (c : Int)) := by unfold intsN; rw [List.getElem?_map, h]; rfl
theorem in_two (c a b : Int) : inD (.int c) (.tup [.int a, .int b]) = some (decide (a = c) || decide (b = c)) := by
  unfold inD
  simp [toP, toPL, PyData.depth, PyData.depthAll, PyData.eqv]
  rfl
def optD : Option Nat → D
  | none => .non
  | some n => .int (n : Int)
def fvD (l : List (Option Nat)) : List D := l.map optD
theorem fvD_get {l : List (Option Nat)} {i : Nat} {o : Option Nat} (h : l[i]? = some o) : (fvD l)[i]? = some (optD o) := by unfold fvD; rw [List.getElem?_map, h]; rfl
theorem fvD_set {l : List (Option Nat)} {i : Nat} {o : Option Nat} : (fvD l).set i (optD o) = fvD (l.set i o) := by unfold fvD; rw [List.map_set]
theorem fnd_get {s : Srch} {x : Nat} (hx : x < s.fv.length) : s.fv[x]? = some (fnd s x) := by
  unfold fnd
  rw [List.getElem?_eq_getElem hx]
  rfl
/-- one road -/
theorem bf_turn {n : Nat} (hn : n ≤ 9) (mu : Store) {rs done : Rds} {st at_ c : Nat} {s : Srch} (h : BfI n rs st at_ done s) (hat : s.lv[at_]? = some c) {a b : Nat} (ha : a < n) (hb : b < n) {a0 a1 a2 x8 : Option SV} : ∃ y8,
    b_steps_away_1 [a0, a1, a2, some (.val (.obj mu.length)), some (.val (.obj (mu.length + 1))), some (.val (.int (at_ : Int))), some (.val (.int (a : Int))), some (.val (.int (b : Int))), x8] (st2 mu (fvD s.fv) s.lv) =
      .nx [a0, a1, a2, some (.val (.obj mu.length)), some (.val (.obj (mu.length + 1))), some (.val (.int (at_ : Int))), some (.val (.int (a : Int))), some (.val (.int (b : Int))), y8] (st2 mu (fvD (bf1 c s (a, b)).fv) (bf1 c s (a, b)).lv) := by
  obtain ⟨dc, hdc⟩ := (h.mem c).mp (List.mem_of_getElem? hat)
  have hcn := h.lt c (List.mem_of_getElem? hat)
  have i1 := ix_nat (intsN_get hat)
  have g0 := st2_0 mu (fvD s.fv) s.lv
  have g1 := st2_1 mu (fvD s.fv) s.lv
  have s0 := fun fv' => st2_s0 mu (fvD s.fv) fv' s.lv
  unfold bf1
  by_cases hin : a = c ∨ b = c
  · rw [if_pos hin]
    obtain ⟨e, he, he', hec⟩ : ∃ e : Nat, (a : Int) + b - c = (e : Int) ∧ (a, b).1 + (a, b).2 - c = e ∧ e < n := by
      rcases hin with rfl | rfl
      · exact ⟨b, by omega, by simp, hb⟩
      · exact ⟨a, by omega, by simp, ha⟩
    have hd : (decide ((a : Int) = c) || decide ((b : Int) = c)) = true := by
      rcases hin with rfl | rfl <;> simp
    rw [he']
    have i2 := ix_nat (fvD_get (fnd_get (s := s) (x := e) (by rw [h.len]; exact hec)))
    cases hf : fnd s e with
    | none =>
      rw [hf] at i2
      have i3 := ix_nat (fvD_get (fnd_get (s := s) (x := c) (by rw [h.len]; exact hcn)))
      rw [hdc] at i3
      have hset := set_nat (l := fvD s.fv) (i := e) (v := .int ((dc : Int) + 1)) (by unfold fvD; rw [List.length_map, h.len]; exact hec)
      have hfv : (fvD s.fv).set e (.int ((dc : Int) + 1)) = fvD (s.fv.set e (some (dc + 1))) := by
        rw [← fvD_set]; rfl
      rw [hfv] at hset
      have hlv : s.lv.length < 16000000 := by have := h.le; omega
      have g2 := st2_1 mu (fvD (s.fv.set e (some (dc + 1)))) s.lv
      have s1 := st2_s1 mu (fvD (s.fv.set e (some (dc + 1)))) s.lv (s.lv ++ [e])
      have happ : intsN s.lv ++ [.int (e : Int)] = intsN (s.lv ++ [e]) := by unfold intsN; simp
      have hlen : (intsN s.lv).length = s.lv.length := by unfold intsN; simp
      refine ⟨some (.val (.int (e : Int))), ?_⟩
      simp [b_steps_away_1, dFun, sSeq, snext, sIf, sbind, sAsg, sRet, sSkip, sExpr, sPar, sSetI, sSetA, sAug, sFor, sTg, dVar, dC, dNil, dCons, dBind, obind, dTup, dLst, dFrz, MO.d, dReg, dFz, dOp1, dOp2, dCmp, dB2v, dTst, dAnd, dOr, dNot, dIf, dCall, dIx, dLook, lookD, dIsi, dIsi2, dIsC, dIn, dChn, dMut, lstOf, putO, dM1, tyOk, dNw1, dNw2, dSl, dP, dNoP, dIsN, dItQ, dItS, dRg1, dRg2, dEnum, dLc, dYes, noex, Tg.run, gSets, List.length_map, List.length_cons, List.length_nil, List.map_cons, List.map_nil, g1, g0, i1, in_two, hd, subD, addD, he, i2, isNon, i3, optD, hset, s0, g2, appD, hlen, hlv, happ, s1, hdc]
    | some k =>
      rw [hf] at i2
      exact ⟨some (.val (.int (e : Int))), by simp [b_steps_away_1, dFun, sSeq, snext, sIf, sbind, sAsg, sRet, sSkip, sExpr, sPar, sSetI, sSetA, sAug, sFor, sTg, dVar, dC, dNil, dCons, dBind, obind, dTup, dLst, dFrz, MO.d, dReg, dFz, dOp1, dOp2, dCmp, dB2v, dTst, dAnd, dOr, dNot, dIf, dCall, dIx, dLook, lookD, dIsi, dIsi2, dIsC, dIn, dChn, dMut, lstOf, putO, dM1, tyOk, dNw1, dNw2, dSl, dP, dNoP, dIsN, dItQ, dItS, dRg1, dRg2, dEnum, dLc, dYes, noex, Tg.run, gSets, List.length_map, List.length_cons, List.length_nil, List.map_cons, List.map_nil, g1, g0, i1, in_two, hd, subD, addD, he, i2, optD, isNon]⟩
  · rw [if_neg hin]
    have hd : (decide ((a : Int) = c) || decide ((b : Int) = c)) = false := by
      rw [not_or] at hin
      simp
      omega
    exact ⟨x8, by simp [b_steps_away_1, dFun, sSeq, snext, sIf, sbind, sAsg, sRet, sSkip, sExpr, sPar, sSetI, sSetA, sAug, sFor, sTg, dVar, dC, dNil, dCons, dBind, obind, dTup, dLst, dFrz, MO.d, dReg, dFz, dOp1, dOp2, dCmp, dB2v, dTst, dAnd, dOr, dNot, dIf, dCall, dIx, dLook, lookD, dIsi, dIsi2, dIsC, dIn, dChn, dMut, lstOf, putO, dM1, tyOk, dNw1, dNw2, dSl, dP, dNoP, dIsN, dItQ, dItS, dRg1, dRg2, dEnum, dLc, dYes, noex, Tg.run, gSets, List.length_map, List.length_cons, List.length_nil, List.map_cons, List.map_nil, g1, g0, i1, in_two, hd]⟩
theorem bf_for {n : Nat} (hn : n ≤ 9) (mu : Store) {rs : Rds} {st at_ c : Nat} {a0 a1 a2 : Option SV} (hr : ∀ q ∈ rs, q.1 < n ∧ q.2 < n) : ∀ (qs done : Rds) (s : Srch) (x6 x7 x8 : Option SV), (∀ q ∈ qs, q ∈ rs) → BfI n rs st at_ done s → s.lv[at_]? = some c → ∃ y6 y7 y8,
    sForL (.tp [6, 7]) b_steps_away_1 (qs.map pD) [a0, a1, a2, some (.val (.obj mu.length)), some (.val (.obj (mu.length + 1))), some (.val (.int (at_ : Int))), x6, x7, x8] (st2 mu (fvD s.fv) s.lv) =
      .nx [a0, a1, a2, some (.val (.obj mu.length)), some (.val (.obj (mu.length + 1))), some (.val (.int (at_ : Int))), y6, y7, y8] (st2 mu (fvD (bfAll c qs s).fv) (bfAll c qs s).lv)
  | [], done, s, x6, x7, x8, hq, h, hat => ⟨x6, x7, x8, rfl⟩
  | q :: qs, done, s, x6, x7, x8, hq, h, hat => by
    have hm := hq q List.mem_cons_self
    obtain ⟨z8, e1⟩ := bf_turn hn mu h hat (hr q hm).1 (hr q hm).2 (a0 := a0) (a1 := a1) (a2 := a2) (x8 := x8)
    obtain ⟨h1, t1, ht1⟩ := bf1_ok h hat hm (hr q hm).1 (hr q hm).2
    have hat1 : (bf1 c s q).lv[at_]? = some c := by
      rw [ht1, List.getElem?_append_left (List.getElem?_eq_some_iff.mp hat).1]
      exact hat
    obtain ⟨w6, w7, w8, e2⟩ := bf_for hn mu hr qs _ (bf1 c s q) (some (.val (.int (q.1 : Int)))) (some (.val (.int (q.2 : Int)))) z8 (fun x hx => hq x (List.mem_cons_of_mem _ hx)) h1 hat1
    refine ⟨w6, w7, w8, ?_⟩
    rw [show bfAll c (q :: qs) s = bfAll c qs (bf1 c s q) from rfl, ← e2]
    conv => lhs; rw [List.map_cons]; unfold sForL
    simp only [Tg.run, pD, gSets, List.set_cons_succ, List.set_cons_zero, e1]
theorem bf_while {n : Nat} (hn : n ≤ 9) (mu : Store) {rs : Rds} {st : Nat} (hr : ∀ q ∈ rs, q.1 < n ∧ q.2 < n) {a0 a2 : Option SV} : ∀ (m at_ : Nat) (s : Srch) (x6 x7 x8 : Option SV), BfI n rs st at_ [] s → at_ ≤ s.lv.length → n + 1 ≤ m + at_ → ∃ sl,
    sWhl c_steps_away_1 b_steps_away_2 m [a0, some (.val (.lst (rs.map pD))), a2, some (.val (.obj mu.length)), some (.val (.obj (mu.length + 1))), some (.val (.int (at_ : Int))), x6, x7, x8] (st2 mu (fvD s.fv) s.lv) =
      .nx sl (st2 mu (fvD (bfRun rs m at_ s).fv) (bfRun rs m at_ s).lv) ∧ sl[3]? = some (some (.val (.obj mu.length)))
  | 0, at_, s, x6, x7, x8, h, hat, hm => by have := h.le; omega
  | m + 1, at_, s, x6, x7, x8, h, hat, hm => by
    have g1 := st2_1 mu (fvD s.fv) s.lv
    have hlen : (intsN s.lv).length = s.lv.length := by unfold intsN; simp
    by_cases hlt : at_ < s.lv.length
    · have hc : s.lv[at_]? = some s.lv[at_] := List.getElem?_eq_getElem hlt
      obtain ⟨y6, y7, y8, e1⟩ := bf_for hn mu hr (at_ := at_) (c := s.lv[at_]) (a0 := a0) (a1 := some (.val (.lst (rs.map pD)))) (a2 := a2) rs [] s x6 x7 x8 (fun _ h => h) h hc
      obtain ⟨h1, t, ht⟩ := bfAll_ok hr rs [] s (fun _ h => h) h hc
      rw [List.nil_append] at h1
      have hlt1 : at_ < (bfAll s.lv[at_] rs s).lv.length := by rw [ht, List.length_append]; omega
      obtain ⟨sl, e2, hs⟩ := bf_while hn mu hr (a0 := a0) (a2 := a2) m (at_ + 1) _ y6 y7 y8 (h1.next hlt1) hlt1 (by omega)
      refine ⟨sl, ?_, hs⟩
      have eR : bfRun rs (m + 1) at_ s = bfRun rs m (at_ + 1) (bfAll s.lv[at_] rs s) := by
        conv => lhs; unfold bfRun
        rw [hc]
      rw [eR, ← e2]
      conv => lhs; unfold sWhl
      have hlt' : (at_ : Int) < (s.lv.length : Int) := by omega
      have hb : b_steps_away_2 [a0, some (.val (.lst (rs.map pD))), a2, some (.val (.obj mu.length)), some (.val (.obj (mu.length + 1))), some (.val (.int (at_ : Int))), x6, x7, x8] (st2 mu (fvD s.fv) s.lv) =
          .nx [a0, some (.val (.lst (rs.map pD))), a2, some (.val (.obj mu.length)), some (.val (.obj (mu.length + 1))), some (.val (.int ((at_ + 1 : Nat) : Int))), y6, y7, y8] (st2 mu (fvD (bfAll s.lv[at_] rs s).fv) (bfAll s.lv[at_] rs s).lv) := by
        simp [b_steps_away_2, dFun, sSeq, snext, sIf, sbind, sAsg, sRet, sSkip, sExpr, sPar, sSetI, sSetA, sAug, sFor, sTg, dVar, dC, dNil, dCons, dBind, obind, dTup, dLst, dFrz, MO.d, dReg, dFz, dOp1, dOp2, dCmp, dB2v, dTst, dAnd, dOr, dNot, dIf, dCall, dIx, dLook, lookD, dIsi, dIsi2, dIsC, dIn, dChn, dMut, lstOf, putO, dM1, tyOk, dNw1, dNw2, dSl, dP, dNoP, dIsN, dItQ, dItS, dRg1, dRg2, dEnum, dLc, dYes, noex, Tg.run, gSets, List.length_map, List.length_cons, List.length_nil, List.map_cons, List.map_nil, e1]
      simp [c_steps_away_1, dFun, sSeq, snext, sIf, sbind, sAsg, sRet, sSkip, sExpr, sPar, sSetI, sSetA, sAug, sFor, sTg, dVar, dC, dNil, dCons, dBind, obind, dTup, dLst, dFrz, MO.d, dReg, dFz, dOp1, dOp2, dCmp, dB2v, dTst, dAnd, dOr, dNot, dIf, dCall, dIx, dLook, lookD, dIsi, dIsi2, dIsC, dIn, dChn, dMut, lstOf, putO, dM1, tyOk, dNw1, dNw2, dSl, dP, dNoP, dIsN, dItQ, dItS, dRg1, dRg2, dEnum, dLc, dYes, noex, Tg.run, gSets, List.length_map, List.length_cons, List.length_nil, List.map_cons, List.map_nil, g1, lenD, hlen, ltD, hlt', hb]
    · have hlt' : ¬ (at_ : Int) < (s.lv.length : Int) := by omega
      refine ⟨[a0, some (.val (.lst (rs.map pD))), a2, some (.val (.obj mu.length)), some (.val (.obj (mu.length + 1))), some (.val (.int (at_ : Int))), x6, x7, x8], ?_, rfl⟩
      have eR : bfRun rs (m + 1) at_ s = s := by
        unfold bfRun
        rw [List.getElem?_eq_none (by omega)]
      rw [eR]
      unfold sWhl
      simp [c_steps_away_1, dFun, sSeq, snext, sIf, sbind, sAsg, sRet, sSkip, sExpr, sPar, sSetI, sSetA, sAug, sFor, sTg, dVar, dC, dNil, dCons, dBind, obind, dTup, dLst, dFrz, MO.d, dReg, dFz, dOp1, dOp2, dCmp, dB2v, dTst, dAnd, dOr, dNot, dIf, dCall, dIx, dLook, lookD, dIsi, dIsi2, dIsC, dIn, dChn, dMut, lstOf, putO, dM1, tyOk, dNw1, dNw2, dSl, dP, dNoP, dIsN, dItQ, dItS, dRg1, dRg2, dEnum, dLc, dYes, noex, Tg.run, gSets, List.length_map, List.length_cons, List.length_nil, List.map_cons, List.map_nil, g1, lenD, hlen, ltD, hlt']
theorem clL_fv {m : Nat} : ∀ l : List (Option Nat), clL m (fvD l) = true
  | [] => rfl
  | o :: l => by
    show (clD m (optD o) && clL m (fvD l)) = true
    rw [clL_fv l]
    cases o <;> rfl
/-- nothing in the store names what is beyond it -/
def Shut0 (mu : Store) : Prop := mu.all (clM mu.length) = true
theorem steps_ok {n : Nat} (hn : n ≤ 9) {rs : Rds} (hr : ∀ q ∈ rs, q.1 < n ∧ q.2 < n) {s : Nat} (hs : s < n) {mu : Store} (hmu : Shut0 mu) : f_steps_away [.int (n : Int), .lst (rs.map pD), .int (s : Int)] mu = .ok (.lst (fvD (stepsOf n rs s))) mu := by
  obtain ⟨sl, e, hsl⟩ := bf_while hn mu hr (a0 := some (.val (.int (n : Int)))) (a2 := some (.val (.int (s : Int)))) 60 0 _ none none none (bf0_ok (rs := rs) hs) (by simp [bf0]) (by omega)
  have r1 : rgOk (n : Int) = true := rgOk_nat (by omega)
  have hrep : repD (.lst [.non]) (.int (n : Int)) = some (.lst (List.replicate n D.non)) := by
    unfold repD
    have : rgOk (n : Int) = true ∧ [D.non].length * (n : Int).toNat ≤ 16000000 := ⟨r1, by simp; omega⟩
    dsimp only
    rw [if_pos this]
    simp
  have hf0 : fvD (bf0 n s).fv = (List.replicate n D.non).set s (.int 0) := by
    unfold bf0
    rw [← fvD_set]
    unfold fvD
    rw [List.map_replicate]
    rfl
  have g0 : (mu ++ [some (MO.lst (List.replicate n D.non))])[mu.length]? = some (some (.lst (List.replicate n D.non))) := by simp
  have s0 : (mu ++ [some (MO.lst (List.replicate n D.non))]).set mu.length (some (.lst ((List.replicate n D.non).set s (.int 0)))) = mu ++ [some (.lst ((List.replicate n D.non).set s (.int 0)))] := by simp
  have hset := set_nat (l := List.replicate n D.non) (i := s) (v := .int 0) (by simpa using hs)
  have happ : mu ++ [some (MO.lst ((List.replicate n D.non).set s (.int 0)))] ++ [some (.lst [.int (s : Int)])] = st2 mu (fvD (bf0 n s).fv) (bf0 n s).lv := by rw [hf0]; unfold st2 intsN bf0; simp
  have g1 := st2_0 mu (fvD (bfRun rs 60 0 (bf0 n s)).fv) (bfRun rs 60 0 (bf0 n s)).lv
  have key : dFun 9 g_steps_away [.int (n : Int), .lst (rs.map pD), .int (s : Int)] mu = .ok (.lst (fvD (stepsOf n rs s))) ((st2 mu (fvD (bfRun rs 60 0 (bf0 n s)).fv) (bfRun rs 60 0 (bf0 n s)).lv).set mu.length none) := by
    rw [show ((0 : Nat) : Int) = 0 from rfl] at e
    simp [g_steps_away, dFun, sSeq, snext, sIf, sbind, sAsg, sRet, sSkip, sExpr, sPar, sSetI, sSetA, sAug, sFor, sTg, dVar, dC, dNil, dCons, dBind, obind, dTup, dLst, dFrz, MO.d, dReg, dFz, dOp1, dOp2, dCmp, dB2v, dTst, dAnd, dOr, dNot, dIf, dCall, dIx, dLook, lookD, dIsi, dIsi2, dIsC, dIn, dChn, dMut, lstOf, putO, dM1, tyOk, dNw1, dNw2, dSl, dP, dNoP, dIsN, dItQ, dItS, dRg1, dRg2, dEnum, dLc, dYes, noex, Tg.run, gSets, List.length_map, List.length_cons, List.length_nil, List.map_cons, List.map_nil, hrep, g0, s0, hset, happ, e, hsl, g1, stepsOf]
  have ht : ((st2 mu (fvD (bfRun rs 60 0 (bf0 n s)).fv) (bfRun rs 60 0 (bf0 n s)).lv).set mu.length none).take mu.length = mu := by
    rw [List.take_set_of_le (Nat.le_refl _)]
    unfold st2
    simp
  unfold f_steps_away fGc
  rw [key]
  unfold gcO
  dsimp only
  rw [ht, show clD mu.length (.lst (fvD (stepsOf n rs s))) = clL mu.length (fvD (stepsOf n rs s)) from rfl, clL_fv]
  rw [show mu.all (clM mu.length) = true from hmu]
  rfl
end DL
end

section
set_option Elab.async false
set_option linter.all false
set_option maxRecDepth 100000
set_option maxHeartbeats 4000000
namespace DL
open PySem
/-! the plain law of k02: webs made -/
def pP (p : Nat × Nat) : PyData := .tuple [.int (p.1 : Int), .int (p.2 : Int)]
theorem toPL_prs : ∀ l : List (Nat × Nat), toPL (l.map pD) = some (l.map pP)
  | [] => rfl
  | p :: l => by
    rw [List.map_cons]
    unfold toPL
    rw [toPL_prs l]
    rfl
def srt (qs : List (Nat × Nat)) : List D := (qs.map pD).mergeSort sortLe
theorem sorted_prs (qs : List (Nat × Nat)) : sortedD (.lst (qs.map pD)) = some (.lst (srt qs)) := by
  unfold sortedD
  dsimp only
  rw [toPL_prs]
  dsimp only
  have h1 : alikeB (qs.map pP) = true := by
    unfold alikeB
    rw [List.all_eq_true]
    intro a ha
    rw [List.all_eq_true]
    intro b hb
    obtain ⟨x, _, rfl⟩ := List.mem_map.mp ha
    obtain ⟨y, _, rfl⟩ := List.mem_map.mp hb
    simp [pP, PySem.W.alike, PySem.W.alikeAll]
  have h2 : ((qs.map pP).all tupNE) = true := by
    rw [List.all_eq_true]
    intro a ha
    obtain ⟨x, _, rfl⟩ := List.mem_map.mp ha
    rfl
  have h3 : ((qs.map pP).all fun p => decide (p.depth ≤ 60)) = true := by
    rw [List.all_eq_true]
    intro a ha
    obtain ⟨x, _, rfl⟩ := List.mem_map.mp ha
    simp [pP, PyData.depth, PyData.depthAll]
  rw [h1, h2, h3]
  rfl
structure Web (fs : List Str) (qs : List (Nat × Nat)) : Prop where
  names : Names fs
  ne : 1 ≤ fs.length
  nd : qs.Nodup
  lt : ∀ q ∈ qs, q.1 < q.2 ∧ q.2 < fs.length
  few : qs.length ≤ 36
/-- the table of distances -/
def awD (n : Nat) (rs : Rds) : List D := (List.range n).map fun s => .lst (fvD (stepsOf n rs s))
def webF (fs : List Str) (qs : List (Nat × Nat)) : List (Str × D) := [("spots", .tup (fs.map D.str)), ("roads", .tup (srt qs)), ("away", .lst (awD fs.length qs))]
theorem srt_mem {qs : List (Nat × Nat)} {d : D} (h : d ∈ srt qs) : ∃ q ∈ qs, pD q = d := by
  unfold srt at h
  rw [List.mem_mergeSort] at h
  exact List.mem_map.mp h
theorem clL_of {m : Nat} : ∀ {l : List D}, (∀ d ∈ l, clD m d = true) → clL m l = true
  | [], _ => rfl
  | d :: l, h => by
    show (clD m d && clL m l) = true
    rw [h d List.mem_cons_self, clL_of fun x hx => h x (List.mem_cons_of_mem _ hx)]
    rfl
theorem cl_srt (m : Nat) (qs : List (Nat × Nat)) : clL m (srt qs) = true := clL_of fun d hd => by
  obtain ⟨q, _, rfl⟩ := srt_mem hd
  rfl
theorem cl_awD (m n : Nat) (rs : Rds) : clL m (awD n rs) = true := clL_of fun d hd => by
  obtain ⟨s, _, rfl⟩ := List.mem_map.mp hd
  exact clL_fv _
theorem cl_webF (m : Nat) (fs : List Str) (qs : List (Nat × Nat)) : clF m (webF fs qs) = true := by
  unfold webF
  simp only [clF, clD, cl_strs, cl_srt, cl_awD, Bool.and_self]
theorem q_init_1 {fs : List Str} {qs : List (Nat × Nat)} (h : Web fs qs) (mu : Store) {a0 a3 : Option SV} : q_Web_init_1 [a0, some (.val (.lst (fs.map D.str))), some (.val (.lst (qs.map pD))), a3, none] mu = .ok (.lst (qs.map fun _ => D.bl true)) mu := by
  have hl : lenD (.lst (fs.map D.str)) = some (.int (fs.length : Nat)) := by simp [lenD]
  have := lc_all (src := dItQ (dVar 2)) (g := .nm 4) (own := [4]) (elt := dCall f_is_pair_below (dCons (dVar 4) (dCons (dOp1 lenD (dLook (dVar 1))) dNil))) (sl := [a0, some (.val (.lst (fs.map D.str))), some (.val (.lst (qs.map pD))), a3, none]) (mu := mu) (ds := qs.map pD)
    (fun _ => .bl true) rfl (by rw [List.length_map]; have := h.few; omega) (fun d hd => by
      obtain ⟨q, hq, rfl⟩ := List.mem_map.mp hd
      obtain ⟨q1, q2⟩ := h.lt q hq
      have hp := pair_ok q1 q2 h.names.le mu
      exact ⟨_, rfl, by simp [wipeS, dFun, sSeq, snext, sIf, sbind, sAsg, sRet, sSkip, sExpr, sPar, sSetI, sSetA, sAug, sFor, sTg, dVar, dC, dNil, dCons, dBind, obind, dTup, dLst, dFrz, MO.d, dReg, dFz, dOp1, dOp2, dCmp, dB2v, dTst, dAnd, dOr, dNot, dIf, dCall, dIx, dLook, lookD, dIsi, dIsi2, dIsC, dIn, dChn, dMut, lstOf, putO, dM1, tyOk, dNw1, dNw2, dSl, dP, dNoP, dIsN, dItQ, dItS, dRg1, dRg2, dEnum, dLc, dYes, noex, Tg.run, gSets, List.length_map, List.length_cons, List.length_nil, List.map_cons, List.map_nil, hl, hp]⟩)
  rw [show q_Web_init_1 = dLc (dItQ (dVar 2)) (.nm 4) [4] dYes (dCall f_is_pair_below (dCons (dVar 4) (dCons (dOp1 lenD (dLook (dVar 1))) dNil))) from rfl, this, List.map_map]
  rfl
theorem q_init_2 {fs : List Str} {qs : List (Nat × Nat)} (h : Web fs qs) {mu : Store} (hmu : Shut0 mu) {a0 : Option SV} : q_Web_init_2 [a0, some (.val (.lst (fs.map D.str))), some (.val (.lst (qs.map pD))), none, none] mu = .ok (.lst (awD fs.length qs)) mu := by
  have hl : lenD (.lst (fs.map D.str)) = some (.int (fs.length : Nat)) := by simp [lenD]
  have hr : ∀ q ∈ qs, q.1 < fs.length ∧ q.2 < fs.length := fun q hq => by have := h.lt q hq; omega
  have r1 : rgOk (fs.length : Int) = true := rgOk_nat (by have := h.names.le; omega)
  have := lc_all (src := dRg1 (dOp1 lenD (dLook (dVar 1)))) (g := .nm 3) (own := [3]) (elt := dCall f_steps_away (dCons (dOp1 lenD (dLook (dVar 1))) (dCons (dVar 2) (dCons (dVar 3) dNil)))) (sl := [a0, some (.val (.lst (fs.map D.str))), some (.val (.lst (qs.map pD))), none, none]) (mu := mu) (ds := rangeD 0 fs.length)
      (fun d => match d with
        | .int i => .lst (fvD (stepsOf fs.length qs i.toNat))
        | d => d) (by simp [dFun, sSeq, snext, sIf, sbind, sAsg, sRet, sSkip, sExpr, sPar, sSetI, sSetA, sAug, sFor, sTg, dVar, dC, dNil, dCons, dBind, obind, dTup, dLst, dFrz, MO.d, dReg, dFz, dOp1, dOp2, dCmp, dB2v, dTst, dAnd, dOr, dNot, dIf, dCall, dIx, dLook, lookD, dIsi, dIsi2, dIsC, dIn, dChn, dMut, lstOf, putO, dM1, tyOk, dNw1, dNw2, dSl, dP, dNoP, dIsN, dItQ, dItS, dRg1, dRg2, dEnum, dLc, dYes, noex, Tg.run, gSets, List.length_map, List.length_cons, List.length_nil, List.map_cons, List.map_nil, hl, r1]) (by rw [rangeD_len]; have := h.names.le; omega) (fun d hd => by
      rw [rangeD0] at hd
      obtain ⟨s, hs, rfl⟩ := List.mem_map.mp hd
      have := steps_ok h.names.le hr (List.mem_range.mp hs) hmu
      exact ⟨_, rfl, by simp [wipeS, dFun, sSeq, snext, sIf, sbind, sAsg, sRet, sSkip, sExpr, sPar, sSetI, sSetA, sAug, sFor, sTg, dVar, dC, dNil, dCons, dBind, obind, dTup, dLst, dFrz, MO.d, dReg, dFz, dOp1, dOp2, dCmp, dB2v, dTst, dAnd, dOr, dNot, dIf, dCall, dIx, dLook, lookD, dIsi, dIsi2, dIsC, dIn, dChn, dMut, lstOf, putO, dM1, tyOk, dNw1, dNw2, dSl, dP, dNoP, dIsN, dItQ, dItS, dRg1, dRg2, dEnum, dLc, dYes, noex, Tg.run, gSets, List.length_map, List.length_cons, List.length_nil, List.map_cons, List.map_nil, hl, this]⟩)
  rw [show q_Web_init_2 = dLc (dRg1 (dOp1 lenD (dLook (dVar 1)))) (.nm 3) [3] dYes (dCall f_steps_away (dCons (dOp1 lenD (dLook (dVar 1))) (dCons (dVar 2) (dCons (dVar 3) dNil)))) from rfl, this]
  rw [rangeD0, List.map_map]
  rfl
def fldA (fs : List Str) : List (Str × D) := [("spots", .tup (fs.map D.str))]
def fldB (fs : List Str) (qs : List (Nat × Nat)) : List (Str × D) := [("spots", .tup (fs.map D.str)), ("roads", .tup (srt qs))]
theorem init_ok {fs : List Str} {qs : List (Nat × Nat)} (h : Web fs qs) {mu : Store} (hmu : mu.all (clM (mu.length + 1)) = true) : f_Web_init [.obj mu.length, .lst (fs.map D.str), .lst (qs.map pD)] (mu ++ [some (.ins 0 [])]) = .ok .non (mu ++ [some (.ins 0 (webF fs qs))]) := by
  have e1 := are_spots_ok h.names h.ne (mu ++ [some (.ins 0 [])])
  have e2 : f_is_listed [.lst (qs.map pD)] (mu ++ [some (.ins 0 [])]) = .ok (.bl true) (mu ++ [some (.ins 0 [])]) := by simp [f_is_listed, g_is_listed, dFun, sSeq, snext, sIf, sbind, sAsg, sRet, sSkip, sExpr, sPar, sSetI, sSetA, sAug, sFor, sTg, dVar, dC, dNil, dCons, dBind, obind, dTup, dLst, dFrz, MO.d, dReg, dFz, dOp1, dOp2, dCmp, dB2v, dTst, dAnd, dOr, dNot, dIf, dCall, dIx, dLook, lookD, dIsi, dIsi2, dIsC, dIn, dChn, dMut, lstOf, putO, dM1, tyOk, dNw1, dNw2, dSl, dP, dNoP, dIsN, dItQ, dItS, dRg1, dRg2, dEnum, dLc, dYes, noex, Tg.run, gSets, List.length_map, List.length_cons, List.length_nil, List.map_cons, List.map_nil, isiOk, isTy]
  have e3 := q_init_1 h (mu ++ [some (.ins 0 [])]) (a0 := some (.val (.obj mu.length))) (a3 := none)
  have ha : allD (.lst (qs.map fun _ => D.bl true)) = some (.bl true) := by
    have := all_true (qs.map pD)
    rw [List.map_map] at this
    exact this
  have e4 := no_twice_prs h.nd (mu ++ [some (.ins 0 [])])
  have i0 : insOf (mu ++ [some (.ins 0 [])]) (.obj mu.length) = some (0, []) := by unfold insOf; simp
  have i1 : insOf (mu ++ [some (.ins 0 (fldA fs))]) (.obj mu.length) = some (0, (fldA fs)) := by unfold insOf; simp
  have i2 : insOf (mu ++ [some (.ins 0 (fldB fs qs))]) (.obj mu.length) = some (0, (fldB fs qs)) := by unfold insOf; simp
  have s0 : ∀ m m' : MO, (mu ++ [some m]).set mu.length (some m') = mu ++ [some m'] := fun m m' => by simp
  have sh : Shut0 (mu ++ [some (.ins 0 (fldB fs qs))]) := by
    unfold Shut0
    rw [List.length_append, List.all_append]
    show (mu.all (clM (mu.length + 1)) && _) = true
    rw [hmu]
    simp [fldB, clM, clF, clD, cl_strs, cl_srt]
  have e5 := q_init_2 h sh (a0 := some (.val (.obj mu.length)))
  have p1 : putFD "spots" (.tup (fs.map D.str)) [] = (fldA fs) := rfl
  have p2 : putFD "roads" (.tup (srt qs)) (fldA fs) = (fldB fs qs) := rfl
  have p3 : putFD "away" (.lst (awD fs.length qs)) (fldB fs qs) = webF fs qs := rfl
  have l1 : (fldA fs).length < 1000 := by show 1 < 1000; decide
  have l2 : (fldB fs qs).length < 1000 := by show 2 < 1000; decide
  simp [f_Web_init, g_Web_init, dFun, sSeq, snext, sIf, sbind, sAsg, sRet, sSkip, sExpr, sPar, sSetI, sSetA, sAug, sFor, sTg, dVar, dC, dNil, dCons, dBind, obind, dTup, dLst, dFrz, MO.d, dReg, dFz, dOp1, dOp2, dCmp, dB2v, dTst, dAnd, dOr, dNot, dIf, dCall, dIx, dLook, lookD, dIsi, dIsi2, dIsC, dIn, dChn, dMut, lstOf, putO, dM1, tyOk, dNw1, dNw2, dSl, dP, dNoP, dIsN, dItQ, dItS, dRg1, dRg2, dEnum, dLc, dYes, noex, Tg.run, gSets, List.length_map, List.length_cons, List.length_nil, List.map_cons, List.map_nil, l1, l2, e1, e2, e3, ha, e4, tupleD, i0, p1, s0, sorted_prs, i1, p2, i2, e5, p3]
def webD (fs : List Str) (qs : List (Nat × Nat)) : D := .ins 0 (webF fs qs)
theorem made_ok {fs : List Str} {rs : List (Nat × Nat)} (h : Web fs rs) {mu : Store} (hmu : ∀ n, mu.all (clM n) = true) : f__law_made [specD fs rs] mu = .ok (webD fs rs) mu := by
  have e := init_ok h (hmu (mu.length + 1))
  have g0 : (mu ++ [some (MO.ins 0 (webF fs rs))])[mu.length]? = some (some (.ins 0 (webF fs rs))) := by simp
  have s0 : (mu ++ [some (MO.ins 0 (webF fs rs))]).set mu.length none = mu ++ [none] := by simp
  have key : dFun 1 g__law_made [specD fs rs] mu = .ok (webD fs rs) (mu ++ [none]) := by
    simp [g__law_made, dFun, sSeq, snext, sIf, sbind, sAsg, sRet, sSkip, sExpr, sPar, sSetI, sSetA, sAug, sFor, sTg, dVar, dC, dNil, dCons, dBind, obind, dTup, dLst, dFrz, MO.d, dReg, dFz, dOp1, dOp2, dCmp, dB2v, dTst, dAnd, dOr, dNot, dIf, dCall, dIx, dLook, lookD, dIsi, dIsi2, dIsC, dIn, dChn, dMut, lstOf, putO, dM1, tyOk, dNw1, dNw2, dSl, dP, dNoP, dIsN, dItQ, dItS, dRg1, dRg2, dEnum, dLc, dYes, noex, Tg.run, gSets, List.length_map, List.length_cons, List.length_nil, List.map_cons, List.map_nil, dMake, specD, ixD, L2.atI, L2.ixN, listD, e, g0, s0, webD]
  unfold f__law_made fGc
  rw [key]
  unfold gcO
  dsimp only
  rw [show (mu ++ [(none : Option MO)]).take mu.length = mu by simp, hmu, show clD mu.length (webD fs rs) = clF mu.length (webF fs rs) from rfl, cl_webF]
  rfl
end DL
end

section
set_option Elab.async false
set_option linter.all false
set_option maxRecDepth 100000
set_option maxHeartbeats 4000000
namespace DL
open PySem
/-! Q1: tasks -/
/-- stores that name no object -/
abbrev Pl (mu : Store) : Prop := ∀ n, mu.all (clM n) = true
theorem pl_nil : Pl [] := fun _ => rfl
theorem pl_app {a b : Store} (ha : Pl a) (hb : Pl b) : Pl (a ++ b) := fun n => by rw [List.all_append, ha n, hb n]; rfl
theorem pl_none : Pl [(none : Option MO)] := fun _ => rfl
/-- what is left over of a call is dropped -/
theorem gc_of {p : FF} {ds : List D} {mu mu' : Store} {d : D} (h : p ds mu = .ok d mu') (ht : mu'.take mu.length = mu) (hp : Pl mu) (hd : ∀ n, clD n d = true) : fGc p ds mu = .ok d mu := by
  unfold fGc
  rw [h]
  unfold gcO
  dsimp only
  rw [ht, hp, hd]
  rfl
theorem take_app (a b : Store) : (a ++ b).take a.length = a := by simp
/-- a task's parts -/
structure Tk where
  far : Bool
  reach : Nat
  fires : Nat
  broken : Nat
  lying : Nat
structure Tk.Ok (t : Tk) : Prop where
  reach : t.reach ≤ 8
  fires0 : 1 ≤ t.fires
  fires : t.fires ≤ 3
  broken : t.broken ≤ 3
  lying : t.lying ≤ 3
def kindS (b : Bool) : Str := if b then "far" else "near"
def Tk.l (t : Tk) : List D := [.str (kindS t.far), .int (t.reach : Int), .int (t.fires : Int), .int (t.broken : Int), .int (t.lying : Int)]
def tkF (t : Tk) : List (Str × D) := [("kind", .str (kindS t.far)), ("reach", .int (t.reach : Int)), ("fires", .int (t.fires : Int)), ("broken", .int (t.broken : Int)), ("lying", .int (t.lying : Int))]
def tkD (t : Tk) : D := .ins 2 (tkF t)
theorem cl_tkD (t : Tk) (n : Nat) : clD n (tkD t) = true := rfl
theorem within_ok {i : Int} {lo hi : Int} (mu : Store) : f_is_within [.int i, .int lo, .int hi] mu = .ok (.bl (decide (lo ≤ i) && decide (i ≤ hi))) mu := by
  by_cases h1 : lo ≤ i <;> by_cases h2 : i ≤ hi <;> simp [f_is_within, g_is_within, f_is_number, g_is_number, dFun, sSeq, snext, sIf, sbind, sAsg, sRet, sSkip, sExpr, sPar, sSetI, sSetA, sAug, sFor, sTg, dVar, dC, dNil, dCons, dBind, obind, dTup, dLst, dFrz, MO.d, dReg, dFz, dOp1, dOp2, dCmp, dB2v, dTst, dAnd, dOr, dNot, dIf, dCall, dIx, dLook, lookD, dIsi, dIsi2, dIsC, dIn, dChn, dMut, lstOf, putO, dM1, tyOk, dNw1, dNw2, dSl, dP, dNoP, dIsN, dItQ, dItS, dRg1, dRg2, dEnum, dLc, dYes, noex, Tg.run, gSets, List.length_map, List.length_cons, List.length_nil, List.map_cons, List.map_nil, isiOk, isTy, leI, cmpI, h1, h2]
theorem within_nat {i lo hi : Nat} (h1 : lo ≤ i) (h2 : i ≤ hi) (mu : Store) : f_is_within [.int (i : Int), .int (lo : Int), .int (hi : Int)] mu = .ok (.bl true) mu := by
  rw [within_ok]
  have a : (lo : Int) ≤ (i : Int) := by omega
  have b : (i : Int) ≤ (hi : Int) := by omega
  simp [a, b]
theorem in_kinds (b : Bool) : inD (.str (kindS b)) (.tup [.str "near", .str "far"]) = some true := by
  rw [show inD (.str (kindS b)) (.tup [.str "near", .str "far"]) = some (decide (kindS b ∈ (["near", "far"] : List Str))) from in_strsT _ ["near", "far"]]
  cases b <;> decide +kernel
def tk1 (t : Tk) : List (Str × D) := [("kind", .str (kindS t.far))]
def tk2 (t : Tk) : List (Str × D) := [("kind", .str (kindS t.far)), ("reach", .int (t.reach : Int))]
def tk3 (t : Tk) : List (Str × D) := [("kind", .str (kindS t.far)), ("reach", .int (t.reach : Int)), ("fires", .int (t.fires : Int))]
def tk4 (t : Tk) : List (Str × D) := [("kind", .str (kindS t.far)), ("reach", .int (t.reach : Int)), ("fires", .int (t.fires : Int)), ("broken", .int (t.broken : Int))]
theorem task_init {t : Tk} (h : t.Ok) (mu : Store) : f_Task_init [.obj mu.length, .str (kindS t.far), .int (t.reach : Int), .int (t.fires : Int), .int (t.broken : Int), .int (t.lying : Int)] (mu ++ [some (.ins 2 [])]) = .ok .non (mu ++ [some (.ins 2 (tkF t))]) := by
  have e1 : ∀ mu, f_is_within [.int (t.reach : Int), .int 0, .int 8] mu = .ok (.bl true) mu := fun mu => within_nat (i := t.reach) (lo := 0) (hi := 8) (Nat.zero_le _) h.reach mu
  have e2 : ∀ mu, f_is_within [.int (t.fires : Int), .int 1, .int 3] mu = .ok (.bl true) mu := fun mu => within_nat (i := t.fires) (lo := 1) (hi := 3) h.fires0 h.fires mu
  have e3 : ∀ mu, f_is_within [.int (t.broken : Int), .int 0, .int 3] mu = .ok (.bl true) mu := fun mu => within_nat (i := t.broken) (lo := 0) (hi := 3) (Nat.zero_le _) h.broken mu
  have e4 : ∀ mu, f_is_within [.int (t.lying : Int), .int 0, .int 3] mu = .ok (.bl true) mu := fun mu => within_nat (i := t.lying) (lo := 0) (hi := 3) (Nat.zero_le _) h.lying mu
  have ii : ∀ fs, insOf (mu ++ [some (.ins 2 fs)]) (.obj mu.length) = some (2, fs) := fun fs => by unfold insOf; simp
  have s0 : ∀ m m' : MO, (mu ++ [some m]).set mu.length (some m') = mu ++ [some m'] := fun m m' => by simp
  have p1 : putFD "kind" (.str (kindS t.far)) [] = tk1 t := rfl
  have p2 : putFD "reach" (.int (t.reach : Int)) (tk1 t) = tk2 t := rfl
  have p3 : putFD "fires" (.int (t.fires : Int)) (tk2 t) = tk3 t := rfl
  have p4 : putFD "broken" (.int (t.broken : Int)) (tk3 t) = tk4 t := rfl
  have p5 : putFD "lying" (.int (t.lying : Int)) (tk4 t) = tkF t := rfl
  have l1 : (tk1 t).length < 1000 := by show 1 < 1000; decide
  have l2 : (tk2 t).length < 1000 := by show 2 < 1000; decide
  have l3 : (tk3 t).length < 1000 := by show 3 < 1000; decide
  have l4 : (tk4 t).length < 1000 := by show 4 < 1000; decide
  simp [f_Task_init, g_Task_init, dFun, sSeq, snext, sIf, sbind, sAsg, sRet, sSkip, sExpr, sPar, sSetI, sSetA, sAug, sFor, sTg, dVar, dC, dNil, dCons, dBind, obind, dTup, dLst, dFrz, MO.d, dReg, dFz, dOp1, dOp2, dCmp, dB2v, dTst, dAnd, dOr, dNot, dIf, dCall, dIx, dLook, lookD, dIsi, dIsi2, dIsC, dIn, dChn, dMut, lstOf, putO, dM1, tyOk, dNw1, dNw2, dSl, dP, dNoP, dIsN, dItQ, dItS, dRg1, dRg2, dEnum, dLc, dYes, noex, Tg.run, gSets, List.length_map, List.length_cons, List.length_nil, List.map_cons, List.map_nil, isiOk, isTy, in_kinds, e1, e2, e3, e4, ii, s0, p1, p2, p3, p4, p5, l1, l2, l3, l4]
theorem set_ok {t : Tk} (h : t.Ok) {mu : Store} (hp : Pl mu) : f__law_set [.lst t.l] mu = .ok (tkD t) mu := by
  have e := task_init h mu
  have g0 : (mu ++ [some (MO.ins 2 (tkF t))])[mu.length]? = some (some (.ins 2 (tkF t))) := by simp
  have s0 : (mu ++ [some (MO.ins 2 (tkF t))]).set mu.length none = mu ++ [none] := by simp
  have key : dFun 1 g__law_set [.lst t.l] mu = .ok (tkD t) (mu ++ [none]) := by
    simp [g__law_set, dFun, sSeq, snext, sIf, sbind, sAsg, sRet, sSkip, sExpr, sPar, sSetI, sSetA, sAug, sFor, sTg, dVar, dC, dNil, dCons, dBind, obind, dTup, dLst, dFrz, MO.d, dReg, dFz, dOp1, dOp2, dCmp, dB2v, dTst, dAnd, dOr, dNot, dIf, dCall, dIx, dLook, lookD, dIsi, dIsi2, dIsC, dIn, dChn, dMut, lstOf, putO, dM1, tyOk, dNw1, dNw2, dSl, dP, dNoP, dIsN, dItQ, dItS, dRg1, dRg2, dEnum, dLc, dYes, noex, Tg.run, gSets, List.length_map, List.length_cons, List.length_nil, List.map_cons, List.map_nil, dMake, Tk.l, ixD, L2.atI, L2.ixN, e, g0, s0, tkD]
  exact gc_of key (take_app _ _) hp fun n => cl_tkD t n
/-- drawn tasks -/
theorem tk_list (far : Bool) (reach fires : Nat) (b l : Nat) : ([.str (kindS far), .int (reach : Int), .int (fires : Int)] : List D) ++ [.int (b : Int), .int (l : Int)] = (Tk.mk far reach fires b l).l := rfl
theorem law_task_ok {p : Pot} (h : p.Ok) {r : Store} {fires : Nat} (h1 : 1 ≤ fires) (h3 : fires ≤ 3) : ∃ t p', f__law_task [.obj 0, .int (fires : Int)] (mus p r) = .ok (.lst (Tk.l t)) (mus p' r) ∧ p'.Ok ∧ t.Ok ∧ t.fires ≤ fires ∧ t.broken ≤ 2 ∧ t.lying ≤ 2 ∧ t.reach ≤ 2 := by
  obtain ⟨d1, p1, e1, ok1, m1⟩ := pick_lst h (l := [.lst [.int 0, .int 0], .lst [.int 0, .int 0], .lst [.int 1, .int 0], .lst [.int 0, .int 1], .lst [.int 2, .int 0], .lst [.int 1, .int 1]]) (by simp) (by decide) r
  obtain ⟨d2, p2, e2, ok2, m2⟩ := pick_lst ok1 (l := [.str "near", .str "near", .str "far"]) (by simp) (by decide) r
  obtain ⟨v3, p3, e3, ok3, a3, b3⟩ := draw_ok ok2 (many := 3) (by decide) (by decide) r
  obtain ⟨v4, p4, e4, ok4, a4, b4⟩ := draw_ok ok3 (many := (fires : Int)) (by omega) (by omega) r
  obtain ⟨far, rfl⟩ : ∃ far, d2 = .str (kindS far) := by
    simp only [List.mem_cons, List.not_mem_nil, or_false] at m2
    rcases m2 with rfl | rfl | rfl
    · exact ⟨false, rfl⟩
    · exact ⟨false, rfl⟩
    · exact ⟨true, rfl⟩
  obtain ⟨b, l, rfl, hb, hl⟩ : ∃ b l : Nat, d1 = .lst [.int (b : Int), .int (l : Int)] ∧ b ≤ 2 ∧ l ≤ 2 := by
    simp only [List.mem_cons, List.not_mem_nil, or_false] at m1
    rcases m1 with rfl | rfl | rfl | rfl | rfl | rfl
    · exact ⟨0, 0, rfl, by decide, by decide⟩
    · exact ⟨0, 0, rfl, by decide, by decide⟩
    · exact ⟨1, 0, rfl, by decide, by decide⟩
    · exact ⟨0, 1, rfl, by decide, by decide⟩
    · exact ⟨2, 0, rfl, by decide, by decide⟩
    · exact ⟨1, 1, rfl, by decide, by decide⟩
  obtain ⟨r3, rfl⟩ : ∃ r3 : Nat, v3 = (r3 : Int) := ⟨v3.toNat, by omega⟩
  obtain ⟨f4, hf4⟩ : ∃ f4 : Nat, 1 + v4 = (f4 : Int) := ⟨(1 + v4).toNat, by omega⟩
  refine ⟨⟨far, r3, f4, b, l⟩, p4, ?_, ok4, ⟨by show r3 ≤ 8; omega, by show 1 ≤ f4; omega, by show f4 ≤ 3; omega, by show b ≤ 3; omega, by show l ≤ 3; omega⟩, by show f4 ≤ fires; omega, hb, hl, by show r3 ≤ 2; omega⟩
  simp [f__law_task, g__law_task, dFun, sSeq, snext, sIf, sbind, sAsg, sRet, sSkip, sExpr, sPar, sSetI, sSetA, sAug, sFor, sTg, dVar, dC, dNil, dCons, dBind, obind, dTup, dLst, dFrz, MO.d, dReg, dFz, dOp1, dOp2, dCmp, dB2v, dTst, dAnd, dOr, dNot, dIf, dCall, dIx, dLook, lookD, dIsi, dIsi2, dIsC, dIn, dChn, dMut, lstOf, putO, dM1, tyOk, dNw1, dNw2, dSl, dP, dNoP, dIsN, dItQ, dItS, dRg1, dRg2, dEnum, dLc, dYes, noex, Tg.run, gSets, List.length_map, List.length_cons, List.length_nil, List.map_cons, List.map_nil, e1, e2, e3, e4, addD, hf4, Tk.l]
end DL
end

section
set_option Elab.async false
set_option linter.all false
set_option maxRecDepth 100000
set_option maxHeartbeats 4000000
namespace DL
open PySem
/-! Q2: lots -/
def lotD (l : List Nat) : D := .tup (intsN l)
theorem intsN_len (l : List Nat) : (intsN l).length = l.length := by unfold intsN; simp
theorem cl_intsN (n : Nat) (l : List Nat) : clL n (intsN l) = true := clL_of fun d hd => by
  obtain ⟨i, _, rfl⟩ := List.mem_map.mp hd
  rfl
theorem cl_lotD (n : Nat) (l : List Nat) : clD n (lotD l) = true := cl_intsN n l
theorem cl_lots (n : Nat) (ls : List (List Nat)) : clL n (ls.map lotD) = true := clL_of fun d hd => by
  obtain ⟨l, _, rfl⟩ := List.mem_map.mp hd
  exact cl_lotD n l
theorem rangeD_nat (a k : Nat) : rangeD (a : Int) k = (List.range' a k).map fun (i : Nat) => D.int (i : Int) := by
  unfold rangeD
  rw [List.range'_eq_map_range, List.map_map]
  apply List.map_congr_left
  intro i _
  show D.int _ = D.int _
  congr 1
theorem len_lotD (l : List Nat) : lenD (lotD l) = some (.int (l.length : Int)) := by
  show some (D.int ((intsN l).length : Nat)) = _
  rw [intsN_len]
theorem lotD_last {l : List Nat} {x : Nat} (h : l.getLast? = some x) : ixD (lotD l) (.int (-1)) = some (.int (x : Int)) := by
  cases l.eq_nil_or_concat with
  | inl e => subst e; simp at h
  | inr e =>
    obtain ⟨m, a, rfl⟩ := e
    rw [List.concat_eq_append] at h ⊢
    rw [List.getLast?_concat] at h
    have hax : a = x := Option.some.inj h
    subst hax
    show L2.atI (intsN (m ++ [a])) (-1) = _
    unfold L2.atI L2.ixN
    have e1 : (intsN (m ++ [a])).length = m.length + 1 := by rw [intsN_len]; simp
    have h2 : -((m.length + 1 : Nat) : Int) ≤ -1 := by omega
    rw [e1]
    simp only [show ¬ (0 : Int) ≤ -1 from by decide, if_false, h2, if_true]
    rw [show ((-1 : Int) + ((m.length + 1 : Nat) : Int)).toNat = m.length by omega]
    show ((intsN (m ++ [a]))[m.length]?) = _
    unfold intsN
    simp
theorem rgOk_zero : rgOk 0 = true := by
  unfold rgOk
  rw [Bool.and_eq_true]
  exact ⟨decide_eq_true (by omega), decide_eq_true (by omega)⟩
theorem rgOk_suc {n : Nat} (h : n < 1000000000) : rgOk ((n : Int) + 1) = true := by
  unfold rgOk
  rw [Bool.and_eq_true]
  exact ⟨decide_eq_true (by omega), decide_eq_true (by omega)⟩
theorem ev_rg1 {f : EF} {sl : Sl} {mu m1 : Store} {j : Int} (h : f sl mu = .ok (.int j) m1) (r : rgOk j = true) : dRg1 f sl mu = .ok (rangeD 0 j.toNat) m1 := by
  unfold dRg1 dBind obind
  rw [h]
  dsimp only
  rw [r, if_pos rfl]
theorem ev_rg2 {f g : EF} {sl : Sl} {mu m1 m2 : Store} {i j : Int} (h : f sl mu = .ok (.int i) m1) (h2 : g sl m1 = .ok (.int j) m2) (r : rgOk i = true) (r2 : rgOk j = true) : dRg2 f g sl mu = .ok (rangeD i (j - i).toNat) m2 := by
  unfold dRg2 dBind obind
  rw [h]
  dsimp only
  rw [h2]
  dsimp only
  rw [r, r2, Bool.and_self, if_pos rfl]
theorem range_src {l : List Nat} {n : Nat} (hn : n ≤ 9) (hl : Asc n l) {a1 a2 a3 a4 a5 a7 : Option SV} (mu : Store) :
    dRg2 (dIf (dCmp gtI (dOp1 lenD (dLook (dVar 6))) (dC (.int 0))) (dOp2 addD (dIx (dVar 6) (dOp1 negD (dC (.int 1)))) (dC (.int 1))) (dC (.int 0))) (dVar 0) [some (.val (.int (n : Int))), a1, a2, a3, a4, a5, some (.val (lotD l)), a7] mu =
      .ok ((List.range' (nxt l) (n - nxt l)).map fun (i : Nat) => D.int (i : Int)) mu := by
  have hle : nxt l ≤ n := (nxt_le hl.pw).mpr hl.lt
  have r1 : rgOk (n : Int) = true := rgOk_nat (by omega)
  cases hg : l.getLast? with
  | none =>
    have e : l = [] := by simpa using hg
    subst e
    rw [ev_rg2 (i := 0) (j := (n : Int)) (m1 := mu) (m2 := mu) (by simp [dIf, dBind, obind, dCmp, dOp1, dLook, lookD, dVar, dC, lotD, intsN, lenD, gtI, cmpI]) rfl rgOk_zero r1]
    rw [show (0 : Int) = ((0 : Nat) : Int) from rfl, rangeD_nat]
    simp [nxt]
  | some x =>
    have hl0 : 0 < l.length := by
      cases l with
      | nil => simp at hg
      | cons _ _ => simp
    have hx := lotD_last hg
    have hnx : nxt l = x + 1 := by unfold nxt; rw [hg]
    have r2 : rgOk ((x : Int) + 1) = true := rgOk_suc (by omega)
    have hlen := len_lotD l
    have hlk : ∀ mu, lookD mu (lotD l) = lotD l := fun _ => rfl
    have e1 : ((n : Int) - (x + 1)).toNat = n - (x + 1) := by omega
    rw [hnx, ← rangeD_nat]
    have hpos : (0 : Int) < (l.length : Int) := by omega
    have hneg : negD (.int 1) = some (.int (-1)) := rfl
    rw [ev_rg2 (i := (x : Int) + 1) (j := (n : Int)) (m1 := mu) (m2 := mu) (by simp [dIf, dBind, obind, dCmp, dOp1, dOp2, dLook, dVar, dC, dIx, hlk, hlen, gtI, cmpI, hpos, hl0, hneg, hx, addD]) rfl r2 r1, e1]
    rfl
theorem q_lots {l : List Nat} {n : Nat} (hn : n ≤ 9) (hl : Asc n l) {a1 a2 a3 a4 a5 : Option SV} (mu : Store) :
    q_lots_by_size_1 [some (.val (.int (n : Int))), a1, a2, a3, a4, a5, some (.val (lotD l)), none] mu = .ok (.lst ((exts n l).map lotD)) mu := by
  have := lc_all (src := dRg2 (dIf (dCmp gtI (dOp1 lenD (dLook (dVar 6))) (dC (.int 0))) (dOp2 addD (dIx (dVar 6) (dOp1 negD (dC (.int 1)))) (dC (.int 1))) (dC (.int 0))) (dVar 0)) (g := .nm 7) (own := [7]) (elt := dTupS (dStar (dVar 6) (dCons (dVar 7) dNil)))
    (sl := [some (.val (.int (n : Int))), a1, a2, a3, a4, a5, some (.val (lotD l)), none]) (mu := mu) (ds := (List.range' (nxt l) (n - nxt l)).map fun (i : Nat) => D.int (i : Int))
    (fun d => .tup (intsN l ++ [d])) (range_src hn hl mu) (by rw [List.length_map, List.length_range']; omega) (fun d hd => by
      refine ⟨_, rfl, ?_⟩
      have hz : sizeOk (intsN l ++ [d]) = true := decide_eq_true (by rw [List.length_append, intsN_len]; have := asc_len hl; simp; omega)
      simp [wipeS, dFun, sSeq, snext, sIf, sbind, sAsg, sRet, sSkip, sExpr, sPar, sSetI, sSetA, sAug, sFor, sTg, dVar, dC, dNil, dCons, dBind, obind, dTup, dLst, dFrz, MO.d, dReg, dFz, dOp1, dOp2, dCmp, dB2v, dTst, dAnd, dOr, dNot, dIf, dCall, dIx, dLook, lookD, dIsi, dIsi2, dIsC, dIn, dChn, dMut, lstOf, putO, dM1, tyOk, dNw1, dNw2, dSl, dP, dNoP, dIsN, dItQ, dItS, dRg1, dRg2, dEnum, dLc, dYes, noex, Tg.run, gSets, List.length_map, List.length_cons, List.length_nil, List.map_cons, List.map_nil, dTupS, dStar, lotD, seqL, hz])
  rw [show q_lots_by_size_1 = dLc (dRg2 (dIf (dCmp gtI (dOp1 lenD (dLook (dVar 6))) (dC (.int 0))) (dOp2 addD (dIx (dVar 6) (dOp1 negD (dC (.int 1)))) (dC (.int 1))) (dC (.int 0))) (dVar 0)) (.nm 7) [7] dYes (dTupS (dStar (dVar 6) (dCons (dVar 7) dNil))) from rfl, this]
  unfold exts
  rw [List.map_map, List.map_map]
  congr 2
  apply List.map_congr_left
  intro i _
  show D.tup _ = lotD (l ++ [i])
  unfold lotD intsN
  simp
/-- found at mu.length, k dead ones, longer -/
def LS (mu : Store) (fd : List (List Nat)) (k : Nat) (m : Option MO) : Store := mu ++ (some (.lst (fd.map lotD)) :: List.replicate k none) ++ [m]
theorem ls0 {mu : Store} {fd : List (List Nat)} {k : Nat} {m : Option MO} : (LS mu fd k m)[mu.length]? = some (some (.lst (fd.map lotD))) := by unfold LS; simp
theorem ls1 {mu : Store} {fd : List (List Nat)} {k : Nat} {m : Option MO} : (LS mu fd k m)[mu.length + 1 + k]? = some m := by
  unfold LS
  rw [List.getElem?_append_right (by simp; omega)]
  simp
  rw [show mu.length + 1 + k - (mu.length + (k + 1)) = 0 by omega]
  rfl
theorem ls0s {mu : Store} {fd fd' : List (List Nat)} {k : Nat} {m : Option MO} : (LS mu fd k m).set mu.length (some (.lst (fd'.map lotD))) = LS mu fd' k m := by unfold LS; simp
theorem ls1s {mu : Store} {fd : List (List Nat)} {k : Nat} {m m' : Option MO} : (LS mu fd k m).set (mu.length + 1 + k) m' = LS mu fd k m' := by
  unfold LS
  rw [List.set_append_right _ _ (by simp; omega)]
  congr 1
  simp
  rw [show mu.length + 1 + k - (mu.length + (k + 1)) = 0 by omega]
  rfl
theorem lots_in {n : Nat} (hn : n ≤ 9) (mu : Store) (fd : List (List Nat)) (k : Nat) {a1 a3 a4 : Option SV} : ∀ (ls acc : List (List Nat)) (x6 : Option SV), (∀ l ∈ ls, Asc n l) → acc.length + 9 * ls.length ≤ 1000000 → ∃ y6,
    sForL (.nm 6) b_lots_by_size_1 (ls.map lotD) [some (.val (.int (n : Int))), a1, some (.val (.obj mu.length)), a3, a4, some (.val (.obj (mu.length + 1 + k))), x6, none] (LS mu fd k (some (.lst (acc.map lotD)))) =
      .nx [some (.val (.int (n : Int))), a1, some (.val (.obj mu.length)), a3, a4, some (.val (.obj (mu.length + 1 + k))), y6, none] (LS mu fd k (some (.lst ((acc ++ ls.flatMap (exts n)).map lotD))))
  | [], acc, x6, _, _ => ⟨x6, by simp [sForL]⟩
  | l :: ls, acc, x6, h, hz => by
    rw [List.length_cons] at hz
    have hl := h l List.mem_cons_self
    have hex : (exts n l).length ≤ 9 := by unfold exts; rw [List.length_map, List.length_range']; omega
    obtain ⟨y6, e⟩ := lots_in hn mu fd k (a1 := a1) (a3 := a3) (a4 := a4) ls (acc ++ exts n l) (some (.val (lotD l))) (fun x hx => h x (List.mem_cons_of_mem _ hx)) (by rw [List.length_append]; omega)
    refine ⟨y6, ?_⟩
    rw [List.flatMap_cons, ← List.append_assoc, ← e]
    conv => lhs; rw [List.map_cons]; unfold sForL
    have hq := q_lots hn hl (a1 := a1) (a2 := some (.val (.obj mu.length))) (a3 := a3) (a4 := a4) (a5 := some (.val (.obj (mu.length + 1 + k)))) (LS mu fd k (some (.lst (acc.map lotD))))
    have g1 := ls1 (mu := mu) (fd := fd) (k := k) (m := some (.lst (acc.map lotD)))
    have s1 := fun m' => ls1s (mu := mu) (fd := fd) (k := k) (m := some (.lst (acc.map lotD))) (m' := m')
    have hz2 : acc.length + (exts n l).length ≤ 16000000 := by omega
    simp [b_lots_by_size_1, dFun, sSeq, snext, sIf, sbind, sAsg, sRet, sSkip, sExpr, sPar, sSetI, sSetA, sAug, sFor, sTg, dVar, dC, dNil, dCons, dBind, obind, dTup, dLst, dFrz, MO.d, dReg, dFz, dOp1, dOp2, dCmp, dB2v, dTst, dAnd, dOr, dNot, dIf, dCall, dIx, dLook, lookD, dIsi, dIsi2, dIsC, dIn, dChn, dMut, lstOf, putO, dM1, tyOk, dNw1, dNw2, dSl, dP, dNoP, dIsN, dItQ, dItS, dRg1, dRg2, dEnum, dLc, dYes, noex, Tg.run, gSets, List.length_map, List.length_cons, List.length_nil, List.map_cons, List.map_nil, hq, g1, extD, hz2, s1]
theorem lots_out {n : Nat} (hn : n ≤ 9) (mu : Store) {a1 : Option SV} : ∀ (ds : List D) (k : Nat) (x4 x5 x6 : Option SV), k + ds.length ≤ n → ∃ y4 y5 y6,
    sForL (.nm 4) b_lots_by_size_2 ds [some (.val (.int (n : Int))), a1, some (.val (.obj mu.length)), some (.val (.lst ((layer n k).map lotD))), x4, x5, x6, none] (mu ++ (some (.lst ((lotsBy n k).map lotD)) :: List.replicate k none)) =
      .nx [some (.val (.int (n : Int))), a1, some (.val (.obj mu.length)), some (.val (.lst ((layer n (k + ds.length)).map lotD))), y4, y5, y6, none] (mu ++ (some (.lst ((lotsBy n (k + ds.length)).map lotD)) :: List.replicate (k + ds.length) none))
  | [], k, x4, x5, x6, _ => ⟨x4, x5, x6, rfl⟩
  | d :: ds, k, x4, x5, x6, hk => by
    rw [List.length_cons] at hk
    have h5 : (lotsBy n k).length ≤ 512 := lots_len hn (by omega)
    have h6 : (layer n k).length ≤ 512 := layer_len hn (by omega)
    have h7 : (layer n (k + 1)).length ≤ 512 := layer_len hn (by omega)
    obtain ⟨z6, e1⟩ := lots_in hn mu (lotsBy n k) k (a1 := a1) (a3 := some (.val (.lst ((layer n k).map lotD)))) (a4 := some (.val d)) (layer n k) [] x6 (fun l hl => (mem_layer.mp hl).1) (by show 0 + _ ≤ _; omega)
    obtain ⟨y4, y5, y6, e⟩ := lots_out hn mu (a1 := a1) ds (k + 1) (some (.val d)) (some (.val (.lst ((layer n (k + 1)).map lotD)))) z6 (by omega)
    refine ⟨y4, y5, y6, ?_⟩
    rw [show k + (d :: ds).length = k + 1 + ds.length by rw [List.length_cons]; omega, ← e]
    conv => lhs; unfold sForL
    have hlen : (mu ++ (some (MO.lst ((lotsBy n k).map lotD)) :: List.replicate k none)).length = mu.length + 1 + k := by simp; omega
    have happ : mu ++ (some (MO.lst ((lotsBy n k).map lotD)) :: List.replicate k none) ++ [some (.lst [])] = LS mu (lotsBy n k) k (some (.lst (([] : List (List Nat)).map lotD))) := rfl
    have hlay : [] ++ (layer n k).flatMap (exts n) = layer n (k + 1) := rfl
    rw [hlay] at e1
    have g1 := ls1 (mu := mu) (fd := lotsBy n k) (k := k) (m := some (.lst ((layer n (k + 1)).map lotD)))
    have s1 := ls1s (mu := mu) (fd := lotsBy n k) (k := k) (m := some (.lst ((layer n (k + 1)).map lotD))) (m' := none)
    have g0 := ls0 (mu := mu) (fd := lotsBy n k) (k := k) (m := none)
    have s0 := ls0s (mu := mu) (fd := lotsBy n k) (fd' := lotsBy n (k + 1)) (k := k) (m := none)
    have hex : (lotsBy n k).map lotD ++ (layer n (k + 1)).map lotD = (lotsBy n (k + 1)).map lotD := by
      show _ = (lotsBy n k ++ layer n (k + 1)).map lotD
      rw [List.map_append]
    have hz : (lotsBy n k).length + (layer n (k + 1)).length ≤ 16000000 := by omega
    have hend : LS mu (lotsBy n (k + 1)) k none = mu ++ (some (.lst ((lotsBy n (k + 1)).map lotD)) :: List.replicate (k + 1) none) := by
      unfold LS
      rw [List.append_assoc, List.replicate_succ']
      rfl
    have hb : b_lots_by_size_2 [some (.val (.int (n : Int))), a1, some (.val (.obj mu.length)), some (.val (.lst ((layer n k).map lotD))), some (.val d), x5, x6, none] (mu ++ (some (.lst ((lotsBy n k).map lotD)) :: List.replicate k none)) =
        .nx [some (.val (.int (n : Int))), a1, some (.val (.obj mu.length)), some (.val (.lst ((layer n (k + 1)).map lotD))), some (.val d), some (.val (.lst ((layer n (k + 1)).map lotD))), z6, none] (mu ++ (some (.lst ((lotsBy n (k + 1)).map lotD)) :: List.replicate (k + 1) none)) := by
      unfold b_lots_by_size_2 sSeq
      simp only [sAsg, dReg, dLst, dNil, dBind, obind, sbind, snext, hlen, happ, List.set_cons_succ, List.set_cons_zero]
      simp only [sFor, sbind, dItQ, dBind, obind, dVar, List.getElem?_cons_succ, List.getElem?_cons_zero, e1, snext]
      simp only [sFzO, List.getElem?_cons_succ, List.getElem?_cons_zero, g1, List.set_cons_succ, List.set_cons_zero, s1]
      simp [dFun, sSeq, snext, sIf, sbind, sAsg, sRet, sSkip, sExpr, sPar, sSetI, sSetA, sAug, sFor, sTg, dVar, dC, dNil, dCons, dBind, obind, dTup, dLst, dFrz, MO.d, dReg, dFz, dOp1, dOp2, dCmp, dB2v, dTst, dAnd, dOr, dNot, dIf, dCall, dIx, dLook, lookD, dIsi, dIsi2, dIsC, dIn, dChn, dMut, lstOf, putO, dM1, tyOk, dNw1, dNw2, dSl, dP, dNoP, dIsN, dItQ, dItS, dRg1, dRg2, dEnum, dLc, dYes, noex, Tg.run, gSets, List.length_map, List.length_cons, List.length_nil, List.map_cons, List.map_nil, g0, extD, hz, hex, s0, hend]
    simp only [Tg.run, List.set_cons_succ, List.set_cons_zero, hb]
theorem lots_ok {n k : Nat} (hn : n ≤ 9) (hk : k ≤ n) {mu : Store} (hp : Pl mu) : f_lots_by_size [.int (n : Int), .int (k : Int)] mu = .ok (.lst ((lotsBy n k).map lotD)) mu := by
  have r1 : rgOk (k : Int) = true := rgOk_nat (by omega)
  obtain ⟨y4, y5, y6, e⟩ := lots_out hn mu (a1 := some (.val (.int (k : Int)))) (rangeD 0 k) 0 none none none (by rw [rangeD_len]; omega)
  rw [rangeD_len, Nat.zero_add] at e
  have e' : sForL (.nm 4) b_lots_by_size_2 (rangeD 0 k) [some (.val (.int (n : Int))), some (.val (.int (k : Int))), some (.val (.obj mu.length)), some (.val (.lst [.tup []])), none, none, none, none] (mu ++ [some (.lst [.tup []])]) =
      .nx [some (.val (.int (n : Int))), some (.val (.int (k : Int))), some (.val (.obj mu.length)), some (.val (.lst ((layer n k).map lotD))), y4, y5, y6, none] (mu ++ (some (.lst ((lotsBy n k).map lotD)) :: List.replicate k none)) := e
  have g0 : (mu ++ (some (MO.lst ((lotsBy n k).map lotD)) :: List.replicate k none))[mu.length]? = some (some (.lst ((lotsBy n k).map lotD))) := by simp
  have s0 : (mu ++ (some (MO.lst ((lotsBy n k).map lotD)) :: List.replicate k none)).set mu.length none = mu ++ (none :: List.replicate k none) := by simp
  have key : dFun 8 g_lots_by_size [.int (n : Int), .int (k : Int)] mu = .ok (.lst ((lotsBy n k).map lotD)) (mu ++ (none :: List.replicate k none)) := by
    simp [g_lots_by_size, dFun, sSeq, snext, sIf, sbind, sAsg, sRet, sSkip, sExpr, sPar, sSetI, sSetA, sAug, sFor, sTg, dVar, dC, dNil, dCons, dBind, obind, dTup, dLst, dFrz, MO.d, dReg, dFz, dOp1, dOp2, dCmp, dB2v, dTst, dAnd, dOr, dNot, dIf, dCall, dIx, dLook, lookD, dIsi, dIsi2, dIsC, dIn, dChn, dMut, lstOf, putO, dM1, tyOk, dNw1, dNw2, dSl, dP, dNoP, dIsN, dItQ, dItS, dRg1, dRg2, dEnum, dLc, dYes, noex, Tg.run, gSets, List.length_map, List.length_cons, List.length_nil, List.map_cons, List.map_nil, r1, e', g0, s0]
  exact gc_of key (take_app _ _) hp fun m => cl_lots m _
end DL
end

section
set_option Elab.async false
set_option linter.all false
set_option maxRecDepth 100000
set_option maxHeartbeats 4000000
namespace DL
open PySem
/-! Q3: all lots in order; lots of watchers -/
def lotP (l : List Nat) : PyData := .tuple ((l.map fun (i : Nat) => (i : Int)).map PyData.int)
theorem toPL_intsN : ∀ l : List Nat, toPL (intsN l) = some ((l.map fun (i : Nat) => (i : Int)).map PyData.int)
  | [] => rfl
  | i :: l => by
    have ih := toPL_intsN l
    unfold intsN at ih ⊢
    rw [List.map_cons]
    unfold toPL
    rw [ih]
    rfl
theorem toP_lotD (l : List Nat) : toP (lotD l) = some (lotP l) := by
  unfold lotD toP
  rw [toPL_intsN]
  rfl
theorem toPL_lots : ∀ ls : List (List Nat), toPL (ls.map lotD) = some (ls.map lotP)
  | [] => rfl
  | l :: ls => by
    rw [List.map_cons]
    unfold toPL
    rw [toPL_lots ls, toP_lotD]
    rfl
theorem alike_lots (a b : List Nat) : PySem.W.alike (lotP a) (lotP b) = true := by
  unfold lotP PySem.W.alike
  exact PySem.W.alike_ints _ _
theorem depth_lot (l : List Nat) : (lotP l).depth ≤ 1 := by
  unfold lotP PyData.depth
  rw [PySem.W.depth_ints]
  exact Nat.le_refl _
def leL (a b : List Nat) : Bool := sortLe (lotD a) (lotD b)
def allLots (n k : Nat) : List (List Nat) := (lotsBy n k).mergeSort leL
theorem sorted_lots {ls : List (List Nat)} (h0 : ∃ r, ls = [] :: r) : sortedD (.lst (ls.map lotD)) = some (.lst ((ls.mergeSort leL).map lotD)) := by
  obtain ⟨r, rfl⟩ := h0
  have h1 : alikeB ((([] : List Nat) :: r).map lotP) = true := by
    unfold alikeB
    rw [List.all_eq_true]
    intro p hp
    rw [List.all_eq_true]
    intro q hq
    obtain ⟨a, _, rfl⟩ := List.mem_map.mp hp
    obtain ⟨b, _, rfl⟩ := List.mem_map.mp hq
    exact alike_lots a b
  have h2 : tup0 ((([] : List Nat) :: r).map lotP) = true := by
    show (r.map lotP).all isTupP = true
    rw [List.all_eq_true]
    intro p hp
    obtain ⟨a, _, rfl⟩ := List.mem_map.mp hp
    rfl
  have h3 : ((([] : List Nat) :: r).map lotP).all (fun p => decide (p.depth ≤ 60)) = true := by
    rw [List.all_eq_true]
    intro p hp
    obtain ⟨a, _, rfl⟩ := List.mem_map.mp hp
    have := depth_lot a
    exact decide_eq_true (by omega)
  unfold sortedD
  dsimp only
  rw [toPL_lots]
  dsimp only
  simp only [h1, h2, h3, Bool.or_true, Bool.and_self, if_true]
  rw [List.map_mergeSort (r := leL) (s := sortLe) (f := lotD) (fun _ _ _ _ => rfl)]
theorem attr_spots (fs : List Str) (rs : List (Nat × Nat)) : attrD "spots" (webD fs rs) = some (.tup (fs.map D.str)) := rfl
theorem attr_away (fs : List Str) (rs : List (Nat × Nat)) : attrD "away" (webD fs rs) = some (.lst (awD fs.length rs)) := rfl
theorem look_web (mu : Store) (fs : List Str) (rs : List (Nat × Nat)) : lookD mu (webD fs rs) = webD fs rs := rfl
theorem look_tk (mu : Store) (t : Tk) : lookD mu (tkD t) = tkD t := rfl
theorem attr_kind (t : Tk) : attrD "kind" (tkD t) = some (.str (kindS t.far)) := rfl
theorem attr_reach (t : Tk) : attrD "reach" (tkD t) = some (.int (t.reach : Int)) := rfl
theorem attr_fires (t : Tk) : attrD "fires" (tkD t) = some (.int (t.fires : Int)) := rfl
theorem attr_broken (t : Tk) : attrD "broken" (tkD t) = some (.int (t.broken : Int)) := rfl
theorem attr_lying (t : Tk) : attrD "lying" (tkD t) = some (.int (t.lying : Int)) := rfl
theorem len_spots (fs : List Str) : lenD (.tup (fs.map D.str)) = some (.int (fs.length : Int)) := by simp [lenD]
theorem min2_nat (a b : Nat) : min2D (.int (a : Int)) (.int (b : Int)) = some (.int ((min a b : Nat) : Int)) := by
  unfold min2D
  dsimp only
  congr 2
  split <;> omega
theorem all_lots_ok {fs : List Str} (rs : List (Nat × Nat)) (h9 : fs.length ≤ 9) (t : Tk) {mu : Store} (hp : Pl mu) : f_all_lots [webD fs rs, tkD t] mu = .ok (.lst ((allLots fs.length (min t.fires fs.length)).map lotD)) mu := by
  have e := lots_ok (n := fs.length) (k := min t.fires fs.length) h9 (Nat.min_le_right _ _) hp
  have es := sorted_lots (ls := lotsBy fs.length (min t.fires fs.length)) (lots_head _ _)
  have hlk : ∀ l, lookD mu (.tup l) = .tup l := fun _ => rfl
  have hll : ∀ l, lookD mu (.lst l) = .lst l := fun _ => rfl
  simp [f_all_lots, g_all_lots, dFun, sSeq, snext, sIf, sbind, sAsg, sRet, sSkip, sExpr, sPar, sSetI, sSetA, sAug, sFor, sTg, dVar, dC, dNil, dCons, dBind, obind, dTup, dLst, dFrz, MO.d, dReg, dFz, dOp1, dOp2, dCmp, dB2v, dTst, dAnd, dOr, dNot, dIf, dCall, dIx, dLook, dIsi, dIsi2, dIsC, dIn, dChn, dMut, lstOf, putO, dM1, tyOk, dNw1, dNw2, dSl, dP, dNoP, dIsN, dItQ, dItS, dRg1, dRg2, dEnum, dLc, dYes, noex, Tg.run, gSets, List.length_map, List.length_cons, List.length_nil, List.map_cons, List.map_nil, look_web, look_tk, attr_spots, attr_fires, len_spots, min2_nat, e, es, hlk, hll]
  rfl
theorem bools_map (l : List Bool) : boolsD (l.map D.bl) = some l := by
  induction l with
  | nil => rfl
  | cons b l ih =>
    rw [List.map_cons]
    unfold boolsD
    rw [ih]
    rfl
theorem all_map (l : List Bool) : allD (.lst (l.map D.bl)) = some (.bl (l.all id)) := by
  unfold allD
  dsimp only
  rw [bools_map]
  rfl
theorem lotD_get {l : List Nat} {i x : Nat} (h : l[i]? = some x) : ixD (lotD l) (.int (i : Int)) = some (.int (x : Int)) := by
  have hi : i < (intsN l).length := (List.getElem?_eq_some_iff.mp (intsN_get h)).1
  show L2.atI (intsN l) (i : Int) = _
  unfold L2.atI L2.ixN
  have h1 : (0 : Int) ≤ (i : Int) := by omega
  have h2 : (i : Int) < ((intsN l).length : Int) := by omega
  simp only [if_pos h1, if_pos h2, Int.toNat_natCast, Option.bind_some]
  exact intsN_get h
theorem q_lot_1 {l : List Nat} {n : Nat} (hl : Asc n l) (hz : n ≤ 100) {a2 : Option SV} (mu : Store) : q_is_lot_below_1 [some (.val (lotD l)), some (.val (.int (n : Int))), a2, none] mu = .ok (.lst ((l.map fun _ => true).map D.bl)) mu := by
  have hle := asc_len hl
  have := lc_all (src := dItQ (dVar 0)) (g := .nm 3) (own := [3]) (elt := dCall f_is_within (dCons (dVar 3) (dCons (dC (.int 0)) (dCons (dOp2 subD (dVar 1) (dC (.int 1))) dNil)))) (sl := [some (.val (lotD l)), some (.val (.int (n : Int))), a2, none]) (mu := mu) (ds := intsN l) (fun _ => .bl true) rfl (by rw [intsN_len]; omega) (fun d hd => by
    obtain ⟨i, hi, rfl⟩ := List.mem_map.mp hd
    have hin := hl.lt i hi
    refine ⟨_, rfl, ?_⟩
    have h2 : (i : Int) ≤ (n : Int) - 1 := by omega
    have h1 : (0 : Int) ≤ (i : Int) := by omega
    simp [wipeS, dFun, sSeq, snext, sIf, sbind, sAsg, sRet, sSkip, sExpr, sPar, sSetI, sSetA, sAug, sFor, sTg, dVar, dC, dNil, dCons, dBind, obind, dTup, dLst, dFrz, MO.d, dReg, dFz, dOp1, dOp2, dCmp, dB2v, dTst, dAnd, dOr, dNot, dIf, dCall, dIx, dLook, lookD, dIsi, dIsi2, dIsC, dIn, dChn, dMut, lstOf, putO, dM1, tyOk, dNw1, dNw2, dSl, dP, dNoP, dIsN, dItQ, dItS, dRg1, dRg2, dEnum, dLc, dYes, noex, Tg.run, gSets, List.length_map, List.length_cons, List.length_nil, List.map_cons, List.map_nil, subD, within_ok, h1, h2])
  rw [show q_is_lot_below_1 = dLc (dItQ (dVar 0)) (.nm 3) [3] dYes (dCall f_is_within (dCons (dVar 3) (dCons (dC (.int 0)) (dCons (dOp2 subD (dVar 1) (dC (.int 1))) dNil)))) from rfl, this]
  unfold intsN
  rw [List.map_map, List.map_map]
  rfl
end DL
end

section
set_option Elab.async false
set_option linter.all false
set_option maxRecDepth 100000
set_option maxHeartbeats 4000000
namespace DL
open PySem
/-! Q4: watchers are checked; what one tells; reports; gaps of rows -/
@[simp] theorem lk_lst (mu : Store) (l : List D) : lookD mu (.lst l) = .lst l := rfl
@[simp] theorem lk_tup (mu : Store) (l : List D) : lookD mu (.tup l) = .tup l := rfl
@[simp] theorem lk_int (mu : Store) (i : Int) : lookD mu (.int i) = .int i := rfl
@[simp] theorem lk_str (mu : Store) (s : Str) : lookD mu (.str s) = .str s := rfl
@[simp] theorem lk_bl (mu : Store) (b : Bool) : lookD mu (.bl b) = .bl b := rfl
@[simp] theorem lk_non (mu : Store) : lookD mu .non = .non := rfl
@[simp] theorem lk_ins (mu : Store) (c : Nat) (fs : List (Str × D)) : lookD mu (.ins c fs) = .ins c fs := rfl
@[simp] theorem lk_lot (mu : Store) (l : List Nat) : lookD mu (lotD l) = lotD l := rfl
@[simp] theorem lk_web (mu : Store) (fs : List Str) (rs : List (Nat × Nat)) : lookD mu (webD fs rs) = webD fs rs := rfl
@[simp] theorem lk_tk (mu : Store) (t : Tk) : lookD mu (tkD t) = tkD t := rfl
@[simp] theorem nn_non : isNon .non = true := rfl
@[simp] theorem nn_int (i : Int) : isNon (.int i) = false := rfl
@[simp] theorem nn_tup (l : List D) : isNon (.tup l) = false := rfl
@[simp] theorem nn_bl (b : Bool) : isNon (.bl b) = false := rfl
@[simp] theorem at_spots (fs : List Str) (rs : List (Nat × Nat)) : attrD "spots" (webD fs rs) = some (.tup (fs.map D.str)) := rfl
@[simp] theorem at_away (fs : List Str) (rs : List (Nat × Nat)) : attrD "away" (webD fs rs) = some (.lst (awD fs.length rs)) := rfl
@[simp] theorem at_kind (t : Tk) : attrD "kind" (tkD t) = some (.str (kindS t.far)) := rfl
@[simp] theorem at_reach (t : Tk) : attrD "reach" (tkD t) = some (.int (t.reach : Int)) := rfl
@[simp] theorem at_fires (t : Tk) : attrD "fires" (tkD t) = some (.int (t.fires : Int)) := rfl
@[simp] theorem at_broken (t : Tk) : attrD "broken" (tkD t) = some (.int (t.broken : Int)) := rfl
@[simp] theorem at_lying (t : Tk) : attrD "lying" (tkD t) = some (.int (t.lying : Int)) := rfl
@[simp] theorem len_spotS (fs : List Str) : lenD (.tup (fs.map D.str)) = some (.int (fs.length : Int)) := len_spots fs
@[simp] theorem len_lotS (l : List Nat) : lenD (lotD l) = some (.int (l.length : Int)) := len_lotD l
theorem q_lot_2 {l : List Nat} {n : Nat} (hl : Asc n l) (hz : n ≤ 100) {a1 a3 : Option SV} (mu : Store) : q_is_lot_below_2 [some (.val (lotD l)), a1, none, a3] mu = .ok (.lst (((List.range (l.length - 1)).map fun _ => true).map D.bl)) mu := by
  have hle := asc_len hl
  have r1 : rgOk ((l.length : Int) - 1) = true := by
    unfold rgOk
    rw [Bool.and_eq_true]
    exact ⟨decide_eq_true (by omega), decide_eq_true (by omega)⟩
  have hlk : ∀ mu, lookD mu (lotD l) = lotD l := fun _ => rfl
  have hlen := len_lotD l
  have e1 : ((l.length : Int) - 1).toNat = l.length - 1 := by omega
  have := lc_all (src := dRg1 (dOp2 subD (dOp1 lenD (dLook (dVar 0))) (dC (.int 1)))) (g := .nm 2) (own := [2]) (elt := dB2v (dCmp ltD (dIx (dVar 0) (dVar 2)) (dIx (dVar 0) (dOp2 addD (dVar 2) (dC (.int 1)))))) (sl := [some (.val (lotD l)), a1, none, a3]) (mu := mu) (ds := rangeD 0 (l.length - 1)) (fun _ => .bl true)
    (by rw [← e1]; exact ev_rg1 (by simp [dOp2, dOp1, dLook, dBind, obind, dVar, dC, hlk, hlen, subD]) r1) (by rw [rangeD_len]; omega) (fun d hd => by
      rw [rangeD0] at hd
      obtain ⟨i, hi, rfl⟩ := List.mem_map.mp hd
      rw [List.mem_range] at hi
      refine ⟨_, rfl, ?_⟩
      have h1 : l[i]? = some l[i] := List.getElem?_eq_getElem (by omega)
      have h2 : l[i + 1]? = some l[i + 1] := List.getElem?_eq_getElem (by omega)
      have g1 := lotD_get h1
      have g2 := lotD_get h2
      rw [show ((i + 1 : Nat) : Int) = (i : Int) + 1 from rfl] at g2
      have hlt : l[i] < l[i + 1] := List.pairwise_iff_getElem.mp hl.pw i (i + 1) (by omega) (by omega) (by omega)
      simp [wipeS, dFun, sSeq, snext, sIf, sbind, sAsg, sRet, sSkip, sExpr, sPar, sSetI, sSetA, sAug, sFor, sTg, dVar, dC, dNil, dCons, dBind, obind, dTup, dLst, dFrz, MO.d, dReg, dFz, dOp1, dOp2, dCmp, dB2v, dTst, dAnd, dOr, dNot, dIf, dCall, dIx, dLook, dIsi, dIsi2, dIsC, dIn, dChn, dMut, lstOf, putO, dM1, tyOk, dNw1, dNw2, dSl, dP, dNoP, dIsN, dItQ, dItS, dRg1, dRg2, dEnum, dLc, dYes, noex, Tg.run, gSets, List.length_map, List.length_cons, List.length_nil, List.map_cons, List.map_nil, hlk, g1, g2, addD, ltD, hlt])
  rw [show q_is_lot_below_2 = dLc (dRg1 (dOp2 subD (dOp1 lenD (dLook (dVar 0))) (dC (.int 1)))) (.nm 2) [2] dYes (dB2v (dCmp ltD (dIx (dVar 0) (dVar 2)) (dIx (dVar 0) (dOp2 addD (dVar 2) (dC (.int 1)))))) from rfl, this, rangeD0, List.map_map, List.map_map]
  rfl
theorem below_ok {l : List Nat} {n : Nat} (hl : Asc n l) (hz : n ≤ 100) (mu : Store) : f_is_lot_below [lotD l, .int (n : Int)] mu = .ok (.bl true) mu := by
  have e1 := q_lot_1 hl hz (a2 := none) mu
  have e2 := q_lot_2 hl hz (a1 := some (.val (.int (n : Int)))) (a3 := none) mu
  have t1 : (l.map fun _ => true).all id = true := by simp
  have t2 : ((List.range (l.length - 1)).map fun _ => true).all id = true := by simp
  have h1 := all_map (l.map fun _ => true)
  have h2 := all_map ((List.range (l.length - 1)).map fun _ => true)
  rw [t1] at h1
  rw [t2] at h2
  have hi : isiOk (lotD l) = true := rfl
  have ht : isTy .tuple (lotD l) = true := rfl
  have hlk : ∀ mu, lookD mu (lotD l) = lotD l := fun _ => rfl
  have hll : ∀ mu l, lookD mu (.lst l) = .lst l := fun _ _ => rfl
  generalize (l.map fun _ => true).map D.bl = l1 at e1 h1
  generalize ((List.range (l.length - 1)).map fun _ => true).map D.bl = l2 at e2 h2
  simp [f_is_lot_below, g_is_lot_below, dFun, sSeq, snext, sIf, sbind, sAsg, sRet, sSkip, sExpr, sPar, sSetI, sSetA, sAug, sFor, sTg, dVar, dC, dNil, dCons, dBind, obind, dTup, dLst, dFrz, MO.d, dReg, dFz, dOp1, dOp2, dCmp, dB2v, dTst, dAnd, dOr, dNot, dIf, dCall, dIx, dLook, dIsi, dIsi2, dIsC, dIn, dChn, dMut, lstOf, putO, dM1, tyOk, dNw1, dNw2, dSl, dP, dNoP, dIsN, dItQ, dItS, dRg1, dRg2, dEnum, dLc, dYes, noex, Tg.run, gSets, List.length_map, List.length_cons, List.length_nil, List.map_cons, List.map_nil, hlk, hll, hi, ht, e1, e2, h1, h2]
theorem is_lot_ok {fs : List Str} (rs : List (Nat × Nat)) {l : List Nat} (hl : Asc fs.length l) (hz : fs.length ≤ 100) (mu : Store) : f_is_lot [webD fs rs, lotD l] mu = .ok (.bl true) mu := by
  have e := below_ok hl hz mu
  have hll : ∀ mu l, lookD mu (.tup l) = .tup l := fun _ _ => rfl
  simp [f_is_lot, g_is_lot, dFun, sSeq, snext, sIf, sbind, sAsg, sRet, sSkip, sExpr, sPar, sSetI, sSetA, sAug, sFor, sTg, dVar, dC, dNil, dCons, dBind, obind, dTup, dLst, dFrz, MO.d, dReg, dFz, dOp1, dOp2, dCmp, dB2v, dTst, dAnd, dOr, dNot, dIf, dCall, dIx, dLook, dIsi, dIsi2, dIsC, dIn, dChn, dMut, lstOf, putO, dM1, tyOk, dNw1, dNw2, dSl, dP, dNoP, dIsN, dItQ, dItS, dRg1, dRg2, dEnum, dLc, dYes, noex, Tg.run, gSets, List.length_map, List.length_cons, List.length_nil, List.map_cons, List.map_nil, look_web, attr_spots, len_spots, hll, e]
theorem check_ok {fs : List Str} (rs : List (Nat × Nat)) {l : List Nat} (hl : Asc fs.length l) (hz : fs.length ≤ 100) (mu : Store) : f_check_watchers [webD fs rs, lotD l] mu = .ok .non mu := by
  have e := is_lot_ok rs hl hz mu
  simp [f_check_watchers, g_check_watchers, dFun, sSeq, snext, sIf, sbind, sAsg, sRet, sSkip, sExpr, sPar, sSetI, sSetA, sAug, sFor, sTg, dVar, dC, dNil, dCons, dBind, obind, dTup, dLst, dFrz, MO.d, dReg, dFz, dOp1, dOp2, dCmp, dB2v, dTst, dAnd, dOr, dNot, dIf, dCall, dIx, dLook, dIsi, dIsi2, dIsC, dIn, dChn, dMut, lstOf, putO, dM1, tyOk, dNw1, dNw2, dSl, dP, dNoP, dIsN, dItQ, dItS, dRg1, dRg2, dEnum, dLc, dYes, noex, Tg.run, gSets, List.length_map, List.length_cons, List.length_nil, List.map_cons, List.map_nil, e]
/-- what a watcher tells -/
inductive Tv where
  | far (o : Option Nat)
  | near (b : Bool)
  deriving DecidableEq
def tvD : Tv → D
  | .far o => optD o
  | .near b => .bl b
def Tv.isFar : Tv → Bool
  | .far _ => true
  | .near _ => false
theorem eq_tv {a b : Tv} (h : a.isFar = b.isFar) : eqD (tvD a) (tvD b) = some (decide (a = b)) := by
  cases a with
  | far o =>
    cases b with
    | far p =>
      cases o with
      | none => cases p with
        | none => simp [tvD, optD, eqD, toP, PyData.depth, PyData.eqv]
        | some j => simp [tvD, optD, eqD, toP, PyData.depth, PyData.eqv]
      | some i => cases p with
        | none => simp [tvD, optD, eqD, toP, PyData.depth, PyData.eqv]
        | some j =>
          show some (_ == _) = _
          by_cases hij : i = j
          · subst hij; simp
          · have : ¬ (i : Int) = (j : Int) := by omega
            simp [hij, this]
    | near c => cases h
  | near c =>
    cases b with
    | far p => cases h
    | near d => cases c <;> cases d <;> decide
theorem ne_tv {a b : Tv} (h : a.isFar = b.isFar) : neD (tvD a) (tvD b) = some (decide (a ≠ b)) := by
  unfold neD
  rw [eq_tv h]
  simp
theorem cl_tv (n : Nat) (a : Tv) : clD n (tvD a) = true := by
  cases a with
  | far o => cases o <;> rfl
  | near b => rfl
def distO (n : Nat) (rs : Rds) (i j : Nat) : Option Nat := ((stepsOf n rs i)[j]?).join
def nearO (n : Nat) (rs : Rds) (w : Nat) (l : List Nat) : Option Nat := (l.filterMap (distO n rs w)).min?
def toldT (n : Nat) (rs : Rds) (t : Tk) (w : Nat) (l : List Nat) : Tv := if t.far = true then .far (nearO n rs w l) else .near ((nearO n rs w l).any fun d => decide (d ≤ t.reach))
theorem told_far (n : Nat) (rs : Rds) (t : Tk) (w : Nat) (l : List Nat) : (toldT n rs t w l).isFar = t.far := by
  unfold toldT
  cases t.far <;> rfl
theorem intsD_intsN : ∀ l : List Nat, intsD (intsN l) = some (l.map fun (i : Nat) => (i : Int))
  | [] => rfl
  | i :: l => by
    have ih := intsD_intsN l
    unfold intsN at ih ⊢
    rw [List.map_cons]
    unfold intsD
    rw [ih]
    rfl
theorem leastI_nat : ∀ (l : List Nat) (a : Nat), leastI (a : Int) (l.map fun (i : Nat) => (i : Int)) = ((l.foldl min a : Nat) : Int)
  | [], a => rfl
  | b :: l, a => by
    have ih := leastI_nat l (min a b)
    unfold leastI at ih ⊢
    rw [List.map_cons, List.foldl_cons, List.foldl_cons, ← ih]
    congr 1
    split <;> omega
theorem minL_nat {l : List Nat} {a : Nat} (h : l.min? = some a) : minLD (.lst (intsN l)) = some (.int (a : Int)) := by
  cases l with
  | nil => cases h
  | cons b l =>
    rw [List.min?_cons'] at h
    unfold minLD
    dsimp only
    rw [intsD_intsN, List.map_cons]
    dsimp only
    rw [leastI_nat, Option.some.inj h]
theorem away_ix {n : Nat} {rs : Rds} {w : Nat} (hw : w < n) : ixD (.lst (awD n rs)) (.int (w : Int)) = some (.lst (fvD (stepsOf n rs w))) := ix_nat (by
  unfold awD
  rw [List.getElem?_map, List.getElem?_range hw]
  rfl)
theorem dist_ix {n : Nat} {rs : Rds} {w i : Nat} (hi : i < n) : ixD (.lst (fvD (stepsOf n rs w))) (.int (i : Int)) = some (optD (distO n rs w i)) := ix_nat (by
  have h : (stepsOf n rs w)[i]? = some ((stepsOf n rs w)[i]'(by rw [steps_len]; exact hi)) := List.getElem?_eq_getElem _
  unfold distO
  rw [h]
  exact fvD_get h)
theorem q_told {fs : List Str} (rs : List (Nat × Nat)) (t : Tk) {w : Nat} (hw : w < fs.length) {l : List Nat} (hl : ∀ i ∈ l, i < fs.length) (hz : l.length ≤ 1000) (mu : Store) :
    q_told_by_1 [some (.val (webD fs rs)), some (.val (tkD t)), some (.val (.int (w : Int))), some (.val (lotD l)), none, none, none] mu = .ok (.lst (intsN (l.filterMap (distO fs.length rs w)))) mu := by
  have := lc_pure (src := dItQ (dVar 3)) (g := .nm 6) (own := [6]) (c := dNotN (dIx (dIx (dOp1 (attrD "away") (dLook (dVar 0))) (dVar 2)) (dVar 6))) (elt := dIx (dIx (dOp1 (attrD "away") (dLook (dVar 0))) (dVar 2)) (dVar 6)) (sl := [some (.val (webD fs rs)), some (.val (tkD t)), some (.val (.int (w : Int))), some (.val (lotD l)), none, none, none]) (mu := mu) (ds := intsN l)
    (fun d => match d with
      | .int i => (distO fs.length rs w i.toNat).map fun (j : Nat) => D.int (j : Int)
      | _ => none) rfl (by rw [intsN_len]; omega) (fun d hd => by
      obtain ⟨i, hi, rfl⟩ := List.mem_map.mp hd
      have e1 := away_ix (rs := rs) hw
      have e2 := dist_ix (rs := rs) (w := w) (hl i hi)
      refine ⟨_, rfl, ?_⟩
      cases ho : distO fs.length rs w i with
      | none =>
        rw [ho] at e2
        refine .inr ⟨by simp [ho], ?_⟩
        simp [wipeS, dFun, sSeq, snext, sIf, sbind, sAsg, sRet, sSkip, sExpr, sPar, sSetI, sSetA, sAug, sFor, sTg, dVar, dC, dNil, dCons, dBind, obind, dTup, dLst, dFrz, MO.d, dReg, dFz, dOp1, dOp2, dCmp, dB2v, dTst, dAnd, dOr, dNot, dIf, dCall, dIx, dLook, dIsi, dIsi2, dIsC, dIn, dChn, dMut, lstOf, putO, dM1, tyOk, dNw1, dNw2, dSl, dP, dNoP, dIsN, dItQ, dItS, dRg1, dRg2, dEnum, dLc, dYes, noex, Tg.run, gSets, List.length_map, List.length_cons, List.length_nil, List.map_cons, List.map_nil, look_web, attr_away, e1, e2, dNotN, optD]
      | some j =>
        rw [ho] at e2
        refine .inl ⟨.int (j : Int), by simp [ho], ?_, ?_⟩
        · simp [wipeS, dFun, sSeq, snext, sIf, sbind, sAsg, sRet, sSkip, sExpr, sPar, sSetI, sSetA, sAug, sFor, sTg, dVar, dC, dNil, dCons, dBind, obind, dTup, dLst, dFrz, MO.d, dReg, dFz, dOp1, dOp2, dCmp, dB2v, dTst, dAnd, dOr, dNot, dIf, dCall, dIx, dLook, dIsi, dIsi2, dIsC, dIn, dChn, dMut, lstOf, putO, dM1, tyOk, dNw1, dNw2, dSl, dP, dNoP, dIsN, dItQ, dItS, dRg1, dRg2, dEnum, dLc, dYes, noex, Tg.run, gSets, List.length_map, List.length_cons, List.length_nil, List.map_cons, List.map_nil, look_web, attr_away, e1, e2, dNotN, optD]
        · simp [wipeS, dFun, sSeq, snext, sIf, sbind, sAsg, sRet, sSkip, sExpr, sPar, sSetI, sSetA, sAug, sFor, sTg, dVar, dC, dNil, dCons, dBind, obind, dTup, dLst, dFrz, MO.d, dReg, dFz, dOp1, dOp2, dCmp, dB2v, dTst, dAnd, dOr, dNot, dIf, dCall, dIx, dLook, dIsi, dIsi2, dIsC, dIn, dChn, dMut, lstOf, putO, dM1, tyOk, dNw1, dNw2, dSl, dP, dNoP, dIsN, dItQ, dItS, dRg1, dRg2, dEnum, dLc, dYes, noex, Tg.run, gSets, List.length_map, List.length_cons, List.length_nil, List.map_cons, List.map_nil, look_web, attr_away, e1, e2, optD])
  rw [show q_told_by_1 = dLc (dItQ (dVar 3)) (.nm 6) [6] (dNotN (dIx (dIx (dOp1 (attrD "away") (dLook (dVar 0))) (dVar 2)) (dVar 6))) (dIx (dIx (dOp1 (attrD "away") (dLook (dVar 0))) (dVar 2)) (dVar 6)) from rfl, this]
  congr 2
  unfold intsN
  rw [List.filterMap_map, List.map_filterMap]
  rfl
theorem eq_far (t : Tk) : eqD (.str (kindS t.far)) (.str "far") = some t.far := by
  cases t.far <;> decide +kernel
theorem told_ok {fs : List Str} (rs : List (Nat × Nat)) (t : Tk) {w : Nat} (hw : w < fs.length) {l : List Nat} (hl : ∀ i ∈ l, i < fs.length) (hz : l.length ≤ 1000) (mu : Store) :
    f_told_by [webD fs rs, tkD t, .int (w : Int), lotD l] mu = .ok (tvD (toldT fs.length rs t w l)) mu := by
  have e := q_told rs t hw hl hz mu
  have hk := eq_far t
  have hll : ∀ mu l, lookD mu (.lst l) = .lst l := fun _ _ => rfl
  have hln : lenD (.lst (intsN (l.filterMap (distO fs.length rs w)))) = some (.int ((l.filterMap (distO fs.length rs w)).length : Int)) := by
    show some (D.int _) = _
    rw [intsN_len]
  cases hm : (l.filterMap (distO fs.length rs w)).min? with
  | none =>
    have h0 : l.filterMap (distO fs.length rs w) = [] := List.min?_eq_none_iff.mp hm
    rw [h0] at e hln
    have ht : toldT fs.length rs t w l = if t.far = true then .far none else .near false := by
      unfold toldT nearO
      rw [hm]
      rfl
    rw [ht]
    cases hf : t.far with
    | true =>
      rw [hf] at hk
      simp [f_told_by, g_told_by, dFun, sSeq, snext, sIf, sbind, sAsg, sRet, sSkip, sExpr, sPar, sSetI, sSetA, sAug, sFor, sTg, dVar, dC, dNil, dCons, dBind, obind, dTup, dLst, dFrz, MO.d, dReg, dFz, dOp1, dOp2, dCmp, dB2v, dTst, dAnd, dOr, dNot, dIf, dCall, dIx, dLook, dIsi, dIsi2, dIsC, dIn, dChn, dMut, lstOf, putO, dM1, tyOk, dNw1, dNw2, dSl, dP, dNoP, dIsN, dItQ, dItS, dRg1, dRg2, dEnum, dLc, dYes, noex, Tg.run, gSets, List.length_map, List.length_cons, List.length_nil, List.map_cons, List.map_nil, e, hll, hln, gtI, cmpI, look_tk, attr_kind, attr_reach, hk, hf, tvD, optD, dNotN]
    | false =>
      rw [hf] at hk
      simp [f_told_by, g_told_by, dFun, sSeq, snext, sIf, sbind, sAsg, sRet, sSkip, sExpr, sPar, sSetI, sSetA, sAug, sFor, sTg, dVar, dC, dNil, dCons, dBind, obind, dTup, dLst, dFrz, MO.d, dReg, dFz, dOp1, dOp2, dCmp, dB2v, dTst, dAnd, dOr, dNot, dIf, dCall, dIx, dLook, dIsi, dIsi2, dIsC, dIn, dChn, dMut, lstOf, putO, dM1, tyOk, dNw1, dNw2, dSl, dP, dNoP, dIsN, dItQ, dItS, dRg1, dRg2, dEnum, dLc, dYes, noex, Tg.run, gSets, List.length_map, List.length_cons, List.length_nil, List.map_cons, List.map_nil, e, hll, hln, gtI, cmpI, look_tk, attr_kind, attr_reach, hk, hf, tvD, optD, dNotN]
  | some a =>
    have h0 : 0 < (l.filterMap (distO fs.length rs w)).length := by
      cases hh : l.filterMap (distO fs.length rs w) with
      | nil => rw [hh] at hm; cases hm
      | cons _ _ => simp
    have hmin := minL_nat hm
    have ht : toldT fs.length rs t w l = if t.far = true then .far (some a) else .near (decide (a ≤ t.reach)) := by
      unfold toldT nearO
      rw [hm]
      rfl
    rw [ht]
    cases hf : t.far with
    | true =>
      rw [hf] at hk
      simp [f_told_by, g_told_by, dFun, sSeq, snext, sIf, sbind, sAsg, sRet, sSkip, sExpr, sPar, sSetI, sSetA, sAug, sFor, sTg, dVar, dC, dNil, dCons, dBind, obind, dTup, dLst, dFrz, MO.d, dReg, dFz, dOp1, dOp2, dCmp, dB2v, dTst, dAnd, dOr, dNot, dIf, dCall, dIx, dLook, dIsi, dIsi2, dIsC, dIn, dChn, dMut, lstOf, putO, dM1, tyOk, dNw1, dNw2, dSl, dP, dNoP, dIsN, dItQ, dItS, dRg1, dRg2, dEnum, dLc, dYes, noex, Tg.run, gSets, List.length_map, List.length_cons, List.length_nil, List.map_cons, List.map_nil, e, hll, hln, gtI, cmpI, look_tk, attr_kind, attr_reach, hk, hf, tvD, optD, dNotN, h0, hmin]
    | false =>
      rw [hf] at hk
      simp [f_told_by, g_told_by, dFun, sSeq, snext, sIf, sbind, sAsg, sRet, sSkip, sExpr, sPar, sSetI, sSetA, sAug, sFor, sTg, dVar, dC, dNil, dCons, dBind, obind, dTup, dLst, dFrz, MO.d, dReg, dFz, dOp1, dOp2, dCmp, dB2v, dTst, dAnd, dOr, dNot, dIf, dCall, dIx, dLook, dIsi, dIsi2, dIsC, dIn, dChn, dMut, lstOf, putO, dM1, tyOk, dNw1, dNw2, dSl, dP, dNoP, dIsN, dItQ, dItS, dRg1, dRg2, dEnum, dLc, dYes, noex, Tg.run, gSets, List.length_map, List.length_cons, List.length_nil, List.map_cons, List.map_nil, e, hll, hln, gtI, leI, cmpI, look_tk, attr_kind, attr_reach, hk, hf, tvD, optD, dNotN, h0, hmin]
end DL
end

section
set_option Elab.async false
set_option linter.all false
set_option maxRecDepth 100000
set_option maxHeartbeats 4000000
namespace DL
open PySem
/-! Q5: reports, gaps of rows, pairs, the close pair, the gap -/
theorem sIx_nat {n i : Nat} {d : Nat} (h : i ≤ n) : HT.sIx n d (some (i : Int)) = i := by
  have : HT.sIx n d (some (i : Int)) = min i n := HT.sIx_nat _ _ i
  rw [this]
  omega
theorem cut_from {α : Type} {l : List α} {i : Nat} (h : i ≤ l.length) : cutG l (some (i : Int)) none = l.drop i := by
  unfold cutG
  rw [sIx_nat h]
  show (l.drop i).take (l.length - i) = _
  rw [List.take_of_length_le (by rw [List.length_drop]; exact Nat.le_refl _)]
theorem cut_to {α : Type} {l : List α} {i : Nat} (h : i ≤ l.length) : cutG l none (some (i : Int)) = l.take i := by
  unfold cutG
  rw [sIx_nat h]
  rfl
def repT (n : Nat) (rs : Rds) (t : Tk) (ws l : List Nat) : List Tv := ws.map fun w => toldT n rs t w l
def rpD (n : Nat) (rs : Rds) (t : Tk) (ws l : List Nat) : D := .tup ((repT n rs t ws l).map tvD)
theorem rep_ok {fs : List Str} (rs : List (Nat × Nat)) (t : Tk) {ws : List Nat} (hw : ∀ i ∈ ws, i < fs.length) (hz : ws.length ≤ 1000) {l : List Nat} (hl : ∀ i ∈ l, i < fs.length) (hy : l.length ≤ 1000) (mu : Store) :
    f_report_of [webD fs rs, tkD t, lotD ws, lotD l] mu = .ok (rpD fs.length rs t ws l) mu := by
  have := lc_all (src := dItQ (dVar 2)) (g := .nm 4) (own := [4]) (elt := dCall f_told_by (dCons (dVar 0) (dCons (dVar 1) (dCons (dVar 4) (dCons (dVar 3) dNil))))) (sl := [some (.val (webD fs rs)), some (.val (tkD t)), some (.val (lotD ws)), some (.val (lotD l)), none]) (mu := mu) (ds := intsN ws)
    (fun d => match d with
      | .int i => tvD (toldT fs.length rs t i.toNat l)
      | d => d) rfl (by rw [intsN_len]; omega) (fun d hd => by
      obtain ⟨i, hi, rfl⟩ := List.mem_map.mp hd
      have e := told_ok rs t (hw i hi) hl hy mu
      refine ⟨_, rfl, ?_⟩
      simp [wipeS, dFun, sSeq, snext, sIf, sbind, sAsg, sRet, sSkip, sExpr, sPar, sSetI, sSetA, sAug, sFor, sTg, dVar, dC, dNil, dCons, dBind, obind, dTup, dLst, dFrz, MO.d, dReg, dFz, dOp1, dOp2, dCmp, dB2v, dTst, dAnd, dOr, dNot, dIf, dCall, dIx, dLook, dIsi, dIsi2, dIsC, dIn, dChn, dMut, lstOf, putO, dM1, tyOk, dNw1, dNw2, dSl, dP, dNoP, dIsN, dItQ, dItS, dRg1, dRg2, dEnum, dLc, dYes, noex, Tg.run, gSets, List.length_map, List.length_cons, List.length_nil, List.map_cons, List.map_nil, e])
  have e : q_report_of_1 [some (.val (webD fs rs)), some (.val (tkD t)), some (.val (lotD ws)), some (.val (lotD l)), none] mu = .ok (.lst ((repT fs.length rs t ws l).map tvD)) mu := by
    rw [show q_report_of_1 = dLc (dItQ (dVar 2)) (.nm 4) [4] dYes (dCall f_told_by (dCons (dVar 0) (dCons (dVar 1) (dCons (dVar 4) (dCons (dVar 3) dNil))))) from rfl, this]
    unfold intsN repT
    rw [List.map_map, List.map_map]
    rfl
  unfold rpD
  generalize (repT fs.length rs t ws l).map tvD = r at e ⊢
  simp [f_report_of, g_report_of, dFun, sSeq, snext, sIf, sbind, sAsg, sRet, sSkip, sExpr, sPar, sSetI, sSetA, sAug, sFor, sTg, dVar, dC, dNil, dCons, dBind, obind, dTup, dLst, dFrz, MO.d, dReg, dFz, dOp1, dOp2, dCmp, dB2v, dTst, dAnd, dOr, dNot, dIf, dCall, dIx, dLook, dIsi, dIsi2, dIsC, dIn, dChn, dMut, lstOf, putO, dM1, tyOk, dNw1, dNw2, dSl, dP, dNoP, dIsN, dItQ, dItS, dRg1, dRg2, dEnum, dLc, dYes, noex, Tg.run, gSets, List.length_map, List.length_cons, List.length_nil, List.map_cons, List.map_nil, e, tupleD]
/-- at how many places two rows are unlike -/
def gapN (a b : List Tv) : Nat := ((a.zip b).filter fun p => decide (p.1 ≠ p.2)).length
def AllK (f : Bool) (a : List Tv) : Prop := ∀ x ∈ a, x.isFar = f
theorem rep_kind (n : Nat) (rs : Rds) (t : Tk) (ws l : List Nat) : AllK t.far (repT n rs t ws l) := fun x hx => by
  obtain ⟨w, _, rfl⟩ := List.mem_map.mp hx
  exact told_far n rs t w l
theorem zipD_map {α β : Type} (f : α → D) (g : β → D) : ∀ (a : List α) (b : List β), zipD (a.map f) (b.map g) = (a.zip b).map fun p => .tup [f p.1, g p.2]
  | [], _ => by simp [zipD]
  | _ :: _, [] => by simp [zipD]
  | x :: a, y :: b => by
    rw [List.map_cons, List.map_cons]
    unfold zipD
    rw [zipD_map f g a b]
    rfl
/-- a list by draws of values that stand for typed ones -/
theorem lc_map {α : Type} {src : LF} {g : Tg} {own : List Nat} {c : BF} {elt : EF} {sl : Sl} {mu : Store} {ls : List α} (e : α → D) (T : α → Option D) (hs : src sl mu = .ok (ls.map e) mu) (hz : ls.length ≤ 16000000)
    (h : ∀ x ∈ ls, ∃ sl1, g.run (e x) (wipeS sl own) = some sl1 ∧ ((∃ y, T x = some y ∧ c sl1 mu = .ok true mu ∧ elt sl1 mu = .ok y mu) ∨ (T x = none ∧ c sl1 mu = .ok false mu))) :
    dLc src g own c elt sl mu = .ok (.lst (ls.filterMap T)) mu := by
  have key : ∀ (ls : List α) (acc : List D), (∀ x ∈ ls, ∃ sl1, g.run (e x) (wipeS sl own) = some sl1 ∧ ((∃ y, T x = some y ∧ c sl1 mu = .ok true mu ∧ elt sl1 mu = .ok y mu) ∨ (T x = none ∧ c sl1 mu = .ok false mu))) → dLcL g (wipeS sl own) c elt (ls.map e) acc mu = .ok (.lst (acc ++ ls.filterMap T)) mu := by
    intro ls
    induction ls with
    | nil => intro acc _; simp [dLcL]
    | cons x ls ih =>
      intro acc h
      obtain ⟨sl1, e1, e2⟩ := h x List.mem_cons_self
      have h' := fun y hy => h y (List.mem_cons_of_mem _ hy)
      rw [List.map_cons]
      unfold dLcL
      rw [e1]
      dsimp only
      rcases e2 with ⟨y, e2, e3, e4⟩ | ⟨e2, e3⟩
      · simp only [e3, e4, noex, obind, if_true]
        rw [ih _ h', List.filterMap_cons_some e2, List.append_assoc]
        rfl
      · simp only [e3, noex, obind]
        rw [if_neg (by simp), ih _ h', List.filterMap_cons_none e2]
  unfold dLc dBind obind
  rw [hs]
  have ez : sizeOk (ls.map e) = true := decide_eq_true (by rw [List.length_map]; exact hz)
  simp only [ez, if_true]
  rw [key ls [] h]
  rfl
theorem filterMap_all {α β : Type} (T : α → β) : ∀ l : List α, l.filterMap (fun x => some (T x)) = l.map T
  | [] => rfl
  | x :: l => by rw [List.filterMap_cons_some (f := fun x => some (T x)) (b := T x) rfl, filterMap_all T l]; rfl
theorem lc_mapA {α : Type} {src : LF} {g : Tg} {own : List Nat} {elt : EF} {sl : Sl} {mu : Store} {ls : List α} (e : α → D) (T : α → D) (hs : src sl mu = .ok (ls.map e) mu) (hz : ls.length ≤ 16000000)
    (h : ∀ x ∈ ls, ∃ sl1, g.run (e x) (wipeS sl own) = some sl1 ∧ elt sl1 mu = .ok (T x) mu) : dLc src g own dYes elt sl mu = .ok (.lst (ls.map T)) mu := by
  rw [lc_map e (fun x => some (T x)) hs hz fun x hx => by
    obtain ⟨sl1, e1, e2⟩ := h x hx
    exact ⟨sl1, e1, .inl ⟨_, rfl, rfl, e2⟩⟩]
  congr 2
  exact filterMap_all T ls
theorem gapof_ok {a b : List Tv} {f : Bool} (ha : AllK f a) (hb : AllK f b) (hz : a.length ≤ 1000) (mu : Store) : f_gap_of [.tup (a.map tvD), .tup (b.map tvD)] mu = .ok (.int (gapN a b : Int)) mu := by
  have := lc_map (src := dZip (dVar 0) (dVar 1)) (g := .tp [2, 3]) (own := [2, 3]) (c := dCmp neD (dVar 2) (dVar 3)) (elt := dC (.bl true)) (sl := [some (.val (.tup (a.map tvD))), some (.val (.tup (b.map tvD))), none, none]) (mu := mu) (ls := a.zip b)
    (fun p => .tup [tvD p.1, tvD p.2]) (fun p => if p.1 ≠ p.2 then some (.bl true) else none) (by simp [dZip, dFun, sSeq, snext, sIf, sbind, sAsg, sRet, sSkip, sExpr, sPar, sSetI, sSetA, sAug, sFor, sTg, dVar, dC, dNil, dCons, dBind, obind, dTup, dLst, dFrz, MO.d, dReg, dFz, dOp1, dOp2, dCmp, dB2v, dTst, dAnd, dOr, dNot, dIf, dCall, dIx, dLook, dIsi, dIsi2, dIsC, dIn, dChn, dMut, lstOf, putO, dM1, tyOk, dNw1, dNw2, dSl, dP, dNoP, dIsN, dItQ, dItS, dRg1, dRg2, dEnum, dLc, dYes, noex, Tg.run, gSets, List.length_map, List.length_cons, List.length_nil, List.map_cons, List.map_nil, zipD_map]) (by rw [List.length_zip]; omega) (fun p hp => by
      have h1 := ha p.1 (List.of_mem_zip hp).1
      have h2 := hb p.2 (List.of_mem_zip hp).2
      have e := ne_tv (h1.trans h2.symm)
      refine ⟨_, rfl, ?_⟩
      by_cases hpp : p.1 = p.2
      · refine .inr ⟨by simp [hpp], ?_⟩
        rw [decide_eq_false (fun h => h hpp)] at e
        simp [wipeS, dFun, sSeq, snext, sIf, sbind, sAsg, sRet, sSkip, sExpr, sPar, sSetI, sSetA, sAug, sFor, sTg, dVar, dC, dNil, dCons, dBind, obind, dTup, dLst, dFrz, MO.d, dReg, dFz, dOp1, dOp2, dCmp, dB2v, dTst, dAnd, dOr, dNot, dIf, dCall, dIx, dLook, dIsi, dIsi2, dIsC, dIn, dChn, dMut, lstOf, putO, dM1, tyOk, dNw1, dNw2, dSl, dP, dNoP, dIsN, dItQ, dItS, dRg1, dRg2, dEnum, dLc, dYes, noex, Tg.run, gSets, List.length_map, List.length_cons, List.length_nil, List.map_cons, List.map_nil, e]
      · refine .inl ⟨_, if_pos hpp, ?_, rfl⟩
        rw [decide_eq_true hpp] at e
        simp [wipeS, dFun, sSeq, snext, sIf, sbind, sAsg, sRet, sSkip, sExpr, sPar, sSetI, sSetA, sAug, sFor, sTg, dVar, dC, dNil, dCons, dBind, obind, dTup, dLst, dFrz, MO.d, dReg, dFz, dOp1, dOp2, dCmp, dB2v, dTst, dAnd, dOr, dNot, dIf, dCall, dIx, dLook, dIsi, dIsi2, dIsC, dIn, dChn, dMut, lstOf, putO, dM1, tyOk, dNw1, dNw2, dSl, dP, dNoP, dIsN, dItQ, dItS, dRg1, dRg2, dEnum, dLc, dYes, noex, Tg.run, gSets, List.length_map, List.length_cons, List.length_nil, List.map_cons, List.map_nil, e])
  have e : q_gap_of_1 [some (.val (.tup (a.map tvD))), some (.val (.tup (b.map tvD))), none, none] mu = .ok (.lst ((a.zip b).filterMap fun p => if p.1 ≠ p.2 then some (.bl true) else none)) mu := this
  have hl : ((a.zip b).filterMap fun p => if p.1 ≠ p.2 then some (D.bl true) else none).length = gapN a b := by
    unfold gapN
    generalize a.zip b = zl
    clear this e
    induction zl with
    | nil => rfl
    | cons p l ih =>
      by_cases hpp : p.1 = p.2
      · rw [List.filterMap_cons_none (by simp [hpp]), ih, List.filter_cons_of_neg (by simp [hpp])]
      · rw [List.filterMap_cons_some (f := fun p : Tv × Tv => if p.1 ≠ p.2 then some (D.bl true) else none) (b := D.bl true) (if_pos hpp), List.length_cons, ih, List.filter_cons_of_pos (by simp [hpp]), List.length_cons]
  have hn : ∀ l : List D, lenD (.lst l) = some (.int (l.length : Int)) := fun _ => rfl
  rw [← hl]
  generalize ((a.zip b).filterMap fun p => if p.1 ≠ p.2 then some (D.bl true) else none) = r at e ⊢
  simp [f_gap_of, g_gap_of, dFun, sSeq, snext, sIf, sbind, sAsg, sRet, sSkip, sExpr, sPar, sSetI, sSetA, sAug, sFor, sTg, dVar, dC, dNil, dCons, dBind, obind, dTup, dLst, dFrz, MO.d, dReg, dFz, dOp1, dOp2, dCmp, dB2v, dTst, dAnd, dOr, dNot, dIf, dCall, dIx, dLook, dIsi, dIsi2, dIsC, dIn, dChn, dMut, lstOf, putO, dM1, tyOk, dNw1, dNw2, dSl, dP, dNoP, dIsN, dItQ, dItS, dRg1, dRg2, dEnum, dLc, dYes, noex, Tg.run, gSets, List.length_map, List.length_cons, List.length_nil, List.map_cons, List.map_nil, e, hn]
def boundN (t : Tk) : Nat := t.broken + 2 * t.lying
theorem bound_ok (t : Tk) (mu : Store) : f_bound_of [tkD t] mu = .ok (.int (boundN t : Int)) mu := by
  simp [f_bound_of, g_bound_of, dFun, sSeq, snext, sIf, sbind, sAsg, sRet, sSkip, sExpr, sPar, sSetI, sSetA, sAug, sFor, sTg, dVar, dC, dNil, dCons, dBind, obind, dTup, dLst, dFrz, MO.d, dReg, dFz, dOp1, dOp2, dCmp, dB2v, dTst, dAnd, dOr, dNot, dIf, dCall, dIx, dLook, dIsi, dIsi2, dIsC, dIn, dChn, dMut, lstOf, putO, dM1, tyOk, dNw1, dNw2, dSl, dP, dNoP, dIsN, dItQ, dItS, dRg1, dRg2, dEnum, dLc, dYes, noex, Tg.run, gSets, List.length_map, List.length_cons, List.length_nil, List.map_cons, List.map_nil, addD, mulD, boundN]
def prsL {α : Type} : List α → List (α × α)
  | [] => []
  | a :: l => l.map (fun b => (a, b)) ++ prsL l
theorem prsL_len {α : Type} : ∀ l : List α, 2 * (prsL l).length ≤ l.length * l.length
  | [] => Nat.le_refl _
  | a :: l => by
    have ih := prsL_len l
    show 2 * (l.map (fun b => (a, b)) ++ prsL l).length ≤ (l.length + 1) * (l.length + 1)
    rw [List.length_append, List.length_map, Nat.add_mul, Nat.mul_add, Nat.mul_add, Nat.one_mul, Nat.mul_one]
    omega
def prD (p : D × D) : D := .tup [p.1, p.2]
theorem qz_pairs {pre rest : List D} {a x1 : D} (hz : (pre ++ a :: rest).length ≤ 1000) (mu : Store) : q_pairs_of_1 [some (.val (.lst (pre ++ a :: rest))), some (.val x1), some (.val (.int (pre.length : Int))), some (.val a), none] mu = .ok (.lst (rest.map fun b => .tup [a, b])) mu := by
  have hs : sliceD (.lst (pre ++ a :: rest)) (some ((pre.length : Int) + 1)) none = some (.lst rest) := by
    show some (D.lst (cutG (pre ++ a :: rest) (some ((pre.length + 1 : Nat) : Int)) none)) = _
    rw [cut_from (by simp)]
    simp
  exact lc_all (src := dItQ (dSl (dVar 0) (dP (dOp2 addD (dVar 2) (dC (.int 1)))) dNoP)) (g := .nm 4) (own := [4]) (elt := dTup (dCons (dVar 3) (dCons (dVar 4) dNil))) (ds := rest) (fun b => .tup [a, b])
    (by simp [dFun, sSeq, snext, sIf, sbind, sAsg, sRet, sSkip, sExpr, sPar, sSetI, sSetA, sAug, sFor, sTg, dVar, dC, dNil, dCons, dBind, obind, dTup, dLst, dFrz, MO.d, dReg, dFz, dOp1, dOp2, dCmp, dB2v, dTst, dAnd, dOr, dNot, dIf, dCall, dIx, dLook, dIsi, dIsi2, dIsC, dIn, dChn, dMut, lstOf, putO, dM1, tyOk, dNw1, dNw2, dSl, dP, dNoP, dIsN, dItQ, dItS, dRg1, dRg2, dEnum, dLc, dYes, noex, Tg.run, gSets, List.length_map, List.length_cons, List.length_nil, List.map_cons, List.map_nil, addD, hs]) (by simp at hz; omega) (fun d hd => ⟨_, rfl, by simp [wipeS, dFun, sSeq, snext, sIf, sbind, sAsg, sRet, sSkip, sExpr, sPar, sSetI, sSetA, sAug, sFor, sTg, dVar, dC, dNil, dCons, dBind, obind, dTup, dLst, dFrz, MO.d, dReg, dFz, dOp1, dOp2, dCmp, dB2v, dTst, dAnd, dOr, dNot, dIf, dCall, dIx, dLook, dIsi, dIsi2, dIsC, dIn, dChn, dMut, lstOf, putO, dM1, tyOk, dNw1, dNw2, dSl, dP, dNoP, dIsN, dItQ, dItS, dRg1, dRg2, dEnum, dLc, dYes, noex, Tg.run, gSets, List.length_map, List.length_cons, List.length_nil, List.map_cons, List.map_nil]⟩)
theorem pairs_in (mu : Store) (ds : List D) (hz : ds.length ≤ 1000) : ∀ (rest pre : List D) (acc : List D) (x2 x3 x4 : Option SV), pre ++ rest = ds → acc.length + 1000 * rest.length ≤ 16000000 → ∃ y2 y3,
    sForL (.tp [2, 3]) b_pairs_of_1 (numD pre.length rest) [some (.val (.lst ds)), some (.val (.obj mu.length)), x2, x3, none] (mu ++ [some (.lst acc)]) =
      .nx [some (.val (.lst ds)), some (.val (.obj mu.length)), y2, y3, none] (mu ++ [some (.lst (acc ++ (prsL rest).map prD))])
  | [], pre, acc, x2, x3, x4, _, _ => ⟨x2, x3, by simp [numD, sForL, prsL]⟩
  | a :: rest, pre, acc, x2, x3, x4, h, hb => by
    rw [List.length_cons] at hb
    have hr : rest.length ≤ 1000 := by
      have := congrArg List.length h
      simp at this
      omega
    obtain ⟨y2, y3, e⟩ := pairs_in mu ds hz rest (pre ++ [a]) (acc ++ rest.map fun b => .tup [a, b]) (some (.val (.int (pre.length : Int)))) (some (.val a)) none (by rw [List.append_assoc]; exact h) (by rw [List.length_append, List.length_map]; omega)
    refine ⟨y2, y3, ?_⟩
    have hq := qz_pairs (pre := pre) (rest := rest) (a := a) (x1 := .obj mu.length) (by rw [h]; exact hz) (mu ++ [some (.lst acc)])
    rw [h] at hq
    have hf : (prsL (a :: rest)).map prD = (rest.map fun b => .tup [a, b]) ++ (prsL rest).map prD := by
      show (rest.map (fun b => (a, b)) ++ prsL rest).map prD = _
      rw [List.map_append, List.map_map]
      rfl
    rw [hf, ← List.append_assoc, ← e, List.length_append]
    conv => lhs; unfold numD sForL
    have hz2 : acc.length + (rest.map fun b => D.tup [a, b]).length ≤ 16000000 := by rw [List.length_map]; omega
    generalize (rest.map fun b => D.tup [a, b]) = r at hq hz2 ⊢
    simp [b_pairs_of_1, dFun, sSeq, snext, sIf, sbind, sAsg, sRet, sSkip, sExpr, sPar, sSetI, sSetA, sAug, sFor, sTg, dVar, dC, dNil, dCons, dBind, obind, dTup, dLst, dFrz, MO.d, dReg, dFz, dOp1, dOp2, dCmp, dB2v, dTst, dAnd, dOr, dNot, dIf, dCall, dIx, dLook, lookD, dIsi, dIsi2, dIsC, dIn, dChn, dMut, lstOf, putO, dM1, tyOk, dNw1, dNw2, dSl, dP, dNoP, dIsN, dItQ, dItS, dRg1, dRg2, dEnum, dLc, dYes, noex, Tg.run, gSets, List.length_map, List.length_cons, List.length_nil, List.map_cons, List.map_nil, hq, extD, hz2]
theorem clL_mem {n : Nat} : ∀ {l : List D}, clL n l = true → ∀ {d : D}, d ∈ l → clD n d = true
  | [], _, _, h => by simp at h
  | x :: l, h, d, hd => by
    have h' : (clD n x && clL n l) = true := h
    rw [Bool.and_eq_true] at h'
    rcases List.mem_cons.mp hd with rfl | hd
    · exact h'.1
    · exact clL_mem h'.2 hd
theorem cl_prs (n : Nat) : ∀ {ds : List D}, clL n ds = true → clL n ((prsL ds).map prD) = true := by
  intro ds
  induction ds with
  | nil => intro _; rfl
  | cons a l ih =>
    intro h
    have h' : (clD n a && clL n l) = true := h
    rw [Bool.and_eq_true] at h'
    show clL n ((l.map (fun b => (a, b)) ++ prsL l).map prD) = true
    refine clL_of fun d hd => ?_
    rw [List.map_append, List.mem_append] at hd
    rcases hd with hd | hd
    · rw [List.map_map] at hd
      obtain ⟨b, hb, rfl⟩ := List.mem_map.mp hd
      show (clD n a && (clD n b && true)) = true
      rw [h'.1, clL_mem h'.2 hb]
      rfl
    · exact clL_mem (ih h'.2) hd
theorem pairs_ok5 {ds : List D} (hz : ds.length ≤ 1000) {mu : Store} (hp : Pl mu) (hc : ∀ n, clL n ds = true) : f_pairs_of [.lst ds] mu = .ok (.lst ((prsL ds).map prD)) mu := by
  obtain ⟨y2, y3, e⟩ := pairs_in mu ds hz ds [] [] none none none rfl (by simp; omega)
  have e' : sForL (.tp [2, 3]) b_pairs_of_1 (numD 0 ds) [some (.val (.lst ds)), some (.val (.obj mu.length)), none, none, none] (mu ++ [some (.lst [])]) = .nx [some (.val (.lst ds)), some (.val (.obj mu.length)), y2, y3, none] (mu ++ [some (.lst ((prsL ds).map prD))]) := e
  have g0 : (mu ++ [some (MO.lst ((prsL ds).map prD))])[mu.length]? = some (some (.lst ((prsL ds).map prD))) := by simp
  have s0 : (mu ++ [some (MO.lst ((prsL ds).map prD))]).set mu.length none = mu ++ [none] := by simp
  have key : dFun 5 g_pairs_of [.lst ds] mu = .ok (.lst ((prsL ds).map prD)) (mu ++ [none]) := by
    generalize (prsL ds).map prD = r at e' g0 s0 ⊢
    simp [g_pairs_of, dEnumQ, dFun, sSeq, snext, sIf, sbind, sAsg, sRet, sSkip, sExpr, sPar, sSetI, sSetA, sAug, sFor, sTg, dVar, dC, dNil, dCons, dBind, obind, dTup, dLst, dFrz, MO.d, dReg, dFz, dOp1, dOp2, dCmp, dB2v, dTst, dAnd, dOr, dNot, dIf, dCall, dIx, dLook, lookD, dIsi, dIsi2, dIsC, dIn, dChn, dMut, lstOf, putO, dM1, tyOk, dNw1, dNw2, dSl, dP, dNoP, dIsN, dItQ, dItS, dRg1, dRg2, dEnum, dLc, dYes, noex, Tg.run, gSets, List.length_map, List.length_cons, List.length_nil, List.map_cons, List.map_nil, e', g0, s0]
  exact gc_of key (take_app _ _) hp fun m => cl_prs m (hc m)
end DL
end

section
set_option Elab.async false
set_option linter.all false
set_option maxRecDepth 100000
set_option maxHeartbeats 4000000
namespace DL
open PySem
/-! Q6: the close pair, few, fewest, the gap, clash -/
theorem for_find {α : Type} {tgt : Tg} {body : SF} {mu : Store} (e : α → D) (P : α → Bool) (r : α → D) (I : Sl → Prop) : ∀ (ls : List α) (sl : Sl), I sl →
    (∀ x ∈ ls, ∀ sl, I sl → ∃ sl1, tgt.run (e x) sl = some sl1 ∧ ((P x = true ∧ body sl1 mu = .rt (r x) mu) ∨ (P x = false ∧ ∃ sl2, I sl2 ∧ body sl1 mu = .nx sl2 mu))) →
    (∃ x, ls.find? P = some x ∧ sForL tgt body (ls.map e) sl mu = .rt (r x) mu) ∨ (ls.find? P = none ∧ ∃ sl', I sl' ∧ sForL tgt body (ls.map e) sl mu = .nx sl' mu)
  | [], sl, hI, _ => .inr ⟨rfl, sl, hI, rfl⟩
  | x :: ls, sl, hI, h => by
    obtain ⟨sl1, e1, e2⟩ := h x List.mem_cons_self sl hI
    rw [List.map_cons]
    unfold sForL
    rw [e1]
    dsimp only
    rcases e2 with ⟨hp, e2⟩ | ⟨hp, sl2, hI2, e2⟩
    · refine .inl ⟨x, by simp [hp], ?_⟩
      rw [e2]
    · rw [e2]
      dsimp only
      rcases for_find e P r I ls sl2 hI2 (fun y hy => h y (List.mem_cons_of_mem _ hy)) with ⟨y, g1, g2⟩ | ⟨g1, g2⟩
      · exact .inl ⟨y, by simp [hp, g1], g2⟩
      · exact .inr ⟨by rw [List.find?_cons_of_neg (by simp [hp])]; exact g1, g2⟩
theorem prsL_map {α β : Type} (f : α → β) : ∀ l : List α, prsL (l.map f) = (prsL l).map fun p => (f p.1, f p.2)
  | [] => rfl
  | a :: l => by
    show (l.map f).map (fun b => (f a, b)) ++ prsL (l.map f) = (l.map (fun b => (a, b)) ++ prsL l).map _
    rw [prsL_map f l, List.map_append, List.map_map, List.map_map]
    rfl
theorem prsL_mem {α : Type} : ∀ {l : List α} {p : α × α}, p ∈ prsL l → p.1 ∈ l ∧ p.2 ∈ l
  | [], _, h => by cases h
  | a :: l, p, h => by
    have h' : p ∈ l.map (fun b => (a, b)) ++ prsL l := h
    rw [List.mem_append] at h'
    rcases h' with h' | h'
    · obtain ⟨b, hb, rfl⟩ := List.mem_map.mp h'
      exact ⟨List.mem_cons_self, List.mem_cons_of_mem _ hb⟩
    · exact ⟨List.mem_cons_of_mem _ (prsL_mem h').1, List.mem_cons_of_mem _ (prsL_mem h').2⟩
/-- the lots of fires of a task, in order -/
def lotsT (n : Nat) (t : Tk) : List (List Nat) := allLots n (min t.fires n)
theorem lotsT_perm (n : Nat) (t : Tk) : (lotsT n t).Perm (lotsBy n (min t.fires n)) := List.mergeSort_perm _ _
theorem mem_lotsT {n : Nat} {t : Tk} {l : List Nat} : l ∈ lotsT n t ↔ Asc n l ∧ l.length ≤ min t.fires n := by
  rw [(lotsT_perm n t).mem_iff, mem_lots]
theorem lotsT_len {n : Nat} (hn : n ≤ 9) (t : Tk) : (lotsT n t).length ≤ 512 := by
  rw [(lotsT_perm n t).length_eq]
  exact lots_len hn (Nat.min_le_right _ _)
theorem all_lots_T {fs : List Str} (rs : List (Nat × Nat)) (h9 : fs.length ≤ 9) (t : Tk) {mu : Store} (hp : Pl mu) : f_all_lots [webD fs rs, tkD t] mu = .ok (.lst ((lotsT fs.length t).map lotD)) mu := all_lots_ok rs h9 t hp
theorem pairs_lots {n : Nat} (h9 : n ≤ 9) (t : Tk) {mu : Store} (hp : Pl mu) : f_pairs_of [.lst ((lotsT n t).map lotD)] mu = .ok (.lst ((prsL (lotsT n t)).map fun p => .tup [lotD p.1, lotD p.2])) mu := by
  rw [pairs_ok5 (by rw [List.length_map]; have := lotsT_len h9 t; omega) hp (fun n => cl_lots n _), prsL_map, List.map_map]
  rfl
/-- rows of two lots are too near to one another -/
def nearP (n : Nat) (rs : Rds) (t : Tk) (ws : List Nat) (p : List Nat × List Nat) : Bool := decide (gapN (repT n rs t ws p.1) (repT n rs t ws p.2) ≤ boundN t)
def closeP (n : Nat) (rs : Rds) (t : Tk) (ws : List Nat) : Option (List Nat × List Nat) := (prsL (lotsT n t)).find? (nearP n rs t ws)
def closeD : Option (List Nat × List Nat) → D
  | none => .non
  | some p => .tup [lotD p.1, lotD p.2]
theorem gapof_rep {fs : List Str} (rs : List (Nat × Nat)) (t : Tk) {ws : List Nat} (hz : ws.length ≤ 1000) (l m : List Nat) (mu : Store) : f_gap_of [rpD fs.length rs t ws l, rpD fs.length rs t ws m] mu = .ok (.int (gapN (repT fs.length rs t ws l) (repT fs.length rs t ws m) : Int)) mu :=
  gapof_ok (rep_kind _ _ _ _ _) (rep_kind _ _ _ _ _) (by unfold repT; rw [List.length_map]; exact hz) mu
theorem asc_lt {n : Nat} {l : List Nat} (h : Asc n l) : ∀ i ∈ l, i < n := h.lt
theorem close_ok {fs : List Str} (rs : List (Nat × Nat)) (h9 : fs.length ≤ 9) (t : Tk) {ws : List Nat} (hw : ∀ i ∈ ws, i < fs.length) (hz : ws.length ≤ 1000) {mu : Store} (hp : Pl mu) :
    f_close_pair [webD fs rs, tkD t, lotD ws] mu = .ok (closeD (closeP fs.length rs t ws)) mu := by
  have hb : ∀ p ∈ prsL (lotsT fs.length t), ∀ sl : Sl, (∃ x3 x4, sl = [some (.val (webD fs rs)), some (.val (tkD t)), some (.val (lotD ws)), x3, x4]) → ∃ sl1, (Tg.tp [3, 4]).run (.tup [lotD p.1, lotD p.2]) sl = some sl1 ∧
      ((nearP fs.length rs t ws p = true ∧ b_close_pair_1 sl1 mu = .rt (.tup [lotD p.1, lotD p.2]) mu) ∨ (nearP fs.length rs t ws p = false ∧ ∃ sl2, (∃ x3 x4, sl2 = [some (.val (webD fs rs)), some (.val (tkD t)), some (.val (lotD ws)), x3, x4]) ∧ b_close_pair_1 sl1 mu = .nx sl2 mu)) := by
    rintro p hp2 sl ⟨x3, x4, rfl⟩
    obtain ⟨m1, m2⟩ := prsL_mem hp2
    rw [mem_lotsT] at m1 m2
    have e1 := rep_ok rs t hw hz (asc_lt m1.1) (by have := asc_len m1.1; omega) mu
    have e2 := rep_ok rs t hw hz (asc_lt m2.1) (by have := asc_len m2.1; omega) mu
    have e3 := gapof_rep (fs := fs) rs t hz p.1 p.2 mu
    have e4 := bound_ok t mu
    refine ⟨_, rfl, ?_⟩
    by_cases hq : gapN (repT fs.length rs t ws p.1) (repT fs.length rs t ws p.2) ≤ boundN t
    · refine .inl ⟨decide_eq_true hq, ?_⟩
      simp [b_close_pair_1, dFun, sSeq, snext, sIf, sbind, sAsg, sRet, sSkip, sExpr, sPar, sSetI, sSetA, sAug, sFor, sTg, dVar, dC, dNil, dCons, dBind, obind, dTup, dLst, dFrz, MO.d, dReg, dFz, dOp1, dOp2, dCmp, dB2v, dTst, dAnd, dOr, dNot, dIf, dCall, dIx, dLook, dIsi, dIsi2, dIsC, dIn, dChn, dMut, lstOf, putO, dM1, tyOk, dNw1, dNw2, dSl, dP, dNoP, dIsN, dItQ, dItS, dRg1, dRg2, dEnum, dLc, dYes, noex, Tg.run, gSets, List.length_map, List.length_cons, List.length_nil, List.map_cons, List.map_nil, e1, e2, e3, e4, leI, cmpI, hq]
    · refine .inr ⟨decide_eq_false hq, [some (.val (webD fs rs)), some (.val (tkD t)), some (.val (lotD ws)), some (.val (lotD p.1)), some (.val (lotD p.2))], ⟨_, _, rfl⟩, ?_⟩
      simp [b_close_pair_1, dFun, sSeq, snext, sIf, sbind, sAsg, sRet, sSkip, sExpr, sPar, sSetI, sSetA, sAug, sFor, sTg, dVar, dC, dNil, dCons, dBind, obind, dTup, dLst, dFrz, MO.d, dReg, dFz, dOp1, dOp2, dCmp, dB2v, dTst, dAnd, dOr, dNot, dIf, dCall, dIx, dLook, dIsi, dIsi2, dIsC, dIn, dChn, dMut, lstOf, putO, dM1, tyOk, dNw1, dNw2, dSl, dP, dNoP, dIsN, dItQ, dItS, dRg1, dRg2, dEnum, dLc, dYes, noex, Tg.run, gSets, List.length_map, List.length_cons, List.length_nil, List.map_cons, List.map_nil, e1, e2, e3, e4, leI, cmpI, hq]
  have e1 := all_lots_T rs h9 t hp
  have e2 := pairs_lots h9 t hp
  rcases for_find (tgt := .tp [3, 4]) (body := b_close_pair_1) (mu := mu) (fun p : List Nat × List Nat => D.tup [lotD p.1, lotD p.2]) (nearP fs.length rs t ws) (fun p => .tup [lotD p.1, lotD p.2]) _ _ [some (.val (webD fs rs)), some (.val (tkD t)), some (.val (lotD ws)), none, none] ⟨_, _, rfl⟩ hb with ⟨p, g1, g2⟩ | ⟨g1, sl', ⟨x3, x4, rfl⟩, g2⟩
  · have hc : closeP fs.length rs t ws = some p := g1
    rw [hc]
    generalize ((prsL (lotsT fs.length t)).map fun p : List Nat × List Nat => D.tup [lotD p.1, lotD p.2]) = r at e2 g2
    simp [f_close_pair, g_close_pair, dFun, sSeq, snext, sIf, sbind, sAsg, sRet, sSkip, sExpr, sPar, sSetI, sSetA, sAug, sFor, sTg, dVar, dC, dNil, dCons, dBind, obind, dTup, dLst, dFrz, MO.d, dReg, dFz, dOp1, dOp2, dCmp, dB2v, dTst, dAnd, dOr, dNot, dIf, dCall, dIx, dLook, dIsi, dIsi2, dIsC, dIn, dChn, dMut, lstOf, putO, dM1, tyOk, dNw1, dNw2, dSl, dP, dNoP, dIsN, dItQ, dItS, dRg1, dRg2, dEnum, dLc, dYes, noex, Tg.run, gSets, List.length_map, List.length_cons, List.length_nil, List.map_cons, List.map_nil, e1, e2, g2, closeD]
  · have hc : closeP fs.length rs t ws = none := g1
    rw [hc]
    generalize ((prsL (lotsT fs.length t)).map fun p : List Nat × List Nat => D.tup [lotD p.1, lotD p.2]) = r at e2 g2
    simp [f_close_pair, g_close_pair, dFun, sSeq, snext, sIf, sbind, sAsg, sRet, sSkip, sExpr, sPar, sSetI, sSetA, sAug, sFor, sTg, dVar, dC, dNil, dCons, dBind, obind, dTup, dLst, dFrz, MO.d, dReg, dFz, dOp1, dOp2, dCmp, dB2v, dTst, dAnd, dOr, dNot, dIf, dCall, dIx, dLook, dIsi, dIsi2, dIsC, dIn, dChn, dMut, lstOf, putO, dM1, tyOk, dNw1, dNw2, dSl, dP, dNoP, dIsN, dItQ, dItS, dRg1, dRg2, dEnum, dLc, dYes, noex, Tg.run, gSets, List.length_map, List.length_cons, List.length_nil, List.map_cons, List.map_nil, e1, e2, g2, closeD]
theorem nn_close (o : Option (List Nat × List Nat)) : isNon (closeD o) = o.isNone := by cases o <;> rfl
/-! few and fewest -/
def fewT (n : Nat) (rs : Rds) (t : Tk) : Option (List Nat) := (lotsBy n n).find? fun ws => (closeP n rs t ws).isNone
def fewD : Option (List Nat) → D
  | none => .non
  | some ws => lotD ws
theorem few_ok {fs : List Str} (rs : List (Nat × Nat)) (h9 : fs.length ≤ 9) (t : Tk) {mu : Store} (hp : Pl mu) : f_few [webD fs rs, tkD t] mu = .ok (fewD (fewT fs.length rs t)) mu := by
  have hb : ∀ ws ∈ lotsBy fs.length fs.length, ∀ sl : Sl, (∃ x2, sl = [some (.val (webD fs rs)), some (.val (tkD t)), x2]) → ∃ sl1, (Tg.nm 2).run (lotD ws) sl = some sl1 ∧
      (((closeP fs.length rs t ws).isNone = true ∧ b_few_1 sl1 mu = .rt (lotD ws) mu) ∨ ((closeP fs.length rs t ws).isNone = false ∧ ∃ sl2, (∃ x2, sl2 = [some (.val (webD fs rs)), some (.val (tkD t)), x2]) ∧ b_few_1 sl1 mu = .nx sl2 mu)) := by
    rintro ws hws sl ⟨x2, rfl⟩
    rw [mem_lots] at hws
    have e1 := close_ok rs h9 t (asc_lt hws.1) (by have := asc_len hws.1; omega) hp
    refine ⟨_, rfl, ?_⟩
    cases hq : (closeP fs.length rs t ws).isNone with
    | true =>
      refine .inl ⟨rfl, ?_⟩
      simp [b_few_1, dFun, sSeq, snext, sIf, sbind, sAsg, sRet, sSkip, sExpr, sPar, sSetI, sSetA, sAug, sFor, sTg, dVar, dC, dNil, dCons, dBind, obind, dTup, dLst, dFrz, MO.d, dReg, dFz, dOp1, dOp2, dCmp, dB2v, dTst, dAnd, dOr, dNot, dIf, dCall, dIx, dLook, dIsi, dIsi2, dIsC, dIn, dChn, dMut, lstOf, putO, dM1, tyOk, dNw1, dNw2, dSl, dP, dNoP, dIsN, dItQ, dItS, dRg1, dRg2, dEnum, dLc, dYes, noex, Tg.run, gSets, List.length_map, List.length_cons, List.length_nil, List.map_cons, List.map_nil, e1, nn_close, hq]
    | false =>
      refine .inr ⟨rfl, [some (.val (webD fs rs)), some (.val (tkD t)), some (.val (lotD ws))], ⟨_, rfl⟩, ?_⟩
      simp [b_few_1, dFun, sSeq, snext, sIf, sbind, sAsg, sRet, sSkip, sExpr, sPar, sSetI, sSetA, sAug, sFor, sTg, dVar, dC, dNil, dCons, dBind, obind, dTup, dLst, dFrz, MO.d, dReg, dFz, dOp1, dOp2, dCmp, dB2v, dTst, dAnd, dOr, dNot, dIf, dCall, dIx, dLook, dIsi, dIsi2, dIsC, dIn, dChn, dMut, lstOf, putO, dM1, tyOk, dNw1, dNw2, dSl, dP, dNoP, dIsN, dItQ, dItS, dRg1, dRg2, dEnum, dLc, dYes, noex, Tg.run, gSets, List.length_map, List.length_cons, List.length_nil, List.map_cons, List.map_nil, e1, nn_close, hq]
  have e1 := lots_ok (n := fs.length) (k := fs.length) h9 (Nat.le_refl _) hp
  rcases for_find (tgt := .nm 2) (body := b_few_1) (mu := mu) lotD (fun ws => (closeP fs.length rs t ws).isNone) lotD _ _ [some (.val (webD fs rs)), some (.val (tkD t)), none] ⟨_, rfl⟩ hb with ⟨p, g1, g2⟩ | ⟨g1, sl', ⟨x3, rfl⟩, g2⟩
  · have hc : fewT fs.length rs t = some p := g1
    rw [hc]
    generalize (lotsBy fs.length fs.length).map lotD = r at e1 g2
    simp [f_few, g_few, dFun, sSeq, snext, sIf, sbind, sAsg, sRet, sSkip, sExpr, sPar, sSetI, sSetA, sAug, sFor, sTg, dVar, dC, dNil, dCons, dBind, obind, dTup, dLst, dFrz, MO.d, dReg, dFz, dOp1, dOp2, dCmp, dB2v, dTst, dAnd, dOr, dNot, dIf, dCall, dIx, dLook, dIsi, dIsi2, dIsC, dIn, dChn, dMut, lstOf, putO, dM1, tyOk, dNw1, dNw2, dSl, dP, dNoP, dIsN, dItQ, dItS, dRg1, dRg2, dEnum, dLc, dYes, noex, Tg.run, gSets, List.length_map, List.length_cons, List.length_nil, List.map_cons, List.map_nil, e1, g2, fewD]
  · have hc : fewT fs.length rs t = none := g1
    rw [hc]
    generalize (lotsBy fs.length fs.length).map lotD = r at e1 g2
    simp [f_few, g_few, dFun, sSeq, snext, sIf, sbind, sAsg, sRet, sSkip, sExpr, sPar, sSetI, sSetA, sAug, sFor, sTg, dVar, dC, dNil, dCons, dBind, obind, dTup, dLst, dFrz, MO.d, dReg, dFz, dOp1, dOp2, dCmp, dB2v, dTst, dAnd, dOr, dNot, dIf, dCall, dIx, dLook, dIsi, dIsi2, dIsC, dIn, dChn, dMut, lstOf, putO, dM1, tyOk, dNw1, dNw2, dSl, dP, dNoP, dIsN, dItQ, dItS, dRg1, dRg2, dEnum, dLc, dYes, noex, Tg.run, gSets, List.length_map, List.length_cons, List.length_nil, List.map_cons, List.map_nil, e1, g2, fewD]
def fewN (n : Nat) (rs : Rds) (t : Tk) : Option Nat := (fewT n rs t).map List.length
theorem fewest_ok {fs : List Str} (rs : List (Nat × Nat)) (h9 : fs.length ≤ 9) (t : Tk) {mu : Store} (hp : Pl mu) : f_fewest [webD fs rs, tkD t] mu = .ok (optD (fewN fs.length rs t)) mu := by
  have e := few_ok rs h9 t hp
  unfold fewN
  cases h : fewT fs.length rs t with
  | none =>
    rw [h] at e
    simp [f_fewest, g_fewest, dFun, sSeq, snext, sIf, sbind, sAsg, sRet, sSkip, sExpr, sPar, sSetI, sSetA, sAug, sFor, sTg, dVar, dC, dNil, dCons, dBind, obind, dTup, dLst, dFrz, MO.d, dReg, dFz, dOp1, dOp2, dCmp, dB2v, dTst, dAnd, dOr, dNot, dIf, dCall, dIx, dLook, dIsi, dIsi2, dIsC, dIn, dChn, dMut, lstOf, putO, dM1, tyOk, dNw1, dNw2, dSl, dP, dNoP, dIsN, dItQ, dItS, dRg1, dRg2, dEnum, dLc, dYes, noex, Tg.run, gSets, List.length_map, List.length_cons, List.length_nil, List.map_cons, List.map_nil, e, fewD, optD]
  | some ws =>
    rw [h] at e
    have hn : isNon (lotD ws) = false := rfl
    simp [f_fewest, g_fewest, dFun, sSeq, snext, sIf, sbind, sAsg, sRet, sSkip, sExpr, sPar, sSetI, sSetA, sAug, sFor, sTg, dVar, dC, dNil, dCons, dBind, obind, dTup, dLst, dFrz, MO.d, dReg, dFz, dOp1, dOp2, dCmp, dB2v, dTst, dAnd, dOr, dNot, dIf, dCall, dIx, dLook, dIsi, dIsi2, dIsC, dIn, dChn, dMut, lstOf, putO, dM1, tyOk, dNw1, dNw2, dSl, dP, dNoP, dIsN, dItQ, dItS, dRg1, dRg2, dEnum, dLc, dYes, noex, Tg.run, gSets, List.length_map, List.length_cons, List.length_nil, List.map_cons, List.map_nil, e, fewD, optD, hn]
/-! the gap -/
def gapsT (n : Nat) (rs : Rds) (t : Tk) (ws : List Nat) : List Nat := (prsL (lotsT n t)).map fun p => gapN (repT n rs t ws p.1) (repT n rs t ws p.2)
def gapT (n : Nat) (rs : Rds) (t : Tk) (ws : List Nat) : Option Nat := (gapsT n rs t ws).min?
theorem q_gap1 {fs : List Str} (rs : List (Nat × Nat)) (h9 : fs.length ≤ 9) (t : Tk) {ws : List Nat} (hw : ∀ i ∈ ws, i < fs.length) (hz : ws.length ≤ 1000) {mu : Store} (hp : Pl mu) :
    q_gap_1 [some (.val (webD fs rs)), some (.val (tkD t)), some (.val (lotD ws)), none, none, none, none, none] mu = .ok (.lst ((lotsT fs.length t).map (rpD fs.length rs t ws))) mu := by
  have e1 := all_lots_T rs h9 t hp
  refine lc_mapA (src := dItQ (dCall f_all_lots (dCons (dVar 0) (dCons (dVar 1) dNil)))) (g := .nm 5) (own := [5]) (elt := dCall f_report_of (dCons (dVar 0) (dCons (dVar 1) (dCons (dVar 2) (dCons (dVar 5) dNil))))) lotD (rpD fs.length rs t ws) ?_ (by have := lotsT_len h9 t; omega) (fun l hl => ?_)
  · generalize (lotsT fs.length t).map lotD = r at e1 ⊢
    simp [dFun, sSeq, snext, sIf, sbind, sAsg, sRet, sSkip, sExpr, sPar, sSetI, sSetA, sAug, sFor, sTg, dVar, dC, dNil, dCons, dBind, obind, dTup, dLst, dFrz, MO.d, dReg, dFz, dOp1, dOp2, dCmp, dB2v, dTst, dAnd, dOr, dNot, dIf, dCall, dIx, dLook, dIsi, dIsi2, dIsC, dIn, dChn, dMut, lstOf, putO, dM1, tyOk, dNw1, dNw2, dSl, dP, dNoP, dIsN, dItQ, dItS, dRg1, dRg2, dEnum, dLc, dYes, noex, Tg.run, gSets, List.length_map, List.length_cons, List.length_nil, List.map_cons, List.map_nil, e1]
  · rw [mem_lotsT] at hl
    have e2 := rep_ok rs t hw hz (asc_lt hl.1) (by have := asc_len hl.1; omega) mu
    exact ⟨_, rfl, by simp [wipeS, dFun, sSeq, snext, sIf, sbind, sAsg, sRet, sSkip, sExpr, sPar, sSetI, sSetA, sAug, sFor, sTg, dVar, dC, dNil, dCons, dBind, obind, dTup, dLst, dFrz, MO.d, dReg, dFz, dOp1, dOp2, dCmp, dB2v, dTst, dAnd, dOr, dNot, dIf, dCall, dIx, dLook, dIsi, dIsi2, dIsC, dIn, dChn, dMut, lstOf, putO, dM1, tyOk, dNw1, dNw2, dSl, dP, dNoP, dIsN, dItQ, dItS, dRg1, dRg2, dEnum, dLc, dYes, noex, Tg.run, gSets, List.length_map, List.length_cons, List.length_nil, List.map_cons, List.map_nil, e2]⟩
theorem cl_rp (k n : Nat) (rs : Rds) (t : Tk) (ws l : List Nat) : clD k (rpD n rs t ws l) = true := by
  show clL k ((repT n rs t ws l).map tvD) = true
  refine clL_of fun d hd => ?_
  obtain ⟨x, _, rfl⟩ := List.mem_map.mp hd
  exact cl_tv k x
theorem q_gap2 {fs : List Str} (rs : List (Nat × Nat)) (h9 : fs.length ≤ 9) (t : Tk) {ws : List Nat} (hz : ws.length ≤ 1000) {mu : Store} (hp : Pl mu) {a0 a1 a2 a5 : Option SV} :
    q_gap_2 [a0, a1, a2, some (.val (.lst ((lotsT fs.length t).map (rpD fs.length rs t ws)))), none, a5, none, none] mu = .ok (.lst (intsN (gapsT fs.length rs t ws))) mu := by
  have e1 : f_pairs_of [.lst ((lotsT fs.length t).map (rpD fs.length rs t ws))] mu = .ok (.lst ((prsL (lotsT fs.length t)).map fun p => .tup [rpD fs.length rs t ws p.1, rpD fs.length rs t ws p.2])) mu := by
    rw [pairs_ok5 (by rw [List.length_map]; have := lotsT_len h9 t; omega) hp (fun k => clL_of fun d hd => by
      obtain ⟨l, _, rfl⟩ := List.mem_map.mp hd
      exact cl_rp k _ _ _ _ _), prsL_map, List.map_map]
    rfl
  have hlen : (prsL (lotsT fs.length t)).length ≤ 16000000 := by
    have a := prsL_len (lotsT fs.length t)
    have b := lotsT_len h9 t
    have c : (lotsT fs.length t).length * (lotsT fs.length t).length ≤ 512 * 512 := Nat.mul_le_mul b b
    omega
  have := lc_mapA (src := dItQ (dCall f_pairs_of (dCons (dVar 3) dNil))) (g := .tp [6, 7]) (own := [6, 7]) (elt := dCall f_gap_of (dCons (dVar 6) (dCons (dVar 7) dNil))) (sl := [a0, a1, a2, some (.val (.lst ((lotsT fs.length t).map (rpD fs.length rs t ws)))), none, a5, none, none]) (mu := mu) (ls := prsL (lotsT fs.length t)) (fun p => .tup [rpD fs.length rs t ws p.1, rpD fs.length rs t ws p.2]) (fun p => .int (gapN (repT fs.length rs t ws p.1) (repT fs.length rs t ws p.2) : Int))
    (by
      generalize ((prsL (lotsT fs.length t)).map fun p : List Nat × List Nat => D.tup [rpD fs.length rs t ws p.1, rpD fs.length rs t ws p.2]) = r at e1 ⊢
      generalize (lotsT fs.length t).map (rpD fs.length rs t ws) = r' at e1 ⊢
      simp [dFun, sSeq, snext, sIf, sbind, sAsg, sRet, sSkip, sExpr, sPar, sSetI, sSetA, sAug, sFor, sTg, dVar, dC, dNil, dCons, dBind, obind, dTup, dLst, dFrz, MO.d, dReg, dFz, dOp1, dOp2, dCmp, dB2v, dTst, dAnd, dOr, dNot, dIf, dCall, dIx, dLook, dIsi, dIsi2, dIsC, dIn, dChn, dMut, lstOf, putO, dM1, tyOk, dNw1, dNw2, dSl, dP, dNoP, dIsN, dItQ, dItS, dRg1, dRg2, dEnum, dLc, dYes, noex, Tg.run, gSets, List.length_map, List.length_cons, List.length_nil, List.map_cons, List.map_nil, e1]) hlen (fun p _ => by
      have e3 := gapof_rep (fs := fs) rs t hz p.1 p.2 mu
      exact ⟨_, rfl, by simp [wipeS, dFun, sSeq, snext, sIf, sbind, sAsg, sRet, sSkip, sExpr, sPar, sSetI, sSetA, sAug, sFor, sTg, dVar, dC, dNil, dCons, dBind, obind, dTup, dLst, dFrz, MO.d, dReg, dFz, dOp1, dOp2, dCmp, dB2v, dTst, dAnd, dOr, dNot, dIf, dCall, dIx, dLook, dIsi, dIsi2, dIsC, dIn, dChn, dMut, lstOf, putO, dM1, tyOk, dNw1, dNw2, dSl, dP, dNoP, dIsN, dItQ, dItS, dRg1, dRg2, dEnum, dLc, dYes, noex, Tg.run, gSets, List.length_map, List.length_cons, List.length_nil, List.map_cons, List.map_nil, e3]⟩)
  rw [show q_gap_2 = dLc (dItQ (dCall f_pairs_of (dCons (dVar 3) dNil))) (.tp [6, 7]) [6, 7] dYes (dCall f_gap_of (dCons (dVar 6) (dCons (dVar 7) dNil))) from rfl, this]
  unfold intsN gapsT
  rw [List.map_map]
  rfl
theorem gap_ok {fs : List Str} (rs : List (Nat × Nat)) (h9 : fs.length ≤ 9) (t : Tk) {ws : List Nat} (hw : Asc fs.length ws) {mu : Store} (hp : Pl mu) : f_gap [webD fs rs, tkD t, lotD ws] mu = .ok (optD (gapT fs.length rs t ws)) mu := by
  have hz : ws.length ≤ 1000 := by have := asc_len hw; omega
  have e0 := check_ok rs hw (by omega) mu
  have e1 := q_gap1 rs h9 t (asc_lt hw) hz hp
  have e2 := q_gap2 rs h9 t hz hp (a0 := some (.val (webD fs rs))) (a1 := some (.val (tkD t))) (a2 := some (.val (lotD ws))) (a5 := none)
  have hn : lenD (.lst (intsN (gapsT fs.length rs t ws))) = some (.int ((gapsT fs.length rs t ws).length : Int)) := by
    show some (D.int _) = _
    rw [intsN_len]
  generalize (lotsT fs.length t).map (rpD fs.length rs t ws) = r at e1 e2
  unfold gapT
  cases hm : (gapsT fs.length rs t ws).min? with
  | none =>
    have h0 : gapsT fs.length rs t ws = [] := List.min?_eq_none_iff.mp hm
    rw [h0] at e2 hn
    simp [f_gap, g_gap, dFun, sSeq, snext, sIf, sbind, sAsg, sRet, sSkip, sExpr, sPar, sSetI, sSetA, sAug, sFor, sTg, dVar, dC, dNil, dCons, dBind, obind, dTup, dLst, dFrz, MO.d, dReg, dFz, dOp1, dOp2, dCmp, dB2v, dTst, dAnd, dOr, dNot, dIf, dCall, dIx, dLook, dIsi, dIsi2, dIsC, dIn, dChn, dMut, lstOf, putO, dM1, tyOk, dNw1, dNw2, dSl, dP, dNoP, dIsN, dItQ, dItS, dRg1, dRg2, dEnum, dLc, dYes, noex, Tg.run, gSets, List.length_map, List.length_cons, List.length_nil, List.map_cons, List.map_nil, e0, e1, e2, hn, gtI, cmpI, optD]
  | some a =>
    have h0 : 0 < (gapsT fs.length rs t ws).length := by
      cases hh : gapsT fs.length rs t ws with
      | nil => rw [hh] at hm; cases hm
      | cons _ _ => simp
    have hmin := minL_nat hm
    simp [f_gap, g_gap, dFun, sSeq, snext, sIf, sbind, sAsg, sRet, sSkip, sExpr, sPar, sSetI, sSetA, sAug, sFor, sTg, dVar, dC, dNil, dCons, dBind, obind, dTup, dLst, dFrz, MO.d, dReg, dFz, dOp1, dOp2, dCmp, dB2v, dTst, dAnd, dOr, dNot, dIf, dCall, dIx, dLook, dIsi, dIsi2, dIsC, dIn, dChn, dMut, lstOf, putO, dM1, tyOk, dNw1, dNw2, dSl, dP, dNoP, dIsN, dItQ, dItS, dRg1, dRg2, dEnum, dLc, dYes, noex, Tg.run, gSets, List.length_map, List.length_cons, List.length_nil, List.map_cons, List.map_nil, e0, e1, e2, hn, gtI, cmpI, optD, h0, hmin]
end DL
end

section
set_option Elab.async false
set_option linter.all false
set_option maxRecDepth 100000
set_option maxHeartbeats 4000000
namespace DL
open PySem
/-! Q7: clash, bears, spare -/
def mixD (t : Tk) : List (Tv × Tv) → Nat → Nat → List D
  | [], _, _ => []
  | (x, y) :: r, b, l => if x = y then tvD x :: mixD t r b l else if b < t.broken then .str "broken" :: mixD t r (b + 1) l else if l < t.lying then tvD x :: mixD t r b (l + 1) else tvD y :: mixD t r b l
theorem mix_len (t : Tk) : ∀ (r : List (Tv × Tv)) (b l : Nat), (mixD t r b l).length = r.length
  | [], _, _ => rfl
  | (x, y) :: r, b, l => by
    unfold mixD
    split
    · rw [List.length_cons, mix_len t r, List.length_cons]
    · split
      · rw [List.length_cons, mix_len t r, List.length_cons]
      · split <;> rw [List.length_cons, mix_len t r, List.length_cons]
theorem mix_in (t : Tk) (a1 a2 : Option SV) (mu : Store) : ∀ (r : List (Tv × Tv)) (b l : Nat) (acc : List D) (x6 x7 : Option SV), (∀ p ∈ r, p.1.isFar = p.2.isFar) → acc.length + r.length ≤ 1000 → ∃ sl',
    sForL (.tp [6, 7]) b_mixed_row_1 (r.map fun p => .tup [tvD p.1, tvD p.2]) [some (.val (tkD t)), a1, a2, some (.val (.obj mu.length)), some (.val (.int (b : Int))), some (.val (.int (l : Int))), x6, x7] (mu ++ [some (.lst acc)]) =
      .nx sl' (mu ++ [some (.lst (acc ++ mixD t r b l))]) ∧ sl'[3]? = some (some (.val (.obj mu.length)))
  | [], b, l, acc, x6, x7, _, _ => ⟨_, by simp [sForL, mixD]; rfl, rfl⟩
  | (x, y) :: r, b, l, acc, x6, x7, h, hz => by
    rw [List.length_cons] at hz
    have hk := eq_tv (h (x, y) List.mem_cons_self)
    have h' := fun p hp => h p (List.mem_cons_of_mem _ hp)
    have ha : acc.length < 16000000 := by omega
    have hl : ∀ d : D, (acc ++ [d]).length + r.length ≤ 1000 := fun d => by rw [List.length_append]; simp; omega
    by_cases hxy : x = y
    · obtain ⟨sl', e, e'⟩ := mix_in t a1 a2 mu r b l (acc ++ [tvD x]) (some (.val (tvD x))) (some (.val (tvD y))) h' (hl _)
      refine ⟨sl', ?_, e'⟩
      rw [show mixD t ((x, y) :: r) b l = tvD x :: mixD t r b l by rw [mixD, if_pos hxy], show acc ++ tvD x :: mixD t r b l = acc ++ [tvD x] ++ mixD t r b l by simp, ← e]
      conv => lhs; rw [List.map_cons]; unfold sForL
      rw [decide_eq_true hxy] at hk
      simp [b_mixed_row_1, dFun, sSeq, snext, sIf, sbind, sAsg, sRet, sSkip, sExpr, sPar, sSetI, sSetA, sAug, sFor, sTg, dVar, dC, dNil, dCons, dBind, obind, dTup, dLst, dFrz, MO.d, dReg, dFz, dOp1, dOp2, dCmp, dB2v, dTst, dAnd, dOr, dNot, dIf, dCall, dIx, dLook, dIsi, dIsi2, dIsC, dIn, dChn, dMut, lstOf, putO, dM1, tyOk, dNw1, dNw2, dSl, dP, dNoP, dIsN, dItQ, dItS, dRg1, dRg2, dEnum, dLc, dYes, noex, Tg.run, gSets, List.length_map, List.length_cons, List.length_nil, List.map_cons, List.map_nil, hk, appD, ha]
    · by_cases hb : b < t.broken
      · obtain ⟨sl', e, e'⟩ := mix_in t a1 a2 mu r (b + 1) l (acc ++ [.str "broken"]) (some (.val (tvD x))) (some (.val (tvD y))) h' (hl _)
        refine ⟨sl', ?_, e'⟩
        rw [show mixD t ((x, y) :: r) b l = .str "broken" :: mixD t r (b + 1) l by rw [mixD, if_neg hxy, if_pos hb], show acc ++ D.str "broken" :: mixD t r (b + 1) l = acc ++ [.str "broken"] ++ mixD t r (b + 1) l by simp, ← e]
        conv => lhs; rw [List.map_cons]; unfold sForL
        rw [decide_eq_false hxy] at hk
        simp [b_mixed_row_1, dFun, sSeq, snext, sIf, sbind, sAsg, sRet, sSkip, sExpr, sPar, sSetI, sSetA, sAug, sFor, sTg, dVar, dC, dNil, dCons, dBind, obind, dTup, dLst, dFrz, MO.d, dReg, dFz, dOp1, dOp2, dCmp, dB2v, dTst, dAnd, dOr, dNot, dIf, dCall, dIx, dLook, dIsi, dIsi2, dIsC, dIn, dChn, dMut, lstOf, putO, dM1, tyOk, dNw1, dNw2, dSl, dP, dNoP, dIsN, dItQ, dItS, dRg1, dRg2, dEnum, dLc, dYes, noex, Tg.run, gSets, List.length_map, List.length_cons, List.length_nil, List.map_cons, List.map_nil, hk, appD, ha, ltD, hb]
      · by_cases hl2 : l < t.lying
        · obtain ⟨sl', e, e'⟩ := mix_in t a1 a2 mu r b (l + 1) (acc ++ [tvD x]) (some (.val (tvD x))) (some (.val (tvD y))) h' (hl _)
          refine ⟨sl', ?_, e'⟩
          rw [show mixD t ((x, y) :: r) b l = tvD x :: mixD t r b (l + 1) by rw [mixD, if_neg hxy, if_neg hb, if_pos hl2], show acc ++ tvD x :: mixD t r b (l + 1) = acc ++ [tvD x] ++ mixD t r b (l + 1) by simp, ← e]
          conv => lhs; rw [List.map_cons]; unfold sForL
          rw [decide_eq_false hxy] at hk
          simp [b_mixed_row_1, dFun, sSeq, snext, sIf, sbind, sAsg, sRet, sSkip, sExpr, sPar, sSetI, sSetA, sAug, sFor, sTg, dVar, dC, dNil, dCons, dBind, obind, dTup, dLst, dFrz, MO.d, dReg, dFz, dOp1, dOp2, dCmp, dB2v, dTst, dAnd, dOr, dNot, dIf, dCall, dIx, dLook, dIsi, dIsi2, dIsC, dIn, dChn, dMut, lstOf, putO, dM1, tyOk, dNw1, dNw2, dSl, dP, dNoP, dIsN, dItQ, dItS, dRg1, dRg2, dEnum, dLc, dYes, noex, Tg.run, gSets, List.length_map, List.length_cons, List.length_nil, List.map_cons, List.map_nil, hk, appD, ha, ltD, hb, hl2]
        · obtain ⟨sl', e, e'⟩ := mix_in t a1 a2 mu r b l (acc ++ [tvD y]) (some (.val (tvD x))) (some (.val (tvD y))) h' (hl _)
          refine ⟨sl', ?_, e'⟩
          rw [show mixD t ((x, y) :: r) b l = tvD y :: mixD t r b l by rw [mixD, if_neg hxy, if_neg hb, if_neg hl2], show acc ++ tvD y :: mixD t r b l = acc ++ [tvD y] ++ mixD t r b l by simp, ← e]
          conv => lhs; rw [List.map_cons]; unfold sForL
          rw [decide_eq_false hxy] at hk
          simp [b_mixed_row_1, dFun, sSeq, snext, sIf, sbind, sAsg, sRet, sSkip, sExpr, sPar, sSetI, sSetA, sAug, sFor, sTg, dVar, dC, dNil, dCons, dBind, obind, dTup, dLst, dFrz, MO.d, dReg, dFz, dOp1, dOp2, dCmp, dB2v, dTst, dAnd, dOr, dNot, dIf, dCall, dIx, dLook, dIsi, dIsi2, dIsC, dIn, dChn, dMut, lstOf, putO, dM1, tyOk, dNw1, dNw2, dSl, dP, dNoP, dIsN, dItQ, dItS, dRg1, dRg2, dEnum, dLc, dYes, noex, Tg.run, gSets, List.length_map, List.length_cons, List.length_nil, List.map_cons, List.map_nil, hk, appD, ha, ltD, hb, hl2]
theorem mixD_cl (n : Nat) (t : Tk) : ∀ (r : List (Tv × Tv)) (b l : Nat), clL n (mixD t r b l) = true
  | [], _, _ => rfl
  | (x, y) :: r, b, l => by
    unfold mixD
    have hc : ∀ d ds, clD n d = true → clL n ds = true → clL n (d :: ds) = true := fun d ds h1 h2 => by
      show (clD n d && clL n ds) = true
      rw [h1, h2]
      rfl
    split
    · exact hc _ _ (cl_tv n x) (mixD_cl n t r b l)
    · split
      · exact hc _ _ rfl (mixD_cl n t r (b + 1) l)
      · split
        · exact hc _ _ (cl_tv n x) (mixD_cl n t r b (l + 1))
        · exact hc _ _ (cl_tv n y) (mixD_cl n t r b l)
theorem mixed_row_ok (t : Tk) {a b : List Tv} {f : Bool} (ha : AllK f a) (hb : AllK f b) (hz : a.length ≤ 1000) {mu : Store} (hp : Pl mu) : f_mixed_row [tkD t, .tup (a.map tvD), .tup (b.map tvD)] mu = .ok (.tup (mixD t (a.zip b) 0 0)) mu := by
  obtain ⟨sl', e, e3⟩ := mix_in t (some (.val (.tup (a.map tvD)))) (some (.val (.tup (b.map tvD)))) mu (a.zip b) 0 0 [] none none (fun p hp => (ha p.1 (List.of_mem_zip hp).1).trans (hb p.2 (List.of_mem_zip hp).2).symm) (by rw [List.length_zip]; simp; omega)
  have hzip := zipD_map tvD tvD a b
  rw [List.nil_append] at e
  have g0 : (mu ++ [some (MO.lst (mixD t (a.zip b) 0 0))])[mu.length]? = some (some (.lst (mixD t (a.zip b) 0 0))) := by simp
  have hc : ∀ n, clD n (.tup (mixD t (a.zip b) 0 0)) = true := fun n => mixD_cl n t (a.zip b) 0 0
  have key : dFun 8 g_mixed_row [tkD t, .tup (a.map tvD), .tup (b.map tvD)] mu = .ok (.tup (mixD t (a.zip b) 0 0)) (mu ++ [some (.lst (mixD t (a.zip b) 0 0))]) := by
    generalize mixD t (a.zip b) 0 0 = r at e g0 ⊢
    generalize ((a.zip b).map fun p : Tv × Tv => D.tup [tvD p.1, tvD p.2]) = r1 at e hzip
    generalize a.map tvD = la at e hzip ⊢
    generalize b.map tvD = lb at e hzip ⊢
    have e' : sForL (.tp [6, 7]) b_mixed_row_1 r1 [some (.val (tkD t)), some (.val (.tup la)), some (.val (.tup lb)), some (.val (.obj mu.length)), some (.val (.int 0)), some (.val (.int 0)), none, none] (mu ++ [some (.lst [])]) = .nx sl' (mu ++ [some (.lst r)]) := e
    simp [g_mixed_row, dZip, dFun, sSeq, snext, sIf, sbind, sAsg, sRet, sSkip, sExpr, sPar, sSetI, sSetA, sAug, sFor, sTg, dVar, dC, dNil, dCons, dBind, obind, dTup, dLst, dFrz, MO.d, dReg, dFz, dOp1, dOp2, dCmp, dB2v, dTst, dAnd, dOr, dNot, dIf, dCall, dIx, dLook, lookD, dIsi, dIsi2, dIsC, dIn, dChn, dMut, lstOf, putO, dM1, tyOk, dNw1, dNw2, dSl, dP, dNoP, dIsN, dItQ, dItS, dRg1, dRg2, dEnum, dLc, dYes, noex, Tg.run, gSets, List.length_map, List.length_cons, List.length_nil, List.map_cons, List.map_nil, hzip, e', e3, g0, tupleD]
  exact gc_of key (take_app _ _) hp hc
def clashD (n : Nat) (rs : Rds) (t : Tk) (ws : List Nat) : D := match closeP n rs t ws with
  | none => .non
  | some p => .tup [lotD p.1, lotD p.2, .tup (mixD t ((repT n rs t ws p.1).zip (repT n rs t ws p.2)) 0 0)]
theorem clash_ok {fs : List Str} (rs : List (Nat × Nat)) (h9 : fs.length ≤ 9) (t : Tk) {ws : List Nat} (hw : Asc fs.length ws) {mu : Store} (hp : Pl mu) : f_clash [webD fs rs, tkD t, lotD ws] mu = .ok (clashD fs.length rs t ws) mu := by
  have hz : ws.length ≤ 1000 := by have := asc_len hw; omega
  have e0 := check_ok rs hw (by omega) mu
  have e1 := close_ok rs h9 t (asc_lt hw) hz hp
  unfold clashD
  cases hc : closeP fs.length rs t ws with
  | none =>
    rw [hc] at e1
    simp [f_clash, g_clash, dFun, sSeq, snext, sIf, sbind, sAsg, sRet, sSkip, sExpr, sPar, sSetI, sSetA, sAug, sFor, sTg, dVar, dC, dNil, dCons, dBind, obind, dTup, dLst, dFrz, MO.d, dReg, dFz, dOp1, dOp2, dCmp, dB2v, dTst, dAnd, dOr, dNot, dIf, dCall, dIx, dLook, dIsi, dIsi2, dIsC, dIn, dChn, dMut, lstOf, putO, dM1, tyOk, dNw1, dNw2, dSl, dP, dNoP, dIsN, dItQ, dItS, dRg1, dRg2, dEnum, dLc, dYes, noex, Tg.run, gSets, List.length_map, List.length_cons, List.length_nil, List.map_cons, List.map_nil, e0, e1, closeD]
  | some p =>
    rw [hc] at e1
    obtain ⟨m1, m2⟩ := prsL_mem (List.mem_of_find?_eq_some hc)
    rw [mem_lotsT] at m1 m2
    have r1 := rep_ok rs t (asc_lt hw) hz (asc_lt m1.1) (by have := asc_len m1.1; omega) mu
    have r2 := rep_ok rs t (asc_lt hw) hz (asc_lt m2.1) (by have := asc_len m2.1; omega) mu
    have e2 : q_clash_1 [some (.val (webD fs rs)), some (.val (tkD t)), some (.val (lotD ws)), some (.val (.tup [lotD p.1, lotD p.2])), none, none] mu = .ok (.lst [rpD fs.length rs t ws p.1, rpD fs.length rs t ws p.2]) mu :=
      lc_mapA (src := dItQ (dVar 3)) (g := .nm 5) (own := [5]) (elt := dCall f_report_of (dCons (dVar 0) (dCons (dVar 1) (dCons (dVar 2) (dCons (dVar 5) dNil))))) (ls := [p.1, p.2]) lotD (rpD fs.length rs t ws) rfl (by show 2 ≤ _; omega) (fun l hl => by
        have hl' : l = p.1 ∨ l = p.2 := by simpa using hl
        rcases hl' with rfl | rfl
        · exact ⟨_, rfl, by simp [wipeS, dFun, sSeq, snext, sIf, sbind, sAsg, sRet, sSkip, sExpr, sPar, sSetI, sSetA, sAug, sFor, sTg, dVar, dC, dNil, dCons, dBind, obind, dTup, dLst, dFrz, MO.d, dReg, dFz, dOp1, dOp2, dCmp, dB2v, dTst, dAnd, dOr, dNot, dIf, dCall, dIx, dLook, dIsi, dIsi2, dIsC, dIn, dChn, dMut, lstOf, putO, dM1, tyOk, dNw1, dNw2, dSl, dP, dNoP, dIsN, dItQ, dItS, dRg1, dRg2, dEnum, dLc, dYes, noex, Tg.run, gSets, List.length_map, List.length_cons, List.length_nil, List.map_cons, List.map_nil, r1]⟩
        · exact ⟨_, rfl, by simp [wipeS, dFun, sSeq, snext, sIf, sbind, sAsg, sRet, sSkip, sExpr, sPar, sSetI, sSetA, sAug, sFor, sTg, dVar, dC, dNil, dCons, dBind, obind, dTup, dLst, dFrz, MO.d, dReg, dFz, dOp1, dOp2, dCmp, dB2v, dTst, dAnd, dOr, dNot, dIf, dCall, dIx, dLook, dIsi, dIsi2, dIsC, dIn, dChn, dMut, lstOf, putO, dM1, tyOk, dNw1, dNw2, dSl, dP, dNoP, dIsN, dItQ, dItS, dRg1, dRg2, dEnum, dLc, dYes, noex, Tg.run, gSets, List.length_map, List.length_cons, List.length_nil, List.map_cons, List.map_nil, r2]⟩)
    have e3 : f_mixed_row [tkD t, rpD fs.length rs t ws p.1, rpD fs.length rs t ws p.2] mu = _ := mixed_row_ok t (rep_kind _ _ _ _ _) (rep_kind _ _ _ _ _) (by unfold repT; rw [List.length_map]; exact hz) hp
    have i0 : ∀ a b : D, ixD (.lst [a, b]) (.int 0) = some a := fun _ _ => rfl
    have i1 : ∀ a b : D, ixD (.lst [a, b]) (.int 1) = some b := fun _ _ => rfl
    have hs : ∀ a b c : D, sizeOk [a, b, c] = true := fun _ _ _ => rfl
    have hq : ∀ a b : D, seqL (.tup [a, b]) = some [a, b] := fun _ _ => rfl
    generalize rpD fs.length rs t ws p.1 = ra at e2 e3
    generalize rpD fs.length rs t ws p.2 = rb at e2 e3
    simp [f_clash, g_clash, dFun, sSeq, snext, sIf, sbind, sAsg, sRet, sSkip, sExpr, sPar, sSetI, sSetA, sAug, sFor, sTg, dVar, dC, dNil, dCons, dBind, obind, dTup, dLst, dFrz, MO.d, dReg, dFz, dOp1, dOp2, dCmp, dB2v, dTst, dAnd, dOr, dNot, dIf, dCall, dIx, dLook, dIsi, dIsi2, dIsC, dIn, dChn, dMut, lstOf, putO, dM1, tyOk, dNw1, dNw2, dSl, dP, dNoP, dIsN, dItQ, dItS, dRg1, dRg2, dEnum, dLc, dYes, noex, Tg.run, gSets, List.length_map, List.length_cons, List.length_nil, List.map_cons, List.map_nil, e0, e1, closeD, e2, e3, i0, i1, dTupS, dStar, hs, hq]
theorem nn_clash (n : Nat) (rs : Rds) (t : Tk) (ws : List Nat) : isNon (clashD n rs t ws) = (closeP n rs t ws).isNone := by
  unfold clashD
  cases closeP n rs t ws <;> rfl
/-! bears -/
def BS (mu : Store) (acc : List D) (k : Nat) : Store := mu ++ (some (.lst acc) :: List.replicate k none)
theorem bs_get (mu : Store) (acc : List D) (k : Nat) : (BS mu acc k)[mu.length]? = some (some (.lst acc)) := by unfold BS; simp
theorem bs_set (mu : Store) (acc acc' : List D) (k : Nat) : (BS mu acc k).set mu.length (some (.lst acc')) = BS mu acc' k := by unfold BS; simp
theorem bs_new (mu : Store) (acc : List D) (k : Nat) (m : MO) : (BS mu acc k ++ [some m]).set (BS mu acc k).length none = BS mu acc (k + 1) := by
  rw [List.set_append_right _ _ (Nat.le_refl _), Nat.sub_self]
  unfold BS
  rw [List.replicate_succ']
  simp
theorem bs_newg (mu : Store) (acc : List D) (k : Nat) (m : MO) : (BS mu acc k ++ [some m])[(BS mu acc k).length]? = some (some m) := by simp
def intP (p : Nat × Nat) : D := .tup [.int (p.1 : Int), .int (p.2 : Int)]
def okBL (g : Option Nat) (b l : Nat) : Bool := match g with
  | none => true
  | some g => decide (b + 2 * l < g)
def bear1 (g : Option Nat) (b : Nat) (ls : List Nat) : List (Nat × Nat) := (ls.filter (okBL g b)).map fun l => (b, l)
def bearsL (g : Option Nat) : List (Nat × Nat) := (List.range 4).flatMap fun b => bear1 g b (List.range 4)
def BSl (fs : List Str) (rs : Rds) (t : Tk) (mu : Store) (a2 : Option SV) (g : Option Nat) (x5 x6 x7 : Option SV) : Sl := [some (.val (webD fs rs)), some (.val (tkD t)), a2, some (.val (optD g)), some (.val (.obj mu.length)), x5, x6, x7]
theorem bear_in {fs : List Str} {rs : Rds} {t : Tk} (ht : t.Ok) (mu : Store) (a2 : Option SV) (g : Option Nat) {b : Nat} (hb : b ≤ 3) : ∀ (ls : List Nat) (acc : List D) (k : Nat) (x6 x7 : Option SV), (∀ l ∈ ls, l ≤ 3) → acc.length + ls.length ≤ 1000 → ∃ k' y6 y7,
    sForL (.nm 6) b_bears_1 (intsN ls) (BSl fs rs t mu a2 g (some (.val (.int (b : Int)))) x6 x7) (BS mu acc k) = .nx (BSl fs rs t mu a2 g (some (.val (.int (b : Int)))) y6 y7) (BS mu (acc ++ (bear1 g b ls).map intP) k')
  | [], acc, k, x6, x7, _, _ => ⟨k, x6, x7, by simp [sForL, bear1, intsN]⟩
  | l :: ls, acc, k, x6, x7, h, hz => by
    rw [List.length_cons] at hz
    have hl := h l List.mem_cons_self
    have h' := fun y hy => h y (List.mem_cons_of_mem _ hy)
    have hok : (Tk.mk t.far t.reach t.fires b l).Ok := ⟨ht.reach, ht.fires0, ht.fires, hb, hl⟩
    have ei := task_init hok (BS mu acc k)
    have eb := bound_ok (Tk.mk t.far t.reach t.fires b l) (BS mu acc (k + 1))
    have g0 := bs_newg mu acc k (.ins 2 (tkF (Tk.mk t.far t.reach t.fires b l)))
    have s0 := bs_new mu acc k (.ins 2 (tkF (Tk.mk t.far t.reach t.fires b l)))
    have g1 := bs_get mu acc (k + 1)
    have s1 := bs_set mu acc (acc ++ [intP (b, l)]) (k + 1)
    have ha : acc.length < 16000000 := by omega
    have hstep : ∀ x6 x7, b_bears_1 ((BSl fs rs t mu a2 g (some (.val (.int (b : Int)))) x6 x7).set 6 (some (.val (.int (l : Int))))) (BS mu acc k) = .nx (BSl fs rs t mu a2 g (some (.val (.int (b : Int)))) (some (.val (.int (l : Int)))) (some (.val (tkD (Tk.mk t.far t.reach t.fires b l))))) (BS mu (if okBL g b l then acc ++ [intP (b, l)] else acc) (k + 1)) := by
      intro x6 x7
      have ei' : f_Task_init [.obj (BS mu acc k).length, .str (kindS t.far), .int (t.reach : Int), .int (t.fires : Int), .int (b : Int), .int (l : Int)] (BS mu acc k ++ [some (.ins 2 [])]) = _ := ei
      have htk : D.ins 2 (tkF (Tk.mk t.far t.reach t.fires b l)) = tkD (Tk.mk t.far t.reach t.fires b l) := rfl
      generalize hT : Tk.mk t.far t.reach t.fires b l = T at ei' eb g0 s0 htk
      have hB : boundN T = b + 2 * l := by rw [← hT]; rfl
      cases g with
      | none =>
        rw [show (if okBL none b l then acc ++ [intP (b, l)] else acc) = acc ++ [intP (b, l)] from rfl]
        have e4 : D.tup [D.int (b : Int), D.int (l : Int)] = intP (b, l) := rfl
        simp [b_bears_1, BSl, dFun, sSeq, snext, sIf, sbind, sAsg, sRet, sSkip, sExpr, sPar, sSetI, sSetA, sAug, sFor, sTg, dVar, dC, dNil, dCons, dBind, obind, dTup, dLst, dFrz, MO.d, dReg, dFz, dOp1, dOp2, dCmp, dB2v, dTst, dAnd, dOr, dNot, dIf, dCall, dIx, dLook, dIsi, dIsi2, dIsC, dIn, dChn, dMut, lstOf, putO, dM1, tyOk, dNw1, dNw2, dSl, dP, dNoP, dIsN, dItQ, dItS, dRg1, dRg2, dEnum, dLc, dYes, noex, Tg.run, gSets, List.length_map, List.length_cons, List.length_nil, List.map_cons, List.map_nil, dFz, dMake, ei', g0, s0, htk, optD, g1, appD, ha, e4, s1]
      | some g =>
        by_cases hg : b + 2 * l < g
        · rw [show (if okBL (some g) b l then acc ++ [intP (b, l)] else acc) = acc ++ [intP (b, l)] by rw [if_pos (show okBL (some g) b l = true from decide_eq_true hg)]]
          have e4 : D.tup [D.int (b : Int), D.int (l : Int)] = intP (b, l) := rfl
          have hg' : gtI (.int (g : Int)) (.int (boundN T : Int)) = some true := by
            show some (decide _) = _
            rw [decide_eq_true (by omega)]
          simp [b_bears_1, BSl, dFun, sSeq, snext, sIf, sbind, sAsg, sRet, sSkip, sExpr, sPar, sSetI, sSetA, sAug, sFor, sTg, dVar, dC, dNil, dCons, dBind, obind, dTup, dLst, dFrz, MO.d, dReg, dFz, dOp1, dOp2, dCmp, dB2v, dTst, dAnd, dOr, dNot, dIf, dCall, dIx, dLook, dIsi, dIsi2, dIsC, dIn, dChn, dMut, lstOf, putO, dM1, tyOk, dNw1, dNw2, dSl, dP, dNoP, dIsN, dItQ, dItS, dRg1, dRg2, dEnum, dLc, dYes, noex, Tg.run, gSets, List.length_map, List.length_cons, List.length_nil, List.map_cons, List.map_nil, dFz, dMake, ei', g0, s0, htk, optD, g1, appD, ha, e4, s1, eb, hg']
        · rw [show (if okBL (some g) b l then acc ++ [intP (b, l)] else acc) = acc by rw [if_neg (by simpa [okBL] using hg)]]
          have hg' : gtI (.int (g : Int)) (.int (boundN T : Int)) = some false := by
            show some (decide _) = _
            rw [decide_eq_false (by omega)]
          simp [b_bears_1, BSl, dFun, sSeq, snext, sIf, sbind, sAsg, sRet, sSkip, sExpr, sPar, sSetI, sSetA, sAug, sFor, sTg, dVar, dC, dNil, dCons, dBind, obind, dTup, dLst, dFrz, MO.d, dReg, dFz, dOp1, dOp2, dCmp, dB2v, dTst, dAnd, dOr, dNot, dIf, dCall, dIx, dLook, dIsi, dIsi2, dIsC, dIn, dChn, dMut, lstOf, putO, dM1, tyOk, dNw1, dNw2, dSl, dP, dNoP, dIsN, dItQ, dItS, dRg1, dRg2, dEnum, dLc, dYes, noex, Tg.run, gSets, List.length_map, List.length_cons, List.length_nil, List.map_cons, List.map_nil, dFz, dMake, ei', g0, s0, htk, optD, g1, appD, ha, eb, hg']
    obtain ⟨k', y6, y7, e⟩ := bear_in (fs := fs) (rs := rs) ht mu a2 g hb ls (if okBL g b l then acc ++ [intP (b, l)] else acc) (k + 1) (some (.val (.int (l : Int)))) (some (.val (tkD (Tk.mk t.far t.reach t.fires b l)))) h' (by by_cases hbl : okBL g b l = true <;> simp [hbl] <;> omega)
    refine ⟨k', y6, y7, ?_⟩
    have hacc : acc ++ (bear1 g b (l :: ls)).map intP = (if okBL g b l then acc ++ [intP (b, l)] else acc) ++ (bear1 g b ls).map intP := by
      unfold bear1
      rw [List.filter_cons]
      split
      · simp
      · rfl
    rw [hacc, ← e]
    conv => lhs; rw [show intsN (l :: ls) = .int (l : Int) :: intsN ls from rfl]; unfold sForL
    rw [show (Tg.nm 6).run (.int (l : Int)) (BSl fs rs t mu a2 g (some (.val (.int (b : Int)))) x6 x7) = some ((BSl fs rs t mu a2 g (some (.val (.int (b : Int)))) x6 x7).set 6 (some (.val (.int (l : Int))))) from rfl]
    dsimp only
    rw [hstep]
theorem bear_out {fs : List Str} {rs : Rds} {t : Tk} (ht : t.Ok) (mu : Store) (a2 : Option SV) (g : Option Nat) : ∀ (bs : List Nat) (acc : List D) (k : Nat) (x5 x6 x7 : Option SV), (∀ b ∈ bs, b ≤ 3) → acc.length + 4 * bs.length ≤ 900 → ∃ k' y5 y6 y7,
    sForL (.nm 5) b_bears_2 (intsN bs) (BSl fs rs t mu a2 g x5 x6 x7) (BS mu acc k) = .nx (BSl fs rs t mu a2 g y5 y6 y7) (BS mu (acc ++ (bs.flatMap fun b => bear1 g b (List.range 4)).map intP) k')
  | [], acc, k, x5, x6, x7, _, _ => ⟨k, x5, x6, x7, by simp [sForL, intsN]⟩
  | b :: bs, acc, k, x5, x6, x7, h, hz => by
    rw [List.length_cons] at hz
    have h' := fun y hy => h y (List.mem_cons_of_mem _ hy)
    obtain ⟨k1, z6, z7, e1⟩ := bear_in (fs := fs) (rs := rs) ht mu a2 g (h b List.mem_cons_self) (List.range 4) acc k x6 x7 (fun l hl => by rw [List.mem_range] at hl; omega) (by simp; omega)
    have hl4 : (bear1 g b (List.range 4)).length ≤ 4 := by
      unfold bear1
      rw [List.length_map]
      exact List.length_filter_le _ _
    obtain ⟨k', y5, y6, y7, e⟩ := bear_out (fs := fs) (rs := rs) ht mu a2 g bs (acc ++ (bear1 g b (List.range 4)).map intP) k1 (some (.val (.int (b : Int)))) z6 z7 h' (by rw [List.length_append, List.length_map]; omega)
    refine ⟨k', y5, y6, y7, ?_⟩
    rw [List.flatMap_cons, List.map_append, ← List.append_assoc, ← e]
    conv => lhs; rw [show intsN (b :: bs) = .int (b : Int) :: intsN bs from rfl]; unfold sForL
    have hb : b_bears_2 ((BSl fs rs t mu a2 g x5 x6 x7).set 5 (some (.val (.int (b : Int))))) (BS mu acc k) = .nx (BSl fs rs t mu a2 g (some (.val (.int (b : Int)))) z6 z7) (BS mu (acc ++ (bear1 g b (List.range 4)).map intP) k1) := by
      have hr : rangeD 0 4 = intsN (List.range 4) := rfl
      rw [← hr] at e1
      have e1' : sForL (.nm 6) b_bears_1 (rangeD 0 4) ((BSl fs rs t mu a2 g x5 x6 x7).set 5 (some (.val (.int (b : Int))))) (BS mu acc k) = _ := e1
      unfold b_bears_2 sFor
      rw [ev_rg1 (j := 4) (m1 := BS mu acc k) rfl rfl]
      exact e1'
    rw [show (Tg.nm 5).run (.int (b : Int)) (BSl fs rs t mu a2 g x5 x6 x7) = some ((BSl fs rs t mu a2 g x5 x6 x7).set 5 (some (.val (.int (b : Int))))) from rfl]
    dsimp only
    rw [hb]
theorem bears_ok {fs : List Str} (rs : List (Nat × Nat)) (h9 : fs.length ≤ 9) {t : Tk} (ht : t.Ok) {ws : List Nat} (hw : Asc fs.length ws) {mu : Store} (hp : Pl mu) : f_bears [webD fs rs, tkD t, lotD ws] mu = .ok (.tup ((bearsL (gapT fs.length rs t ws)).map intP)) mu := by
  have e0 := gap_ok rs h9 t hw hp
  obtain ⟨k', y5, y6, y7, e⟩ := bear_out (fs := fs) (rs := rs) ht mu (some (.val (lotD ws))) (gapT fs.length rs t ws) (List.range 4) [] 0 none none none (fun l hl => by rw [List.mem_range] at hl; omega) (by simp)
  generalize gapT fs.length rs t ws = g at e e0 ⊢
  have e' : sForL (.nm 5) b_bears_2 (rangeD 0 4) [some (.val (webD fs rs)), some (.val (tkD t)), some (.val (lotD ws)), some (.val (optD g)), some (.val (.obj mu.length)), none, none, none] (mu ++ [some (.lst [])]) = .nx (BSl fs rs t mu (some (.val (lotD ws))) g y5 y6 y7) (BS mu ((bearsL g).map intP) k') := e
  have g0 := bs_get mu ((bearsL g).map intP) k'
  have hr : ∀ sl mu, dRg1 (dOp2 addD (dC (.int 3)) (dC (.int 1))) sl mu = .ok (rangeD 0 4) mu := fun _ _ => rfl
  have hc : ∀ n, clD n (.tup ((bearsL g).map intP)) = true := fun n => clL_of fun d hd => by
    obtain ⟨p, _, rfl⟩ := List.mem_map.mp hd
    rfl
  have key : dFun 8 g_bears [webD fs rs, tkD t, lotD ws] mu = .ok (.tup ((bearsL g).map intP)) (BS mu ((bearsL g).map intP) k') := by
    generalize (bearsL g).map intP = r at e' g0 ⊢
    have g4 : (BSl fs rs t mu (some (.val (lotD ws))) g y5 y6 y7)[4]? = some (some (.val (.obj mu.length))) := rfl
    have el : ∀ S : Store, S[mu.length]? = some (some (.lst r)) → lookD S (.obj mu.length) = .lst r := fun S h => by unfold lookD; simp [h]; rfl
    have g0' := el _ g0
    simp [g_bears, dFun, sSeq, sAsg, dCall, dBind, obind, sbind, snext, dCons, dNil, dVar, e0, dReg, dLst, sFor, hr, e', sRet, dOp1, dLook, g4, g0', tupleD]
  refine gc_of key ?_ hp hc
  unfold BS
  simp
/-! spare -/
def spareT (n : Nat) (rs : Rds) (t : Tk) (ws : List Nat) : List Nat := ws.filter fun w => (closeP n rs t (ws.erase w)).isNone
theorem spare_in {fs : List Str} (rs : List (Nat × Nat)) (h9 : fs.length ≤ 9) (t : Tk) {ws : List Nat} (hw : Asc fs.length ws) {mu : Store} (hp : Pl mu) : ∀ (rest pre acc : List Nat) (x4 x5 : Option SV), pre ++ rest = ws → acc.length + rest.length ≤ 1000 → ∃ y4 y5,
    sForL (.tp [4, 5]) b_spare_1 (numD pre.length (intsN rest)) [some (.val (webD fs rs)), some (.val (tkD t)), some (.val (lotD ws)), some (.val (.obj mu.length)), x4, x5] (mu ++ [some (.lst (intsN acc))]) =
      .nx [some (.val (webD fs rs)), some (.val (tkD t)), some (.val (lotD ws)), some (.val (.obj mu.length)), y4, y5] (mu ++ [some (.lst (intsN (acc ++ rest.filter fun w => (closeP fs.length rs t (ws.erase w)).isNone)))])
  | [], pre, acc, x4, x5, _, _ => ⟨x4, x5, by simp [numD, sForL, intsN]⟩
  | w :: rest, pre, acc, x4, x5, h, hz => by
    rw [List.length_cons] at hz
    have hnd : ws.Nodup := hw.pw.imp (fun h => Nat.ne_of_lt h)
    have hwp : w ∉ pre := by
      rw [← h] at hnd
      intro hm
      exact (List.nodup_append.mp hnd).2.2 w hm w List.mem_cons_self rfl
    have her : ws.erase w = pre ++ rest := by
      rw [← h, List.erase_append_right _ hwp, List.erase_cons_head]
    have hlt : ∀ i ∈ ws.erase w, i < fs.length := fun i hi => hw.lt i (List.mem_of_mem_erase hi)
    have hwl := asc_len hw
    have e1 := close_ok rs h9 t hlt (by have := List.length_erase_le (a := w) (l := ws); omega) (mu := mu ++ [some (.lst (intsN acc))]) (pl_app hp fun n => by
      show (clL n (intsN acc) && true) = true
      rw [cl_intsN]
      rfl)
    have hsz : ws.length = pre.length + (rest.length + 1) := by rw [← h]; simp
    have hs1 : sliceD (lotD ws) none (some (pre.length : Int)) = some (lotD pre) := by
      show some (D.tup (cutG (intsN ws) none (some (pre.length : Int)))) = _
      rw [cut_to (by rw [intsN_len]; omega), ← h]
      unfold lotD intsN
      simp
    have hs2 : sliceD (lotD ws) (some ((pre.length : Int) + 1)) none = some (lotD rest) := by
      show some (D.tup (cutG (intsN ws) (some ((pre.length + 1 : Nat) : Int)) none)) = _
      rw [cut_from (by rw [intsN_len]; omega), ← h]
      unfold lotD intsN
      rw [List.map_append, List.map_cons, show pre.length + 1 = (pre.map fun (i : Nat) => D.int (i : Int)).length + 1 by rw [List.length_map], ← List.drop_drop, List.drop_left]
      rfl
    have hq : ∀ l, seqL (lotD l) = some (intsN l) := fun _ => rfl
    have hso : sizeOk (intsN pre ++ intsN rest) = true := decide_eq_true (by rw [List.length_append, intsN_len, intsN_len]; omega)
    have hjoin : D.tup (intsN pre ++ intsN rest) = lotD (ws.erase w) := by
      rw [her]
      unfold lotD intsN
      simp
    have ha : acc.length < 16000000 := by omega
    have hia : intsN acc ++ [.int (w : Int)] = intsN (acc ++ [w]) := by unfold intsN; simp
    have hil := intsN_len acc
    cases hc : (closeP fs.length rs t (ws.erase w)).isNone with
    | true =>
      obtain ⟨y4, y5, e⟩ := spare_in rs h9 t hw hp rest (pre ++ [w]) (acc ++ [w]) (some (.val (.int (pre.length : Int)))) (some (.val (.int (w : Int)))) (by rw [List.append_assoc]; exact h) (by rw [List.length_append]; simp; omega)
      refine ⟨y4, y5, ?_⟩
      rw [List.filter_cons_of_pos (by exact hc), List.append_cons (as := acc) (b := w), ← e, List.length_append]
      conv => lhs; rw [show intsN (w :: rest) = .int (w : Int) :: intsN rest from rfl]; unfold numD sForL
      simp [b_spare_1, dFun, sSeq, snext, sIf, sbind, sAsg, sRet, sSkip, sExpr, sPar, sSetI, sSetA, sAug, sFor, sTg, dVar, dC, dNil, dCons, dBind, obind, dTup, dLst, dFrz, MO.d, dReg, dFz, dOp1, dOp2, dCmp, dB2v, dTst, dAnd, dOr, dNot, dIf, dCall, dIx, dLook, dIsi, dIsi2, dIsC, dIn, dChn, dMut, lstOf, putO, dM1, tyOk, dNw1, dNw2, dSl, dP, dNoP, dIsN, dItQ, dItS, dRg1, dRg2, dEnum, dLc, dYes, noex, Tg.run, gSets, List.length_map, List.length_cons, List.length_nil, List.map_cons, List.map_nil, dTupS, dStar, addD, hs1, hs2, hq, hso, hjoin, e1, nn_close, hc, appD, hil, ha, hia]
    | false =>
      obtain ⟨y4, y5, e⟩ := spare_in rs h9 t hw hp rest (pre ++ [w]) acc (some (.val (.int (pre.length : Int)))) (some (.val (.int (w : Int)))) (by rw [List.append_assoc]; exact h) (by omega)
      refine ⟨y4, y5, ?_⟩
      rw [List.filter_cons_of_neg (by rw [hc]; simp), ← e, List.length_append]
      conv => lhs; rw [show intsN (w :: rest) = .int (w : Int) :: intsN rest from rfl]; unfold numD sForL
      simp [b_spare_1, dFun, sSeq, snext, sIf, sbind, sAsg, sRet, sSkip, sExpr, sPar, sSetI, sSetA, sAug, sFor, sTg, dVar, dC, dNil, dCons, dBind, obind, dTup, dLst, dFrz, MO.d, dReg, dFz, dOp1, dOp2, dCmp, dB2v, dTst, dAnd, dOr, dNot, dIf, dCall, dIx, dLook, dIsi, dIsi2, dIsC, dIn, dChn, dMut, lstOf, putO, dM1, tyOk, dNw1, dNw2, dSl, dP, dNoP, dIsN, dItQ, dItS, dRg1, dRg2, dEnum, dLc, dYes, noex, Tg.run, gSets, List.length_map, List.length_cons, List.length_nil, List.map_cons, List.map_nil, dTupS, dStar, addD, hs1, hs2, hq, hso, hjoin, e1, nn_close, hc]
theorem spare_ok {fs : List Str} (rs : List (Nat × Nat)) (h9 : fs.length ≤ 9) (t : Tk) {ws : List Nat} (hw : Asc fs.length ws) {mu : Store} (hp : Pl mu) : f_spare [webD fs rs, tkD t, lotD ws] mu = .ok (lotD (spareT fs.length rs t ws)) mu := by
  have hwl := asc_len hw
  have e0 := check_ok rs hw (by omega) mu
  obtain ⟨y4, y5, e⟩ := spare_in rs h9 t hw hp ws [] [] none none rfl (by simp; omega)
  have e' : sForL (.tp [4, 5]) b_spare_1 (numD 0 (intsN ws)) [some (.val (webD fs rs)), some (.val (tkD t)), some (.val (lotD ws)), some (.val (.obj mu.length)), none, none] (mu ++ [some (.lst [])]) = .nx [some (.val (webD fs rs)), some (.val (tkD t)), some (.val (lotD ws)), some (.val (.obj mu.length)), y4, y5] (mu ++ [some (.lst (intsN (spareT fs.length rs t ws)))]) := e
  have g0 : (mu ++ [some (MO.lst (intsN (spareT fs.length rs t ws)))])[mu.length]? = some (some (.lst (intsN (spareT fs.length rs t ws)))) := by simp
  have hEn : ∀ sl mu', sl[2]? = some (some (SV.val (lotD ws))) → dEnumQ (dVar 2) sl mu' = .ok (numD 0 (intsN ws)) mu' := fun sl mu' h => by
    unfold dEnumQ dBind obind dVar
    rw [h]
    rfl
  have key : dFun 6 g_spare [webD fs rs, tkD t, lotD ws] mu = .ok (lotD (spareT fs.length rs t ws)) (mu ++ [some (.lst (intsN (spareT fs.length rs t ws)))]) := by
    unfold lotD at *
    generalize intsN (spareT fs.length rs t ws) = r at e' g0 ⊢
    simp [g_spare, dFun, sSeq, snext, sIf, sbind, sAsg, sRet, sSkip, sExpr, sPar, sSetI, sSetA, sAug, sFor, sTg, dVar, dC, dNil, dCons, dBind, obind, dTup, dLst, dFrz, MO.d, dReg, dFz, dOp1, dOp2, dCmp, dB2v, dTst, dAnd, dOr, dNot, dIf, dCall, dIx, dLook, lookD, dIsi, dIsi2, dIsC, dIn, dChn, dMut, lstOf, putO, dM1, tyOk, dNw1, dNw2, dSl, dP, dNoP, dIsN, dItQ, dItS, dRg1, dRg2, dEnum, dLc, dYes, noex, Tg.run, gSets, List.length_map, List.length_cons, List.length_nil, List.map_cons, List.map_nil, e0, hEn, e', g0, tupleD]
  exact gc_of key (take_app _ _) hp fun n => cl_lotD n _
end DL
end

section
set_option Elab.async false
set_option linter.all false
set_option maxRecDepth 100000
set_option maxHeartbeats 4000000
namespace DL
open PySem
/-! M3: gaps, clashes, fewest watchers: plain -/
/-! ### pairs and gaps -/
theorem gap_count (ws : List Nat) (f g : Nat → Tv) : gapN (ws.map f) (ws.map g) = ws.countP fun w => decide (f w ≠ g w) := by
  unfold gapN
  induction ws with
  | nil => rfl
  | cons w ws ih =>
    rw [List.map_cons, List.map_cons, List.zip_cons_cons, List.filter_cons, List.countP_cons]
    split
    · rename_i h
      rw [List.length_cons, ih]
    · rename_i h
      rw [ih]
      rfl
def gp (n : Nat) (rs : Rds) (t : Tk) (ws a b : List Nat) : Nat := gapN (repT n rs t ws a) (repT n rs t ws b)
theorem gp_count (n : Nat) (rs : Rds) (t : Tk) (ws a b : List Nat) : gp n rs t ws a b = ws.countP fun w => decide (toldT n rs t w a ≠ toldT n rs t w b) := gap_count ws _ _
theorem gp_comm (n : Nat) (rs : Rds) (t : Tk) (ws a b : List Nat) : gp n rs t ws a b = gp n rs t ws b a := by
  rw [gp_count, gp_count]
  congr 1
  funext w
  exact decide_eq_decide.mpr ⟨fun h e => h e.symm, fun h e => h e.symm⟩
theorem prsL_ne {α : Type} : ∀ {l : List α}, l.Nodup → ∀ {p : α × α}, p ∈ prsL l → p.1 ≠ p.2
  | [], _, _, h => by cases h
  | a :: l, hn, p, h => by
    have h' : p ∈ l.map (fun b => (a, b)) ++ prsL l := h
    rw [List.nodup_cons] at hn
    rw [List.mem_append] at h'
    rcases h' with h' | h'
    · obtain ⟨b, hb, rfl⟩ := List.mem_map.mp h'
      intro e
      have e' : a = b := e
      exact hn.1 (e' ▸ hb)
    · exact prsL_ne hn.2 h'
theorem prsL_or {α : Type} : ∀ {l : List α} {a b : α}, a ∈ l → b ∈ l → a ≠ b → (a, b) ∈ prsL l ∨ (b, a) ∈ prsL l
  | [], _, _, h, _, _ => by simp at h
  | x :: l, a, b, ha, hb, hn => by
    show (a, b) ∈ l.map (fun b => (x, b)) ++ prsL l ∨ (b, a) ∈ l.map (fun b => (x, b)) ++ prsL l
    rw [List.mem_append, List.mem_append]
    rcases List.mem_cons.mp ha with e | ha'
    · subst e
      rcases List.mem_cons.mp hb with e | hb'
      · exact absurd e.symm hn
      · exact .inl (.inl (List.mem_map.mpr ⟨b, hb', rfl⟩))
    · rcases List.mem_cons.mp hb with e | hb'
      · subst e
        exact .inr (.inl (List.mem_map.mpr ⟨a, ha', rfl⟩))
      · rcases prsL_or ha' hb' hn with h | h
        · exact .inl (.inr h)
        · exact .inr (.inr h)
/-- a lot of fires of a task -/
def FL (n k : Nat) (l : List Nat) : Prop := Asc n l ∧ l.length ≤ k
theorem mem_FL {n : Nat} {t : Tk} {l : List Nat} : l ∈ lotsT n t ↔ FL n t.fires l := by
  rw [mem_lotsT]
  constructor
  · exact fun h => ⟨h.1, by have := h.2; omega⟩
  · exact fun h => ⟨h.1, by have := h.2; have := asc_len h.1; omega⟩
theorem lotsT_nodup (n : Nat) (t : Tk) : (lotsT n t).Nodup := (lotsT_perm n t).nodup_iff.mpr (lots_nodup _ _)
/-- all unlike lots are farther apart than g -/
def Over (n : Nat) (rs : Rds) (t : Tk) (ws : List Nat) (g : Nat) : Prop := ∀ a b, FL n t.fires a → FL n t.fires b → a ≠ b → g < gp n rs t ws a b
theorem over_iff {n : Nat} {rs : Rds} {t : Tk} {ws : List Nat} {g : Nat} : Over n rs t ws g ↔ ∀ x ∈ gapsT n rs t ws, g < x := by
  constructor
  · intro h x hx
    obtain ⟨p, hp, rfl⟩ := List.mem_map.mp hx
    obtain ⟨m1, m2⟩ := prsL_mem hp
    exact h p.1 p.2 (mem_FL.mp m1) (mem_FL.mp m2) (prsL_ne (lotsT_nodup n t) hp)
  · intro h a b ha hb hn
    rcases prsL_or (mem_FL.mpr ha) (mem_FL.mpr hb) hn with hp | hp
    · exact h _ (List.mem_map.mpr ⟨(a, b), hp, rfl⟩)
    · rw [gp_comm]
      exact h _ (List.mem_map.mpr ⟨(b, a), hp, rfl⟩)
theorem close_iff {n : Nat} {rs : Rds} {t : Tk} {ws : List Nat} : (closeP n rs t ws).isNone = true ↔ Over n rs t ws (boundN t) := by
  rw [over_iff, Option.isNone_iff_eq_none]
  unfold closeP
  rw [List.find?_eq_none]
  constructor
  · intro h x hx
    obtain ⟨p, hp, rfl⟩ := List.mem_map.mp hx
    have := h p hp
    unfold nearP at this
    rw [decide_eq_true_iff] at this
    omega
  · intro h p hp
    have := h _ (List.mem_map.mpr ⟨p, hp, rfl⟩)
    unfold nearP
    rw [decide_eq_true_iff]
    omega
theorem gap_over {n : Nat} {rs : Rds} {t : Tk} {ws : List Nat} {m : Nat} (h : gapT n rs t ws = some m) {g : Nat} : Over n rs t ws g ↔ g < m := by
  unfold gapT at h
  rw [List.min?_eq_some_iff] at h
  rw [over_iff]
  exact ⟨fun k => k m h.1, fun k x hx => Nat.lt_of_lt_of_le k (h.2 x hx)⟩
theorem gap_some {n : Nat} (hn : 1 ≤ n) (rs : Rds) {t : Tk} (ht : 1 ≤ t.fires) (ws : List Nat) : ∃ m, gapT n rs t ws = some m := by
  cases h : gapT n rs t ws with
  | some m => exact ⟨m, rfl⟩
  | none =>
    exfalso
    unfold gapT at h
    rw [List.min?_eq_none_iff] at h
    have h0 : FL n t.fires [] := ⟨asc_nil n, Nat.zero_le _⟩
    have h1 : FL n t.fires [0] := ⟨⟨List.pairwise_singleton _ _, fun x hx => by
      have : x = 0 := by simpa using hx
      omega⟩, by show 1 ≤ _; exact ht⟩
    rcases prsL_or (mem_FL.mpr h0) (mem_FL.mpr h1) (by simp) with hp | hp
    · have : gp n rs t ws [] [0] ∈ gapsT n rs t ws := List.mem_map.mpr ⟨_, hp, rfl⟩
      rw [h] at this
      simp at this
    · have : gp n rs t ws [0] [] ∈ gapsT n rs t ws := List.mem_map.mpr ⟨_, hp, rfl⟩
      rw [h] at this
      simp at this
theorem gap_eq_of {n : Nat} (hn : 1 ≤ n) {rs rs' : Rds} {t : Tk} (ht : 1 ≤ t.fires) {ws ws' : List Nat} (h : ∀ g, Over n rs t ws g ↔ Over n rs' t ws' g) : gapT n rs t ws = gapT n rs' t ws' := by
  obtain ⟨m, hm⟩ := gap_some hn rs ht ws
  obtain ⟨m', hm'⟩ := gap_some hn rs' ht ws'
  have key : ∀ g, g < m ↔ g < m' := fun g => by rw [← gap_over hm, ← gap_over hm', h]
  have h1 := key m
  have h2 := key m'
  rw [hm, hm']
  congr 1
  omega
/-! ### fewest -/
theorem few_some {n : Nat} {rs : Rds} {t : Tk} {m : Nat} : fewN n rs t = some m ↔ (∃ ws, Asc n ws ∧ ws.length = m ∧ Over n rs t ws (boundN t)) ∧ ∀ ws, Asc n ws → Over n rs t ws (boundN t) → m ≤ ws.length := by
  have fwd : ∀ m, fewN n rs t = some m → (∃ ws, Asc n ws ∧ ws.length = m ∧ Over n rs t ws (boundN t)) ∧ ∀ ws, Asc n ws → Over n rs t ws (boundN t) → m ≤ ws.length := by
    intro m h
    obtain ⟨ws, h1, rfl⟩ := Option.map_eq_some_iff.mp h
    unfold fewT at h1
    rw [List.find?_eq_some_iff_append] at h1
    obtain ⟨h2, as, bs, h3, h4⟩ := h1
    have hm : ws ∈ lotsBy n n := by rw [h3]; simp
    refine ⟨⟨ws, (mem_lots.mp hm).1, rfl, close_iff.mp h2⟩, fun vs hv hvo => ?_⟩
    have hvm : vs ∈ lotsBy n n := mem_lots.mpr ⟨hv, asc_len hv⟩
    rw [h3, List.mem_append, List.mem_cons] at hvm
    rcases hvm with h | rfl | h
    · have := h4 vs h
      rw [close_iff.mpr hvo] at this
      simp at this
    · exact Nat.le_refl _
    · have hp := lots_sizes n n
      rw [h3, List.pairwise_append, List.pairwise_cons] at hp
      exact hp.2.1.1 vs h
  refine ⟨fwd m, fun ⟨⟨ws, h1, h2, h3⟩, h4⟩ => ?_⟩
  cases h : fewN n rs t with
  | none =>
    exfalso
    unfold fewN at h
    rw [Option.map_eq_none_iff] at h
    unfold fewT at h
    rw [List.find?_eq_none] at h
    exact h ws (mem_lots.mpr ⟨h1, asc_len h1⟩) (close_iff.mpr h3)
  | some k =>
    obtain ⟨⟨vs, g1, g2, g3⟩, g4⟩ := fwd k h
    have a := h4 vs g1 g3
    have b := g4 ws h1 h3
    congr 1
    omega
theorem few_none {n : Nat} {rs : Rds} {t : Tk} : fewN n rs t = none ↔ ∀ ws, Asc n ws → ¬ Over n rs t ws (boundN t) := by
  unfold fewN
  rw [Option.map_eq_none_iff]
  unfold fewT
  rw [List.find?_eq_none]
  exact ⟨fun h ws hw ho => h ws (mem_lots.mpr ⟨hw, asc_len hw⟩) (close_iff.mpr ho), fun h ws hw ho => h ws (mem_lots.mp hw).1 (close_iff.mp ho)⟩
/-! ### harder tasks -/
structure Harder (t u : Tk) : Prop where
  far : u.far = t.far
  reach : u.reach = t.reach
  fires : t.fires ≤ u.fires
  bound : boundN t ≤ boundN u
theorem told_eq {n : Nat} {rs : Rds} {t u : Tk} (h1 : u.far = t.far) (h2 : u.reach = t.reach) (w : Nat) (l : List Nat) : toldT n rs u w l = toldT n rs t w l := by
  unfold toldT
  rw [h1, h2]
theorem gp_eq {n : Nat} {rs : Rds} {t u : Tk} (h1 : u.far = t.far) (h2 : u.reach = t.reach) (ws a b : List Nat) : gp n rs u ws a b = gp n rs t ws a b := by
  rw [gp_count, gp_count]
  congr 1
  funext w
  rw [told_eq h1 h2, told_eq h1 h2]
theorem Harder.over {t u : Tk} (h : Harder t u) {n : Nat} {rs : Rds} {ws : List Nat} (o : Over n rs u ws (boundN u)) : Over n rs t ws (boundN t) := fun a b ha hb hn => by
  have := o a b ⟨ha.1, Nat.le_trans ha.2 h.fires⟩ ⟨hb.1, Nat.le_trans hb.2 h.fires⟩ hn
  rw [gp_eq h.far h.reach] at this
  exact Nat.lt_of_le_of_lt h.bound this
theorem Harder.few {t u : Tk} (h : Harder t u) {n : Nat} {rs : Rds} {m : Nat} (e : fewN n rs u = some m) : ∃ k, fewN n rs t = some k ∧ k ≤ m := by
  obtain ⟨⟨ws, g1, g2, g3⟩, _⟩ := few_some.mp e
  cases e2 : fewN n rs t with
  | none => exact absurd (h.over g3) (few_none.mp e2 ws g1)
  | some k => exact ⟨k, rfl, by rw [← g2]; exact (few_some.mp e2).2 ws g1 (h.over g3)⟩
/-! ### watchers more and less -/
theorem gp_perm {n : Nat} {rs : Rds} {t : Tk} {ws vs : List Nat} (h : ws.Perm vs) (a b : List Nat) : gp n rs t ws a b = gp n rs t vs a b := by
  rw [gp_count, gp_count]
  exact h.countP_eq _
theorem gap_more {n : Nat} {rs : Rds} {t : Tk} {ws vs : List Nat} {p : Nat} (h : vs.Perm (ws ++ [p])) {g k : Nat} (e1 : gapT n rs t ws = some g) (e2 : gapT n rs t vs = some k) : g ≤ k := by
  by_cases hg : g ≤ k
  · exact hg
  · have hk : k < g := by omega
    have o := (gap_over e1).mpr hk
    have : Over n rs t vs k := fun a b ha hb hn => by
      have := o a b ha hb hn
      rw [gp_perm h, gp_count, List.countP_append, ← gp_count]
      omega
    rw [gap_over e2] at this
    omega
theorem over_less {n : Nat} {rs : Rds} {t : Tk} {ws vs : List Nat} {p : Nat} (h : ws.Perm (p :: vs)) {g : Nat} (o : Over n rs t ws (g + 1)) : Over n rs t vs g := fun a b ha hb hn => by
  have := o a b ha hb hn
  rw [gp_perm h, gp_count, List.countP_cons, ← gp_count] at this
  split at this <;> omega
/-! ### another order of the places -/
structure Ren (n : Nat) (rs rs' : Rds) (σ τ : Nat → Nat) : Prop where
  n9 : n ≤ 9
  lt : ∀ a, a < n → σ a < n
  lt' : ∀ a, a < n → τ a < n
  st : ∀ a, a < n → σ (τ a) = a
  ts : ∀ a, a < n → τ (σ a) = a
  r : ∀ q ∈ rs, q.1 < n ∧ q.2 < n
  r' : ∀ q ∈ rs', q.1 < n ∧ q.2 < n
  adj : ∀ a b, a < n → b < n → (Adj rs a b ↔ Adj rs' (σ a) (σ b))
theorem Ren.symm {n : Nat} {rs rs' : Rds} {σ τ : Nat → Nat} (h : Ren n rs rs' σ τ) : Ren n rs' rs τ σ := ⟨h.n9, h.lt', h.lt, h.ts, h.st, h.r', h.r, fun a b ha hb => by
  rw [h.adj _ _ (h.lt' a ha) (h.lt' b hb), h.st a ha, h.st b hb]⟩
theorem adj_lt {n : Nat} {rs : Rds} (h : ∀ q ∈ rs, q.1 < n ∧ q.2 < n) {a b : Nat} (e : Adj rs a b) : a < n ∧ b < n := by
  rcases e with e | e
  · exact h _ e
  · have := h _ e; exact ⟨this.2, this.1⟩
theorem Ren.way {n : Nat} {rs rs' : Rds} {σ τ : Nat → Nat} (h : Ren n rs rs' σ τ) {a b k : Nat} (w : Way rs a b k) : Way rs' (σ a) (σ b) k := w.map σ fun x y e => by
  obtain ⟨hx, hy⟩ := adj_lt h.r e
  exact (h.adj x y hx hy).mp e
theorem Ren.dist {n : Nat} {rs rs' : Rds} {σ τ : Nat → Nat} (h : Ren n rs rs' σ τ) {a b : Nat} (ha : a < n) (hb : b < n) : distO n rs' (σ a) (σ b) = distO n rs a b := by
  have d1 := steps_isD h.n9 ha h.r b
  have d2 := steps_isD h.n9 (h.lt a ha) h.r' (σ b)
  refine IsD.uniq d2 ?_
  show IsD rs' (σ a) (σ b) (distO n rs a b)
  have d1' : IsD rs a b (distO n rs a b) := d1
  cases e : distO n rs a b with
  | none =>
    rw [e] at d1'
    intro k w
    have w' := h.symm.way w
    rw [h.ts a ha, h.ts b hb] at w'
    exact d1' k w'
  | some d =>
    rw [e] at d1'
    refine ⟨h.way d1'.1, fun k w => ?_⟩
    have w' := h.symm.way w
    rw [h.ts a ha, h.ts b hb] at w'
    exact d1'.2 k w'
theorem min_perm {l m : List Nat} (h : l.Perm m) : l.min? = m.min? := by
  cases e : m.min? with
  | none =>
    rw [List.min?_eq_none_iff] at e ⊢
    subst e
    exact h.eq_nil
  | some a =>
    rw [List.min?_eq_some_iff] at e ⊢
    exact ⟨h.mem_iff.mpr e.1, fun b hb => e.2 b (h.mem_iff.mp hb)⟩
theorem filterMap_on {α β : Type} {f g : α → Option β} : ∀ {l : List α}, (∀ x ∈ l, f x = g x) → l.filterMap f = l.filterMap g
  | [], _ => rfl
  | a :: l, h => by
    rw [List.filterMap_cons, List.filterMap_cons, h a List.mem_cons_self, filterMap_on fun x hx => h x (List.mem_cons_of_mem _ hx)]
theorem Ren.near {n : Nat} {rs rs' : Rds} {σ τ : Nat → Nat} (h : Ren n rs rs' σ τ) {w : Nat} (hw : w < n) {l l' : List Nat} (hl : ∀ x ∈ l, x < n) (hp : l'.Perm (l.map σ)) : nearO n rs' (σ w) l' = nearO n rs w l := by
  unfold nearO
  rw [min_perm (hp.filterMap _), List.filterMap_map]
  congr 1
  refine filterMap_on fun x hx => ?_
  exact h.dist hw (hl x hx)
theorem Ren.told {n : Nat} {rs rs' : Rds} {σ τ : Nat → Nat} (h : Ren n rs rs' σ τ) (t : Tk) {w : Nat} (hw : w < n) {l l' : List Nat} (hl : ∀ x ∈ l, x < n) (hp : l'.Perm (l.map σ)) : toldT n rs' t (σ w) l' = toldT n rs t w l := by
  unfold toldT
  rw [h.near hw hl hp]
theorem Ren.gp {n : Nat} {rs rs' : Rds} {σ τ : Nat → Nat} (h : Ren n rs rs' σ τ) (t : Tk) {ws ws' a a' b b' : List Nat} (hw : ∀ x ∈ ws, x < n) (hws : ws'.Perm (ws.map σ)) (ha : ∀ x ∈ a, x < n) (hpa : a'.Perm (a.map σ)) (hb : ∀ x ∈ b, x < n) (hpb : b'.Perm (b.map σ)) :
    gp n rs' t ws' a' b' = gp n rs t ws a b := by
  rw [gp_count, gp_count, hws.countP_eq, List.countP_map]
  apply List.countP_congr
  intro w hw2
  show decide _ = true ↔ decide _ = true
  rw [h.told t (hw w hw2) ha hpa, h.told t (hw w hw2) hb hpb]
/-- numbers in order -/
def sortN (l : List Nat) : List Nat := l.mergeSort fun a b => decide (a ≤ b)
theorem sortN_perm (l : List Nat) : (sortN l).Perm l := List.mergeSort_perm _ _
theorem sortN_le (l : List Nat) : (sortN l).Pairwise (· ≤ ·) := (List.pairwise_mergeSort (le := fun a b : Nat => decide (a ≤ b)) (fun a b c h1 h2 => by
  rw [decide_eq_true_iff] at *
  omega) (fun a b => by
  rw [Bool.or_eq_true, decide_eq_true_iff, decide_eq_true_iff]
  omega) l).imp fun h => of_decide_eq_true h
theorem sortN_asc {n : Nat} {l : List Nat} (hn : l.Nodup) (hl : ∀ x ∈ l, x < n) : Asc n (sortN l) := by
  have h1 := sortN_le l
  have h2 : (sortN l).Nodup := (sortN_perm l).nodup_iff.mpr hn
  exact ⟨h1.imp₂ (fun _ _ h h' => Nat.lt_of_le_of_ne h h') h2, fun x hx => hl x ((sortN_perm l).mem_iff.mp hx)⟩
theorem asc_nodup {n : Nat} {l : List Nat} (h : Asc n l) : l.Nodup := h.pw.imp fun h => Nat.ne_of_lt h
theorem nodup_map_on {α β : Type} {f : α → β} : ∀ {l : List α}, (∀ x ∈ l, ∀ y ∈ l, f x = f y → x = y) → l.Nodup → (l.map f).Nodup
  | [], _, _ => .nil
  | a :: l, h, hn => by
    rw [List.nodup_cons] at hn
    rw [List.map_cons, List.nodup_cons]
    refine ⟨fun hm => ?_, nodup_map_on (fun x hx y hy => h x (List.mem_cons_of_mem _ hx) y (List.mem_cons_of_mem _ hy)) hn.2⟩
    obtain ⟨b, hb, e⟩ := List.mem_map.mp hm
    have := h b (List.mem_cons_of_mem _ hb) a List.mem_cons_self e
    exact hn.1 (this ▸ hb)
theorem Ren.inj {n : Nat} {rs rs' : Rds} {σ τ : Nat → Nat} (h : Ren n rs rs' σ τ) {a b : Nat} (ha : a < n) (hb : b < n) (e : σ a = σ b) : a = b := by
  rw [← h.ts a ha, ← h.ts b hb, e]
theorem Ren.asc {n : Nat} {rs rs' : Rds} {σ τ : Nat → Nat} (h : Ren n rs rs' σ τ) {l : List Nat} (hl : Asc n l) : Asc n (sortN (l.map σ)) := sortN_asc (nodup_map_on (fun x hx y hy e => h.inj (hl.lt x hx) (hl.lt y hy) e) (asc_nodup hl)) fun x hx => by
  obtain ⟨y, hy, rfl⟩ := List.mem_map.mp hx
  exact h.lt y (hl.lt y hy)
theorem Ren.fl {n : Nat} {rs rs' : Rds} {σ τ : Nat → Nat} (h : Ren n rs rs' σ τ) {k : Nat} {l : List Nat} (hl : FL n k l) : FL n k (sortN (l.map σ)) := ⟨h.asc hl.1, by
  rw [(sortN_perm _).length_eq, List.length_map]
  exact hl.2⟩
theorem Ren.back {n : Nat} {rs rs' : Rds} {σ τ : Nat → Nat} (h : Ren n rs rs' σ τ) {l : List Nat} (hl : ∀ x ∈ l, x < n) : l.Perm ((sortN (l.map τ)).map σ) := by
  have h1 : ((sortN (l.map τ)).map σ).Perm ((l.map τ).map σ) := (sortN_perm _).map σ
  have h2 : (l.map τ).map σ = l := by
    rw [List.map_map]
    conv => rhs; rw [← List.map_id l]
    apply List.map_congr_left
    intro x hx
    exact h.st x (hl x hx)
  rw [h2] at h1
  exact h1.symm
theorem Ren.over1 {n : Nat} {rs rs' : Rds} {σ τ : Nat → Nat} (h : Ren n rs rs' σ τ) (t : Tk) {ws ws' : List Nat} (hw : ∀ x ∈ ws, x < n) (hws : ws'.Perm (ws.map σ)) {g : Nat} (o : Over n rs t ws g) : Over n rs' t ws' g := fun a b ha hb hn => by
  have fa := h.symm.fl ha
  have fb := h.symm.fl hb
  have e := h.gp t hw hws fa.1.lt (h.back ha.1.lt) fb.1.lt (h.back hb.1.lt)
  rw [e]
  refine o _ _ fa fb fun hab => hn ?_
  refine asc_ext ha.1.pw hb.1.pw fun x => ?_
  rw [(h.back ha.1.lt).mem_iff, hab, ← (h.back hb.1.lt).mem_iff]
theorem Ren.perm' {n : Nat} {rs rs' : Rds} {σ τ : Nat → Nat} (h : Ren n rs rs' σ τ) {ws ws' : List Nat} (hw : ∀ x ∈ ws, x < n) (hws : ws'.Perm (ws.map σ)) : ws.Perm (ws'.map τ) := by
  have h1 := hws.map τ
  rw [List.map_map] at h1
  have h2 : ws.map (τ ∘ σ) = ws := by
    conv => rhs; rw [← List.map_id ws]
    apply List.map_congr_left
    intro x hx
    exact h.ts x (hw x hx)
  rw [h2] at h1
  exact h1.symm
theorem Ren.lt'' {n : Nat} {rs rs' : Rds} {σ τ : Nat → Nat} (h : Ren n rs rs' σ τ) {ws ws' : List Nat} (hw : ∀ x ∈ ws, x < n) (hws : ws'.Perm (ws.map σ)) : ∀ x ∈ ws', x < n := fun x hx => by
  rw [hws.mem_iff] at hx
  obtain ⟨y, hy, rfl⟩ := List.mem_map.mp hx
  exact h.lt y (hw y hy)
theorem Ren.over {n : Nat} {rs rs' : Rds} {σ τ : Nat → Nat} (h : Ren n rs rs' σ τ) (t : Tk) {ws ws' : List Nat} (hw : ∀ x ∈ ws, x < n) (hws : ws'.Perm (ws.map σ)) {g : Nat} : Over n rs t ws g ↔ Over n rs' t ws' g :=
  ⟨h.over1 t hw hws, h.symm.over1 t (h.lt'' hw hws) (h.perm' hw hws)⟩
theorem Ren.gap {n : Nat} (hn : 1 ≤ n) {rs rs' : Rds} {σ τ : Nat → Nat} (h : Ren n rs rs' σ τ) {t : Tk} (ht : 1 ≤ t.fires) {ws ws' : List Nat} (hw : ∀ x ∈ ws, x < n) (hws : ws'.Perm (ws.map σ)) : gapT n rs' t ws' = gapT n rs t ws :=
  (gap_eq_of hn ht fun _ => h.over t hw hws).symm
theorem Ren.few1 {n : Nat} {rs rs' : Rds} {σ τ : Nat → Nat} (h : Ren n rs rs' σ τ) (t : Tk) {m : Nat} (e : fewN n rs t = some m) : ∃ k, fewN n rs' t = some k ∧ k ≤ m := by
  obtain ⟨⟨ws, g1, g2, g3⟩, _⟩ := few_some.mp e
  have o := h.over1 t g1.lt (sortN_perm (ws.map σ)) g3
  have ha := h.asc g1
  have hl : (sortN (ws.map σ)).length = m := by rw [(sortN_perm _).length_eq, List.length_map, g2]
  cases e2 : fewN n rs' t with
  | none => exact absurd o (few_none.mp e2 _ ha)
  | some k => exact ⟨k, rfl, by rw [← hl]; exact (few_some.mp e2).2 _ ha o⟩
theorem Ren.few {n : Nat} {rs rs' : Rds} {σ τ : Nat → Nat} (h : Ren n rs rs' σ τ) (t : Tk) : fewN n rs' t = fewN n rs t := by
  cases e : fewN n rs t with
  | none =>
    cases e' : fewN n rs' t with
    | none => rfl
    | some k =>
      obtain ⟨m, h1, _⟩ := h.symm.few1 t e'
      rw [e] at h1
      cases h1
  | some m =>
    obtain ⟨k, h1, h2⟩ := h.few1 t e
    obtain ⟨m', h3, h4⟩ := h.symm.few1 t h1
    rw [e] at h3
    have : m = m' := Option.some.inj h3
    rw [h1]
    congr 1
    omega
theorem Ren.spare {n : Nat} {rs rs' : Rds} {σ τ : Nat → Nat} (h : Ren n rs rs' σ τ) (t : Tk) {ws ws' : List Nat} (hw : Asc n ws) (hw' : Asc n ws') (hws : ws'.Perm (ws.map σ)) : sortN ((spareT n rs' t ws').map τ) = spareT n rs t ws := by
  have hs' : ∀ x ∈ spareT n rs' t ws', x ∈ ws' := fun x hx => (List.mem_filter.mp hx).1
  have key : ∀ w ∈ ws, (closeP n rs t (ws.erase w)).isNone = (closeP n rs' t (ws'.erase (σ w))).isNone := fun w hwm => by
    have hp : (ws'.erase (σ w)).Perm ((ws.erase w).map σ) := by
      have h1 : (ws.map σ).Perm (σ w :: (ws.erase w).map σ) := by
        have := (List.perm_cons_erase hwm).map σ
        rwa [List.map_cons] at this
      have h2 := (hws.trans h1).erase (σ w)
      rwa [List.erase_cons_head] at h2
    rw [Bool.eq_iff_iff, close_iff, close_iff]
    exact h.over t (fun x hx => hw.lt x (List.mem_of_mem_erase hx)) hp
  have ha : Asc n (sortN ((spareT n rs' t ws').map τ)) := sortN_asc (nodup_map_on (fun x hx y hy e => h.symm.inj (hw'.lt x (hs' x hx)) (hw'.lt y (hs' y hy)) e) ((asc_nodup hw').filter _)) fun x hx => by
    obtain ⟨y, hy, rfl⟩ := List.mem_map.mp hx
    exact h.lt' y (hw'.lt y (hs' y hy))
  refine asc_ext ha.pw (hw.pw.filter _) fun x => ?_
  rw [(sortN_perm _).mem_iff]
  constructor
  · intro hx
    obtain ⟨y, hy, rfl⟩ := List.mem_map.mp hx
    obtain ⟨hy1, hy2⟩ := List.mem_filter.mp hy
    have hm := hws.mem_iff.mp hy1
    obtain ⟨w, hwm, rfl⟩ := List.mem_map.mp hm
    rw [h.ts w (hw.lt w hwm)]
    exact List.mem_filter.mpr ⟨hwm, by rw [key w hwm]; exact hy2⟩
  · intro hx
    obtain ⟨h1, h2⟩ := List.mem_filter.mp hx
    refine List.mem_map.mpr ⟨σ x, List.mem_filter.mpr ⟨hws.mem_iff.mpr (List.mem_map.mpr ⟨x, h1, rfl⟩), ?_⟩, h.ts x (hw.lt x h1)⟩
    rw [← key x h1]
    exact h2
/-! ### what is borne -/
theorem bears_mem {n : Nat} {rs : Rds} {t : Tk} {ws : List Nat} {m : Nat} (h : gapT n rs t ws = some m) (hb : t.broken ≤ 3) (hl : t.lying ≤ 3) : (t.broken, t.lying) ∈ bearsL (gapT n rs t ws) ↔ (closeP n rs t ws).isNone = true := by
  rw [close_iff, gap_over h, h]
  unfold bearsL bear1
  rw [List.mem_flatMap]
  constructor
  · rintro ⟨b, _, hm⟩
    obtain ⟨l, hl2, e⟩ := List.mem_map.mp hm
    obtain ⟨_, ho⟩ := List.mem_filter.mp hl2
    have e1 : b = t.broken := congrArg Prod.fst e
    have e2 : l = t.lying := congrArg Prod.snd e
    subst e1 e2
    have : t.broken + 2 * t.lying < m := of_decide_eq_true ho
    exact this
  · intro ho
    refine ⟨t.broken, by rw [List.mem_range]; omega, List.mem_map.mpr ⟨t.lying, List.mem_filter.mpr ⟨by rw [List.mem_range]; omega, decide_eq_true ho⟩, rfl⟩⟩
end DL
end

section
set_option Elab.async false
set_option linter.all false
set_option maxRecDepth 100000
set_option maxHeartbeats 4000000
namespace DL
open PySem
/-! Q8: helpers of laws: pots, orders, sorted numbers, lots -/
theorem seq_nx {s t : SF} {sl sl' : Sl} {mu mu' : Store} (h : s sl mu = .nx sl' mu') : sSeq s t sl mu = t sl' mu' := by
  unfold sSeq
  rw [h]
  rfl
theorem asg_nx {i : Nat} {f : EF} {d : D} {sl : Sl} {mu mu' : Store} (h : f sl mu = .ok d mu') : sAsg i f sl mu = .nx (sl.set i (some (.val d))) mu' := by
  unfold sAsg
  rw [h]
  rfl
theorem if_no {c : BF} {s t : SF} {sl : Sl} {mu mu' : Store} (h : c sl mu = .ok false mu') : sIf c s t sl mu = t sl mu' := by
  unfold sIf
  rw [h]
  rfl
theorem call_ok {p : FF} {g : LF} {ds : List D} {sl : Sl} {mu mu' : Store} {o : Out D} (h : g sl mu = .ok ds mu') (k : p ds mu' = o) : dCall p g sl mu = o := by
  unfold dCall dBind obind
  rw [h]
  exact k
theorem one_ok {f : EF} {d : D} {sl : Sl} {mu mu' : Store} (h : f sl mu = .ok d mu') : dCons f dNil sl mu = .ok [d] mu' := by
  unfold dCons dNil dBind obind
  rw [h]
theorem two_ok {f g : EF} {d e : D} {sl : Sl} {mu m1 m2 : Store} (h : f sl mu = .ok d m1) (k : g sl m1 = .ok e m2) : dCons f (dCons g dNil) sl mu = .ok [d, e] m2 := by
  unfold dCons dNil dBind obind
  rw [h]
  dsimp only
  rw [k]
theorem or_no {f g : BF} {sl : Sl} {mu m1 m2 : Store} (h : f sl mu = .ok false m1) (k : g sl m1 = .ok false m2) : dOr f g sl mu = .ok false m2 := by
  unfold dOr dBind obind
  rw [h]
  exact k
theorem not_yes {f : BF} {sl : Sl} {mu m1 : Store} (h : f sl mu = .ok true m1) : dNot f sl mu = .ok false m1 := by
  unfold dNot dBind obind
  rw [h]
  rfl
theorem tst_yes {f : EF} {sl : Sl} {mu m1 : Store} (h : f sl mu = .ok (.bl true) m1) : dTst f sl mu = .ok true m1 := by
  unfold dTst dBind obind
  rw [h]
theorem add_ok {f g : EF} {a b c : D} {sl : Sl} {mu m1 m2 : Store} (h : f sl mu = .ok a m1) (k : g sl m1 = .ok b m2) (e : addD a b = some c) : dOp2 addD f g sl mu = .ok c m2 := by
  unfold dOp2 dBind obind
  rw [h]
  dsimp only
  rw [k]
  dsimp only
  rw [e]
theorem frz_lst {f : NF} {l : List D} {sl : Sl} {mu m1 : Store} (h : f sl mu = .ok (.lst l) m1) : dFrz f sl mu = .ok (.lst l) m1 := by
  unfold dFrz dBind obind
  rw [h]
  rfl
theorem shut_all {r : Store} (hr : ∀ n, r.all (clM n) = true) : Shut r := hr _
theorem mus_all {p : Pot} {r : Store} (hr : ∀ n, r.all (clM n) = true) : ∀ n, (mus p r).all (clM n) = true := fun n => by
  unfold mus
  rw [List.all_cons, pot_clM, hr]
  rfl
theorem eq_ints (i j : Int) : eqD (.int i) (.int j) = some (decide (i = j)) := by
  unfold eqD
  simp [toP, PyData.depth, PyData.eqv]
  rfl
theorem ne_bl (b : Bool) : neD (.bl b) (.bl b) = some false := by cases b <;> decide +kernel
theorem eq_bl (b : Bool) : eqD (.bl b) (.bl b) = some true := by cases b <;> decide +kernel
theorem ne_int (i : Int) : neD (.int i) (.int i) = some false := by
  unfold neD
  rw [eq_ints, decide_eq_true rfl]
  rfl
theorem same_int {n : Nat} {x : Int} {mu : Store} : f__law_same_at (n + 1) [.int x, .int x] mu = .ok (.bl true) mu := by
  have e : eqD (.int x) (.int x) = some true := by rw [eq_ints, decide_eq_true rfl]
  unfold f__law_same_at dFun g__law_same
  simp only [List.map_cons, List.map_nil, List.length_cons, List.length_nil, List.replicate, List.cons_append, List.nil_append, sSeq, sIf, sRet, sbind, snext, sSkip, dOr, dAnd, dIsi, dB2v, dCmp, dBind, obind, dLook, dVar, List.getElem?_cons_succ, List.getElem?_cons_zero, lookD, isiOk, isTy, if_true, Bool.false_eq_true, if_false, dIsN, isNon, eq_bl, e]
theorem erase_perm {α : Type} : ∀ {l : List α} {j : Nat} (h : j < l.length), (l[j] :: l.eraseIdx j).Perm l
  | [], _, h => absurd h (Nat.not_lt_zero _)
  | a :: l, 0, _ => List.Perm.refl _
  | a :: l, j + 1, h => by
    have ih := erase_perm (l := l) (j := j) (Nat.lt_of_succ_lt_succ h)
    simp only [List.getElem_cons_succ, List.eraseIdx_cons_succ]
    exact (List.Perm.swap _ _ _).trans (ih.cons a)
theorem mixed_loop (r : Store) {a1 : Option SV} : ∀ (ds left acc : List D) (p : Pot), p.Ok → ds.length = left.length → left.length ≤ 1000 → ∃ out p',
    dLcL (.nm 3) [some (.val (.obj 0)), a1, some (.val (.obj (r.length + 1))), none] dYes (dMut popD (dVar 2) (dCons (dCall f__law_draw (dCons (dVar 0) (dCons (dOp1 lenD (dLook (dVar 2))) dNil))) dNil)) ds acc (mus p (r ++ [some (.lst left)])) = .ok (.lst (acc ++ out)) (mus p' (r ++ [some (.lst [])])) ∧ p'.Ok ∧ out.Perm left
  | [], left, acc, p, h, hl, h1 => by
    have : left = [] := List.length_eq_zero_iff.mp hl.symm
    subst this
    exact ⟨[], p, by simp [dLcL], h, List.Perm.nil⟩
  | d :: ds, left, acc, p, h, hl, h1 => by
    rw [List.length_cons] at hl
    obtain ⟨v, p1, e, ok, v0, v1⟩ := draw_ok h (many := (left.length : Int)) (by omega) (by omega) (r ++ [some (.lst left)])
    obtain ⟨j, ej⟩ : ∃ j : Nat, v = (j : Int) := ⟨v.toNat, by omega⟩
    subst ej
    have hj : j < left.length := by omega
    have hlen : (left.eraseIdx j).length = left.length - 1 := by rw [List.length_eraseIdx, if_pos hj]
    obtain ⟨out, p2, e2, ok2, hp⟩ := mixed_loop r (a1 := a1) ds (left.eraseIdx j) (acc ++ [left[j]]) p1 ok (by omega) (by omega)
    refine ⟨left[j] :: out, p2, ?_, ok2, (hp.cons _).trans (erase_perm hj)⟩
    rw [show acc ++ left[j] :: out = acc ++ [left[j]] ++ out by simp, ← e2]
    have g0 : ∀ p : Pot, (mus p (r ++ [some (.lst left)]))[r.length + 1]? = some (some (.lst left)) := fun p => by unfold mus; simp
    have s0 : ∀ (p : Pot) (l : List D), (mus p (r ++ [some (.lst left)])).set (r.length + 1) (some (.lst l)) = mus p (r ++ [some (.lst l)]) := fun p l => by unfold mus; simp
    have hix : L2.ixN left.length (j : Int) = some j := by
      unfold L2.ixN
      rw [if_pos (by omega), if_pos (by omega), Int.toNat_natCast]
    have hpop : popD left [.int (j : Int)] = some (left[j], left.eraseIdx j) := by
      unfold popD
      have hr : rgOk (j : Int) = true := rgOk_nat (by omega)
      simp only [hr, if_true, (L2.ixN_seq hix).1, List.getElem?_eq_getElem hj]
    conv => lhs; unfold dLcL
    simp only [Tg.run, List.set_cons_succ, List.set_cons_zero, dYes, noex, obind, if_true, dMut, dBind, dVar, List.getElem?_cons_succ, List.getElem?_cons_zero, lstOf, g0, dCons, dCall, dOp1, dLook, lookD, MO.d, lenD, dNil, e, hpop, putO, s0]
theorem mixed_ok {p : Pot} (h : p.Ok) {l : List D} (hl : l.length ≤ 1000) {r : Store} (hr : Shut r) (hc : ∀ d ∈ l, ∀ n, clD n d = true) : ∃ out p', f__law_mixed [.obj 0, .lst l] (mus p r) = .ok (.lst out) (mus p' r) ∧ p'.Ok ∧ out.Perm l := by
  obtain ⟨out, p', e, ok, hp⟩ := mixed_loop r (a1 := some (.val (.lst l))) (rangeD 0 l.length) l [] p h (rangeD_len) hl
  refine ⟨out, p', ?_, ok, hp⟩
  have r1 : rgOk (l.length : Int) = true := rgOk_nat (by omega)
  have hsz : sizeOk (rangeD 0 l.length) = true := decide_eq_true (by rw [rangeD_len]; omega)
  have hlen : (mus p r).length = r.length + 1 := rfl
  have happ : mus p r ++ [some (.lst l)] = mus p (r ++ [some (.lst l)]) := rfl
  rw [List.nil_append] at e
  have hq : q__law_mixed_1 [some (.val (.obj 0)), some (.val (.lst l)), some (.val (.obj (r.length + 1))), none] (mus p (r ++ [some (.lst l)])) = .ok (.lst out) (mus p' (r ++ [some (.lst [])])) := by
    rw [← e]
    unfold q__law_mixed_1 dLc
    simp only [dRg1, dOp1, dBind, obind, dLook, dVar, List.getElem?_cons_succ, List.getElem?_cons_zero, lookD, lenD, r1, if_true, Int.toNat_natCast, hsz]
    rfl
  have key : dFun 4 g__law_mixed [.obj 0, .lst l] (mus p r) = .ok (.lst out) (mus p' (r ++ [some (.lst [])])) := by
    unfold dFun g__law_mixed
    simp only [List.map_cons, List.map_nil, List.length_cons, List.length_nil, List.replicate, List.cons_append, List.nil_append, sSeq, sAsg, sRet, sbind, snext, dReg, dNw1, dBind, obind, dLook, dVar, List.getElem?_cons_succ, List.getElem?_cons_zero, lookD, listD, hlen, happ, List.set_cons_succ, List.set_cons_zero, dFrz, hq, MO.d]
  unfold f__law_mixed fGc
  rw [key, hlen]
  exact gc_mus clD hr (clL_of fun d hd => hc d (hp.mem_iff.mp hd) _)
theorem cut_ints (ns : List Int) : cutG (ns.map D.int) none (some 63) = (ns.take 63).map D.int := by
  unfold cutG
  have e : HT.sIx (ns.map D.int).length (ns.map D.int).length (some 63) = min 63 (ns.map D.int).length := HT.sIx_nat _ _ 63
  rw [e, HT.sIx_none, List.drop_zero, Nat.sub_zero, List.length_map, ← List.map_take]
  by_cases h : 63 ≤ ns.length
  · rw [Nat.min_eq_left h]
  · rw [Nat.min_eq_right (by omega), List.take_of_length_le (Nat.le_refl _), List.take_of_length_le (by omega)]
theorem pot_ok (ns : List Int) : ∃ p, f__law_pot [.frl (ns.map D.int)] [] = .ok (.obj 0) (mus p []) ∧ p.Ok := by
  refine ⟨⟨(ns.take 63).map fun i => if i < 0 then -i else i, 0, 20011, 0⟩, ?_, ⟨Int.le_refl 0, by rw [List.length_map, List.length_take]; omega, fun c hc => by
    obtain ⟨i, _, rfl⟩ := List.mem_map.mp hc
    split <;> omega, by show (0 : Int) ≤ 20011; decide, by show (20011 : Int) < 2147483648; decide, Int.le_refl 0⟩⟩
  have hq : q__law_pot_1 [some (.val (.frl (ns.map D.int))), none] [] = .ok (.lst (((ns.take 63).map fun i => if i < 0 then -i else i).map D.int)) [] := by
    have := lc_all (src := dItQ (dSl (dVar 0) dNoP (dP (dC (.int 63))))) (g := .nm 1) (own := [1]) (elt := dOp1 absD (dLook (dVar 1))) (sl := [some (.val (.frl (ns.map D.int))), none]) (mu := []) (ds := (ns.take 63).map D.int) (fun d => match d with
      | .int i => .int (if i < 0 then -i else i)
      | d => d) (by
        rw [← cut_ints]
        rfl) (by rw [List.length_map, List.length_take]; omega) (fun d hd => by
        obtain ⟨i, _, rfl⟩ := List.mem_map.mp hd
        exact ⟨_, rfl, rfl⟩)
    rw [show q__law_pot_1 = dLc (dItQ (dSl (dVar 0) dNoP (dP (dC (.int 63))))) (.nm 1) [1] dYes (dOp1 absD (dLook (dVar 1))) from rfl, this, List.map_map, List.map_map]
    rfl
  unfold f__law_pot dFun g__law_pot
  simp only [List.map_cons, List.map_nil, List.length_cons, List.length_nil, List.replicate, List.cons_append, List.nil_append, sRet, sbind, dReg, dLst, dCons, dNil, dBind, obind, dFrz, hq, MO.d, dC]
  rfl
theorem int_le (a b : Nat) : sortLe (.int (a : Int)) (.int (b : Int)) = decide (a ≤ b) := by
  show (!(decide ((b : Int) < (a : Int)) || (!decide ((a : Int) < (b : Int)) && false))) = _
  by_cases h : b < a
  · rw [decide_eq_true (by omega : (b : Int) < (a : Int)), decide_eq_false (by omega : ¬ a ≤ b)]
    rfl
  · rw [decide_eq_false (by omega : ¬ (b : Int) < (a : Int)), decide_eq_true (by omega : a ≤ b), Bool.and_false]
    rfl
theorem sorted_nat (l : List Nat) : sortedD (.lst (intsN l)) = some (.lst (intsN (sortN l))) := by
  have hq : (l.map fun (i : Nat) => (i : Int)).map PyData.int = l.map fun (i : Nat) => PyData.int (i : Int) := by rw [List.map_map]; rfl
  have h1 : alikeB (l.map fun (i : Nat) => PyData.int (i : Int)) = true := by
    unfold alikeB
    rw [List.all_eq_true]
    intro p hp
    rw [List.all_eq_true]
    intro q hq
    obtain ⟨a, _, rfl⟩ := List.mem_map.mp hp
    obtain ⟨b, _, rfl⟩ := List.mem_map.mp hq
    rfl
  have h2 : (l.map fun (i : Nat) => PyData.int (i : Int)).all notNT = true := by
    rw [List.all_eq_true]
    intro p hp
    obtain ⟨a, _, rfl⟩ := List.mem_map.mp hp
    rfl
  have h3 : (l.map fun (i : Nat) => PyData.int (i : Int)).all (fun p => decide (p.depth ≤ 60)) = true := by
    rw [List.all_eq_true]
    intro p hp
    obtain ⟨a, _, rfl⟩ := List.mem_map.mp hp
    rfl
  unfold sortedD
  dsimp only
  rw [toPL_intsN, hq]
  dsimp only
  simp only [h1, h2, h3, Bool.or_true, Bool.true_or, Bool.and_self, if_true]
  congr 2
  unfold sortN intsN
  rw [List.map_mergeSort (r := fun a b : Nat => decide (a ≤ b)) (s := sortLe) (f := fun (i : Nat) => D.int (i : Int)) (fun a _ b _ => (int_le a b).symm)]
theorem shaped_ints : ∀ l : List Int, PyData.canLayAll0 (l.map PyData.int) = true
  | [] => rfl
  | i :: l => by
    show (true && PyData.canLayAll0 (l.map PyData.int)) = true
    rw [shaped_ints l]
    rfl
theorem index_nat {l : List Nat} {x : Nat} (h : x ∈ l) : indexD (.lst (intsN l)) (.int (x : Int)) = some (.int (l.idxOf x : Int)) := by
  unfold indexD
  dsimp only
  rw [toPL_intsN]
  have h1 : SeqAt.shaped (.list ((l.map fun (i : Nat) => (i : Int)).map PyData.int)) = true := by
    unfold SeqAt.shaped
    rw [Bool.and_eq_true]
    refine ⟨shaped_ints _, decide_eq_true ?_⟩
    unfold PyData.depth
    rw [PySem.W.depth_ints]
    decide
  have h2 : SeqAt.shaped (.int (x : Int)) = true := rfl
  have h3 : toP (.int (x : Int)) = some (.int (x : Int)) := rfl
  rw [h3]
  dsimp only
  rw [h1, h2, Bool.and_self, if_pos rfl]
  have h4 : ((l.map fun (i : Nat) => (i : Int)).map PyData.int).findIdx? (fun z => PyData.eqv z (.int (x : Int))) = some (l.idxOf x) := by
    clear h1
    induction l with
    | nil => simp at h
    | cons a l ih =>
      rw [List.map_cons, List.map_cons, List.findIdx?_cons, List.idxOf_cons]
      by_cases ha : a = x
      · subst ha
        simp [PyData.eqv]
      · have hx : x ∈ l := by
          rcases List.mem_cons.mp h with e | e
          · exact absurd e.symm ha
          · exact e
        have hne : PyData.eqv (.int (a : Int)) (.int (x : Int)) = false := by
          have : ¬ (a : Int) = (x : Int) := by omega
          simp [PyData.eqv, this]
        rw [hne, ih hx]
        have : (a == x) = false := by simp [ha]
        simp [this]
  rw [h4]
theorem eq_lstN (l : List Nat) : eqD (.lst (intsN l)) (.lst (intsN l)) = some true := by
  unfold eqD toP
  rw [toPL_intsN]
  dsimp only [Option.map_some]
  have hd : (PyData.list ((l.map fun (i : Nat) => (i : Int)).map PyData.int)).depth = 1 := by
    unfold PyData.depth
    rw [PySem.W.depth_ints]
  rw [hd, if_pos (by decide)]
  congr 1
  exact PySem.SeqAt.eqv_refl _ (shaped_ints _)
end DL
end

section
set_option Elab.async false
set_option linter.all false
set_option maxRecDepth 100000
set_option maxHeartbeats 4000000
namespace DL
open PySem
/-! Q9: helpers of the law k11: all places, all lots, another order -/
theorem spec_ix0 (fs : List Str) (rs : List (Nat × Nat)) : ixD (specD fs rs) (.int 0) = some (.lst (fs.map D.str)) := by simp [specD, ixD, L2.atI, L2.ixN]
theorem spec_ix1 (fs : List Str) (rs : List (Nat × Nat)) : ixD (specD fs rs) (.int 1) = some (.lst (rs.map pD)) := by simp [specD, ixD, L2.atI, L2.ixN]
@[simp] theorem lk_spec (mu : Store) (fs : List Str) (rs : List (Nat × Nat)) : lookD mu (specD fs rs) = specD fs rs := rfl
theorem len_strs (fs : List Str) : lenD (.lst (fs.map D.str)) = some (.int (fs.length : Int)) := by simp [lenD]
theorem law_all_ok {fs : List Str} (rs : List (Nat × Nat)) (hz : fs.length ≤ 1000) (mu : Store) : f__law_all [specD fs rs] mu = .ok (lotD (List.range fs.length)) mu := by
  have r1 : rgOk (fs.length : Int) = true := rgOk_nat (by omega)
  have h2 : (fs.length : Int) ≤ 16000000 := by omega
  have hr : rangeD 0 fs.length = intsN (List.range fs.length) := rangeD0 _
  have ht : ∀ l, tupleD (.lst (intsN l)) = some (lotD l) := fun _ => rfl
  have hx := spec_ix0 fs rs
  have hn := len_strs fs
  generalize fs.map D.str = l at hx hn
  simp [f__law_all, g__law_all, dLstRg, dFun, sSeq, snext, sIf, sbind, sAsg, sRet, sSkip, sExpr, sPar, sSetI, sSetA, sAug, sFor, sTg, dVar, dC, dNil, dCons, dBind, obind, dTup, dLst, dFrz, MO.d, dReg, dFz, dOp1, dOp2, dCmp, dB2v, dTst, dAnd, dOr, dNot, dIf, dCall, dIx, dLook, dIsi, dIsi2, dIsC, dIn, dChn, dMut, lstOf, putO, dM1, tyOk, dNw1, dNw2, dSl, dP, dNoP, dIsN, dItQ, dItS, dRg1, dRg2, dEnum, dLc, dYes, noex, Tg.run, gSets, List.length_map, List.length_cons, List.length_nil, List.map_cons, List.map_nil, hx, hn, r1, h2, hr, ht]
/-- lots of things in a row -/
def lotsW : List Nat → List (List Nat) → List (List Nat)
  | [], ls => ls
  | x :: xs, ls => lotsW xs (ls ++ ls.map (· ++ [x]))
theorem lots_turn {ls : List (List Nat)} {x : Nat} (hz : ls.length ≤ 1000) (hl : ∀ l ∈ ls, l.length ≤ 1000) {a0 : Option SV} (mu : Store) : q__law_lots_1 [a0, some (.val (.lst (ls.map lotD))), some (.val (.int (x : Int))), none] mu = .ok (.lst ((ls.map (· ++ [x])).map lotD)) mu := by
  have := lc_mapA (src := dItQ (dVar 1)) (g := .nm 3) (own := [3]) (elt := dOp2 addD (dVar 3) (dTup (dCons (dVar 2) dNil))) (sl := [a0, some (.val (.lst (ls.map lotD))), some (.val (.int (x : Int))), none]) (mu := mu) (ls := ls) lotD (fun l => lotD (l ++ [x])) rfl (by omega) (fun l hm => by
    have h1 := hl l hm
    have ha : addD (lotD l) (.tup [.int (x : Int)]) = some (lotD (l ++ [x])) := by
      show (if (intsN l).length + 1 ≤ 16000000 then some (D.tup (intsN l ++ [.int (x : Int)])) else none) = _
      rw [intsN_len, if_pos (by omega)]
      unfold lotD intsN
      simp
    exact ⟨_, rfl, by simp [wipeS, dFun, sSeq, snext, sIf, sbind, sAsg, sRet, sSkip, sExpr, sPar, sSetI, sSetA, sAug, sFor, sTg, dVar, dC, dNil, dCons, dBind, obind, dTup, dLst, dFrz, MO.d, dReg, dFz, dOp1, dOp2, dCmp, dB2v, dTst, dAnd, dOr, dNot, dIf, dCall, dIx, dLook, dIsi, dIsi2, dIsC, dIn, dChn, dMut, lstOf, putO, dM1, tyOk, dNw1, dNw2, dSl, dP, dNoP, dIsN, dItQ, dItS, dRg1, dRg2, dEnum, dLc, dYes, noex, Tg.run, gSets, List.length_map, List.length_cons, List.length_nil, List.map_cons, List.map_nil, ha]⟩)
  rw [show q__law_lots_1 = dLc (dItQ (dVar 1)) (.nm 3) [3] dYes (dOp2 addD (dVar 3) (dTup (dCons (dVar 2) dNil))) from rfl, this, List.map_map]
  rfl
theorem lots_for (mu : Store) (a0 : Option SV) : ∀ (xs : List Nat) (ls : List (List Nat)) (x2 : Option SV), ls.length * 2 ^ xs.length ≤ 1000 → (∀ l ∈ ls, l.length + xs.length ≤ 1000) → ∃ y2,
    sForL (.nm 2) b__law_lots_1 (intsN xs) [a0, some (.val (.lst (ls.map lotD))), x2, none] mu = .nx [a0, some (.val (.lst ((lotsW xs ls).map lotD))), y2, none] mu
  | [], ls, x2, _, _ => ⟨x2, rfl⟩
  | x :: xs, ls, x2, hz, hl => by
    rw [List.length_cons, Nat.pow_succ] at hz
    have hpos : 1 ≤ 2 ^ xs.length := Nat.one_le_two_pow
    have hz1 : ls.length * 2 ≤ 1000 := by
      have : ls.length * 2 * 1 ≤ ls.length * 2 * 2 ^ xs.length := Nat.mul_le_mul_left _ hpos
      have h2 : ls.length * 2 * 2 ^ xs.length = ls.length * (2 ^ xs.length * 2) := by rw [Nat.mul_assoc, Nat.mul_comm 2]
      omega
    obtain ⟨y2, e⟩ := lots_for mu a0 xs (ls ++ ls.map (· ++ [x])) (some (.val (.int (x : Int)))) (by
      rw [List.length_append, List.length_map]
      have h2 : (ls.length + ls.length) * 2 ^ xs.length = ls.length * (2 ^ xs.length * 2) := by rw [← Nat.mul_two, Nat.mul_assoc, Nat.mul_comm 2]
      omega) (fun l hm => by
      rw [List.mem_append] at hm
      rcases hm with hm | hm
      · have := hl l hm
        rw [List.length_cons] at this
        omega
      · obtain ⟨m, h1, rfl⟩ := List.mem_map.mp hm
        have := hl m h1
        rw [List.length_cons] at this
        rw [List.length_append]
        simp
        omega)
    refine ⟨y2, ?_⟩
    rw [show lotsW (x :: xs) ls = lotsW xs (ls ++ ls.map (· ++ [x])) from rfl, ← e]
    conv => lhs; rw [show intsN (x :: xs) = .int (x : Int) :: intsN xs from rfl]; unfold sForL
    have hq := lots_turn (x := x) (a0 := a0) (ls := ls) (by omega) (fun l hm => by have := hl l hm; omega) mu
    have ha : addD (.lst (ls.map lotD)) (.lst ((ls.map (· ++ [x])).map lotD)) = some (.lst ((ls ++ ls.map (· ++ [x])).map lotD)) := by
      show (if (ls.map lotD).length + ((ls.map (· ++ [x])).map lotD).length ≤ 16000000 then some (D.lst (ls.map lotD ++ (ls.map (· ++ [x])).map lotD)) else none) = _
      rw [if_pos (by simp only [List.length_map]; omega), List.map_append]
    generalize (ls ++ ls.map (· ++ [x])).map lotD = r1 at ha
    generalize (ls.map (· ++ [x])).map lotD = r2 at ha hq
    generalize ls.map lotD = r3 at ha hq
    simp [b__law_lots_1, dFun, sSeq, snext, sIf, sbind, sAsg, sRet, sSkip, sExpr, sPar, sSetI, sSetA, sAug, sFor, sTg, dVar, dC, dNil, dCons, dBind, obind, dTup, dLst, dFrz, MO.d, dReg, dFz, dOp1, dOp2, dCmp, dB2v, dTst, dAnd, dOr, dNot, dIf, dCall, dIx, dLook, dIsi, dIsi2, dIsC, dIn, dChn, dMut, lstOf, putO, dM1, tyOk, dNw1, dNw2, dSl, dP, dNoP, dIsN, dItQ, dItS, dRg1, dRg2, dEnum, dLc, dYes, noex, Tg.run, gSets, List.length_map, List.length_cons, List.length_nil, List.map_cons, List.map_nil, hq, ha]
theorem law_lots_ok {xs : List Nat} (h : xs.length ≤ 9) (mu : Store) : f__law_lots [lotD xs] mu = .ok (.lst ((lotsW xs [[]]).map lotD)) mu := by
  have hp : 2 ^ xs.length ≤ 2 ^ 9 := Nat.pow_le_pow_right (by decide) h
  obtain ⟨y2, e⟩ := lots_for mu (some (.val (lotD xs))) xs [[]] none (by simp; omega) (fun l hm => by
    have : l = [] := by simpa using hm
    subst this
    simp
    omega)
  have e' : sForL (.nm 2) b__law_lots_1 (intsN xs) [some (.val (lotD xs)), some (.val (.lst [.tup []])), none, none] mu = .nx [some (.val (lotD xs)), some (.val (.lst ((lotsW xs [[]]).map lotD))), y2, none] mu := e
  have hs : ∀ (sl : Sl) mu', sl[0]? = some (some (SV.val (lotD xs))) → dItQ (dVar 0) sl mu' = .ok (intsN xs) mu' := fun sl mu' h => by
    unfold dItQ dBind obind dVar
    rw [h]
    rfl
  generalize (lotsW xs [[]]).map lotD = r at e' ⊢
  clear hs e
  unfold lotD at e' ⊢
  simp [f__law_lots, g__law_lots, dFun, sSeq, snext, sIf, sbind, sAsg, sRet, sSkip, sExpr, sPar, sSetI, sSetA, sAug, sFor, sTg, dVar, dC, dNil, dCons, dBind, obind, dTup, dLst, dFrz, MO.d, dReg, dFz, dOp1, dOp2, dCmp, dB2v, dTst, dAnd, dOr, dNot, dIf, dCall, dIx, dLook, dIsi, dIsi2, dIsC, dIn, dChn, dMut, lstOf, putO, dM1, tyOk, dNw1, dNw2, dSl, dP, dNoP, dIsN, dItQ, dItS, dRg1, dRg2, dEnum, dLc, dYes, noex, Tg.run, gSets, List.length_map, List.length_cons, List.length_nil, List.map_cons, List.map_nil, e']
theorem asc_up {n m : Nat} (h : n ≤ m) {l : List Nat} (a : Asc n l) : Asc m l := ⟨a.pw, fun x hx => Nat.lt_of_lt_of_le (a.lt x hx) h⟩
theorem lotsW_asc : ∀ (m k : Nat) (ls : List (List Nat)), (∀ l ∈ ls, Asc k l) → ∀ l ∈ lotsW (List.range' k m) ls, Asc (k + m) l
  | 0, _, _, h, l, hl => h l hl
  | m + 1, k, ls, h, l, hl => by
    rw [List.range'_succ] at hl
    have := lotsW_asc m (k + 1) (ls ++ ls.map (· ++ [k])) (fun x hx => by
      rw [List.mem_append] at hx
      rcases hx with hx | hx
      · exact asc_up (Nat.le_succ k) (h x hx)
      · obtain ⟨y, hy, rfl⟩ := List.mem_map.mp hx
        have ay := h y hy
        exact ⟨by
          rw [List.pairwise_append]
          exact ⟨ay.pw, List.pairwise_singleton _ _, fun a ha b hb => by
            have : b = k := by simpa using hb
            subst this
            exact ay.lt a ha⟩, fun a ha => by
          rw [List.mem_append] at ha
          rcases ha with ha | ha
          · have := ay.lt a ha; omega
          · have : a = k := by simpa using ha
            omega⟩) l hl
    rw [show k + (m + 1) = k + 1 + m by omega]
    exact this
theorem lotsW_ne (xs : List Nat) : ∀ ls : List (List Nat), ls ≠ [] → lotsW xs ls ≠ [] := by
  induction xs with
  | nil => exact fun ls h => h
  | cons x xs ih => exact fun ls h => ih _ (by simp [h])
theorem lotsW_len (xs : List Nat) : ∀ ls : List (List Nat), (lotsW xs ls).length = ls.length * 2 ^ xs.length := by
  induction xs with
  | nil => intro ls; simp [lotsW]
  | cons x xs ih =>
    intro ls
    show (lotsW xs (ls ++ ls.map (· ++ [x]))).length = _
    rw [ih, List.length_append, List.length_map, List.length_cons, Nat.pow_succ, ← Nat.mul_two, Nat.mul_assoc, Nat.mul_comm 2]
/-- watchers are picked -/
theorem watch_ok {p : Pot} (h : p.Ok) {n : Nat} (hn : n ≤ 9) (r : Store) : ∃ ws p', f__law_pick [.obj 0, .lst ((lotsW (List.range n) [[]]).map lotD)] (mus p r) = .ok (lotD ws) (mus p' r) ∧ p'.Ok ∧ Asc n ws := by
  have hp : 2 ^ n ≤ 2 ^ 9 := Nat.pow_le_pow_right (by decide) hn
  obtain ⟨d, p', e, ok, hd⟩ := pick_lst h (l := (lotsW (List.range n) [[]]).map lotD) (by
    intro h0
    rw [List.map_eq_nil_iff] at h0
    exact lotsW_ne _ _ (by simp) h0) (by
    rw [List.length_map, lotsW_len, List.length_range]
    simp
    omega) r
  obtain ⟨ws, hw, rfl⟩ := List.mem_map.mp hd
  refine ⟨ws, p', e, ok, ?_⟩
  rw [List.range_eq_range'] at hw
  have := lotsW_asc n 0 [[]] (fun l hl => by
    have : l = [] := by simpa using hl
    subst this
    exact asc_nil 0) ws hw
  rwa [Nat.zero_add] at this
/-! ### another order -/
def natD : D → Nat
  | .int i => i.toNat
  | _ => 0
theorem mixed_nat {p : Pot} (h : p.Ok) {l : List Nat} (hl : l.length ≤ 1000) {r : Store} (hr : Shut r) : ∃ os p', f__law_mixed [.obj 0, .lst (intsN l)] (mus p r) = .ok (.lst (intsN os)) (mus p' r) ∧ p'.Ok ∧ os.Perm l := by
  obtain ⟨out, p', e, ok, hp⟩ := mixed_ok h (l := intsN l) (by rw [intsN_len]; exact hl) hr (fun d hd n => clL_mem (cl_intsN n l) hd)
  refine ⟨out.map natD, p', ?_, ok, ?_⟩
  · rw [e]
    congr 2
    unfold intsN
    rw [List.map_map]
    conv => lhs; rw [← List.map_id out]
    apply List.map_congr_left
    intro d hd
    obtain ⟨i, _, rfl⟩ := List.mem_map.mp (hp.mem_iff.mp hd)
    rfl
  · have h1 := hp.map natD
    have h2 : (intsN l).map natD = l := by
      unfold intsN
      rw [List.map_map]
      conv => rhs; rw [← List.map_id l]
      apply List.map_congr_left
      intro d _
      rfl
    rwa [h2] at h1
/-- an order of all places -/
structure Ord (n : Nat) (os : List Nat) : Prop where
  perm : os.Perm (List.range n)
theorem Ord.len {n : Nat} {os : List Nat} (h : Ord n os) : os.length = n := by rw [h.perm.length_eq, List.length_range]
theorem Ord.mem {n : Nat} {os : List Nat} (h : Ord n os) {a : Nat} : a ∈ os ↔ a < n := by rw [h.perm.mem_iff, List.mem_range]
theorem Ord.nd {n : Nat} {os : List Nat} (h : Ord n os) : os.Nodup := h.perm.nodup_iff.mpr List.nodup_range
def sg1 (os : List Nat) (a : Nat) : Nat := os.idxOf a
def ta1 (os : List Nat) (i : Nat) : Nat := os[i]?.getD 0
theorem Ord.lt {n : Nat} {os : List Nat} (h : Ord n os) {a : Nat} (ha : a < n) : sg1 os a < n := by
  have := List.idxOf_lt_length_of_mem (h.mem.mpr ha)
  rwa [h.len] at this
theorem Ord.get {n : Nat} {os : List Nat} (h : Ord n os) {i : Nat} (hi : i < n) : os[i]? = some (ta1 os i) := by
  have : i < os.length := by rw [h.len]; exact hi
  unfold ta1
  rw [List.getElem?_eq_getElem this]
  rfl
theorem Ord.lt' {n : Nat} {os : List Nat} (h : Ord n os) {i : Nat} (hi : i < n) : ta1 os i < n := h.mem.mp (List.mem_of_getElem? (h.get hi))
theorem Ord.st {n : Nat} {os : List Nat} (h : Ord n os) {i : Nat} (hi : i < n) : sg1 os (ta1 os i) = i := by
  have hl : i < os.length := by rw [h.len]; exact hi
  have e := h.get hi
  rw [List.getElem?_eq_getElem hl] at e
  have e' : ta1 os i = os[i] := (Option.some.inj e).symm
  unfold sg1
  rw [e']
  exact h.nd.idxOf_getElem i hl
theorem Ord.ts {n : Nat} {os : List Nat} (h : Ord n os) {a : Nat} (ha : a < n) : ta1 os (sg1 os a) = a := by
  have hm := h.mem.mpr ha
  have hl := List.idxOf_lt_length_of_mem hm
  unfold ta1 sg1
  rw [List.getElem?_eq_getElem hl]
  exact List.getElem_idxOf hl
/-- a road in the other order -/
def rd2 (os : List Nat) (q : Nat × Nat) : Nat × Nat := (min (sg1 os q.1) (sg1 os q.2), max (sg1 os q.1) (sg1 os q.2))
def fs2 (os : List Nat) (fs : List Str) : List Str := os.map fun i => fs[i]?.getD ""
theorem Ord.inj {n : Nat} {os : List Nat} (h : Ord n os) {a b : Nat} (ha : a < n) (hb : b < n) (e : sg1 os a = sg1 os b) : a = b := by
  rw [← h.ts ha, ← h.ts hb, e]
theorem Spec.lt {fs : List Str} {rs : List (Nat × Nat)} (h : Spec fs rs) : ∀ q ∈ rs, q.1 < q.2 ∧ q.2 < fs.length := fun q hq => mem_pairs.mp (h.sub.subset hq)
theorem Spec.web {fs : List Str} {rs : List (Nat × Nat)} (h : Spec fs rs) : Web fs rs := ⟨h.names, h.ne, (pairs_nodup _).sublist h.sub, h.lt, by
  have := h.sub.length_le
  have := pairs_len h.names.le
  omega⟩
theorem fs2_perm {fs : List Str} {os : List Nat} (h : Ord fs.length os) : (fs2 os fs).Perm fs := by
  have h1 := h.perm.map fun (i : Nat) => fs[i]?.getD ""
  have h2 : ((List.range fs.length).map fun (i : Nat) => fs[i]?.getD "") = fs := by
    apply List.ext_getElem?
    intro i
    rw [List.getElem?_map]
    by_cases hi : i < fs.length
    · rw [List.getElem?_range hi, List.getElem?_eq_getElem hi, Option.map_some, List.getElem?_eq_getElem hi]
      rfl
    · rw [List.getElem?_eq_none (by rw [List.length_range]; omega), List.getElem?_eq_none (by omega)]
      rfl
  rw [h2] at h1
  exact h1
theorem rd2_inj {n : Nat} {os : List Nat} (h : Ord n os) {q r : Nat × Nat} (hq : q.1 < q.2 ∧ q.2 < n) (hr : r.1 < r.2 ∧ r.2 < n) (e : rd2 os q = rd2 os r) : q = r := by
  have e1 : min (sg1 os q.1) (sg1 os q.2) = min (sg1 os r.1) (sg1 os r.2) := congrArg Prod.fst e
  have e2 : max (sg1 os q.1) (sg1 os q.2) = max (sg1 os r.1) (sg1 os r.2) := congrArg Prod.snd e
  have c : (sg1 os q.1 = sg1 os r.1 ∧ sg1 os q.2 = sg1 os r.2) ∨ (sg1 os q.1 = sg1 os r.2 ∧ sg1 os q.2 = sg1 os r.1) := by omega
  rcases c with ⟨c1, c2⟩ | ⟨c1, c2⟩
  · have a := h.inj (by omega) (by omega) c1
    have b := h.inj (by omega) (by omega) c2
    exact Prod.ext a b
  · have a := h.inj (by omega) (by omega) c1
    have b := h.inj (by omega) (by omega) c2
    omega
theorem rd2_lt {n : Nat} {os : List Nat} (h : Ord n os) {q : Nat × Nat} (hq : q.1 < q.2 ∧ q.2 < n) : (rd2 os q).1 < (rd2 os q).2 ∧ (rd2 os q).2 < n := by
  have h1 : sg1 os q.1 < n := h.lt (by omega)
  have h2 : sg1 os q.2 < n := h.lt (by omega)
  have h3 : sg1 os q.1 ≠ sg1 os q.2 := fun e => by
    have := h.inj (by omega) (by omega) e
    omega
  show min _ _ < max _ _ ∧ max _ _ < n
  omega
theorem web2 {fs : List Str} {rs : List (Nat × Nat)} (hs : Spec fs rs) {os : List Nat} (h : Ord fs.length os) : Web (fs2 os fs) (rs.map (rd2 os)) := by
  have hp := fs2_perm h
  have hl := hp.length_eq
  refine ⟨⟨fun x hx => hs.names.all x (hp.mem_iff.mp hx), hp.nodup_iff.mpr hs.names.nd, by rw [hl]; exact hs.names.le⟩, by rw [hl]; exact hs.ne, nodup_map_on (fun q hq r hr e => rd2_inj h (hs.lt q hq) (hs.lt r hr) e) ((pairs_nodup _).sublist hs.sub), fun q hq => ?_, ?_⟩
  · obtain ⟨q0, h0, rfl⟩ := List.mem_map.mp hq
    rw [hl]
    exact rd2_lt h (hs.lt q0 h0)
  · rw [List.length_map]
    exact hs.web.few
theorem ren2 {fs : List Str} {rs : List (Nat × Nat)} (hs : Spec fs rs) {os : List Nat} (h : Ord fs.length os) : Ren fs.length rs (rs.map (rd2 os)) (sg1 os) (ta1 os) := by
  refine ⟨hs.names.le, fun a ha => h.lt ha, fun a ha => h.lt' ha, fun a ha => h.st ha, fun a ha => h.ts ha, fun q hq => ?_, fun q hq => ?_, fun a b ha hb => ?_⟩
  · have := hs.lt q hq
    omega
  · obtain ⟨q0, h0, rfl⟩ := List.mem_map.mp hq
    have := rd2_lt h (hs.lt q0 h0)
    omega
  · constructor
    · rintro (e | e)
      · have he := hs.lt _ e
        have hm : rd2 os (a, b) ∈ rs.map (rd2 os) := List.mem_map.mpr ⟨_, e, rfl⟩
        by_cases hc : sg1 os a ≤ sg1 os b
        · rw [show rd2 os (a, b) = (sg1 os a, sg1 os b) from Prod.ext (Nat.min_eq_left hc) (Nat.max_eq_right hc)] at hm
          exact .inl hm
        · rw [show rd2 os (a, b) = (sg1 os b, sg1 os a) from Prod.ext (Nat.min_eq_right (Nat.le_of_not_le hc)) (Nat.max_eq_left (Nat.le_of_not_le hc))] at hm
          exact .inr hm
      · have hm : rd2 os (b, a) ∈ rs.map (rd2 os) := List.mem_map.mpr ⟨_, e, rfl⟩
        by_cases hc : sg1 os b ≤ sg1 os a
        · rw [show rd2 os (b, a) = (sg1 os b, sg1 os a) from Prod.ext (Nat.min_eq_left hc) (Nat.max_eq_right hc)] at hm
          exact .inr hm
        · rw [show rd2 os (b, a) = (sg1 os a, sg1 os b) from Prod.ext (Nat.min_eq_right (Nat.le_of_not_le hc)) (Nat.max_eq_left (Nat.le_of_not_le hc))] at hm
          exact .inl hm
    · have key : ∀ x y, x < fs.length → y < fs.length → (sg1 os x, sg1 os y) ∈ rs.map (rd2 os) → Adj rs x y := fun x y hx hy hm => by
        obtain ⟨q, hq, e⟩ := List.mem_map.mp hm
        have hq2 := hs.lt q hq
        have e1 : min (sg1 os q.1) (sg1 os q.2) = sg1 os x := congrArg Prod.fst e
        have e2 : max (sg1 os q.1) (sg1 os q.2) = sg1 os y := congrArg Prod.snd e
        have c : (sg1 os q.1 = sg1 os x ∧ sg1 os q.2 = sg1 os y) ∨ (sg1 os q.1 = sg1 os y ∧ sg1 os q.2 = sg1 os x) := by omega
        rcases c with ⟨c1, c2⟩ | ⟨c1, c2⟩
        · have a := h.inj (by omega) hx c1
          have b := h.inj (by omega) hy c2
          exact .inl (by rw [← a, ← b]; exact hq)
        · have a := h.inj (by omega) hy c1
          have b := h.inj (by omega) hx c2
          exact .inr (by rw [← a, ← b]; exact hq)
      rintro (e | e)
      · exact key a b ha hb e
      · exact (key b a hb ha e).symm
end DL
end

section
set_option Elab.async false
set_option linter.all false
set_option maxRecDepth 100000
set_option maxHeartbeats 4000000
namespace DL
open PySem
/-! R1: parts of the law k11 -/
theorem in_lot (x : Nat) (ws : List Nat) : inD (.int (x : Int)) (lotD ws) = some (decide (x ∈ ws)) := by
  unfold inD lotD
  dsimp only
  rw [toPL_intsN]
  have h3 : toP (.int (x : Int)) = some (.int (x : Int)) := rfl
  rw [h3]
  dsimp only
  rw [PySem.W.depth_ints, Nat.zero_min, if_pos (Nat.zero_le _)]
  congr 1
  rw [Bool.eq_iff_iff, List.any_eq_true, decide_eq_true_iff]
  constructor
  · rintro ⟨y, hy, e⟩
    obtain ⟨i, hi, rfl⟩ := List.mem_map.mp hy
    obtain ⟨k, hk, rfl⟩ := List.mem_map.mp hi
    have e' : ((k : Int) == (x : Int)) = true := e
    have : (k : Int) = (x : Int) := by simpa using e'
    have : k = x := by omega
    exact this ▸ hk
  · intro h
    refine ⟨.int (x : Int), List.mem_map.mpr ⟨(x : Int), List.mem_map.mpr ⟨x, h, rfl⟩, rfl⟩, ?_⟩
    show ((x : Int) == (x : Int)) = true
    simp
def prP (p : Nat × Nat) : PyData := .tuple [.int (p.1 : Int), .int (p.2 : Int)]
theorem toPL_intP : ∀ l : List (Nat × Nat), toPL (l.map intP) = some (l.map prP)
  | [] => rfl
  | p :: l => by
    rw [List.map_cons]
    unfold toPL
    rw [toPL_intP l]
    rfl
theorem depth_prP : ∀ l : List (Nat × Nat), PyData.depthAll (l.map prP) ≤ 1
  | [] => by simp [PyData.depthAll]
  | x :: l => by
    have := depth_prP l
    rw [List.map_cons]
    simp [PyData.depthAll, PyData.depth, prP]
    omega
theorem eqv_prP (p q : Nat × Nat) : PyData.eqv (prP p) (prP q) = decide (p = q) := by
  obtain ⟨a, b⟩ := p
  obtain ⟨c, d⟩ := q
  have h : PyData.eqv (prP (a, b)) (prP (c, d)) = (((a : Int) == (c : Int)) && (((b : Int) == (d : Int)) && true)) := by
    unfold prP
    simp [PyData.eqv, PyData.eqvAll]
  rw [h, Bool.eq_iff_iff]
  simp
  omega
theorem in_prs (p : Nat × Nat) (l : List (Nat × Nat)) : inD (.tup [.int (p.1 : Int), .int (p.2 : Int)]) (.tup (l.map intP)) = some (decide (p ∈ l)) := by
  unfold inD
  dsimp only
  rw [toPL_intP]
  have h3 : toP (.tup [.int (p.1 : Int), .int (p.2 : Int)]) = some (prP p) := rfl
  rw [h3]
  dsimp only
  have hd := depth_prP l
  rw [if_pos (by omega)]
  congr 1
  rw [Bool.eq_iff_iff, List.any_eq_true, decide_eq_true_iff]
  constructor
  · rintro ⟨y, hy, e⟩
    obtain ⟨q, hq, rfl⟩ := List.mem_map.mp hy
    rw [eqv_prP, decide_eq_true_iff] at e
    exact e ▸ hq
  · intro h
    exact ⟨prP p, List.mem_map.mpr ⟨p, h, rfl⟩, by rw [eqv_prP]; exact decide_eq_true rfl⟩
theorem canLay_prP : ∀ l : List (Nat × Nat), PyData.canLayAll0 (l.map prP) = true
  | [] => rfl
  | p :: l => by
    show (PyData.canLay0 (prP p) && PyData.canLayAll0 (l.map prP)) = true
    rw [canLay_prP l]
    rfl
theorem eq_tupP (l : List (Nat × Nat)) : eqD (.tup (l.map intP)) (.tup (l.map intP)) = some true := by
  unfold eqD toP
  rw [toPL_intP]
  dsimp only [Option.map_some]
  have hd := depth_prP l
  rw [if_pos (by unfold PyData.depth; omega)]
  congr 1
  exact PySem.SeqAt.eqv_refl _ (canLay_prP _)
theorem ne_of_eq {a b : D} (h : eqD a b = some true) : neD a b = some false := by
  unfold neD
  rw [h]
  rfl
theorem eq_opt (o : Option Nat) : eqD (optD o) (optD o) = some true := by
  have := eq_tv (a := .far o) (b := .far o) rfl
  rw [decide_eq_true rfl] at this
  exact this
theorem ne_lot_nil (ws : List Nat) : neD (lotD ws) (.tup []) = some (decide (ws ≠ [])) := by
  unfold neD eqD
  rw [toP_lotD]
  have h3 : toP (.tup []) = some (.tuple []) := rfl
  rw [h3]
  dsimp only
  have hd := depth_lot ws
  rw [if_pos (by omega)]
  cases ws with
  | nil => rfl
  | cons a l => simp [lotP, PyData.eqv, PyData.eqvAll]
theorem pick_tup {p : Pot} (h : p.Ok) {l : List D} (h0 : l ≠ []) (h1 : l.length < 2147483648) (r : Store) :
    ∃ d p', f__law_pick [.obj 0, .tup l] (mus p r) = .ok d (mus p' r) ∧ p'.Ok ∧ d ∈ l := by
  obtain ⟨v, p', e, ok, v0, v1⟩ := draw_ok h (many := (l.length : Int)) (by omega) (by omega) r
  have hl : 0 < l.length := List.length_pos_iff.mpr h0
  have hv : v < (l.length : Int) := by omega
  obtain ⟨j, ej⟩ : ∃ j : Nat, v = (j : Int) := ⟨v.toNat, by omega⟩
  subst ej
  have hj : j < l.length := by omega
  refine ⟨l[j], p', ?_, ok, List.getElem_mem hj⟩
  simp [f__law_pick, g__law_pick, dFun, sSeq, snext, sIf, sbind, sAsg, sRet, sSkip, sExpr, sPar, sSetI, sSetA, sAug, sFor, sTg, dVar, dC, dNil, dCons, dBind, obind, dTup, dLst, dFrz, MO.d, dReg, dFz, dOp1, dOp2, dCmp, dB2v, dTst, dAnd, dOr, dNot, dIf, dCall, dIx, dLook, lookD, dIsi, dIsi2, dIsC, dIn, dChn, dMut, lstOf, putO, dM1, tyOk, dNw1, dNw2, dSl, dP, dNoP, dIsN, dItQ, dItS, dRg1, dRg2, dEnum, dLc, dYes, noex, Tg.run, gSets, List.length_map, List.length_cons, List.length_nil, List.map_cons, List.map_nil, lenD, e, ixD, L2.atI, L2.ixN, hj]
theorem for_skip {α : Type} {tgt : Tg} {body : SF} {mu : Store} (e : α → D) (I : Sl → Prop) {ls : List α} {sl : Sl} (hI : I sl)
    (h : ∀ x ∈ ls, ∀ sl, I sl → ∃ sl1, tgt.run (e x) sl = some sl1 ∧ ∃ sl2, I sl2 ∧ body sl1 mu = .nx sl2 mu) : ∃ sl', I sl' ∧ sForL tgt body (ls.map e) sl mu = .nx sl' mu := by
  rcases for_find (tgt := tgt) (body := body) (mu := mu) e (fun _ => false) (fun _ => .non) I ls sl hI (fun x hx sl hs => by
    obtain ⟨sl1, e1, e2⟩ := h x hx sl hs
    exact ⟨sl1, e1, .inr ⟨rfl, e2⟩⟩) with ⟨x, g1, _⟩ | ⟨_, g2⟩
  · have := List.find?_some g1
    cases this
  · exact g2
theorem list_lot (ws : List Nat) : listD (lotD ws) = some (.lst (intsN ws)) := rfl
theorem tuple_lst (ws : List Nat) : tupleD (.lst (intsN ws)) = some (lotD ws) := rfl
theorem add_lst {ws : List Nat} {p : Nat} (h : ws.length ≤ 1000) : addD (.lst (intsN ws)) (.lst [.int (p : Int)]) = some (.lst (intsN (ws ++ [p]))) := by
  show (if (intsN ws).length + 1 ≤ 16000000 then some (D.lst (intsN ws ++ [.int (p : Int)])) else none) = _
  rw [intsN_len, if_pos (by omega)]
  unfold intsN
  simp
theorem sort_two {a b : Nat} (h : a ≠ b) : sortN [a, b] = [min a b, max a b] := by
  have h1 : Asc (a + b + 1) (sortN [a, b]) := sortN_asc (by simp [h]) (fun x hx => by
    have : x = a ∨ x = b := by simpa using hx
    omega)
  refine asc_ext h1.pw (by simp; omega) fun x => ?_
  rw [(sortN_perm _).mem_iff]
  simp
  omega
/-! the comprehensions of the law, its slots any -/
theorem q_k11_1 {fs : List Str} {rs : List (Nat × Nat)} (hs : Spec fs rs) {os : List Nat} (h : Ord fs.length os) {sl : Sl} (h3 : sl[3]? = some (some (.val (.lst (intsN os))))) (h10 : sl[10]? = some (some (.val (specD fs rs)))) (hz : sl.length = 22) (mu : Store) :
    q_law_k11_1 sl mu = .ok (.lst ((rs.map (rd2 os)).map pD)) mu := by
  have hx := spec_ix1 fs rs
  have := lc_mapA (src := dItQ (dIx (dVar 10) (dC (.int 1)))) (g := .tp [19, 20]) (own := [19, 20]) (elt := dOp1 tupleD (dLook (dFrz (dNw1 sortedD (dLook (dFrz (dLst (dCons (dM1 "list" indexD (dVar 3) (dVar 19)) (dCons (dM1 "list" indexD (dVar 3) (dVar 20)) dNil))))))))) (sl := sl) (mu := mu) (ls := rs) pD (fun q => pD (rd2 os q))
    (by
      generalize rs.map pD = r at hx
      simp [dFun, sSeq, snext, sIf, sbind, sAsg, sRet, sSkip, sExpr, sPar, sSetI, sSetA, sAug, sFor, sTg, dVar, dC, dNil, dCons, dBind, obind, dTup, dLst, dFrz, MO.d, dReg, dFz, dOp1, dOp2, dCmp, dB2v, dTst, dAnd, dOr, dNot, dIf, dCall, dIx, dLook, dIsi, dIsi2, dIsC, dIn, dChn, dMut, lstOf, putO, dM1, tyOk, dNw1, dNw2, dSl, dP, dNoP, dIsN, dItQ, dItS, dRg1, dRg2, dEnum, dLc, dYes, noex, Tg.run, gSets, List.length_map, List.length_cons, List.length_nil, List.map_cons, List.map_nil, h10, hx]) (by have := hs.web.few; omega) (fun q hq => by
      have hq2 := hs.lt q hq
      have i1 := index_nat (l := os) (x := q.1) (h.mem.mpr (by omega))
      have i2 := index_nat (l := os) (x := q.2) (h.mem.mpr (by omega))
      have hne : sg1 os q.1 ≠ sg1 os q.2 := fun e => by
        have := h.inj (by omega) (by omega) e
        omega
      have hsrt : sortedD (.lst [.int (os.idxOf q.1 : Int), .int (os.idxOf q.2 : Int)]) = some (.lst (intsN [min (sg1 os q.1) (sg1 os q.2), max (sg1 os q.1) (sg1 os q.2)])) := by
        have := sorted_nat [sg1 os q.1, sg1 os q.2]
        rw [sort_two hne] at this
        exact this
      have ht : ∀ l, tupleD (.lst (intsN l)) = some (lotD l) := fun _ => rfl
      have hty : tyOk "list" (.lst (intsN os)) = true := rfl
      refine ⟨((wipeS sl [19, 20]).set 19 (some (.val (.int (q.1 : Int))))).set 20 (some (.val (.int (q.2 : Int)))), rfl, ?_⟩
      have g3 : (((wipeS sl [19, 20]).set 19 (some (.val (.int (q.1 : Int))))).set 20 (some (.val (.int (q.2 : Int)))))[3]? = some (some (.val (.lst (intsN os)))) := by
        simp [wipeS, h3]
      have g19 : (((wipeS sl [19, 20]).set 19 (some (.val (.int (q.1 : Int))))).set 20 (some (.val (.int (q.2 : Int)))))[19]? = some (some (.val (.int (q.1 : Int)))) := by
        simp [wipeS, hz]
      have g20 : (((wipeS sl [19, 20]).set 19 (some (.val (.int (q.1 : Int))))).set 20 (some (.val (.int (q.2 : Int)))))[20]? = some (some (.val (.int (q.2 : Int)))) := by
        simp [wipeS, hz]
      generalize ((wipeS sl [19, 20]).set 19 (some (.val (.int (q.1 : Int))))).set 20 (some (.val (.int (q.2 : Int)))) = s2 at g3 g19 g20
      simp [dOp1, dLook, dFrz, dNw1, dLst, dCons, dNil, dM1, dBind, obind, dVar, g3, g19, g20, hty, i1, i2, hsrt, ht, MO.d]
      rfl)
  rw [show q_law_k11_1 = dLc (dItQ (dIx (dVar 10) (dC (.int 1)))) (.tp [19, 20]) [19, 20] dYes (dOp1 tupleD (dLook (dFrz (dNw1 sortedD (dLook (dFrz (dLst (dCons (dM1 "list" indexD (dVar 3) (dVar 19)) (dCons (dM1 "list" indexD (dVar 3) (dVar 20)) dNil))))))))) from rfl, this, List.map_map]
  rfl
theorem q_k11_2 {fs : List Str} {rs : List (Nat × Nat)} (hs : Spec fs rs) {os : List Nat} (h : Ord fs.length os) {sl : Sl} (h3 : sl[3]? = some (some (.val (.lst (intsN os))))) (h10 : sl[10]? = some (some (.val (specD fs rs)))) (hz : sl.length = 22) (mu : Store) :
    q_law_k11_2 sl mu = .ok (.lst ((fs2 os fs).map D.str)) mu := by
  have hx := spec_ix0 fs rs
  have := lc_mapA (src := dItQ (dVar 3)) (g := .nm 21) (own := [21]) (elt := dIx (dIx (dVar 10) (dC (.int 0))) (dVar 21)) (sl := sl) (mu := mu) (ls := os) (fun (i : Nat) => D.int (i : Int)) (fun i => D.str (fs[i]?.getD ""))
    (by
      show dItQ (dVar 3) sl mu = .ok (intsN os) mu
      generalize intsN os = r at h3
      simp [dFun, sSeq, snext, sIf, sbind, sAsg, sRet, sSkip, sExpr, sPar, sSetI, sSetA, sAug, sFor, sTg, dVar, dC, dNil, dCons, dBind, obind, dTup, dLst, dFrz, MO.d, dReg, dFz, dOp1, dOp2, dCmp, dB2v, dTst, dAnd, dOr, dNot, dIf, dCall, dIx, dLook, dIsi, dIsi2, dIsC, dIn, dChn, dMut, lstOf, putO, dM1, tyOk, dNw1, dNw2, dSl, dP, dNoP, dIsN, dItQ, dItS, dRg1, dRg2, dEnum, dLc, dYes, noex, Tg.run, gSets, List.length_map, List.length_cons, List.length_nil, List.map_cons, List.map_nil, h3]) (by rw [h.len]; have := hs.names.le; omega) (fun i hi => by
      have hi' := h.mem.mp hi
      have e : (fs.map D.str)[i]? = some (.str (fs[i]?.getD "")) := by
        rw [List.getElem?_map, List.getElem?_eq_getElem hi']
        rfl
      have i1 := ix_nat e
      refine ⟨(wipeS sl [21]).set 21 (some (.val (.int (i : Int)))), rfl, ?_⟩
      have g10 : ((wipeS sl [21]).set 21 (some (.val (.int (i : Int)))))[10]? = some (some (.val (specD fs rs))) := by simp [wipeS, h10]
      have g21 : ((wipeS sl [21]).set 21 (some (.val (.int (i : Int)))))[21]? = some (some (.val (.int (i : Int)))) := by simp [wipeS, hz]
      generalize (wipeS sl [21]).set 21 (some (.val (.int (i : Int)))) = s2 at g10 g21
      generalize fs.map D.str = r at hx i1
      simp [dIx, dBind, obind, dVar, dC, g10, g21, hx, i1])
  rw [show q_law_k11_2 = dLc (dItQ (dVar 3)) (.nm 21) [21] dYes (dIx (dIx (dVar 10) (dC (.int 0))) (dVar 21)) from rfl, this]
  unfold fs2
  rw [List.map_map]
  rfl
theorem q_k11_3 {n : Nat} {os : List Nat} (h : Ord n os) (hn : n ≤ 9) {ws : List Nat} (hw : ∀ x ∈ ws, x < n) (hwz : ws.length ≤ 9) {sl : Sl} (h3 : sl[3]? = some (some (.val (.lst (intsN os))))) (h2 : sl[2]? = some (some (.val (lotD ws)))) (hz : sl.length = 22) (mu : Store) :
    q_law_k11_3 sl mu = .ok (.lst (intsN (ws.map (sg1 os)))) mu := by
  have := lc_mapA (src := dItQ (dVar 2)) (g := .nm 9) (own := [9]) (elt := dM1 "list" indexD (dVar 3) (dVar 9)) (sl := sl) (mu := mu) (ls := ws) (fun (i : Nat) => D.int (i : Int)) (fun i => D.int (sg1 os i : Int))
    (by
      show dItQ (dVar 2) sl mu = .ok (intsN ws) mu
      unfold lotD at h2
      generalize intsN ws = r at h2
      simp [dFun, sSeq, snext, sIf, sbind, sAsg, sRet, sSkip, sExpr, sPar, sSetI, sSetA, sAug, sFor, sTg, dVar, dC, dNil, dCons, dBind, obind, dTup, dLst, dFrz, MO.d, dReg, dFz, dOp1, dOp2, dCmp, dB2v, dTst, dAnd, dOr, dNot, dIf, dCall, dIx, dLook, dIsi, dIsi2, dIsC, dIn, dChn, dMut, lstOf, putO, dM1, tyOk, dNw1, dNw2, dSl, dP, dNoP, dIsN, dItQ, dItS, dRg1, dRg2, dEnum, dLc, dYes, noex, Tg.run, gSets, List.length_map, List.length_cons, List.length_nil, List.map_cons, List.map_nil, h2]) (by omega) (fun i hi => by
      have i1 := index_nat (l := os) (x := i) (h.mem.mpr (hw i hi))
      have hty : tyOk "list" (.lst (intsN os)) = true := rfl
      refine ⟨(wipeS sl [9]).set 9 (some (.val (.int (i : Int)))), rfl, ?_⟩
      have g3 : ((wipeS sl [9]).set 9 (some (.val (.int (i : Int)))))[3]? = some (some (.val (.lst (intsN os)))) := by simp [wipeS, h3]
      have g9 : ((wipeS sl [9]).set 9 (some (.val (.int (i : Int)))))[9]? = some (some (.val (.int (i : Int)))) := by simp [wipeS, hz]
      generalize (wipeS sl [9]).set 9 (some (.val (.int (i : Int)))) = s2 at g3 g9
      simp [dM1, dBind, obind, dVar, g3, g9, hty, i1]
      rfl)
  rw [show q_law_k11_3 = dLc (dItQ (dVar 2)) (.nm 9) [9] dYes (dM1 "list" indexD (dVar 3) (dVar 9)) from rfl, this]
  unfold intsN
  rw [List.map_map]
  rfl
theorem q_k11_4 {fs : List Str} {rs : List (Nat × Nat)} (hs : Spec fs rs) {os : List Nat} (h : Ord fs.length os) {t : Tk} {ws : List Nat} (hw : Asc fs.length ws) {sl : Sl} (h3 : sl[3]? = some (some (.val (.lst (intsN os))))) (h5 : sl[5]? = some (some (.val (webD (fs2 os fs) (rs.map (rd2 os)))))) (h13 : sl[13]? = some (some (.val (tkD t)))) (h6 : sl[6]? = some (some (.val (lotD ws)))) (hz : sl.length = 22) {mu : Store} (hp : Pl mu) :
    q_law_k11_4 sl mu = .ok (.lst (intsN ((spareT fs.length (rs.map (rd2 os)) t ws).map (ta1 os)))) mu := by
  have hl := (fs2_perm h).length_eq
  have es := spare_ok (fs := fs2 os fs) (rs.map (rd2 os)) (by rw [hl]; exact hs.names.le) t (ws := ws) (by rw [hl]; exact hw) hp
  rw [hl] at es
  have hsub : ∀ x ∈ spareT fs.length (rs.map (rd2 os)) t ws, x < fs.length := fun x hx => hw.lt x (List.mem_filter.mp hx).1
  have hle : (spareT fs.length (rs.map (rd2 os)) t ws).length ≤ fs.length := Nat.le_trans (List.length_filter_le _ _) (asc_len hw)
  have := lc_mapA (src := dItQ (dCall f_spare (dCons (dVar 5) (dCons (dVar 13) (dCons (dVar 6) dNil))))) (g := .nm 9) (own := [9]) (elt := dIx (dVar 3) (dVar 9)) (sl := sl) (mu := mu) (ls := spareT fs.length (rs.map (rd2 os)) t ws) (fun (i : Nat) => D.int (i : Int)) (fun i => D.int (ta1 os i : Int))
    (by
      show dItQ _ sl mu = .ok (intsN _) mu
      have hlt : ∀ l, lotD l = .tup (intsN l) := fun _ => rfl
      rw [hlt (spareT fs.length (rs.map (rd2 os)) t ws)] at es
      generalize intsN (spareT fs.length (rs.map (rd2 os)) t ws) = r at es
      simp [dFun, sSeq, snext, sIf, sbind, sAsg, sRet, sSkip, sExpr, sPar, sSetI, sSetA, sAug, sFor, sTg, dVar, dC, dNil, dCons, dBind, obind, dTup, dLst, dFrz, MO.d, dReg, dFz, dOp1, dOp2, dCmp, dB2v, dTst, dAnd, dOr, dNot, dIf, dCall, dIx, dLook, dIsi, dIsi2, dIsC, dIn, dChn, dMut, lstOf, putO, dM1, tyOk, dNw1, dNw2, dSl, dP, dNoP, dIsN, dItQ, dItS, dRg1, dRg2, dEnum, dLc, dYes, noex, Tg.run, gSets, List.length_map, List.length_cons, List.length_nil, List.map_cons, List.map_nil, h5, h13, h6, es]) (by have := hs.names.le; omega) (fun i hi => by
      have i1 := ix_nat (intsN_get (h.get (hsub i hi)))
      refine ⟨(wipeS sl [9]).set 9 (some (.val (.int (i : Int)))), rfl, ?_⟩
      have g3 : ((wipeS sl [9]).set 9 (some (.val (.int (i : Int)))))[3]? = some (some (.val (.lst (intsN os)))) := by simp [wipeS, h3]
      have g9 : ((wipeS sl [9]).set 9 (some (.val (.int (i : Int)))))[9]? = some (some (.val (.int (i : Int)))) := by simp [wipeS, hz]
      generalize (wipeS sl [9]).set 9 (some (.val (.int (i : Int)))) = s2 at g3 g9
      simp [dIx, dBind, obind, dVar, g3, g9, i1])
  rw [show q_law_k11_4 = dLc (dItQ (dCall f_spare (dCons (dVar 5) (dCons (dVar 13) (dCons (dVar 6) dNil))))) (.nm 9) [9] dYes (dIx (dVar 3) (dVar 9)) from rfl, this]
  unfold intsN
  rw [List.map_map]
  rfl
theorem q_k11_5 {ws : List Nat} (hwz : ws.length ≤ 9) {x : Nat} {sl : Sl} (h2 : sl[2]? = some (some (.val (lotD ws)))) (h17 : sl[17]? = some (some (.val (.int (x : Int))))) (hz : sl.length = 22) (mu : Store) :
    q_law_k11_5 sl mu = .ok (.lst (intsN (ws.filter fun w => decide (w ≠ x)))) mu := by
  have := lc_map (src := dItQ (dVar 2)) (g := .nm 9) (own := [9]) (c := dCmp neD (dVar 9) (dVar 17)) (elt := dVar 9) (sl := sl) (mu := mu) (ls := ws) (fun (i : Nat) => D.int (i : Int)) (fun i => if i ≠ x then some (D.int (i : Int)) else none)
    (by
      show dItQ (dVar 2) sl mu = .ok (intsN ws) mu
      unfold lotD at h2
      generalize intsN ws = r at h2
      simp [dFun, sSeq, snext, sIf, sbind, sAsg, sRet, sSkip, sExpr, sPar, sSetI, sSetA, sAug, sFor, sTg, dVar, dC, dNil, dCons, dBind, obind, dTup, dLst, dFrz, MO.d, dReg, dFz, dOp1, dOp2, dCmp, dB2v, dTst, dAnd, dOr, dNot, dIf, dCall, dIx, dLook, dIsi, dIsi2, dIsC, dIn, dChn, dMut, lstOf, putO, dM1, tyOk, dNw1, dNw2, dSl, dP, dNoP, dIsN, dItQ, dItS, dRg1, dRg2, dEnum, dLc, dYes, noex, Tg.run, gSets, List.length_map, List.length_cons, List.length_nil, List.map_cons, List.map_nil, h2]) (by omega) (fun i hi => by
      refine ⟨(wipeS sl [9]).set 9 (some (.val (.int (i : Int)))), rfl, ?_⟩
      have g17 : ((wipeS sl [9]).set 9 (some (.val (.int (i : Int)))))[17]? = some (some (.val (.int (x : Int)))) := by simp [wipeS, h17]
      have g9 : ((wipeS sl [9]).set 9 (some (.val (.int (i : Int)))))[9]? = some (some (.val (.int (i : Int)))) := by simp [wipeS, hz]
      generalize (wipeS sl [9]).set 9 (some (.val (.int (i : Int)))) = s2 at g17 g9
      by_cases hix : i = x
      · subst hix
        refine .inr ⟨by simp, ?_⟩
        simp [dCmp, dBind, obind, dVar, g17, g9, ne_int]
      · have : neD (.int (i : Int)) (.int (x : Int)) = some true := by
          unfold neD
          rw [eq_ints, decide_eq_false (by omega)]
          rfl
        refine .inl ⟨_, if_pos hix, ?_, ?_⟩
        · simp [dCmp, dBind, obind, dVar, g17, g9, this]
        · simp [dVar, g9])
  rw [show q_law_k11_5 = dLc (dItQ (dVar 2)) (.nm 9) [9] (dCmp neD (dVar 9) (dVar 17)) (dVar 9) from rfl, this]
  congr 2
  clear this h2
  induction ws with
  | nil => rfl
  | cons w ws ih =>
    have ih := ih (by rw [List.length_cons] at hwz; omega)
    by_cases hix : w = x
    · rw [List.filterMap_cons_none (by simp [hix]), ih, List.filter_cons_of_neg (by simp [hix])]
    · rw [List.filterMap_cons_some (f := fun i : Nat => if i ≠ x then some (D.int (i : Int)) else none) (b := D.int (w : Int)) (if_pos hix), ih, List.filter_cons_of_pos (by simp [hix])]
      rfl
end DL
end

section
set_option Elab.async false
set_option linter.all false
set_option maxRecDepth 100000
set_option maxHeartbeats 4000000
namespace DL
open PySem
/-! R2: the law k11 always answers true -/
def z0 : SF :=
  (sAsg 1 (dCall f__law_pot (dCons (dVar 0) dNil)))
def z1 : SF :=
  (sTg (.tp [10, 11]) (dTup (dCons (dCall f__law_spec (dCons (dVar 1) (dCons (dC (.int 4)) dNil))) (dCons (dCall f__law_task (dCons (dVar 1) (dCons (dC (.int 2)) dNil))) dNil))))
def z2 : SF :=
  (sPar3 12 13 14 (dCall f__law_made (dCons (dVar 10) dNil)) (dCall f__law_set (dCons (dVar 11) dNil)) (dOp1 lenD (dLook (dIx (dVar 10) (dC (.int 0))))))
def z3 : SF :=
  (sAsg 2 (dCall f__law_pick (dCons (dVar 1) (dCons (dCall f__law_lots (dCons (dCall f__law_all (dCons (dVar 10) dNil)) dNil)) dNil))))
def z4 : SF :=
  (sAsg 3 (dCall f__law_mixed (dCons (dVar 1) (dCons (dFrz (dLstRg (dVar 14))) dNil))))
def z5 : SF :=
  (sAsg 4 (dFrz q_law_k11_1))
def z6 : SF :=
  (sAsg 5 (dCall f__law_made (dCons (dFrz (dLst (dCons (dFrz q_law_k11_2) (dCons (dVar 4) dNil)))) dNil)))
def z7 : SF :=
  (sAsg 6 (dOp1 tupleD (dLook (dFrz (dNw1 sortedD (dLook (dFrz q_law_k11_3)))))))
def z8 : SF :=
  (sIf (dOr (dCmp neD (dCall f_gap (dCons (dVar 5) (dCons (dVar 13) (dCons (dVar 6) dNil)))) (dCall f_gap (dCons (dVar 12) (dCons (dVar 13) (dCons (dVar 2) dNil))))) (dCmp neD (dCall f_bears (dCons (dVar 5) (dCons (dVar 13) (dCons (dVar 6) dNil)))) (dCall f_bears (dCons (dVar 12) (dCons (dVar 13) (dCons (dVar 2) dNil)))))) (sRet (dC (.bl false))) sSkip)
def z9 : SF :=
  (sIf (dCmp neD (dFrz (dNw1 sortedD (dLook (dFrz q_law_k11_4)))) (dFrz (dNw1 listD (dLook (dCall f_spare (dCons (dVar 12) (dCons (dVar 13) (dCons (dVar 2) dNil)))))))) (sRet (dC (.bl false))) sSkip)
def z10 : SF :=
  (sAsg 7 (dCall f_fewest (dCons (dVar 12) (dCons (dVar 13) dNil))))
def z11 : SF :=
  (sIf (dNot (dTst (dCall f__law_same (dCons (dCall f_fewest (dCons (dVar 5) (dCons (dVar 13) dNil))) (dCons (dVar 7) dNil))))) (sRet (dC (.bl false))) sSkip)
def z12 : SF :=
  (sFor (dItQ (dTup (dCons (dC (.int 2)) (dCons (dC (.int 3)) (dCons (dC (.int 4)) dNil))))) (.nm 8) b_law_k11_1)
def z13 : SF :=
  (sFor (dItQ (dCall f__law_all (dCons (dVar 10) dNil))) (.nm 9) b_law_k11_2)
def z14 : SF :=
  (sIf (dAnd (dIsN (dCall f_clash (dCons (dVar 12) (dCons (dVar 13) (dCons (dVar 2) dNil))))) (dAnd (dCmp gtI (dIx (dVar 11) (dC (.int 3))) (dC (.int 0))) (dCmp neD (dVar 2) (dTup dNil)))) (sSeq (sAsg 17 (dCall f__law_pick (dCons (dVar 1) (dCons (dVar 2) dNil))))
  (sSeq (sAsg 18 (dCall f__law_set (dCons (dOp2 addD (dSl (dVar 11) dNoP (dP (dC (.int 3)))) (dFrz (dLst (dCons (dOp2 subD (dIx (dVar 11) (dC (.int 3))) (dC (.int 1))) (dCons (dIx (dVar 11) (dC (.int 4))) dNil))))) dNil)))
  (sIf (dNotN (dCall f_clash (dCons (dVar 12) (dCons (dVar 18) (dCons (dOp1 tupleD (dLook (dFrz q_law_k11_5))) dNil))))) (sRet (dC (.bl false))) sSkip))) sSkip)
def z15 : SF :=
  (sRet (dB2v (dCmp eqD (dB2v (dIsN (dCall f_clash (dCons (dVar 12) (dCons (dVar 13) (dCons (dVar 2) dNil)))))) (dB2v (dIn false (dTup (dCons (dIx (dVar 11) (dC (.int 3))) (dCons (dIx (dVar 11) (dC (.int 4))) dNil))) (dLook (dCall f_bears (dCons (dVar 12) (dCons (dVar 13) (dCons (dVar 2) dNil))))))))))
theorem g_eq : g_law_k11 = (sSeq z0 (sSeq z1 (sSeq z2 (sSeq z3 (sSeq z4 (sSeq z5 (sSeq z6 (sSeq z7 (sSeq z8 (sSeq z9 (sSeq z10 (sSeq z11 (sSeq z12 (sSeq z13 (sSeq z14 z15))))))))))))))) := rfl

def sl0 (ns : List Int) : Sl := [(some (.val (.frl (ns.map D.int)))), none, none, none, none, none, none, none, none, none, none, none, none, none, none, none, none, none, none, none, none, none]
def sl1 (ns : List Int) : Sl := [(some (.val (.frl (ns.map D.int)))), (some (.val (.obj 0))), none, none, none, none, none, none, none, none, none, none, none, none, none, none, none, none, none, none, none, none]
def sl2 (ns : List Int) (fs : List Str) (rs : Rds) (t : Tk) : Sl := [(some (.val (.frl (ns.map D.int)))), (some (.val (.obj 0))), none, none, none, none, none, none, none, none, (some (.val (specD fs rs))), (some (.val (.lst t.l))), none, none, none, none, none, none, none, none, none, none]
def sl3 (ns : List Int) (fs : List Str) (rs : Rds) (t : Tk) : Sl := [(some (.val (.frl (ns.map D.int)))), (some (.val (.obj 0))), none, none, none, none, none, none, none, none, (some (.val (specD fs rs))), (some (.val (.lst t.l))), (some (.val (webD fs rs))), (some (.val (tkD t))), (some (.val (.int (fs.length : Int)))), none, none, none, none, none, none, none]
def sl4 (ns : List Int) (fs : List Str) (rs : Rds) (t : Tk) (ws : List Nat) : Sl := [(some (.val (.frl (ns.map D.int)))), (some (.val (.obj 0))), (some (.val (lotD ws))), none, none, none, none, none, none, none, (some (.val (specD fs rs))), (some (.val (.lst t.l))), (some (.val (webD fs rs))), (some (.val (tkD t))), (some (.val (.int (fs.length : Int)))), none, none, none, none, none, none, none]
def sl5 (ns : List Int) (fs : List Str) (rs : Rds) (t : Tk) (ws os : List Nat) : Sl := [(some (.val (.frl (ns.map D.int)))), (some (.val (.obj 0))), (some (.val (lotD ws))), (some (.val (.lst (intsN os)))), none, none, none, none, none, none, (some (.val (specD fs rs))), (some (.val (.lst t.l))), (some (.val (webD fs rs))), (some (.val (tkD t))), (some (.val (.int (fs.length : Int)))), none, none, none, none, none, none, none]
def sl6 (ns : List Int) (fs : List Str) (rs : Rds) (t : Tk) (ws os : List Nat) : Sl := [(some (.val (.frl (ns.map D.int)))), (some (.val (.obj 0))), (some (.val (lotD ws))), (some (.val (.lst (intsN os)))), (some (.val (.lst ((rs.map (rd2 os)).map pD)))), none, none, none, none, none, (some (.val (specD fs rs))), (some (.val (.lst t.l))), (some (.val (webD fs rs))), (some (.val (tkD t))), (some (.val (.int (fs.length : Int)))), none, none, none, none, none, none, none]
def sl7 (ns : List Int) (fs : List Str) (rs : Rds) (t : Tk) (ws os : List Nat) : Sl := [(some (.val (.frl (ns.map D.int)))), (some (.val (.obj 0))), (some (.val (lotD ws))), (some (.val (.lst (intsN os)))), (some (.val (.lst ((rs.map (rd2 os)).map pD)))), (some (.val (webD (fs2 os fs) (rs.map (rd2 os))))), none, none, none, none, (some (.val (specD fs rs))), (some (.val (.lst t.l))), (some (.val (webD fs rs))), (some (.val (tkD t))), (some (.val (.int (fs.length : Int)))), none, none, none, none, none, none, none]
def sl8 (ns : List Int) (fs : List Str) (rs : Rds) (t : Tk) (ws os : List Nat) : Sl := [(some (.val (.frl (ns.map D.int)))), (some (.val (.obj 0))), (some (.val (lotD ws))), (some (.val (.lst (intsN os)))), (some (.val (.lst ((rs.map (rd2 os)).map pD)))), (some (.val (webD (fs2 os fs) (rs.map (rd2 os))))), (some (.val (lotD (sortN (ws.map (sg1 os)))))), none, none, none, (some (.val (specD fs rs))), (some (.val (.lst t.l))), (some (.val (webD fs rs))), (some (.val (tkD t))), (some (.val (.int (fs.length : Int)))), none, none, none, none, none, none, none]
def slX (ns : List Int) (fs : List Str) (rs : Rds) (t : Tk) (ws os : List Nat) (x8 x9 x15 x16 x17 x18 : Option SV) : Sl := [(some (.val (.frl (ns.map D.int)))), (some (.val (.obj 0))), (some (.val (lotD ws))), (some (.val (.lst (intsN os)))), (some (.val (.lst ((rs.map (rd2 os)).map pD)))), (some (.val (webD (fs2 os fs) (rs.map (rd2 os))))), (some (.val (lotD (sortN (ws.map (sg1 os)))))), (some (.val (optD (fewN fs.length rs t)))), x8, x9, (some (.val (specD fs rs))), (some (.val (.lst t.l))), (some (.val (webD fs rs))), (some (.val (tkD t))), (some (.val (.int (fs.length : Int)))), x15, x16, x17, x18, none, none, none]
variable {ns : List Int} {fs : List Str} {rs : Rds} {t : Tk} {ws os : List Nat} {p : Pot}
theorem pl_mus (p : Pot) : Pl (mus p []) := mus_all fun _ => rfl
theorem ks0 (e : f__law_pot [.frl (ns.map D.int)] [] = .ok (.obj 0) (mus p [])) : z0 (sl0 ns) [] = .nx (sl1 ns) (mus p []) := by
  generalize h : D.frl (ns.map D.int) = a0 at *
  simp [z0, sl0, sl1, h, dFun, sSeq, snext, sIf, sbind, sAsg, sRet, sSkip, sExpr, sPar, sSetI, sSetA, sAug, sFor, sTg, dVar, dC, dNil, dCons, dBind, obind, dTup, dLst, dFrz, MO.d, dReg, dFz, dOp1, dOp2, dCmp, dB2v, dTst, dAnd, dOr, dNot, dIf, dCall, dIx, dLook, dIsi, dIsi2, dIsC, dIn, dChn, dMut, lstOf, putO, dM1, tyOk, dNw1, dNw2, dSl, dP, dNoP, dIsN, dItQ, dItS, dRg1, dRg2, dEnum, dLc, dYes, noex, Tg.run, gSets, List.length_map, List.length_cons, List.length_nil, List.map_cons, List.map_nil, e]
theorem ks1 {p1 p2 : Pot} (e1 : f__law_spec [.obj 0, .int 4] (mus p []) = .ok (specD fs rs) (mus p1 [])) (e2 : f__law_task [.obj 0, .int 2] (mus p1 []) = .ok (.lst t.l) (mus p2 [])) : z1 (sl1 ns) (mus p []) = .nx (sl2 ns fs rs t) (mus p2 []) := by
  simp [z1, sl1, sl2, sTg, dFun, sSeq, snext, sIf, sbind, sAsg, sRet, sSkip, sExpr, sPar, sSetI, sSetA, sAug, sFor, sTg, dVar, dC, dNil, dCons, dBind, obind, dTup, dLst, dFrz, MO.d, dReg, dFz, dOp1, dOp2, dCmp, dB2v, dTst, dAnd, dOr, dNot, dIf, dCall, dIx, dLook, dIsi, dIsi2, dIsC, dIn, dChn, dMut, lstOf, putO, dM1, tyOk, dNw1, dNw2, dSl, dP, dNoP, dIsN, dItQ, dItS, dRg1, dRg2, dEnum, dLc, dYes, noex, Tg.run, gSets, List.length_map, List.length_cons, List.length_nil, List.map_cons, List.map_nil, e1, e2]
theorem ks2 (hs : Spec fs rs) (ht : t.Ok) : z2 (sl2 ns fs rs t) (mus p []) = .nx (sl3 ns fs rs t) (mus p []) := by
  have e1 := made_ok hs.web (pl_mus p)
  have e2 := set_ok ht (pl_mus p)
  have hx := spec_ix0 fs rs
  have hn := len_strs fs
  unfold sl2 sl3
  generalize fs.map D.str = r at hx hn
  simp [z2, sPar3, dFun, sSeq, snext, sIf, sbind, sAsg, sRet, sSkip, sExpr, sPar, sSetI, sSetA, sAug, sFor, sTg, dVar, dC, dNil, dCons, dBind, obind, dTup, dLst, dFrz, MO.d, dReg, dFz, dOp1, dOp2, dCmp, dB2v, dTst, dAnd, dOr, dNot, dIf, dCall, dIx, dLook, dIsi, dIsi2, dIsC, dIn, dChn, dMut, lstOf, putO, dM1, tyOk, dNw1, dNw2, dSl, dP, dNoP, dIsN, dItQ, dItS, dRg1, dRg2, dEnum, dLc, dYes, noex, Tg.run, gSets, List.length_map, List.length_cons, List.length_nil, List.map_cons, List.map_nil, e1, e2, hx, hn]
theorem ks3 {p1 : Pot} (hs : Spec fs rs) (e : f__law_pick [.obj 0, .lst ((lotsW (List.range fs.length) [[]]).map lotD)] (mus p []) = .ok (lotD ws) (mus p1 [])) : z3 (sl3 ns fs rs t) (mus p []) = .nx (sl4 ns fs rs t ws) (mus p1 []) := by
  have h9 := hs.names.le
  have e1 := law_all_ok (fs := fs) rs (by omega) (mus p [])
  have e2 := law_lots_ok (xs := List.range fs.length) (by rw [List.length_range]; exact h9) (mus p [])
  generalize (lotsW (List.range fs.length) [[]]).map lotD = r at e e2
  simp [z3, sl3, sl4, dFun, sSeq, snext, sIf, sbind, sAsg, sRet, sSkip, sExpr, sPar, sSetI, sSetA, sAug, sFor, sTg, dVar, dC, dNil, dCons, dBind, obind, dTup, dLst, dFrz, MO.d, dReg, dFz, dOp1, dOp2, dCmp, dB2v, dTst, dAnd, dOr, dNot, dIf, dCall, dIx, dLook, dIsi, dIsi2, dIsC, dIn, dChn, dMut, lstOf, putO, dM1, tyOk, dNw1, dNw2, dSl, dP, dNoP, dIsN, dItQ, dItS, dRg1, dRg2, dEnum, dLc, dYes, noex, Tg.run, gSets, List.length_map, List.length_cons, List.length_nil, List.map_cons, List.map_nil, e, e1, e2]
theorem ks4 {p1 : Pot} (hs : Spec fs rs) (e : f__law_mixed [.obj 0, .lst (intsN (List.range fs.length))] (mus p []) = .ok (.lst (intsN os)) (mus p1 [])) : z4 (sl4 ns fs rs t ws) (mus p []) = .nx (sl5 ns fs rs t ws os) (mus p1 []) := by
  have h9 := hs.names.le
  have r1 : rgOk (fs.length : Int) = true := rgOk_nat (by omega)
  have h2 : (fs.length : Int) ≤ 16000000 := by omega
  have hr : rangeD 0 fs.length = intsN (List.range fs.length) := rangeD0 _
  generalize intsN (List.range fs.length) = r at e hr
  simp [z4, sl4, sl5, dLstRg, dFun, sSeq, snext, sIf, sbind, sAsg, sRet, sSkip, sExpr, sPar, sSetI, sSetA, sAug, sFor, sTg, dVar, dC, dNil, dCons, dBind, obind, dTup, dLst, dFrz, MO.d, dReg, dFz, dOp1, dOp2, dCmp, dB2v, dTst, dAnd, dOr, dNot, dIf, dCall, dIx, dLook, dIsi, dIsi2, dIsC, dIn, dChn, dMut, lstOf, putO, dM1, tyOk, dNw1, dNw2, dSl, dP, dNoP, dIsN, dItQ, dItS, dRg1, dRg2, dEnum, dLc, dYes, noex, Tg.run, gSets, List.length_map, List.length_cons, List.length_nil, List.map_cons, List.map_nil, r1, h2, hr, e]
theorem ks5 (hs : Spec fs rs) (h : Ord fs.length os) : z5 (sl5 ns fs rs t ws os) (mus p []) = .nx (sl6 ns fs rs t ws os) (mus p []) := by
  have e := q_k11_1 hs h (sl := sl5 ns fs rs t ws os) rfl rfl rfl (mus p [])
  unfold sl6
  generalize (rs.map (rd2 os)).map pD = r at e ⊢
  unfold sl5 at e ⊢
  simp [z5, dFun, sSeq, snext, sIf, sbind, sAsg, sRet, sSkip, sExpr, sPar, sSetI, sSetA, sAug, sFor, sTg, dVar, dC, dNil, dCons, dBind, obind, dTup, dLst, dFrz, MO.d, dReg, dFz, dOp1, dOp2, dCmp, dB2v, dTst, dAnd, dOr, dNot, dIf, dCall, dIx, dLook, dIsi, dIsi2, dIsC, dIn, dChn, dMut, lstOf, putO, dM1, tyOk, dNw1, dNw2, dSl, dP, dNoP, dIsN, dItQ, dItS, dRg1, dRg2, dEnum, dLc, dYes, noex, Tg.run, gSets, List.length_map, List.length_cons, List.length_nil, List.map_cons, List.map_nil, e]
theorem ks6 (hs : Spec fs rs) (h : Ord fs.length os) : z6 (sl6 ns fs rs t ws os) (mus p []) = .nx (sl7 ns fs rs t ws os) (mus p []) := by
  have e := q_k11_2 hs h (sl := sl6 ns fs rs t ws os) rfl rfl rfl (mus p [])
  have e1 := made_ok (web2 hs h) (pl_mus p)
  unfold specD at e1
  unfold sl7
  unfold sl6 at e ⊢
  generalize (rs.map (rd2 os)).map pD = r at e e1 ⊢
  generalize (fs2 os fs).map D.str = r2 at e e1 ⊢
  simp [z6, dFun, sSeq, snext, sIf, sbind, sAsg, sRet, sSkip, sExpr, sPar, sSetI, sSetA, sAug, sFor, sTg, dVar, dC, dNil, dCons, dBind, obind, dTup, dLst, dFrz, MO.d, dReg, dFz, dOp1, dOp2, dCmp, dB2v, dTst, dAnd, dOr, dNot, dIf, dCall, dIx, dLook, dIsi, dIsi2, dIsC, dIn, dChn, dMut, lstOf, putO, dM1, tyOk, dNw1, dNw2, dSl, dP, dNoP, dIsN, dItQ, dItS, dRg1, dRg2, dEnum, dLc, dYes, noex, Tg.run, gSets, List.length_map, List.length_cons, List.length_nil, List.map_cons, List.map_nil, e, e1]
theorem ks7 (hs : Spec fs rs) (h : Ord fs.length os) (hw : Asc fs.length ws) : z7 (sl7 ns fs rs t ws os) (mus p []) = .nx (sl8 ns fs rs t ws os) (mus p []) := by
  have h9 := hs.names.le
  have e := q_k11_3 h h9 (ws := ws) hw.lt (by have := asc_len hw; omega) (sl := sl7 ns fs rs t ws os) rfl rfl rfl (mus p [])
  have e1 := sorted_nat (ws.map (sg1 os))
  have e2 := tuple_lst (sortN (ws.map (sg1 os)))
  generalize intsN (ws.map (sg1 os)) = r at e e1
  generalize intsN (sortN (ws.map (sg1 os))) = r2 at e1 e2
  unfold sl8
  unfold sl7 at e ⊢
  generalize (rs.map (rd2 os)).map pD = r4 at e ⊢
  generalize lotD (sortN (ws.map (sg1 os))) = r3 at e2 ⊢
  simp [z7, dFun, sSeq, snext, sIf, sbind, sAsg, sRet, sSkip, sExpr, sPar, sSetI, sSetA, sAug, sFor, sTg, dVar, dC, dNil, dCons, dBind, obind, dTup, dLst, dFrz, MO.d, dReg, dFz, dOp1, dOp2, dCmp, dB2v, dTst, dAnd, dOr, dNot, dIf, dCall, dIx, dLook, dIsi, dIsi2, dIsC, dIn, dChn, dMut, lstOf, putO, dM1, tyOk, dNw1, dNw2, dSl, dP, dNoP, dIsN, dItQ, dItS, dRg1, dRg2, dEnum, dLc, dYes, noex, Tg.run, gSets, List.length_map, List.length_cons, List.length_nil, List.map_cons, List.map_nil, e, e1, e2]
theorem mv_perm : (sortN (ws.map (sg1 os))).Perm (ws.map (sg1 os)) := sortN_perm _
theorem gap2 (hs : Spec fs rs) (h : Ord fs.length os) (hw : Asc fs.length ws) (ht : t.Ok) : f_gap [webD (fs2 os fs) (rs.map (rd2 os)), tkD t, lotD (sortN (ws.map (sg1 os)))] (mus p []) = .ok (optD (gapT fs.length rs t ws)) (mus p []) := by
  have hl := (fs2_perm h).length_eq
  have hr := ren2 hs h
  have ha : Asc fs.length (sortN (ws.map (sg1 os))) := hr.asc hw
  have e := gap_ok (fs := fs2 os fs) (rs.map (rd2 os)) (by rw [hl]; exact hs.names.le) t (ws := sortN (ws.map (sg1 os))) (by rw [hl]; exact ha) (pl_mus p)
  rw [hl, hr.gap hs.ne ht.fires0 hw.lt (sortN_perm _)] at e
  exact e
theorem bears2 (hs : Spec fs rs) (h : Ord fs.length os) (hw : Asc fs.length ws) (ht : t.Ok) : f_bears [webD (fs2 os fs) (rs.map (rd2 os)), tkD t, lotD (sortN (ws.map (sg1 os)))] (mus p []) = .ok (.tup ((bearsL (gapT fs.length rs t ws)).map intP)) (mus p []) := by
  have hl := (fs2_perm h).length_eq
  have hr := ren2 hs h
  have ha : Asc fs.length (sortN (ws.map (sg1 os))) := hr.asc hw
  have e := bears_ok (fs := fs2 os fs) (rs.map (rd2 os)) (by rw [hl]; exact hs.names.le) ht (ws := sortN (ws.map (sg1 os))) (by rw [hl]; exact ha) (pl_mus p)
  rw [hl, hr.gap hs.ne ht.fires0 hw.lt (sortN_perm _)] at e
  exact e
theorem ks8 (hs : Spec fs rs) (h : Ord fs.length os) (hw : Asc fs.length ws) (ht : t.Ok) : z8 (sl8 ns fs rs t ws os) (mus p []) = .nx (sl8 ns fs rs t ws os) (mus p []) := by
  have e1 := gap2 (p := p) hs h hw ht
  have e2 := gap_ok rs hs.names.le t hw (pl_mus p)
  have e3 := bears2 (p := p) hs h hw ht
  have e4 := bears_ok rs hs.names.le ht hw (pl_mus p)
  have n1 := ne_of_eq (eq_opt (gapT fs.length rs t ws))
  have n2 := ne_of_eq (eq_tupP (bearsL (gapT fs.length rs t ws)))
  generalize (bearsL (gapT fs.length rs t ws)).map intP = r at e3 e4 n2
  unfold sl8
  simp [z8, dFun, sSeq, snext, sIf, sbind, sAsg, sRet, sSkip, sExpr, sPar, sSetI, sSetA, sAug, sFor, sTg, dVar, dC, dNil, dCons, dBind, obind, dTup, dLst, dFrz, MO.d, dReg, dFz, dOp1, dOp2, dCmp, dB2v, dTst, dAnd, dOr, dNot, dIf, dCall, dIx, dLook, dIsi, dIsi2, dIsC, dIn, dChn, dMut, lstOf, putO, dM1, tyOk, dNw1, dNw2, dSl, dP, dNoP, dIsN, dItQ, dItS, dRg1, dRg2, dEnum, dLc, dYes, noex, Tg.run, gSets, List.length_map, List.length_cons, List.length_nil, List.map_cons, List.map_nil, e1, e2, e3, e4, n1, n2]
theorem ks9 (hs : Spec fs rs) (h : Ord fs.length os) (hw : Asc fs.length ws) : z9 (sl8 ns fs rs t ws os) (mus p []) = .nx (sl8 ns fs rs t ws os) (mus p []) := by
  have hr := ren2 hs h
  have ha : Asc fs.length (sortN (ws.map (sg1 os))) := hr.asc hw
  have e1 := q_k11_4 hs h (t := t) ha (sl := sl8 ns fs rs t ws os) rfl rfl rfl rfl rfl (pl_mus p)
  have e2 := spare_ok rs hs.names.le t hw (pl_mus p)
  have e3 := sorted_nat ((spareT fs.length (rs.map (rd2 os)) t (sortN (ws.map (sg1 os)))).map (ta1 os))
  rw [hr.spare t hw ha (sortN_perm _)] at e3
  have e4 := list_lot (spareT fs.length rs t ws)
  have n1 := ne_of_eq (eq_lstN (spareT fs.length rs t ws))
  generalize intsN ((spareT fs.length (rs.map (rd2 os)) t (sortN (ws.map (sg1 os)))).map (ta1 os)) = r1 at e1 e3
  generalize intsN (spareT fs.length rs t ws) = r2 at e3 e4 n1
  unfold sl8 at e1 ⊢
  generalize (rs.map (rd2 os)).map pD = r4 at e1 ⊢
  simp [z9, dFun, sSeq, snext, sIf, sbind, sAsg, sRet, sSkip, sExpr, sPar, sSetI, sSetA, sAug, sFor, sTg, dVar, dC, dNil, dCons, dBind, obind, dTup, dLst, dFrz, MO.d, dReg, dFz, dOp1, dOp2, dCmp, dB2v, dTst, dAnd, dOr, dNot, dIf, dCall, dIx, dLook, dIsi, dIsi2, dIsC, dIn, dChn, dMut, lstOf, putO, dM1, tyOk, dNw1, dNw2, dSl, dP, dNoP, dIsN, dItQ, dItS, dRg1, dRg2, dEnum, dLc, dYes, noex, Tg.run, gSets, List.length_map, List.length_cons, List.length_nil, List.map_cons, List.map_nil, e1, e2, e3, e4, n1]
def sl9 (ns : List Int) (fs : List Str) (rs : Rds) (t : Tk) (ws os : List Nat) : Sl := [(some (.val (.frl (ns.map D.int)))), (some (.val (.obj 0))), (some (.val (lotD ws))), (some (.val (.lst (intsN os)))), (some (.val (.lst ((rs.map (rd2 os)).map pD)))), (some (.val (webD (fs2 os fs) (rs.map (rd2 os))))), (some (.val (lotD (sortN (ws.map (sg1 os)))))), (some (.val (optD (fewN fs.length rs t)))), none, none, (some (.val (specD fs rs))), (some (.val (.lst t.l))), (some (.val (webD fs rs))), (some (.val (tkD t))), (some (.val (.int (fs.length : Int)))), none, none, none, none, none, none, none]
theorem ks10 (hs : Spec fs rs) : z10 (sl8 ns fs rs t ws os) (mus p []) = .nx (sl9 ns fs rs t ws os) (mus p []) := by
  have e := fewest_ok rs hs.names.le t (pl_mus p)
  simp [z10, sl8, sl9, dFun, sSeq, snext, sIf, sbind, sAsg, sRet, sSkip, sExpr, sPar, sSetI, sSetA, sAug, sFor, sTg, dVar, dC, dNil, dCons, dBind, obind, dTup, dLst, dFrz, MO.d, dReg, dFz, dOp1, dOp2, dCmp, dB2v, dTst, dAnd, dOr, dNot, dIf, dCall, dIx, dLook, dIsi, dIsi2, dIsC, dIn, dChn, dMut, lstOf, putO, dM1, tyOk, dNw1, dNw2, dSl, dP, dNoP, dIsN, dItQ, dItS, dRg1, dRg2, dEnum, dLc, dYes, noex, Tg.run, gSets, List.length_map, List.length_cons, List.length_nil, List.map_cons, List.map_nil, e]
theorem same_none {n : Nat} {mu : Store} : f__law_same_at (n + 1) [.non, .non] mu = .ok (.bl true) mu := by
  simp [f__law_same_at, g__law_same, dIsi, isiOk, isTy, dFun, sSeq, snext, sIf, sbind, sAsg, sRet, sSkip, sExpr, sPar, sSetI, sSetA, sAug, sFor, sTg, dVar, dC, dNil, dCons, dBind, obind, dTup, dLst, dFrz, MO.d, dReg, dFz, dOp1, dOp2, dCmp, dB2v, dTst, dAnd, dOr, dNot, dIf, dCall, dIx, dLook, dIsi, dIsi2, dIsC, dIn, dChn, dMut, lstOf, putO, dM1, tyOk, dNw1, dNw2, dSl, dP, dNoP, dIsN, dItQ, dItS, dRg1, dRg2, dEnum, dLc, dYes, noex, Tg.run, gSets, List.length_map, List.length_cons, List.length_nil, List.map_cons, List.map_nil]
theorem same_opt {n : Nat} {mu : Store} (o : Option Nat) : f__law_same_at (n + 1) [optD o, optD o] mu = .ok (.bl true) mu := by
  cases o with
  | none => exact same_none
  | some k => exact same_int
theorem ks11 (hs : Spec fs rs) (h : Ord fs.length os) : z11 (sl9 ns fs rs t ws os) (mus p []) = .nx (sl9 ns fs rs t ws os) (mus p []) := by
  have hl := (fs2_perm h).length_eq
  have e := fewest_ok (fs := fs2 os fs) (rs.map (rd2 os)) (by rw [hl]; exact hs.names.le) t (pl_mus p)
  rw [hl, (ren2 hs h).few t] at e
  have e2 : f__law_same [optD (fewN fs.length rs t), optD (fewN fs.length rs t)] (mus p []) = .ok (.bl true) (mus p []) := same_opt (n := 5) _
  simp [z11, sl9, dFun, sSeq, snext, sIf, sbind, sAsg, sRet, sSkip, sExpr, sPar, sSetI, sSetA, sAug, sFor, sTg, dVar, dC, dNil, dCons, dBind, obind, dTup, dLst, dFrz, MO.d, dReg, dFz, dOp1, dOp2, dCmp, dB2v, dTst, dAnd, dOr, dNot, dIf, dCall, dIx, dLook, dIsi, dIsi2, dIsC, dIn, dChn, dMut, lstOf, putO, dM1, tyOk, dNw1, dNw2, dSl, dP, dNoP, dIsN, dItQ, dItS, dRg1, dRg2, dEnum, dLc, dYes, noex, Tg.run, gSets, List.length_map, List.length_cons, List.length_nil, List.map_cons, List.map_nil, e, e2]
/-! harder tasks -/
theorem turn1 (hs : Spec fs rs) {at_ : Int} {u : Tk} (hu : u.Ok) (hh : Harder t u) {A B : List D} {v w : Int} (h1 : sliceD (.lst t.l) none (some at_) = some (.lst A)) (h2 : ixD (.lst t.l) (.int at_) = some (.int v)) (h3 : sliceD (.lst t.l) (some (at_ + 1)) none = some (.lst B)) (h4 : min2D (.int 3) (.int (v + 1)) = some (.int w)) (h5 : addD (.lst A) (.lst [.int w]) = some (.lst (A ++ [.int w]))) (h6 : addD (.lst (A ++ [.int w])) (.lst B) = some (.lst u.l)) (x8 x9 x15 x16 x17 x18 : Option SV) : ∃ y15 y16, b_law_k11_1 (slX ns fs rs t ws os (some (.val (.int at_))) x9 x15 x16 x17 x18) (mus p []) = .nx (slX ns fs rs t ws os (some (.val (.int at_))) x9 y15 y16 x17 x18) (mus p []) := by
  have e1 := set_ok hu (pl_mus p)
  have e2 := fewest_ok rs hs.names.le u (pl_mus p)
  refine ⟨some (.val (.lst u.l)), some (.val (optD (fewN fs.length rs u))), ?_⟩
  have a1 : addD (.int v) (.int 1) = some (.int (v + 1)) := rfl
  have a2 : addD (.int at_) (.int 1) = some (.int (at_ + 1)) := rfl
  cases hm : fewN fs.length rs u with
  | none =>
    rw [hm] at e2
    unfold slX
    generalize t.l = tl at h1 h2 h3 ⊢
    simp [b_law_k11_1, dFun, sSeq, snext, sIf, sbind, sAsg, sRet, sSkip, sExpr, sPar, sSetI, sSetA, sAug, sFor, sTg, dVar, dC, dNil, dCons, dBind, obind, dTup, dLst, dFrz, MO.d, dReg, dFz, dOp1, dOp2, dCmp, dB2v, dTst, dAnd, dOr, dNot, dIf, dCall, dIx, dLook, dIsi, dIsi2, dIsC, dIn, dChn, dMut, lstOf, putO, dM1, tyOk, dNw1, dNw2, dSl, dP, dNoP, dIsN, dItQ, dItS, dRg1, dRg2, dEnum, dLc, dYes, noex, Tg.run, gSets, List.length_map, List.length_cons, List.length_nil, List.map_cons, List.map_nil, h1, h2, h3, h4, h5, h6, a1, a2, e1, e2, dNotN, optD]
  | some m =>
    obtain ⟨k, hk, hle⟩ := hh.few hm
    rw [hm] at e2
    have hlt : ltD (.int (m : Int)) (.int (k : Int)) = some false := by
      show some (decide _) = _
      rw [decide_eq_false (by omega)]
    unfold slX
    rw [hk]
    generalize t.l = tl at h1 h2 h3 ⊢
    simp [b_law_k11_1, dFun, sSeq, snext, sIf, sbind, sAsg, sRet, sSkip, sExpr, sPar, sSetI, sSetA, sAug, sFor, sTg, dVar, dC, dNil, dCons, dBind, obind, dTup, dLst, dFrz, MO.d, dReg, dFz, dOp1, dOp2, dCmp, dB2v, dTst, dAnd, dOr, dNot, dIf, dCall, dIx, dLook, dIsi, dIsi2, dIsC, dIn, dChn, dMut, lstOf, putO, dM1, tyOk, dNw1, dNw2, dSl, dP, dNoP, dIsN, dItQ, dItS, dRg1, dRg2, dEnum, dLc, dYes, noex, Tg.run, gSets, List.length_map, List.length_cons, List.length_nil, List.map_cons, List.map_nil, h1, h2, h3, h4, h5, h6, a1, a2, e1, e2, dNotN, optD, hlt]
theorem min3 {v : Nat} (h : v ≤ 2) : min2D (.int 3) (.int ((v : Int) + 1)) = some (.int ((v + 1 : Nat) : Int)) := by
  have := min2_nat 3 (v + 1)
  rw [Nat.min_eq_right (by omega)] at this
  exact this
theorem ks12 (hs : Spec fs rs) (ht : t.Ok) (hf : t.fires ≤ 2) (hb : t.broken ≤ 2) (hl : t.lying ≤ 2) : ∃ x8 x15 x16, z12 (sl9 ns fs rs t ws os) (mus p []) = .nx (slX ns fs rs t ws os x8 none x15 x16 none none) (mus p []) := by
  obtain ⟨y1, y2, e1⟩ := turn1 (ns := ns) (ws := ws) (os := os) (p := p) (t := t) hs (at_ := 2) (u := ⟨t.far, t.reach, t.fires + 1, t.broken, t.lying⟩) ⟨ht.reach, by show 1 ≤ t.fires + 1; omega, by show t.fires + 1 ≤ 3; omega, ht.broken, ht.lying⟩ ⟨rfl, rfl, Nat.le_succ _, Nat.le_refl _⟩ (A := [.str (kindS t.far), .int (t.reach : Int)]) (B := [.int (t.broken : Int), .int (t.lying : Int)]) (v := (t.fires : Int)) (w := ((t.fires + 1 : Nat) : Int)) rfl rfl rfl (min3 hf) rfl rfl none none none none none none
  obtain ⟨y3, y4, e2⟩ := turn1 (ns := ns) (ws := ws) (os := os) (p := p) (t := t) hs (at_ := 3) (u := ⟨t.far, t.reach, t.fires, t.broken + 1, t.lying⟩) ⟨ht.reach, ht.fires0, ht.fires, by show t.broken + 1 ≤ 3; omega, ht.lying⟩ ⟨rfl, rfl, Nat.le_refl _, by show t.broken + 2 * t.lying ≤ t.broken + 1 + 2 * t.lying; omega⟩ (A := [.str (kindS t.far), .int (t.reach : Int), .int (t.fires : Int)]) (B := [.int (t.lying : Int)]) (v := (t.broken : Int)) (w := ((t.broken + 1 : Nat) : Int)) rfl rfl rfl (min3 hb) rfl rfl none none y1 y2 none none
  obtain ⟨y5, y6, e3⟩ := turn1 (ns := ns) (ws := ws) (os := os) (p := p) (t := t) hs (at_ := 4) (u := ⟨t.far, t.reach, t.fires, t.broken, t.lying + 1⟩) ⟨ht.reach, ht.fires0, ht.fires, ht.broken, by show t.lying + 1 ≤ 3; omega⟩ ⟨rfl, rfl, Nat.le_refl _, by show t.broken + 2 * t.lying ≤ t.broken + 2 * (t.lying + 1); omega⟩ (A := [.str (kindS t.far), .int (t.reach : Int), .int (t.fires : Int), .int (t.broken : Int)]) (B := []) (v := (t.lying : Int)) (w := ((t.lying + 1 : Nat) : Int)) rfl rfl rfl (min3 hl) rfl rfl none none y3 y4 none none
  refine ⟨some (.val (.int 4)), y5, y6, ?_⟩
  have h0 : ∀ sl mu, dItQ (dTup (dCons (dC (.int 2)) (dCons (dC (.int 3)) (dCons (dC (.int 4)) dNil)))) sl mu = .ok [.int 2, .int 3, .int 4] mu := fun _ _ => rfl
  have k1 : (Tg.nm 8).run (.int 2) (sl9 ns fs rs t ws os) = some (slX ns fs rs t ws os (some (.val (.int 2))) none none none none none) := rfl
  have k2 : ∀ x y z, (Tg.nm 8).run (.int 3) (slX ns fs rs t ws os x none y z none none) = some (slX ns fs rs t ws os (some (.val (.int 3))) none y z none none) := fun _ _ _ => rfl
  have k3 : ∀ x y z, (Tg.nm 8).run (.int 4) (slX ns fs rs t ws os x none y z none none) = some (slX ns fs rs t ws os (some (.val (.int 4))) none y z none none) := fun _ _ _ => rfl
  unfold z12 sFor
  rw [h0]
  simp only [sbind, sForL, k1, e1, k2, e2, k3, e3]
/-! a watcher more -/
theorem ks13 (hs : Spec fs rs) (ht : t.Ok) (hw : Asc fs.length ws) {x8 x15 x16 : Option SV} : ∃ x9, z13 (slX ns fs rs t ws os x8 none x15 x16 none none) (mus p []) = .nx (slX ns fs rs t ws os x8 x9 x15 x16 none none) (mus p []) := by
  have h9 := hs.names.le
  have e0 := law_all_ok (fs := fs) rs (by omega) (mus p [])
  have g1 := gap_ok rs h9 t hw (pl_mus p)
  obtain ⟨m, hm⟩ := gap_some hs.ne rs ht.fires0 ws
  have hwl := asc_len hw
  obtain ⟨sl', ⟨x9, rfl⟩, e⟩ := for_skip (tgt := .nm 9) (body := b_law_k11_2) (mu := mus p []) (fun (i : Nat) => D.int (i : Int)) (fun sl => ∃ x9, sl = slX ns fs rs t ws os x8 x9 x15 x16 none none) (ls := List.range fs.length) (sl := slX ns fs rs t ws os x8 none x15 x16 none none) ⟨_, rfl⟩ (fun i hi sl hsl => by
    obtain ⟨x9, rfl⟩ := hsl
    rw [List.mem_range] at hi
    refine ⟨slX ns fs rs t ws os x8 (some (.val (.int (i : Int)))) x15 x16 none none, rfl, _, ⟨some (.val (.int (i : Int))), rfl⟩, ?_⟩
    have e1 := in_lot i ws
    by_cases hin : i ∈ ws
    · rw [decide_eq_true hin] at e1
      unfold slX
      simp [b_law_k11_2, dFun, sSeq, snext, sIf, sbind, sAsg, sRet, sSkip, sExpr, sPar, sSetI, sSetA, sAug, sFor, sTg, dVar, dC, dNil, dCons, dBind, obind, dTup, dLst, dFrz, MO.d, dReg, dFz, dOp1, dOp2, dCmp, dB2v, dTst, dAnd, dOr, dNot, dIf, dCall, dIx, dLook, dIsi, dIsi2, dIsC, dIn, dChn, dMut, lstOf, putO, dM1, tyOk, dNw1, dNw2, dSl, dP, dNoP, dIsN, dItQ, dItS, dRg1, dRg2, dEnum, dLc, dYes, noex, Tg.run, gSets, List.length_map, List.length_cons, List.length_nil, List.map_cons, List.map_nil, dIn, e1]
    · rw [decide_eq_false hin] at e1
      have e2 := list_lot ws
      have e3 := add_lst (p := i) (ws := ws) (by omega)
      have e4 := sorted_nat (ws ++ [i])
      have e5 := tuple_lst (sortN (ws ++ [i]))
      have ha : Asc fs.length (sortN (ws ++ [i])) := sortN_asc (by
        rw [List.nodup_append]
        exact ⟨asc_nodup hw, by simp, fun a ha b hb => by
          have : b = i := by simpa using hb
          subst this
          exact fun e => hin (e ▸ ha)⟩) (fun x hx => by
        rw [List.mem_append] at hx
        rcases hx with hx | hx
        · exact hw.lt x hx
        · have : x = i := by simpa using hx
          omega)
      have g2 := gap_ok rs h9 t ha (pl_mus p)
      obtain ⟨k, hk⟩ := gap_some hs.ne rs ht.fires0 (sortN (ws ++ [i]))
      have hle := gap_more (sortN_perm _) hm hk
      rw [hm] at g1
      rw [hk] at g2
      have hlt : ltD (.int (k : Int)) (.int (m : Int)) = some false := by
        show some (decide _) = _
        rw [decide_eq_false (by omega)]
      generalize intsN ws = r1 at e2 e3
      generalize intsN (ws ++ [i]) = r2 at e3 e4
      generalize intsN (sortN (ws ++ [i])) = r3 at e4 e5
      generalize lotD (sortN (ws ++ [i])) = r4 at e5 g2
      unfold slX
      simp [b_law_k11_2, dFun, sSeq, snext, sIf, sbind, sAsg, sRet, sSkip, sExpr, sPar, sSetI, sSetA, sAug, sFor, sTg, dVar, dC, dNil, dCons, dBind, obind, dTup, dLst, dFrz, MO.d, dReg, dFz, dOp1, dOp2, dCmp, dB2v, dTst, dAnd, dOr, dNot, dIf, dCall, dIx, dLook, dIsi, dIsi2, dIsC, dIn, dChn, dMut, lstOf, putO, dM1, tyOk, dNw1, dNw2, dSl, dP, dNoP, dIsN, dItQ, dItS, dRg1, dRg2, dEnum, dLc, dYes, noex, Tg.run, gSets, List.length_map, List.length_cons, List.length_nil, List.map_cons, List.map_nil, dIn, e1, e2, e3, e4, e5, g1, g2, optD, hlt])
  refine ⟨x9, ?_⟩
  have hlot : lotD (List.range fs.length) = .tup (intsN (List.range fs.length)) := rfl
  rw [hlot] at e0
  have e' : sForL (.nm 9) b_law_k11_2 (intsN (List.range fs.length)) (slX ns fs rs t ws os x8 none x15 x16 none none) (mus p []) = _ := e
  have hq : dItQ (dCall f__law_all (dCons (dVar 10) dNil)) (slX ns fs rs t ws os x8 none x15 x16 none none) (mus p []) = .ok (intsN (List.range fs.length)) (mus p []) := by
    unfold slX
    generalize intsN (List.range fs.length) = r at e0
    simp [dFun, sSeq, snext, sIf, sbind, sAsg, sRet, sSkip, sExpr, sPar, sSetI, sSetA, sAug, sFor, sTg, dVar, dC, dNil, dCons, dBind, obind, dTup, dLst, dFrz, MO.d, dReg, dFz, dOp1, dOp2, dCmp, dB2v, dTst, dAnd, dOr, dNot, dIf, dCall, dIx, dLook, dIsi, dIsi2, dIsC, dIn, dChn, dMut, lstOf, putO, dM1, tyOk, dNw1, dNw2, dSl, dP, dNoP, dIsN, dItQ, dItS, dRg1, dRg2, dEnum, dLc, dYes, noex, Tg.run, gSets, List.length_map, List.length_cons, List.length_nil, List.map_cons, List.map_nil, e0]
  unfold z13 sFor
  rw [hq]
  exact e'
/-! a watcher less -/
theorem ks14 (hs : Spec fs rs) (ht : t.Ok) (hw : Asc fs.length ws) (ok : p.Ok) {x8 x9 x15 x16 : Option SV} : ∃ x17 x18 p', z14 (slX ns fs rs t ws os x8 x9 x15 x16 none none) (mus p []) = .nx (slX ns fs rs t ws os x8 x9 x15 x16 x17 x18) (mus p' []) := by
  have h9 := hs.names.le
  have e1 := clash_ok rs h9 t hw (pl_mus p)
  have n1 := nn_clash fs.length rs t ws
  have i3 : ixD (.lst t.l) (.int 3) = some (.int (t.broken : Int)) := rfl
  have i4 : ixD (.lst t.l) (.int 4) = some (.int (t.lying : Int)) := rfl
  have hwl := asc_len hw
  cases hc : (closeP fs.length rs t ws).isNone with
  | false =>
    rw [hc] at n1
    refine ⟨none, none, p, ?_⟩
    unfold slX
    simp [z14, dFun, sSeq, snext, sIf, sbind, sAsg, sRet, sSkip, sExpr, sPar, sSetI, sSetA, sAug, sFor, sTg, dVar, dC, dNil, dCons, dBind, obind, dTup, dLst, dFrz, MO.d, dReg, dFz, dOp1, dOp2, dCmp, dB2v, dTst, dAnd, dOr, dNot, dIf, dCall, dIx, dLook, dIsi, dIsi2, dIsC, dIn, dChn, dMut, lstOf, putO, dM1, tyOk, dNw1, dNw2, dSl, dP, dNoP, dIsN, dItQ, dItS, dRg1, dRg2, dEnum, dLc, dYes, noex, Tg.run, gSets, List.length_map, List.length_cons, List.length_nil, List.map_cons, List.map_nil, e1, n1]
  | true =>
    rw [hc] at n1
    by_cases hb : 0 < t.broken
    · by_cases hwn : ws = []
      · refine ⟨none, none, p, ?_⟩
        have e2 := ne_lot_nil ws
        rw [decide_eq_false (by simp [hwn])] at e2
        unfold slX
        generalize t.l = tl at i3 i4
        simp [z14, dFun, sSeq, snext, sIf, sbind, sAsg, sRet, sSkip, sExpr, sPar, sSetI, sSetA, sAug, sFor, sTg, dVar, dC, dNil, dCons, dBind, obind, dTup, dLst, dFrz, MO.d, dReg, dFz, dOp1, dOp2, dCmp, dB2v, dTst, dAnd, dOr, dNot, dIf, dCall, dIx, dLook, dIsi, dIsi2, dIsC, dIn, dChn, dMut, lstOf, putO, dM1, tyOk, dNw1, dNw2, dSl, dP, dNoP, dIsN, dItQ, dItS, dRg1, dRg2, dEnum, dLc, dYes, noex, Tg.run, gSets, List.length_map, List.length_cons, List.length_nil, List.map_cons, List.map_nil, e1, n1, i3, gtI, cmpI, hb, e2]
      · have e2 := ne_lot_nil ws
        rw [decide_eq_true hwn] at e2
        obtain ⟨d, p', e3, ok', hd⟩ := pick_tup ok (l := intsN ws) (by
          intro h0
          have := congrArg List.length h0
          rw [intsN_len] at this
          exact hwn (List.length_eq_zero_iff.mp this)) (by rw [intsN_len]; omega) []
        obtain ⟨x, hx, rfl⟩ := List.mem_map.mp hd
        have e3' : f__law_pick [.obj 0, lotD ws] (mus p []) = .ok (.int (x : Int)) (mus p' []) := e3
        have hub : (t.broken : Int) - 1 = ((t.broken - 1 : Nat) : Int) := by omega
        have hu : (Tk.mk t.far t.reach t.fires (t.broken - 1) t.lying).Ok := ⟨ht.reach, ht.fires0, ht.fires, by have := ht.broken; show t.broken - 1 ≤ 3; omega, ht.lying⟩
        have e4 := set_ok hu (pl_mus p')
        have s3 : sliceD (.lst t.l) none (some 3) = some (.lst [.str (kindS t.far), .int (t.reach : Int), .int (t.fires : Int)]) := rfl
        have a1 : subD (.int (t.broken : Int)) (.int 1) = some (.int ((t.broken - 1 : Nat) : Int)) := by
          show some (D.int _) = _
          rw [hub]
        have a2 : addD (.lst [.str (kindS t.far), .int (t.reach : Int), .int (t.fires : Int)]) (.lst [.int ((t.broken - 1 : Nat) : Int), .int (t.lying : Int)]) = some (.lst (Tk.mk t.far t.reach t.fires (t.broken - 1) t.lying).l) := rfl
        have hfa : Asc fs.length (ws.filter fun w => decide (w ≠ x)) := ⟨hw.pw.filter _, fun y hy => hw.lt y (List.mem_filter.mp hy).1⟩
        have hperm : ws.Perm (x :: ws.filter fun w => decide (w ≠ x)) := by
          have h1 := List.perm_cons_erase hx
          have h2 : ws.erase x = ws.filter fun w => decide (w ≠ x) := by
            rw [(asc_nodup hw).erase_eq_filter]
            apply List.filter_congr
            intro y _
            rw [Bool.eq_iff_iff]
            simp
          rwa [h2] at h1
        have hnone : (closeP fs.length rs (Tk.mk t.far t.reach t.fires (t.broken - 1) t.lying) (ws.filter fun w => decide (w ≠ x))).isNone = true := by
          rw [close_iff] at hc ⊢
          have hbd : boundN t = boundN (Tk.mk t.far t.reach t.fires (t.broken - 1) t.lying) + 1 := by
            show t.broken + 2 * t.lying = t.broken - 1 + 2 * t.lying + 1
            omega
          rw [hbd] at hc
          have o := over_less hperm hc
          intro a b ha hb' hn
          rw [gp_eq (t := t) (u := Tk.mk t.far t.reach t.fires (t.broken - 1) t.lying) rfl rfl]
          exact o a b ha hb' hn
        have e5 := clash_ok rs h9 (Tk.mk t.far t.reach t.fires (t.broken - 1) t.lying) hfa (pl_mus p')
        have n5 := nn_clash fs.length rs (Tk.mk t.far t.reach t.fires (t.broken - 1) t.lying) (ws.filter fun w => decide (w ≠ x))
        rw [hnone] at n5
        have e6 := q_k11_5 (ws := ws) (by omega) (x := x) (sl := slX ns fs rs t ws os x8 x9 x15 x16 (some (.val (.int (x : Int)))) (some (.val (tkD (Tk.mk t.far t.reach t.fires (t.broken - 1) t.lying))))) rfl rfl rfl (mus p' [])
        have e7 := tuple_lst (ws.filter fun w => decide (w ≠ x))
        generalize intsN (ws.filter fun w => decide (w ≠ x)) = r1 at e6 e7
        generalize lotD (ws.filter fun w => decide (w ≠ x)) = r2 at e5 e7
        generalize hU : Tk.mk t.far t.reach t.fires (t.broken - 1) t.lying = U at *
        refine ⟨some (.val (.int (x : Int))), some (.val (tkD U)), p', ?_⟩
        generalize clashD fs.length rs U (ws.filter fun w => decide (w ≠ x)) = cd at e5 n5
        unfold slX at e6 ⊢
        generalize (rs.map (rd2 os)).map pD = r4 at e6 ⊢
        generalize t.l = tl at i3 i4 s3 e6 ⊢
        generalize U.l = ul at a2 e4
        simp [z14, dFun, sSeq, snext, sIf, sbind, sAsg, sRet, sSkip, sExpr, sPar, sSetI, sSetA, sAug, sFor, sTg, dVar, dC, dNil, dCons, dBind, obind, dTup, dLst, dFrz, MO.d, dReg, dFz, dOp1, dOp2, dCmp, dB2v, dTst, dAnd, dOr, dNot, dIf, dCall, dIx, dLook, dIsi, dIsi2, dIsC, dIn, dChn, dMut, lstOf, putO, dM1, tyOk, dNw1, dNw2, dSl, dP, dNoP, dIsN, dItQ, dItS, dRg1, dRg2, dEnum, dLc, dYes, noex, Tg.run, gSets, List.length_map, List.length_cons, List.length_nil, List.map_cons, List.map_nil, e1, n1, i3, i4, gtI, cmpI, hb, e2, e3', s3, a1, a2, e4, e6, e7, e5, n5, dNotN]
    · refine ⟨none, none, p, ?_⟩
      have hb' : ¬ 0 < (t.broken : Int) := by omega
      unfold slX
      generalize t.l = tl at i3 i4
      simp [z14, dFun, sSeq, snext, sIf, sbind, sAsg, sRet, sSkip, sExpr, sPar, sSetI, sSetA, sAug, sFor, sTg, dVar, dC, dNil, dCons, dBind, obind, dTup, dLst, dFrz, MO.d, dReg, dFz, dOp1, dOp2, dCmp, dB2v, dTst, dAnd, dOr, dNot, dIf, dCall, dIx, dLook, dIsi, dIsi2, dIsC, dIn, dChn, dMut, lstOf, putO, dM1, tyOk, dNw1, dNw2, dSl, dP, dNoP, dIsN, dItQ, dItS, dRg1, dRg2, dEnum, dLc, dYes, noex, Tg.run, gSets, List.length_map, List.length_cons, List.length_nil, List.map_cons, List.map_nil, e1, n1, i3, gtI, cmpI, hb]
theorem ks15 (hs : Spec fs rs) (ht : t.Ok) (hw : Asc fs.length ws) {x8 x9 x15 x16 x17 x18 : Option SV} : z15 (slX ns fs rs t ws os x8 x9 x15 x16 x17 x18) (mus p []) = .rt (.bl true) (mus p []) := by
  have h9 := hs.names.le
  have e1 := clash_ok rs h9 t hw (pl_mus p)
  have n1 := nn_clash fs.length rs t ws
  have e2 := bears_ok rs h9 ht hw (pl_mus p)
  obtain ⟨m, hm⟩ := gap_some hs.ne rs ht.fires0 ws
  have hb := bears_mem hm ht.broken ht.lying
  have i3 : ixD (.lst t.l) (.int 3) = some (.int (t.broken : Int)) := rfl
  have i4 : ixD (.lst t.l) (.int 4) = some (.int (t.lying : Int)) := rfl
  have e3 := in_prs (t.broken, t.lying) (bearsL (gapT fs.length rs t ws))
  have hd : decide ((t.broken, t.lying) ∈ bearsL (gapT fs.length rs t ws)) = (closeP fs.length rs t ws).isNone := by
    rw [Bool.eq_iff_iff, decide_eq_true_iff]
    exact hb
  rw [hd, ← n1] at e3
  have e4 := eq_bl (isNon (clashD fs.length rs t ws))
  generalize (bearsL (gapT fs.length rs t ws)).map intP = r at e2 e3
  unfold slX
  generalize t.l = tl at i3 i4
  simp [z15, dFun, sSeq, snext, sIf, sbind, sAsg, sRet, sSkip, sExpr, sPar, sSetI, sSetA, sAug, sFor, sTg, dVar, dC, dNil, dCons, dBind, obind, dTup, dLst, dFrz, MO.d, dReg, dFz, dOp1, dOp2, dCmp, dB2v, dTst, dAnd, dOr, dNot, dIf, dCall, dIx, dLook, dIsi, dIsi2, dIsC, dIn, dChn, dMut, lstOf, putO, dM1, tyOk, dNw1, dNw2, dSl, dP, dNoP, dIsN, dItQ, dItS, dRg1, dRg2, dEnum, dLc, dYes, noex, Tg.run, gSets, List.length_map, List.length_cons, List.length_nil, List.map_cons, List.map_nil, dIn, e1, e2, i3, i4, e3, e4]
theorem law_true : ∀ ns : List Int, ns.length ≤ 63 → ∃ mu, f_law_k11 [.frl (ns.map D.int)] [] = .ok (.bl true) mu := fun ns _ => by
  obtain ⟨p0, e0, ok0⟩ := pot_ok ns
  obtain ⟨fs, rs, p1, e1, ok1, hs, h4⟩ := spec_ok ok0 (r := []) rfl (most := 4) (by decide) (by decide)
  obtain ⟨t, p2, e2, ok2, ht, hf, hb, hl, _⟩ := law_task_ok ok1 (r := []) (fires := 2) (by decide) (by decide)
  obtain ⟨ws, p3, e3, ok3, hw⟩ := watch_ok ok2 (n := fs.length) hs.names.le []
  obtain ⟨os, p4, e4, ok4, hp⟩ := mixed_nat ok3 (l := List.range fs.length) (by rw [List.length_range]; have := hs.names.le; omega) (r := []) rfl
  have h : Ord fs.length os := ⟨hp⟩
  obtain ⟨x8, x15, x16, s12⟩ := ks12 (ns := ns) (ws := ws) (os := os) (p := p4) hs ht hf hb hl
  obtain ⟨x9, s13⟩ := ks13 (ns := ns) (os := os) (p := p4) hs ht hw (x8 := x8) (x15 := x15) (x16 := x16)
  obtain ⟨x17, x18, p5, s14⟩ := ks14 (ns := ns) (os := os) hs ht hw ok4 (x8 := x8) (x9 := x9) (x15 := x15) (x16 := x16)
  refine ⟨mus p5 [], ?_⟩
  have key : g_law_k11 (sl0 ns) [] = .rt (.bl true) (mus p5 []) := by
    rw [g_eq]
    refine (seq_nx (ks0 e0)).trans ?_
    refine (seq_nx (ks1 e1 e2)).trans ?_
    refine (seq_nx (ks2 hs ht)).trans ?_
    refine (seq_nx (ks3 hs e3)).trans ?_
    refine (seq_nx (ks4 hs e4)).trans ?_
    refine (seq_nx (ks5 hs h)).trans ?_
    refine (seq_nx (ks6 hs h)).trans ?_
    refine (seq_nx (ks7 hs h hw)).trans ?_
    refine (seq_nx (ks8 hs h hw ht)).trans ?_
    refine (seq_nx (ks9 hs h hw)).trans ?_
    refine (seq_nx (ks10 hs)).trans ?_
    refine (seq_nx (ks11 hs h)).trans ?_
    refine (seq_nx s12).trans ?_
    refine (seq_nx s13).trans ?_
    refine (seq_nx s14).trans ?_
    exact ks15 hs ht hw
  show (match g_law_k11 (sl0 ns) [] with
    | .nx _ mu' => Out.ok D.non mu'
    | .rt d mu' => .ok d mu'
    | .ex c fs _ mu' => .ex c fs mu'
    | _ => .bad) = _
  rw [key]
end DL
end

section
set_option Elab.async false
set_option linter.all false
set_option maxRecDepth 100000
set_option maxHeartbeats 4000000
namespace DL
open PySem PySem.Spec PyProof.Rows
open L2 hiding St
def top (i : Nat) : Stmt := PySem.Challenge.pw_watchwebs_k11_whole_webs_renamed_and_fau.main.body.getD i (.Pass ⟨0, 0, 0, 0⟩)
def inC (s : Stmt) (j : Nat) : Stmt := match s with
  | .ClassDef _ _ _ b .. => b.getD j (.Pass ⟨0, 0, 0, 0⟩)
  | s => s
theorem gf_bad {P : Program} {w : World} {K : PySem.W.Frag} {mg : Str → Option Value} {base : Heap} {cl : Nat → Addr} {x : Str} {params : Arguments} {body : List Stmt} {scope : Scope} {f : Addr} {fd : FuncData} {ps : List Str} {k : Nat} (F : FunD K x x params body scope [] [] f fd) (hm : mg x = some (.ref f)) (hbd : L2.Binds K fd ps []) :
    Gf P w K mg base cl k x ps.length (fun _ _ => .bad) := ⟨f, fd, ps, ⟨fun vs H Q E ⟨_, _, _, _, _, _, _, po⟩ => False.elim po, fun _ _ _ _ _ _ _ _ _ _ _ _ _ ⟨_, _, _, _, _, _, _, po⟩ => False.elim po⟩, hm, F.kp, hbd⟩
structure Fc (K : PySem.W.Frag) (mg : Str → Option Value) (cl : Nat → Addr) (wa : Str → Addr) : Prop where
  hC : ∀ c, Lv cl c → ClsT K (cl c)
  n_abs : mg "abs" = none
  n_all : mg "all" = none
  n_bool : mg "bool" = none
  n_enumerate : mg "enumerate" = none
  n_int : mg "int" = none
  n_isinstance : mg "isinstance" = none
  n_len : mg "len" = none
  n_list : mg "list" = none
  n_min : mg "min" = none
  n_range : mg "range" = none
  n_sorted : mg "sorted" = none
  n_str : mg "str" = none
  n_tuple : mg "tuple" = none
  n_zip : mg "zip" = none
  at_away : ∀ c, Lv cl c → NoAttr K (cl c) "away"
  at_broken : ∀ c, Lv cl c → NoAttr K (cl c) "broken"
  at_fires : ∀ c, Lv cl c → NoAttr K (cl c) "fires"
  at_kind : ∀ c, Lv cl c → NoAttr K (cl c) "kind"
  at_lying : ∀ c, Lv cl c → NoAttr K (cl c) "lying"
  at_reach : ∀ c, Lv cl c → NoAttr K (cl c) "reach"
  at_roads : ∀ c, Lv cl c → NoAttr K (cl c) "roads"
  at_spots : ∀ c, Lv cl c → NoAttr K (cl c) "spots"
  g_BROKEN : ∃ u, mg "BROKEN" = some u ∧ RelV (.str "broken") u
  g_LONGEST : ∃ u, mg "LONGEST" = some u ∧ RelV (.int 8) u
  g_MOST_FAULTS : ∃ u, mg "MOST_FAULTS" = some u ∧ RelV (.int 3) u
  g_MOST_FIRES : ∃ u, mg "MOST_FIRES" = some u ∧ RelV (.int 3) u
  g_MOST_REACH : ∃ u, mg "MOST_REACH" = some u ∧ RelV (.int 8) u
  g_MOST_SPOTS : ∃ u, mg "MOST_SPOTS" = some u ∧ RelV (.int 9) u
  g_SIGNS : ∃ u, mg "SIGNS" = some u ∧ RelV (.str "abcdefghijklmnopqrstuvwxyz") u
  m_KINDS : mg "KINDS" = some (.ref (wa "KINDS"))
  q_KINDS : ∀ H, SqT K H (wa "KINDS") ((["near", "far"] : List Str).map V.str)
  m_WORDS : mg "WORDS" = some (.ref (wa "WORDS"))
  q_WORDS : ∀ H, SqT K H (wa "WORDS") ((["spot", "road", "over"] : List Str).map V.str)
section
variable {P : Program} {w : World} {K : PySem.W.Frag} {mg : Str → Option Value} {base : Heap} {cl : Nat → Addr} {wa : Str → Addr}

abbrev s__law_pot : Stmt := (top 48)
theorem sc__law_pot : FnScope (["script", "cell"] : List Str) (["script"] : List Str) (defScope s__law_pot) := ⟨rfl, rfl, rfl, by decide +kernel, rfl, by decide +kernel, by decide +kernel⟩
theorem ok__law_pot {f : Addr} {fd : FuncData} (fc : Fc K mg cl wa) (F : FunD K "_law_pot" "_law_pot" (defArgs s__law_pot) (defBody s__law_pot) (defScope s__law_pot) [] [] f fd) (hm : mg "_law_pot" = some (.ref f)) : Gf P w K mg base cl 1 "_law_pot" 1 f__law_pot :=
  have S := sc__law_pot
  (gf_of (k := 0) (N := ["script", "cell"]) (ps := ["script"]) (g := g__law_pot) F S hm (F.bindsN fun _ _ _ _ _ _ us hl => match us, hl with | [_], _ => rfl) fun cdv A outer s H E n hr =>
    (dss_one (ds_ret (de_reg (dn_lst (da_cons (de_frz (dn_lc (by rfl) S.nd (di_seq (de_sl (de_var (pv 0)) do_none (do_some de_int))) (blkOk_by (own := [("cell", 1)]) (by first | (show blkC ["script", "cell"] (defScope s__law_pot) _ _ = true; decide +kernel) | rfl | with_unfolding_all rfl)) (fun _ _ _ _ _ => (dg_name (i := 1) S.nd rfl (by first | exact .inl rfl | exact .inr rfl))) (fun _ _ _ _ _ => dts_nil) (fun _ _ _ _ _ => (de_abs (by rfl) fc.n_abs (dk_look (de_var (pv 1))))) (by decide))) (da_cons de_int (da_cons de_int (da_cons de_int da_nil)))) (len_cons (len_cons (len_cons (len_cons len_nil)))))))))

abbrev s__law_draw : Stmt := (top 49)
theorem sc__law_draw : FnScope (["pot", "many", "cell", "found"] : List Str) (["pot", "many"] : List Str) (defScope s__law_draw) := ⟨rfl, rfl, rfl, by decide +kernel, rfl, by decide +kernel, by decide +kernel⟩
theorem ok__law_draw {f : Addr} {fd : FuncData} (fc : Fc K mg cl wa) (F : FunD K "_law_draw" "_law_draw" (defArgs s__law_draw) (defBody s__law_draw) (defScope s__law_draw) [] [] f fd) (hm : mg "_law_draw" = some (.ref f)) : Gf P w K mg base cl 1 "_law_draw" 2 f__law_draw :=
  have S := sc__law_draw
  (gf_of (k := 0) (N := ["pot", "many", "cell", "found"]) (ps := ["pot", "many"]) (g := g__law_draw) F S hm (F.bindsN fun _ _ _ _ _ _ us hl => match us, hl with | [_, _], _ => rfl) fun cdv A outer s H E n hr =>
    (dss_cons (ds_if (dt_lt (u0 hr) (de_var (pv 1)) de_int) (dss_one (ds_ret de_int)) dss_nil)
    (dss_cons (ds_if (dt_gt (de_ix (de_var (pv 0)) de_int fun _ _ => rfl) de_int) (dss_cons (ds_asg (i := 3) S.nd rfl (by first | exact .inl rfl | exact .inr rfl) (de_mod (de_int1 (by rfl) fc.n_int (dk_look (de_ix (de_var (pv 0)) de_int fun _ _ => rfl))) (de_var (pv 1))))
    (dss_cons (ds_setI (de_div (de_ix (de_var (pv 0)) de_int fun _ _ => rfl) (de_var (pv 1))) (de_var (pv 0)) de_int)
    (dss_one (ds_ret (de_var (pv 3)))))) dss_nil)
    (dss_cons (ds_asg (i := 2) S.nd rfl (by first | exact .inl rfl | exact .inr rfl) de_int)
    (dss_cons (ds_if (dt_lt (u0 hr) (de_ix (de_var (pv 0)) de_int fun _ _ => rfl) (de_len (by rfl) fc.n_len (dk_look (de_ix (de_var (pv 0)) de_int fun _ _ => rfl)))) (dss_cons (ds_asg (i := 2) S.nd rfl (by first | exact .inl rfl | exact .inr rfl) (de_ix (de_ix (de_var (pv 0)) de_int fun _ _ => rfl) (de_ix (de_var (pv 0)) de_int fun _ _ => rfl) fun _ _ => rfl))
    (dss_cons (ds_setI (de_add (de_ix (de_var (pv 0)) de_int fun _ _ => rfl) de_int) (de_var (pv 0)) de_int)
    (dss_one (ds_if (dt_ge (de_var (pv 2)) (de_pow de_int de_int)) (dss_cons (ds_setI (de_div (de_var (pv 2)) (de_var (pv 1))) (de_var (pv 0)) de_int)
    (dss_one (ds_ret (de_mod (de_int1 (by rfl) fc.n_int (dk_look (de_var (pv 2)))) (de_var (pv 1)))))) dss_nil)))) dss_nil)
    (dss_cons (ds_setI (de_mod (de_int1 (by rfl) fc.n_int (dk_look (de_add (de_add (de_mul (de_ix (de_var (pv 0)) de_int fun _ _ => rfl) de_int) (de_var (pv 2))) de_int))) de_int) (de_var (pv 0)) de_int)
    (dss_one (ds_ret (de_mod (de_int1 (by rfl) fc.n_int (dk_look (de_add (de_div (de_mul (de_ix (de_var (pv 0)) de_int fun _ _ => rfl) (de_ix (de_var (pv 0)) de_int fun _ _ => rfl)) de_int) (de_div (de_ix (de_var (pv 0)) de_int fun _ _ => rfl) de_int)))) (de_var (pv 1)))))))))))

abbrev s__law_pick : Stmt := (top 50)
theorem sc__law_pick : FnScope (["pot", "row"] : List Str) (["pot", "row"] : List Str) (defScope s__law_pick) := ⟨rfl, rfl, rfl, by decide +kernel, rfl, by decide +kernel, by decide +kernel⟩
theorem ok__law_pick {f : Addr} {fd : FuncData} (fc : Fc K mg cl wa) (F : FunD K "_law_pick" "_law_pick" (defArgs s__law_pick) (defBody s__law_pick) (defScope s__law_pick) [] [] f fd) (hm : mg "_law_pick" = some (.ref f)) (h__law_draw : Gf P w K mg base cl 1 "_law_draw" 2 f__law_draw) : Gf P w K mg base cl 2 "_law_pick" 2 f__law_pick :=
  have S := sc__law_pick
  (gf_of (k := 1) (N := ["pot", "row"]) (ps := ["pot", "row"]) (g := g__law_pick) F S hm (F.bindsN fun _ _ _ _ _ _ us hl => match us, hl with | [_, _], _ => rfl) fun cdv A outer s H E n hr =>
    (dss_one (ds_ret (de_ix (de_var (pv 1)) (de_call (h__law_draw.mono (by decide)) hr (by rfl) (takes_of rfl rfl rfl rfl) (da_cons (de_var (pv 0)) (da_cons (de_len (by rfl) fc.n_len (dk_look (de_var (pv 1)))) da_nil)) (len_cons (len_cons len_nil))) fun _ _ => rfl))))

abbrev s_is_number : Stmt := (top 6)
theorem sc_is_number : FnScope (["value"] : List Str) (["value"] : List Str) (defScope s_is_number) := ⟨rfl, rfl, rfl, by decide +kernel, rfl, by decide +kernel, by decide +kernel⟩
theorem ok_is_number {f : Addr} {fd : FuncData} (fc : Fc K mg cl wa) (F : FunD K "is_number" "is_number" (defArgs s_is_number) (defBody s_is_number) (defScope s_is_number) [] [] f fd) (hm : mg "is_number" = some (.ref f)) : Gf P w K mg base cl 1 "is_number" 1 f_is_number :=
  have S := sc_is_number
  (gf_of (k := 0) (N := ["value"]) (ps := ["value"]) (g := g_is_number) F S hm (F.bindsN fun _ _ _ _ _ _ us hl => match us, hl with | [_], _ => rfl) fun cdv A outer s H E n hr =>
    (dss_one (ds_ret (de_and (de_isi (y := .int) fc.hC (by rfl) fc.n_isinstance (dk_look (de_var (pv 0))) (pe_bltn (by rfl) fc.n_int (by decide +kernel) rfl)) (de_one (de_not (de_isi (y := .bool) fc.hC (by rfl) fc.n_isinstance (dk_look (de_var (pv 0))) (pe_bltn (by rfl) fc.n_bool (by decide +kernel) rfl))))))))

abbrev s_is_within : Stmt := (top 7)
theorem sc_is_within : FnScope (["value", "least", "most"] : List Str) (["value", "least", "most"] : List Str) (defScope s_is_within) := ⟨rfl, rfl, rfl, by decide +kernel, rfl, by decide +kernel, by decide +kernel⟩
theorem ok_is_within {f : Addr} {fd : FuncData} (fc : Fc K mg cl wa) (F : FunD K "is_within" "is_within" (defArgs s_is_within) (defBody s_is_within) (defScope s_is_within) [] [] f fd) (hm : mg "is_within" = some (.ref f)) (h_is_number : Gf P w K mg base cl 1 "is_number" 1 f_is_number) : Gf P w K mg base cl 2 "is_within" 3 f_is_within :=
  have S := sc_is_within
  (gf_of (k := 1) (N := ["value", "least", "most"]) (ps := ["value", "least", "most"]) (g := g_is_within) F S hm (F.bindsN fun _ _ _ _ _ _ us hl => match us, hl with | [_, _, _], _ => rfl) fun cdv A outer s H E n hr =>
    (dss_one (ds_ret (de_and (de_tst (de_call (h_is_number.mono (by decide)) hr (by rfl) (takes_of rfl rfl rfl rfl) (da_cons (de_var (pv 0)) da_nil) (len_cons len_nil))) (de_one (de_chain op_le op_le pur_int pur_int (de_var (pv 1)) (de_var (pv 0)) (de_var (pv 2)) fun ha hb hc => pe_chain op_le op_le ha hb hc))))))

abbrev s_is_listed : Stmt := (top 8)
theorem sc_is_listed : FnScope (["value"] : List Str) (["value"] : List Str) (defScope s_is_listed) := ⟨rfl, rfl, rfl, by decide +kernel, rfl, by decide +kernel, by decide +kernel⟩
theorem ok_is_listed {f : Addr} {fd : FuncData} (fc : Fc K mg cl wa) (F : FunD K "is_listed" "is_listed" (defArgs s_is_listed) (defBody s_is_listed) (defScope s_is_listed) [] [] f fd) (hm : mg "is_listed" = some (.ref f)) : Gf P w K mg base cl 1 "is_listed" 1 f_is_listed :=
  have S := sc_is_listed
  (gf_of (k := 0) (N := ["value"]) (ps := ["value"]) (g := g_is_listed) F S hm (F.bindsN fun _ _ _ _ _ _ us hl => match us, hl with | [_], _ => rfl) fun cdv A outer s H E n hr =>
    (dss_one (ds_ret (de_isi2 (y := .list) (z := .tuple) fc.hC (by rfl) fc.n_isinstance (dk_look (de_var (pv 0))) (pe_bltn (by rfl) fc.n_list (by decide +kernel) rfl) (pe_bltn (by rfl) fc.n_tuple (by decide +kernel) rfl)))))

abbrev s_have_no_twice : Stmt := (top 9)
theorem sc_have_no_twice : FnScope (["rows", "row"] : List Str) (["rows"] : List Str) (defScope s_have_no_twice) := ⟨rfl, rfl, rfl, by decide +kernel, rfl, by decide +kernel, by decide +kernel⟩
theorem ok_have_no_twice {f : Addr} {fd : FuncData} (fc : Fc K mg cl wa) (F : FunD K "have_no_twice" "have_no_twice" (defArgs s_have_no_twice) (defBody s_have_no_twice) (defScope s_have_no_twice) [] [] f fd) (hm : mg "have_no_twice" = some (.ref f)) : Gf P w K mg base cl 1 "have_no_twice" 1 f_have_no_twice :=
  have S := sc_have_no_twice
  (gf_of (k := 0) (N := ["rows", "row"]) (ps := ["rows"]) (g := g_have_no_twice) F S hm (F.bindsN fun _ _ _ _ _ _ us hl => match us, hl with | [_], _ => rfl) fun cdv A outer s H E n hr =>
    (dss_one (ds_ret (de_eq (u64 hr) (de_unlike (by rfl) (u1 hr) (by rfl) fc.n_len (de_var (pv 0))) (de_len (by rfl) fc.n_len (dk_look (de_var (pv 0))))))))

abbrev s_is_name : Stmt := (top 42)
theorem sc_is_name : FnScope (["value"] : List Str) (["value"] : List Str) (defScope s_is_name) := ⟨rfl, rfl, rfl, by decide +kernel, rfl, by decide +kernel, by decide +kernel⟩
theorem ok_is_name {f : Addr} {fd : FuncData} (fc : Fc K mg cl wa) (F : FunD K "is_name" "is_name" (defArgs s_is_name) (defBody s_is_name) (defScope s_is_name) [] [] f fd) (hm : mg "is_name" = some (.ref f)) : Gf P w K mg base cl 1 "is_name" 1 f_is_name :=
  have S := sc_is_name
  (gf_of (k := 0) (N := ["value"]) (ps := ["value"]) (g := g_is_name) F S hm (F.bindsN fun _ _ _ _ _ _ us hl => match us, hl with | [_], _ => rfl) fun cdv A outer s H E n hr =>
    (dss_cons (ds_if (dt_w (dw_or (dt_not (dt_cmp (de_isi (y := .str) fc.hC (by rfl) fc.n_isinstance (dk_look (de_var (pv 0))) (pe_bltn (by rfl) fc.n_str (by decide +kernel) rfl)))) (dw_or (dt_not (dt_chain op_le op_le pur_int pur_int de_int (de_len (by rfl) fc.n_len (dk_look (de_var (pv 0)))) (de_c (pe_gv (by rfl) fc.g_LONGEST) fun _ _ _ => .int 8))) (dw_or1 (dt_ne (u64 hr) (de_strip (de_var (pv 0)) (de_c (pe_gv (by rfl) fc.g_SIGNS) fun _ _ _ => .str "abcdefghijklmnopqrstuvwxyz")) de_str))))) (dss_one (ds_ret de_bl)) dss_nil)
    (dss_one (ds_ret (de_ninK (u65 hr) (de_var (pv 0)) (pe_glob (by rfl) fc.m_WORDS rfl) fc.q_WORDS)))))

abbrev s_are_spots : Stmt := (top 43)
theorem sc_are_spots : FnScope (["value", "name"] : List Str) (["value"] : List Str) (defScope s_are_spots) := ⟨rfl, rfl, rfl, by decide +kernel, rfl, by decide +kernel, by decide +kernel⟩
theorem ok_are_spots {f : Addr} {fd : FuncData} (fc : Fc K mg cl wa) (F : FunD K "are_spots" "are_spots" (defArgs s_are_spots) (defBody s_are_spots) (defScope s_are_spots) [] [] f fd) (hm : mg "are_spots" = some (.ref f)) (h_is_listed : Gf P w K mg base cl 1 "is_listed" 1 f_is_listed) (h_is_name : Gf P w K mg base cl 1 "is_name" 1 f_is_name) (h_have_no_twice : Gf P w K mg base cl 1 "have_no_twice" 1 f_have_no_twice) : Gf P w K mg base cl 2 "are_spots" 1 f_are_spots :=
  have S := sc_are_spots
  (gf_of (k := 1) (N := ["value", "name"]) (ps := ["value"]) (g := g_are_spots) F S hm (F.bindsN fun _ _ _ _ _ _ us hl => match us, hl with | [_], _ => rfl) fun cdv A outer s H E n hr =>
    (dss_cons (ds_if (dt_w (dw_or (dt_not (dt_val (de_call (h_is_listed.mono (by decide)) hr (by rfl) (takes_of rfl rfl rfl rfl) (da_cons (de_var (pv 0)) da_nil) (len_cons len_nil)))) (dw_or1 (dt_not (dt_chain op_le op_le pur_int pur_int de_int (de_len (by rfl) fc.n_len (dk_look (de_var (pv 0)))) (de_c (pe_gv (by rfl) fc.g_MOST_SPOTS) fun _ _ _ => .int 9)))))) (dss_one (ds_ret de_bl)) dss_nil)
    (dss_one (ds_ret (de_and (de_tst (de_all (by rfl) (by rfl) fc.n_all (dk_look (de_frz (dn_lc (by rfl) S.nd (di_seq (de_var (pv 0))) (blkOk_by (own := [("name", 1)]) (by first | (show blkC ["value", "name"] (defScope s_are_spots) _ _ = true; decide +kernel) | rfl | with_unfolding_all rfl)) (fun _ _ _ _ _ => (dg_name (i := 1) S.nd rfl (by first | exact .inl rfl | exact .inr rfl))) (fun _ _ _ _ _ => dts_nil) (fun _ _ _ _ _ => (de_call (h_is_name.mono (by decide)) hr (by rfl) tk0 (da_cons (de_var (pv 1)) da_nil) (len_cons len_nil))) (by decide)))))) (de_one (de_tst (de_call (h_have_no_twice.mono (by decide)) hr (by rfl) (takes_of rfl rfl rfl rfl) (da_cons (de_var (pv 0)) da_nil) (len_cons len_nil)))))))))

abbrev s_is_pair_below : Stmt := (top 44)
theorem sc_is_pair_below : FnScope (["value", "many"] : List Str) (["value", "many"] : List Str) (defScope s_is_pair_below) := ⟨rfl, rfl, rfl, by decide +kernel, rfl, by decide +kernel, by decide +kernel⟩
theorem ok_is_pair_below {f : Addr} {fd : FuncData} (fc : Fc K mg cl wa) (F : FunD K "is_pair_below" "is_pair_below" (defArgs s_is_pair_below) (defBody s_is_pair_below) (defScope s_is_pair_below) [] [] f fd) (hm : mg "is_pair_below" = some (.ref f)) (h_is_within : Gf P w K mg base cl 2 "is_within" 3 f_is_within) : Gf P w K mg base cl 3 "is_pair_below" 2 f_is_pair_below :=
  have S := sc_is_pair_below
  (gf_of (k := 2) (N := ["value", "many"]) (ps := ["value", "many"]) (g := g_is_pair_below) F S hm (F.bindsN fun _ _ _ _ _ _ us hl => match us, hl with | [_, _], _ => rfl) fun cdv A outer s H E n hr =>
    (dss_cons (ds_if (dt_w (dw_or (dt_not (dt_cmp (de_isi (y := .tuple) fc.hC (by rfl) fc.n_isinstance (dk_look (de_var (pv 0))) (pe_bltn (by rfl) fc.n_tuple (by decide +kernel) rfl)))) (dw_or (dt_ne (u64 hr) (de_len (by rfl) fc.n_len (dk_look (de_var (pv 0)))) de_int) (dw_or1 (dt_not (dt_val (de_call (h_is_within.mono (by decide)) hr (by rfl) (takes_of rfl rfl rfl rfl) (da_cons (de_ix (de_var (pv 0)) de_int fun _ _ => rfl) (da_cons de_int (da_cons (de_sub (de_var (pv 1)) de_int) da_nil))) (len_cons (len_cons (len_cons len_nil)))))))))) (dss_one (ds_ret de_bl)) dss_nil)
    (dss_one (ds_ret (de_call (h_is_within.mono (by decide)) hr (by rfl) (takes_of rfl rfl rfl rfl) (da_cons (de_ix (de_var (pv 0)) de_int fun _ _ => rfl) (da_cons de_int (da_cons (de_sub (de_ix (de_var (pv 0)) de_int fun _ _ => rfl) de_int) da_nil))) (len_cons (len_cons (len_cons len_nil))))))))

abbrev s_steps_away : Stmt := (top 45)
theorem sc_steps_away : FnScope (["many", "roads", "start", "found", "line", "at", "one", "other", "later"] : List Str) (["many", "roads", "start"] : List Str) (defScope s_steps_away) := ⟨rfl, rfl, rfl, by decide +kernel, rfl, by decide +kernel, by decide +kernel⟩
theorem ok_steps_away {f : Addr} {fd : FuncData} (fc : Fc K mg cl wa) (F : FunD K "steps_away" "steps_away" (defArgs s_steps_away) (defBody s_steps_away) (defScope s_steps_away) [] [] f fd) (hm : mg "steps_away" = some (.ref f)) : Gf P w K mg base cl 1 "steps_away" 3 f_steps_away :=
  have S := sc_steps_away
  Gf.gc (gf_of (k := 0) (N := ["many", "roads", "start", "found", "line", "at", "one", "other", "later"]) (ps := ["many", "roads", "start"]) (g := g_steps_away) F S hm (F.bindsN fun _ _ _ _ _ _ us hl => match us, hl with | [_, _, _], _ => rfl) fun cdv A outer s H E n hr =>
    (dss_cons (ds_asg (i := 3) S.nd rfl (by first | exact .inl rfl | exact .inr rfl) (de_reg (dn_rep (de_frz (dn_lst (da_cons de_non da_nil) (len_cons len_nil))) (de_var (pv 0)))))
    (dss_cons (ds_setI de_int (de_var (pv 3)) (de_var (pv 2)))
    (dss_cons (ds_asg (i := 4) S.nd rfl (by first | exact .inl rfl | exact .inr rfl) (de_reg (dn_lst (da_cons (de_var (pv 2)) da_nil) (len_cons len_nil))))
    (dss_cons (ds_asg (i := 5) S.nd rfl (by first | exact .inl rfl | exact .inr rfl) de_int)
    (dss_cons (ds_while (m := 60) (passes_of rfl) (dt_lt (u0 hr) (de_var (pv 5)) (de_len (by rfl) fc.n_len (dk_look (de_var (pv 4))))) (dss_cons (ds_for (passes_of rfl) rfl (di_seq (de_var (pv 1))) (dg_tup rfl (dgs_cons (i := 6) S.nd rfl (by first | exact .inl rfl | exact .inr rfl) (dgs_cons (i := 7) S.nd rfl (by first | exact .inl rfl | exact .inr rfl) dgs_nil))) (dss_one (ds_if (dt_in (u65 hr) (de_ix (de_var (pv 4)) (de_var (pv 5)) fun _ _ => rfl) (dk_look (de_tup (da_cons (de_var (pv 6)) (da_cons (de_var (pv 7)) da_nil)) (len_cons (len_cons len_nil)))) rfl) (dss_cons (ds_asg (i := 8) S.nd rfl (by first | exact .inl rfl | exact .inr rfl) (de_sub (de_add (de_var (pv 6)) (de_var (pv 7))) (de_ix (de_var (pv 4)) (de_var (pv 5)) fun _ _ => rfl)))
    (dss_one (ds_if (dt_isN (de_ix (de_var (pv 3)) (de_var (pv 8)) fun _ _ => rfl)) (dss_cons (ds_setI (de_add (de_ix (de_var (pv 3)) (de_ix (de_var (pv 4)) (de_var (pv 5)) fun _ _ => rfl) fun _ _ => rfl) de_int) (de_var (pv 3)) (de_var (pv 8)))
    (dss_one (ds_expr (de_append (de_var (pv 4)) (da_cons (de_var (pv 8)) da_nil))))) dss_nil))) dss_nil)))
    (dss_one (ds_inc (i := 5) S.nd rfl (by first | exact .inl rfl | exact .inr rfl) de_int))))
    (dss_one (ds_ret (de_fz (de_var (pv 3)))))))))))

abbrev s_Web_init : Stmt := (inC (top 46) 0)
theorem sc_Web_init : FnScope (["self", "spots", "roads", "start", "pair"] : List Str) (["self", "spots", "roads"] : List Str) (defScope s_Web_init) := ⟨rfl, rfl, rfl, by decide +kernel, rfl, by decide +kernel, by decide +kernel⟩
theorem ok_Web_init {f : Addr} {fd : FuncData} (fc : Fc K mg cl wa) (F : FunD K "__init__" "Web.__init__" (defArgs s_Web_init) (defBody s_Web_init) (defScope s_Web_init) [] [] f fd) (M : Mk K (cl 0) f) (h0 : Lv cl 0) (hm : mg "Web" = some (.ref (cl 0))) (h_are_spots : Gf P w K mg base cl 2 "are_spots" 1 f_are_spots) (h_is_listed : Gf P w K mg base cl 1 "is_listed" 1 f_is_listed) (h_is_pair_below : Gf P w K mg base cl 3 "is_pair_below" 2 f_is_pair_below) (h_have_no_twice : Gf P w K mg base cl 1 "have_no_twice" 1 f_have_no_twice) (h_steps_away : Gf P w K mg base cl 1 "steps_away" 3 f_steps_away) (e_BadWeb : Ge P w K mg base cl "BadWeb" 1001 ["what"]) : Gi P w K mg base cl 4 "Web" 0 3 f_Web_init :=
  have S := sc_Web_init
  ⟨f, fd, ["self", "spots", "roads"], fn_body (k := 3) (N := ["self", "spots", "roads", "start", "pair"]) (ps := ["self", "spots", "roads"]) (g := g_Web_init) F S fun cdv A outer s H E n hr =>
    (dss_cons (ds_if (dt_not (dt_val (de_call (h_are_spots.mono (by decide)) hr (by rfl) (takes_of rfl rfl rfl rfl) (da_cons (de_var (pv 1)) da_nil) (len_cons len_nil)))) (dss_one (ds_raise (k := 2) e_BadWeb rfl (takes_of rfl rfl rfl rfl) hr (by rfl) (da_cons de_str da_nil))) dss_nil)
    (dss_cons (ds_if (dt_w (dw_or (dt_not (dt_val (de_call (h_is_listed.mono (by decide)) hr (by rfl) (takes_of rfl rfl rfl rfl) (da_cons (de_var (pv 2)) da_nil) (len_cons len_nil)))) (dw_or1 (dt_not (dt_val (de_all (by rfl) (by rfl) fc.n_all (dk_look (de_frz (dn_lc (by rfl) S.nd (di_seq (de_var (pv 2))) (blkOk_by (own := [("pair", 4)]) (by first | (show blkC ["self", "spots", "roads", "start", "pair"] (defScope s_Web_init) _ _ = true; decide +kernel) | rfl | with_unfolding_all rfl)) (fun _ _ _ _ _ => (dg_name (i := 4) S.nd rfl (by first | exact .inl rfl | exact .inr rfl))) (fun _ _ _ _ _ => dts_nil) (fun _ _ _ _ _ => (de_call (h_is_pair_below.mono (by decide)) hr (by rfl) tk0 (da_cons (de_var (pv 4)) (da_cons (de_len (by rfl) fc.n_len (dk_look (de_var (pv 1)))) da_nil)) (len_cons (len_cons len_nil)))) (by decide)))))))))) (dss_one (ds_raise (k := 2) e_BadWeb rfl (takes_of rfl rfl rfl rfl) hr (by rfl) (da_cons de_str da_nil))) dss_nil)
    (dss_cons (ds_if (dt_not (dt_val (de_call (h_have_no_twice.mono (by decide)) hr (by rfl) (takes_of rfl rfl rfl rfl) (da_cons (de_var (pv 2)) da_nil) (len_cons len_nil)))) (dss_one (ds_raise (k := 2) e_BadWeb rfl (takes_of rfl rfl rfl rfl) hr (by rfl) (da_cons de_str da_nil))) dss_nil)
    (dss_cons (ds_setA fc.hC fc.at_spots (de_var (pv 0)) (de_tuple (by rfl) fc.n_tuple (dk_look (de_var (pv 1)))))
    (dss_cons (ds_setA fc.hC fc.at_roads (de_var (pv 0)) (de_tuple (by rfl) fc.n_tuple (dk_look (de_frz (dn_sorted (u64 hr) (by rfl) fc.n_sorted (dk_look (de_var (pv 2))))))))
    (dss_one (ds_setA fc.hC fc.at_away (de_var (pv 0)) (de_frz (dn_lc (by rfl) S.nd (di_range1 (by rfl) fc.n_range (da_cons (de_len (by rfl) fc.n_len (dk_look (de_var (pv 1)))) da_nil) rfl) (blkOk_by (own := [("start", 3)]) (by first | (show blkC ["self", "spots", "roads", "start", "pair"] (defScope s_Web_init) _ _ = true; decide +kernel) | rfl | with_unfolding_all rfl)) (fun _ _ _ _ _ => (dg_name (i := 3) S.nd rfl (by first | exact .inl rfl | exact .inr rfl))) (fun _ _ _ _ _ => dts_nil) (fun _ _ _ _ _ => (de_call (h_steps_away.mono (by decide)) hr (by rfl) tk0 (da_cons (de_len (by rfl) fc.n_len (dk_look (de_var (pv 1)))) (da_cons (de_var (pv 2)) (da_cons (de_var (pv 3)) da_nil))) (len_cons (len_cons (len_cons len_nil))))) (by decide)))))))))), ⟨M, h0⟩, hm, F.bindsN fun _ _ _ _ _ _ us hl => match us, hl with | [_, _, _], _ => rfl⟩

abbrev s_Task_init : Stmt := (inC (top 18) 0)
theorem sc_Task_init : FnScope (["self", "kind", "reach", "fires", "broken", "lying"] : List Str) (["self", "kind", "reach", "fires", "broken", "lying"] : List Str) (defScope s_Task_init) := ⟨rfl, rfl, rfl, by decide +kernel, rfl, by decide +kernel, by decide +kernel⟩
theorem ok_Task_init {f : Addr} {fd : FuncData} (fc : Fc K mg cl wa) (F : FunD K "__init__" "Task.__init__" (defArgs s_Task_init) (defBody s_Task_init) (defScope s_Task_init) [] [] f fd) (M : Mk K (cl 2) f) (h0 : Lv cl 2) (hm : mg "Task" = some (.ref (cl 2))) (h_is_within : Gf P w K mg base cl 2 "is_within" 3 f_is_within) (e_BadTask : Ge P w K mg base cl "BadTask" 1003 ["what"]) : Gi P w K mg base cl 3 "Task" 2 6 f_Task_init :=
  have S := sc_Task_init
  ⟨f, fd, ["self", "kind", "reach", "fires", "broken", "lying"], fn_body (k := 2) (N := ["self", "kind", "reach", "fires", "broken", "lying"]) (ps := ["self", "kind", "reach", "fires", "broken", "lying"]) (g := g_Task_init) F S fun cdv A outer s H E n hr =>
    (dss_cons (ds_if (dt_w (dw_or (dt_not (dt_cmp (de_isi (y := .str) fc.hC (by rfl) fc.n_isinstance (dk_look (de_var (pv 1))) (pe_bltn (by rfl) fc.n_str (by decide +kernel) rfl)))) (dw_or1 (dt_ninK (u65 hr) (de_var (pv 1)) (pe_glob (by rfl) fc.m_KINDS rfl) fc.q_KINDS)))) (dss_one (ds_raise (k := 1) e_BadTask rfl (takes_of rfl rfl rfl rfl) hr (by rfl) (da_cons de_str da_nil))) dss_nil)
    (dss_cons (ds_if (dt_not (dt_val (de_call (h_is_within.mono (by decide)) hr (by rfl) (takes_of rfl rfl rfl rfl) (da_cons (de_var (pv 2)) (da_cons de_int (da_cons (de_c (pe_gv (by rfl) fc.g_MOST_REACH) fun _ _ _ => .int 8) da_nil))) (len_cons (len_cons (len_cons len_nil)))))) (dss_one (ds_raise (k := 1) e_BadTask rfl (takes_of rfl rfl rfl rfl) hr (by rfl) (da_cons de_str da_nil))) dss_nil)
    (dss_cons (ds_if (dt_not (dt_val (de_call (h_is_within.mono (by decide)) hr (by rfl) (takes_of rfl rfl rfl rfl) (da_cons (de_var (pv 3)) (da_cons de_int (da_cons (de_c (pe_gv (by rfl) fc.g_MOST_FIRES) fun _ _ _ => .int 3) da_nil))) (len_cons (len_cons (len_cons len_nil)))))) (dss_one (ds_raise (k := 1) e_BadTask rfl (takes_of rfl rfl rfl rfl) hr (by rfl) (da_cons de_str da_nil))) dss_nil)
    (dss_cons (ds_if (dt_not (dt_val (de_call (h_is_within.mono (by decide)) hr (by rfl) (takes_of rfl rfl rfl rfl) (da_cons (de_var (pv 4)) (da_cons de_int (da_cons (de_c (pe_gv (by rfl) fc.g_MOST_FAULTS) fun _ _ _ => .int 3) da_nil))) (len_cons (len_cons (len_cons len_nil)))))) (dss_one (ds_raise (k := 1) e_BadTask rfl (takes_of rfl rfl rfl rfl) hr (by rfl) (da_cons de_str da_nil))) dss_nil)
    (dss_cons (ds_if (dt_not (dt_val (de_call (h_is_within.mono (by decide)) hr (by rfl) (takes_of rfl rfl rfl rfl) (da_cons (de_var (pv 5)) (da_cons de_int (da_cons (de_c (pe_gv (by rfl) fc.g_MOST_FAULTS) fun _ _ _ => .int 3) da_nil))) (len_cons (len_cons (len_cons len_nil)))))) (dss_one (ds_raise (k := 1) e_BadTask rfl (takes_of rfl rfl rfl rfl) hr (by rfl) (da_cons de_str da_nil))) dss_nil)
    (dss_cons (ds_setA fc.hC fc.at_kind (de_var (pv 0)) (de_var (pv 1)))
    (dss_cons (ds_setA fc.hC fc.at_reach (de_var (pv 0)) (de_var (pv 2)))
    (dss_cons (ds_setA fc.hC fc.at_fires (de_var (pv 0)) (de_var (pv 3)))
    (dss_cons (ds_setA fc.hC fc.at_broken (de_var (pv 0)) (de_var (pv 4)))
    (dss_one (ds_setA fc.hC fc.at_lying (de_var (pv 0)) (de_var (pv 5))))))))))))), ⟨M, h0⟩, hm, F.bindsN fun _ _ _ _ _ _ us hl => match us, hl with | [_, _, _, _, _, _], _ => rfl⟩

abbrev s__law_mixed : Stmt := (top 51)
theorem sc__law_mixed : FnScope (["pot", "row", "left", "k"] : List Str) (["pot", "row"] : List Str) (defScope s__law_mixed) := ⟨rfl, rfl, rfl, by decide +kernel, rfl, by decide +kernel, by decide +kernel⟩
theorem ok__law_mixed {f : Addr} {fd : FuncData} (fc : Fc K mg cl wa) (F : FunD K "_law_mixed" "_law_mixed" (defArgs s__law_mixed) (defBody s__law_mixed) (defScope s__law_mixed) [] [] f fd) (hm : mg "_law_mixed" = some (.ref f)) (h__law_draw : Gf P w K mg base cl 1 "_law_draw" 2 f__law_draw) : Gf P w K mg base cl 2 "_law_mixed" 2 f__law_mixed :=
  have S := sc__law_mixed
  Gf.gc (gf_of (k := 1) (N := ["pot", "row", "left", "k"]) (ps := ["pot", "row"]) (g := g__law_mixed) F S hm (F.bindsN fun _ _ _ _ _ _ us hl => match us, hl with | [_, _], _ => rfl) fun cdv A outer s H E n hr =>
    (dss_cons (ds_asg (i := 2) S.nd rfl (by first | exact .inl rfl | exact .inr rfl) (de_reg (dn_list (by rfl) fc.n_list (dk_look (de_var (pv 1))))))
    (dss_one (ds_ret (de_frz (dn_lc (by rfl) S.nd (di_range1 (by rfl) fc.n_range (da_cons (de_len (by rfl) fc.n_len (dk_look (de_var (pv 1)))) da_nil) rfl) (blkOk_by (own := [("k", 3)]) (by first | (show blkC ["pot", "row", "left", "k"] (defScope s__law_mixed) _ _ = true; decide +kernel) | rfl | with_unfolding_all rfl)) (fun _ _ _ _ _ => (dg_name (i := 3) S.nd rfl (by first | exact .inl rfl | exact .inr rfl))) (fun _ _ _ _ _ => dts_nil) (fun _ _ _ _ _ => (de_pop (de_var (pv 2)) (da_cons (de_call (h__law_draw.mono (by decide)) hr (by rfl) tk0 (da_cons (de_var (pv 0)) (da_cons (de_len (by rfl) fc.n_len (dk_look (de_var (pv 2)))) da_nil)) (len_cons (len_cons len_nil))) da_nil))) (by decide)))))))

abbrev s__law_same : Stmt := (top 52)
theorem sc__law_same : FnScope (["found", "due", "k"] : List Str) (["found", "due"] : List Str) (defScope s__law_same) := ⟨rfl, rfl, rfl, by decide +kernel, rfl, by decide +kernel, by decide +kernel⟩
theorem ok__law_same_at {f : Addr} {fd : FuncData} (fc : Fc K mg cl wa) (F : FunD K "_law_same" "_law_same" (defArgs s__law_same) (defBody s__law_same) (defScope s__law_same) [] [] f fd) (hm : mg "_law_same" = some (.ref f)) : ∀ r : Nat, Gf P w K mg base cl (0 + r) "_law_same" 2 (f__law_same_at r)
  | 0 => gf_bad F hm (ps := ["found", "due"]) (F.bindsN fun _ _ _ _ _ _ us hl => match us, hl with | [_, _], _ => rfl)
  | r + 1 =>
  have S := sc__law_same
  have hself := ok__law_same_at fc F hm r
  (gf_of (k := 0 + r) (N := ["found", "due", "k"]) (ps := ["found", "due"]) (g := g__law_same (f__law_same_at r)) F S hm (F.bindsN fun _ _ _ _ _ _ us hl => match us, hl with | [_, _], _ => rfl) fun cdv A outer s H E n hr =>
    (dss_cons (ds_if (dt_w (dw_or (dt_cmp (de_isi (y := .tuple) fc.hC (by rfl) fc.n_isinstance (dk_look (de_var (pv 1))) (pe_bltn (by rfl) fc.n_tuple (by decide +kernel) rfl))) (dw_or1 (dt_cmp (de_isi (y := .list) fc.hC (by rfl) fc.n_isinstance (dk_look (de_var (pv 1))) (pe_bltn (by rfl) fc.n_list (by decide +kernel) rfl)))))) (dss_cons (ds_if (dt_w (dw_or (dt_ne (u64 hr) (de_isi (y := .tuple) fc.hC (by rfl) fc.n_isinstance (dk_look (de_var (pv 1))) (pe_bltn (by rfl) fc.n_tuple (by decide +kernel) rfl)) (de_isi (y := .tuple) fc.hC (by rfl) fc.n_isinstance (dk_look (de_var (pv 0))) (pe_bltn (by rfl) fc.n_tuple (by decide +kernel) rfl))) (dw_or1 (dt_ne (u64 hr) (de_isi (y := .list) fc.hC (by rfl) fc.n_isinstance (dk_look (de_var (pv 1))) (pe_bltn (by rfl) fc.n_list (by decide +kernel) rfl)) (de_isi (y := .list) fc.hC (by rfl) fc.n_isinstance (dk_look (de_var (pv 0))) (pe_bltn (by rfl) fc.n_list (by decide +kernel) rfl)))))) (dss_one (ds_ret de_bl)) dss_nil)
    (dss_cons (ds_if (dt_ne (u64 hr) (de_len (by rfl) fc.n_len (dk_look (de_var (pv 0)))) (de_len (by rfl) fc.n_len (dk_look (de_var (pv 1))))) (dss_one (ds_ret de_bl)) dss_nil)
    (dss_one (ds_ret (de_eq (u64 hr) (de_frz (dn_lc (by rfl) S.nd (di_range1 (by rfl) fc.n_range (da_cons (de_len (by rfl) fc.n_len (dk_look (de_var (pv 1)))) da_nil) rfl) (blkOk_by (own := [("k", 2)]) (by first | (show blkC ["found", "due", "k"] (defScope s__law_same) _ _ = true; decide +kernel) | rfl | with_unfolding_all rfl)) (fun _ _ _ _ _ => (dg_name (i := 2) S.nd rfl (by first | exact .inl rfl | exact .inr rfl))) (fun _ _ _ _ _ => (dts_one (dt_not (dt_val (de_call (hself.mono (by omega)) hr (by rfl) tk0 (da_cons (de_ix (de_var (pv 0)) (de_var (pv 2)) fun _ _ => rfl) (da_cons (de_ix (de_var (pv 1)) (de_var (pv 2)) fun _ _ => rfl) da_nil)) (len_cons (len_cons len_nil))))))) (fun _ _ _ _ _ => (de_var (pv 2))) (by decide))) (de_frz (dn_lst da_nil len_nil))))))) dss_nil)
    (dss_cons (ds_if (dt_isN (de_var (pv 1))) (dss_one (ds_ret (de_isN (de_var (pv 0))))) dss_nil)
    (dss_cons (ds_if (dt_cmp (de_isi (y := .str) fc.hC (by rfl) fc.n_isinstance (dk_look (de_var (pv 1))) (pe_bltn (by rfl) fc.n_str (by decide +kernel) rfl))) (dss_one (ds_ret (de_and (de_isi (y := .str) fc.hC (by rfl) fc.n_isinstance (dk_look (de_var (pv 0))) (pe_bltn (by rfl) fc.n_str (by decide +kernel) rfl)) (de_one (de_eq (u64 hr) (de_var (pv 0)) (de_var (pv 1))))))) dss_nil)
    (dss_one (ds_ret (de_and (de_isi (y := .int) fc.hC (by rfl) fc.n_isinstance (dk_look (de_var (pv 0))) (pe_bltn (by rfl) fc.n_int (by decide +kernel) rfl)) (de_and (de_eq (u64 hr) (de_isi (y := .bool) fc.hC (by rfl) fc.n_isinstance (dk_look (de_var (pv 0))) (pe_bltn (by rfl) fc.n_bool (by decide +kernel) rfl)) (de_isi (y := .bool) fc.hC (by rfl) fc.n_isinstance (dk_look (de_var (pv 1))) (pe_bltn (by rfl) fc.n_bool (by decide +kernel) rfl))) (de_one (de_eq (u64 hr) (de_var (pv 0)) (de_var (pv 1))))))))))))
theorem ok__law_same {f : Addr} {fd : FuncData} (fc : Fc K mg cl wa) (F : FunD K "_law_same" "_law_same" (defArgs s__law_same) (defBody s__law_same) (defScope s__law_same) [] [] f fd) (hm : mg "_law_same" = some (.ref f)) : Gf P w K mg base cl 7 "_law_same" 2 f__law_same := (ok__law_same_at fc F hm 6).mono (by decide)

abbrev s__law_pairs : Stmt := (top 53)
theorem sc__law_pairs : FnScope (["many", "found", "j", "i"] : List Str) (["many"] : List Str) (defScope s__law_pairs) := ⟨rfl, rfl, rfl, by decide +kernel, rfl, by decide +kernel, by decide +kernel⟩
theorem ok__law_pairs {f : Addr} {fd : FuncData} (fc : Fc K mg cl wa) (F : FunD K "_law_pairs" "_law_pairs" (defArgs s__law_pairs) (defBody s__law_pairs) (defScope s__law_pairs) [] [] f fd) (hm : mg "_law_pairs" = some (.ref f)) : Gf P w K mg base cl 1 "_law_pairs" 1 f__law_pairs :=
  have S := sc__law_pairs
  (gf_of (k := 0) (N := ["many", "found", "j", "i"]) (ps := ["many"]) (g := g__law_pairs) F S hm (F.bindsN fun _ _ _ _ _ _ us hl => match us, hl with | [_], _ => rfl) fun cdv A outer s H E n hr =>
    (dss_cons (ds_asg (i := 1) S.nd rfl (by first | exact .inl rfl | exact .inr rfl) (de_frz (dn_lst da_nil len_nil)))
    (dss_cons (ds_for (passes_of rfl) rfl (di_range1 (by rfl) fc.n_range (da_cons (de_var (pv 0)) da_nil) rfl) (dg_name (i := 2) S.nd rfl (by first | exact .inl rfl | exact .inr rfl)) (dss_one (ds_asg (i := 1) S.nd rfl (by first | exact .inl rfl | exact .inr rfl) (de_add (de_var (pv 1)) (de_frz (dn_lc (by rfl) S.nd (di_range1 (by rfl) fc.n_range (da_cons (de_var (pv 2)) da_nil) rfl) (blkOk_by (own := [("i", 3)]) (by first | (show blkC ["many", "found", "j", "i"] (defScope s__law_pairs) _ _ = true; decide +kernel) | rfl | with_unfolding_all rfl)) (fun _ _ _ _ _ => (dg_name (i := 3) S.nd rfl (by first | exact .inl rfl | exact .inr rfl))) (fun _ _ _ _ _ => dts_nil) (fun _ _ _ _ _ => (de_tup (da_cons (de_var (pv 3)) (da_cons (de_var (pv 2)) da_nil)) (len_cons (len_cons len_nil)))) (by decide)))))))
    (dss_one (ds_ret (de_var (pv 1)))))))

abbrev s__law_word : Stmt := (top 56)
theorem sc__law_word : FnScope (["pot", "size", "k"] : List Str) (["pot"] : List Str) (defScope s__law_word) := ⟨rfl, rfl, rfl, by decide +kernel, rfl, by decide +kernel, by decide +kernel⟩
theorem ok__law_word {f : Addr} {fd : FuncData} (fc : Fc K mg cl wa) (F : FunD K "_law_word" "_law_word" (defArgs s__law_word) (defBody s__law_word) (defScope s__law_word) [] [] f fd) (hm : mg "_law_word" = some (.ref f)) (h__law_draw : Gf P w K mg base cl 1 "_law_draw" 2 f__law_draw) (h__law_pick : Gf P w K mg base cl 2 "_law_pick" 2 f__law_pick) : Gf P w K mg base cl 3 "_law_word" 1 f__law_word :=
  have S := sc__law_word
  (gf_of (k := 2) (N := ["pot", "size", "k"]) (ps := ["pot"]) (g := g__law_word) F S hm (F.bindsN fun _ _ _ _ _ _ us hl => match us, hl with | [_], _ => rfl) fun cdv A outer s H E n hr =>
    (dss_cons (ds_if (dt_eq (u64 hr) (de_call (h__law_draw.mono (by decide)) hr (by rfl) (takes_of rfl rfl rfl rfl) (da_cons (de_var (pv 0)) (da_cons de_int da_nil)) (len_cons (len_cons len_nil))) de_int) (dss_one (ds_ret (de_call (h__law_pick.mono (by decide)) hr (by rfl) (takes_of rfl rfl rfl rfl) (da_cons (de_var (pv 0)) (da_cons (de_frz (dn_lst (da_cons de_str (da_cons de_str (da_cons de_str da_nil))) (len_cons (len_cons (len_cons len_nil))))) da_nil)) (len_cons (len_cons len_nil))))) dss_nil)
    (dss_cons (ds_asg (i := 1) S.nd rfl (by first | exact .inl rfl | exact .inr rfl) (de_call (h__law_pick.mono (by decide)) hr (by rfl) (takes_of rfl rfl rfl rfl) (da_cons (de_var (pv 0)) (da_cons (de_frz (dn_lst (da_cons de_int (da_cons de_int (da_cons de_int (da_cons de_int (da_cons de_int da_nil))))) (len_cons (len_cons (len_cons (len_cons (len_cons len_nil))))))) da_nil)) (len_cons (len_cons len_nil))))
    (dss_one (ds_ret (de_join de_str (de_frz (dn_lc (by rfl) S.nd (di_range1 (by rfl) fc.n_range (da_cons (de_var (pv 1)) da_nil) rfl) (blkOk_by (own := [("k", 2)]) (by first | (show blkC ["pot", "size", "k"] (defScope s__law_word) _ _ = true; decide +kernel) | rfl | with_unfolding_all rfl)) (fun _ _ _ _ _ => (dg_name (i := 2) S.nd rfl (by first | exact .inl rfl | exact .inr rfl))) (fun _ _ _ _ _ => dts_nil) (fun _ _ _ _ _ => (de_call (h__law_pick.mono (by decide)) hr (by rfl) tk0 (da_cons (de_var (pv 0)) (da_cons de_str da_nil)) (len_cons (len_cons len_nil)))) (by decide)))))))))

abbrev s__law_is_name : Stmt := (top 57)
theorem sc__law_is_name : FnScope (["thing", "sign"] : List Str) (["thing"] : List Str) (defScope s__law_is_name) := ⟨rfl, rfl, rfl, by decide +kernel, rfl, by decide +kernel, by decide +kernel⟩
theorem ok__law_is_name {f : Addr} {fd : FuncData} (fc : Fc K mg cl wa) (F : FunD K "_law_is_name" "_law_is_name" (defArgs s__law_is_name) (defBody s__law_is_name) (defScope s__law_is_name) [] [] f fd) (hm : mg "_law_is_name" = some (.ref f)) : Gf P w K mg base cl 1 "_law_is_name" 1 f__law_is_name :=
  have S := sc__law_is_name
  (gf_of (k := 0) (N := ["thing", "sign"]) (ps := ["thing"]) (g := g__law_is_name) F S hm (F.bindsN fun _ _ _ _ _ _ us hl => match us, hl with | [_], _ => rfl) fun cdv A outer s H E n hr =>
    (dss_cons (ds_if (dt_w (dw_or (dt_not (dt_cmp (de_isi (y := .str) fc.hC (by rfl) fc.n_isinstance (dk_look (de_var (pv 0))) (pe_bltn (by rfl) fc.n_str (by decide +kernel) rfl)))) (dw_or (dt_not (dt_chain op_le op_le pur_int pur_int de_int (de_len (by rfl) fc.n_len (dk_look (de_var (pv 0)))) de_int)) (dw_or1 (dt_in (u65 hr) (de_var (pv 0)) (dk_look (de_tup (da_cons de_str (da_cons de_str (da_cons de_str da_nil))) (len_cons (len_cons (len_cons len_nil))))) rfl))))) (dss_one (ds_ret de_bl)) dss_nil)
    (dss_one (ds_ret (de_eq (u64 hr) (de_len (by rfl) fc.n_len (dk_look (de_frz (dn_lc (by rfl) S.nd (di_str (de_var (pv 0))) (blkOk_by (own := [("sign", 1)]) (by first | (show blkC ["thing", "sign"] (defScope s__law_is_name) _ _ = true; decide +kernel) | rfl | with_unfolding_all rfl)) (fun _ _ _ _ _ => (dg_name (i := 1) S.nd rfl (by first | exact .inl rfl | exact .inr rfl))) (fun _ _ _ _ _ => (dts_one (dt_in (u65 hr) (de_var (pv 1)) (dk_look de_str) rfl))) (fun _ _ _ _ _ => (de_var (pv 1))) (by decide))))) (de_len (by rfl) fc.n_len (dk_look (de_var (pv 0)))))))))

abbrev s__law_names : Stmt := (top 55)
theorem sc__law_names : FnScope (["pot", "many", "found", "k", "word", "some", "sign", "one"] : List Str) (["pot", "many"] : List Str) (defScope s__law_names) := ⟨rfl, rfl, rfl, by decide +kernel, rfl, by decide +kernel, by decide +kernel⟩
theorem ok__law_names {f : Addr} {fd : FuncData} (fc : Fc K mg cl wa) (F : FunD K "_law_names" "_law_names" (defArgs s__law_names) (defBody s__law_names) (defScope s__law_names) [] [] f fd) (hm : mg "_law_names" = some (.ref f)) (h__law_word : Gf P w K mg base cl 3 "_law_word" 1 f__law_word) (h__law_is_name : Gf P w K mg base cl 1 "_law_is_name" 1 f__law_is_name) : Gf P w K mg base cl 4 "_law_names" 2 f__law_names :=
  have S := sc__law_names
  Gf.gc (gf_of (k := 3) (N := ["pot", "many", "found", "k", "word", "some", "sign", "one"]) (ps := ["pot", "many"]) (g := g__law_names) F S hm (F.bindsN fun _ _ _ _ _ _ us hl => match us, hl with | [_, _], _ => rfl) fun cdv A outer s H E n hr =>
    (dss_cons (ds_asg (i := 2) S.nd rfl (by first | exact .inl rfl | exact .inr rfl) (de_reg (dn_lst da_nil len_nil)))
    (dss_cons (ds_for (passes_of rfl) rfl (di_range1 (by rfl) fc.n_range (da_cons (de_var (pv 1)) da_nil) rfl) (dg_name (i := 3) S.nd rfl (by first | exact .inl rfl | exact .inr rfl)) (dss_cons (ds_asg (i := 4) S.nd rfl (by first | exact .inl rfl | exact .inr rfl) (de_sl (de_call (h__law_word.mono (by decide)) hr (by rfl) (takes_of rfl rfl rfl rfl) (da_cons (de_var (pv 0)) da_nil) (len_cons len_nil)) do_none (do_some de_int)))
    (dss_cons (ds_ownF (ds_lc (i := 5) (by rfl) S.nd rfl rfl rfl (di_str de_str) (blkOk_by (own := [("sign", 6)]) (by first | (show blkC ["pot", "many", "found", "k", "word", "some", "sign", "one"] (defScope s__law_names) _ _ = true; decide +kernel) | rfl | with_unfolding_all rfl)) (fun _ _ _ _ _ => (dg_name (i := 6) S.nd rfl (by first | exact .inl rfl | exact .inr rfl))) (fun _ _ _ _ _ => dts_nil) (fun _ _ _ _ _ => (de_add (de_var (pv 4)) (de_var (pv 6)))) (by decide)))
    (dss_one (ds_expr (de_append (de_var (pv 2)) (da_cons (de_ix (de_frz (dn_lc (by rfl) S.nd (di_seq (de_var (pv 5))) (blkOk_by (own := [("one", 7)]) (by first | (show blkC ["pot", "many", "found", "k", "word", "some", "sign", "one"] (defScope s__law_names) _ _ = true; decide +kernel) | rfl | with_unfolding_all rfl)) (fun _ _ _ _ _ => (dg_name (i := 7) S.nd rfl (by first | exact .inl rfl | exact .inr rfl))) (fun _ _ _ _ _ => (dts_one (dt_w (dw_and (dt_nin (u65 hr) (de_var (pv 7)) (dk_look (de_var (pv 2))) rfl) (dw_and1 (dt_val (de_call (h__law_is_name.mono (by decide)) hr (by rfl) tk0 (da_cons (de_var (pv 7)) da_nil) (len_cons len_nil)))))))) (fun _ _ _ _ _ => (de_var (pv 7))) (by decide))) de_int fun _ _ => rfl) da_nil)))))))
    (dss_one (ds_ret (de_fz (de_var (pv 2))))))))

abbrev s__law_spec : Stmt := (top 58)
theorem sc__law_spec : FnScope (["pot", "most", "names", "thick", "pair"] : List Str) (["pot", "most"] : List Str) (defScope s__law_spec) := ⟨rfl, rfl, rfl, by decide +kernel, rfl, by decide +kernel, by decide +kernel⟩
theorem ok__law_spec {f : Addr} {fd : FuncData} (fc : Fc K mg cl wa) (F : FunD K "_law_spec" "_law_spec" (defArgs s__law_spec) (defBody s__law_spec) (defScope s__law_spec) [] [] f fd) (hm : mg "_law_spec" = some (.ref f)) (h__law_draw : Gf P w K mg base cl 1 "_law_draw" 2 f__law_draw) (h__law_names : Gf P w K mg base cl 4 "_law_names" 2 f__law_names) (h__law_pairs : Gf P w K mg base cl 1 "_law_pairs" 1 f__law_pairs) : Gf P w K mg base cl 5 "_law_spec" 2 f__law_spec :=
  have S := sc__law_spec
  (gf_of (k := 4) (N := ["pot", "most", "names", "thick", "pair"]) (ps := ["pot", "most"]) (g := g__law_spec) F S hm (F.bindsN fun _ _ _ _ _ _ us hl => match us, hl with | [_, _], _ => rfl) fun cdv A outer s H E n hr =>
    (dss_cons (ds_asg (i := 2) S.nd rfl (by first | exact .inl rfl | exact .inr rfl) (de_call (h__law_names.mono (by decide)) hr (by rfl) (takes_of rfl rfl rfl rfl) (da_cons (de_var (pv 0)) (da_cons (de_add de_int (de_call (h__law_draw.mono (by decide)) hr (by rfl) (takes_of rfl rfl rfl rfl) (da_cons (de_var (pv 0)) (da_cons (de_var (pv 1)) da_nil)) (len_cons (len_cons len_nil)))) da_nil)) (len_cons (len_cons len_nil))))
    (dss_cons (ds_asg (i := 3) S.nd rfl (by first | exact .inl rfl | exact .inr rfl) (de_add de_int (de_call (h__law_draw.mono (by decide)) hr (by rfl) (takes_of rfl rfl rfl rfl) (da_cons (de_var (pv 0)) (da_cons de_int da_nil)) (len_cons (len_cons len_nil)))))
    (dss_one (ds_ret (de_frz (dn_lst (da_cons (de_var (pv 2)) (da_cons (de_frz (dn_lc (by rfl) S.nd (di_seq (de_call (h__law_pairs.mono (by decide)) hr (by rfl) (takes_of rfl rfl rfl rfl) (da_cons (de_len (by rfl) fc.n_len (dk_look (de_var (pv 2)))) da_nil) (len_cons len_nil))) (blkOk_by (own := [("pair", 4)]) (by first | (show blkC ["pot", "most", "names", "thick", "pair"] (defScope s__law_spec) _ _ = true; decide +kernel) | rfl | with_unfolding_all rfl)) (fun _ _ _ _ _ => (dg_name (i := 4) S.nd rfl (by first | exact .inl rfl | exact .inr rfl))) (fun _ _ _ _ _ => (dts_one (dt_eq (u64 hr) (de_call (h__law_draw.mono (by decide)) hr (by rfl) tk0 (da_cons (de_var (pv 0)) (da_cons (de_var (pv 3)) da_nil)) (len_cons (len_cons len_nil))) de_int))) (fun _ _ _ _ _ => (de_var (pv 4))) (by decide))) da_nil)) (len_cons (len_cons len_nil)))))))))

abbrev s__law_made : Stmt := (top 59)
theorem sc__law_made : FnScope (["spec"] : List Str) (["spec"] : List Str) (defScope s__law_made) := ⟨rfl, rfl, rfl, by decide +kernel, rfl, by decide +kernel, by decide +kernel⟩
theorem ok__law_made {f : Addr} {fd : FuncData} (fc : Fc K mg cl wa) (F : FunD K "_law_made" "_law_made" (defArgs s__law_made) (defBody s__law_made) (defScope s__law_made) [] [] f fd) (hm : mg "_law_made" = some (.ref f)) (h_Web_init : Gi P w K mg base cl 4 "Web" 0 3 f_Web_init) : Gf P w K mg base cl 6 "_law_made" 1 f__law_made :=
  have S := sc__law_made
  Gf.gc (gf_of (k := 5) (N := ["spec"]) (ps := ["spec"]) (g := g__law_made) F S hm (F.bindsN fun _ _ _ _ _ _ us hl => match us, hl with | [_], _ => rfl) fun cdv A outer s H E n hr =>
    (dss_one (ds_ret (de_fz (de_make (h_Web_init.mono (by decide)) hr (by rfl) (takes_of rfl rfl rfl rfl) (da_cons (de_frz (dn_list (by rfl) fc.n_list (dk_look (de_ix (de_var (pv 0)) de_int fun _ _ => rfl)))) (da_cons (de_frz (dn_list (by rfl) fc.n_list (dk_look (de_ix (de_var (pv 0)) de_int fun _ _ => rfl)))) da_nil)) (len_cons (len_cons len_nil)))))))

abbrev s__law_task : Stmt := (top 60)
theorem sc__law_task : FnScope (["pot", "fires", "faults"] : List Str) (["pot", "fires"] : List Str) (defScope s__law_task) := ⟨rfl, rfl, rfl, by decide +kernel, rfl, by decide +kernel, by decide +kernel⟩
theorem ok__law_task {f : Addr} {fd : FuncData} (fc : Fc K mg cl wa) (F : FunD K "_law_task" "_law_task" (defArgs s__law_task) (defBody s__law_task) (defScope s__law_task) [] [] f fd) (hm : mg "_law_task" = some (.ref f)) (h__law_pick : Gf P w K mg base cl 2 "_law_pick" 2 f__law_pick) (h__law_draw : Gf P w K mg base cl 1 "_law_draw" 2 f__law_draw) : Gf P w K mg base cl 3 "_law_task" 2 f__law_task :=
  have S := sc__law_task
  (gf_of (k := 2) (N := ["pot", "fires", "faults"]) (ps := ["pot", "fires"]) (g := g__law_task) F S hm (F.bindsN fun _ _ _ _ _ _ us hl => match us, hl with | [_, _], _ => rfl) fun cdv A outer s H E n hr =>
    (dss_cons (ds_asg (i := 2) S.nd rfl (by first | exact .inl rfl | exact .inr rfl) (de_call (h__law_pick.mono (by decide)) hr (by rfl) (takes_of rfl rfl rfl rfl) (da_cons (de_var (pv 0)) (da_cons (de_frz (dn_lst (da_cons (de_frz (dn_lst (da_cons de_int (da_cons de_int da_nil)) (len_cons (len_cons len_nil)))) (da_cons (de_frz (dn_lst (da_cons de_int (da_cons de_int da_nil)) (len_cons (len_cons len_nil)))) (da_cons (de_frz (dn_lst (da_cons de_int (da_cons de_int da_nil)) (len_cons (len_cons len_nil)))) (da_cons (de_frz (dn_lst (da_cons de_int (da_cons de_int da_nil)) (len_cons (len_cons len_nil)))) (da_cons (de_frz (dn_lst (da_cons de_int (da_cons de_int da_nil)) (len_cons (len_cons len_nil)))) (da_cons (de_frz (dn_lst (da_cons de_int (da_cons de_int da_nil)) (len_cons (len_cons len_nil)))) da_nil)))))) (len_cons (len_cons (len_cons (len_cons (len_cons (len_cons len_nil)))))))) da_nil)) (len_cons (len_cons len_nil))))
    (dss_one (ds_ret (de_add (de_frz (dn_lst (da_cons (de_call (h__law_pick.mono (by decide)) hr (by rfl) (takes_of rfl rfl rfl rfl) (da_cons (de_var (pv 0)) (da_cons (de_frz (dn_lst (da_cons de_str (da_cons de_str (da_cons de_str da_nil))) (len_cons (len_cons (len_cons len_nil))))) da_nil)) (len_cons (len_cons len_nil))) (da_cons (de_call (h__law_draw.mono (by decide)) hr (by rfl) (takes_of rfl rfl rfl rfl) (da_cons (de_var (pv 0)) (da_cons de_int da_nil)) (len_cons (len_cons len_nil))) (da_cons (de_add de_int (de_call (h__law_draw.mono (by decide)) hr (by rfl) (takes_of rfl rfl rfl rfl) (da_cons (de_var (pv 0)) (da_cons (de_var (pv 1)) da_nil)) (len_cons (len_cons len_nil)))) da_nil))) (len_cons (len_cons (len_cons len_nil))))) (de_var (pv 2)))))))

abbrev s__law_set : Stmt := (top 61)
theorem sc__law_set : FnScope (["task"] : List Str) (["task"] : List Str) (defScope s__law_set) := ⟨rfl, rfl, rfl, by decide +kernel, rfl, by decide +kernel, by decide +kernel⟩
theorem ok__law_set {f : Addr} {fd : FuncData} (fc : Fc K mg cl wa) (F : FunD K "_law_set" "_law_set" (defArgs s__law_set) (defBody s__law_set) (defScope s__law_set) [] [] f fd) (hm : mg "_law_set" = some (.ref f)) (h_Task_init : Gi P w K mg base cl 3 "Task" 2 6 f_Task_init) : Gf P w K mg base cl 5 "_law_set" 1 f__law_set :=
  have S := sc__law_set
  Gf.gc (gf_of (k := 4) (N := ["task"]) (ps := ["task"]) (g := g__law_set) F S hm (F.bindsN fun _ _ _ _ _ _ us hl => match us, hl with | [_], _ => rfl) fun cdv A outer s H E n hr =>
    (dss_one (ds_ret (de_fz (de_make (h_Task_init.mono (by decide)) hr (by rfl) (takes_of rfl rfl rfl rfl) (da_cons (de_ix (de_var (pv 0)) de_int fun _ _ => rfl) (da_cons (de_ix (de_var (pv 0)) de_int fun _ _ => rfl) (da_cons (de_ix (de_var (pv 0)) de_int fun _ _ => rfl) (da_cons (de_ix (de_var (pv 0)) de_int fun _ _ => rfl) (da_cons (de_ix (de_var (pv 0)) de_int fun _ _ => rfl) da_nil))))) (len_cons (len_cons (len_cons (len_cons (len_cons len_nil))))))))))

abbrev s__law_all : Stmt := (top 62)
theorem sc__law_all : FnScope (["spec"] : List Str) (["spec"] : List Str) (defScope s__law_all) := ⟨rfl, rfl, rfl, by decide +kernel, rfl, by decide +kernel, by decide +kernel⟩
theorem ok__law_all {f : Addr} {fd : FuncData} (fc : Fc K mg cl wa) (F : FunD K "_law_all" "_law_all" (defArgs s__law_all) (defBody s__law_all) (defScope s__law_all) [] [] f fd) (hm : mg "_law_all" = some (.ref f)) : Gf P w K mg base cl 1 "_law_all" 1 f__law_all :=
  have S := sc__law_all
  (gf_of (k := 0) (N := ["spec"]) (ps := ["spec"]) (g := g__law_all) F S hm (F.bindsN fun _ _ _ _ _ _ us hl => match us, hl with | [_], _ => rfl) fun cdv A outer s H E n hr =>
    (dss_one (ds_ret (de_tuple (by rfl) fc.n_tuple (dk_look (de_frz (dn_listRg (by rfl) (by rfl) fc.n_list (by rfl) fc.n_range (de_len (by rfl) fc.n_len (dk_look (de_ix (de_var (pv 0)) de_int fun _ _ => rfl))))))))))

abbrev s_is_lot_below : Stmt := (top 10)
theorem sc_is_lot_below : FnScope (["value", "many", "at", "item"] : List Str) (["value", "many"] : List Str) (defScope s_is_lot_below) := ⟨rfl, rfl, rfl, by decide +kernel, rfl, by decide +kernel, by decide +kernel⟩
theorem ok_is_lot_below {f : Addr} {fd : FuncData} (fc : Fc K mg cl wa) (F : FunD K "is_lot_below" "is_lot_below" (defArgs s_is_lot_below) (defBody s_is_lot_below) (defScope s_is_lot_below) [] [] f fd) (hm : mg "is_lot_below" = some (.ref f)) (h_is_within : Gf P w K mg base cl 2 "is_within" 3 f_is_within) : Gf P w K mg base cl 3 "is_lot_below" 2 f_is_lot_below :=
  have S := sc_is_lot_below
  (gf_of (k := 2) (N := ["value", "many", "at", "item"]) (ps := ["value", "many"]) (g := g_is_lot_below) F S hm (F.bindsN fun _ _ _ _ _ _ us hl => match us, hl with | [_, _], _ => rfl) fun cdv A outer s H E n hr =>
    (dss_cons (ds_if (dt_w (dw_or (dt_not (dt_cmp (de_isi (y := .tuple) fc.hC (by rfl) fc.n_isinstance (dk_look (de_var (pv 0))) (pe_bltn (by rfl) fc.n_tuple (by decide +kernel) rfl)))) (dw_or1 (dt_not (dt_val (de_all (by rfl) (by rfl) fc.n_all (dk_look (de_frz (dn_lc (by rfl) S.nd (di_seq (de_var (pv 0))) (blkOk_by (own := [("item", 3)]) (by first | (show blkC ["value", "many", "at", "item"] (defScope s_is_lot_below) _ _ = true; decide +kernel) | rfl | with_unfolding_all rfl)) (fun _ _ _ _ _ => (dg_name (i := 3) S.nd rfl (by first | exact .inl rfl | exact .inr rfl))) (fun _ _ _ _ _ => dts_nil) (fun _ _ _ _ _ => (de_call (h_is_within.mono (by decide)) hr (by rfl) tk0 (da_cons (de_var (pv 3)) (da_cons de_int (da_cons (de_sub (de_var (pv 1)) de_int) da_nil))) (len_cons (len_cons (len_cons len_nil))))) (by decide)))))))))) (dss_one (ds_ret de_bl)) dss_nil)
    (dss_one (ds_ret (de_all (by rfl) (by rfl) fc.n_all (dk_look (de_frz (dn_lc (by rfl) S.nd (di_range1 (by rfl) fc.n_range (da_cons (de_sub (de_len (by rfl) fc.n_len (dk_look (de_var (pv 0)))) de_int) da_nil) rfl) (blkOk_by (own := [("at", 2)]) (by first | (show blkC ["value", "many", "at", "item"] (defScope s_is_lot_below) _ _ = true; decide +kernel) | rfl | with_unfolding_all rfl)) (fun _ _ _ _ _ => (dg_name (i := 2) S.nd rfl (by first | exact .inl rfl | exact .inr rfl))) (fun _ _ _ _ _ => dts_nil) (fun _ _ _ _ _ => (de_lt (u0 hr) (de_ix (de_var (pv 0)) (de_var (pv 2)) fun _ _ => rfl) (de_ix (de_var (pv 0)) (de_add (de_var (pv 2)) de_int) fun _ _ => rfl))) (by decide)))))))))

abbrev s_lots_by_size : Stmt := (top 11)
theorem sc_lots_by_size : FnScope (["many", "most", "found", "layer", "size", "longer", "lot", "item"] : List Str) (["many", "most"] : List Str) (defScope s_lots_by_size) := ⟨rfl, rfl, rfl, by decide +kernel, rfl, by decide +kernel, by decide +kernel⟩
theorem ok_lots_by_size {f : Addr} {fd : FuncData} (fc : Fc K mg cl wa) (F : FunD K "lots_by_size" "lots_by_size" (defArgs s_lots_by_size) (defBody s_lots_by_size) (defScope s_lots_by_size) [] [] f fd) (hm : mg "lots_by_size" = some (.ref f)) : Gf P w K mg base cl 1 "lots_by_size" 2 f_lots_by_size :=
  have S := sc_lots_by_size
  Gf.gc (gf_of (k := 0) (N := ["many", "most", "found", "layer", "size", "longer", "lot", "item"]) (ps := ["many", "most"]) (g := g_lots_by_size) F S hm (F.bindsN fun _ _ _ _ _ _ us hl => match us, hl with | [_, _], _ => rfl) fun cdv A outer s H E n hr =>
    (dss_cons (ds_asg (i := 2) S.nd rfl (by first | exact .inl rfl | exact .inr rfl) (de_reg (dn_lst (da_cons (de_tup da_nil len_nil) da_nil) (len_cons len_nil))))
    (dss_cons (ds_asg (i := 3) S.nd rfl (by first | exact .inl rfl | exact .inr rfl) (de_frz (dn_lst (da_cons (de_tup da_nil len_nil) da_nil) (len_cons len_nil))))
    (dss_cons (ds_for (passes_of rfl) rfl (di_range1 (by rfl) fc.n_range (da_cons (de_var (pv 1)) da_nil) rfl) (dg_name (i := 4) S.nd rfl (by first | exact .inl rfl | exact .inr rfl)) (dss_cons (ds_asg (i := 5) S.nd rfl (by first | exact .inl rfl | exact .inr rfl) (de_reg (dn_lst da_nil len_nil)))
    (dss_cons (ds_for (passes_of rfl) rfl (di_seq (de_var (pv 3))) (dg_name (i := 6) S.nd rfl (by first | exact .inl rfl | exact .inr rfl)) (dss_one (ds_expr (de_extend (de_var (pv 5)) (da_cons (de_frz (dn_lc (by rfl) S.nd (di_range2 (by rfl) fc.n_range (da_cons (de_if (dt_gt (de_len (by rfl) fc.n_len (dk_look (de_var (pv 6)))) de_int) (de_add (de_ix (de_var (pv 6)) (de_neg de_int) fun _ _ => rfl) de_int) de_int) (da_cons (de_var (pv 0)) da_nil)) rfl) (blkOk_by (own := [("item", 7)]) (by first | (show blkC ["many", "most", "found", "layer", "size", "longer", "lot", "item"] (defScope s_lots_by_size) _ _ = true; decide +kernel) | rfl | with_unfolding_all rfl)) (fun _ _ _ _ _ => (dg_name (i := 7) S.nd rfl (by first | exact .inl rfl | exact .inr rfl))) (fun _ _ _ _ _ => dts_nil) (fun _ _ _ _ _ => (de_tupS (da_star (de_var (pv 6)) (da_cons (de_var (pv 7)) da_nil)))) (by decide))) da_nil)))))
    (dss_cons (ds_fzO (i := 5) (ds_expr (de_extend (de_var (pv 2)) (da_cons (de_var (pv 5)) da_nil))))
    (dss_one (ds_asg (i := 3) S.nd rfl (by first | exact .inl rfl | exact .inr rfl) (de_var (pv 5))))))))
    (dss_one (ds_ret (de_fz (de_var (pv 2)))))))))

abbrev s_all_lots : Stmt := (top 19)
theorem sc_all_lots : FnScope (["web", "task"] : List Str) (["web", "task"] : List Str) (defScope s_all_lots) := ⟨rfl, rfl, rfl, by decide +kernel, rfl, by decide +kernel, by decide +kernel⟩
theorem ok_all_lots {f : Addr} {fd : FuncData} (fc : Fc K mg cl wa) (F : FunD K "all_lots" "all_lots" (defArgs s_all_lots) (defBody s_all_lots) (defScope s_all_lots) [] [] f fd) (hm : mg "all_lots" = some (.ref f)) (h_lots_by_size : Gf P w K mg base cl 1 "lots_by_size" 2 f_lots_by_size) : Gf P w K mg base cl 2 "all_lots" 2 f_all_lots :=
  have S := sc_all_lots
  (gf_of (k := 1) (N := ["web", "task"]) (ps := ["web", "task"]) (g := g_all_lots) F S hm (F.bindsN fun _ _ _ _ _ _ us hl => match us, hl with | [_, _], _ => rfl) fun cdv A outer s H E n hr =>
    (dss_one (ds_ret (de_frz (dn_sorted (u64 hr) (by rfl) fc.n_sorted (dk_look (de_call (h_lots_by_size.mono (by decide)) hr (by rfl) (takes_of rfl rfl rfl rfl) (da_cons (de_len (by rfl) fc.n_len (dk_look (de_attr fc.hC (fc.at_spots) (dk_look (de_var (pv 0))) rfl))) (da_cons (de_min2 (by rfl) (by rfl) fc.n_min (de_attr fc.hC (fc.at_fires) (dk_look (de_var (pv 1))) rfl) (de_len (by rfl) fc.n_len (dk_look (de_attr fc.hC (fc.at_spots) (dk_look (de_var (pv 0))) rfl)))) da_nil)) (len_cons (len_cons len_nil)))))))))

abbrev s_is_lot : Stmt := (top 20)
theorem sc_is_lot : FnScope (["web", "value"] : List Str) (["web", "value"] : List Str) (defScope s_is_lot) := ⟨rfl, rfl, rfl, by decide +kernel, rfl, by decide +kernel, by decide +kernel⟩
theorem ok_is_lot {f : Addr} {fd : FuncData} (fc : Fc K mg cl wa) (F : FunD K "is_lot" "is_lot" (defArgs s_is_lot) (defBody s_is_lot) (defScope s_is_lot) [] [] f fd) (hm : mg "is_lot" = some (.ref f)) (h_is_lot_below : Gf P w K mg base cl 3 "is_lot_below" 2 f_is_lot_below) : Gf P w K mg base cl 4 "is_lot" 2 f_is_lot :=
  have S := sc_is_lot
  (gf_of (k := 3) (N := ["web", "value"]) (ps := ["web", "value"]) (g := g_is_lot) F S hm (F.bindsN fun _ _ _ _ _ _ us hl => match us, hl with | [_, _], _ => rfl) fun cdv A outer s H E n hr =>
    (dss_one (ds_ret (de_call (h_is_lot_below.mono (by decide)) hr (by rfl) (takes_of rfl rfl rfl rfl) (da_cons (de_var (pv 1)) (da_cons (de_len (by rfl) fc.n_len (dk_look (de_attr fc.hC (fc.at_spots) (dk_look (de_var (pv 0))) rfl))) da_nil)) (len_cons (len_cons len_nil))))))

abbrev s_check_watchers : Stmt := (top 21)
theorem sc_check_watchers : FnScope (["web", "watchers"] : List Str) (["web", "watchers"] : List Str) (defScope s_check_watchers) := ⟨rfl, rfl, rfl, by decide +kernel, rfl, by decide +kernel, by decide +kernel⟩
theorem ok_check_watchers {f : Addr} {fd : FuncData} (fc : Fc K mg cl wa) (F : FunD K "check_watchers" "check_watchers" (defArgs s_check_watchers) (defBody s_check_watchers) (defScope s_check_watchers) [] [] f fd) (hm : mg "check_watchers" = some (.ref f)) (h_is_lot : Gf P w K mg base cl 4 "is_lot" 2 f_is_lot) (e_NoWatch : Ge P w K mg base cl "NoWatch" 1006 []) : Gf P w K mg base cl 5 "check_watchers" 2 f_check_watchers :=
  have S := sc_check_watchers
  (gf_of (k := 4) (N := ["web", "watchers"]) (ps := ["web", "watchers"]) (g := g_check_watchers) F S hm (F.bindsN fun _ _ _ _ _ _ us hl => match us, hl with | [_, _], _ => rfl) fun cdv A outer s H E n hr =>
    (dss_one (ds_if (dt_not (dt_val (de_call (h_is_lot.mono (by decide)) hr (by rfl) (takes_of rfl rfl rfl rfl) (da_cons (de_var (pv 0)) (da_cons (de_var (pv 1)) da_nil)) (len_cons (len_cons len_nil))))) (dss_one (ds_raiseN (k := 3) e_NoWatch rfl (takes_of rfl rfl rfl rfl) hr (by rfl))) dss_nil)))

abbrev s_told_by : Stmt := (top 22)
theorem sc_told_by : FnScope (["web", "task", "place", "lot", "some", "nearest", "fire"] : List Str) (["web", "task", "place", "lot"] : List Str) (defScope s_told_by) := ⟨rfl, rfl, rfl, by decide +kernel, rfl, by decide +kernel, by decide +kernel⟩
theorem ok_told_by {f : Addr} {fd : FuncData} (fc : Fc K mg cl wa) (F : FunD K "told_by" "told_by" (defArgs s_told_by) (defBody s_told_by) (defScope s_told_by) [] [] f fd) (hm : mg "told_by" = some (.ref f)) : Gf P w K mg base cl 1 "told_by" 4 f_told_by :=
  have S := sc_told_by
  (gf_of (k := 0) (N := ["web", "task", "place", "lot", "some", "nearest", "fire"]) (ps := ["web", "task", "place", "lot"]) (g := g_told_by) F S hm (F.bindsN fun _ _ _ _ _ _ us hl => match us, hl with | [_, _, _, _], _ => rfl) fun cdv A outer s H E n hr =>
    (dss_cons (ds_ownF (ds_lc (i := 4) (by rfl) S.nd rfl rfl rfl (di_seq (de_var (pv 3))) (blkOk_by (own := [("fire", 6)]) (by first | (show blkC ["web", "task", "place", "lot", "some", "nearest", "fire"] (defScope s_told_by) _ _ = true; decide +kernel) | rfl | with_unfolding_all rfl)) (fun _ _ _ _ _ => (dg_name (i := 6) S.nd rfl (by first | exact .inl rfl | exact .inr rfl))) (fun _ _ _ _ _ => (dts_one (dt_notN (de_ix (de_ix (de_attr fc.hC (fc.at_away) (dk_look (de_var (pv 0))) rfl) (de_var (pv 2)) fun _ _ => rfl) (de_var (pv 6)) fun _ _ => rfl)))) (fun _ _ _ _ _ => (de_ix (de_ix (de_attr fc.hC (fc.at_away) (dk_look (de_var (pv 0))) rfl) (de_var (pv 2)) fun _ _ => rfl) (de_var (pv 6)) fun _ _ => rfl)) (by decide)))
    (dss_cons (ds_asg (i := 5) S.nd rfl (by first | exact .inl rfl | exact .inr rfl) (de_if (dt_gt (de_len (by rfl) fc.n_len (dk_look (de_var (pv 4)))) de_int) (de_minL (by rfl) (by rfl) fc.n_min (dk_look (de_var (pv 4)))) de_non))
    (dss_cons (ds_if (dt_eq (u64 hr) (de_attr fc.hC (fc.at_kind) (dk_look (de_var (pv 1))) rfl) de_str) (dss_one (ds_ret (de_var (pv 5)))) dss_nil)
    (dss_one (ds_ret (de_and (de_notN (de_var (pv 5))) (de_one (de_le (de_var (pv 5)) (de_attr fc.hC (fc.at_reach) (dk_look (de_var (pv 1))) rfl))))))))))

abbrev s_report_of : Stmt := (top 23)
theorem sc_report_of : FnScope (["web", "task", "watchers", "lot", "place"] : List Str) (["web", "task", "watchers", "lot"] : List Str) (defScope s_report_of) := ⟨rfl, rfl, rfl, by decide +kernel, rfl, by decide +kernel, by decide +kernel⟩
theorem ok_report_of {f : Addr} {fd : FuncData} (fc : Fc K mg cl wa) (F : FunD K "report_of" "report_of" (defArgs s_report_of) (defBody s_report_of) (defScope s_report_of) [] [] f fd) (hm : mg "report_of" = some (.ref f)) (h_told_by : Gf P w K mg base cl 1 "told_by" 4 f_told_by) : Gf P w K mg base cl 2 "report_of" 4 f_report_of :=
  have S := sc_report_of
  (gf_of (k := 1) (N := ["web", "task", "watchers", "lot", "place"]) (ps := ["web", "task", "watchers", "lot"]) (g := g_report_of) F S hm (F.bindsN fun _ _ _ _ _ _ us hl => match us, hl with | [_, _, _, _], _ => rfl) fun cdv A outer s H E n hr =>
    (dss_one (ds_ret (de_tuple (by rfl) fc.n_tuple (dk_look (de_frz (dn_lc (by rfl) S.nd (di_seq (de_var (pv 2))) (blkOk_by (own := [("place", 4)]) (by first | (show blkC ["web", "task", "watchers", "lot", "place"] (defScope s_report_of) _ _ = true; decide +kernel) | rfl | with_unfolding_all rfl)) (fun _ _ _ _ _ => (dg_name (i := 4) S.nd rfl (by first | exact .inl rfl | exact .inr rfl))) (fun _ _ _ _ _ => dts_nil) (fun _ _ _ _ _ => (de_call (h_told_by.mono (by decide)) hr (by rfl) tk0 (da_cons (de_var (pv 0)) (da_cons (de_var (pv 1)) (da_cons (de_var (pv 4)) (da_cons (de_var (pv 3)) da_nil)))) (len_cons (len_cons (len_cons (len_cons len_nil)))))) (by decide))))))))

abbrev s__law_lots : Stmt := (top 54)
theorem sc__law_lots : FnScope (["things", "found", "thing", "lot"] : List Str) (["things"] : List Str) (defScope s__law_lots) := ⟨rfl, rfl, rfl, by decide +kernel, rfl, by decide +kernel, by decide +kernel⟩
theorem ok__law_lots {f : Addr} {fd : FuncData} (fc : Fc K mg cl wa) (F : FunD K "_law_lots" "_law_lots" (defArgs s__law_lots) (defBody s__law_lots) (defScope s__law_lots) [] [] f fd) (hm : mg "_law_lots" = some (.ref f)) : Gf P w K mg base cl 1 "_law_lots" 1 f__law_lots :=
  have S := sc__law_lots
  (gf_of (k := 0) (N := ["things", "found", "thing", "lot"]) (ps := ["things"]) (g := g__law_lots) F S hm (F.bindsN fun _ _ _ _ _ _ us hl => match us, hl with | [_], _ => rfl) fun cdv A outer s H E n hr =>
    (dss_cons (ds_asg (i := 1) S.nd rfl (by first | exact .inl rfl | exact .inr rfl) (de_frz (dn_lst (da_cons (de_tup da_nil len_nil) da_nil) (len_cons len_nil))))
    (dss_cons (ds_for (passes_of rfl) rfl (di_seq (de_var (pv 0))) (dg_name (i := 2) S.nd rfl (by first | exact .inl rfl | exact .inr rfl)) (dss_one (ds_asg (i := 1) S.nd rfl (by first | exact .inl rfl | exact .inr rfl) (de_add (de_var (pv 1)) (de_frz (dn_lc (by rfl) S.nd (di_seq (de_var (pv 1))) (blkOk_by (own := [("lot", 3)]) (by first | (show blkC ["things", "found", "thing", "lot"] (defScope s__law_lots) _ _ = true; decide +kernel) | rfl | with_unfolding_all rfl)) (fun _ _ _ _ _ => (dg_name (i := 3) S.nd rfl (by first | exact .inl rfl | exact .inr rfl))) (fun _ _ _ _ _ => dts_nil) (fun _ _ _ _ _ => (de_add (de_var (pv 3)) (de_tup (da_cons (de_var (pv 2)) da_nil) (len_cons len_nil)))) (by decide)))))))
    (dss_one (ds_ret (de_var (pv 1)))))))

abbrev s_gap_of : Stmt := (top 25)
theorem sc_gap_of : FnScope (["one", "other", "near", "far"] : List Str) (["one", "other"] : List Str) (defScope s_gap_of) := ⟨rfl, rfl, rfl, by decide +kernel, rfl, by decide +kernel, by decide +kernel⟩
theorem ok_gap_of {f : Addr} {fd : FuncData} (fc : Fc K mg cl wa) (F : FunD K "gap_of" "gap_of" (defArgs s_gap_of) (defBody s_gap_of) (defScope s_gap_of) [] [] f fd) (hm : mg "gap_of" = some (.ref f)) : Gf P w K mg base cl 1 "gap_of" 2 f_gap_of :=
  have S := sc_gap_of
  (gf_of (k := 0) (N := ["one", "other", "near", "far"]) (ps := ["one", "other"]) (g := g_gap_of) F S hm (F.bindsN fun _ _ _ _ _ _ us hl => match us, hl with | [_, _], _ => rfl) fun cdv A outer s H E n hr =>
    (dss_one (ds_ret (de_len (by rfl) fc.n_len (dk_look (de_frz (dn_lc (by rfl) S.nd (di_zip (by rfl) fc.n_zip (de_var (pv 0)) (de_var (pv 1))) (blkOk_by (own := [("near", 2), ("far", 3)]) (by first | (show blkC ["one", "other", "near", "far"] (defScope s_gap_of) _ _ = true; decide +kernel) | rfl | with_unfolding_all rfl)) (fun _ _ _ _ _ => (dg_tup rfl (dgs_cons (i := 2) S.nd rfl (by first | exact .inl rfl | exact .inr rfl) (dgs_cons (i := 3) S.nd rfl (by first | exact .inl rfl | exact .inr rfl) dgs_nil)))) (fun _ _ _ _ _ => (dts_one (dt_ne (u64 hr) (de_var (pv 2)) (de_var (pv 3))))) (fun _ _ _ _ _ => de_bl) (by decide))))))))

abbrev s_bound_of : Stmt := (top 26)
theorem sc_bound_of : FnScope (["task"] : List Str) (["task"] : List Str) (defScope s_bound_of) := ⟨rfl, rfl, rfl, by decide +kernel, rfl, by decide +kernel, by decide +kernel⟩
theorem ok_bound_of {f : Addr} {fd : FuncData} (fc : Fc K mg cl wa) (F : FunD K "bound_of" "bound_of" (defArgs s_bound_of) (defBody s_bound_of) (defScope s_bound_of) [] [] f fd) (hm : mg "bound_of" = some (.ref f)) : Gf P w K mg base cl 1 "bound_of" 1 f_bound_of :=
  have S := sc_bound_of
  (gf_of (k := 0) (N := ["task"]) (ps := ["task"]) (g := g_bound_of) F S hm (F.bindsN fun _ _ _ _ _ _ us hl => match us, hl with | [_], _ => rfl) fun cdv A outer s H E n hr =>
    (dss_one (ds_ret (de_add (de_attr fc.hC (fc.at_broken) (dk_look (de_var (pv 0))) rfl) (de_mul de_int (de_attr fc.hC (fc.at_lying) (dk_look (de_var (pv 0))) rfl))))))

abbrev s_pairs_of : Stmt := (top 27)
theorem sc_pairs_of : FnScope (["rows", "found", "at", "one", "other"] : List Str) (["rows"] : List Str) (defScope s_pairs_of) := ⟨rfl, rfl, rfl, by decide +kernel, rfl, by decide +kernel, by decide +kernel⟩
theorem ok_pairs_of {f : Addr} {fd : FuncData} (fc : Fc K mg cl wa) (F : FunD K "pairs_of" "pairs_of" (defArgs s_pairs_of) (defBody s_pairs_of) (defScope s_pairs_of) [] [] f fd) (hm : mg "pairs_of" = some (.ref f)) : Gf P w K mg base cl 1 "pairs_of" 1 f_pairs_of :=
  have S := sc_pairs_of
  Gf.gc (gf_of (k := 0) (N := ["rows", "found", "at", "one", "other"]) (ps := ["rows"]) (g := g_pairs_of) F S hm (F.bindsN fun _ _ _ _ _ _ us hl => match us, hl with | [_], _ => rfl) fun cdv A outer s H E n hr =>
    (dss_cons (ds_asg (i := 1) S.nd rfl (by first | exact .inl rfl | exact .inr rfl) (de_reg (dn_lst da_nil len_nil)))
    (dss_cons (ds_for (passes_of rfl) rfl (di_enumQ (by rfl) fc.n_enumerate (de_var (pv 0))) (dg_tup rfl (dgs_cons (i := 2) S.nd rfl (by first | exact .inl rfl | exact .inr rfl) (dgs_cons (i := 3) S.nd rfl (by first | exact .inl rfl | exact .inr rfl) dgs_nil))) (dss_one (ds_expr (de_extend (de_var (pv 1)) (da_cons (de_frz (dn_lc (by rfl) S.nd (di_seq (de_sl (de_var (pv 0)) (do_some (de_add (de_var (pv 2)) de_int)) do_none)) (blkOk_by (own := [("other", 4)]) (by first | (show blkC ["rows", "found", "at", "one", "other"] (defScope s_pairs_of) _ _ = true; decide +kernel) | rfl | with_unfolding_all rfl)) (fun _ _ _ _ _ => (dg_name (i := 4) S.nd rfl (by first | exact .inl rfl | exact .inr rfl))) (fun _ _ _ _ _ => dts_nil) (fun _ _ _ _ _ => (de_tup (da_cons (de_var (pv 3)) (da_cons (de_var (pv 4)) da_nil)) (len_cons (len_cons len_nil)))) (by decide))) da_nil)))))
    (dss_one (ds_ret (de_fz (de_var (pv 1))))))))

abbrev s_mixed_row : Stmt := (top 28)
theorem sc_mixed_row : FnScope (["task", "one", "other", "found", "broken", "lying", "near", "far"] : List Str) (["task", "one", "other"] : List Str) (defScope s_mixed_row) := ⟨rfl, rfl, rfl, by decide +kernel, rfl, by decide +kernel, by decide +kernel⟩
theorem ok_mixed_row {f : Addr} {fd : FuncData} (fc : Fc K mg cl wa) (F : FunD K "mixed_row" "mixed_row" (defArgs s_mixed_row) (defBody s_mixed_row) (defScope s_mixed_row) [] [] f fd) (hm : mg "mixed_row" = some (.ref f)) : Gf P w K mg base cl 1 "mixed_row" 3 f_mixed_row :=
  have S := sc_mixed_row
  Gf.gc (gf_of (k := 0) (N := ["task", "one", "other", "found", "broken", "lying", "near", "far"]) (ps := ["task", "one", "other"]) (g := g_mixed_row) F S hm (F.bindsN fun _ _ _ _ _ _ us hl => match us, hl with | [_, _, _], _ => rfl) fun cdv A outer s H E n hr =>
    (dss_cons (ds_asg (i := 3) S.nd rfl (by first | exact .inl rfl | exact .inr rfl) (de_reg (dn_lst da_nil len_nil)))
    (dss_cons (ds_asg (i := 4) S.nd rfl (by first | exact .inl rfl | exact .inr rfl) de_int)
    (dss_cons (ds_asg (i := 5) S.nd rfl (by first | exact .inl rfl | exact .inr rfl) de_int)
    (dss_cons (ds_for (passes_of rfl) rfl (di_zip (by rfl) fc.n_zip (de_var (pv 1)) (de_var (pv 2))) (dg_tup rfl (dgs_cons (i := 6) S.nd rfl (by first | exact .inl rfl | exact .inr rfl) (dgs_cons (i := 7) S.nd rfl (by first | exact .inl rfl | exact .inr rfl) dgs_nil))) (dss_one (ds_if (dt_eq (u64 hr) (de_var (pv 6)) (de_var (pv 7))) (dss_one (ds_expr (de_append (de_var (pv 3)) (da_cons (de_var (pv 6)) da_nil)))) (dss_one (ds_if (dt_lt (u0 hr) (de_var (pv 4)) (de_attr fc.hC (fc.at_broken) (dk_look (de_var (pv 0))) rfl)) (dss_cons (ds_inc (i := 4) S.nd rfl (by first | exact .inl rfl | exact .inr rfl) de_int)
    (dss_one (ds_expr (de_append (de_var (pv 3)) (da_cons (de_c (pe_gv (by rfl) fc.g_BROKEN) fun _ _ _ => .str "broken") da_nil))))) (dss_one (ds_if (dt_lt (u0 hr) (de_var (pv 5)) (de_attr fc.hC (fc.at_lying) (dk_look (de_var (pv 0))) rfl)) (dss_cons (ds_inc (i := 5) S.nd rfl (by first | exact .inl rfl | exact .inr rfl) de_int)
    (dss_one (ds_expr (de_append (de_var (pv 3)) (da_cons (de_var (pv 6)) da_nil))))) (dss_one (ds_expr (de_append (de_var (pv 3)) (da_cons (de_var (pv 7)) da_nil)))))))))))
    (dss_one (ds_ret (de_tuple (by rfl) fc.n_tuple (dk_look (de_var (pv 3)))))))))))

abbrev s_close_pair : Stmt := (top 29)
theorem sc_close_pair : FnScope (["web", "task", "watchers", "one", "other"] : List Str) (["web", "task", "watchers"] : List Str) (defScope s_close_pair) := ⟨rfl, rfl, rfl, by decide +kernel, rfl, by decide +kernel, by decide +kernel⟩
theorem ok_close_pair {f : Addr} {fd : FuncData} (fc : Fc K mg cl wa) (F : FunD K "close_pair" "close_pair" (defArgs s_close_pair) (defBody s_close_pair) (defScope s_close_pair) [] [] f fd) (hm : mg "close_pair" = some (.ref f)) (h_all_lots : Gf P w K mg base cl 2 "all_lots" 2 f_all_lots) (h_pairs_of : Gf P w K mg base cl 1 "pairs_of" 1 f_pairs_of) (h_report_of : Gf P w K mg base cl 2 "report_of" 4 f_report_of) (h_gap_of : Gf P w K mg base cl 1 "gap_of" 2 f_gap_of) (h_bound_of : Gf P w K mg base cl 1 "bound_of" 1 f_bound_of) : Gf P w K mg base cl 3 "close_pair" 3 f_close_pair :=
  have S := sc_close_pair
  (gf_of (k := 2) (N := ["web", "task", "watchers", "one", "other"]) (ps := ["web", "task", "watchers"]) (g := g_close_pair) F S hm (F.bindsN fun _ _ _ _ _ _ us hl => match us, hl with | [_, _, _], _ => rfl) fun cdv A outer s H E n hr =>
    (dss_cons (ds_for (passes_of rfl) rfl (di_seq (de_call (h_pairs_of.mono (by decide)) hr (by rfl) (takes_of rfl rfl rfl rfl) (da_cons (de_call (h_all_lots.mono (by decide)) hr (by rfl) (takes_of rfl rfl rfl rfl) (da_cons (de_var (pv 0)) (da_cons (de_var (pv 1)) da_nil)) (len_cons (len_cons len_nil))) da_nil) (len_cons len_nil))) (dg_tup rfl (dgs_cons (i := 3) S.nd rfl (by first | exact .inl rfl | exact .inr rfl) (dgs_cons (i := 4) S.nd rfl (by first | exact .inl rfl | exact .inr rfl) dgs_nil))) (dss_one (ds_if (dt_le (de_call (h_gap_of.mono (by decide)) hr (by rfl) (takes_of rfl rfl rfl rfl) (da_cons (de_call (h_report_of.mono (by decide)) hr (by rfl) (takes_of rfl rfl rfl rfl) (da_cons (de_var (pv 0)) (da_cons (de_var (pv 1)) (da_cons (de_var (pv 2)) (da_cons (de_var (pv 3)) da_nil)))) (len_cons (len_cons (len_cons (len_cons len_nil))))) (da_cons (de_call (h_report_of.mono (by decide)) hr (by rfl) (takes_of rfl rfl rfl rfl) (da_cons (de_var (pv 0)) (da_cons (de_var (pv 1)) (da_cons (de_var (pv 2)) (da_cons (de_var (pv 4)) da_nil)))) (len_cons (len_cons (len_cons (len_cons len_nil))))) da_nil)) (len_cons (len_cons len_nil))) (de_call (h_bound_of.mono (by decide)) hr (by rfl) (takes_of rfl rfl rfl rfl) (da_cons (de_var (pv 1)) da_nil) (len_cons len_nil))) (dss_one (ds_ret (de_tup (da_cons (de_var (pv 3)) (da_cons (de_var (pv 4)) da_nil)) (len_cons (len_cons len_nil))))) dss_nil)))
    (dss_one (ds_ret de_non))))

abbrev s_clash : Stmt := (top 30)
theorem sc_clash : FnScope (["web", "task", "watchers", "pair", "rows", "lot"] : List Str) (["web", "task", "watchers"] : List Str) (defScope s_clash) := ⟨rfl, rfl, rfl, by decide +kernel, rfl, by decide +kernel, by decide +kernel⟩
theorem ok_clash {f : Addr} {fd : FuncData} (fc : Fc K mg cl wa) (F : FunD K "clash" "clash" (defArgs s_clash) (defBody s_clash) (defScope s_clash) [] [] f fd) (hm : mg "clash" = some (.ref f)) (h_check_watchers : Gf P w K mg base cl 5 "check_watchers" 2 f_check_watchers) (h_close_pair : Gf P w K mg base cl 3 "close_pair" 3 f_close_pair) (h_report_of : Gf P w K mg base cl 2 "report_of" 4 f_report_of) (h_mixed_row : Gf P w K mg base cl 1 "mixed_row" 3 f_mixed_row) : Gf P w K mg base cl 6 "clash" 3 f_clash :=
  have S := sc_clash
  (gf_of (k := 5) (N := ["web", "task", "watchers", "pair", "rows", "lot"]) (ps := ["web", "task", "watchers"]) (g := g_clash) F S hm (F.bindsN fun _ _ _ _ _ _ us hl => match us, hl with | [_, _, _], _ => rfl) fun cdv A outer s H E n hr =>
    (dss_cons (ds_expr (de_call (h_check_watchers.mono (by decide)) hr (by rfl) (takes_of rfl rfl rfl rfl) (da_cons (de_var (pv 0)) (da_cons (de_var (pv 2)) da_nil)) (len_cons (len_cons len_nil))))
    (dss_cons (ds_asg (i := 3) S.nd rfl (by first | exact .inl rfl | exact .inr rfl) (de_call (h_close_pair.mono (by decide)) hr (by rfl) (takes_of rfl rfl rfl rfl) (da_cons (de_var (pv 0)) (da_cons (de_var (pv 1)) (da_cons (de_var (pv 2)) da_nil))) (len_cons (len_cons (len_cons len_nil)))))
    (dss_cons (ds_if (dt_isN (de_var (pv 3))) (dss_one (ds_ret de_non)) dss_nil)
    (dss_cons (ds_ownF (ds_lc (i := 4) (by rfl) S.nd rfl rfl rfl (di_seq (de_var (pv 3))) (blkOk_by (own := [("lot", 5)]) (by first | (show blkC ["web", "task", "watchers", "pair", "rows", "lot"] (defScope s_clash) _ _ = true; decide +kernel) | rfl | with_unfolding_all rfl)) (fun _ _ _ _ _ => (dg_name (i := 5) S.nd rfl (by first | exact .inl rfl | exact .inr rfl))) (fun _ _ _ _ _ => dts_nil) (fun _ _ _ _ _ => (de_call (h_report_of.mono (by decide)) hr (by rfl) tk0 (da_cons (de_var (pv 0)) (da_cons (de_var (pv 1)) (da_cons (de_var (pv 2)) (da_cons (de_var (pv 5)) da_nil)))) (len_cons (len_cons (len_cons (len_cons len_nil)))))) (by decide)))
    (dss_one (ds_ret (de_tupS (da_star (de_var (pv 3)) (da_cons (de_call (h_mixed_row.mono (by decide)) hr (by rfl) (takes_of rfl rfl rfl rfl) (da_cons (de_var (pv 1)) (da_cons (de_ix (de_var (pv 4)) de_int fun _ _ => rfl) (da_cons (de_ix (de_var (pv 4)) de_int fun _ _ => rfl) da_nil))) (len_cons (len_cons (len_cons len_nil)))) da_nil))))))))))

abbrev s_gap : Stmt := (top 31)
theorem sc_gap : FnScope (["web", "task", "watchers", "rows", "some", "lot", "one", "other"] : List Str) (["web", "task", "watchers"] : List Str) (defScope s_gap) := ⟨rfl, rfl, rfl, by decide +kernel, rfl, by decide +kernel, by decide +kernel⟩
theorem ok_gap {f : Addr} {fd : FuncData} (fc : Fc K mg cl wa) (F : FunD K "gap" "gap" (defArgs s_gap) (defBody s_gap) (defScope s_gap) [] [] f fd) (hm : mg "gap" = some (.ref f)) (h_check_watchers : Gf P w K mg base cl 5 "check_watchers" 2 f_check_watchers) (h_all_lots : Gf P w K mg base cl 2 "all_lots" 2 f_all_lots) (h_report_of : Gf P w K mg base cl 2 "report_of" 4 f_report_of) (h_pairs_of : Gf P w K mg base cl 1 "pairs_of" 1 f_pairs_of) (h_gap_of : Gf P w K mg base cl 1 "gap_of" 2 f_gap_of) : Gf P w K mg base cl 6 "gap" 3 f_gap :=
  have S := sc_gap
  (gf_of (k := 5) (N := ["web", "task", "watchers", "rows", "some", "lot", "one", "other"]) (ps := ["web", "task", "watchers"]) (g := g_gap) F S hm (F.bindsN fun _ _ _ _ _ _ us hl => match us, hl with | [_, _, _], _ => rfl) fun cdv A outer s H E n hr =>
    (dss_cons (ds_expr (de_call (h_check_watchers.mono (by decide)) hr (by rfl) (takes_of rfl rfl rfl rfl) (da_cons (de_var (pv 0)) (da_cons (de_var (pv 2)) da_nil)) (len_cons (len_cons len_nil))))
    (dss_cons (ds_ownF (ds_lc (i := 3) (by rfl) S.nd rfl rfl rfl (di_seq (de_call (h_all_lots.mono (by decide)) hr (by rfl) (takes_of rfl rfl rfl rfl) (da_cons (de_var (pv 0)) (da_cons (de_var (pv 1)) da_nil)) (len_cons (len_cons len_nil)))) (blkOk_by (own := [("lot", 5)]) (by first | (show blkC ["web", "task", "watchers", "rows", "some", "lot", "one", "other"] (defScope s_gap) _ _ = true; decide +kernel) | rfl | with_unfolding_all rfl)) (fun _ _ _ _ _ => (dg_name (i := 5) S.nd rfl (by first | exact .inl rfl | exact .inr rfl))) (fun _ _ _ _ _ => dts_nil) (fun _ _ _ _ _ => (de_call (h_report_of.mono (by decide)) hr (by rfl) tk0 (da_cons (de_var (pv 0)) (da_cons (de_var (pv 1)) (da_cons (de_var (pv 2)) (da_cons (de_var (pv 5)) da_nil)))) (len_cons (len_cons (len_cons (len_cons len_nil)))))) (by decide)))
    (dss_cons (ds_ownF (ds_lc (i := 4) (by rfl) S.nd rfl rfl rfl (di_seq (de_call (h_pairs_of.mono (by decide)) hr (by rfl) (takes_of rfl rfl rfl rfl) (da_cons (de_var (pv 3)) da_nil) (len_cons len_nil))) (blkOk_by (own := [("one", 6), ("other", 7)]) (by first | (show blkC ["web", "task", "watchers", "rows", "some", "lot", "one", "other"] (defScope s_gap) _ _ = true; decide +kernel) | rfl | with_unfolding_all rfl)) (fun _ _ _ _ _ => (dg_tup rfl (dgs_cons (i := 6) S.nd rfl (by first | exact .inl rfl | exact .inr rfl) (dgs_cons (i := 7) S.nd rfl (by first | exact .inl rfl | exact .inr rfl) dgs_nil)))) (fun _ _ _ _ _ => dts_nil) (fun _ _ _ _ _ => (de_call (h_gap_of.mono (by decide)) hr (by rfl) tk0 (da_cons (de_var (pv 6)) (da_cons (de_var (pv 7)) da_nil)) (len_cons (len_cons len_nil)))) (by decide)))
    (dss_one (ds_ret (de_if (dt_gt (de_len (by rfl) fc.n_len (dk_look (de_var (pv 4)))) de_int) (de_minL (by rfl) (by rfl) fc.n_min (dk_look (de_var (pv 4)))) de_non)))))))

abbrev s_bears : Stmt := (top 32)
theorem sc_bears : FnScope (["web", "task", "watchers", "least", "found", "broken", "lying", "more"] : List Str) (["web", "task", "watchers"] : List Str) (defScope s_bears) := ⟨rfl, rfl, rfl, by decide +kernel, rfl, by decide +kernel, by decide +kernel⟩
theorem ok_bears {f : Addr} {fd : FuncData} (fc : Fc K mg cl wa) (F : FunD K "bears" "bears" (defArgs s_bears) (defBody s_bears) (defScope s_bears) [] [] f fd) (hm : mg "bears" = some (.ref f)) (h_gap : Gf P w K mg base cl 6 "gap" 3 f_gap) (h_Task_init : Gi P w K mg base cl 3 "Task" 2 6 f_Task_init) (h_bound_of : Gf P w K mg base cl 1 "bound_of" 1 f_bound_of) : Gf P w K mg base cl 7 "bears" 3 f_bears :=
  have S := sc_bears
  Gf.gc (gf_of (k := 6) (N := ["web", "task", "watchers", "least", "found", "broken", "lying", "more"]) (ps := ["web", "task", "watchers"]) (g := g_bears) F S hm (F.bindsN fun _ _ _ _ _ _ us hl => match us, hl with | [_, _, _], _ => rfl) fun cdv A outer s H E n hr =>
    (dss_cons (ds_asg (i := 3) S.nd rfl (by first | exact .inl rfl | exact .inr rfl) (de_call (h_gap.mono (by decide)) hr (by rfl) (takes_of rfl rfl rfl rfl) (da_cons (de_var (pv 0)) (da_cons (de_var (pv 1)) (da_cons (de_var (pv 2)) da_nil))) (len_cons (len_cons (len_cons len_nil)))))
    (dss_cons (ds_asg (i := 4) S.nd rfl (by first | exact .inl rfl | exact .inr rfl) (de_reg (dn_lst da_nil len_nil)))
    (dss_cons (ds_for (passes_of rfl) rfl (di_range1 (by rfl) fc.n_range (da_cons (de_add (de_c (pe_gv (by rfl) fc.g_MOST_FAULTS) fun _ _ _ => .int 3) de_int) da_nil) rfl) (dg_name (i := 5) S.nd rfl (by first | exact .inl rfl | exact .inr rfl)) (dss_one (ds_for (passes_of rfl) rfl (di_range1 (by rfl) fc.n_range (da_cons (de_add (de_c (pe_gv (by rfl) fc.g_MOST_FAULTS) fun _ _ _ => .int 3) de_int) da_nil) rfl) (dg_name (i := 6) S.nd rfl (by first | exact .inl rfl | exact .inr rfl)) (dss_cons (ds_asg (i := 7) S.nd rfl (by first | exact .inl rfl | exact .inr rfl) (de_fz (de_make (h_Task_init.mono (by decide)) hr (by rfl) (takes_of rfl rfl rfl rfl) (da_cons (de_attr fc.hC (fc.at_kind) (dk_look (de_var (pv 1))) rfl) (da_cons (de_attr fc.hC (fc.at_reach) (dk_look (de_var (pv 1))) rfl) (da_cons (de_attr fc.hC (fc.at_fires) (dk_look (de_var (pv 1))) rfl) (da_cons (de_var (pv 5)) (da_cons (de_var (pv 6)) da_nil))))) (len_cons (len_cons (len_cons (len_cons (len_cons len_nil))))))))
    (dss_one (ds_if (dt_w (dw_or (dt_isN (de_var (pv 3))) (dw_or1 (dt_gt (de_var (pv 3)) (de_call (h_bound_of.mono (by decide)) hr (by rfl) (takes_of rfl rfl rfl rfl) (da_cons (de_var (pv 7)) da_nil) (len_cons len_nil)))))) (dss_one (ds_expr (de_append (de_var (pv 4)) (da_cons (de_tup (da_cons (de_var (pv 5)) (da_cons (de_var (pv 6)) da_nil)) (len_cons (len_cons len_nil))) da_nil)))) dss_nil))))))
    (dss_one (ds_ret (de_tuple (by rfl) fc.n_tuple (dk_look (de_var (pv 4))))))))))

abbrev s_spare : Stmt := (top 33)
theorem sc_spare : FnScope (["web", "task", "watchers", "found", "at", "place"] : List Str) (["web", "task", "watchers"] : List Str) (defScope s_spare) := ⟨rfl, rfl, rfl, by decide +kernel, rfl, by decide +kernel, by decide +kernel⟩
theorem ok_spare {f : Addr} {fd : FuncData} (fc : Fc K mg cl wa) (F : FunD K "spare" "spare" (defArgs s_spare) (defBody s_spare) (defScope s_spare) [] [] f fd) (hm : mg "spare" = some (.ref f)) (h_check_watchers : Gf P w K mg base cl 5 "check_watchers" 2 f_check_watchers) (h_close_pair : Gf P w K mg base cl 3 "close_pair" 3 f_close_pair) : Gf P w K mg base cl 6 "spare" 3 f_spare :=
  have S := sc_spare
  Gf.gc (gf_of (k := 5) (N := ["web", "task", "watchers", "found", "at", "place"]) (ps := ["web", "task", "watchers"]) (g := g_spare) F S hm (F.bindsN fun _ _ _ _ _ _ us hl => match us, hl with | [_, _, _], _ => rfl) fun cdv A outer s H E n hr =>
    (dss_cons (ds_expr (de_call (h_check_watchers.mono (by decide)) hr (by rfl) (takes_of rfl rfl rfl rfl) (da_cons (de_var (pv 0)) (da_cons (de_var (pv 2)) da_nil)) (len_cons (len_cons len_nil))))
    (dss_cons (ds_asg (i := 3) S.nd rfl (by first | exact .inl rfl | exact .inr rfl) (de_reg (dn_lst da_nil len_nil)))
    (dss_cons (ds_for (passes_of rfl) rfl (di_enumQ (by rfl) fc.n_enumerate (de_var (pv 2))) (dg_tup rfl (dgs_cons (i := 4) S.nd rfl (by first | exact .inl rfl | exact .inr rfl) (dgs_cons (i := 5) S.nd rfl (by first | exact .inl rfl | exact .inr rfl) dgs_nil))) (dss_one (ds_if (dt_isN (de_call (h_close_pair.mono (by decide)) hr (by rfl) (takes_of rfl rfl rfl rfl) (da_cons (de_var (pv 0)) (da_cons (de_var (pv 1)) (da_cons (de_tupS (da_star (de_sl (de_var (pv 2)) do_none (do_some (de_var (pv 4)))) (da_star (de_sl (de_var (pv 2)) (do_some (de_add (de_var (pv 4)) de_int)) do_none) da_nil))) da_nil))) (len_cons (len_cons (len_cons len_nil))))) (dss_one (ds_expr (de_append (de_var (pv 3)) (da_cons (de_var (pv 5)) da_nil)))) dss_nil)))
    (dss_one (ds_ret (de_tuple (by rfl) fc.n_tuple (dk_look (de_var (pv 3))))))))))

abbrev s_few : Stmt := (top 35)
theorem sc_few : FnScope (["web", "task", "lot"] : List Str) (["web", "task"] : List Str) (defScope s_few) := ⟨rfl, rfl, rfl, by decide +kernel, rfl, by decide +kernel, by decide +kernel⟩
theorem ok_few {f : Addr} {fd : FuncData} (fc : Fc K mg cl wa) (F : FunD K "few" "few" (defArgs s_few) (defBody s_few) (defScope s_few) [] [] f fd) (hm : mg "few" = some (.ref f)) (h_lots_by_size : Gf P w K mg base cl 1 "lots_by_size" 2 f_lots_by_size) (h_close_pair : Gf P w K mg base cl 3 "close_pair" 3 f_close_pair) : Gf P w K mg base cl 4 "few" 2 f_few :=
  have S := sc_few
  (gf_of (k := 3) (N := ["web", "task", "lot"]) (ps := ["web", "task"]) (g := g_few) F S hm (F.bindsN fun _ _ _ _ _ _ us hl => match us, hl with | [_, _], _ => rfl) fun cdv A outer s H E n hr =>
    (dss_cons (ds_for (passes_of rfl) rfl (di_seq (de_call (h_lots_by_size.mono (by decide)) hr (by rfl) (takes_of rfl rfl rfl rfl) (da_cons (de_len (by rfl) fc.n_len (dk_look (de_attr fc.hC (fc.at_spots) (dk_look (de_var (pv 0))) rfl))) (da_cons (de_len (by rfl) fc.n_len (dk_look (de_attr fc.hC (fc.at_spots) (dk_look (de_var (pv 0))) rfl))) da_nil)) (len_cons (len_cons len_nil)))) (dg_name (i := 2) S.nd rfl (by first | exact .inl rfl | exact .inr rfl)) (dss_one (ds_if (dt_isN (de_call (h_close_pair.mono (by decide)) hr (by rfl) (takes_of rfl rfl rfl rfl) (da_cons (de_var (pv 0)) (da_cons (de_var (pv 1)) (da_cons (de_var (pv 2)) da_nil))) (len_cons (len_cons (len_cons len_nil))))) (dss_one (ds_ret (de_var (pv 2)))) dss_nil)))
    (dss_one (ds_ret de_non))))

abbrev s_fewest : Stmt := (top 36)
theorem sc_fewest : FnScope (["web", "task", "lot"] : List Str) (["web", "task"] : List Str) (defScope s_fewest) := ⟨rfl, rfl, rfl, by decide +kernel, rfl, by decide +kernel, by decide +kernel⟩
theorem ok_fewest {f : Addr} {fd : FuncData} (fc : Fc K mg cl wa) (F : FunD K "fewest" "fewest" (defArgs s_fewest) (defBody s_fewest) (defScope s_fewest) [] [] f fd) (hm : mg "fewest" = some (.ref f)) (h_few : Gf P w K mg base cl 4 "few" 2 f_few) : Gf P w K mg base cl 5 "fewest" 2 f_fewest :=
  have S := sc_fewest
  (gf_of (k := 4) (N := ["web", "task", "lot"]) (ps := ["web", "task"]) (g := g_fewest) F S hm (F.bindsN fun _ _ _ _ _ _ us hl => match us, hl with | [_, _], _ => rfl) fun cdv A outer s H E n hr =>
    (dss_cons (ds_asg (i := 2) S.nd rfl (by first | exact .inl rfl | exact .inr rfl) (de_call (h_few.mono (by decide)) hr (by rfl) (takes_of rfl rfl rfl rfl) (da_cons (de_var (pv 0)) (da_cons (de_var (pv 1)) da_nil)) (len_cons (len_cons len_nil))))
    (dss_one (ds_ret (de_if (dt_isN (de_var (pv 2))) de_non (de_len (by rfl) fc.n_len (dk_look (de_var (pv 2)))))))))

abbrev s_law_k11 : Stmt := (top 63)
theorem sc_law_k11 : FnScope (["script", "pot", "watchers", "order", "roads", "two", "moved", "least", "at", "place", "spec", "task", "made", "goal", "many", "harder", "more", "lost", "fewer", "one", "other", "k"] : List Str) (["script"] : List Str) (defScope s_law_k11) := ⟨rfl, rfl, rfl, by decide +kernel, rfl, by decide +kernel, by decide +kernel⟩
theorem ok_law_k11 {f : Addr} {fd : FuncData} (fc : Fc K mg cl wa) (F : FunD K "law" "law" (defArgs s_law_k11) (defBody s_law_k11) (defScope s_law_k11) [] [] f fd) (h__law_pot : Gf P w K mg base cl 1 "_law_pot" 1 f__law_pot) (h__law_task : Gf P w K mg base cl 3 "_law_task" 2 f__law_task) (h__law_spec : Gf P w K mg base cl 5 "_law_spec" 2 f__law_spec) (h__law_made : Gf P w K mg base cl 6 "_law_made" 1 f__law_made) (h__law_set : Gf P w K mg base cl 5 "_law_set" 1 f__law_set) (h__law_all : Gf P w K mg base cl 1 "_law_all" 1 f__law_all) (h__law_lots : Gf P w K mg base cl 1 "_law_lots" 1 f__law_lots) (h__law_pick : Gf P w K mg base cl 2 "_law_pick" 2 f__law_pick) (h__law_mixed : Gf P w K mg base cl 2 "_law_mixed" 2 f__law_mixed) (h_gap : Gf P w K mg base cl 6 "gap" 3 f_gap) (h_bears : Gf P w K mg base cl 7 "bears" 3 f_bears) (h_spare : Gf P w K mg base cl 6 "spare" 3 f_spare) (h_fewest : Gf P w K mg base cl 5 "fewest" 2 f_fewest) (h__law_same : Gf P w K mg base cl 7 "_law_same" 2 f__law_same) (h_clash : Gf P w K mg base cl 6 "clash" 3 f_clash) : FnOk P w K mg base (L2.CX P w) 8 f fd ["script"] (spD ⟨K, cl⟩ 1 f_law_k11) :=
  have S := sc_law_k11
  fn_body (k := 7) (N := ["script", "pot", "watchers", "order", "roads", "two", "moved", "least", "at", "place", "spec", "task", "made", "goal", "many", "harder", "more", "lost", "fewer", "one", "other", "k"]) (ps := ["script"]) (g := g_law_k11) F S fun cdv A outer s H E n hr =>
    (dss_cons (ds_asg (i := 1) S.nd rfl (by first | exact .inl rfl | exact .inr rfl) (de_call (h__law_pot.mono (by decide)) hr (by rfl) (takes_of rfl rfl rfl rfl) (da_cons (de_var (pv 0)) da_nil) (len_cons len_nil)))
    (dss_cons (ds_tg (dg_tup rfl (dgs_cons (i := 10) S.nd rfl (by first | exact .inl rfl | exact .inr rfl) (dgs_cons (i := 11) S.nd rfl (by first | exact .inl rfl | exact .inr rfl) dgs_nil))) (de_tup (da_cons (de_call (h__law_spec.mono (by decide)) hr (by rfl) (takes_of rfl rfl rfl rfl) (da_cons (de_var (pv 1)) (da_cons de_int da_nil)) (len_cons (len_cons len_nil))) (da_cons (de_call (h__law_task.mono (by decide)) hr (by rfl) (takes_of rfl rfl rfl rfl) (da_cons (de_var (pv 1)) (da_cons de_int da_nil)) (len_cons (len_cons len_nil))) da_nil)) (len_cons (len_cons len_nil))))
    (dss_cons (ds_par3 (i := 12) (j := 13) (l := 14) rfl S.nd rfl rfl rfl (by decide) (by decide) (by decide) rfl rfl rfl (de_call (h__law_made.mono (by decide)) hr (by rfl) (takes_of rfl rfl rfl rfl) (da_cons (de_var (pv 10)) da_nil) (len_cons len_nil)) (de_call (h__law_set.mono (by decide)) hr (by rfl) (takes_of rfl rfl rfl rfl) (da_cons (de_var (pv 11)) da_nil) (len_cons len_nil)) (de_len (by rfl) fc.n_len (dk_look (de_ix (de_var (pv 10)) de_int fun _ _ => rfl))))
    (dss_cons (ds_asg (i := 2) S.nd rfl (by first | exact .inl rfl | exact .inr rfl) (de_call (h__law_pick.mono (by decide)) hr (by rfl) (takes_of rfl rfl rfl rfl) (da_cons (de_var (pv 1)) (da_cons (de_call (h__law_lots.mono (by decide)) hr (by rfl) (takes_of rfl rfl rfl rfl) (da_cons (de_call (h__law_all.mono (by decide)) hr (by rfl) (takes_of rfl rfl rfl rfl) (da_cons (de_var (pv 10)) da_nil) (len_cons len_nil)) da_nil) (len_cons len_nil)) da_nil)) (len_cons (len_cons len_nil))))
    (dss_cons (ds_asg (i := 3) S.nd rfl (by first | exact .inl rfl | exact .inr rfl) (de_call (h__law_mixed.mono (by decide)) hr (by rfl) (takes_of rfl rfl rfl rfl) (da_cons (de_var (pv 1)) (da_cons (de_frz (dn_listRg (by rfl) (by rfl) fc.n_list (by rfl) fc.n_range (de_var (pv 14)))) da_nil)) (len_cons (len_cons len_nil))))
    (dss_cons (ds_ownF (ds_lc (i := 4) (by rfl) S.nd rfl rfl rfl (di_seq (de_ix (de_var (pv 10)) de_int fun _ _ => rfl)) (blkOk_by (own := [("one", 19), ("other", 20)]) (by first | (show blkC ["script", "pot", "watchers", "order", "roads", "two", "moved", "least", "at", "place", "spec", "task", "made", "goal", "many", "harder", "more", "lost", "fewer", "one", "other", "k"] (defScope s_law_k11) _ _ = true; decide +kernel) | rfl | with_unfolding_all rfl)) (fun _ _ _ _ _ => (dg_tup rfl (dgs_cons (i := 19) S.nd rfl (by first | exact .inl rfl | exact .inr rfl) (dgs_cons (i := 20) S.nd rfl (by first | exact .inl rfl | exact .inr rfl) dgs_nil)))) (fun _ _ _ _ _ => dts_nil) (fun _ _ _ _ _ => (de_tuple (by rfl) fc.n_tuple (dk_look (de_frz (dn_sorted (u64 hr) (by rfl) fc.n_sorted (dk_look (de_frz (dn_lst (da_cons (de_index (u65 hr) (de_var (pv 3)) (de_var (pv 19))) (da_cons (de_index (u65 hr) (de_var (pv 3)) (de_var (pv 20))) da_nil)) (len_cons (len_cons len_nil)))))))))) (by decide)))
    (dss_cons (ds_asg (i := 5) S.nd rfl (by first | exact .inl rfl | exact .inr rfl) (de_call (h__law_made.mono (by decide)) hr (by rfl) (takes_of rfl rfl rfl rfl) (da_cons (de_frz (dn_lst (da_cons (de_frz (dn_lc (by rfl) S.nd (di_seq (de_var (pv 3))) (blkOk_by (own := [("k", 21)]) (by first | (show blkC ["script", "pot", "watchers", "order", "roads", "two", "moved", "least", "at", "place", "spec", "task", "made", "goal", "many", "harder", "more", "lost", "fewer", "one", "other", "k"] (defScope s_law_k11) _ _ = true; decide +kernel) | rfl | with_unfolding_all rfl)) (fun _ _ _ _ _ => (dg_name (i := 21) S.nd rfl (by first | exact .inl rfl | exact .inr rfl))) (fun _ _ _ _ _ => dts_nil) (fun _ _ _ _ _ => (de_ix (de_ix (de_var (pv 10)) de_int fun _ _ => rfl) (de_var (pv 21)) fun _ _ => rfl)) (by decide))) (da_cons (de_var (pv 4)) da_nil)) (len_cons (len_cons len_nil)))) da_nil) (len_cons len_nil)))
    (dss_cons (ds_asg (i := 6) S.nd rfl (by first | exact .inl rfl | exact .inr rfl) (de_tuple (by rfl) fc.n_tuple (dk_look (de_frz (dn_sorted (u64 hr) (by rfl) fc.n_sorted (dk_look (de_frz (dn_lc (by rfl) S.nd (di_seq (de_var (pv 2))) (blkOk_by (own := [("place", 9)]) (by first | (show blkC ["script", "pot", "watchers", "order", "roads", "two", "moved", "least", "at", "place", "spec", "task", "made", "goal", "many", "harder", "more", "lost", "fewer", "one", "other", "k"] (defScope s_law_k11) _ _ = true; decide +kernel) | rfl | with_unfolding_all rfl)) (fun _ _ _ _ _ => (dg_name (i := 9) S.nd rfl (by first | exact .inl rfl | exact .inr rfl))) (fun _ _ _ _ _ => dts_nil) (fun _ _ _ _ _ => (de_index (u65 hr) (de_var (pv 3)) (de_var (pv 9)))) (by decide)))))))))
    (dss_cons (ds_if (dt_w (dw_or (dt_ne (u64 hr) (de_call (h_gap.mono (by decide)) hr (by rfl) (takes_of rfl rfl rfl rfl) (da_cons (de_var (pv 5)) (da_cons (de_var (pv 13)) (da_cons (de_var (pv 6)) da_nil))) (len_cons (len_cons (len_cons len_nil)))) (de_call (h_gap.mono (by decide)) hr (by rfl) (takes_of rfl rfl rfl rfl) (da_cons (de_var (pv 12)) (da_cons (de_var (pv 13)) (da_cons (de_var (pv 2)) da_nil))) (len_cons (len_cons (len_cons len_nil))))) (dw_or1 (dt_ne (u64 hr) (de_call (h_bears.mono (by decide)) hr (by rfl) (takes_of rfl rfl rfl rfl) (da_cons (de_var (pv 5)) (da_cons (de_var (pv 13)) (da_cons (de_var (pv 6)) da_nil))) (len_cons (len_cons (len_cons len_nil)))) (de_call (h_bears.mono (by decide)) hr (by rfl) (takes_of rfl rfl rfl rfl) (da_cons (de_var (pv 12)) (da_cons (de_var (pv 13)) (da_cons (de_var (pv 2)) da_nil))) (len_cons (len_cons (len_cons len_nil)))))))) (dss_one (ds_ret de_bl)) dss_nil)
    (dss_cons (ds_if (dt_ne (u64 hr) (de_frz (dn_sorted (u64 hr) (by rfl) fc.n_sorted (dk_look (de_frz (dn_lc (by rfl) S.nd (di_seq (de_call (h_spare.mono (by decide)) hr (by rfl) (takes_of rfl rfl rfl rfl) (da_cons (de_var (pv 5)) (da_cons (de_var (pv 13)) (da_cons (de_var (pv 6)) da_nil))) (len_cons (len_cons (len_cons len_nil))))) (blkOk_by (own := [("place", 9)]) (by first | (show blkC ["script", "pot", "watchers", "order", "roads", "two", "moved", "least", "at", "place", "spec", "task", "made", "goal", "many", "harder", "more", "lost", "fewer", "one", "other", "k"] (defScope s_law_k11) _ _ = true; decide +kernel) | rfl | with_unfolding_all rfl)) (fun _ _ _ _ _ => (dg_name (i := 9) S.nd rfl (by first | exact .inl rfl | exact .inr rfl))) (fun _ _ _ _ _ => dts_nil) (fun _ _ _ _ _ => (de_ix (de_var (pv 3)) (de_var (pv 9)) fun _ _ => rfl)) (by decide)))))) (de_frz (dn_list (by rfl) fc.n_list (dk_look (de_call (h_spare.mono (by decide)) hr (by rfl) (takes_of rfl rfl rfl rfl) (da_cons (de_var (pv 12)) (da_cons (de_var (pv 13)) (da_cons (de_var (pv 2)) da_nil))) (len_cons (len_cons (len_cons len_nil)))))))) (dss_one (ds_ret de_bl)) dss_nil)
    (dss_cons (ds_asg (i := 7) S.nd rfl (by first | exact .inl rfl | exact .inr rfl) (de_call (h_fewest.mono (by decide)) hr (by rfl) (takes_of rfl rfl rfl rfl) (da_cons (de_var (pv 12)) (da_cons (de_var (pv 13)) da_nil)) (len_cons (len_cons len_nil))))
    (dss_cons (ds_if (dt_not (dt_val (de_call (h__law_same.mono (by decide)) hr (by rfl) (takes_of rfl rfl rfl rfl) (da_cons (de_call (h_fewest.mono (by decide)) hr (by rfl) (takes_of rfl rfl rfl rfl) (da_cons (de_var (pv 5)) (da_cons (de_var (pv 13)) da_nil)) (len_cons (len_cons len_nil))) (da_cons (de_var (pv 7)) da_nil)) (len_cons (len_cons len_nil))))) (dss_one (ds_ret de_bl)) dss_nil)
    (dss_cons (ds_for (passes_of rfl) rfl (di_seq (de_tup (da_cons de_int (da_cons de_int (da_cons de_int da_nil))) (len_cons (len_cons (len_cons len_nil))))) (dg_name (i := 8) S.nd rfl (by first | exact .inl rfl | exact .inr rfl)) (dss_cons (ds_asg (i := 15) S.nd rfl (by first | exact .inl rfl | exact .inr rfl) (de_add (de_add (de_sl (de_var (pv 11)) do_none (do_some (de_var (pv 8)))) (de_frz (dn_lst (da_cons (de_min2 (by rfl) (by rfl) fc.n_min de_int (de_add (de_ix (de_var (pv 11)) (de_var (pv 8)) fun _ _ => rfl) de_int)) da_nil) (len_cons len_nil)))) (de_sl (de_var (pv 11)) (do_some (de_add (de_var (pv 8)) de_int)) do_none)))
    (dss_cons (ds_asg (i := 16) S.nd rfl (by first | exact .inl rfl | exact .inr rfl) (de_call (h_fewest.mono (by decide)) hr (by rfl) (takes_of rfl rfl rfl rfl) (da_cons (de_var (pv 12)) (da_cons (de_call (h__law_set.mono (by decide)) hr (by rfl) (takes_of rfl rfl rfl rfl) (da_cons (de_var (pv 15)) da_nil) (len_cons len_nil)) da_nil)) (len_cons (len_cons len_nil))))
    (dss_one (ds_if (dt_w (dw_and (dt_notN (de_var (pv 16))) (dw_and1 (dt_w (dw_or (dt_isN (de_var (pv 7))) (dw_or1 (dt_lt (u0 hr) (de_var (pv 16)) (de_var (pv 7))))))))) (dss_one (ds_ret de_bl)) dss_nil)))))
    (dss_cons (ds_for (passes_of rfl) rfl (di_seq (de_call (h__law_all.mono (by decide)) hr (by rfl) (takes_of rfl rfl rfl rfl) (da_cons (de_var (pv 10)) da_nil) (len_cons len_nil))) (dg_name (i := 9) S.nd rfl (by first | exact .inl rfl | exact .inr rfl)) (dss_one (ds_if (dt_w (dw_and (dt_nin (u65 hr) (de_var (pv 9)) (dk_look (de_var (pv 2))) rfl) (dw_and1 (dt_lt (u0 hr) (de_call (h_gap.mono (by decide)) hr (by rfl) (takes_of rfl rfl rfl rfl) (da_cons (de_var (pv 12)) (da_cons (de_var (pv 13)) (da_cons (de_tuple (by rfl) fc.n_tuple (dk_look (de_frz (dn_sorted (u64 hr) (by rfl) fc.n_sorted (dk_look (de_add (de_frz (dn_list (by rfl) fc.n_list (dk_look (de_var (pv 2))))) (de_frz (dn_lst (da_cons (de_var (pv 9)) da_nil) (len_cons len_nil))))))))) da_nil))) (len_cons (len_cons (len_cons len_nil)))) (de_call (h_gap.mono (by decide)) hr (by rfl) (takes_of rfl rfl rfl rfl) (da_cons (de_var (pv 12)) (da_cons (de_var (pv 13)) (da_cons (de_var (pv 2)) da_nil))) (len_cons (len_cons (len_cons len_nil)))))))) (dss_one (ds_ret de_bl)) dss_nil)))
    (dss_cons (ds_if (dt_w (dw_and (dt_isN (de_call (h_clash.mono (by decide)) hr (by rfl) (takes_of rfl rfl rfl rfl) (da_cons (de_var (pv 12)) (da_cons (de_var (pv 13)) (da_cons (de_var (pv 2)) da_nil))) (len_cons (len_cons (len_cons len_nil))))) (dw_and (dt_gt (de_ix (de_var (pv 11)) de_int fun _ _ => rfl) de_int) (dw_and1 (dt_ne (u64 hr) (de_var (pv 2)) (de_tup da_nil len_nil)))))) (dss_cons (ds_asg (i := 17) S.nd rfl (by first | exact .inl rfl | exact .inr rfl) (de_call (h__law_pick.mono (by decide)) hr (by rfl) (takes_of rfl rfl rfl rfl) (da_cons (de_var (pv 1)) (da_cons (de_var (pv 2)) da_nil)) (len_cons (len_cons len_nil))))
    (dss_cons (ds_asg (i := 18) S.nd rfl (by first | exact .inl rfl | exact .inr rfl) (de_call (h__law_set.mono (by decide)) hr (by rfl) (takes_of rfl rfl rfl rfl) (da_cons (de_add (de_sl (de_var (pv 11)) do_none (do_some de_int)) (de_frz (dn_lst (da_cons (de_sub (de_ix (de_var (pv 11)) de_int fun _ _ => rfl) de_int) (da_cons (de_ix (de_var (pv 11)) de_int fun _ _ => rfl) da_nil)) (len_cons (len_cons len_nil))))) da_nil) (len_cons len_nil)))
    (dss_one (ds_if (dt_notN (de_call (h_clash.mono (by decide)) hr (by rfl) (takes_of rfl rfl rfl rfl) (da_cons (de_var (pv 12)) (da_cons (de_var (pv 18)) (da_cons (de_tuple (by rfl) fc.n_tuple (dk_look (de_frz (dn_lc (by rfl) S.nd (di_seq (de_var (pv 2))) (blkOk_by (own := [("place", 9)]) (by first | (show blkC ["script", "pot", "watchers", "order", "roads", "two", "moved", "least", "at", "place", "spec", "task", "made", "goal", "many", "harder", "more", "lost", "fewer", "one", "other", "k"] (defScope s_law_k11) _ _ = true; decide +kernel) | rfl | with_unfolding_all rfl)) (fun _ _ _ _ _ => (dg_name (i := 9) S.nd rfl (by first | exact .inl rfl | exact .inr rfl))) (fun _ _ _ _ _ => (dts_one (dt_ne (u64 hr) (de_var (pv 9)) (de_var (pv 17))))) (fun _ _ _ _ _ => (de_var (pv 9))) (by decide))))) da_nil))) (len_cons (len_cons (len_cons len_nil))))) (dss_one (ds_ret de_bl)) dss_nil)))) dss_nil)
    (dss_one (ds_ret (de_eq (u64 hr) (de_isN (de_call (h_clash.mono (by decide)) hr (by rfl) (takes_of rfl rfl rfl rfl) (da_cons (de_var (pv 12)) (da_cons (de_var (pv 13)) (da_cons (de_var (pv 2)) da_nil))) (len_cons (len_cons (len_cons len_nil))))) (de_in (u65 hr) (de_tup (da_cons (de_ix (de_var (pv 11)) de_int fun _ _ => rfl) (da_cons (de_ix (de_var (pv 11)) de_int fun _ _ => rfl) da_nil)) (len_cons (len_cons len_nil))) (dk_look (de_call (h_bears.mono (by decide)) hr (by rfl) (takes_of rfl rfl rfl rfl) (da_cons (de_var (pv 12)) (da_cons (de_var (pv 13)) (da_cons (de_var (pv 2)) da_nil))) (len_cons (len_cons (len_cons len_nil))))) rfl)))))))))))))))))))

end
end DL
end

section
set_option Elab.async false
set_option linter.all false
set_option maxRecDepth 100000
set_option maxHeartbeats 4000000

namespace DL
open PySem PySem.Spec PyProof.Rows
open L2 hiding St
def d__law_pot : He.DefD := ⟨("_law_pot", none), "_law_pot", "_law_pot", defArgs s__law_pot, defBody s__law_pot, defScope s__law_pot, [], []⟩
def d__law_draw : He.DefD := ⟨("_law_draw", none), "_law_draw", "_law_draw", defArgs s__law_draw, defBody s__law_draw, defScope s__law_draw, [], []⟩
def d__law_pick : He.DefD := ⟨("_law_pick", none), "_law_pick", "_law_pick", defArgs s__law_pick, defBody s__law_pick, defScope s__law_pick, [], []⟩
def d_is_number : He.DefD := ⟨("is_number", none), "is_number", "is_number", defArgs s_is_number, defBody s_is_number, defScope s_is_number, [], []⟩
def d_is_within : He.DefD := ⟨("is_within", none), "is_within", "is_within", defArgs s_is_within, defBody s_is_within, defScope s_is_within, [], []⟩
def d_is_listed : He.DefD := ⟨("is_listed", none), "is_listed", "is_listed", defArgs s_is_listed, defBody s_is_listed, defScope s_is_listed, [], []⟩
def d_have_no_twice : He.DefD := ⟨("have_no_twice", none), "have_no_twice", "have_no_twice", defArgs s_have_no_twice, defBody s_have_no_twice, defScope s_have_no_twice, [], []⟩
def d_is_name : He.DefD := ⟨("is_name", none), "is_name", "is_name", defArgs s_is_name, defBody s_is_name, defScope s_is_name, [], []⟩
def d_are_spots : He.DefD := ⟨("are_spots", none), "are_spots", "are_spots", defArgs s_are_spots, defBody s_are_spots, defScope s_are_spots, [], []⟩
def d_is_pair_below : He.DefD := ⟨("is_pair_below", none), "is_pair_below", "is_pair_below", defArgs s_is_pair_below, defBody s_is_pair_below, defScope s_is_pair_below, [], []⟩
def d_steps_away : He.DefD := ⟨("steps_away", none), "steps_away", "steps_away", defArgs s_steps_away, defBody s_steps_away, defScope s_steps_away, [], []⟩
def d_Web_init : He.DefD := ⟨("Web", some "__init__"), "__init__", "Web.__init__", defArgs s_Web_init, defBody s_Web_init, defScope s_Web_init, [], []⟩
def d_Task_init : He.DefD := ⟨("Task", some "__init__"), "__init__", "Task.__init__", defArgs s_Task_init, defBody s_Task_init, defScope s_Task_init, [], []⟩
def d__law_mixed : He.DefD := ⟨("_law_mixed", none), "_law_mixed", "_law_mixed", defArgs s__law_mixed, defBody s__law_mixed, defScope s__law_mixed, [], []⟩
def d__law_same : He.DefD := ⟨("_law_same", none), "_law_same", "_law_same", defArgs s__law_same, defBody s__law_same, defScope s__law_same, [], []⟩
def d__law_pairs : He.DefD := ⟨("_law_pairs", none), "_law_pairs", "_law_pairs", defArgs s__law_pairs, defBody s__law_pairs, defScope s__law_pairs, [], []⟩
def d__law_word : He.DefD := ⟨("_law_word", none), "_law_word", "_law_word", defArgs s__law_word, defBody s__law_word, defScope s__law_word, [], []⟩
def d__law_is_name : He.DefD := ⟨("_law_is_name", none), "_law_is_name", "_law_is_name", defArgs s__law_is_name, defBody s__law_is_name, defScope s__law_is_name, [], []⟩
def d__law_names : He.DefD := ⟨("_law_names", none), "_law_names", "_law_names", defArgs s__law_names, defBody s__law_names, defScope s__law_names, [], []⟩
def d__law_spec : He.DefD := ⟨("_law_spec", none), "_law_spec", "_law_spec", defArgs s__law_spec, defBody s__law_spec, defScope s__law_spec, [], []⟩
def d__law_made : He.DefD := ⟨("_law_made", none), "_law_made", "_law_made", defArgs s__law_made, defBody s__law_made, defScope s__law_made, [], []⟩
def d__law_task : He.DefD := ⟨("_law_task", none), "_law_task", "_law_task", defArgs s__law_task, defBody s__law_task, defScope s__law_task, [], []⟩
def d__law_set : He.DefD := ⟨("_law_set", none), "_law_set", "_law_set", defArgs s__law_set, defBody s__law_set, defScope s__law_set, [], []⟩
def d__law_all : He.DefD := ⟨("_law_all", none), "_law_all", "_law_all", defArgs s__law_all, defBody s__law_all, defScope s__law_all, [], []⟩
def d_is_lot_below : He.DefD := ⟨("is_lot_below", none), "is_lot_below", "is_lot_below", defArgs s_is_lot_below, defBody s_is_lot_below, defScope s_is_lot_below, [], []⟩
def d_lots_by_size : He.DefD := ⟨("lots_by_size", none), "lots_by_size", "lots_by_size", defArgs s_lots_by_size, defBody s_lots_by_size, defScope s_lots_by_size, [], []⟩
def d_all_lots : He.DefD := ⟨("all_lots", none), "all_lots", "all_lots", defArgs s_all_lots, defBody s_all_lots, defScope s_all_lots, [], []⟩
def d_is_lot : He.DefD := ⟨("is_lot", none), "is_lot", "is_lot", defArgs s_is_lot, defBody s_is_lot, defScope s_is_lot, [], []⟩
def d_check_watchers : He.DefD := ⟨("check_watchers", none), "check_watchers", "check_watchers", defArgs s_check_watchers, defBody s_check_watchers, defScope s_check_watchers, [], []⟩
def d_told_by : He.DefD := ⟨("told_by", none), "told_by", "told_by", defArgs s_told_by, defBody s_told_by, defScope s_told_by, [], []⟩
def d_report_of : He.DefD := ⟨("report_of", none), "report_of", "report_of", defArgs s_report_of, defBody s_report_of, defScope s_report_of, [], []⟩
def d__law_lots : He.DefD := ⟨("_law_lots", none), "_law_lots", "_law_lots", defArgs s__law_lots, defBody s__law_lots, defScope s__law_lots, [], []⟩
def d_gap_of : He.DefD := ⟨("gap_of", none), "gap_of", "gap_of", defArgs s_gap_of, defBody s_gap_of, defScope s_gap_of, [], []⟩
def d_bound_of : He.DefD := ⟨("bound_of", none), "bound_of", "bound_of", defArgs s_bound_of, defBody s_bound_of, defScope s_bound_of, [], []⟩
def d_pairs_of : He.DefD := ⟨("pairs_of", none), "pairs_of", "pairs_of", defArgs s_pairs_of, defBody s_pairs_of, defScope s_pairs_of, [], []⟩
def d_mixed_row : He.DefD := ⟨("mixed_row", none), "mixed_row", "mixed_row", defArgs s_mixed_row, defBody s_mixed_row, defScope s_mixed_row, [], []⟩
def d_close_pair : He.DefD := ⟨("close_pair", none), "close_pair", "close_pair", defArgs s_close_pair, defBody s_close_pair, defScope s_close_pair, [], []⟩
def d_clash : He.DefD := ⟨("clash", none), "clash", "clash", defArgs s_clash, defBody s_clash, defScope s_clash, [], []⟩
def d_gap : He.DefD := ⟨("gap", none), "gap", "gap", defArgs s_gap, defBody s_gap, defScope s_gap, [], []⟩
def d_bears : He.DefD := ⟨("bears", none), "bears", "bears", defArgs s_bears, defBody s_bears, defScope s_bears, [], []⟩
def d_spare : He.DefD := ⟨("spare", none), "spare", "spare", defArgs s_spare, defBody s_spare, defScope s_spare, [], []⟩
def d_few : He.DefD := ⟨("few", none), "few", "few", defArgs s_few, defBody s_few, defScope s_few, [], []⟩
def d_fewest : He.DefD := ⟨("fewest", none), "fewest", "fewest", defArgs s_fewest, defBody s_fewest, defScope s_fewest, [], []⟩
def d_law_k11 : He.DefD := ⟨("law", none), "law", "law", defArgs s_law_k11, defBody s_law_k11, defScope s_law_k11, [], []⟩
abbrev s_e_BadWeb : Stmt := inC (top 2) 0
def d_e_BadWeb : EDef := ⟨"BadWeb", "BadWeb.__init__", defArgs s_e_BadWeb, defBody s_e_BadWeb, defScope s_e_BadWeb, ["what"]⟩
abbrev s_e_BadTask : Stmt := inC (top 3) 0
def d_e_BadTask : EDef := ⟨"BadTask", "BadTask.__init__", defArgs s_e_BadTask, defBody s_e_BadTask, defScope s_e_BadTask, ["what"]⟩
abbrev s_e_NoWatch : Stmt := inC (top 4) 0
def d_e_NoWatch : EDef := ⟨"NoWatch", "NoWatch.__init__", defArgs s_e_NoWatch, defBody s_e_NoWatch, defScope s_e_NoWatch, []⟩
def fn : List He.DefD := [d__law_pot, d__law_draw, d__law_pick, d_is_number, d_is_within, d_is_listed, d_have_no_twice, d_is_name, d_are_spots, d_is_pair_below, d_steps_away, d_Web_init, d_Task_init, d__law_mixed, d__law_same, d__law_pairs, d__law_word, d__law_is_name, d__law_names, d__law_spec, d__law_made, d__law_task, d__law_set, d__law_all, d_is_lot_below, d_lots_by_size, d_all_lots, d_is_lot, d_check_watchers, d_told_by, d_report_of, d__law_lots, d_gap_of, d_bound_of, d_pairs_of, d_mixed_row, d_close_pair, d_clash, d_gap, d_bears, d_spare, d_few, d_fewest, d_law_k11]
def es : List EDef := [d_e_BadWeb, d_e_BadTask, d_e_NoWatch]
def fa : List He.Fa := [.glo "_law_pot",
  .glo "_law_draw",
  .glo "_law_pick",
  .glo "is_number",
  .glo "is_within",
  .glo "is_listed",
  .glo "have_no_twice",
  .glo "is_name",
  .glo "are_spots",
  .glo "is_pair_below",
  .glo "steps_away",
  .glo "_law_mixed",
  .glo "_law_same",
  .glo "_law_pairs",
  .glo "_law_word",
  .glo "_law_is_name",
  .glo "_law_names",
  .glo "_law_spec",
  .glo "_law_made",
  .glo "_law_task",
  .glo "_law_set",
  .glo "_law_all",
  .glo "is_lot_below",
  .glo "lots_by_size",
  .glo "all_lots",
  .glo "is_lot",
  .glo "check_watchers",
  .glo "told_by",
  .glo "report_of",
  .glo "_law_lots",
  .glo "gap_of",
  .glo "bound_of",
  .glo "pairs_of",
  .glo "mixed_row",
  .glo "close_pair",
  .glo "clash",
  .glo "gap",
  .glo "bears",
  .glo "spare",
  .glo "few",
  .glo "fewest",
  .glo "law",
  .free "abs",
  .free "all",
  .free "bool",
  .free "enumerate",
  .free "int",
  .free "isinstance",
  .free "len",
  .free "list",
  .free "min",
  .free "range",
  .free "sorted",
  .free "str",
  .free "tuple",
  .free "zip",
  .free "super",
  .str "BROKEN" "broken",
  .int "LONGEST" 8,
  .int "MOST_FAULTS" 3,
  .int "MOST_FIRES" 3,
  .int "MOST_REACH" 8,
  .int "MOST_SPOTS" 9,
  .str "SIGNS" "abcdefghijklmnopqrstuvwxyz",
  .glo "KINDS",
  .glo "WORDS",
  .glo "Web",
  .cls "Web",
  .mkr "Web",
  .noat "Web" "away",
  .noat "Web" "broken",
  .noat "Web" "fires",
  .noat "Web" "kind",
  .noat "Web" "lying",
  .noat "Web" "reach",
  .noat "Web" "roads",
  .noat "Web" "spots",
  .glo "Task",
  .cls "Task",
  .mkr "Task",
  .noat "Task" "away",
  .noat "Task" "broken",
  .noat "Task" "fires",
  .noat "Task" "kind",
  .noat "Task" "lying",
  .noat "Task" "reach",
  .noat "Task" "roads",
  .noat "Task" "spots"]
def clK (K : PySem.W.Frag) : Nat → Addr := fun c => if c = 0 then He.ga K "Web" else if c = 2 then He.ga K "Task" else if c = 1001 then He.ga K "BadWeb" else if c = 1003 then He.ga K "BadTask" else if c = 1006 then He.ga K "NoWatch" else 0
def exT (K : PySem.W.Frag) (C : Addr) : Bool := !decide (C = 0) && (He.eqO (PySem.W.findIn K (.ref C) "__class__") (some (some (.builtin "object.__class__"))) && (He.eqO (PySem.W.specialIn K (.builtin "object.__class__") "__get__") (some (some (.builtin "getset_descriptor.__get__"))) &&
  (decide (PySem.W.takesIn K (.builtin "object.__class__") = some true) && (decide (PySem.W.mroIn K C (.type "object") = some true) && [Ty.int, .bool, .str, .list, .tuple, .dict].all fun t => decide (PySem.W.kitOne K (.ref C) (.type t.n) = some false)))))
theorem exT_ok {K : PySem.W.Frag} {C : Addr} (h : exT K C = true) (c : Cls K C) : C ≠ 0 ∧ ClsT K C := by
  unfold exT at h
  simp only [Bool.and_eq_true] at h
  obtain ⟨h0, h1, h2, h3, h4, h5⟩ := h
  refine ⟨by simpa using h0, c, He.eqO_ok h1, He.eqO_ok h2, of_decide_eq_true h3, of_decide_eq_true h4, fun t => of_decide_eq_true (List.all_eq_true.mp h5 t (by cases t <;> decide))⟩
def tyNs : List String := ["NoneType", "bool", "int", "str", "list", "tuple", "dict"]
def exI (K : PySem.W.Frag) (C : Addr) : Bool := tyNs.all fun n => decide (PySem.W.kitOne K (.type n) (.ref C) = some false)
def exE (K : PySem.W.Frag) (C : Addr) : Bool := tyNs.all fun n => PySem.W.notFirst K C (.type n)
def exN (K : PySem.W.Frag) (C : Addr) : Bool := He.eqO (PySem.W.findIn K (.ref C) "__ne__") (some (some (.builtin "object.__ne__"))) && decide (PySem.W.mroIn K C (.type "object") = some true)
theorem exN_ok {K : PySem.W.Frag} {C : Addr} (h : exN K C = true) : ClsN K C := by
  unfold exN at h
  rw [Bool.and_eq_true] at h
  exact ⟨He.eqO_ok h.1, of_decide_eq_true h.2⟩
def exL (K : PySem.W.Frag) : List Bool := [exT K (He.ga K "Web"),
  exT K (He.ga K "Task"),
  He.tupB K "KINDS" [.str "near", .str "far"],
  He.tupB K "WORDS" [.str "spot", .str "road", .str "over"],
  errB K d_e_BadWeb PySem.Challenge.pw_watchwebs_k11_whole_webs_renamed_and_fau.main.file,
  errB K d_e_BadTask PySem.Challenge.pw_watchwebs_k11_whole_webs_renamed_and_fau.main.file,
  errB K d_e_NoWatch PySem.Challenge.pw_watchwebs_k11_whole_webs_renamed_and_fau.main.file]
def ex (K : PySem.W.Frag) : Bool := (exL K).all id
theorem ex_at {K : PySem.W.Frag} (h : ex K = true) (i : Nat) {b : Bool} (e : (exL K)[i]? = some b) : b = true := List.all_eq_true.mp h b (List.mem_of_getElem? e)
abbrev R : PySem.W.OpenRow := PySem.W.OpenLaw.row PySem.Challenge.rw_watchwebs_k11_whole_webs_renamed_and_fau
abbrev hk : PySem.W.Hook := hookE 6 fa fn es ex
def ob (s : PySem.W.SharedT) : AlE := obsE 6 fa fn es ex (HandSHeadRun.getT s)
theorem ob_eq (s : PySem.W.SharedT) : ob s = hk.obs s.abs := obsE_eq (HandSHeadRun.getT_eq s)
def loose : List PySem.Str := (["WatchError", "BadWeb", "BadTask", "NoWatch", "is_number", "is_within", "is_listed", "have_no_twice", "is_lot_below", "lots_by_size", "KINDS", "MOST_REACH", "MOST_FIRES", "MOST_FAULTS", "BROKEN", "Task", "all_lots", "is_lot", "check_watchers", "told_by", "report_of", "gap_of", "bound_of", "pairs_of", "mixed_row", "close_pair", "clash", "gap", "bears", "spare"] : List PySem.Str) ++ (["few", "fewest", "WORDS", "SIGNS", "LONGEST", "MOST_SPOTS", "is_name", "are_spots", "is_pair_below", "steps_away", "Web", "_law_pot", "_law_draw", "_law_pick", "_law_mixed", "_law_same", "_law_pairs", "_law_lots", "_law_names", "_law_word", "_law_is_name", "_law_spec", "_law_made", "_law_task", "_law_set", "_law_all"] : List PySem.Str)
set_option maxHeartbeats 0 in
theorem run (w : World) : HandSHeadRun.RunEq R (PySem.W.view R.prog [63]) hk ob 4000 loose w := by
  intro os
  kernel_rfl
def spLaw (K : PySem.W.Frag) : Sp := fun vs H Q _ => ∃ (a : Addr) (ns : List Int), ns.length ≤ 63 ∧ vs = [.ref a] ∧ SqL K H a (ns.map V.int) ∧ ∀ H', Q (.bl true) H'
theorem rpL_ints {T : Th} {F : Hp} {al : Nat → Addr} {n : Nat} : ∀ ns : List Int, RpL T F al n (ns.map V.int) (ns.map D.int)
  | [] => .nil
  | _ :: ns => .cons (.int _) (rpL_ints ns)
theorem sp_law {K : PySem.W.Frag} {cl : Nat → Addr} {p : FF} (hp : ∀ ns : List Int, ns.length ≤ 63 → ∃ mu, p [.frl (ns.map D.int)] [] = .ok (.bl true) mu) (vs : List V) (H : Hp) (Q : VK) (E : XK) (h : spLaw K vs H Q E) : spD ⟨K, cl⟩ 1 p vs H Q E := by
  obtain ⟨a, ns, hl, rfl, hS, hQ⟩ := h
  obtain ⟨mu, e⟩ := hp ns hl
  refine ⟨fun b => if b = a then H b else none, fun _ => 0, [], [.frl (ns.map D.int)], ⟨fun b o h => ?_, fun k m h => by simp at h, fun k m k' m' h => by simp at h⟩, .cons (.frl ?_ (rpL_ints ns)) .nil, rfl, ?_⟩
  · split at h
    · exact h
    · cases h
  · rcases hS with (h | ⟨o, h⟩) | h
    · exact .inl (.inl (by show (if a = a then H a else none) = _; rw [if_pos rfl]; exact h))
    · exact .inl (.inr ⟨o, by show (if a = a then H a else none) = _; rw [if_pos rfl]; exact h⟩)
    · exact .inr h
  · rw [e]
    intro v F1 al1 H1 x r
    cases r
    exact hQ H1
theorem fn_cx0 {P : Program} {w : World} {K : PySem.W.Frag} {mg : Str → Option Value} {base : Heap} {k : Nat} {f : Addr} {fd : FuncData} {ps : List Str} {sp : Sp} (F : FnOk P w K mg base (L2.CX P w) k f fd ps sp) (h : ∀ vs H Q E, sp vs H Q E → sp vs H Q E0) : FnOk P w K mg base CX0 k f fd ps sp :=
  ⟨F.len, fun A outer s H args us vs Q E hr he hb hv hs => codeAny_mono (F.run A outer s H args us vs Q E0 hr he hb hv (h _ _ _ _ hs)) fun r s' q => by
    cases r with
    | error e =>
      obtain ⟨_, _, _, _, _, _, _, _, _, _, _, _, hE⟩ := q
      exact hE.elim
    | ok fl => cases fl <;> exact q⟩
theorem facts {P : Program} {w w2 : World} {K : PySem.W.Frag} {h : Heap} {mg : Str → Option Value} {f : Addr} (X : K.In h) (G : h.Ns mainGlobals mg) (hfa : mg ("law" : Str) = some (.ref f)) (hfile : P.main.file = PySem.Challenge.pw_watchwebs_k11_whole_webs_renamed_and_fau.main.file) (htop : (P.main.scope.names.lookup ("super" : Str)).isSome = false) (cx : SaysE fa fn es ex w2 h K)
    (hp : ∀ ns : List Int, ns.length ≤ 63 → ∃ mu, f_law_k11 [.frl (ns.map D.int)] [] = .ok (.bl true) mu) :
    ∃ fd : FuncData, (∀ (s : Shared) (v : Value), BindsTo s fd ⟨[v], []⟩ [("script", v)]) ∧ ∀ base : Heap, K.In base → base.Ns mainGlobals mg → FnOk P w K mg base CX0 8 f fd ["script"] (spLaw K) := by
  have c := cx.t.d
  have cfa := c
  have hx := cx.more
  obtain ⟨fd__law_pot, F__law_pot⟩ := c.def_ 0 (d := d__law_pot) rfl
  obtain ⟨fd__law_draw, F__law_draw⟩ := c.def_ 1 (d := d__law_draw) rfl
  obtain ⟨fd__law_pick, F__law_pick⟩ := c.def_ 2 (d := d__law_pick) rfl
  obtain ⟨fd_is_number, F_is_number⟩ := c.def_ 3 (d := d_is_number) rfl
  obtain ⟨fd_is_within, F_is_within⟩ := c.def_ 4 (d := d_is_within) rfl
  obtain ⟨fd_is_listed, F_is_listed⟩ := c.def_ 5 (d := d_is_listed) rfl
  obtain ⟨fd_have_no_twice, F_have_no_twice⟩ := c.def_ 6 (d := d_have_no_twice) rfl
  obtain ⟨fd_is_name, F_is_name⟩ := c.def_ 7 (d := d_is_name) rfl
  obtain ⟨fd_are_spots, F_are_spots⟩ := c.def_ 8 (d := d_are_spots) rfl
  obtain ⟨fd_is_pair_below, F_is_pair_below⟩ := c.def_ 9 (d := d_is_pair_below) rfl
  obtain ⟨fd_steps_away, F_steps_away⟩ := c.def_ 10 (d := d_steps_away) rfl
  obtain ⟨fd_Web_init, F_Web_init⟩ := c.def_ 11 (d := d_Web_init) rfl
  obtain ⟨fd_Task_init, F_Task_init⟩ := c.def_ 12 (d := d_Task_init) rfl
  obtain ⟨fd__law_mixed, F__law_mixed⟩ := c.def_ 13 (d := d__law_mixed) rfl
  obtain ⟨fd__law_same, F__law_same⟩ := c.def_ 14 (d := d__law_same) rfl
  obtain ⟨fd__law_pairs, F__law_pairs⟩ := c.def_ 15 (d := d__law_pairs) rfl
  obtain ⟨fd__law_word, F__law_word⟩ := c.def_ 16 (d := d__law_word) rfl
  obtain ⟨fd__law_is_name, F__law_is_name⟩ := c.def_ 17 (d := d__law_is_name) rfl
  obtain ⟨fd__law_names, F__law_names⟩ := c.def_ 18 (d := d__law_names) rfl
  obtain ⟨fd__law_spec, F__law_spec⟩ := c.def_ 19 (d := d__law_spec) rfl
  obtain ⟨fd__law_made, F__law_made⟩ := c.def_ 20 (d := d__law_made) rfl
  obtain ⟨fd__law_task, F__law_task⟩ := c.def_ 21 (d := d__law_task) rfl
  obtain ⟨fd__law_set, F__law_set⟩ := c.def_ 22 (d := d__law_set) rfl
  obtain ⟨fd__law_all, F__law_all⟩ := c.def_ 23 (d := d__law_all) rfl
  obtain ⟨fd_is_lot_below, F_is_lot_below⟩ := c.def_ 24 (d := d_is_lot_below) rfl
  obtain ⟨fd_lots_by_size, F_lots_by_size⟩ := c.def_ 25 (d := d_lots_by_size) rfl
  obtain ⟨fd_all_lots, F_all_lots⟩ := c.def_ 26 (d := d_all_lots) rfl
  obtain ⟨fd_is_lot, F_is_lot⟩ := c.def_ 27 (d := d_is_lot) rfl
  obtain ⟨fd_check_watchers, F_check_watchers⟩ := c.def_ 28 (d := d_check_watchers) rfl
  obtain ⟨fd_told_by, F_told_by⟩ := c.def_ 29 (d := d_told_by) rfl
  obtain ⟨fd_report_of, F_report_of⟩ := c.def_ 30 (d := d_report_of) rfl
  obtain ⟨fd__law_lots, F__law_lots⟩ := c.def_ 31 (d := d__law_lots) rfl
  obtain ⟨fd_gap_of, F_gap_of⟩ := c.def_ 32 (d := d_gap_of) rfl
  obtain ⟨fd_bound_of, F_bound_of⟩ := c.def_ 33 (d := d_bound_of) rfl
  obtain ⟨fd_pairs_of, F_pairs_of⟩ := c.def_ 34 (d := d_pairs_of) rfl
  obtain ⟨fd_mixed_row, F_mixed_row⟩ := c.def_ 35 (d := d_mixed_row) rfl
  obtain ⟨fd_close_pair, F_close_pair⟩ := c.def_ 36 (d := d_close_pair) rfl
  obtain ⟨fd_clash, F_clash⟩ := c.def_ 37 (d := d_clash) rfl
  obtain ⟨fd_gap, F_gap⟩ := c.def_ 38 (d := d_gap) rfl
  obtain ⟨fd_bears, F_bears⟩ := c.def_ 39 (d := d_bears) rfl
  obtain ⟨fd_spare, F_spare⟩ := c.def_ 40 (d := d_spare) rfl
  obtain ⟨fd_few, F_few⟩ := c.def_ 41 (d := d_few) rfl
  obtain ⟨fd_fewest, F_fewest⟩ := c.def_ 42 (d := d_fewest) rfl
  obtain ⟨fd_law_k11, F_law_k11⟩ := c.def_ 43 (d := d_law_k11) rfl
  have T0 := exT_ok (ex_at hx 0 rfl) (He.cls_ok (c.fact 67 (f := .cls "Web") rfl))
  have L0 : Lv (clK K) 0 := ⟨T0.1, by decide⟩
  have T2 := exT_ok (ex_at hx 1 rfl) (He.cls_ok (c.fact 78 (f := .cls "Task") rfl))
  have L2 : Lv (clK K) 2 := ⟨T2.1, by decide⟩
  have hC : ∀ c, Lv (clK K) c → ClsT K (clK K c) := fun c hc => by
    have hlt := hc.2
    have hnz := hc.1
    clear hc
    unfold clK at hnz ⊢
    by_cases h0 : c = 0
    · subst h0; exact T0.2
    rw [if_neg h0] at hnz ⊢
    by_cases h2 : c = 2
    · subst h2; exact T2.2
    rw [if_neg h2] at hnz ⊢
    rw [if_neg (show ¬ c = 1001 by omega)] at hnz ⊢
    rw [if_neg (show ¬ c = 1003 by omega)] at hnz ⊢
    rw [if_neg (show ¬ c = 1006 by omega)] at hnz ⊢
    exact absurd rfl hnz
  have at_away : ∀ c, Lv (clK K) c → NoAttr K (clK K c) "away" := fun c hc => by
    have hlt := hc.2
    have hnz := hc.1
    clear hc
    unfold clK at hnz ⊢
    by_cases h0 : c = 0
    · subst h0; exact He.noat_ok (cfa.fact 69 (f := .noat "Web" "away") rfl)
    rw [if_neg h0] at hnz ⊢
    by_cases h2 : c = 2
    · subst h2; exact He.noat_ok (cfa.fact 80 (f := .noat "Task" "away") rfl)
    rw [if_neg h2] at hnz ⊢
    rw [if_neg (show ¬ c = 1001 by omega)] at hnz ⊢
    rw [if_neg (show ¬ c = 1003 by omega)] at hnz ⊢
    rw [if_neg (show ¬ c = 1006 by omega)] at hnz ⊢
    exact absurd rfl hnz
  have at_broken : ∀ c, Lv (clK K) c → NoAttr K (clK K c) "broken" := fun c hc => by
    have hlt := hc.2
    have hnz := hc.1
    clear hc
    unfold clK at hnz ⊢
    by_cases h0 : c = 0
    · subst h0; exact He.noat_ok (cfa.fact 70 (f := .noat "Web" "broken") rfl)
    rw [if_neg h0] at hnz ⊢
    by_cases h2 : c = 2
    · subst h2; exact He.noat_ok (cfa.fact 81 (f := .noat "Task" "broken") rfl)
    rw [if_neg h2] at hnz ⊢
    rw [if_neg (show ¬ c = 1001 by omega)] at hnz ⊢
    rw [if_neg (show ¬ c = 1003 by omega)] at hnz ⊢
    rw [if_neg (show ¬ c = 1006 by omega)] at hnz ⊢
    exact absurd rfl hnz
  have at_fires : ∀ c, Lv (clK K) c → NoAttr K (clK K c) "fires" := fun c hc => by
    have hlt := hc.2
    have hnz := hc.1
    clear hc
    unfold clK at hnz ⊢
    by_cases h0 : c = 0
    · subst h0; exact He.noat_ok (cfa.fact 71 (f := .noat "Web" "fires") rfl)
    rw [if_neg h0] at hnz ⊢
    by_cases h2 : c = 2
    · subst h2; exact He.noat_ok (cfa.fact 82 (f := .noat "Task" "fires") rfl)
    rw [if_neg h2] at hnz ⊢
    rw [if_neg (show ¬ c = 1001 by omega)] at hnz ⊢
    rw [if_neg (show ¬ c = 1003 by omega)] at hnz ⊢
    rw [if_neg (show ¬ c = 1006 by omega)] at hnz ⊢
    exact absurd rfl hnz
  have at_kind : ∀ c, Lv (clK K) c → NoAttr K (clK K c) "kind" := fun c hc => by
    have hlt := hc.2
    have hnz := hc.1
    clear hc
    unfold clK at hnz ⊢
    by_cases h0 : c = 0
    · subst h0; exact He.noat_ok (cfa.fact 72 (f := .noat "Web" "kind") rfl)
    rw [if_neg h0] at hnz ⊢
    by_cases h2 : c = 2
    · subst h2; exact He.noat_ok (cfa.fact 83 (f := .noat "Task" "kind") rfl)
    rw [if_neg h2] at hnz ⊢
    rw [if_neg (show ¬ c = 1001 by omega)] at hnz ⊢
    rw [if_neg (show ¬ c = 1003 by omega)] at hnz ⊢
    rw [if_neg (show ¬ c = 1006 by omega)] at hnz ⊢
    exact absurd rfl hnz
  have at_lying : ∀ c, Lv (clK K) c → NoAttr K (clK K c) "lying" := fun c hc => by
    have hlt := hc.2
    have hnz := hc.1
    clear hc
    unfold clK at hnz ⊢
    by_cases h0 : c = 0
    · subst h0; exact He.noat_ok (cfa.fact 73 (f := .noat "Web" "lying") rfl)
    rw [if_neg h0] at hnz ⊢
    by_cases h2 : c = 2
    · subst h2; exact He.noat_ok (cfa.fact 84 (f := .noat "Task" "lying") rfl)
    rw [if_neg h2] at hnz ⊢
    rw [if_neg (show ¬ c = 1001 by omega)] at hnz ⊢
    rw [if_neg (show ¬ c = 1003 by omega)] at hnz ⊢
    rw [if_neg (show ¬ c = 1006 by omega)] at hnz ⊢
    exact absurd rfl hnz
  have at_reach : ∀ c, Lv (clK K) c → NoAttr K (clK K c) "reach" := fun c hc => by
    have hlt := hc.2
    have hnz := hc.1
    clear hc
    unfold clK at hnz ⊢
    by_cases h0 : c = 0
    · subst h0; exact He.noat_ok (cfa.fact 74 (f := .noat "Web" "reach") rfl)
    rw [if_neg h0] at hnz ⊢
    by_cases h2 : c = 2
    · subst h2; exact He.noat_ok (cfa.fact 85 (f := .noat "Task" "reach") rfl)
    rw [if_neg h2] at hnz ⊢
    rw [if_neg (show ¬ c = 1001 by omega)] at hnz ⊢
    rw [if_neg (show ¬ c = 1003 by omega)] at hnz ⊢
    rw [if_neg (show ¬ c = 1006 by omega)] at hnz ⊢
    exact absurd rfl hnz
  have at_roads : ∀ c, Lv (clK K) c → NoAttr K (clK K c) "roads" := fun c hc => by
    have hlt := hc.2
    have hnz := hc.1
    clear hc
    unfold clK at hnz ⊢
    by_cases h0 : c = 0
    · subst h0; exact He.noat_ok (cfa.fact 75 (f := .noat "Web" "roads") rfl)
    rw [if_neg h0] at hnz ⊢
    by_cases h2 : c = 2
    · subst h2; exact He.noat_ok (cfa.fact 86 (f := .noat "Task" "roads") rfl)
    rw [if_neg h2] at hnz ⊢
    rw [if_neg (show ¬ c = 1001 by omega)] at hnz ⊢
    rw [if_neg (show ¬ c = 1003 by omega)] at hnz ⊢
    rw [if_neg (show ¬ c = 1006 by omega)] at hnz ⊢
    exact absurd rfl hnz
  have at_spots : ∀ c, Lv (clK K) c → NoAttr K (clK K c) "spots" := fun c hc => by
    have hlt := hc.2
    have hnz := hc.1
    clear hc
    unfold clK at hnz ⊢
    by_cases h0 : c = 0
    · subst h0; exact He.noat_ok (cfa.fact 76 (f := .noat "Web" "spots") rfl)
    rw [if_neg h0] at hnz ⊢
    by_cases h2 : c = 2
    · subst h2; exact He.noat_ok (cfa.fact 87 (f := .noat "Task" "spots") rfl)
    rw [if_neg h2] at hnz ⊢
    rw [if_neg (show ¬ c = 1001 by omega)] at hnz ⊢
    rw [if_neg (show ¬ c = 1003 by omega)] at hnz ⊢
    rw [if_neg (show ¬ c = 1006 by omega)] at hnz ⊢
    exact absurd rfl hnz
  have fc : Fc K mg (clK K) (fun x => He.ga K x) :=
    { hC := hC,
      n_abs := He.free_ok X G (c.fact 42 (f := .free "abs") rfl),
      n_all := He.free_ok X G (c.fact 43 (f := .free "all") rfl),
      n_bool := He.free_ok X G (c.fact 44 (f := .free "bool") rfl),
      n_enumerate := He.free_ok X G (c.fact 45 (f := .free "enumerate") rfl),
      n_int := He.free_ok X G (c.fact 46 (f := .free "int") rfl),
      n_isinstance := He.free_ok X G (c.fact 47 (f := .free "isinstance") rfl),
      n_len := He.free_ok X G (c.fact 48 (f := .free "len") rfl),
      n_list := He.free_ok X G (c.fact 49 (f := .free "list") rfl),
      n_min := He.free_ok X G (c.fact 50 (f := .free "min") rfl),
      n_range := He.free_ok X G (c.fact 51 (f := .free "range") rfl),
      n_sorted := He.free_ok X G (c.fact 52 (f := .free "sorted") rfl),
      n_str := He.free_ok X G (c.fact 53 (f := .free "str") rfl),
      n_tuple := He.free_ok X G (c.fact 54 (f := .free "tuple") rfl),
      n_zip := He.free_ok X G (c.fact 55 (f := .free "zip") rfl),
      at_away := at_away,
      at_broken := at_broken,
      at_fires := at_fires,
      at_kind := at_kind,
      at_lying := at_lying,
      at_reach := at_reach,
      at_roads := at_roads,
      at_spots := at_spots,
      g_BROKEN := let ⟨t, e⟩ := He.str_ok X G (c.fact 57 (f := .str "BROKEN" "broken") rfl); ⟨_, e, t, rfl⟩,
      g_LONGEST := let ⟨t, e⟩ := He.int_ok X G (c.fact 58 (f := .int "LONGEST" 8) rfl); ⟨_, e, t, rfl⟩,
      g_MOST_FAULTS := let ⟨t, e⟩ := He.int_ok X G (c.fact 59 (f := .int "MOST_FAULTS" 3) rfl); ⟨_, e, t, rfl⟩,
      g_MOST_FIRES := let ⟨t, e⟩ := He.int_ok X G (c.fact 60 (f := .int "MOST_FIRES" 3) rfl); ⟨_, e, t, rfl⟩,
      g_MOST_REACH := let ⟨t, e⟩ := He.int_ok X G (c.fact 61 (f := .int "MOST_REACH" 8) rfl); ⟨_, e, t, rfl⟩,
      g_MOST_SPOTS := let ⟨t, e⟩ := He.int_ok X G (c.fact 62 (f := .int "MOST_SPOTS" 9) rfl); ⟨_, e, t, rfl⟩,
      g_SIGNS := let ⟨t, e⟩ := He.str_ok X G (c.fact 63 (f := .str "SIGNS" "abcdefghijklmnopqrstuvwxyz") rfl); ⟨_, e, t, rfl⟩,
      m_KINDS := He.glo_ok X G (c.fact 64 (f := .glo "KINDS") rfl),
      q_KINDS := fun H => He.tupB_ok (ex_at hx 2 rfl) H,
      m_WORDS := He.glo_ok X G (c.fact 65 (f := .glo "WORDS") rfl),
      q_WORDS := fun H => He.tupB_ok (ex_at hx 3 rfl) H }
  have b := FunD.bindsA (ps := ["script"]) F_law_k11 fun _ _ _ _ _ _ us hl => match us, hl with | [_], _ => rfl
  have e0 := hfa.symm.trans (He.glo_ok X G (c.fact 41 (f := .glo "law") rfl))
  refine ⟨fd_law_k11, fun s v => b s [v] rfl, fun base _ _ => ?_⟩
  have hsup := He.free_ok X G (c.fact 56 (f := .free "super") rfl)
  have e_BadWeb : Ge P w K mg base (clK K) "BadWeb" 1001 ["what"] := by
    exact ge1 hfile (cx.err 0 (d := d_e_BadWeb) rfl) (ex_at hx 4 rfl) rfl (PySem.W.mg_of X G (errB_ok (d := d_e_BadWeb) (ex_at hx 4 rfl)).2.2.2.2.2.2.2.2) hsup htop ⟨by decide +kernel, rfl, rfl, rfl, rfl, rfl, rfl, ⟨_, rfl, rfl⟩⟩ (fun _ _ _ _ _ _ _ _ _ => rfl) rfl (by decide) (by decide) (by decide) (fun _ _ _ _ => rfl) (fun _ _ _ _ => rfl) (fun _ _ _ _ => rfl) (fun _ _ _ _ => rfl) (fun _ _ _ _ => rfl)
  have e_BadTask : Ge P w K mg base (clK K) "BadTask" 1003 ["what"] := by
    exact ge1 hfile (cx.err 1 (d := d_e_BadTask) rfl) (ex_at hx 5 rfl) rfl (PySem.W.mg_of X G (errB_ok (d := d_e_BadTask) (ex_at hx 5 rfl)).2.2.2.2.2.2.2.2) hsup htop ⟨by decide +kernel, rfl, rfl, rfl, rfl, rfl, rfl, ⟨_, rfl, rfl⟩⟩ (fun _ _ _ _ _ _ _ _ _ => rfl) rfl (by decide) (by decide) (by decide) (fun _ _ _ _ => rfl) (fun _ _ _ _ => rfl) (fun _ _ _ _ => rfl) (fun _ _ _ _ => rfl) (fun _ _ _ _ => rfl)
  have e_NoWatch : Ge P w K mg base (clK K) "NoWatch" 1006 [] := by
    exact ge0 hfile (cx.err 2 (d := d_e_NoWatch) rfl) (ex_at hx 6 rfl) rfl (PySem.W.mg_of X G (errB_ok (d := d_e_NoWatch) (ex_at hx 6 rfl)).2.2.2.2.2.2.2.2) hsup htop ⟨by decide +kernel, rfl, rfl, rfl, rfl, rfl, rfl, ⟨_, rfl, rfl⟩⟩ (fun _ _ _ _ _ _ _ _ => rfl) (fun _ _ _ _ => rfl) (fun _ _ _ _ => rfl) (fun _ _ _ _ => rfl)
  have h__law_pot := ok__law_pot (P := P) (w := w) (base := base) fc F__law_pot (He.glo_ok X G (c.fact 0 (f := .glo "_law_pot") rfl))
  have h__law_draw := ok__law_draw (P := P) (w := w) (base := base) fc F__law_draw (He.glo_ok X G (c.fact 1 (f := .glo "_law_draw") rfl))
  have h__law_pick := ok__law_pick (P := P) (w := w) (base := base) fc F__law_pick (He.glo_ok X G (c.fact 2 (f := .glo "_law_pick") rfl)) h__law_draw
  have h_is_number := ok_is_number (P := P) (w := w) (base := base) fc F_is_number (He.glo_ok X G (c.fact 3 (f := .glo "is_number") rfl))
  have h_is_within := ok_is_within (P := P) (w := w) (base := base) fc F_is_within (He.glo_ok X G (c.fact 4 (f := .glo "is_within") rfl)) h_is_number
  have h_is_listed := ok_is_listed (P := P) (w := w) (base := base) fc F_is_listed (He.glo_ok X G (c.fact 5 (f := .glo "is_listed") rfl))
  have h_have_no_twice := ok_have_no_twice (P := P) (w := w) (base := base) fc F_have_no_twice (He.glo_ok X G (c.fact 6 (f := .glo "have_no_twice") rfl))
  have h_is_name := ok_is_name (P := P) (w := w) (base := base) fc F_is_name (He.glo_ok X G (c.fact 7 (f := .glo "is_name") rfl))
  have h_are_spots := ok_are_spots (P := P) (w := w) (base := base) fc F_are_spots (He.glo_ok X G (c.fact 8 (f := .glo "are_spots") rfl)) h_is_listed h_is_name h_have_no_twice
  have h_is_pair_below := ok_is_pair_below (P := P) (w := w) (base := base) fc F_is_pair_below (He.glo_ok X G (c.fact 9 (f := .glo "is_pair_below") rfl)) h_is_within
  have h_steps_away := ok_steps_away (P := P) (w := w) (base := base) fc F_steps_away (He.glo_ok X G (c.fact 10 (f := .glo "steps_away") rfl))
  have h_Web_init := ok_Web_init (P := P) (w := w) (base := base) fc F_Web_init (He.mkr_ok (c.fact 68 (f := .mkr "Web") rfl)) L0 (He.glo_ok X G (c.fact 66 (f := .glo "Web") rfl)) h_are_spots h_is_listed h_is_pair_below h_have_no_twice h_steps_away e_BadWeb
  have h_Task_init := ok_Task_init (P := P) (w := w) (base := base) fc F_Task_init (He.mkr_ok (c.fact 79 (f := .mkr "Task") rfl)) L2 (He.glo_ok X G (c.fact 77 (f := .glo "Task") rfl)) h_is_within e_BadTask
  have h__law_mixed := ok__law_mixed (P := P) (w := w) (base := base) fc F__law_mixed (He.glo_ok X G (c.fact 11 (f := .glo "_law_mixed") rfl)) h__law_draw
  have h__law_same := ok__law_same (P := P) (w := w) (base := base) fc F__law_same (He.glo_ok X G (c.fact 12 (f := .glo "_law_same") rfl))
  have h__law_pairs := ok__law_pairs (P := P) (w := w) (base := base) fc F__law_pairs (He.glo_ok X G (c.fact 13 (f := .glo "_law_pairs") rfl))
  have h__law_word := ok__law_word (P := P) (w := w) (base := base) fc F__law_word (He.glo_ok X G (c.fact 14 (f := .glo "_law_word") rfl)) h__law_draw h__law_pick
  have h__law_is_name := ok__law_is_name (P := P) (w := w) (base := base) fc F__law_is_name (He.glo_ok X G (c.fact 15 (f := .glo "_law_is_name") rfl))
  have h__law_names := ok__law_names (P := P) (w := w) (base := base) fc F__law_names (He.glo_ok X G (c.fact 16 (f := .glo "_law_names") rfl)) h__law_word h__law_is_name
  have h__law_spec := ok__law_spec (P := P) (w := w) (base := base) fc F__law_spec (He.glo_ok X G (c.fact 17 (f := .glo "_law_spec") rfl)) h__law_draw h__law_names h__law_pairs
  have h__law_made := ok__law_made (P := P) (w := w) (base := base) fc F__law_made (He.glo_ok X G (c.fact 18 (f := .glo "_law_made") rfl)) h_Web_init
  have h__law_task := ok__law_task (P := P) (w := w) (base := base) fc F__law_task (He.glo_ok X G (c.fact 19 (f := .glo "_law_task") rfl)) h__law_pick h__law_draw
  have h__law_set := ok__law_set (P := P) (w := w) (base := base) fc F__law_set (He.glo_ok X G (c.fact 20 (f := .glo "_law_set") rfl)) h_Task_init
  have h__law_all := ok__law_all (P := P) (w := w) (base := base) fc F__law_all (He.glo_ok X G (c.fact 21 (f := .glo "_law_all") rfl))
  have h_is_lot_below := ok_is_lot_below (P := P) (w := w) (base := base) fc F_is_lot_below (He.glo_ok X G (c.fact 22 (f := .glo "is_lot_below") rfl)) h_is_within
  have h_lots_by_size := ok_lots_by_size (P := P) (w := w) (base := base) fc F_lots_by_size (He.glo_ok X G (c.fact 23 (f := .glo "lots_by_size") rfl))
  have h_all_lots := ok_all_lots (P := P) (w := w) (base := base) fc F_all_lots (He.glo_ok X G (c.fact 24 (f := .glo "all_lots") rfl)) h_lots_by_size
  have h_is_lot := ok_is_lot (P := P) (w := w) (base := base) fc F_is_lot (He.glo_ok X G (c.fact 25 (f := .glo "is_lot") rfl)) h_is_lot_below
  have h_check_watchers := ok_check_watchers (P := P) (w := w) (base := base) fc F_check_watchers (He.glo_ok X G (c.fact 26 (f := .glo "check_watchers") rfl)) h_is_lot e_NoWatch
  have h_told_by := ok_told_by (P := P) (w := w) (base := base) fc F_told_by (He.glo_ok X G (c.fact 27 (f := .glo "told_by") rfl))
  have h_report_of := ok_report_of (P := P) (w := w) (base := base) fc F_report_of (He.glo_ok X G (c.fact 28 (f := .glo "report_of") rfl)) h_told_by
  have h__law_lots := ok__law_lots (P := P) (w := w) (base := base) fc F__law_lots (He.glo_ok X G (c.fact 29 (f := .glo "_law_lots") rfl))
  have h_gap_of := ok_gap_of (P := P) (w := w) (base := base) fc F_gap_of (He.glo_ok X G (c.fact 30 (f := .glo "gap_of") rfl))
  have h_bound_of := ok_bound_of (P := P) (w := w) (base := base) fc F_bound_of (He.glo_ok X G (c.fact 31 (f := .glo "bound_of") rfl))
  have h_pairs_of := ok_pairs_of (P := P) (w := w) (base := base) fc F_pairs_of (He.glo_ok X G (c.fact 32 (f := .glo "pairs_of") rfl))
  have h_mixed_row := ok_mixed_row (P := P) (w := w) (base := base) fc F_mixed_row (He.glo_ok X G (c.fact 33 (f := .glo "mixed_row") rfl))
  have h_close_pair := ok_close_pair (P := P) (w := w) (base := base) fc F_close_pair (He.glo_ok X G (c.fact 34 (f := .glo "close_pair") rfl)) h_all_lots h_pairs_of h_report_of h_gap_of h_bound_of
  have h_clash := ok_clash (P := P) (w := w) (base := base) fc F_clash (He.glo_ok X G (c.fact 35 (f := .glo "clash") rfl)) h_check_watchers h_close_pair h_report_of h_mixed_row
  have h_gap := ok_gap (P := P) (w := w) (base := base) fc F_gap (He.glo_ok X G (c.fact 36 (f := .glo "gap") rfl)) h_check_watchers h_all_lots h_report_of h_pairs_of h_gap_of
  have h_bears := ok_bears (P := P) (w := w) (base := base) fc F_bears (He.glo_ok X G (c.fact 37 (f := .glo "bears") rfl)) h_gap h_Task_init h_bound_of
  have h_spare := ok_spare (P := P) (w := w) (base := base) fc F_spare (He.glo_ok X G (c.fact 38 (f := .glo "spare") rfl)) h_check_watchers h_close_pair
  have h_few := ok_few (P := P) (w := w) (base := base) fc F_few (He.glo_ok X G (c.fact 39 (f := .glo "few") rfl)) h_lots_by_size h_close_pair
  have h_fewest := ok_fewest (P := P) (w := w) (base := base) fc F_fewest (He.glo_ok X G (c.fact 40 (f := .glo "fewest") rfl)) h_few
  have h_law_k11 := ok_law_k11 (P := P) (w := w) (base := base) fc F_law_k11 h__law_pot h__law_task h__law_spec h__law_made h__law_set h__law_all h__law_lots h__law_pick h__law_mixed h_gap h_bears h_spare h_fewest h__law_same h_clash
  have e1 : f = He.fAd K d_law_k11.at_ := Value.ref.inj (Option.some.inj e0)
  rw [e1]
  exact fn_cx0 ((h_law_k11.imp (sp_law hp))) fun vs H Q E h => h
end DL
open PySem PySem.W PySem.Calls PyProof.Rows
theorem PySem.Challenge.cw_watchwebs_k11_whole_webs_renamed_and_fau_holds : PySem.Challenge.rw_watchwebs_k11_whole_webs_renamed_and_fau.Holds := by
  w_on; o_law
  refine HandSHeadRun.head_any (r := OpenLaw.row PySem.Challenge.rw_watchwebs_k11_whole_webs_renamed_and_fau) (q := view (OpenLaw.row PySem.Challenge.rw_watchwebs_k11_whole_webs_renamed_and_fau).prog [63]) (H := DL.hk) (ob := DL.ob) (M := 4000) (loose := DL.loose) (d := HandSHeadRun.topDef (OpenLaw.row PySem.Challenge.rw_watchwebs_k11_whole_webs_renamed_and_fau).prog 63) (kwd := []) DL.ob_eq
    (by kernel_rfl) (fun s => by kernel_rfl) DL.run (by kernel_rfl) (by kernel_rfl) (by kernel_rfl) (by rfl) (by first | assumption | decide +kernel) (by decide +kernel) ⟨rfl, rfl, rfl, rfl, rfl, by decide +kernel⟩ ?hw ?hc
  case hw => w_witness2
  case hc =>
    refine L2.walk_ofE (l := PySem.Challenge.rw_watchwebs_k11_whole_webs_renamed_and_fau) (n := 63) (k := 8) (x := "script") (CX := L2.CX0) rfl (by decide) (by kernel_rfl) ⟨rfl, by decide, by decide⟩ ?F (fun _ _ _ _ z => z)
    intro w mg fa h Y G hmg0
    obtain ⟨K, KX, c⟩ := Y
    have hmg : mg ("law" : PySem.Str) = some (.ref fa) := by
      have e : (HandSHeadRun.topDef (OpenLaw.row PySem.Challenge.rw_watchwebs_k11_whole_webs_renamed_and_fau).prog 63).name = ("law" : PySem.Str) := by kernel_rfl
      rw [← e]
      exact hmg0
    obtain ⟨fd, hb, hF⟩ := DL.facts (P := (PySem.Challenge.rw_watchwebs_k11_whole_webs_renamed_and_fau).prog) (w := w) KX G hmg rfl (by kernel_rfl) c DL.law_true
    exact ⟨K, fd, DL.spLaw K, KX, hb, fun H a ns hl _ hS => ⟨a, ns, hl, rfl, hS, fun _ => rfl⟩, hF⟩
end
