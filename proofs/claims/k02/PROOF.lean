import PyProof.Rows.All
import Wide.All
import OpenK.AllK
import Wide.FinOn
import HandS.ForMost
import HandS.Walk
import HandS.Exc
import HandS.ExcOwn
import HandS.IsInst
import HandS.Conv
import HandS.Defaults
import HandS.NoneIn
import HandS.DictComp
import HandS.TupAny
import HandS.StrMore
import HandS.Replace
import HandS.FStr
import HandS.Wide
import HandS.SortInts
import KE.DataEq
import KE.DataFind
import HandS.TupLe
import HandS.TupMul
import HandS.Codes
import HandS.CallRecv
import HandS.OwnEq
import HandS.NamedTupSort
import PyProof.InstNe
import KE.SortData
import HandS.Text
import HandS.Deep
import KE.GoesMore
import KE.GoesComp
import HandS.Dict
import HandS.TupLen
import HandS.WordsDict
import HandS.Zip
import PySem.Challenge.RW_watchwebs_k02_whole_texts_of_webs
import KE.KStateDown
import HandS.Base
import HandS.Call
import HandS.Ends
import HandS.More
import HandS.Words
import HandS.WordsExc
import HandS.Head0
import HandS.Head1
import HandS.Head2
import HandS.HeadEnd
import HandS.HeadHook1
import HandS.HeadHook2
import HandS.HeadHook3
import HandS.HeadHook4
import HandS.HeadWalk
section
set_option Elab.async false
set_option linter.all false
set_option maxRecDepth 100000
set_option maxHeartbeats 4000000
/-! DA: data, the store, what stands for what, how the heap grows. -/
namespace DL
open PySem L2

/-- data. obj k: the k-th object of the store -/
inductive D where
  | non | bl (b : Bool) | int (i : Int) | str (x : Str)
  | lst (l : List D) | tup (l : List D)
  | dct (kvs : List (D × D))
  | ins (c : Nat) (fs : List (Str × D))
  | obj (k : Nat)
  /-- a list that is known to the object (the script) -/
  | frl (l : List D)

/-- what may be changed: a list, a dict, an instance -/
inductive MO where
  | lst (l : List D) | dct (kvs : List (D × D)) | ins (c : Nat) (fs : List (Str × D))
abbrev Store := List (Option MO)
/-- a slot: data, or an object of the frame's own -/
inductive SV where
  | val (d : D) | own (m : MO)
abbrev Sl := List (Option SV)

/-- what a piece of the program comes to -/
inductive Out (α : Type) where
  | ok (a : α) (mu : Store)
  | ex (c : Nat) (fs : List (Str × D)) (mu : Store)
  | bad
/-- .. a statement: the next one, a return, break, continue -/
inductive OutS where
  | nx (sl : Sl) (mu : Store)
  | rt (d : D) (mu : Store)
  | bk (sl : Sl) (mu : Store)
  | ct (sl : Sl) (mu : Store)
  | ex (c : Nat) (fs : List (Str × D)) (sl : Sl) (mu : Store)
  | bad

/-- the theory: the written part, the classes' addresses -/
structure Th where
  K : PySem.W.Frag
  cls : Nat → Addr

/-- dicts: by a heap's predicate, told later -/
structure DKit where
  ok : Hp → Addr → List (V × V) → Prop

section
variable (T : Th) (F : Hp) (al : Nat → Addr) (n : Nat)
mutual
inductive Rp : V → D → Prop
  | non : Rp .non .non
  | bl (b : Bool) : Rp (.bl b) (.bl b)
  | int (i : Int) : Rp (.int i) (.int i)
  | str (x : Str) : Rp (.str x) (.str x)
  | lst {a : Addr} {xs : List V} {ds : List D} : F a = some (.lst xs) → RpL xs ds → Rp (.ref a) (.lst ds)
  | tup {a : Addr} {xs : List V} {ds : List D} : F a = some (.tup xs) → RpL xs ds → Rp (.ref a) (.tup ds)
  | ins {a dx : Addr} {c : Nat} {fs : List (Str × V)} {ds : List (Str × D)} : T.cls c ≠ 0 → F a = some (.ins (T.cls c) dx fs) → RpF fs ds → Rp (.ref a) (.ins c ds)
  | obj {k : Nat} : k < n → Rp (.ref (al k)) (.obj k)
  | frl {a : Addr} {xs : List V} {ds : List D} : SqL T.K F a xs → RpL xs ds → Rp (.ref a) (.frl ds)
inductive RpL : List V → List D → Prop
  | nil : RpL [] []
  | cons {v : V} {vs : List V} {d : D} {ds : List D} : Rp v d → RpL vs ds → RpL (v :: vs) (d :: ds)
inductive RpF : List (Str × V) → List (Str × D) → Prop
  | nil : RpF [] []
  | cons {x : Str} {v : V} {vs : List (Str × V)} {d : D} {ds : List (Str × D)} : Rp v d → RpF vs ds → RpF ((x, v) :: vs) ((x, d) :: ds)
end
/-- what stands at an address for a changeable object -/
def Conc : HO → MO → Prop
  | .lst xs, .lst ds => RpL T F al n xs ds
  | .ins C _ fs, .ins c ds => (C = T.cls c ∧ T.cls c ≠ 0) ∧ RpF T F al n fs ds
  | _, _ => False
end

section
variable {T : Th} {F F' : Hp} {al al' : Nat → Addr} {n n' : Nat}
theorem sqT_mono {K : PySem.W.Frag} {a : Addr} {xs : List V} (s : ∀ a o, F a = some o → F' a = some o) (h : F a = some (.tup xs)) : SqT K F' a xs := .inl (.inl (s _ _ h))
theorem sqL_mono {K : PySem.W.Frag} {a : Addr} {xs : List V} (s : ∀ a o, F a = some o → F' a = some o) (h : SqL K F a xs) : SqL K F' a xs := by
  rcases h with (h | ⟨o, h⟩) | h
  · exact .inl (.inl (s _ _ h))
  · exact .inl (.inr ⟨o, s _ _ h⟩)
  · exact .inr h
mutual
theorem Rp.mono (s : ∀ a o, F a = some o → F' a = some o) (e : ∀ k, k < n → al' k = al k) (l : n ≤ n') : ∀ {d : D} {v : V}, Rp T F al n v d → Rp T F' al' n' v d
  | .non, _, h => by cases h; exact .non
  | .bl b, _, h => by cases h; exact .bl b
  | .int i, _, h => by cases h; exact .int i
  | .str x, _, h => by cases h; exact .str x
  | .lst ds, _, h => by cases h with | lst h1 h2 => exact .lst (s _ _ h1) (RpL.mono s e l h2)
  | .tup ds, _, h => by cases h with | tup h1 h2 => exact .tup (s _ _ h1) (RpL.mono s e l h2)
  | .dct kvs, _, h => by cases h
  | .frl ds, _, h => by cases h with | frl h1 h2 => exact .frl (sqL_mono s h1) (RpL.mono s e l h2)
  | .ins c ds, _, h => by cases h with | ins h0 h1 h2 => exact .ins h0 (s _ _ h1) (RpF.mono s e l h2)
  | .obj k, _, h => by
    cases h with
    | obj h1 =>
      rw [← e k h1]
      exact .obj (Nat.lt_of_lt_of_le h1 l)
theorem RpL.mono (s : ∀ a o, F a = some o → F' a = some o) (e : ∀ k, k < n → al' k = al k) (l : n ≤ n') : ∀ {ds : List D} {vs : List V}, RpL T F al n vs ds → RpL T F' al' n' vs ds
  | [], _, h => by cases h; exact .nil
  | d :: ds, _, h => by cases h with | cons h1 h2 => exact .cons (Rp.mono s e l h1) (RpL.mono s e l h2)
theorem RpF.mono (s : ∀ a o, F a = some o → F' a = some o) (e : ∀ k, k < n → al' k = al k) (l : n ≤ n') : ∀ {ds : List (Str × D)} {vs : List (Str × V)}, RpF T F al n vs ds → RpF T F' al' n' vs ds
  | [], _, h => by cases h; exact .nil
  | (x, d) :: ds, _, h => by cases h with | cons h1 h2 => exact .cons (Rp.mono s e l h1) (RpF.mono s e l h2)
end
end
end DL
end

section
set_option Elab.async false
set_option linter.all false
set_option maxRecDepth 100000
set_option maxHeartbeats 4000000
/-! DB: the world of a frame, how it goes on; readings of denotations. -/
namespace DL
open PySem L2
variable {T : Th} {F F1 F2 : Hp} {al al1 al2 : Nat → Addr} {mu mu1 mu2 : Store} {H H1 H2 : Hp} {sl : Sl} {σ : St}

/-- the store stands in H, F is of H -/
structure Mus (T : Th) (F : Hp) (al : Nat → Addr) (mu : Store) (H : Hp) : Prop where
  sub : ∀ a o, F a = some o → H a = some o
  at_ : ∀ k m, mu[k]? = some (some m) → F (al k) = none ∧ ∃ o, H (al k) = some o ∧ Conc T F al mu.length o m
  inj : ∀ k m k' m', mu[k]? = some (some m) → mu[k']? = some (some m') → al k = al k' → k = k'

structure Wd (T : Th) (F : Hp) (al : Nat → Addr) (sl : Sl) (mu : Store) (σ : St) (H : Hp) : Prop extends Mus T F al mu H where
  len : σ.length = sl.length
  val : ∀ (i : Nat) d, sl[i]? = some (some (SV.val d)) → ∃ v, σ[i]? = some (some v) ∧ Rp T F al mu.length v d
  own : ∀ (i : Nat) m, sl[i]? = some (some (SV.own m)) → ∃ a o, σ[i]? = some (some (V.ref a)) ∧ F a = none ∧ H a = some o ∧ Conc T F al mu.length o m ∧ ∀ k m', mu[k]? = some (some m') → al k ≠ a
  apart : ∀ (i j : Nat) m m' a, i ≠ j → sl[i]? = some (some (SV.own m)) → sl[j]? = some (some (SV.own m')) → σ[i]? = some (some (V.ref a)) → σ[j]? = some (some (V.ref a)) → False

structure Ext (T : Th) (F : Hp) (al : Nat → Addr) (mu : Store) (H : Hp) (F' : Hp) (al' : Nat → Addr) (mu' : Store) (H' : Hp) : Prop where
  mus : Mus T F' al' mu' H'
  sub : ∀ a o, F a = some o → F' a = some o
  new : ∀ a o, F' a = some o → F a = some o ∨ H a = none ∨ ∃ k m, mu[k]? = some (some m) ∧ al k = a
  keep : ∀ a o, H a = some o → (∀ k m, mu[k]? = some (some m) → al k ≠ a) → H' a = some o
  there : ∀ a, H' a = none → H a = none
  als : ∀ k, k < mu.length → al' k = al k
  ln : mu.length ≤ mu'.length
  fresh : ∀ k m, mu'[k]? = some (some m) → (∃ m0, mu[k]? = some (some m0)) ∨ H (al' k) = none

theorem lt_of_live {k : Nat} {m : MO} (h : mu[k]? = some (some m)) : k < mu.length := (List.getElem?_eq_some_iff.mp h).1
theorem Ext.refl (h : Mus T F al mu H) : Ext T F al mu H F al mu H :=
  ⟨h, fun _ _ e => e, fun _ _ e => .inl e, fun _ _ e _ => e, fun _ e => e, fun _ _ => rfl, Nat.le_refl _, fun k m e => .inl ⟨m, e⟩⟩
theorem Ext.trans (a : Ext T F al mu H F1 al1 mu1 H1) (b : Ext T F1 al1 mu1 H1 F2 al2 mu2 H2) : Ext T F al mu H F2 al2 mu2 H2 where
  mus := b.mus
  sub := fun x o e => b.sub x o (a.sub x o e)
  new := fun x o e => by
    rcases b.new x o e with h | h | ⟨k, m, e1, e2⟩
    · exact a.new x o h
    · exact .inr (.inl (a.there x h))
    · rcases a.fresh k m e1 with ⟨m0, h⟩ | h
      · exact .inr (.inr ⟨k, m0, h, by rw [← a.als k (lt_of_live h)]; exact e2⟩)
      · exact .inr (.inl (by rw [← e2]; exact h))
  keep := fun x o e n => b.keep x o (a.keep x o e n) fun k m e1 e2 => by
    rcases a.fresh k m e1 with ⟨m0, h⟩ | h
    · exact n k m0 h (by rw [← a.als k (lt_of_live h)]; exact e2)
    · rw [e2, e] at h; cases h
  there := fun x e => a.there x (b.there x e)
  als := fun k hk => (b.als k (Nat.lt_of_lt_of_le hk a.ln)).trans (a.als k hk)
  ln := Nat.le_trans a.ln b.ln
  fresh := fun k m e => by
    rcases b.fresh k m e with ⟨m0, h⟩ | h
    · rcases a.fresh k m0 h with h' | h'
      · exact .inl h'
      · exact .inr (by rw [b.als k (lt_of_live h)]; exact h')
    · exact .inr (a.there _ h)

theorem Ext.rp (a : Ext T F al mu H F1 al1 mu1 H1) {v : V} {d : D} (h : Rp T F al mu.length v d) : Rp T F1 al1 mu1.length v d := h.mono a.sub a.als a.ln
theorem Ext.rpL (a : Ext T F al mu H F1 al1 mu1 H1) {v : List V} {d : List D} (h : RpL T F al mu.length v d) : RpL T F1 al1 mu1.length v d := h.mono a.sub a.als a.ln
theorem Ext.rpF (a : Ext T F al mu H F1 al1 mu1 H1) {v : List (Str × V)} {d : List (Str × D)} (h : RpF T F al mu.length v d) : RpF T F1 al1 mu1.length v d := h.mono a.sub a.als a.ln
theorem Conc.mono {n n' : Nat} (s : ∀ a o, F a = some o → F1 a = some o) (e : ∀ k, k < n → al1 k = al k) (l : n ≤ n') {o : HO} {m : MO} (h : Conc T F al n o m) : Conc T F1 al1 n' o m := by
  cases o <;> cases m <;> first
    | exact False.elim h
    | exact RpL.mono s e l h
    | exact ⟨h.1, RpF.mono s e l h.2⟩
theorem Ext.conc (a : Ext T F al mu H F1 al1 mu1 H1) {o : HO} {m : MO} (h : Conc T F al mu.length o m) : Conc T F1 al1 mu1.length o m := h.mono a.sub a.als a.ln
theorem Wd.ext (w : Wd T F al sl mu σ H) (a : Ext T F al mu H F1 al1 mu1 H1) : Wd T F1 al1 sl mu1 σ H1 where
  toMus := a.mus
  len := w.len
  val := fun i d e => by
    obtain ⟨v, h1, h2⟩ := w.val i d e
    exact ⟨v, h1, a.rp h2⟩
  own := fun i m e => by
    obtain ⟨x, o, h1, h2, h3, h4, h5⟩ := w.own i m e
    refine ⟨x, o, h1, ?_, a.keep x o h3 h5, a.conc h4, fun k m' e' z => ?_⟩
    · cases q : F1 x with
      | none => rfl
      | some u =>
        rcases a.new x u q with h | h | ⟨k, m', e1, e2⟩
        · rw [h2] at h; cases h
        · rw [h3] at h; cases h
        · exact absurd e2 (h5 k m' e1)
    · rcases a.fresh k m' e' with ⟨m0, h⟩ | h
      · exact h5 k m0 h (by rw [← a.als k (lt_of_live h)]; exact z)
      · rw [z, h3] at h; cases h
  apart := w.apart
/-- a new object, frozen or not -/
theorem Mus.laidF (h : Mus T F al mu H) {p : Addr} {o : HO} (hp : H p = none) : Mus T (upd F p o) al mu (upd H p o) := by
  have hF : F p = none := by
    cases q : F p with
    | none => rfl
    | some u => rw [h.sub p u q] at hp; cases hp
  refine ⟨fun a u e => ?_, fun k m e => ?_, h.inj⟩
  · by_cases z : a = p
    · subst z; rw [upd_same] at e ⊢; exact e
    · rw [upd_ne z] at e ⊢; exact h.sub a u e
  · obtain ⟨h1, o', h2, h3⟩ := h.at_ k m e
    have ne : al k ≠ p := fun z => by rw [z, hp] at h2; cases h2
    refine ⟨by rw [upd_ne ne]; exact h1, o', by rw [upd_ne ne]; exact h2, h3.mono (fun a u e => ?_) (fun _ _ => rfl) (Nat.le_refl _)⟩
    rw [upd_ne (ne_of_none e hF)]; exact e
theorem Mus.laidH (h : Mus T F al mu H) {p : Addr} {o : HO} (hp : H p = none) : Mus T F al mu (upd H p o) := by
  refine ⟨fun a u e => ?_, fun k m e => ?_, h.inj⟩
  · rw [upd_ne (ne_of_none (h.sub a u e) hp)]; exact h.sub a u e
  · obtain ⟨h1, o', h2, h3⟩ := h.at_ k m e
    exact ⟨h1, o', by rw [upd_ne (ne_of_none h2 hp)]; exact h2, h3⟩
theorem there_upd {p : Addr} {o : HO} : ∀ a, upd H p o a = none → H a = none := fun a e => by
  by_cases z : a = p
  · subst z; rw [upd_same] at e; cases e
  · rw [upd_ne z] at e; exact e
theorem Ext.laidF (h : Mus T F al mu H) {p : Addr} {o : HO} (hp : H p = none) : Ext T F al mu H (upd F p o) al mu (upd H p o) := by
  have hF : F p = none := by
    cases q : F p with
    | none => rfl
    | some u => rw [h.sub p u q] at hp; cases hp
  refine ⟨h.laidF hp, fun a u e => by rw [upd_ne (ne_of_none e hF)]; exact e, fun a u e => ?_, fun a u e _ => by rw [upd_ne (ne_of_none e hp)]; exact e, there_upd, fun _ _ => rfl, Nat.le_refl _, fun k m e => .inl ⟨m, e⟩⟩
  by_cases z : a = p
  · subst z; exact .inr (.inl hp)
  · rw [upd_ne z] at e; exact .inl e
theorem Ext.laidH (h : Mus T F al mu H) {p : Addr} {o : HO} (hp : H p = none) : Ext T F al mu H F al mu (upd H p o) :=
  ⟨h.laidH hp, fun _ _ e => e, fun _ _ e => .inl e, fun a u e _ => by rw [upd_ne (ne_of_none e hp)]; exact e, there_upd, fun _ _ => rfl, Nat.le_refl _, fun k m e => .inl ⟨m, e⟩⟩
theorem Mus.F_none (h : Mus T F al mu H) {p : Addr} (hp : H p = none) : F p = none := by
  cases q : F p with
  | none => rfl
  | some u => rw [h.sub p u q] at hp; cases hp

/-! ### what a denotation's reading asks -/
/-- how an exception's fields stand -/
def ExR (T : Th) (F : Hp) (al : Nat → Addr) (n : Nat) (H : Hp) (d : Option Addr) (fs : List (Str × D)) : Prop :=
  fs = [] ∨ ∃ dx vs, d = some dx ∧ H dx = some (.xd vs) ∧ RpF T F al n vs fs
/-- the relation of what is handed on to what it stands for: the heap ahead, the frozen part, the store's places, the store, the heap -/
abbrev Rel (β α : Type) := Hp → Hp → (Nat → Addr) → Store → Hp → β → α → Prop
def Po {α β : Type} (T : Th) (W : WX) (F : Hp) (al : Nat → Addr) (mu : Store) (σ : St) (H : Hp) (R : Rel β α) (o : Out α) (Q : β → Hp → Prop) : Prop :=
  match o with
  | .ok d mu' => ∀ v F' al' H', Ext T F al mu H F' al' mu' H' → R H F' al' mu' H' v d → Q v H'
  | .ex c fs mu' => ∀ dx F' al' H', Ext T F al mu H F' al' mu' H' → ExR T F' al' mu'.length H' dx fs → W (.ref (T.cls c)) dx σ H'
  | .bad => False
def tG {α β : Type} (T : Th) (W : WX) (R : Rel β α) (f : Sl → Store → Out α) : St → Hp → (β → Hp → Prop) → Prop :=
  fun σ H Q => ∃ F al sl mu, Wd T F al sl mu σ H ∧ Po T W F al mu σ H R (f sl mu) Q
abbrev EF := Sl → Store → Out D
/-- data | a row of data | a new object | a truth value -/
def RD (T : Th) : Rel V D := fun _ F al mu _ v d => Rp T F al mu.length v d
def RLs (T : Th) : Rel (List V) (List D) := fun _ F al mu _ v d => RpL T F al mu.length v d
def RN (T : Th) : Rel V MO := fun H0 F al mu H v m => ∃ a o, v = .ref a ∧ H0 a = none ∧ F a = none ∧ H a = some o ∧ Conc T F al mu.length o m ∧ ∀ k m', mu[k]? = some (some m') → al k ≠ a
def RB : Rel Bool Bool := fun _ _ _ _ _ v d => v = d
abbrev tE (T : Th) (W : WX) (f : EF) : TE := tG T W (RD T) f

def obind {α β : Type} (o : Out α) (g : α → Store → Out β) : Out β :=
  match o with
  | .ok d mu => g d mu
  | .ex c fs mu => .ex c fs mu
  | .bad => .bad
/-- then -/
def dBind {α β : Type} (f : Sl → Store → Out α) (g : α → Sl → Store → Out β) : Sl → Store → Out β := fun sl mu => obind (f sl mu) fun d mu => g d sl mu
/-- a relation that does not mind an older heap ahead -/
def Back {α β : Type} (R : Rel β α) : Prop := ∀ H0 H1 F al mu H v d, (∀ a, H1 a = none → H0 a = none) → R H1 F al mu H v d → R H0 F al mu H v d
theorem back_RD : Back (RD T) := fun _ _ _ _ _ _ _ _ _ h => h
theorem back_RLs : Back (RLs T) := fun _ _ _ _ _ _ _ _ _ h => h
theorem back_RB : Back RB := fun _ _ _ _ _ _ _ _ _ h => h
theorem back_RN : Back (RN T) := fun _ _ _ _ _ _ _ _ e ⟨a, o, h1, h2, h3⟩ => ⟨a, o, h1, e a h2, h3⟩
section
variable {α β γ δ : Type} {W : WX} {R : Rel β α} {R2 : Rel δ γ}
theorem Po.step {o : Out γ} {Q : δ → Hp → Prop} (hb : Back R2) (x : Ext T F al mu H F1 al1 mu1 H1) (h : Po T W F al mu σ H R2 o Q) : Po T W F1 al1 mu1 σ H1 R2 o Q := by
  cases o with
  | ok d2 mu2 => exact fun v2 F2 al2 H2 x2 r => h v2 F2 al2 H2 (x.trans x2) (hb _ _ _ _ _ _ _ _ x.there r)
  | ex c fs mu2 => exact fun dx F2 al2 H2 x2 => h dx F2 al2 H2 (x.trans x2)
  | bad => exact h
/-- from a reading of a whole to that of its first part -/
theorem seqG (hb : Back R2) {f : Sl → Store → Out α} {o : Out γ} {g : α → Store → Out γ} {Q : δ → Hp → Prop} {P : β → Hp → Prop} (w : Wd T F al sl mu σ H) (h : Po T W F al mu σ H R2 o Q) (e : o = obind (f sl mu) g)
    (k : ∀ v d F1 al1 mu1 H1, Ext T F al mu H F1 al1 mu1 H1 → Wd T F1 al1 sl mu1 σ H1 → R H F1 al1 mu1 H1 v d → Po T W F1 al1 mu1 σ H1 R2 (g d mu1) Q → P v H1) : tG T W R f σ H P := by
  refine ⟨F, al, sl, mu, w, ?_⟩
  subst e
  cases q : f sl mu with
  | ok d mu1 =>
    rw [q] at h
    intro v F1 al1 H1 x r
    exact k v d F1 al1 mu1 H1 x (w.ext x) r (Po.step hb x (show Po T W F al mu σ H R2 (g d mu1) Q from h))
  | ex c fs mu1 => rw [q] at h; exact h
  | bad => rw [q] at h; exact h
theorem Po.here {d : α} {Q : β → Hp → Prop} {v : β} (h : Po T W F al mu σ H R (.ok d mu) Q) (m : Mus T F al mu H) (r : R H F al mu H v d) : Q v H := h v F al H (Ext.refl m) r
end
theorem PE.imp {X : Cx} {e : PySem.Expr} {t t' : TE} (h : PE X e t) (i : ∀ σ H Q, t' σ H Q → t σ H Q) : PE X e t' := ⟨fun pins s σ H Q I q => h.run pins s σ H Q I (i σ H Q q)⟩
theorem PT.imp {X : Cx} {e : PySem.Expr} {t t' : TT} (h : PT X e t) (i : ∀ σ H Q, t' σ H Q → t σ H Q) : PT X e t' := ⟨fun pins s σ H Q I q => h.run pins s σ H Q I (i σ H Q q)⟩
theorem PA.imp {X : Cx} {e : List PySem.Expr} {t t' : TA} (h : PA X e t) (i : ∀ σ H Q, t' σ H Q → t σ H Q) : PA X e t' := ⟨fun pos pins s σ H Q I q => h.run pos pins s σ H Q I (i σ H Q q)⟩
theorem PS.imp {X : Cx} {e : PySem.Stmt} {t t' : TS} (h : PS X e t) (i : ∀ D σ H, t' D σ H → t D σ H) : PS X e t' := ⟨fun pins s σ H D I q => h.run pins s σ H D I (i D σ H q)⟩
theorem PSs.imp {X : Cx} {e : List PySem.Stmt} {t t' : TS} (h : PSs X e t) (i : ∀ D σ H, t' D σ H → t D σ H) : PSs X e t' := ⟨fun pins s σ H D I q => h.run pins s σ H D I (i D σ H q)⟩

/-- a new object is frozen -/
def MO.d : MO → D
  | .lst l => .lst l
  | .dct l => .dct l
  | .ins c fs => .ins c fs
theorem Ext.freeze {a : Addr} {o : HO} (x : Ext T F al mu H F1 al1 mu1 H1) (h0 : H a = none) (h1 : F1 a = none) (h2 : H1 a = some o) (ne : ∀ k m', mu1[k]? = some (some m') → al1 k ≠ a) : Ext T F al mu H (upd F1 a o) al1 mu1 H1 := by
  have up : ∀ b u, F1 b = some u → upd F1 a o b = some u := fun b u e => by rw [upd_ne (ne_of_none e h1)]; exact e
  refine ⟨⟨fun b u e => ?_, fun k m e => ?_, x.mus.inj⟩, fun b u e => up b u (x.sub b u e), fun b u e => ?_, x.keep, x.there, x.als, x.ln, x.fresh⟩
  · by_cases z : b = a
    · subst z; rw [upd_same] at e; cases e; exact h2
    · rw [upd_ne z] at e; exact x.mus.sub b u e
  · obtain ⟨g1, o', g2, g3⟩ := x.mus.at_ k m e
    exact ⟨by rw [upd_ne (ne k m e)]; exact g1, o', g2, g3.mono up (fun _ _ => rfl) (Nat.le_refl _)⟩
  · by_cases z : b = a
    · subst z; exact .inr (.inl h0)
    · rw [upd_ne z] at e; exact x.new b u e
theorem rp_freeze {n : Nat} {a : Addr} {o : HO} {m : MO} (h1 : F a = none) (h : Conc T F al n o m) (k : ∀ kvs, m ≠ .dct kvs) : Rp T (upd F a o) al n (.ref a) m.d := by
  have up : ∀ b u, F b = some u → upd F a o b = some u := fun b u e => by rw [upd_ne (ne_of_none e h1)]; exact e
  cases o <;> cases m <;> first
    | exact False.elim h
    | exact .lst upd_same (RpL.mono up (fun _ _ => rfl) (Nat.le_refl _) h)
    | (obtain ⟨⟨h2, h4⟩, h3⟩ := h; subst h2; exact .ins h4 upd_same (RpF.mono up (fun _ _ => rfl) (Nat.le_refl _) h3))
end DL
end

section
set_option Elab.async false
set_option linter.all false
set_option maxRecDepth 100000
set_option maxHeartbeats 4000000
/-! DC: expressions, tests, arguments. -/
namespace DL
open PySem L2

abbrev BF := Sl → Store → Out Bool
abbrev LF := Sl → Store → Out (List D)
abbrev NF := Sl → Store → Out MO
abbrev Cx.th (X : Cx) (cl : Nat → Addr) : Th := ⟨X.K, cl⟩
abbrev DE (X : Cx) (cl : Nat → Addr) (W : WX) (e : PySem.Expr) (f : EF) : Prop := PE X e (tG (Cx.th X cl) W (RD (Cx.th X cl)) f)
abbrev DN (X : Cx) (cl : Nat → Addr) (W : WX) (e : PySem.Expr) (f : NF) : Prop := PE X e (tG (Cx.th X cl) W (RN (Cx.th X cl)) f)
abbrev DAs (X : Cx) (cl : Nat → Addr) (W : WX) (e : List PySem.Expr) (f : LF) : Prop := PA X e (tG (Cx.th X cl) W (RLs (Cx.th X cl)) f)
abbrev DT (X : Cx) (cl : Nat → Addr) (W : WX) (e : PySem.Expr) (f : BF) : Prop := PT X e (tG (Cx.th X cl) W RB f)
abbrev DW (X : Cx) (cl : Nat → Addr) (W : WX) (e : PySem.Expr) (f : BF) : Prop := PW X e (tG (Cx.th X cl) W RB f)

/-! ### denotations -/
def dVar (i : Nat) : EF := fun sl mu => match sl[i]? with
  | some (some (.val d)) => .ok d mu
  | _ => .bad
def dC (d : D) : EF := fun _ mu => .ok d mu
def dNil : LF := fun _ mu => .ok [] mu
def dCons (f : EF) (g : LF) : LF := dBind f fun d => dBind g fun ds _ mu => .ok (d :: ds) mu
def dTup (g : LF) : EF := dBind g fun ds _ mu => .ok (.tup ds) mu
def dLst (g : LF) : NF := dBind g fun ds _ mu => .ok (.lst ds) mu
def dFrz (f : NF) : EF := dBind f fun m _ mu => match m with
  | .dct _ => .bad
  | m => .ok m.d mu
def dOp1 (g : D → Option D) (f : EF) : EF := dBind f fun d _ mu => match g d with
  | some r => .ok r mu
  | none => .bad
def dOp2 (g : D → D → Option D) (fa fb : EF) : EF := dBind fa fun x => dBind fb fun y _ mu => match g x y with
  | some r => .ok r mu
  | none => .bad
def dCmp (g : D → D → Option Bool) (fa fb : EF) : BF := dBind fa fun x => dBind fb fun y _ mu => match g x y with
  | some r => .ok r mu
  | none => .bad
def dB2v (f : BF) : EF := dBind f fun b _ mu => .ok (.bl b) mu
def dTst (f : EF) : BF := dBind f fun d _ mu => match d with
  | .bl b => .ok b mu
  | _ => .bad
def dAnd (f g : BF) : BF := dBind f fun b sl mu => if b = true then g sl mu else .ok false mu
def dOr (f g : BF) : BF := dBind f fun b sl mu => if b = true then .ok true mu else g sl mu
def dNot (f : BF) : BF := dBind f fun b _ mu => .ok (!b) mu
def dIf {α : Type} (c : BF) (f g : Sl → Store → Out α) : Sl → Store → Out α := dBind c fun b sl mu => if b = true then f sl mu else g sl mu

/-! ### names, constants -/
section
variable {X : Cx} {cl : Nat → Addr} {W : WX} {a b e : PySem.Expr} {es rest : List PySem.Expr} {fa fb f : EF} {pos : Pos}
theorem de_var {i : Nat} (h : PE X e (tVar i)) : DE X cl W e (dVar i) := by
  refine PE.imp h fun σ H Q q => ?_
  obtain ⟨F, al, sl, mu, w, po⟩ := q
  unfold dVar at po
  split at po
  · rename_i d hd
    obtain ⟨v, h1, h2⟩ := w.val i d hd
    exact ⟨v, h1, Po.here po w.toMus h2⟩
  · exact False.elim po
theorem de_c {v : V} {d : D} (h : PE X e (tC v)) (r : ∀ F al n, Rp (Cx.th X cl) F al n v d) : DE X cl W e (dC d) := by
  refine PE.imp h fun σ H Q q => ?_
  obtain ⟨F, al, sl, mu, w, po⟩ := q
  exact Po.here po w.toMus (r F al _)
theorem de_int {i : Int} {j : Nat} : DE X cl W (.Constant (.int i) j pos) (dC (.int i)) := de_c pe_int fun _ _ _ => .int i
theorem de_bl {i : Bool} {j : Nat} : DE X cl W (.Constant (.bool i) j pos) (dC (.bl i)) := de_c pe_bl fun _ _ _ => .bl i
theorem de_non {j : Nat} : DE X cl W (.Constant .none j pos) (dC .non) := de_c pe_non fun _ _ _ => .non
theorem de_str {x : Str} {j : Nat} : DE X cl W (.Constant (.str x) j pos) (dC (.str x)) := de_c pe_str fun _ _ _ => .str x

/-! ### arguments, displays -/
theorem da_nil : DAs X cl W [] dNil := PA.imp pa_nil fun σ H Q q => by
  obtain ⟨F, al, sl, mu, w, po⟩ := q
  exact Po.here po w.toMus .nil
theorem da_cons {g : LF} (ha : DE X cl W a fa) (hr : DAs X cl W es g) (hs : starEach (a :: es) X.env = (false, eval a X.env) :: starEach es X.env := by rfl) : DAs X cl W (a :: es) (dCons fa g) :=
  PA.imp (pa_cons ha hr hs) fun σ H Q q => by
    obtain ⟨F, al, sl, mu, w, po⟩ := q
    refine seqG back_RLs w po rfl fun v d F1 al1 mu1 H1 x1 w1 r1 po1 => ?_
    refine seqG back_RLs w1 po1 rfl fun vs ds F2 al2 mu2 H2 x2 w2 r2 po2 => ?_
    exact Po.here po2 w2.toMus (.cons (x2.rp r1) r2)
theorem RpL.len {T : Th} {F : Hp} {al : Nat → Addr} {n : Nat} : ∀ {vs : List V} {ds : List D}, RpL T F al n vs ds → vs.length = ds.length
  | [], [], _ => rfl
  | v :: vs, d :: ds, h => by
    cases h with
    | cons _ h2 => rw [List.length_cons, List.length_cons, RpL.len h2]
  | [], d :: ds, h => by cases h
  | v :: vs, [], h => by cases h
def Len (g : LF) (n : Nat) : Prop := ∀ sl mu ds mu', g sl mu = .ok ds mu' → ds.length = n
theorem len_nil : Len dNil 0 := fun sl mu ds mu' h => by cases h; rfl
theorem len_cons {g : LF} {n : Nat} (h : Len g n) : Len (dCons fa g) (n + 1) := fun sl mu ds mu' e => by
  unfold dCons dBind obind at e
  split at e
  · rename_i d mu1 _
    dsimp only at e
    split at e
    · rename_i ds1 mu2 e2
      cases e
      rw [List.length_cons, h _ _ _ _ e2]
    · cases e
    · cases e
  · cases e
  · cases e
theorem le_line {n : Nat} (h : n ≤ 10000) : n ≤ sizeLine := by rw [sizeLine_eq]; omega
theorem de_tup {g : LF} {n k : Nat} (ha : DAs X cl W es g) (hl : Len g n) (hn : n ≤ 10000 := by decide) : DE X cl W (.Tuple es k pos) (dTup g) :=
  PE.imp (pe_tup ha) fun σ H Q q => by
    obtain ⟨F, al, sl, mu, w, po⟩ := q
    refine ⟨F, al, sl, mu, w, ?_⟩
    unfold dTup dBind obind at po
    cases q : g sl mu with
    | ok ds mu1 =>
      rw [q] at po
      intro vs F1 al1 H1 x r
      refine ⟨by rw [RpL.len r, hl _ _ _ _ q]; exact le_line hn, fun p hp => ?_⟩
      have x2 := x.trans (Ext.laidF x.mus (o := .tup vs) hp)
      exact po _ _ _ _ x2 (.tup upd_same ((Ext.laidF x.mus hp).rpL r))
    | ex c fs mu1 => rw [q] at po; exact po
    | bad => rw [q] at po; exact po
theorem Mus.ne_laid {T : Th} {F : Hp} {al : Nat → Addr} {mu : Store} {H : Hp} {p : Addr} (m : Mus T F al mu H) (hp : H p = none) : ∀ k m', mu[k]? = some (some m') → al k ≠ p := fun k m' e z => by
  obtain ⟨_, o, h, _⟩ := m.at_ k m' e
  rw [z, hp] at h; cases h
theorem dn_lst {g : LF} {n : Nat} (ha : DAs X cl W es g) (hl : Len g n) (hn : n ≤ 10000 := by decide) : DN X cl W (.List es pos) (dLst g) :=
  PE.imp (pe_lst ha) fun σ H Q q => by
    obtain ⟨F, al, sl, mu, w, po⟩ := q
    refine ⟨F, al, sl, mu, w, ?_⟩
    unfold dLst dBind obind at po
    cases q : g sl mu with
    | ok ds mu1 =>
      rw [q] at po
      intro vs F1 al1 H1 x r
      refine ⟨by rw [RpL.len r, hl _ _ _ _ q]; exact le_line hn, fun p hp => ?_⟩
      have x2 := x.trans (Ext.laidH x.mus (o := .lst vs) hp)
      exact po _ _ _ _ x2 ⟨p, _, rfl, x.there p hp, x.mus.F_none hp, upd_same, r, Mus.ne_laid x.mus hp⟩
    | ex c fs mu1 => rw [q] at po; exact po
    | bad => rw [q] at po; exact po
/-- a new object, frozen at once -/
theorem de_frz {f : NF} (h : DN X cl W e f) : DE X cl W e (dFrz f) := PE.imp h fun σ H Q q => by
  obtain ⟨F, al, sl, mu, w, po⟩ := q
  refine ⟨F, al, sl, mu, w, ?_⟩
  unfold dFrz dBind obind at po
  cases q : f sl mu with
  | ok m mu1 =>
    rw [q] at po
    intro v F1 al1 H1 x r
    obtain ⟨a, o, rfl, h0, h1, h2, h3, h4⟩ := r
    have x2 := x.freeze h0 h1 h2 h4
    cases m with
    | dct kvs => exact False.elim po
    | lst l => exact po _ _ _ _ x2 (rp_freeze (m := .lst l) h1 h3 fun _ z => nomatch z)
    | ins c fs => exact po _ _ _ _ x2 (rp_freeze (m := .ins c fs) h1 h3 fun _ z => nomatch z)
  | ex c fs mu1 => rw [q] at po; exact po
  | bad => rw [q] at po; exact po

/-! ### operators -/
def Pur2 (T : Th) (r : R2) (g : D → D → Option D) : Prop := ∀ (F : Hp) (al : Nat → Addr) (mu : Store) (H : Hp), Mus T F al mu H → ∀ (x y : V) (d e res : D), Rp T F al mu.length x d → Rp T F al mu.length y e → g d e = some res → ∀ Q : VK,
  (∀ v F' H', Ext T F al mu H F' al mu H' → Rp T F' al mu.length v res → Q v H') → r x y H Q
def PurB (T : Th) (r : R2) (g : D → D → Option Bool) : Prop := ∀ (F : Hp) (al : Nat → Addr) (mu : Store) (H : Hp), Mus T F al mu H → ∀ (x y : V) (d e : D) (res : Bool), Rp T F al mu.length x d → Rp T F al mu.length y e → g d e = some res → ∀ Q : VK,
  Q (.bl res) H → r x y H Q
theorem tOp_of {r : R2} {g : D → D → Option D} (hr : Pur2 (Cx.th X cl) r g) {σ : St} {H : Hp} {Q : VK} (q : tG (Cx.th X cl) W (RD (Cx.th X cl)) (dOp2 g fa fb) σ H Q) : tOp r (tG (Cx.th X cl) W (RD (Cx.th X cl)) fa) (tG (Cx.th X cl) W (RD (Cx.th X cl)) fb) σ H Q := by
  obtain ⟨F, al, sl, mu, w, po⟩ := q
  refine seqG back_RD w po rfl fun v d F1 al1 mu1 H1 x1 w1 r1 po1 => ?_
  refine seqG back_RD w1 po1 rfl fun u e F2 al2 mu2 H2 x2 w2 r2 po2 => ?_
  dsimp only at po2
  cases z : g d e with
  | none => rw [z] at po2; exact False.elim po2
  | some res =>
    rw [z] at po2
    exact hr F2 al2 mu2 H2 w2.toMus v u d e res (x2.rp r1) r2 z Q fun v' F' H' x' r' => po2 v' F' al2 H' x' r'
theorem de_op {op : Operator} {r : R2} {g : D → D → Option D} (ho : OpR X (binaryOp op) r) (hr : Pur2 (Cx.th X cl) r g) (ha : DE X cl W a fa) (hb : DE X cl W b fb) : DE X cl W (.BinOp a op b pos) (dOp2 g fa fb) :=
  PE.imp (pe_op ho ha hb) fun σ H Q q => tOp_of hr q
theorem tCmp_of {r : R2} {g : D → D → Option Bool} (hr : PurB (Cx.th X cl) r g) {σ : St} {H : Hp} {Q : VK} (q : tG (Cx.th X cl) W (RD (Cx.th X cl)) (dB2v (dCmp g fa fb)) σ H Q) : tOp r (tG (Cx.th X cl) W (RD (Cx.th X cl)) fa) (tG (Cx.th X cl) W (RD (Cx.th X cl)) fb) σ H Q := by
  have q' : tG (Cx.th X cl) W (RD (Cx.th X cl)) (dOp2 (fun x y => (g x y).map D.bl) fa fb) σ H Q := by
    have e : dB2v (dCmp g fa fb) = dOp2 (fun x y => (g x y).map D.bl) fa fb := by
      funext sl mu
      unfold dB2v dCmp dOp2 dBind obind
      cases fa sl mu with
      | ok x mu1 =>
        dsimp only
        cases fb sl mu1 with
        | ok y mu2 => dsimp only; cases g x y <;> rfl
        | ex _ _ _ => rfl
        | bad => rfl
      | ex _ _ _ => rfl
      | bad => rfl
    rw [← e]; exact q
  refine tOp_of (g := fun x y => (g x y).map D.bl) (fun F al mu H m x y d e res rx ry z Q k => ?_) q'
  obtain ⟨b, h1, rfl⟩ := Option.map_eq_some_iff.mp z
  exact hr F al mu H m x y d e b rx ry h1 Q (k _ _ _ (Ext.refl m) (.bl b))
theorem de_cmp {op : CmpOp} {r : R2} {g : D → D → Option Bool} (ho : OpR X (compareOp op) r) (hm : behindInMarks op b = false) (hr : PurB (Cx.th X cl) r g) (ha : DE X cl W a fa) (hb : DE X cl W b fb) : DE X cl W (.Compare a [op] [b] pos) (dB2v (dCmp g fa fb)) :=
  PE.imp (pe_cmpR ho ha hb hm) fun σ H Q q => tCmp_of hr q

/-! ### tests -/
theorem tB2v {f : BF} {σ : St} {H : Hp} {Q : Bool → Hp → Prop} (q : tG (Cx.th X cl) W RB f σ H Q) : tG (Cx.th X cl) W (RD (Cx.th X cl)) (dB2v f) σ H fun x H' => ∃ c, x = .bl c ∧ Q c H' := by
  obtain ⟨F, al, sl, mu, w, po⟩ := q
  refine ⟨F, al, sl, mu, w, ?_⟩
  unfold dB2v dBind obind
  cases z : f sl mu with
  | ok b mu1 =>
    rw [z] at po
    intro v F1 al1 H1 x r
    cases r
    exact ⟨b, rfl, po b F1 al1 H1 x rfl⟩
  | ex c fs mu1 => rw [z] at po; exact po
  | bad => rw [z] at po; exact po
theorem tTst {f : EF} {σ : St} {H : Hp} {Q : Bool → Hp → Prop} (q : tG (Cx.th X cl) W RB (dTst f) σ H Q) : tG (Cx.th X cl) W (RD (Cx.th X cl)) f σ H fun x H' => ∃ c, x = .bl c ∧ Q c H' := by
  obtain ⟨F, al, sl, mu, w, po⟩ := q
  refine seqG back_RB w po rfl fun v d F1 al1 mu1 H1 x1 w1 r1 po1 => ?_
  cases d <;> first
    | exact False.elim po1
    | (cases r1; exact ⟨_, rfl, Po.here po1 w1.toMus rfl⟩)
theorem dt_cmp {f : BF} (h : DE X cl W e (dB2v f)) (he : ∀ whole, isTrue e X.env whole = (do let v ← whole; standAt e.pos; holding [v] (truthy v)) := by intro _; rfl) : DT X cl W e f := PT.imp (pt_val h he) fun σ H Q q => tB2v q
theorem dt_val {f : EF} (h : DE X cl W e f) (he : ∀ whole, isTrue e X.env whole = (do let v ← whole; standAt e.pos; holding [v] (truthy v)) := by intro _; rfl) : DT X cl W e (dTst f) := PT.imp (pt_val h he) fun σ H Q q => tTst q
theorem PW.imp {t t' : TT} (h : PW X e t) (i : ∀ σ H Q, t' σ H Q → t σ H Q) : PW X e t' := ⟨fun whole pins s σ H Q I q => h.run whole pins s σ H Q I (i σ H Q q)⟩
theorem dw_and1 {f : BF} (h : DT X cl W a f) : DW X cl W (.BoolOp .And [a] pos) f := pw_and1 h
theorem dw_or1 {f : BF} (h : DT X cl W a f) : DW X cl W (.BoolOp .Or [a] pos) f := pw_or1 h
theorem dw_and {f g : BF} (h : DT X cl W a f) (hr : DW X cl W (.BoolOp .And (b :: rest) pos) g) : DW X cl W (.BoolOp .And (a :: b :: rest) pos) (dAnd f g) :=
  PW.imp (pw_and h hr) fun σ H Q q => by
    obtain ⟨F, al, sl, mu, w, po⟩ := q
    refine seqG back_RB w po rfl fun v d F1 al1 mu1 H1 x1 w1 r1 po1 => ?_
    cases r1
    dsimp only at po1
    split
    · rename_i hb
      rw [if_pos hb] at po1
      exact ⟨_, _, _, _, w1, po1⟩
    · rename_i hb
      rw [if_neg hb] at po1
      exact Po.here po1 w1.toMus rfl
theorem dw_or {f g : BF} (h : DT X cl W a f) (hr : DW X cl W (.BoolOp .Or (b :: rest) pos) g) : DW X cl W (.BoolOp .Or (a :: b :: rest) pos) (dOr f g) :=
  PW.imp (pw_or h hr) fun σ H Q q => by
    obtain ⟨F, al, sl, mu, w, po⟩ := q
    refine seqG back_RB w po rfl fun v d F1 al1 mu1 H1 x1 w1 r1 po1 => ?_
    cases r1
    dsimp only at po1
    split
    · rename_i hb
      rw [if_pos hb] at po1
      exact Po.here po1 w1.toMus rfl
    · rename_i hb
      rw [if_neg hb] at po1
      exact ⟨_, _, _, _, w1, po1⟩
theorem dt_w {f : BF} (h : DW X cl W e f) : DT X cl W e f := PW.pt h
theorem dt_not {f : BF} (h : DT X cl W a f) : DT X cl W (.UnaryOp .Not a pos) (dNot f) := PT.imp (pt_not h) fun σ H Q q => by
  obtain ⟨F, al, sl, mu, w, po⟩ := q
  refine seqG back_RB w po rfl fun v d F1 al1 mu1 H1 x1 w1 r1 po1 => ?_
  cases r1
  exact Po.here po1 w1.toMus rfl
/-- the same as values -/
theorem de_one {op : PySem.BoolOp} {f : BF} (h : DE X cl W a (dB2v f)) : DE X cl W (.BoolOp op [a] pos) (dB2v f) := pe_one h
theorem b2v_tst {f : BF} : dTst (dB2v f) = f := by
  funext sl mu
  unfold dTst dB2v dBind obind
  cases f sl mu <;> rfl
theorem tTst' {f : BF} {g : BF} {σ : St} {H : Hp} {Q : VK} {k : Bool → Bool → Prop} (q : tG (Cx.th X cl) W RB f σ H (fun c H' => Q (.bl c) H')) : tG (Cx.th X cl) W (RD (Cx.th X cl)) (dB2v f) σ H Q := by
  obtain ⟨F, al, sl, mu, w, po⟩ := tB2v q
  refine ⟨F, al, sl, mu, w, ?_⟩
  cases z : dB2v f sl mu with
  | ok d mu1 =>
    rw [z] at po
    intro v F1 al1 H1 x r
    obtain ⟨c, rfl, h⟩ := po v F1 al1 H1 x r
    exact h
  | ex c fs mu1 => rw [z] at po; exact po
  | bad => rw [z] at po; exact po
theorem tV2B {f : BF} {σ : St} {H : Hp} {Q : VK} (q : tG (Cx.th X cl) W (RD (Cx.th X cl)) (dB2v f) σ H Q) : tG (Cx.th X cl) W RB f σ H (fun c H' => Q (.bl c) H') := by
  obtain ⟨F, al, sl, mu, w, po⟩ := q
  refine ⟨F, al, sl, mu, w, ?_⟩
  unfold dB2v dBind obind at po
  cases z : f sl mu with
  | ok b mu1 =>
    rw [z] at po
    intro v F1 al1 H1 x r
    cases r
    exact po _ F1 al1 H1 x (.bl _)
  | ex c fs mu1 => rw [z] at po; exact po
  | bad => rw [z] at po; exact po
theorem de_and {f g : BF} (h : DE X cl W a (dB2v f)) (hr : DE X cl W (.BoolOp .And (b :: rest) pos) (dB2v g)) : DE X cl W (.BoolOp .And (a :: b :: rest) pos) (dB2v (dAnd f g)) :=
  PE.imp (pe_and h hr) fun σ H Q q => by
    obtain ⟨F, al, sl, mu, w, po⟩ := tV2B q
    refine tB2v (Q := fun c H' => if c = true then tG (Cx.th X cl) W (RD (Cx.th X cl)) (dB2v g) σ H' Q else Q (.bl false) H') ?_
    refine seqG back_RB w po rfl fun v d F1 al1 mu1 H1 x1 w1 r1 po1 => ?_
    cases r1
    dsimp only at po1
    split
    · rename_i hb
      rw [if_pos hb] at po1
      exact tTst' (g := g) (k := fun _ _ => True) ⟨_, _, _, _, w1, po1⟩
    · rename_i hb
      rw [if_neg hb] at po1
      exact Po.here (R := RB) (Q := fun c H' => Q (.bl c) H') po1 w1.toMus rfl
theorem de_or {f g : BF} (h : DE X cl W a (dB2v f)) (hr : DE X cl W (.BoolOp .Or (b :: rest) pos) (dB2v g)) : DE X cl W (.BoolOp .Or (a :: b :: rest) pos) (dB2v (dOr f g)) :=
  PE.imp (pe_or h hr) fun σ H Q q => by
    obtain ⟨F, al, sl, mu, w, po⟩ := tV2B q
    refine tB2v (Q := fun c H' => if c = true then Q (.bl true) H' else tG (Cx.th X cl) W (RD (Cx.th X cl)) (dB2v g) σ H' Q) ?_
    refine seqG back_RB w po rfl fun v d F1 al1 mu1 H1 x1 w1 r1 po1 => ?_
    cases r1
    dsimp only at po1
    split
    · rename_i hb
      rw [if_pos hb] at po1
      exact Po.here (R := RB) (Q := fun c H' => Q (.bl c) H') po1 w1.toMus rfl
    · rename_i hb
      rw [if_neg hb] at po1
      exact tTst' (g := g) (k := fun _ _ => True) ⟨_, _, _, _, w1, po1⟩
theorem de_not {f : BF} (h : DE X cl W a (dB2v f)) : DE X cl W (.UnaryOp .Not a pos) (dB2v (dNot f)) := PE.imp (pe_not h) fun σ H Q q => by
  obtain ⟨F, al, sl, mu, w, po⟩ := tV2B q
  refine tB2v (Q := fun c H' => Q (.bl (!c)) H') ?_
  refine seqG back_RB w po rfl fun v d F1 al1 mu1 H1 x1 w1 r1 po1 => ?_
  cases r1
  exact Po.here (R := RB) (Q := fun c H' => Q (.bl c) H') po1 w1.toMus rfl
/-- a call that gives a truth value, as an operand of and, or, not -/
theorem de_tst {f : EF} (h : DE X cl W e f) : DE X cl W e (dB2v (dTst f)) := PE.imp h fun σ H Q q => by
  obtain ⟨F, al, sl, mu, w, po⟩ := tV2B q
  refine seqG back_RB w po rfl fun v d F1 al1 mu1 H1 x1 w1 r1 po1 => ?_
  cases d <;> first
    | exact False.elim po1
    | (cases r1; exact Po.here (R := RB) (Q := fun c H' => Q (.bl c) H') po1 w1.toMus rfl)
theorem de_if {c : PySem.Expr} {f : BF} (hc : DT X cl W c f) (ha : DE X cl W a fa) (hb : DE X cl W b fb) : DE X cl W (.IfExp c a b pos) (dIf f fa fb) :=
  PE.imp (pe_ifExp hc ha hb) fun σ H Q q => by
    obtain ⟨F, al, sl, mu, w, po⟩ := q
    refine seqG back_RD w po rfl fun v d F1 al1 mu1 H1 x1 w1 r1 po1 => ?_
    cases r1
    dsimp only at po1
    split
    · rename_i hb
      rw [if_pos hb] at po1
      exact ⟨_, _, _, _, w1, po1⟩
    · rename_i hb
      rw [if_neg hb] at po1
      exact ⟨_, _, _, _, w1, po1⟩
end
end DL
end

section
set_option Elab.async false
set_option linter.all false
set_option maxRecDepth 100000
set_option maxHeartbeats 4000000
/-! DD: calls of defs, statements, loops. -/
namespace DL
open PySem L2

/-! ### what a def promises -/
abbrev FF := List D → Store → Out D
def spD (T : Th) (np : Nat) (p : FF) : Sp := fun vs H Q E => ∃ F al mu ds, Mus T F al mu H ∧ RpL T F al mu.length vs ds ∧ ds.length = np ∧ Po T (fun c d _ H' => E c d H') F al mu [] H (RD T) (p ds mu) Q
structure Gf (P : Program) (w : World) (K : PySem.W.Frag) (mg : Str → Option Value) (base : Heap) (cl : Nat → Addr) (k : Nat) (x : Str) (np : Nat) (p : FF) : Prop where
  ex : ∃ (f : Addr) (fd : FuncData) (ps : List Str), FnOk P w K mg base (L2.CX P w) k f fd ps (spD ⟨K, cl⟩ np p) ∧ mg x = some (.ref f) ∧ PySem.W.keepIn K (.ref f) = true ∧ L2.Binds K fd ps []
def dCall (p : FF) (g : LF) : EF := dBind g fun ds _ mu => p ds mu
section
variable {X : Cx} {cl : Nat → Addr} {W : WX} {a b e : PySem.Expr} {es rest : List PySem.Expr} {fa fb f : EF} {pos p1 : Pos} {k np : Nat} {x : Str} {p : FF}
theorem Po.wish {α β : Type} {T : Th} {W1 W2 : WX} {F : Hp} {al : Nat → Addr} {mu : Store} {σ τ : St} {H : Hp} {R : Rel β α} {o : Out α} {Q : β → Hp → Prop} (h : Po T W1 F al mu σ H R o Q) (i : ∀ c d H', W1 c d σ H' → W2 c d τ H') : Po T W2 F al mu τ H R o Q := by
  cases o with
  | ok d mu' => exact h
  | ex c fs mu' => exact fun dx F' al' H' x r => i _ _ _ (h dx F' al' H' x r)
  | bad => exact h
theorem de_call {g : LF} (c : Gf X.prog X.w X.K X.mg X.base cl k x np p) (hr : Room k X.A) (hg : Gl X x) (tk : Takes X W) (ha : DAs X cl W (e :: es) g) (hl : Len g np) (hdb : (x == ("__debug__" : Str)) = false := by decide)
    (he : starEach (e :: es) X.env = (false, eval e X.env) :: starEach es X.env := by rfl) (hpl : (backTo pos (starEach es X.env)).any (·.1) = false := by rfl) : DE X cl W (.Call (.Name x p1) (e :: es) [] pos) (dCall p g) := by
  obtain ⟨f, fd, ps, hf, hm, hk, hb⟩ := c.ex
  refine PE.imp (pe_callS (E := WE W) hf hr hg hm hk hb (passAt tk) ha hdb he hpl) fun σ H Q q => ?_
  obtain ⟨F, al, sl, mu, w, po⟩ := q
  refine ⟨F, al, sl, mu, w, ?_⟩
  unfold dCall dBind obind at po
  cases z : g sl mu with
  | ok ds mu1 =>
    rw [z] at po
    intro vs F1 al1 H1 x1 r1
    exact ⟨F1, al1, mu1, ds, x1.mus, r1, hl _ _ _ _ z, Po.wish (Po.step back_RD x1 po) fun _ _ _ h => h⟩
  | ex c fs mu1 => rw [z] at po; exact po
  | bad => rw [z] at po; exact po
end

/-! ### statements -/
abbrev SF := Sl → Store → OutS
/-- where the frame began -/
structure En where
  F : Hp
  al : Nat → Addr
  mu : Store
  H : Hp
def OwnNew (n : En) (sl : Sl) (σ : St) : Prop := ∀ (i : Nat) m a, sl[i]? = some (some (SV.own m)) → σ[i]? = some (some (V.ref a)) → n.H a = none
structure W3 (T : Th) (n : En) (F : Hp) (al : Nat → Addr) (sl : Sl) (mu : Store) (σ : St) (H : Hp) : Prop where
  x : Ext T n.F n.al n.mu n.H F al mu H
  w : Wd T F al sl mu σ H
  o : OwnNew n sl σ
/-- the frozen part grows, the store's places stay -/
structure Gr (F : Hp) (al : Nat → Addr) (mu : Store) (F' : Hp) (al' : Nat → Addr) (mu' : Store) : Prop where
  sub : ∀ a o, F a = some o → F' a = some o
  als : ∀ k, k < mu.length → al' k = al k
  ln : mu.length ≤ mu'.length
theorem Gr.refl {F : Hp} {al : Nat → Addr} {mu : Store} : Gr F al mu F al mu := ⟨fun _ _ h => h, fun _ _ => rfl, Nat.le_refl _⟩
theorem Gr.trans {F F1 F2 : Hp} {al al1 al2 : Nat → Addr} {mu mu1 mu2 : Store} (a : Gr F al mu F1 al1 mu1) (b : Gr F1 al1 mu1 F2 al2 mu2) : Gr F al mu F2 al2 mu2 :=
  ⟨fun x o h => b.sub x o (a.sub x o h), fun k h => (b.als k (Nat.lt_of_lt_of_le h a.ln)).trans (a.als k h), Nat.le_trans a.ln b.ln⟩
theorem Ext.gr {T : Th} {F F1 H H1 : Hp} {al al1 : Nat → Addr} {mu mu1 : Store} (x : Ext T F al mu H F1 al1 mu1 H1) : Gr F al mu F1 al1 mu1 := ⟨x.sub, x.als, x.ln⟩
def PoS (T : Th) (W : WX) (n : En) (F : Hp) (al : Nat → Addr) (mu : Store) (Z : Ends) (o : OutS) : Prop :=
  match o with
  | .nx sl' mu' => ∀ σ' F' al' H', Gr F al mu F' al' mu' → W3 T n F' al' sl' mu' σ' H' → Z.nx σ' H'
  | .bk sl' mu' => ∀ σ' F' al' H', Gr F al mu F' al' mu' → W3 T n F' al' sl' mu' σ' H' → Z.bk σ' H'
  | .ct sl' mu' => ∀ σ' F' al' H', Gr F al mu F' al' mu' → W3 T n F' al' sl' mu' σ' H' → Z.ct σ' H'
  | .rt d mu' => ∀ v F' al' H', Gr F al mu F' al' mu' → Ext T n.F n.al n.mu n.H F' al' mu' H' → Rp T F' al' mu'.length v d → Z.rt v H'
  | .ex c fs sl' mu' => ∀ dx σ' F' al' H', Gr F al mu F' al' mu' → W3 T n F' al' sl' mu' σ' H' → ExR T F' al' mu'.length H' dx fs → W (.ref (T.cls c)) dx σ' H'
  | .bad => False
def tS (T : Th) (W : WX) (n : En) (g : SF) : TS := fun Z σ H => ∃ F al sl mu, W3 T n F al sl mu σ H ∧ PoS T W n F al mu Z (g sl mu)
abbrev DS (X : Cx) (cl : Nat → Addr) (W : WX) (n : En) (st : PySem.Stmt) (g : SF) : Prop := PS X st (tS (Cx.th X cl) W n g)
abbrev DSs (X : Cx) (cl : Nat → Addr) (W : WX) (n : En) (st : List PySem.Stmt) (g : SF) : Prop := PSs X st (tS (Cx.th X cl) W n g)
def sbind {α : Type} (o : Out α) (sl : Sl) (g : α → Store → OutS) : OutS :=
  match o with
  | .ok d mu => g d mu
  | .ex c fs mu => .ex c fs sl mu
  | .bad => .bad
section
variable {T : Th} {W : WX} {n : En} {F F1 H H1 : Hp} {al al1 : Nat → Addr} {mu mu1 : Store} {sl : Sl} {σ : St} {Z : Ends}
theorem W3.ext (w : W3 T n F al sl mu σ H) (x : Ext T F al mu H F1 al1 mu1 H1) : W3 T n F1 al1 sl mu1 σ H1 := ⟨w.x.trans x, w.w.ext x, w.o⟩
theorem PoS.step {o : OutS} (g : Gr F al mu F1 al1 mu1) (h : PoS T W n F al mu Z o) : PoS T W n F1 al1 mu1 Z o := by
  cases o with
  | nx sl' mu' => exact fun σ' F' al' H' g' => h σ' F' al' H' (g.trans g')
  | bk sl' mu' => exact fun σ' F' al' H' g' => h σ' F' al' H' (g.trans g')
  | ct sl' mu' => exact fun σ' F' al' H' g' => h σ' F' al' H' (g.trans g')
  | rt d mu' => exact fun v F' al' H' g' => h v F' al' H' (g.trans g')
  | ex c fs sl' mu' => exact fun dx σ' F' al' H' g' => h dx σ' F' al' H' (g.trans g')
  | bad => exact h
/-- an expression ahead of the rest of a statement -/
theorem seqS {α β : Type} {R : Rel β α} {f : Sl → Store → Out α} {o : OutS} {g : α → Store → OutS} {P : β → Hp → Prop} (w : W3 T n F al sl mu σ H) (h : PoS T W n F al mu Z o) (e : o = sbind (f sl mu) sl g)
    (k : ∀ v d F1 al1 mu1 H1, Ext T F al mu H F1 al1 mu1 H1 → W3 T n F1 al1 sl mu1 σ H1 → R H F1 al1 mu1 H1 v d → PoS T W n F1 al1 mu1 Z (g d mu1) → P v H1) : tG T W R f σ H P := by
  refine ⟨F, al, sl, mu, w.w, ?_⟩
  subst e
  cases q : f sl mu with
  | ok d mu1 =>
    rw [q] at h
    intro v F1 al1 H1 x r
    exact k v d F1 al1 mu1 H1 x (w.ext x) r (PoS.step x.gr (show PoS T W n F al mu Z (g d mu1) from h))
  | ex c fs mu1 =>
    rw [q] at h
    intro dx F1 al1 H1 x r
    exact h dx σ F1 al1 H1 x.gr (w.ext x) r
  | bad => rw [q] at h; exact h
theorem PoS.nx {sl' : Sl} {mu' : Store} (h : PoS T W n F al mu Z (.nx sl' mu')) {σ' : St} (w : W3 T n F al sl' mu' σ' H) (e : mu.length ≤ mu'.length := by exact Nat.le_refl _) : Z.nx σ' H := h σ' F al H ⟨fun _ _ h => h, fun _ _ => rfl, e⟩ w
/-- another end -/
theorem PoS.ends {o : OutS} {Z' : Ends} (h : PoS T W n F al mu Z o) (h1 : ∀ σ H, Z.nx σ H → Z'.nx σ H) (h2 : ∀ v H, Z.rt v H → Z'.rt v H) (h3 : ∀ σ H, Z.bk σ H → Z'.bk σ H) (h4 : ∀ σ H, Z.ct σ H → Z'.ct σ H) : PoS T W n F al mu Z' o := by
  cases o with
  | nx sl' mu' => exact fun σ' F' al' H' g w => h1 _ _ (h σ' F' al' H' g w)
  | bk sl' mu' => exact fun σ' F' al' H' g w => h3 _ _ (h σ' F' al' H' g w)
  | ct sl' mu' => exact fun σ' F' al' H' g w => h4 _ _ (h σ' F' al' H' g w)
  | rt d mu' => exact fun v F' al' H' g w r => h2 _ _ (h v F' al' H' g w r)
  | ex c fs sl' mu' => exact h
  | bad => exact h
end

/-! ### denotations of statements -/
def sSkip : SF := fun sl mu => .nx sl mu
def sExpr (f : EF) : SF := fun sl mu => sbind (f sl mu) sl fun _ mu => .nx sl mu
def sAsg (i : Nat) (f : EF) : SF := fun sl mu => sbind (f sl mu) sl fun d mu => .nx (sl.set i (some (.val d))) mu
def sOwn (i : Nat) (f : NF) : SF := fun sl mu => sbind (f sl mu) sl fun m mu => .nx (sl.set i (some (.own m))) mu
def sRet (f : EF) : SF := fun sl mu => sbind (f sl mu) sl fun d mu => .rt d mu
def sRetN : SF := fun _ mu => .rt .non mu
def sIf (c : BF) (s t : SF) : SF := fun sl mu => sbind (c sl mu) sl fun b mu => if b = true then s sl mu else t sl mu
def snext (o : OutS) (t : SF) : OutS := match o with
  | .nx sl mu => t sl mu
  | o => o
def sSeq (s t : SF) : SF := fun sl mu => snext (s sl mu) t
def sBrk : SF := fun sl mu => .bk sl mu
def sCnt : SF := fun sl mu => .ct sl mu
/-- a slot's own object is frozen -/
def sFz (i : Nat) (s : SF) : SF := fun sl mu => match sl[i]? with
  | some (some (.own (.lst l))) => s (sl.set i (some (.val (.lst l)))) mu
  | some (some (.own (.ins c fs))) => s (sl.set i (some (.val (.ins c fs)))) mu
  | some (some (.val _)) => s sl mu
  | _ => .bad
section
variable {T : Th} {W : WX} {n : En} {F F1 H H0 H1 : Hp} {al al1 : Nat → Addr} {mu mu1 : Store} {sl : Sl} {σ : St} {Z : Ends}
theorem set_get {α : Type} {l : List (Option α)} {i j : Nat} {x : Option α} {y : α} (h : (l.set i x)[j]? = some (some y)) : (i = j ∧ x = some y ∧ i < l.length) ∨ (i ≠ j ∧ l[j]? = some (some y)) := by
  rw [List.getElem?_set] at h
  split at h
  · rename_i e
    split at h
    · rename_i hl
      cases h
      exact .inl ⟨e, rfl, hl⟩
    · cases h
  · rename_i e
    exact .inr ⟨e, h⟩
/-- data into a slot -/
theorem Wd.setVal (w : Wd T F al sl mu σ H) {i : Nat} {v : V} {d : D} (r : Rp T F al mu.length v d) : Wd T F al (sl.set i (some (.val d))) mu (σ.set i (some v)) H where
  toMus := w.toMus
  len := by rw [List.length_set, List.length_set]; exact w.len
  val := fun j d' e => by
    rcases set_get e with ⟨rfl, h, hl⟩ | ⟨ne, h⟩
    · cases h
      exact ⟨v, List.getElem?_set_self (by rw [w.len]; exact hl), r⟩
    · obtain ⟨v', h1, h2⟩ := w.val j d' h
      exact ⟨v', by rw [List.getElem?_set_ne ne]; exact h1, h2⟩
  own := fun j m e => by
    rcases set_get e with ⟨_, h, _⟩ | ⟨ne, h⟩
    · cases h
    · obtain ⟨a, o, h1, h2⟩ := w.own j m h
      exact ⟨a, o, by rw [List.getElem?_set_ne ne]; exact h1, h2⟩
  apart := fun j k m m' a ne e1 e2 g1 g2 => by
    rcases set_get e1 with ⟨_, h, _⟩ | ⟨n1, h1⟩
    · cases h
    · rcases set_get e2 with ⟨_, h, _⟩ | ⟨n2, h2⟩
      · cases h
      · rw [List.getElem?_set_ne n1] at g1
        rw [List.getElem?_set_ne n2] at g2
        exact w.apart j k m m' a ne h1 h2 g1 g2
theorem OwnNew.setVal (o : OwnNew n sl σ) {i : Nat} {v : V} {d : D} : OwnNew n (sl.set i (some (.val d))) (σ.set i (some v)) := fun j m a e g => by
  rcases set_get e with ⟨_, h, _⟩ | ⟨ne, h⟩
  · cases h
  · rw [List.getElem?_set_ne ne] at g
    exact o j m a h g
theorem W3.setVal (w : W3 T n F al sl mu σ H) {i : Nat} {v : V} {d : D} (r : Rp T F al mu.length v d) : W3 T n F al (sl.set i (some (.val d))) mu (σ.set i (some v)) H := ⟨w.x, w.w.setVal r, w.o.setVal⟩
/-- a new object into a slot -/
theorem Wd.setOwn (w : Wd T F al sl mu σ H) (hs : ∀ (j : Nat) m a, sl[j]? = some (some (SV.own m)) → σ[j]? = some (some (V.ref a)) → H0 a ≠ none) {i : Nat} {v : V} {m : MO} (r : RN T H0 F al mu H v m) : Wd T F al (sl.set i (some (.own m))) mu (σ.set i (some v)) H where
  toMus := w.toMus
  len := by rw [List.length_set, List.length_set]; exact w.len
  val := fun j d' e => by
    rcases set_get e with ⟨_, h, _⟩ | ⟨ne, h⟩
    · cases h
    · obtain ⟨v', h1, h2⟩ := w.val j d' h
      exact ⟨v', by rw [List.getElem?_set_ne ne]; exact h1, h2⟩
  own := fun j m' e => by
    rcases set_get e with ⟨rfl, h, hl⟩ | ⟨ne, h⟩
    · cases h
      obtain ⟨a, o, rfl, h0, h1, h2, h3, h4⟩ := r
      exact ⟨a, o, List.getElem?_set_self (by rw [w.len]; exact hl), h1, h2, h3, h4⟩
    · obtain ⟨a, o, h1, h2⟩ := w.own j m' h
      exact ⟨a, o, by rw [List.getElem?_set_ne ne]; exact h1, h2⟩
  apart := fun j k m1 m2 a ne e1 e2 g1 g2 => by
    obtain ⟨b, o, rfl, h0, _⟩ := r
    rcases set_get e1 with ⟨rfl, h, hl⟩ | ⟨n1, h1⟩
    · rcases set_get e2 with ⟨rfl, _, _⟩ | ⟨n2, h2⟩
      · exact ne rfl
      · rw [List.getElem?_set_self (by rw [w.len]; exact hl)] at g1
        rw [List.getElem?_set_ne n2] at g2
        cases g1
        exact hs k m2 a h2 g2 h0
    · rcases set_get e2 with ⟨rfl, h, hl⟩ | ⟨n2, h2⟩
      · rw [List.getElem?_set_self (by rw [w.len]; exact hl)] at g2
        rw [List.getElem?_set_ne n1] at g1
        cases g2
        exact hs j m1 a h1 g1 h0
      · rw [List.getElem?_set_ne n1] at g1
        rw [List.getElem?_set_ne n2] at g2
        exact w.apart j k m1 m2 a ne h1 h2 g1 g2
theorem Wd.ownThere (w : Wd T F al sl mu σ H) : ∀ (j : Nat) m a, sl[j]? = some (some (SV.own m)) → σ[j]? = some (some (V.ref a)) → H a ≠ none := fun j m a e g z => by
  obtain ⟨b, o, h1, _, h2, _⟩ := w.own j m e
  rw [g] at h1; cases h1
  rw [z] at h2; cases h2
theorem W3.setOwn (w0 : W3 T n F al sl mu σ H) (x : Ext T F al mu H F1 al1 mu1 H1) {i : Nat} {v : V} {m : MO} (r : RN T H F1 al1 mu1 H1 v m) : W3 T n F1 al1 (sl.set i (some (.own m))) mu1 (σ.set i (some v)) H1 := by
  have w := w0.ext x
  refine ⟨w.x, w.w.setOwn w0.w.ownThere r, fun j m' a e g => ?_⟩
  rcases set_get e with ⟨rfl, h, hl⟩ | ⟨ne, h⟩
  · obtain ⟨b, o, rfl, h0, _⟩ := r
    rw [List.getElem?_set_self (by rw [w.w.len]; exact hl)] at g
    cases g
    exact w0.x.there a h0
  · rw [List.getElem?_set_ne ne] at g
    exact w.o j m' a h g
/-- a slot's own object is frozen -/
theorem W3.freeze (w : W3 T n F al sl mu σ H) {i : Nat} {m : MO} (e : sl[i]? = some (some (.own m))) (hm : ∀ kvs, m ≠ .dct kvs) : ∃ F', Gr F al mu F' al mu ∧ W3 T n F' al (sl.set i (some (.val m.d))) mu σ H := by
  obtain ⟨a, o, h1, h2, h3, h4, h5⟩ := w.w.own i m e
  have x2 := w.x.freeze (w.o i m a e h1) h2 h3 h5
  have up : ∀ b u, F b = some u → upd F a o b = some u := fun b u q => by rw [upd_ne (ne_of_none q h2)]; exact q
  refine ⟨upd F a o, ⟨up, fun _ _ => rfl, Nat.le_refl _⟩, x2, ⟨x2.mus, by rw [List.length_set]; exact w.w.len, fun j d q => ?_, fun j m' q => ?_, fun j k m1 m2 b ne e1 e2 g1 g2 => ?_⟩, fun j m' b q g => ?_⟩
  · rcases set_get q with ⟨rfl, h, hl⟩ | ⟨ne, h⟩
    · cases h
      exact ⟨_, h1, rp_freeze h2 h4 hm⟩
    · obtain ⟨v, g1, g2⟩ := w.w.val j d h
      exact ⟨v, g1, g2.mono up (fun _ _ => rfl) (Nat.le_refl _)⟩
  · rcases set_get q with ⟨_, h, _⟩ | ⟨ne, h⟩
    · cases h
    · obtain ⟨b, u, g1, g2, g3, g4, g5⟩ := w.w.own j m' h
      refine ⟨b, u, g1, ?_, g3, g4.mono up (fun _ _ => rfl) (Nat.le_refl _), g5⟩
      have : b ≠ a := fun z => w.w.apart i j m m' a ne e h h1 (by rw [← z]; exact g1)
      rw [upd_ne this]; exact g2
  · rcases set_get e1 with ⟨_, h, _⟩ | ⟨_, k1⟩
    · cases h
    · rcases set_get e2 with ⟨_, h, _⟩ | ⟨_, k2⟩
      · cases h
      · exact w.w.apart j k m1 m2 b ne k1 k2 g1 g2
  · rcases set_get q with ⟨_, h, _⟩ | ⟨_, h⟩
    · cases h
    · exact w.o j m' b h g
/-- a slot's own object is changed -/
theorem W3.upd (w : W3 T n F al sl mu σ H) {i : Nat} {m m' : MO} {a : Addr} {o : HO} (e : sl[i]? = some (some (.own m))) (ha : σ[i]? = some (some (V.ref a))) (c : Conc T F al mu.length o m') : W3 T n F al (sl.set i (some (.own m'))) mu σ (upd H a o) := by
  obtain ⟨a', o', h1, h2, h3, h4, h5⟩ := w.w.own i m e
  rw [ha] at h1; cases h1
  have h0 : n.H a = none := w.o i m a e ha
  have hl : i < sl.length := (List.getElem?_eq_some_iff.mp e).1
  have M : Mus T F al mu (L2.upd H a o) := ⟨fun b u q => by rw [upd_ne (ne_of_none q h2)]; exact w.w.sub b u q, fun k m q => by
    obtain ⟨g1, u, g2, g3⟩ := w.w.at_ k m q
    exact ⟨g1, u, by rw [upd_ne (h5 k m q)]; exact g2, g3⟩, w.w.inj⟩
  refine ⟨⟨M, w.x.sub, w.x.new, fun b u q z => ?_, fun b q => w.x.there b (there_upd b q), w.x.als, w.x.ln, w.x.fresh⟩, ⟨M, by rw [List.length_set]; exact w.w.len, fun j d q => ?_, fun j m2 q => ?_, fun j k m1 m2 b ne e1 e2 g1 g2 => ?_⟩, fun j m2 b q g => ?_⟩
  · rw [upd_ne (ne_of_none q h0)]; exact w.x.keep b u q z
  · rcases set_get q with ⟨_, h, _⟩ | ⟨_, h⟩
    · cases h
    · exact w.w.val j d h
  · rcases set_get q with ⟨rfl, h, _⟩ | ⟨ne, h⟩
    · cases h
      exact ⟨a, o, ha, h2, upd_same, c, h5⟩
    · obtain ⟨b, u, g1, g2, g3, g4, g5⟩ := w.w.own j m2 h
      have : b ≠ a := fun z => w.w.apart i j m m2 a ne e h ha (by rw [← z]; exact g1)
      exact ⟨b, u, g1, g2, by rw [upd_ne this]; exact g3, g4, g5⟩
  · have own_of : ∀ {j : Nat} {m1 : MO}, (sl.set i (some (SV.own m')))[j]? = some (some (SV.own m1)) → ∃ m0, sl[j]? = some (some (SV.own m0)) := fun {j m1} q => by
      rcases set_get q with ⟨rfl, _, _⟩ | ⟨_, h⟩
      · exact ⟨m, e⟩
      · exact ⟨m1, h⟩
    obtain ⟨p1, k1⟩ := own_of e1
    obtain ⟨p2, k2⟩ := own_of e2
    exact w.w.apart j k p1 p2 b ne k1 k2 g1 g2
  · rcases set_get q with ⟨rfl, _, _⟩ | ⟨_, h⟩
    · exact w.o _ m b e g
    · exact w.o j m2 b h g
end
end DL
end

section
set_option Elab.async false
set_option linter.all false
set_option maxRecDepth 100000
set_option maxHeartbeats 4000000
/-! DF: the rules of statements, loops, defs. -/
namespace DL
open PySem L2
section
variable {X : Cx} {cl : Nat → Addr} {W : WX} {n : En} {a b e : PySem.Expr} {es : List PySem.Expr} {st : PySem.Stmt} {sts : List PySem.Stmt} {f : EF} {s t : SF} {pos p1 : Pos} {x : Str}
theorem ds_expr (he : DE X cl W e f) (hs : swapsWith e none pos.line X.env = pure false := by rfl) : DS X cl W n (.Expr e pos) (sExpr f) := PS.imp (ps_expr he hs) fun Z σ H q => by
  obtain ⟨F, al, sl, mu, w, po⟩ := q
  exact seqS w po rfl fun v d F1 al1 mu1 H1 x1 w1 r1 po1 => PoS.nx po1 w1
theorem ds_asg {i : Nat} {p' : Pos} (hN : X.N.Nodup) (hi : X.N[i]? = some x) (hx : Loc X.env.scope x) (he : DE X cl W e f) (hs : swapsWith e (some (.Name x p')) pos.line X.env = pure false := by rfl)
    (hf : X.fn x = true ∨ X.env.scope.names.lookup x = some .local := by first | exact .inl rfl | exact .inr rfl | assumption) : DS X cl W n (.Assign [.Name x p'] e pos) (sAsg i f) := PS.imp (ps_set hN hi hx he hs hf) fun Z σ H q => by
  obtain ⟨F, al, sl, mu, w, po⟩ := q
  exact seqS w po rfl fun v d F1 al1 mu1 H1 x1 w1 r1 po1 => PoS.nx po1 (w1.setVal r1)
theorem ds_own {i : Nat} {p' : Pos} {f : NF} (hN : X.N.Nodup) (hi : X.N[i]? = some x) (hx : Loc X.env.scope x) (he : DN X cl W e f) (hs : swapsWith e (some (.Name x p')) pos.line X.env = pure false := by rfl)
    (hf : X.fn x = true ∨ X.env.scope.names.lookup x = some .local := by first | exact .inl rfl | exact .inr rfl | assumption) : DS X cl W n (.Assign [.Name x p'] e pos) (sOwn i f) := PS.imp (ps_set hN hi hx he hs hf) fun Z σ H q => by
  obtain ⟨F, al, sl, mu, w, po⟩ := q
  exact seqS w po rfl fun v m F1 al1 mu1 H1 x1 w1 r1 po1 => PoS.nx po1 (w.setOwn x1 r1)
theorem ds_ret (he : DE X cl W e f) : DS X cl W n (.Return (some e) pos) (sRet f) := PS.imp (ps_ret he) fun Z σ H q => by
  obtain ⟨F, al, sl, mu, w, po⟩ := q
  exact seqS w po rfl fun v d F1 al1 mu1 H1 x1 w1 r1 po1 => po1 v F1 al1 H1 Gr.refl w1.x r1
theorem ds_retN : DS X cl W n (.Return none pos) sRetN := PS.imp ps_retN fun Z σ H q => by
  obtain ⟨F, al, sl, mu, w, po⟩ := q
  exact po .non F al H Gr.refl w.x .non
theorem ds_if {c : BF} (hc : DT X cl W e c) (ha : DSs X cl W n sts s) {ss : List PySem.Stmt} (hb : DSs X cl W n ss t) : DS X cl W n (.If e sts ss pos) (sIf c s t) := PS.imp (ps_if hc ha hb) fun Z σ H q => by
  obtain ⟨F, al, sl, mu, w, po⟩ := q
  refine seqS w po rfl fun v d F1 al1 mu1 H1 x1 w1 r1 po1 => ?_
  cases r1
  split
  · rename_i hb
    rw [if_pos hb] at po1
    exact ⟨_, _, _, _, w1, po1⟩
  · rename_i hb
    rw [if_neg hb] at po1
    exact ⟨_, _, _, _, w1, po1⟩
theorem ds_pass : DS X cl W n (.Pass pos) sSkip := PS.imp ps_pass fun Z σ H q => by
  obtain ⟨F, al, sl, mu, w, po⟩ := q
  exact PoS.nx po w
theorem ds_brk : DS X cl W n (.Break pos) sBrk := PS.imp ps_break fun Z σ H q => by
  obtain ⟨F, al, sl, mu, w, po⟩ := q
  exact po σ F al H Gr.refl w
theorem ds_cnt : DS X cl W n (.Continue pos) sCnt := PS.imp ps_continue fun Z σ H q => by
  obtain ⟨F, al, sl, mu, w, po⟩ := q
  exact po σ F al H Gr.refl w
theorem dss_nil : DSs X cl W n [] sSkip := PSs.imp pss_nil fun Z σ H q => by
  obtain ⟨F, al, sl, mu, w, po⟩ := q
  exact PoS.nx po w
theorem dss_one (h : DS X cl W n st s) : DSs X cl W n [st] s := pss_one h
theorem dss_cons (h : DS X cl W n st s) (hr : DSs X cl W n sts t) : DSs X cl W n (st :: sts) (sSeq s t) := PSs.imp (pss_cons h hr) fun Z σ H q => by
  obtain ⟨F, al, sl, mu, w, po⟩ := q
  refine ⟨F, al, sl, mu, w, ?_⟩
  unfold sSeq snext at po
  cases z : s sl mu with
  | nx sl' mu' =>
    rw [z] at po
    exact fun σ' F' al' H' g w' => ⟨F', al', sl', mu', w', PoS.step g po⟩
  | rt d mu' => rw [z] at po; exact po
  | bk sl' mu' => rw [z] at po; exact po
  | ct sl' mu' => rw [z] at po; exact po
  | ex c fs sl' mu' => rw [z] at po; exact po
  | bad => rw [z] at po; exact po
theorem ds_fz {i : Nat} (h : DS X cl W n st s) : DS X cl W n st (sFz i s) := PS.imp h fun Z σ H q => by
  obtain ⟨F, al, sl, mu, w, po⟩ := q
  unfold sFz at po
  split at po
  · rename_i l e
    obtain ⟨F', g, w'⟩ := w.freeze e fun _ z => nomatch z
    exact ⟨F', al, _, mu, w', PoS.step g po⟩
  · rename_i c fs e
    obtain ⟨F', g, w'⟩ := w.freeze e fun _ z => nomatch z
    exact ⟨F', al, _, mu, w', PoS.step g po⟩
  · exact ⟨F, al, sl, mu, w, po⟩
  · exact False.elim po
/-- the end of a block that is never come to, or whose denotation is never asked -/
theorem ds_never : DS X cl W n st (fun _ _ => .bad) := PS.imp ps_never fun Z σ H q => by
  obtain ⟨F, al, sl, mu, w, po⟩ := q
  exact po
theorem dss_never : DSs X cl W n sts (fun _ _ => .bad) := PSs.imp pss_never fun Z σ H q => by
  obtain ⟨F, al, sl, mu, w, po⟩ := q
  exact po
end

/-! ### loops -/
/-- what is walked: its items -/
def RI (T : Th) : Rel It (List D) := fun _ F al mu _ J ds => ∃ (G : Hp → Prop) (Y : Nat → Hp → V → Hp → Prop), Walk J ds.length G Y ∧
  (∀ (F' H' : Hp), (∀ a o, F a = some o → F' a = some o) → (∀ a o, F' a = some o → H' a = some o) → G H') ∧
  ∀ (F' : Hp) (al' : Nat → Addr) (mu' : Store) (H' : Hp) (i : Nat) (x : V) (H2 : Hp), Gr F al mu F' al' mu' → Mus T F' al' mu' H' → i < ds.length → Y i H' x H2 → ∃ d F2, ds[i]? = some d ∧ Ext T F' al' mu' H' F2 al' mu' H2 ∧ Rp T F2 al' mu'.length x d
abbrev DI (X : Cx) (cl : Nat → Addr) (W : WX) (tg e : PySem.Expr) (f : LF) : Prop := PI X tg e (tG (Cx.th X cl) W (RI (Cx.th X cl)) f)
/-- a target: a name; names of a tuple, of a list -/
inductive Tg where
  | nm (i : Nat) | tp (is : List Nat) | ls (is : List Nat)
def Tg.ix : Tg → List Nat
  | .nm i => [i]
  | .tp is => is
  | .ls is => is
def gSets : List Nat → List D → Sl → Option Sl
  | [], [], sl => some sl
  | i :: is, d :: ds, sl => gSets is ds (sl.set i (some (.val d)))
  | _, _, _ => none
def Tg.run : Tg → D → Sl → Option Sl
  | .nm i, d, sl => some (sl.set i (some (.val d)))
  | .tp is, d, sl => match d with
    | .tup ds => gSets is ds sl
    | _ => none
  | .ls is, d, sl => match d with
    | .lst ds => gSets is ds sl
    | _ => none
/-- the slots changed at is alone -/
def AtIx (is : List Nat) (σ σ' : St) : Prop := ∀ vs : List Nat, (∀ i ∈ is, i ∈ vs) → wipe σ' vs = wipe σ vs
def tTgt (T : Th) (g : Tg) : TG := fun v σ H Q => ∃ F al sl mu d sl', Wd T F al sl mu σ H ∧ Rp T F al mu.length v d ∧ g.run d sl = some sl' ∧ ∀ σ', Wd T F al sl' mu σ' H → (∀ n, OwnNew n sl σ → OwnNew n sl' σ') → AtIx g.ix σ σ' → Q σ' H
abbrev DG (X : Cx) (cl : Nat → Addr) (tg : PySem.Expr) (g : Tg) : Prop := PG X tg (tTgt (Cx.th X cl) g)
theorem wipe_set {i : Nat} {x : Option V} : ∀ {vs : List Nat} {σ : St}, i ∈ vs → wipe (σ.set i x) vs = wipe σ vs
  | [], _, h => by cases h
  | v :: vs, σ, h => by
    show (wipe (σ.set i x) vs).set v none = (wipe σ vs).set v none
    by_cases hm : i ∈ vs
    · rw [wipe_set hm]
    · have e : i = v := by
        rcases List.mem_cons.mp h with h | h
        · exact h
        · exact absurd h hm
      subst e
      have key : ∀ (vs : List Nat) (σ : St), i ∉ vs → wipe (σ.set i x) vs = (wipe σ vs).set i x := by
        intro vs
        induction vs with
        | nil => intro σ _; rfl
        | cons w ws ih =>
          intro σ hn
          show (wipe (σ.set i x) ws).set w none = ((wipe σ ws).set w none).set i x
          rw [ih σ fun q => hn (List.mem_cons_of_mem _ q)]
          rw [List.set_comm]
          intro e
          exact hn (by rw [e]; exact List.mem_cons_self)
      rw [key vs σ hm, List.set_set]
theorem AtIx.set {i : Nat} {x : Option V} {σ : St} : AtIx [i] σ (σ.set i x) := fun vs h => wipe_set (h i List.mem_cons_self)
theorem AtIx.refl {σ : St} {is : List Nat} : AtIx is σ σ := fun _ _ => rfl
def tTgts (T : Th) (is : List Nat) : TGs := fun vs σ H Q => ∃ F al sl mu ds sl', Wd T F al sl mu σ H ∧ RpL T F al mu.length vs ds ∧ gSets is ds sl = some sl' ∧ ∀ σ', Wd T F al sl' mu σ' H → (∀ n, OwnNew n sl σ → OwnNew n sl' σ') → AtIx is σ σ' → Q σ' H
section
variable {X : Cx} {cl : Nat → Addr} {W : WX} {n : En} {a b e tg : PySem.Expr} {es : List PySem.Expr} {pos : Pos} {x : Str}
theorem PG.imp {t t' : TG} (h : PG X e t) (i : ∀ v σ H Q, t' v σ H Q → t v σ H Q) : PG X e t' := ⟨fun pins s σ H v u Q I r q => h.run pins s σ H v u Q I r (i v σ H Q q)⟩
theorem PGs.imp {t t' : TGs} (h : PGs X es t) (i : ∀ v σ H Q, t' v σ H Q → t v σ H Q) : PGs X es t' := ⟨fun pins s σ H v u Q I r q => h.run pins s σ H v u Q I r (i v σ H Q q)⟩
theorem dg_name {i : Nat} (hN : X.N.Nodup) (hi : X.N[i]? = some x) (hx : Loc X.env.scope x) (hf : X.fn x = true ∨ X.env.scope.names.lookup x = some .local := by first | exact .inl rfl | exact .inr rfl | assumption) : DG X cl (.Name x pos) (.nm i) :=
  PG.imp (pg_name hN hi hx hf) fun v σ H Q q => by
    obtain ⟨F, al, sl, mu, d, sl', w, r, e, k⟩ := q
    cases e
    exact k _ (w.setVal r) (fun n o => o.setVal) AtIx.set
abbrev DGs (X : Cx) (cl : Nat → Addr) (es : List PySem.Expr) (is : List Nat) : Prop := PGs X es (tTgts (Cx.th X cl) is)
theorem dgs_nil : DGs X cl [] [] := PGs.imp pgs_nil fun v σ H Q q => by
  obtain ⟨F, al, sl, mu, ds, sl', w, r, e, k⟩ := q
  cases ds with
  | cons _ _ => cases e
  | nil =>
    cases e
    cases r
    exact ⟨rfl, k σ w (fun _ o => o) AtIx.refl⟩
theorem dgs_cons {i : Nat} {is : List Nat} (hN : X.N.Nodup) (hi : X.N[i]? = some x) (hx : Loc X.env.scope x) (hr : DGs X cl es is) (hf : X.fn x = true ∨ X.env.scope.names.lookup x = some .local := by first | exact .inl rfl | exact .inr rfl | assumption) : DGs X cl (.Name x pos :: es) (i :: is) :=
  PGs.imp (pgs_cons (pg_name hN hi hx hf) hr) fun v σ H Q q => by
    obtain ⟨F, al, sl, mu, ds, sl', w, r, e, k⟩ := q
    cases ds with
    | nil => cases e
    | cons d ds =>
      cases r with
      | cons r1 r2 =>
        exact ⟨_, _, rfl, F, al, _, mu, ds, sl', w.setVal r1, r2, e, fun σ' w' o' i' => k σ' w' (fun n o => o' n o.setVal) fun vs h => by rw [i' vs fun j hj => h j (List.mem_cons_of_mem _ hj)]; exact wipe_set (h _ List.mem_cons_self)⟩
theorem gSets_len : ∀ {is : List Nat} {ds : List D} {sl sl' : Sl}, gSets is ds sl = some sl' → ds.length = is.length
  | [], [], _, _, _ => rfl
  | i :: is, d :: ds, _, _, h => by
    have := gSets_len (is := is) (ds := ds) h
    rw [List.length_cons, List.length_cons, this]
  | [], _ :: _, _, _, h => by cases h
  | _ :: _, [], _, _, h => by cases h
theorem dg_tup {is : List Nat} {k : Nat} (hc : X.calm = true) (h : DGs X cl es is) (hn : (assignEach es X.env).length = is.length := by rfl) (hst : (assignEach es X.env).findIdx? (·.1) = none := by rfl) : DG X cl (.Tuple es k pos) (.tp is) :=
  PG.imp (pg_tup (n := is.length) hc h hn hst) fun v σ H Q q => by
    obtain ⟨F, al, sl, mu, d, sl', w, r, e, k⟩ := q
    cases r with
    | @tup a xs ds hs hl =>
      have e' : gSets is ds sl = some sl' := e
      exact ⟨a, xs, rfl, sqT_mono w.sub hs, by rw [RpL.len hl]; exact gSets_len e', F, al, sl, mu, ds, sl', w, hl, e', k⟩
    | _ => cases e
theorem dg_lst {is : List Nat} {k : Nat} (hc : X.calm = true) (h : DGs X cl es is) (hn : (assignEach es X.env).length = is.length := by rfl) (hst : (assignEach es X.env).findIdx? (·.1) = none := by rfl) : DG X cl (.Tuple es k pos) (.ls is) :=
  PG.imp (pg_unl (n := is.length) hc h hn hst) fun v σ H Q q => by
    obtain ⟨F, al, sl, mu, d, sl', w, r, e, k⟩ := q
    cases r with
    | @lst a xs ds hs hl =>
      have e' : gSets is ds sl = some sl' := e
      exact ⟨a, xs, rfl, SqL.of (w.sub _ _ hs), by rw [RpL.len hl]; exact gSets_len e', F, al, sl, mu, ds, sl', w, hl, e', k⟩
    | _ => cases e
end
/-- an assignment to several names -/
def sTg (g : Tg) (f : EF) : SF := fun sl mu => sbind (f sl mu) sl fun d mu => match g.run d sl with
  | some sl' => .nx sl' mu
  | none => .bad
def sForL (tgt : Tg) (body : SF) : List D → Sl → Store → OutS
  | [], sl, mu => .nx sl mu
  | d :: ds, sl, mu => match tgt.run d sl with
    | none => .bad
    | some sl1 => match body sl1 mu with
      | .nx sl2 mu2 => sForL tgt body ds sl2 mu2
      | .ct sl2 mu2 => sForL tgt body ds sl2 mu2
      | .bk sl2 mu2 => .nx sl2 mu2
      | o => o
def sFor (src : LF) (tgt : Tg) (body : SF) : SF := fun sl mu => sbind (src sl mu) sl fun ds mu => sForL tgt body ds sl mu
def sWhl (c : BF) (body : SF) : Nat → SF
  | 0, _, _ => .bad
  | n + 1, sl, mu => sbind (c sl mu) sl fun b mu => if b = true then (match body sl mu with
      | .nx sl2 mu2 => sWhl c body n sl2 mu2
      | .ct sl2 mu2 => sWhl c body n sl2 mu2
      | .bk sl2 mu2 => .nx sl2 mu2
      | o => o) else .nx sl mu
section
variable {X : Cx} {cl : Nat → Addr} {W : WX} {n : En} {a b e tg : PySem.Expr} {es : List PySem.Expr} {sts : List PySem.Stmt} {pos : Pos} {x : Str}
theorem ds_tg {f : EF} {g : Tg} (hg : DG X cl tg g) (he : DE X cl W e f) (hs : swapsWithSole [tg] e pos.line X.env = pure false := by rfl) (hw : swappedStores [tg] e X.env = pure none := by rfl) (h1 : (assignEach [tg] X.env).map (·.2) = [assign tg X.env] := by rfl) : DS X cl W n (.Assign [tg] e pos) (sTg g f) :=
  PS.imp (ps_asg he hg hs hw h1) fun Z σ H q => by
    obtain ⟨F, al, sl, mu, w, po⟩ := q
    refine seqS w po rfl fun v d F1 al1 mu1 H1 x1 w1 r1 po1 => ?_
    cases z : g.run d sl with
    | none => simp only [z] at po1; exact False.elim po1
    | some sl' =>
      simp only [z] at po1
      exact ⟨F1, al1, sl, mu1, d, sl', w1.w, r1, z, fun σ' w' o' _ => PoS.nx po1 ⟨w1.x, w', o' n w1.o⟩⟩
/-- the ends of a loop's turn -/
theorem turn_ends {T : Th} {F : Hp} {al : Nat → Addr} {mu : Store} {Z : Ends} {o : OutS} {P : St → Hp → Prop} {go : Sl → Store → OutS} (h : PoS T W n F al mu Z (match o with
      | .nx sl2 mu2 => go sl2 mu2
      | .ct sl2 mu2 => go sl2 mu2
      | .bk sl2 mu2 => .nx sl2 mu2
      | o => o)) (k : ∀ σ' F' al' sl' mu' H', Gr F al mu F' al' mu' → W3 T n F' al' sl' mu' σ' H' → PoS T W n F' al' mu' Z (go sl' mu') → P σ' H') : PoS T W n F al mu { Z with nx := P, ct := P, bk := Z.nx } o := by
  cases o with
  | nx sl2 mu2 => exact fun σ' F' al' H' g w => k σ' F' al' sl2 mu2 H' g w (PoS.step g h)
  | ct sl2 mu2 => exact fun σ' F' al' H' g w => k σ' F' al' sl2 mu2 H' g w (PoS.step g h)
  | bk sl2 mu2 => exact h
  | rt d mu2 => exact h
  | ex c fs sl2 mu2 => exact h
  | bad => exact h
theorem ds_for {src : LF} {g : Tg} {body : SF} (hp : PassesOwn (model X.prog X.w) X.A X.env X.xe) (hc : X.calm = true) (hi : DI X cl W tg e src) (hg : DG X cl tg g) (hb : DSs X cl W n sts body)
    (hs : ∀ x, foldedSetIterable e X.env x = pure x := by intro _; rfl) : DS X cl W n (.For tg e sts [] pos) (sFor src g body) :=
  PS.imp (ps_for hp hc hi hg hb hs) fun Z σ H q => by
    obtain ⟨F, al, sl, mu, w, po⟩ := q
    refine seqS w po rfl fun J ds F1 al1 mu1 H1 x1 w1 r1 po1 => ?_
    obtain ⟨G, Y, wk, hG, hY⟩ := r1
    refine for_it wk (fun i σ H => ∃ F2 al2 sl2 mu2, Gr F1 al1 mu1 F2 al2 mu2 ∧ W3 (Cx.th X cl) n F2 al2 sl2 mu2 σ H ∧ PoS (Cx.th X cl) W n F2 al2 mu2 Z (sForL g body (ds.drop i) sl2 mu2)) ?_ ?_ ?_ ?_
    · exact ⟨F1, al1, sl, mu1, Gr.refl, w1, po1⟩
    · rintro i σ H _ ⟨F2, al2, sl2, mu2, gr, w2, _⟩
      exact hG F2 H gr.sub w2.w.sub
    · rintro i x σ H H' hi ⟨F2, al2, sl2, mu2, gr, w2, po2⟩ y
      obtain ⟨d, F3, hd, x3, r3⟩ := hY F2 al2 mu2 H i x H' gr w2.w.toMus hi y
      have e : ds.drop i = d :: ds.drop (i + 1) := by
        rw [List.getElem?_eq_some_iff] at hd
        obtain ⟨h1, h2⟩ := hd
        rw [← h2]
        exact List.drop_eq_getElem_cons h1
      rw [e] at po2
      unfold sForL at po2
      split at po2
      · exact False.elim po2
      · rename_i sl3 hg3
        have w3 := w2.ext x3
        refine ⟨F3, al2, sl2, mu2, d, sl3, w3.w, r3, hg3, fun σ' w' o' _ => ⟨F3, al2, sl3, mu2, ⟨w3.x, w', o' n w3.o⟩, ?_⟩⟩
        refine turn_ends (PoS.step x3.gr po2) fun σ5 F5 al5 sl5 mu5 H5 g5 w5 po5 => ?_
        exact ⟨F5, al5, sl5, mu5, gr.trans (x3.gr.trans g5), w5, po5⟩
    · rintro σ H ⟨F2, al2, sl2, mu2, gr, w2, po2⟩
      rw [List.drop_length] at po2
      exact PoS.nx po2 w2
theorem ds_while {c : BF} {body : SF} {m : Nat} (hp : PassesOwn (model X.prog X.w) X.A X.env X.xe) (hc : DT X cl W e c) (hb : DSs X cl W n sts body) : DS X cl W n (.While e sts [] pos) (sWhl c body m) :=
  PS.imp (ps_while hp hc hb) fun Z σ H q => by
    obtain ⟨F, al, sl, mu, w, po⟩ := q
    refine ⟨fun m σ H => ∃ F al sl mu, W3 (Cx.th X cl) n F al sl mu σ H ∧ PoS (Cx.th X cl) W n F al mu Z (sWhl c body m sl mu), ⟨m, F, al, sl, mu, w, po⟩, ?_⟩
    rintro m σ H ⟨F, al, sl, mu, w, po⟩
    cases m with
    | zero => exact False.elim po
    | succ m =>
      unfold sWhl at po
      refine seqS w po rfl fun v d F1 al1 mu1 H1 x1 w1 r1 po1 => ?_
      cases r1
      split
      · rename_i hb
        rw [if_pos hb] at po1
        refine ⟨fun σ' H' => ∃ F al sl mu, W3 (Cx.th X cl) n F al sl mu σ' H' ∧ PoS (Cx.th X cl) W n F al mu Z (sWhl c body m sl mu), fun σ' H' h => ⟨m, Nat.lt_succ_self m, h⟩, F1, al1, sl, mu1, w1, ?_⟩
        exact turn_ends po1 fun σ5 F5 al5 sl5 mu5 H5 g5 w5 po5 => ⟨F5, al5, sl5, mu5, w5, po5⟩
      · rename_i hb
        rw [if_neg hb] at po1
        exact PoS.nx po1 w1
end

/-! ### a def by its body -/
def dFun (N : Nat) (b : SF) : FF := fun ds mu => match b (ds.map (fun d => some (.val d)) ++ List.replicate (N - ds.length) none) mu with
  | .nx _ mu' => .ok .non mu'
  | .rt d mu' => .ok d mu'
  | .ex c fs _ mu' => .ex c fs mu'
  | _ => .bad
theorem RpL.get {T : Th} {F : Hp} {al : Nat → Addr} {n : Nat} : ∀ {vs : List V} {ds : List D}, RpL T F al n vs ds → ∀ {i : Nat} {d : D}, ds[i]? = some d → ∃ v, vs[i]? = some v ∧ Rp T F al n v d
  | [], [], _, _, _, h => by simp at h
  | v :: vs, d :: ds, .cons r1 r2, i, d', h => by
    cases i with
    | zero => simp at h; subst h; exact ⟨v, rfl, r1⟩
    | succ i =>
      obtain ⟨v', h1, h2⟩ := RpL.get r2 (i := i) (d := d') (by simpa using h)
      exact ⟨v', by simpa using h1, h2⟩
  | [], d :: ds, h, _, _, _ => by cases h
  | v :: vs, [], h, _, _, _ => by cases h
theorem wd_start {T : Th} {F : Hp} {al : Nat → Addr} {mu : Store} {H : Hp} {N : List Str} {vs : List V} {ds : List D} (m : Mus T F al mu H) (r : RpL T F al mu.length vs ds) :
    Wd T F al (ds.map (fun d => some (SV.val d)) ++ List.replicate (N.length - ds.length) none) mu (L2.start N vs) H := by
  have hl := RpL.len r
  have noOwn : ∀ (i : Nat) m, (ds.map (fun d => some (SV.val d)) ++ List.replicate (N.length - ds.length) none)[i]? = some (some (SV.own m)) → False := fun i m e => by
    by_cases hi : i < ds.length
    · rw [List.getElem?_append_left (by simpa using hi), List.getElem?_map] at e
      cases q : ds[i]? with
      | none => rw [q] at e; cases e
      | some d => rw [q] at e; cases e
    · rw [List.getElem?_append_right (by simpa using hi), List.getElem?_replicate] at e
      split at e <;> cases e
  refine ⟨m, ?_, fun i d e => ?_, fun i m e => (noOwn i m e).elim, fun i j m m' a _ e _ _ _ => noOwn i m e⟩
  · unfold L2.start
    simp [hl]
  · by_cases hi : i < ds.length
    · rw [List.getElem?_append_left (by simpa using hi), List.getElem?_map] at e
      cases q : ds[i]? with
      | none => rw [q] at e; cases e
      | some d' =>
        rw [q] at e
        cases e
        obtain ⟨v, h1, h2⟩ := r.get q
        refine ⟨v, ?_, h2⟩
        unfold L2.start
        rw [List.getElem?_append_left (by simp; omega), List.getElem?_map, h1]
        rfl
    · rw [List.getElem?_append_right (by simpa using hi), List.getElem?_replicate] at e
      split at e <;> cases e
theorem ownNew_start {n : En} {N : List Str} {vs : List V} {ds : List D} : OwnNew n (ds.map (fun d => some (SV.val d)) ++ List.replicate (N.length - ds.length) none) (L2.start N vs) := fun i m a e _ => by
  exfalso
  by_cases hi : i < ds.length
  · rw [List.getElem?_append_left (by simpa using hi), List.getElem?_map] at e
    cases q : ds[i]? with
    | none => rw [q] at e; cases e
    | some d => rw [q] at e; cases e
  · rw [List.getElem?_append_right (by simpa using hi), List.getElem?_replicate] at e
    split at e <;> cases e
theorem body_of {T : Th} {N : List Str} {np : Nat} {g : SF} {vs : List V} {H : Hp} {Q : VK} {E : XK} (h : spD T np (dFun N.length g) vs H Q E) :
    ∃ n : En, tS T (fun c d _ H' => E c d H') n g { nx := fun _ H' => Q .non H', rt := Q } (L2.start N vs) H := by
  obtain ⟨F, al, mu, ds, m, r, hl, po⟩ := h
  refine ⟨⟨F, al, mu, H⟩, F, al, _, mu, ⟨Ext.refl m, wd_start (N := N) m r, ownNew_start⟩, ?_⟩
  unfold dFun at po
  cases z : g (ds.map (fun d => some (SV.val d)) ++ List.replicate (N.length - ds.length) none) mu with
  | nx sl' mu' => rw [z] at po; exact fun σ' F' al' H' _ w => po _ _ _ _ w.x .non
  | rt d mu' => rw [z] at po; exact fun v F' al' H' _ x r => po _ _ _ _ x r
  | bk sl' mu' => rw [z] at po; exact False.elim po
  | ct sl' mu' => rw [z] at po; exact False.elim po
  | ex c fs sl' mu' => rw [z] at po; exact fun dx σ' F' al' H' _ w r => po _ _ _ _ w.x r
  | bad => rw [z] at po; exact po
section
variable {P : Program} {w : World} {K : PySem.W.Frag} {mg : Str → Option Value} {base : Heap} {cl : Nat → Addr}
theorem fn_body {x qual : Str} {params : Arguments} {body : List PySem.Stmt} {scope : Scope} {f : Addr} {fd : FuncData} {N ps : List Str} {k : Nat} {g : SF} (F : FunD K x qual params body scope [] [] f fd) (S : FnScope N ps scope)
    (hb : ∀ (cdv : Value) (A : Around) (outer : List Env) (s : Shared) (H : Hp) (E : XK) (n : En), Room k (A.deeper (PyProof.Rows.envOfC qual scope s.heap.objs.size f cdv)) →
      DSs (cxOf (L2.CX P w) P w K mg base N qual scope f cdv A outer s H E) cl (fun c d _ H' => E c d H') n body g) :
    FnOk P w K mg base (L2.CX P w) (k + 1) f fd ps (spD ⟨K, cl⟩ ps.length (dFun N.length g)) := by
  refine F.ok S (fun vs H Q E h => ?_) (fun cdv A outer s H vs Q E hr h => ?_)
  · obtain ⟨F, al, mu, ds, _, r, hl, _⟩ := h
    rw [RpL.len r, hl]
  · obtain ⟨n, q⟩ := body_of (N := N) h
    exact ⟨_, hb cdv A outer s H E n hr, q⟩
theorem gf_of {x : Str} {params : Arguments} {body : List PySem.Stmt} {scope : Scope} {f : Addr} {fd : FuncData} {N ps : List Str} {k : Nat} {g : SF} (F : FunD K x x params body scope [] [] f fd) (S : FnScope N ps scope) (hm : mg x = some (.ref f)) (hbd : L2.Binds K fd ps [])
    (hb : ∀ (cdv : Value) (A : Around) (outer : List Env) (s : Shared) (H : Hp) (E : XK) (n : En), Room k (A.deeper (PyProof.Rows.envOfC x scope s.heap.objs.size f cdv)) →
      DSs (cxOf (L2.CX P w) P w K mg base N x scope f cdv A outer s H E) cl (fun c d _ H' => E c d H') n body g) :
    Gf P w K mg base cl (k + 1) x ps.length (dFun N.length g) := ⟨f, fd, ps, fn_body F S hb, hm, F.kp, hbd⟩
theorem spD_imp {T : Th} {np : Nat} {p q : FF} (h : ∀ ds mu, ds.length = np → q ds mu ≠ .bad → p ds mu = q ds mu) : ∀ vs H Q E, spD T np q vs H Q E → spD T np p vs H Q E := fun vs H Q E ⟨F, al, mu, ds, m, r, hl, po⟩ => by
  refine ⟨F, al, mu, ds, m, r, hl, ?_⟩
  by_cases z : q ds mu = .bad
  · rw [z] at po; exact False.elim po
  · rw [h ds mu hl z]; exact po
/-- the def by another function: the same wherever that one tells anything -/
theorem Gf.to {k np : Nat} {x : Str} {p q : FF} (c : Gf P w K mg base cl k x np p) (h : ∀ ds mu, ds.length = np → q ds mu ≠ .bad → p ds mu = q ds mu) : Gf P w K mg base cl k x np q := by
  obtain ⟨f, fd, ps, hf, r⟩ := c.ex
  exact ⟨f, fd, ps, hf.imp (spD_imp h), r⟩
theorem Gf.mono {j k np : Nat} {x : Str} {p : FF} (c : Gf P w K mg base cl j x np p) (h : j ≤ k) : Gf P w K mg base cl k x np p := by
  obtain ⟨f, fd, ps, hf, r⟩ := c.ex
  exact ⟨f, fd, ps, hf.mono h, r⟩
end
end DL
end

section
set_option Elab.async false
set_option linter.all false
set_option maxRecDepth 100000
set_option maxHeartbeats 4000000
/-! DH: comprehensions, what is walked. -/
namespace DL
open PySem L2
section
variable {T : Th} {F F1 H H1 : Hp} {al al1 : Nat → Addr} {mu mu1 : Store} {sl : Sl} {σ : St}
/-- an object aside is left as it is -/
theorem Ext.guard (x : Ext T F al mu H F1 al1 mu1 H1) {a : Addr} {o : HO} (h : H a = some o) (hF : F a = none) (hm : ∀ k m, mu[k]? = some (some m) → al k ≠ a) : H1 a = some o ∧ F1 a = none ∧ ∀ k m, mu1[k]? = some (some m) → al1 k ≠ a := by
  refine ⟨x.keep a o h hm, ?_, fun k m e z => ?_⟩
  · cases q : F1 a with
    | none => rfl
    | some u =>
      rcases x.new a u q with g | g | ⟨k, m', e1, e2⟩
      · rw [hF] at g; cases g
      · rw [h] at g; cases g
      · exact absurd e2 (hm k m' e1)
  · rcases x.fresh k m e with ⟨m0, g⟩ | g
    · exact hm k m0 g (by rw [← x.als k (lt_of_live g)]; exact z)
    · rw [z, h] at g; cases g
theorem Ext.updNew (x : Ext T F al mu H F1 al1 mu1 H1) {a : Addr} {o : HO} (h0 : H a = none) (hF : F1 a = none) (hm : ∀ k m, mu1[k]? = some (some m) → al1 k ≠ a) : Ext T F al mu H F1 al1 mu1 (upd H1 a o) :=
  ⟨⟨fun b u q => by rw [upd_ne (ne_of_none q hF)]; exact x.mus.sub b u q, fun k m q => by
    obtain ⟨g1, u, g2, g3⟩ := x.mus.at_ k m q
    exact ⟨g1, u, by rw [upd_ne (hm k m q)]; exact g2, g3⟩, x.mus.inj⟩, x.sub, x.new, fun b u q z => by rw [upd_ne (ne_of_none q h0)]; exact x.keep b u q z, fun b q => x.there b (there_upd b q), x.als, x.ln, x.fresh⟩

def wipeS (sl : Sl) : List Nat → Sl
  | [] => sl
  | v :: vs => (wipeS sl vs).set v none
theorem wipeS_length : ∀ vs : List Nat, (wipeS sl vs).length = sl.length
  | [] => rfl
  | v :: vs => by unfold wipeS; rw [List.length_set, wipeS_length vs]
theorem wipeS_some {i : Nat} {x : SV} : ∀ {vs : List Nat}, (wipeS sl vs)[i]? = some (some x) → sl[i]? = some (some x) ∧ i ∉ vs
  | [], h => ⟨h, by simp⟩
  | v :: vs, h => by
    unfold wipeS at h
    rcases set_get h with ⟨_, q, _⟩ | ⟨ne, q⟩
    · cases q
    · obtain ⟨h1, h2⟩ := wipeS_some q
      exact ⟨h1, by simp only [List.mem_cons, not_or]; exact ⟨fun e => ne e.symm, h2⟩⟩
theorem wipe_keep {i : Nat} : ∀ {vs : List Nat}, i ∉ vs → (wipe σ vs)[i]? = σ[i]?
  | [], _ => rfl
  | v :: vs, h => by
    unfold wipe
    rw [List.getElem?_set_ne fun e => h (by rw [e]; exact List.mem_cons_self)]
    exact wipe_keep fun q => h (List.mem_cons_of_mem _ q)
theorem Wd.wipe (w : Wd T F al sl mu σ H) (vs : List Nat) : Wd T F al (wipeS sl vs) mu (L2.wipe σ vs) H where
  toMus := w.toMus
  len := by rw [wipeS_length, wipe_length]; exact w.len
  val := fun i d e => by
    obtain ⟨h1, h2⟩ := wipeS_some e
    rw [wipe_keep h2]
    exact w.val i d h1
  own := fun i d e => by
    obtain ⟨h1, h2⟩ := wipeS_some e
    rw [wipe_keep h2]
    exact w.own i d h1
  apart := fun i j m m' a ne e1 e2 g1 g2 => by
    obtain ⟨h1, h2⟩ := wipeS_some e1
    obtain ⟨h3, h4⟩ := wipeS_some e2
    rw [wipe_keep h2] at g1
    rw [wipe_keep h4] at g2
    exact w.apart i j m m' a ne h1 h3 g1 g2
theorem wipe_wipe : ∀ (vs : List Nat), wipe (wipe σ vs) vs = wipe σ vs := fun vs => by
  have key : ∀ ws : List Nat, (∀ i ∈ ws, i ∈ vs) → wipe (wipe σ vs) ws = wipe σ vs := by
    intro ws
    induction ws with
    | nil => intro _; rfl
    | cons w ws ih =>
      intro h
      show (wipe (wipe σ vs) ws).set w none = wipe σ vs
      rw [ih fun i hi => h i (List.mem_cons_of_mem _ hi)]
      have hw := h w List.mem_cons_self
      have none_at : ∀ vs : List Nat, w ∈ vs → (wipe σ vs).set w none = wipe σ vs := by
        intro vs
        induction vs with
        | nil => intro h; cases h
        | cons v vs ih2 =>
          intro h
          show ((wipe σ vs).set v none).set w none = (wipe σ vs).set v none
          by_cases e : v = w
          · subst e; rw [List.set_set]
          · rw [List.set_comm _ _ e]
            rcases List.mem_cons.mp h with h | h
            · exact absurd h.symm e
            · rw [ih2 h]
      exact none_at vs hw
  exact key vs fun _ h => h
end

/-- no exception -/
def noex {α : Type} (o : Out α) : Out α := match o with
  | .ex _ _ _ => .bad
  | o => o
def dLcL (g : Tg) (sw : Sl) (c : BF) (elt : EF) : List D → List D → Store → Out MO
  | [], acc, mu => .ok (.lst acc) mu
  | d :: ds, acc, mu => match g.run d sw with
    | none => .bad
    | some sl1 => obind (noex (c sl1 mu)) fun b mu1 => if b = true then obind (noex (elt sl1 mu1)) fun y mu2 => dLcL g sw c elt ds (acc ++ [y]) mu2 else dLcL g sw c elt ds acc mu1
def sizeOk (ds : List D) : Bool := decide (ds.length ≤ 16000000)
def dLc (src : LF) (g : Tg) (own : List Nat) (c : BF) (elt : EF) : NF := dBind src fun ds sl mu => if sizeOk ds = true then dLcL g (wipeS sl own) c elt ds [] mu else .bad
def dYes : BF := fun _ mu => .ok true mu
abbrev WF : WX := fun _ _ _ _ => False
abbrev DTs (X : Cx) (cl : Nat → Addr) (W : WX) (ifs : List PySem.Expr) (f : BF) : Prop := PTs X ifs (tG (Cx.th X cl) W RB f)
section
variable {X : Cx} {cl : Nat → Addr} {W : WX} {n : En} {elt iter tg e : PySem.Expr} {ifs : List PySem.Expr} {pos : Pos} {scope : Scope} {own : List (Str × Nat)} {src : LF} {g : Tg} {c : BF} {f : EF}
theorem dts_nil : DTs X cl W [] dYes := ⟨fun pins s σ H Q I h => by
  obtain ⟨F, al, sl, mu, w, po⟩ := h
  exact pts_nil.run pins s σ H Q I (Po.here po w.toMus rfl)⟩
theorem dts_one {c : BF} (h : DT X cl W e c) : DTs X cl W [e] c := pts_one h
/-- the turns of a comprehension -/
theorem lc_turns {T : Th} {F1 H1 : Hp} {al1 : Nat → Addr} {mu1 : Store} {sl : Sl} {σ : St} {vs : List Nat} {ds : List D} {J : It} {Q : VK} (w1 : Wd T F1 al1 sl mu1 σ H1) (hix : ∀ i ∈ g.ix, i ∈ vs) (hsz : ds.length ≤ 16000000) (r1 : RI T H F1 al1 mu1 H1 J ds)
    (po : Po T W F1 al1 mu1 σ H1 (RN T) (dLcL g (wipeS sl vs) c f ds [] mu1) Q) {D : Addr} (hD : H1 D = none) :
    ∃ W2 : Nat → Nat → Hp → Prop, (∃ m, W2 0 m (upd H1 D (.lst []))) ∧ ∀ i m H, W2 i m H →
      (J.stop i H ∧ Q (.ref D) H) ∨ (J.go i H ∧ ∃ Nx : Hp → Prop, (∀ H', Nx H' → ∃ m', m' < m ∧ W2 (i + 1) m' H') ∧ ∀ x H', J.yld i H x H' → tTgt T g x (wipe σ vs) H' fun σ2 H2 => wipe σ2 vs = wipe σ vs ∧ tG T WF RB c σ2 H2 fun b H3 =>
        if b = true then tG T WF (RD T) f σ2 H3 fun y H4 => ∃ acc, H4 D = some (.lst acc) ∧ acc.length < sizeLine ∧ Nx (upd H4 D (.lst (acc ++ [y]))) else Nx H3) := by
  obtain ⟨G, Y, wk, hG, hY⟩ := r1
  refine lc_it (Qd := fun H => Q (.ref D) H) wk (fun i H' => ∃ F2 al2 mu2 acc vs', Ext T F1 al1 mu1 H1 F2 al2 mu2 H' ∧ H' D = some (.lst vs') ∧ F2 D = none ∧ (∀ k m, mu2[k]? = some (some m) → al2 k ≠ D) ∧ RpL T F2 al2 mu2.length vs' acc ∧ acc.length ≤ i ∧
    Po T W F1 al1 mu1 σ H1 (RN T) (dLcL g (wipeS sl vs) c f (ds.drop i) acc mu2) Q) ?_ ?_ ?_ ?_
  · exact ⟨F1, al1, mu1, [], [], Ext.laidH w1.toMus hD, upd_same, w1.F_none hD, Mus.ne_laid w1.toMus hD, .nil, Nat.le_refl _, po⟩
  · rintro i H' _ ⟨F2, al2, mu2, acc, vs', x2, _⟩
    exact hG F2 H' x2.sub x2.mus.sub
  · rintro i x H' H'' hi ⟨F2, al2, mu2, acc, vs', x2, hd, hF, hm, ra, hl, po2⟩ y
    obtain ⟨d, F3, hdd, x3, r3⟩ := hY F2 al2 mu2 H' i x H'' x2.gr x2.mus hi y
    have e : ds.drop i = d :: ds.drop (i + 1) := by
      rw [List.getElem?_eq_some_iff] at hdd
      obtain ⟨h1, h2⟩ := hdd
      rw [← h2]
      exact List.drop_eq_getElem_cons h1
    rw [e] at po2
    unfold dLcL at po2
    split at po2
    · exact False.elim po2
    · rename_i sl3 hg3
      have x4 := x2.trans x3
      obtain ⟨hd4, hF4, hm4⟩ := x3.guard hd hF hm
      refine ⟨F3, al2, wipeS sl vs, mu2, d, sl3, (w1.wipe vs).ext x4, r3, hg3, fun σ' w' _ ix' => ⟨by rw [ix' vs hix, wipe_wipe], F3, al2, sl3, mu2, w', ?_⟩⟩
      cases z : c sl3 mu2 with
      | bad => rw [z] at po2; exact po2
      | ex a b d => rw [z] at po2; exact False.elim po2
      | ok b mu3 =>
        rw [z] at po2
        intro v F5 al5 H5 x5 r5
        cases r5
        obtain ⟨hd5, hF5, hm5⟩ := x5.guard hd4 hF4 hm4
        cases b with
        | false =>
          exact ⟨F5, al5, mu3, acc, vs', x4.trans x5, hd5, hF5, hm5, x5.rpL (x3.rpL ra), by omega, po2⟩
        | true =>
          show tG T WF (RD T) f σ' H5 _
          refine ⟨F5, al5, sl3, mu3, w'.ext x5, ?_⟩
          cases z2 : f sl3 mu3 with
          | bad => simp only [noex, obind, if_true, z2] at po2; exact po2
          | ex a b d => simp only [noex, obind, if_true, z2] at po2; exact False.elim po2
          | ok y mu4 =>
            simp only [noex, obind, if_true, z2] at po2
            intro u F6 al6 H6 x6 r6
            obtain ⟨hd6, hF6, hm6⟩ := x6.guard hd5 hF5 hm5
            have hlen := RpL.len ra
            refine ⟨vs', hd6, by rw [hlen, sizeLine_eq]; omega, F6, al6, mu4, acc ++ [y], vs' ++ [u], ((x4.trans x5).trans x6).updNew hD hF6 hm6, upd_same, hF6, hm6, ?_, by simp; omega, po2⟩
            have happ : ∀ {us : List V} {es : List DL.D}, RpL T F6 al6 mu4.length us es → RpL T F6 al6 mu4.length (us ++ [u]) (es ++ [y]) := by
              intro us
              induction us with
              | nil =>
                intro es h
                cases h
                exact .cons r6 .nil
              | cons v us ih =>
                intro es h
                cases h with
                | cons h1 h2 => exact .cons h1 (ih h2)
            exact happ (x6.rpL (x5.rpL (x3.rpL ra)))
  · rintro H' ⟨F2, al2, mu2, acc, vs', x2, hd, hF, hm, ra, hl, po2⟩
    rw [List.drop_length] at po2
    exact po2 _ F2 al2 H' x2 ⟨D, _, rfl, hD, hF, hd, ra, hm⟩
theorem dn_lc (hc : X.calm = true) (hN : X.N.Nodup) (hi : DI X cl W tg iter src) (ok : BlkOk X.N X.env.scope scope own) (hg : ∀ (s : Shared) (H : Hp) (C : Addr) (l : List (Str × Addr)) (fp : List Addr), DG (X.blk s H scope (compEnvC scope l C X.env) fp) cl tg g)
    (ht : ∀ (s : Shared) (H : Hp) (C : Addr) (l : List (Str × Addr)) (fp : List Addr), DTs (X.blk s H scope (compEnvC scope l C X.env) fp) cl WF ifs c) (he : ∀ (s : Shared) (H : Hp) (C : Addr) (l : List (Str × Addr)) (fp : List Addr), DE (X.blk s H scope (compEnvC scope l C X.env) fp) cl WF elt f)
    (hix : ∀ i ∈ g.ix, i ∈ own.map (·.2)) (hs : ∀ x, foldedSetIterable iter X.env x = pure x := by intro _; rfl) : DN X cl W (.ListComp elt [⟨tg, iter, ifs, 0⟩] scope pos) (dLc src g (own.map (·.2)) c f) :=
  PE.imp (pe_lc hc hN hi ok hg ht he hs) fun σ H Q q => by
    obtain ⟨F, al, sl, mu, w, po⟩ := q
    refine seqG back_RN w po rfl fun J ds F1 al1 mu1 H1 x1 w1 r1 po1 D hD => ?_
    dsimp only at po1
    split at po1
    · rename_i hsz
      exact lc_turns (W := W) (H := H) w1 hix (of_decide_eq_true hsz) r1 po1 hD
    · exact False.elim po1
/-- y = [.. for ..] -/
theorem ds_lc {i : Nat} {y : Str} {py spos : Pos} (hc : X.calm = true) (hN : X.N.Nodup) (hy : X.N[i]? = some y) (hyl : X.env.scope.names.lookup y = some .local) (hsw : swapsWith (.ListComp elt [⟨tg, iter, ifs, 0⟩] scope pos) (some (.Name y py)) spos.line X.env = pure true)
    (hi : DI X cl W tg iter src) (ok : BlkOk X.N X.env.scope scope own) (hg : ∀ (s : Shared) (H : Hp) (C : Addr) (l : List (Str × Addr)) (fp : List Addr), DG (X.blk s H scope (compEnvC scope l C X.env) fp) cl tg g)
    (ht : ∀ (s : Shared) (H : Hp) (C : Addr) (l : List (Str × Addr)) (fp : List Addr), DTs (X.blk s H scope (compEnvC scope l C X.env) fp) cl WF ifs c) (he : ∀ (s : Shared) (H : Hp) (C : Addr) (l : List (Str × Addr)) (fp : List Addr), DE (X.blk s H scope (compEnvC scope l C X.env) fp) cl WF elt f)
    (hix : ∀ i ∈ g.ix, i ∈ own.map (·.2)) (hs : ∀ x, foldedSetIterable iter X.env x = pure x := by intro _; rfl) : DS X cl W n (.Assign [.Name y py] (.ListComp elt [⟨tg, iter, ifs, 0⟩] scope pos) spos) (sOwn i (dLc src g (own.map (·.2)) c f)) :=
  PS.imp (ps_setLc hc hN hy hyl hsw hi ok hg ht he hs) fun Z σ H q => by
    obtain ⟨F, al, sl, mu, w, po⟩ := q
    have q2 : tG (Cx.th X cl) W (RN (Cx.th X cl)) (dLc src g (own.map (·.2)) c f) σ H fun v H' => Z.nx (σ.set i (some v)) H' :=
      seqS w po rfl fun v m F1 al1 mu1 H1 x1 w1 r1 po1 => PoS.nx po1 (w.setOwn x1 r1)
    obtain ⟨F, al, sl, mu, w, po⟩ := q2
    refine seqG back_RN w po rfl fun J ds F1 al1 mu1 H1 x1 w1 r1 po1 D hD => ?_
    dsimp only at po1
    split at po1
    · rename_i hsz
      exact lc_turns (W := W) (H := H) (Q := fun v H' => Z.nx (σ.set i (some v)) H') w1 hix (of_decide_eq_true hsz) r1 po1 hD
    · exact False.elim po1
end

/-! ### what is walked -/
def lItems (d : D) : Option (List D) := match d with
  | .lst l => some l
  | .tup l => some l
  | _ => none
def dItL (f : EF) : LF := dBind f fun d _ mu => match d with
  | .lst l => .ok l mu
  | _ => .bad
def dItT (f : EF) : LF := dBind f fun d _ mu => match d with
  | .tup l => .ok l mu
  | _ => .bad
def rangeD (lo : Int) (n : Nat) : List D := (List.range n).map fun i => .int (lo + (i : Nat))
def rgOk (j : Int) : Bool := decide (-1000000000 ≤ j) && decide (j ≤ 1000000000)
theorem rgOk_of {j : Int} (h : rgOk j = true) : -1000000000 ≤ j ∧ j ≤ 1000000000 := by
  unfold rgOk at h
  rw [Bool.and_eq_true] at h
  exact ⟨of_decide_eq_true h.1, of_decide_eq_true h.2⟩
theorem rgOk_nat {n : Nat} (h : n ≤ 1000000000) : rgOk (n : Int) = true := by
  unfold rgOk
  rw [Bool.and_eq_true]
  exact ⟨decide_eq_true (by omega), decide_eq_true (by omega)⟩
def dRg1 (f : EF) : LF := dBind f fun d _ mu => match d with
  | .int j => if rgOk j = true then .ok (rangeD 0 j.toNat) mu else .bad
  | _ => .bad
def dRg2 (f g : EF) : LF := dBind f fun d => dBind g fun e _ mu => match d, e with
  | .int i, .int j => if (rgOk i && rgOk j) = true then .ok (rangeD i (j - i).toNat) mu else .bad
  | _, _ => .bad
def signsD (z : Str) : List D := z.cps.toList.map fun c => .str ⟨#[c]⟩
def dItS (f : EF) : LF := dBind f fun d _ mu => match d with
  | .str z => .ok (signsD z) mu
  | _ => .bad
section
variable {X : Cx} {cl : Nat → Addr} {W : WX} {e tg a b : PySem.Expr} {f fa fb : EF} {pos p1 : Pos}
theorem back_RI {T : Th} : Back (RI T) := fun _ _ _ _ _ _ _ _ _ h => h
theorem PI.imp {t t' : TI} (h : PI X tg e t) (i : ∀ σ H R, t' σ H R → t σ H R) : PI X tg e t' := ⟨fun pins s σ H R I q => h.run pins s σ H R I (i σ H R q)⟩
theorem gr_at {T : Th} {F F' : Hp} {al al' : Nat → Addr} {mu mu' : Store} {xs : List V} {ds : List D} {i : Nat} {x : V} (g : Gr F al mu F' al' mu') (h : RpL T F al mu.length xs ds) (e : xs[i]? = some x) : ∃ d, ds[i]? = some d ∧ Rp T F' al' mu'.length x d := by
  have h' := RpL.mono (T := T) g.sub g.als g.ln h
  have hl := RpL.len h'
  have hi : i < xs.length := (List.getElem?_eq_some_iff.mp e).1
  cases q : ds[i]? with
  | none => rw [List.getElem?_eq_none_iff] at q; omega
  | some d =>
    obtain ⟨v, h1, h2⟩ := h'.get q
    rw [e] at h1; cases h1
    exact ⟨d, rfl, h2⟩
theorem di_list (h : DE X cl W e f) : DI X cl W tg e (dItL f) := PI.imp (pi_list h) fun σ H R q => by
  obtain ⟨F, al, sl, mu, w, po⟩ := q
  refine seqG back_RI w po rfl fun v d F1 al1 mu1 H1 x1 w1 r1 po1 => ?_
  cases r1 with
  | @lst a xs ds ha hl =>
    refine ⟨a, rfl, ⟨xs, SqL.of (w1.sub _ _ ha)⟩, Po.here po1 w1.toMus ⟨_, _, by rw [← RpL.len hl]; exact walk_list (xs := xs), fun F' H' s1 s2 => SqL.of (s2 _ _ (s1 _ _ ha)), fun F' al' mu' H' i x H2 g m hi y => ?_⟩⟩
    obtain ⟨rfl, hx⟩ := y
    obtain ⟨d, h1, h2⟩ := gr_at g hl hx
    exact ⟨d, F', h1, Ext.refl m, h2⟩
  | _ => exact False.elim po1
theorem di_tup (h : DE X cl W e f) : DI X cl W tg e (dItT f) := PI.imp (pi_tup h) fun σ H R q => by
  obtain ⟨F, al, sl, mu, w, po⟩ := q
  refine seqG back_RI w po rfl fun v d F1 al1 mu1 H1 x1 w1 r1 po1 => ?_
  cases r1 with
  | @tup a xs ds ha hl =>
    refine ⟨a, rfl, ⟨xs, sqT_mono w1.sub ha⟩, Po.here po1 w1.toMus ⟨_, _, by rw [← RpL.len hl]; exact walk_tup (xs := xs), fun F' H' s1 s2 => sqT_mono s2 (s1 _ _ ha), fun F' al' mu' H' i x H2 g m hi y => ?_⟩⟩
    obtain ⟨rfl, hx⟩ := y
    obtain ⟨d, h1, h2⟩ := gr_at g hl hx
    exact ⟨d, F', h1, Ext.refl m, h2⟩
  | _ => exact False.elim po1
theorem rangeD_len {lo : Int} {n : Nat} : (rangeD lo n).length = n := by unfold rangeD; simp
theorem ri_range {T : Th} {H0 F H : Hp} {al : Nat → Addr} {mu : Store} {lo : Int} {n : Nat} : RI T H0 F al mu H (Itr lo n) (rangeD lo n) :=
  ⟨_, _, by rw [rangeD_len]; exact walk_range, fun _ _ _ _ => trivial, fun F' al' mu' H' i x H2 g m hi y => by
    obtain ⟨rfl, rfl⟩ := y
    rw [rangeD_len] at hi
    exact ⟨.int (lo + (i : Nat)), F', by unfold rangeD; simp [hi], Ext.refl m, .int _⟩⟩
theorem di_range1 {g : LF} (hg : Gl X "range") (hm : X.mg "range" = none) (ha : DAs X cl W [a] g) (hf : g = dCons fa dNil) (hs : starEach [a] X.env = [(false, eval a X.env)] := by rfl) : DI X cl W tg (.Call (.Name "range" p1) [a] [] pos) (dRg1 fa) :=
  PI.imp (pi_range1 hg hm ha hs) fun σ H R q => by
    obtain ⟨F, al, sl, mu, w, po⟩ := q
    subst hf
    refine ⟨F, al, sl, mu, w, ?_⟩
    unfold dCons dNil dBind obind
    unfold dRg1 dBind obind at po
    cases z : fa sl mu with
    | bad => rw [z] at po; exact po
    | ex c fs mu1 => rw [z] at po; exact po
    | ok d mu1 =>
      rw [z] at po
      intro vs F1 al1 H1 x1 r1
      cases r1 with
      | cons r1 r2 =>
        cases r2
        cases r1 with
        | int j =>
          dsimp only at po
          split at po
          · rename_i hj
            have hj := rgOk_of hj
            exact ⟨j, rfl, by omega, by omega, po _ F1 al1 H1 x1 ri_range⟩
          · exact False.elim po
        | _ => exact False.elim po
theorem di_range2 {g : LF} (hg : Gl X "range") (hm : X.mg "range" = none) (ha : DAs X cl W [a, b] g) (hf : g = dCons fa (dCons fb dNil)) (hs : starEach [a, b] X.env = [(false, eval a X.env), (false, eval b X.env)] := by rfl) (hs2 : starEach [b] X.env = [(false, eval b X.env)] := by rfl) : DI X cl W tg (.Call (.Name "range" p1) [a, b] [] pos) (dRg2 fa fb) :=
  PI.imp (pi_range2 hg hm ha hs hs2) fun σ H R q => by
    obtain ⟨F, al, sl, mu, w, po⟩ := q
    subst hf
    refine ⟨F, al, sl, mu, w, ?_⟩
    unfold dCons dNil dBind obind
    unfold dRg2 dBind obind at po
    cases z : fa sl mu with
    | bad => rw [z] at po; exact po
    | ex c fs mu1 => rw [z] at po; exact po
    | ok d mu1 =>
      rw [z] at po
      dsimp only at po ⊢
      cases z2 : fb sl mu1 with
      | bad => rw [z2] at po; exact po
      | ex c fs mu1 => rw [z2] at po; exact po
      | ok e mu2 =>
        rw [z2] at po
        intro vs F1 al1 H1 x1 r1
        cases r1 with
        | cons r1 r2 =>
          cases r2 with
          | cons r2 r3 =>
            cases r3
            cases r1 with
            | int i =>
              cases r2 with
              | int j =>
                dsimp only at po
                split at po
                · rename_i hj
                  rw [Bool.and_eq_true] at hj
                  have hi := rgOk_of hj.1
                  have hj := rgOk_of hj.2
                  exact ⟨i, j, rfl, ⟨by omega, by omega, by omega, by omega⟩, po _ F1 al1 H1 x1 ri_range⟩
                · exact False.elim po
              | _ => exact False.elim po
            | _ => exact False.elim po
theorem di_str (h : DE X cl W e f) : DI X cl W tg e (dItS f) := PI.imp (pi_str h) fun σ H R q => by
  obtain ⟨F, al, sl, mu, w, po⟩ := q
  refine seqG back_RI w po rfl fun v d F1 al1 mu1 H1 x1 w1 r1 po1 => ?_
  cases r1 with
  | str z =>
    have hl : (signsD z).length = z.cps.size := by unfold signsD; simp
    refine ⟨z, rfl, Po.here po1 w1.toMus ⟨_, _, by rw [hl]; exact walk_str (z := z), fun _ _ _ _ => trivial, fun F' al' mu' H' i x H2 g m hi y => ?_⟩⟩
    obtain ⟨rfl, c, h1, rfl⟩ := y
    refine ⟨.str ⟨#[c]⟩, F', ?_, Ext.refl m, .str _⟩
    unfold signsD
    rw [List.getElem?_map]
    have : z.cps.toList[i]? = some c := by simpa using h1
    rw [this]; rfl
  | _ => exact False.elim po1
end
end DL
end

section
set_option Elab.async false
set_option linter.all false
set_option maxRecDepth 100000
set_option maxHeartbeats 4000000
/-! DK: operands that are looked into, built-ins of one argument, subscripts, slices. -/
namespace DL
open PySem L2
def lookD (mu : Store) : D → D
  | .obj k => match mu[k]? with
    | some (some m) => m.d
    | _ => .obj k
  | d => d
/-- as it stands just now: its top in H, what is within in F -/
def Top (T : Th) (F : Hp) (al : Nat → Addr) (n : Nat) (H : Hp) (v : V) : D → Prop
  | .lst ds => ∃ a xs, v = .ref a ∧ H a = some (.lst xs) ∧ RpL T F al n xs ds
  | .ins c fs => T.cls c ≠ 0 ∧ ∃ a dx vs, v = .ref a ∧ H a = some (.ins (T.cls c) dx vs) ∧ RpF T F al n vs fs
  | .dct _ => False
  | d => Rp T F al n v d
section
variable {T : Th} {F F1 H H1 : Hp} {al al1 : Nat → Addr} {mu mu1 : Store} {sl : Sl} {σ : St} {v : V} {d : D}
theorem top_of (m : Mus T F al mu H) (r : Rp T F al mu.length v d) : Top T F al mu.length H v d := by
  cases r with
  | lst h1 h2 => exact ⟨_, _, rfl, m.sub _ _ h1, h2⟩
  | ins h0 h1 h2 => exact ⟨h0, _, _, _, rfl, m.sub _ _ h1, h2⟩
  | non => exact .non
  | bl b => exact .bl b
  | int i => exact .int i
  | str x => exact .str x
  | tup h1 h2 => exact .tup h1 h2
  | obj h => exact .obj h
  | frl h1 h2 => exact .frl h1 h2
theorem top_conc {a : Addr} {o : HO} {m : MO} (h : H a = some o) (c : Conc T F al mu.length o m) : Top T F al mu.length H (.ref a) m.d := by
  cases o <;> cases m <;> first
    | exact False.elim c
    | exact ⟨_, _, rfl, h, c⟩
    | (obtain ⟨⟨c1, c3⟩, c2⟩ := c; subst c1; exact ⟨c3, _, _, _, rfl, h, c2⟩)
theorem top_look (m : Mus T F al mu H) (r : Rp T F al mu.length v d) : Top T F al mu.length H v (lookD mu d) := by
  cases r with
  | @obj k hk =>
    unfold lookD
    dsimp only
    split
    · rename_i m' e
      obtain ⟨_, o, h1, h2⟩ := m.at_ k m' e
      exact top_conc h1 h2
    · exact .obj hk
  | lst h1 h2 => exact ⟨_, _, rfl, m.sub _ _ h1, h2⟩
  | ins h0 h1 h2 => exact ⟨h0, _, _, _, rfl, m.sub _ _ h1, h2⟩
  | non => exact .non
  | bl b => exact .bl b
  | int i => exact .int i
  | str x => exact .str x
  | tup h1 h2 => exact .tup h1 h2
  | frl h1 h2 => exact .frl h1 h2
end
def RK (T : Th) : Rel V D := fun _ F al mu H v d => Top T F al mu.length H v d
abbrev DKk (X : Cx) (cl : Nat → Addr) (W : WX) (e : PySem.Expr) (f : EF) : Prop := PE X e (tG (Cx.th X cl) W (RK (Cx.th X cl)) f)
def dLook (f : EF) : EF := dBind f fun d _ mu => .ok (lookD mu d) mu
def dOwnV (i : Nat) : EF := fun sl mu => match sl[i]? with
  | some (some (.own m)) => .ok m.d mu
  | some (some (.val d)) => .ok (lookD mu d) mu
  | _ => .bad
def Pur1K (T : Th) (r : List V → Hp → VK → Prop) (g : D → Option D) : Prop := ∀ (F : Hp) (al : Nat → Addr) (mu : Store) (H : Hp), Mus T F al mu H → ∀ (x : V) (d res : D), Top T F al mu.length H x d → g d = some res → ∀ Q : VK,
  (∀ v F' H', Ext T F al mu H F' al mu H' → Rp T F' al mu.length v res → Q v H') → r [x] H Q
def Pur1N (T : Th) (r : List V → Hp → VK → Prop) (g : D → Option MO) : Prop := ∀ (F : Hp) (al : Nat → Addr) (mu : Store) (H : Hp), Mus T F al mu H → ∀ (x : V) (d : D) (res : MO), Top T F al mu.length H x d → g d = some res → ∀ Q : VK,
  (∀ v F' H', Ext T F al mu H F' al mu H' → RN T H F' al mu H' v res → Q v H') → r [x] H Q
def dNw1 (g : D → Option MO) (f : EF) : NF := dBind f fun d _ mu => match g d with
  | some r => .ok r mu
  | none => .bad
section
variable {X : Cx} {cl : Nat → Addr} {W : WX} {a b e : PySem.Expr} {f fa fb : EF} {pos p1 : Pos} {x : Str} {id : String} {r : List V → Hp → VK → Prop}
theorem dk_look (h : DE X cl W e f) : DKk X cl W e (dLook f) := PE.imp h fun σ H Q q => by
  obtain ⟨F, al, sl, mu, w, po⟩ := q
  refine ⟨F, al, sl, mu, w, ?_⟩
  unfold dLook dBind obind at po
  cases z : f sl mu with
  | ok d mu1 =>
    rw [z] at po
    exact fun v F1 al1 H1 x1 r1 => po v F1 al1 H1 x1 (top_look x1.mus r1)
  | ex c fs mu1 => rw [z] at po; exact po
  | bad => rw [z] at po; exact po
theorem dk_own {i : Nat} (h : PE X e (tVar i)) : DKk X cl W e (dOwnV i) := PE.imp h fun σ H Q q => by
  obtain ⟨F, al, sl, mu, w, po⟩ := q
  unfold dOwnV at po
  split at po
  · rename_i m hm
    obtain ⟨a, o, h1, h2, h3, h4, h5⟩ := w.own i m hm
    exact ⟨_, h1, po _ F al H (Ext.refl w.toMus) (top_conc h3 h4)⟩
  · rename_i d hd
    obtain ⟨v, h1, h2⟩ := w.val i d hd
    exact ⟨v, h1, po _ F al H (Ext.refl w.toMus) (top_look w.toMus h2)⟩
  · exact False.elim po
theorem tCB1 {g : D → Option D} (hr : Pur1K (Cx.th X cl) r g) {σ : St} {H : Hp} {Q : VK} (q : tG (Cx.th X cl) W (RD (Cx.th X cl)) (dOp1 g f) σ H Q) : tCB r (tCons (tG (Cx.th X cl) W (RK (Cx.th X cl)) f) tNil) σ H Q := by
  obtain ⟨F, al, sl, mu, w, po⟩ := q
  refine seqG back_RD w po rfl fun v d F1 al1 mu1 H1 x1 w1 r1 po1 => ?_
  dsimp only at po1
  cases z : g d with
  | none => rw [z] at po1; exact False.elim po1
  | some res =>
    rw [z] at po1
    exact hr F1 al1 mu1 H1 w1.toMus v d res r1 z Q fun v' F' H' x' r' => po1 v' F' al1 H' x' r'
theorem tCB1N {g : D → Option MO} (hr : Pur1N (Cx.th X cl) r g) {σ : St} {H : Hp} {Q : VK} (q : tG (Cx.th X cl) W (RN (Cx.th X cl)) (dNw1 g f) σ H Q) : tCB r (tCons (tG (Cx.th X cl) W (RK (Cx.th X cl)) f) tNil) σ H Q := by
  obtain ⟨F, al, sl, mu, w, po⟩ := q
  refine seqG back_RN w po rfl fun v d F1 al1 mu1 H1 x1 w1 r1 po1 => ?_
  dsimp only at po1
  cases z : g d with
  | none => rw [z] at po1; exact False.elim po1
  | some res =>
    rw [z] at po1
    exact hr F1 al1 mu1 H1 w1.toMus v d res r1 z Q fun v' F' H' x' r' => po1 v' F' al1 H' x' r'
theorem de_b1 {g : D → Option D} (hc : CallR X (.builtin id) r) (hr : Pur1K (Cx.th X cl) r g) (hg : Gl X x) (hm : X.mg x = none) (hv : bootBuiltins x = some (.builtin id)) (h : DKk X cl W e f) (hn : x ≠ "__name__" := by decide) (hdb : (x == ("__debug__" : Str)) = false := by decide)
    (he : starEach [e] X.env = (false, eval e X.env) :: starEach [] X.env := by rfl) (hpl : (backTo pos (starEach [] X.env)).any (·.1) = false := by rfl) : DE X cl W (.Call (.Name x p1) [e] [] pos) (dOp1 g f) :=
  PE.imp (pe_callB hc hg hm hv (pa_cons h pa_nil he) hn hdb he hpl) fun σ H Q q => tCB1 hr q
theorem de_t1 {g : D → Option D} (hc : CallR X (.type id) r) (hr : Pur1K (Cx.th X cl) r g) (hg : Gl X x) (hm : X.mg x = none) (hv : bootBuiltins x = some (.type id)) (h : DKk X cl W e f) (hn : x ≠ "__name__" := by decide) (hdb : (x == ("__debug__" : Str)) = false := by decide)
    (he : starEach [e] X.env = (false, eval e X.env) :: starEach [] X.env := by rfl) (hpl : (backTo pos (starEach [] X.env)).any (·.1) = false := by rfl) : DE X cl W (.Call (.Name x p1) [e] [] pos) (dOp1 g f) :=
  PE.imp (pe_callTy hc hg hm hv (pa_cons h pa_nil he) hn hdb he hpl) fun σ H Q q => tCB1 hr q
theorem dn_b1 {g : D → Option MO} (hc : CallR X (.builtin id) r) (hr : Pur1N (Cx.th X cl) r g) (hg : Gl X x) (hm : X.mg x = none) (hv : bootBuiltins x = some (.builtin id)) (h : DKk X cl W e f) (hn : x ≠ "__name__" := by decide) (hdb : (x == ("__debug__" : Str)) = false := by decide)
    (he : starEach [e] X.env = (false, eval e X.env) :: starEach [] X.env := by rfl) (hpl : (backTo pos (starEach [] X.env)).any (·.1) = false := by rfl) : DN X cl W (.Call (.Name x p1) [e] [] pos) (dNw1 g f) :=
  PE.imp (pe_callB hc hg hm hv (pa_cons h pa_nil he) hn hdb he hpl) fun σ H Q q => tCB1N hr q
theorem dn_t1 {g : D → Option MO} (hc : CallR X (.type id) r) (hr : Pur1N (Cx.th X cl) r g) (hg : Gl X x) (hm : X.mg x = none) (hv : bootBuiltins x = some (.type id)) (h : DKk X cl W e f) (hn : x ≠ "__name__" := by decide) (hdb : (x == ("__debug__" : Str)) = false := by decide)
    (he : starEach [e] X.env = (false, eval e X.env) :: starEach [] X.env := by rfl) (hpl : (backTo pos (starEach [] X.env)).any (·.1) = false := by rfl) : DN X cl W (.Call (.Name x p1) [e] [] pos) (dNw1 g f) :=
  PE.imp (pe_callTy hc hg hm hv (pa_cons h pa_nil he) hn hdb he hpl) fun σ H Q q => tCB1N hr q

/-! ### len, abs, int, list, tuple, all, str of an int -/
def lenD : D → Option D
  | .lst l => some (.int l.length)
  | .tup l => some (.int l.length)
  | .str z => if z.length ≤ 16000000 then some (.int z.length) else none
  | _ => none
theorem de_len (hg : Gl X "len") (hm : X.mg "len" = none) (h : DKk X cl W e f) (he : starEach [e] X.env = (false, eval e X.env) :: starEach [] X.env := by rfl) (hpl : (backTo pos (starEach [] X.env)).any (·.1) = false := by rfl) : DE X cl W (.Call (.Name "len" p1) [e] [] pos) (dOp1 lenD f) := by
  refine de_b1 (CallR.or call_len_seq call_len_str) (fun F al mu H m x d res t e Q k => ?_) hg hm boot_len h (by decide) (by decide) he hpl
  cases d with
  | lst l =>
    cases e
    obtain ⟨a, xs, rfl, h1, h2⟩ := t
    exact .inl ⟨a, xs, rfl, .inl (SqL.of h1), k _ F H (Ext.refl m) (by rw [RpL.len h2]; exact .int _)⟩
  | tup l =>
    cases e
    cases (show Rp _ _ _ _ _ _ from t) with
    | tup h1 h2 => exact .inl ⟨_, _, rfl, .inr (sqT_mono m.sub h1), k _ F H (Ext.refl m) (by rw [RpL.len h2]; exact .int _)⟩
  | str z =>
    have e' : (if z.length ≤ 16000000 then some (D.int z.length) else none) = some res := e
    by_cases hz : z.length ≤ 16000000
    · rw [if_pos hz] at e'
      cases e'
      cases (show Rp _ _ _ _ _ _ from t)
      exact .inr ⟨z, rfl, by rw [sizeLine_eq]; omega, k _ F H (Ext.refl m) (.int _)⟩
    · rw [if_neg hz] at e'
      cases e'
  | _ => cases e
def absD : D → Option D
  | .int i => some (.int (if i < 0 then -i else i))
  | _ => none
theorem de_abs (hg : Gl X "abs") (hm : X.mg "abs" = none) (h : DKk X cl W e f) (he : starEach [e] X.env = (false, eval e X.env) :: starEach [] X.env := by rfl) (hpl : (backTo pos (starEach [] X.env)).any (·.1) = false := by rfl) : DE X cl W (.Call (.Name "abs" p1) [e] [] pos) (dOp1 absD f) := by
  refine de_b1 call_abs (fun F al mu H m x d res t e Q k => ?_) hg hm (by decide +kernel) h (by decide) (by decide) he hpl
  cases d with
  | int i =>
    cases e
    cases (show Rp _ _ _ _ _ _ from t)
    exact ⟨_, rfl, k _ F H (Ext.refl m) (.int _)⟩
  | _ => cases e
def intD : D → Option D
  | .int i => some (.int i)
  | .bl b => some (.int (if b then 1 else 0))
  | _ => none
theorem de_int1 (hg : Gl X "int") (hm : X.mg "int" = none) (h : DKk X cl W e f) (he : starEach [e] X.env = (false, eval e X.env) :: starEach [] X.env := by rfl) (hpl : (backTo pos (starEach [] X.env)).any (·.1) = false := by rfl) : DE X cl W (.Call (.Name "int" p1) [e] [] pos) (dOp1 intD f) := by
  refine de_t1 call_int1 (fun F al mu H m x d res t e Q k => ?_) hg hm (by decide +kernel) h (by decide) (by decide) he hpl
  cases d with
  | int i =>
    cases e
    cases (show Rp _ _ _ _ _ _ from t)
    exact .inl ⟨_, rfl, k _ F H (Ext.refl m) (.int _)⟩
  | bl i =>
    cases e
    cases (show Rp _ _ _ _ _ _ from t)
    exact .inr ⟨_, rfl, k _ F H (Ext.refl m) (.int _)⟩
  | _ => cases e
def listD : D → Option MO
  | .lst l => some (.lst l)
  | .tup l => some (.lst l)
  | _ => none
theorem rn_new {T : Th} {F H : Hp} {al : Nat → Addr} {mu : Store} {p : Addr} {o : HO} {m : MO} (M : Mus T F al mu H) (hp : H p = none) (c : Conc T F al mu.length o m) : RN T H F al mu (upd H p o) (.ref p) m := ⟨p, o, rfl, hp, M.F_none hp, upd_same, c, Mus.ne_laid M hp⟩
theorem dn_list (hg : Gl X "list") (hm : X.mg "list" = none) (h : DKk X cl W e f) (he : starEach [e] X.env = (false, eval e X.env) :: starEach [] X.env := by rfl) (hpl : (backTo pos (starEach [] X.env)).any (·.1) = false := by rfl) : DN X cl W (.Call (.Name "list" p1) [e] [] pos) (dNw1 listD f) := by
  refine dn_t1 call_list_of (fun F al mu H m x d res t e Q k => ?_) hg hm (by decide +kernel) h (by decide) (by decide) he hpl
  cases d with
  | lst l =>
    cases e
    obtain ⟨a, xs, rfl, h1, h2⟩ := t
    exact ⟨a, xs, rfl, .inl (SqL.of h1), fun p hp => k _ F _ (Ext.laidH m hp) (rn_new (o := .lst xs) (m := .lst l) m hp h2)⟩
  | tup l =>
    cases e
    cases (show Rp _ _ _ _ _ _ from t) with
    | @tup a xs ds h1 h2 => exact ⟨a, xs, rfl, .inr (sqT_mono m.sub h1), fun p hp => k _ F _ (Ext.laidH m hp) (rn_new (o := .lst xs) (m := .lst l) m hp h2)⟩
  | _ => cases e
def tupleD : D → Option D
  | .lst l => some (.tup l)
  | .tup l => some (.tup l)
  | _ => none
theorem de_tuple (hg : Gl X "tuple") (hm : X.mg "tuple" = none) (h : DKk X cl W e f) (he : starEach [e] X.env = (false, eval e X.env) :: starEach [] X.env := by rfl) (hpl : (backTo pos (starEach [] X.env)).any (·.1) = false := by rfl) : DE X cl W (.Call (.Name "tuple" p1) [e] [] pos) (dOp1 tupleD f) := by
  refine de_t1 call_tuple_of (fun F al mu H m x d res t e Q k => ?_) hg hm (by decide +kernel) h (by decide) (by decide) he hpl
  cases d with
  | lst l =>
    cases e
    obtain ⟨a, xs, rfl, h1, h2⟩ := t
    exact ⟨a, xs, rfl, .inl ⟨SqL.of h1, fun p hp => k _ _ _ (Ext.laidF m (o := .tup xs) hp) (.tup upd_same ((Ext.laidF m hp).rpL h2))⟩⟩
  | tup l =>
    cases e
    cases (show Rp _ _ _ _ _ _ from t) with
    | @tup a xs ds h1 h2 => exact ⟨a, xs, rfl, .inr ⟨sqT_mono m.sub h1, k _ F H (Ext.refl m) (.tup h1 h2)⟩⟩
  | _ => cases e
/-- a list of truth values -/
def boolsD : List D → Option (List Bool)
  | [] => some []
  | .bl b :: l => (boolsD l).map (b :: ·)
  | _ => none
def allD : D → Option D
  | .lst l => (boolsD l).map fun bs => .bl (bs.all _root_.id)
  | _ => none
theorem boolsD_rp {T : Th} {F : Hp} {al : Nat → Addr} {n : Nat} : ∀ {l : List D} {xs : List V} {bs : List Bool}, RpL T F al n xs l → boolsD l = some bs → xs = bs.map V.bl
  | [], _, _, r, e => by cases r; cases e; rfl
  | d :: l, _, bs, r, e => by
    cases r with
    | cons r1 r2 =>
      cases d with
      | bl b =>
        cases r1
        obtain ⟨bs', h1, rfl⟩ := Option.map_eq_some_iff.mp e
        rw [boolsD_rp r2 h1]; rfl
      | _ => cases e
theorem de_all (hc : X.calm = true) (hg : Gl X "all") (hm : X.mg "all" = none) (h : DKk X cl W e f) (he : starEach [e] X.env = (false, eval e X.env) :: starEach [] X.env := by rfl) (hpl : (backTo pos (starEach [] X.env)).any (·.1) = false := by rfl) : DE X cl W (.Call (.Name "all" p1) [e] [] pos) (dOp1 allD f) := by
  refine de_b1 (cr_all hc) (fun F al mu H m x d res t e Q k => ?_) hg hm (by decide +kernel) h (by decide) (by decide) he hpl
  cases d with
  | lst l =>
    obtain ⟨bs, h1, rfl⟩ := Option.map_eq_some_iff.mp e
    obtain ⟨a, xs, rfl, h2, h3⟩ := t
    exact ⟨a, bs, rfl, by rw [← boolsD_rp h3 h1]; exact SqL.of h2, k _ F H (Ext.refl m) (.bl _)⟩
  | _ => cases e
end
end DL
end

section
set_option Elab.async false
set_option linter.all false
set_option maxRecDepth 100000
set_option maxHeartbeats 4000000
/-! DM: arithmetic, comparisons, in, is, subscripts, slices. -/
namespace DL
open PySem L2
mutual
def toP : D → Option PyData
  | .non => some .none
  | .bl b => some (.bool b)
  | .int i => some (.int i)
  | .str x => some (.str x)
  | .lst l => match toPL l with
    | some ps => some (.list ps)
    | none => none
  | .tup l => match toPL l with
    | some ps => some (.tuple ps)
    | none => none
  | .dct _ => none
  | .ins _ _ => none
  | .obj _ => none
  | .frl _ => none
def toPL : List D → Option (List PyData)
  | [] => some []
  | d :: ds => match toP d, toPL ds with
    | some p, some ps => some (p :: ps)
    | _, _ => none
end
mutual
theorem toP_plain : ∀ {d : D} {p : PyData}, toP d = some p → p.plain = true
  | .non, _, h => by cases h; rfl
  | .bl b, _, h => by cases h; rfl
  | .int i, _, h => by cases h; rfl
  | .str x, _, h => by cases h; rfl
  | .lst l, p, h => by
    unfold toP at h
    split at h
    · rename_i ps e
      cases h
      show PyData.plainAll ps = true
      exact toPL_plain e
    · cases h
  | .tup l, p, h => by
    unfold toP at h
    split at h
    · rename_i ps e
      cases h
      show PyData.plainAll ps = true
      exact toPL_plain e
    · cases h
  | .dct _, _, h => by cases h
  | .ins _ _, _, h => by cases h
  | .obj _, _, h => by cases h
  | .frl _, _, h => by cases h
theorem toPL_plain : ∀ {l : List D} {ps : List PyData}, toPL l = some ps → PyData.plainAll ps = true
  | [], _, h => by cases h; rfl
  | d :: ds, _, h => by
    unfold toPL at h
    split at h
    · rename_i p ps e1 e2
      cases h
      show (p.plain && PyData.plainAll ps) = true
      rw [toP_plain e1, toPL_plain e2]; rfl
    · cases h
end
section
variable {T : Th} {F H : Hp} {al : Nat → Addr} {n : Nat}
mutual
theorem Rp.dp (s : ∀ a o, F a = some o → H a = some o) : ∀ {d : D} {v : V} {p : PyData}, Rp T F al n v d → toP d = some p → Dp T.K H v p
  | .non, _, _, r, h => by cases h; cases r; exact .non
  | .bl b, _, _, r, h => by cases h; cases r; exact .bl b
  | .int i, _, _, r, h => by cases h; cases r; exact .int i
  | .str x, _, _, r, h => by cases h; cases r; exact .str x
  | .lst l, v, p, r, h => by
    unfold toP at h
    split at h
    · rename_i ps e
      cases h
      cases r with
      | lst h1 h2 => exact .lst (SqL.of (s _ _ h1)) (RpL.dp s h2 e)
    · cases h
  | .tup l, v, p, r, h => by
    unfold toP at h
    split at h
    · rename_i ps e
      cases h
      cases r with
      | tup h1 h2 => exact .tup (sqT_mono s h1) (RpL.dp s h2 e)
    · cases h
  | .dct _, _, _, _, h => by cases h
  | .ins _ _, _, _, _, h => by cases h
  | .obj _, _, _, _, h => by cases h
  | .frl _, _, _, _, h => by cases h
theorem RpL.dp (s : ∀ a o, F a = some o → H a = some o) : ∀ {l : List D} {vs : List V} {ps : List PyData}, RpL T F al n vs l → toPL l = some ps → DpAll T.K H vs ps
  | [], _, _, r, h => by cases h; cases r; exact .nil
  | d :: ds, _, _, r, h => by
    unfold toPL at h
    split at h
    · rename_i p ps e1 e2
      cases h
      cases r with
      | cons r1 r2 => exact .cons (Rp.dp s r1 e1) (RpL.dp s r2 e2)
    · cases h
end
end
/-! ### == -/
def eqD (d e : D) : Option Bool := match toP d, toP e with
  | some p, some q => if min p.depth q.depth ≤ 60 then some (PyData.eqv p q) else none
  | _, _ => none
def neD (d e : D) : Option Bool := (eqD d e).map (!·)
def rEqP (K : PySem.W.Frag) : R2 := fun x y H Q => ∃ d e, Dp K H x d ∧ Dp K H y e ∧ d.plain = true ∧ e.plain = true ∧ min d.depth e.depth ≤ 60 ∧ Q (.bl (PyData.eqv d e)) H
def rNeP (K : PySem.W.Frag) : R2 := fun x y H Q => ∃ d e, Dp K H x d ∧ Dp K H y e ∧ d.plain = true ∧ e.plain = true ∧ min d.depth e.depth ≤ 60 ∧ Q (.bl (!PyData.eqv d e)) H
section
variable {X : Cx} {cl : Nat → Addr} {W : WX} {a b e : PySem.Expr} {f fa fb : EF} {pos p1 : Pos} {x : Str}
theorem op_eqP (hu : X.A.units + 64 < cLine) : OpR X (compareOp .Eq) (rEqP X.K) := by
  intro pins s σ H x y v u Q I rx ry h
  obtain ⟨d, e, hd, he, sd, se, hm, q⟩ := h
  obtain ⟨as, r1⟩ := Dp.reads I d x v hd rx
  obtain ⟨bs, r2⟩ := Dp.reads I e y u he ry
  exact SeqAt.eq_plain r1 r2 sd se (by omega) ⟨.bl _, H, I, rfl, q⟩
theorem op_neP (hu : X.A.units + 64 < cLine) : OpR X (compareOp .NotEq) (rNeP X.K) := by
  intro pins s σ H x y v u Q I rx ry h
  obtain ⟨d, e, hd, he, sd, se, hm, q⟩ := h
  obtain ⟨as, r1⟩ := Dp.reads I d x v hd rx
  obtain ⟨bs, r2⟩ := Dp.reads I e y u he ry
  exact SeqAt.ne_plain r1 r2 sd se (by omega) ⟨.bl _, H, I, rfl, q⟩
theorem pur_eq {T : Th} : PurB T (rEqP T.K) eqD := fun F al mu H m x y d e res rx ry z Q k => by
  unfold eqD at z
  split at z
  · rename_i p q e1 e2
    split at z
    · rename_i hm
      cases z
      exact ⟨p, q, rx.dp m.sub e1, ry.dp m.sub e2, toP_plain e1, toP_plain e2, hm, k⟩
    · cases z
  · cases z
theorem pur_ne {T : Th} : PurB T (rNeP T.K) neD := fun F al mu H m x y d e res rx ry z Q k => by
  obtain ⟨b, z1, rfl⟩ := Option.map_eq_some_iff.mp z
  unfold eqD at z1
  split at z1
  · rename_i p q e1 e2
    split at z1
    · rename_i hm
      cases z1
      exact ⟨p, q, rx.dp m.sub e1, ry.dp m.sub e2, toP_plain e1, toP_plain e2, hm, k⟩
    · cases z1
  · cases z1
theorem de_eq (hu : X.A.units + 64 < cLine) (ha : DE X cl W a fa) (hb : DE X cl W b fb) : DE X cl W (.Compare a [.Eq] [b] pos) (dB2v (dCmp eqD fa fb)) := de_cmp (op_eqP hu) (nobehind _ (by decide) (by decide)) (pur_eq (T := Cx.th X cl)) ha hb
theorem de_ne (hu : X.A.units + 64 < cLine) (ha : DE X cl W a fa) (hb : DE X cl W b fb) : DE X cl W (.Compare a [.NotEq] [b] pos) (dB2v (dCmp neD fa fb)) := de_cmp (op_neP hu) (nobehind _ (by decide) (by decide)) (pur_ne (T := Cx.th X cl)) ha hb

/-! ### order of ints, of tuples of ints -/
def cmpI (p : Int → Int → Bool) : D → D → Option Bool
  | .int i, .int j => some (p i j)
  | _, _ => none
theorem pur_int {T : Th} {p : Int → Int → Bool} : PurB T (rI0 fun i j => .bl (p i j)) (cmpI p) := fun F al mu H m x y d e res rx ry z Q k => by
  cases d with
  | int i =>
    cases e with
    | int j =>
      cases z
      cases rx
      cases ry
      exact ⟨i, j, rfl, rfl, k⟩
    | _ => cases z
  | _ => cases z
abbrev leI := cmpI fun i j => decide (i ≤ j)
abbrev gtI := cmpI fun i j => decide (j < i)
abbrev geI := cmpI fun i j => decide (j ≤ i)
theorem de_le (ha : DE X cl W a fa) (hb : DE X cl W b fb) : DE X cl W (.Compare a [.LtE] [b] pos) (dB2v (dCmp leI fa fb)) := de_cmp op_le (nobehind _ (by decide) (by decide)) pur_int ha hb
theorem de_gt (ha : DE X cl W a fa) (hb : DE X cl W b fb) : DE X cl W (.Compare a [.Gt] [b] pos) (dB2v (dCmp gtI fa fb)) := de_cmp op_gt (nobehind _ (by decide) (by decide)) pur_int ha hb
theorem de_ge (ha : DE X cl W a fa) (hb : DE X cl W b fb) : DE X cl W (.Compare a [.GtE] [b] pos) (dB2v (dCmp geI fa fb)) := de_cmp op_ge (nobehind _ (by decide) (by decide)) pur_int ha hb
def intsD : List D → Option (List Int)
  | [] => some []
  | .int i :: l => (intsD l).map (i :: ·)
  | _ => none
theorem intsD_rp {T : Th} {F : Hp} {al : Nat → Addr} {n : Nat} : ∀ {l : List D} {xs : List V} {is : List Int}, RpL T F al n xs l → intsD l = some is → xs = is.map V.int
  | [], _, _, r, e => by cases r; cases e; rfl
  | d :: l, _, is, r, e => by
    cases r with
    | cons r1 r2 =>
      cases d with
      | int i =>
        cases r1
        obtain ⟨is', h1, rfl⟩ := Option.map_eq_some_iff.mp e
        rw [intsD_rp r2 h1]; rfl
      | _ => cases e
def ltD : D → D → Option Bool
  | .int i, .int j => some (decide (i < j))
  | .tup l, .tup m => match intsD l, intsD m with
    | some is, some js => some (HT.lexLt is js)
    | _, _ => none
  | _, _ => none
theorem pur_lt {T : Th} : PurB T (fun x y H Q => rI0 (fun i j => .bl (decide (i < j))) x y H Q ∨ rLtT T.K x y H Q) ltD := fun F al mu H m x y d e res rx ry z Q k => by
  cases d with
  | int i =>
    cases e with
    | int j =>
      cases z
      cases rx
      cases ry
      exact .inl ⟨i, j, rfl, rfl, k⟩
    | _ => cases z
  | tup l =>
    cases e with
    | tup l' =>
      have z' : (match intsD l, intsD l' with
        | some is, some js => some (HT.lexLt is js)
        | _, _ => none) = some res := z
      split at z'
      · rename_i is js e1 e2
        cases z'
        cases rx with
        | tup h1 h2 =>
          cases ry with
          | tup h3 h4 =>
            rw [intsD_rp h2 e1] at h1
            rw [intsD_rp h4 e2] at h3
            exact .inr ⟨_, _, is, js, rfl, rfl, sqT_mono m.sub h1, sqT_mono m.sub h3, k⟩
      · cases z'
    | _ => cases z
  | _ => cases z
theorem de_lt (hu : X.A.units < cLine) (ha : DE X cl W a fa) (hb : DE X cl W b fb) : DE X cl W (.Compare a [.Lt] [b] pos) (dB2v (dCmp ltD fa fb)) := de_cmp (OpR.or op_lt (op_ltT hu)) (nobehind _ (by decide) (by decide)) (pur_lt (T := Cx.th X cl)) ha hb
/-- a <= b <= c of ints -/
def dChn (g h : D → D → Option Bool) (fa fb fc : EF) : BF := dBind fa fun x => dBind fb fun y sl mu => match g x y with
  | some true => obind (fc sl mu) fun z mu => match h y z with
    | some r => .ok r mu
    | none => .bad
  | some false => .ok false mu
  | none => .bad
theorem de_chain {op op' : CmpOp} {r r' : R2} {g h : D → D → Option Bool} {c : PySem.Expr} {fc : EF} (ho : OpR X (compareOp op) r) (ho' : OpR X (compareOp op') r') (hr : PurB (Cx.th X cl) r g) (hr' : PurB (Cx.th X cl) r' h) (ha : DE X cl W a fa) (hb : DE X cl W b fb) (hc : DE X cl W c fc)
    (he : ∀ {ta tb tc : TE}, PE X a ta → PE X b tb → PE X c tc → PE X (.Compare a [op, op'] [b, c] pos) (tChain r r' ta tb tc)) : DE X cl W (.Compare a [op, op'] [b, c] pos) (dB2v (dChn g h fa fb fc)) :=
  PE.imp (he ha hb hc) fun σ H Q q => by
    obtain ⟨F, al, sl, mu, w, po⟩ := tV2B q
    refine seqG back_RB w po rfl fun v d F1 al1 mu1 H1 x1 w1 r1 po1 => ?_
    refine seqG back_RB w1 po1 rfl fun u e F2 al2 mu2 H2 x2 w2 r2 po2 => ?_
    try dsimp only at po2
    cases z : g d e with
    | none => rw [z] at po2; exact False.elim po2
    | some k =>
      rw [z] at po2
      refine hr F2 al2 mu2 H2 w2.toMus v u d e k (x2.rp r1) r2 z _ ⟨k, rfl, ?_⟩
      cases k with
      | false =>
        rw [if_neg Bool.false_ne_true]
        exact Po.here (R := RB) (Q := fun c H' => Q (.bl c) H') po2 w2.toMus rfl
      | true =>
        rw [if_pos rfl]
        refine seqG back_RB w2 po2 rfl fun t e3 F3 al3 mu3 H3 x3 w3 r3 po3 => ?_
        try dsimp only at po3
        cases z2 : h e e3 with
        | none => rw [z2] at po3; exact False.elim po3
        | some k2 =>
          rw [z2] at po3
          exact hr' F3 al3 mu3 H3 w3.toMus u t e e3 k2 (x3.rp r2) r3 z2 _ (Po.here (R := RB) (Q := fun c H' => Q (.bl c) H') po3 w3.toMus rfl)

/-! ### is -/
def isNon : D → Bool
  | .non => true
  | _ => false
theorem Rp.isNon {T : Th} {F : Hp} {al : Nat → Addr} {n : Nat} {v : V} {d : D} (r : Rp T F al n v d) : decide (v = .non) = DL.isNon d := by
  cases r <;> first | rfl | (apply decide_eq_false; intro h; cases h)
def dIsN (f : EF) : BF := dBind f fun d _ mu => .ok (isNon d) mu
def dNotN (f : EF) : BF := dBind f fun d _ mu => .ok (!isNon d) mu
theorem de_isN {j : Nat} {p2 : Pos} (h : DE X cl W a f) : DE X cl W (.Compare a [.Is] [.Constant .none j p2] pos) (dB2v (dIsN f)) := PE.imp (pe_cmp (pc_isN h) rfl) fun σ H Q q => by
  obtain ⟨F, al, sl, mu, w, po⟩ := tV2B q
  refine seqG back_RB w po rfl fun v d F1 al1 mu1 H1 x1 w1 r1 po1 => ?_
  rw [Rp.isNon r1]
  exact Po.here (R := RB) (Q := fun c H' => Q (.bl c) H') po1 w1.toMus rfl
theorem de_notN {j : Nat} {p2 : Pos} (h : DE X cl W a f) : DE X cl W (.Compare a [.IsNot] [.Constant .none j p2] pos) (dB2v (dNotN f)) := PE.imp (pe_cmp (pc_notN h) rfl) fun σ H Q q => by
  obtain ⟨F, al, sl, mu, w, po⟩ := tV2B q
  refine seqG back_RB w po rfl fun v d F1 al1 mu1 H1 x1 w1 r1 po1 => ?_
  rw [Rp.isNon r1]
  exact Po.here (R := RB) (Q := fun c H' => Q (.bl c) H') po1 w1.toMus rfl
def isB : D → D → Option Bool
  | .bl a, .bl b => some (decide (a = b))
  | _, _ => none
def isntB : D → D → Option Bool
  | .bl a, .bl b => some (!decide (a = b))
  | _, _ => none
theorem de_isntB {j : Nat} {p2 : Pos} {c : Bool} (h : DE X cl W a f) : DE X cl W (.Compare a [.IsNot] [.Constant (.bool c) j p2] pos) (dB2v (dCmp isntB f (dC (.bl c)))) :=
  de_cmp op_isnot_bl (nobehind _ (by decide) (by decide)) (fun F al mu H m x y d e res rx ry z Q k => by
    cases d with
    | bl i =>
      cases e with
      | bl j => cases z; cases rx; cases ry; exact ⟨i, j, rfl, rfl, k⟩
      | _ => cases z
    | _ => cases z) h de_bl

/-! ### + - * % // ** -/
def addD : D → D → Option D
  | .int i, .int j => some (.int (i + j))
  | .str x, .str y => if x.length + y.length ≤ 16000000 then some (.str (x ++ y)) else none
  | .lst l, .lst m => if l.length + m.length ≤ 16000000 then some (.lst (l ++ m)) else none
  | .tup l, .tup m => if l.length + m.length ≤ 16000000 then some (.tup (l ++ m)) else none
  | _, _ => none
theorem RpL.append {T : Th} {F : Hp} {al : Nat → Addr} {n : Nat} {vs us : List V} {ds es : List D} (h : RpL T F al n vs ds) (k : RpL T F al n us es) : RpL T F al n (vs ++ us) (ds ++ es) := by
  induction vs generalizing ds with
  | nil => cases h; exact k
  | cons v vs ih =>
    cases h with
    | cons h1 h2 => exact .cons h1 (ih h2)
abbrev rAdd4 (K : PySem.W.Frag) : R2 := fun x y H Q => (rI0 (fun i j => .int (i + j)) x y H Q ∨ ∃ i j, x = .str i ∧ y = .str j ∧ i.length + j.length ≤ sizeLine ∧ Q (.str (i ++ j)) H) ∨ rCat x y H Q ∨ rCatA K x y H Q
theorem pur_add {T : Th} : Pur2 T (rAdd4 T.K) addD := fun F al mu H m x y d e res rx ry z Q k => by
  cases d with
  | int i =>
    cases e with
    | int j => cases z; cases rx; cases ry; exact .inl (.inl ⟨i, j, rfl, rfl, k _ F H (Ext.refl m) (.int _)⟩)
    | _ => cases z
  | str i =>
    cases e with
    | str j =>
      have z' : (if i.length + j.length ≤ 16000000 then some (D.str (i ++ j)) else none) = some res := z
      split at z'
      · rename_i hz
        cases z'
        cases rx
        cases ry
        exact .inl (.inr ⟨i, j, rfl, rfl, by rw [sizeLine_eq]; omega, k _ F H (Ext.refl m) (.str _)⟩)
      · cases z'
    | _ => cases z
  | lst l =>
    cases e with
    | lst l' =>
      have z' : (if l.length + l'.length ≤ 16000000 then some (D.lst (l ++ l')) else none) = some res := z
      split at z'
      · rename_i hz
        cases z'
        cases rx with
        | @lst p xs ds h1 h2 =>
          cases ry with
          | @lst q ys es h3 h4 =>
            have e1 := RpL.len h2
            have e2 := RpL.len h4
            exact .inr (.inl ⟨p, q, xs, ys, rfl, rfl, m.sub _ _ h1, m.sub _ _ h3, by rw [sizeLine_eq]; omega, fun r hr => k _ _ _ (Ext.laidF m (o := .lst (xs ++ ys)) hr) (.lst upd_same ((Ext.laidF m hr).rpL (h2.append h4)))⟩)
      · cases z'
    | _ => cases z
  | tup l =>
    cases e with
    | tup l' =>
      have z' : (if l.length + l'.length ≤ 16000000 then some (D.tup (l ++ l')) else none) = some res := z
      split at z'
      · rename_i hz
        cases z'
        cases rx with
        | @tup p xs ds h1 h2 =>
          cases ry with
          | @tup q ys es h3 h4 =>
            have e1 := RpL.len h2
            have e2 := RpL.len h4
            refine .inr (.inr ⟨p, q, xs, ys, rfl, rfl, sqT_mono m.sub h1, sqT_mono m.sub h3, by rw [sizeLine_eq]; omega, fun e => ?_, fun _ e => ?_, fun _ _ r hr => ?_⟩)
            · subst e
              cases h2
              exact k _ F H (Ext.refl m) (.tup h3 h4)
            · subst e
              cases h4
              rw [List.append_nil] at k
              exact k _ F H (Ext.refl m) (.tup h1 h2)
            · exact k _ _ _ (Ext.laidF m (o := .tup (xs ++ ys)) hr) (.tup upd_same ((Ext.laidF m hr).rpL (h2.append h4)))
      · cases z'
    | _ => cases z
  | _ => cases z
theorem de_add (ha : DE X cl W a fa) (hb : DE X cl W b fb) : DE X cl W (.BinOp a .Add b pos) (dOp2 addD fa fb) := de_op (OpR.or (OpR.or op_add op_add_str) (OpR.or op_cat op_catA)) (pur_add (T := Cx.th X cl)) ha hb
def arI (c : Int → Int → Bool) (g : Int → Int → Int) : D → D → Option D
  | .int i, .int j => if c i j = true then some (.int (g i j)) else none
  | _, _ => none
theorem pur_ar {T : Th} {c : Int → Int → Bool} {C : Int → Int → Prop} {g : Int → Int → Int} (hc : ∀ i j, c i j = true → C i j) : Pur2 T (rI C fun i j => .int (g i j)) (arI c g) := fun F al mu H m x y d e res rx ry z Q k => by
  cases d with
  | int i =>
    cases e with
    | int j =>
      have z' : (if c i j = true then some (D.int (g i j)) else none) = some res := z
      split at z'
      · rename_i h
        cases z'
        cases rx
        cases ry
        exact ⟨i, j, rfl, rfl, hc i j h, k _ F H (Ext.refl m) (.int _)⟩
      · cases z'
    | _ => cases z
  | _ => cases z
def subD : D → D → Option D
  | .int i, .int j => some (.int (i - j))
  | _, _ => none
theorem de_sub (ha : DE X cl W a fa) (hb : DE X cl W b fb) : DE X cl W (.BinOp a .Sub b pos) (dOp2 subD fa fb) := de_op op_sub (fun F al mu H m x y d e res rx ry z Q k => by
  cases d with
  | int i =>
    cases e with
    | int j => cases z; cases rx; cases ry; exact ⟨i, j, rfl, rfl, k _ F H (Ext.refl m) (.int _)⟩
    | _ => cases z
  | _ => cases z) ha hb
abbrev modD := arI (fun _ j => decide (0 < j)) fun i j => i % j
abbrev divD := arI (fun _ j => decide (0 < j ∧ j < 2 ^ 60)) fun i j => i / j
abbrev powD := arI (fun i j => decide (0 ≤ j ∧ j ≤ 1000 ∧ i.natAbs < 2 ^ 64)) fun i j => i ^ j.toNat
theorem de_mod (ha : DE X cl W a fa) (hb : DE X cl W b fb) : DE X cl W (.BinOp a .Mod b pos) (dOp2 modD fa fb) := de_op op_mod (pur_ar fun i j h => of_decide_eq_true h) ha hb
theorem de_div (ha : DE X cl W a fa) (hb : DE X cl W b fb) : DE X cl W (.BinOp a .FloorDiv b pos) (dOp2 divD fa fb) := de_op op_fdivW (pur_ar fun i j h => by
  obtain ⟨h1, h2⟩ := of_decide_eq_true h
  exact wide_div (b := 60) h1 (by omega) (by decide) (by decide)) ha hb
theorem de_pow (ha : DE X cl W a fa) (hb : DE X cl W b fb) : DE X cl W (.BinOp a .Pow b pos) (dOp2 powD fa fb) := de_op op_pow (pur_ar fun i j h => by
  obtain ⟨h1, h2, h3⟩ := of_decide_eq_true h
  exact ⟨h1, by omega, h3⟩) ha hb
def mulD : D → D → Option D
  | .int i, .int j => if -(2 ^ 64) < i ∧ i < 2 ^ 64 then some (.int (i * j)) else none
  | .lst l, .int j => if rgOk j = true ∧ l.length * j.toNat ≤ 16000000 then some (.lst (List.replicate j.toNat l).flatten) else none
  | _, _ => none
theorem rpL_rep {T : Th} {F : Hp} {al : Nat → Addr} {n : Nat} {vs : List V} {ds : List D} (h : RpL T F al n vs ds) : ∀ k : Nat, RpL T F al n (List.replicate k vs).flatten (List.replicate k ds).flatten
  | 0 => .nil
  | k + 1 => by
    rw [List.replicate_succ, List.replicate_succ, List.flatten_cons, List.flatten_cons]
    exact h.append (rpL_rep h k)
theorem de_mul (ha : DE X cl W a fa) (hb : DE X cl W b fb) : DE X cl W (.BinOp a .Mult b pos) (dOp2 mulD fa fb) := de_op (OpR.or op_mul op_rep) (fun F al mu H m x y d e res rx ry z Q k => by
  cases d with
  | int i =>
    cases e with
    | int j =>
      have z' : (if -(2 ^ 64) < i ∧ i < 2 ^ 64 then some (D.int (i * j)) else none) = some res := z
      split at z'
      · rename_i h
        cases z'
        cases rx
        cases ry
        exact .inl ⟨i, j, rfl, rfl, .inl h, k _ F H (Ext.refl m) (.int _)⟩
      · cases z'
    | _ => cases z
  | lst l =>
    cases e with
    | int j =>
      have z' : (if rgOk j = true ∧ l.length * j.toNat ≤ 16000000 then some (D.lst (List.replicate j.toNat l).flatten) else none) = some res := z
      split at z'
      · rename_i h
        cases z'
        cases ry
        cases rx with
        | @lst p xs ds h1 h2 =>
          have hj := rgOk_of h.1
          refine .inr ⟨p, j, xs, rfl, rfl, m.sub _ _ h1, by omega, by omega, by rw [sizeLine_eq, RpL.len h2]; omega, fun r hr => k _ _ _ (Ext.laidF m (o := .lst _) hr) (.lst upd_same ((Ext.laidF m hr).rpL (rpL_rep h2 _)))⟩
      · cases z'
    | _ => cases z
  | _ => cases z) ha hb
def negD : D → Option D
  | .int i => some (.int (-i))
  | _ => none
theorem de_neg (h : DE X cl W a f) : DE X cl W (.UnaryOp .USub a pos) (dOp1 negD f) := PE.imp (pe_un un_neg h) fun σ H Q q => by
  obtain ⟨F, al, sl, mu, w, po⟩ := q
  refine seqG back_RD w po rfl fun v d F1 al1 mu1 H1 x1 w1 r1 po1 => ?_
  cases d with
  | int i => cases r1; exact ⟨i, rfl, Po.here po1 w1.toMus (.int _)⟩
  | _ => exact False.elim po1

/-! ### in -/
def inD (d : D) (c : D) : Option Bool := match c with
  | .lst l => match toP d, toPL l with
    | some p, some ps => if min (PyData.depthAll ps) p.depth ≤ 60 then some (ps.any fun y => PyData.eqv y p) else none
    | _, _ => none
  | .tup l => match toP d, toPL l with
    | some p, some ps => if min (PyData.depthAll ps) p.depth ≤ 60 then some (ps.any fun y => PyData.eqv y p) else none
    | _, _ => none
  | .str z => match d with
    | .str y => match y.cps.toList with
      | [c] => some (decide (c ∈ z.cps.toList))
      | _ => none
    | _ => none
  | _ => none
def rInP (K : PySem.W.Frag) (neg : Bool) : R2 := fun x y H Q => ∃ d, Dp K H x d ∧ d.plain = true ∧ ∃ ps, (Dp K H y (.list ps) ∨ Dp K H y (.tuple ps)) ∧ PyData.plainAll ps = true ∧ min (PyData.depthAll ps) d.depth ≤ 60 ∧ Q (.bl (if neg then !(ps.any fun z => PyData.eqv z d) else ps.any fun z => PyData.eqv z d)) H
theorem op_inP (hu : X.A.units + 65 < cLine) : OpR X (compareOp .In) (rInP X.K false) := by
  intro pins s σ H x y v u Q I rx ry h
  obtain ⟨d, hd, sd, ps, he, sp, hm, q⟩ := h
  obtain ⟨as, r1⟩ := Dp.reads I d x v hd rx
  rcases he with he | he
  · obtain ⟨bs, r2⟩ := Dp.reads I _ y u he ry
    exact SeqAt.in_list_data r2 r1 sp sd (by omega) ⟨.bl _, H, I, rfl, q⟩
  · obtain ⟨bs, r2⟩ := Dp.reads I _ y u he ry
    exact SeqAt.in_tuple_data r2 r1 sp sd (by omega) ⟨.bl _, H, I, rfl, q⟩
theorem op_ninP (hu : X.A.units + 65 < cLine) : OpR X (compareOp .NotIn) (rInP X.K true) := by
  intro pins s σ H x y v u Q I rx ry h
  obtain ⟨d, hd, sd, ps, he, sp, hm, q⟩ := h
  obtain ⟨as, r1⟩ := Dp.reads I d x v hd rx
  rcases he with he | he
  · obtain ⟨bs, r2⟩ := Dp.reads I _ y u he ry
    exact SeqAt.notIn_list_data r2 r1 sp sd (by omega) ⟨.bl _, H, I, rfl, q⟩
  · obtain ⟨bs, r2⟩ := Dp.reads I _ y u he ry
    exact SeqAt.notIn_tuple_data r2 r1 sp sd (by omega) ⟨.bl _, H, I, rfl, q⟩
/-- the container looked into -/
def dIn (neg : Bool) (fa fb : EF) : BF := dBind fa fun x => dBind fb fun y _ mu => match inD x y with
  | some r => .ok (if neg then !r else r) mu
  | none => .bad
theorem in_reads {T : Th} {F : Hp} {al : Nat → Addr} {mu : Store} {H : Hp} {x y : V} {d c : D} {neg res : Bool} {Q : VK} (m : Mus T F al mu H) (rx : Rp T F al mu.length x d) (ry : Top T F al mu.length H y c) (z : inD d c = some res) (k : Q (.bl (if neg then !res else res)) H) :
    rInP T.K neg x y H Q ∨ ∃ (c : Nat) (z : Str), x = .str ⟨#[c]⟩ ∧ y = .str z ∧ Q (.bl (if neg then !decide (c ∈ z.cps.toList) else decide (c ∈ z.cps.toList))) H := by
  cases c with
  | lst l =>
    obtain ⟨a, xs, rfl, h1, h2⟩ := ry
    unfold inD at z
    dsimp only at z
    split at z
    · rename_i p ps e1 e2
      split at z
      · rename_i hm
        cases z
        exact .inl ⟨p, rx.dp m.sub e1, toP_plain e1, ps, .inl (.lst (SqL.of h1) (h2.dp m.sub e2)), toPL_plain e2, hm, k⟩
      · cases z
    · cases z
  | tup l =>
    cases (show Rp _ _ _ _ _ _ from ry) with
    | tup h1 h2 =>
      unfold inD at z
      dsimp only at z
      split at z
      · rename_i p ps e1 e2
        split at z
        · rename_i hm
          cases z
          exact .inl ⟨p, rx.dp m.sub e1, toP_plain e1, ps, .inr (.tup (sqT_mono m.sub h1) (h2.dp m.sub e2)), toPL_plain e2, hm, k⟩
        · cases z
      · cases z
  | str s =>
    cases (show Rp _ _ _ _ _ _ from ry)
    cases d with
    | str y =>
      unfold inD at z
      dsimp only at z
      split at z
      · rename_i c hc
        cases z
        cases rx
        obtain ⟨cps⟩ := y
        have e : cps = #[c] := by
          have hc' : cps.toList = [c] := hc
          rw [← Array.toArray_toList (xs := cps), hc']
        subst e
        exact .inr ⟨c, s, rfl, rfl, k⟩
      · cases z
    | _ => cases z
  | _ => cases z
theorem de_in (hu : X.A.units + 65 < cLine) (ha : DE X cl W a fa) (hb : DKk X cl W b fb) (hm : behindInMarks .In b = false) : DE X cl W (.Compare a [.In] [b] pos) (dB2v (dIn false fa fb)) :=
  PE.imp (pe_cmpR (OpR.or (op_inP hu) op_in_sign) ha hb hm) fun σ H Q q => by
    obtain ⟨F, al, sl, mu, w, po⟩ := tV2B q
    refine seqG back_RB w po rfl fun v d F1 al1 mu1 H1 x1 w1 r1 po1 => ?_
    refine seqG back_RB w1 po1 rfl fun u e F2 al2 mu2 H2 x2 w2 r2 po2 => ?_
    dsimp only at po2
    cases z : inD d e with
    | none => rw [z] at po2; exact False.elim po2
    | some r =>
      rw [z] at po2
      exact in_reads (neg := false) w2.toMus (x2.rp r1) r2 z (Po.here (R := RB) (Q := fun c H' => Q (.bl c) H') po2 w2.toMus rfl)
theorem de_nin (hu : X.A.units + 65 < cLine) (ha : DE X cl W a fa) (hb : DKk X cl W b fb) (hm : behindInMarks .NotIn b = false) : DE X cl W (.Compare a [.NotIn] [b] pos) (dB2v (dIn true fa fb)) :=
  PE.imp (pe_cmpR (OpR.or (op_ninP hu) op_notIn_sign) ha hb hm) fun σ H Q q => by
    obtain ⟨F, al, sl, mu, w, po⟩ := tV2B q
    refine seqG back_RB w po rfl fun v d F1 al1 mu1 H1 x1 w1 r1 po1 => ?_
    refine seqG back_RB w1 po1 rfl fun u e F2 al2 mu2 H2 x2 w2 r2 po2 => ?_
    dsimp only at po2
    cases z : inD d e with
    | none => rw [z] at po2; exact False.elim po2
    | some r =>
      rw [z] at po2
      exact in_reads (neg := true) w2.toMus (x2.rp r1) r2 z (Po.here (R := RB) (Q := fun c H' => Q (.bl c) H') po2 w2.toMus rfl)
end
end DL
end

section
set_option Elab.async false
set_option linter.all false
set_option maxRecDepth 100000
set_option maxHeartbeats 4000000
/-! DN: subscripts, slices, isinstance, attributes. -/
namespace DL
open PySem L2
/-! ### subscripts -/
def ixD : D → D → Option D
  | .lst l, .int i => atI l i
  | .tup l, .int i => atI l i
  | .str z, .int i => if z.length ≤ 16000000 then (atI z.cps.toList i).map fun c => .str ⟨#[c]⟩ else none
  | _, _ => none
def dIx (f g : EF) : EF := dBind f fun d => dBind g fun y _ mu => match ixD (lookD mu d) y with
  | some r => .ok r mu
  | none => .bad
def svD (mu : Store) : SV → D
  | .own m => m.d
  | .val d => lookD mu d
def dIxS (i : Nat) (g : EF) : EF := fun sl mu => match sl[i]? with
  | some (some s) => obind (g sl mu) fun y mu => match ixD (svD mu s) y with
    | some r => .ok r mu
    | none => .bad
  | _ => .bad
theorem atI_some {α : Type} {l : List α} {i : Int} {x : α} (h : atI l i = some x) : ∃ j, ixN l.length i = some j ∧ l[j]? = some x := by
  unfold atI at h
  cases q : ixN l.length i with
  | none => rw [q] at h; cases h
  | some j => rw [q] at h; exact ⟨j, rfl, h⟩
theorem RpL.atI {T : Th} {F : Hp} {al : Nat → Addr} {n : Nat} {xs : List V} {l : List D} {i : Int} {d : D} (r : RpL T F al n xs l) (h : L2.atI l i = some d) : ∃ v, L2.atI xs i = some v ∧ Rp T F al n v d := by
  obtain ⟨j, h1, h2⟩ := atI_some h
  obtain ⟨v, h3, h4⟩ := r.get h2
  refine ⟨v, ?_, h4⟩
  unfold L2.atI
  rw [RpL.len r, h1]
  exact h3
abbrev rIx3 (K : PySem.W.Frag) : R2 := fun x y H Q => rIxL K x y H Q ∨ rIxT K x y H Q ∨ rIxS x y H Q
theorem ix_top {T : Th} {F : Hp} {al : Nat → Addr} {mu : Store} {H : Hp} {x y : V} {d e res : D} {Q : VK} (m : Mus T F al mu H) (rx : Top T F al mu.length H x d) (ry : Rp T F al mu.length y e) (z : ixD d e = some res) (k : ∀ v, Rp T F al mu.length v res → Q v H) : rIx3 T.K x y H Q := by
  cases d with
  | lst l =>
    cases e with
    | int i =>
      cases ry
      obtain ⟨a, xs, rfl, h1, h2⟩ := rx
      obtain ⟨v, h3, h4⟩ := h2.atI (show L2.atI l i = some res from z)
      exact .inl ⟨a, xs, i, v, rfl, rfl, SqL.of h1, h3, k v h4⟩
    | _ => cases z
  | tup l =>
    cases e with
    | int i =>
      cases ry
      cases (show Rp _ _ _ _ _ _ from rx) with
      | tup h1 h2 =>
        obtain ⟨v, h3, h4⟩ := h2.atI (show L2.atI l i = some res from z)
        exact .inr (.inl ⟨_, _, i, v, rfl, rfl, sqT_mono m.sub h1, h3, k v h4⟩)
    | _ => cases z
  | str s =>
    cases e with
    | int i =>
      cases ry
      cases (show Rp _ _ _ _ _ _ from rx)
      have z' : (if s.length ≤ 16000000 then (L2.atI s.cps.toList i).map fun c => D.str ⟨#[c]⟩ else none) = some res := z
      split at z'
      · rename_i hs
        obtain ⟨c, h1, rfl⟩ := Option.map_eq_some_iff.mp z'
        exact .inr (.inr ⟨s, i, c, rfl, rfl, by rw [sizeLine_eq]; omega, h1, k _ (.str _)⟩)
      · cases z'
    | _ => cases z
  | _ => cases z
/-! ### slices -/
def cutG {α : Type} (xs : List α) (lo hi : Option Int) : List α := (xs.drop (HT.sIx xs.length 0 lo)).take (HT.sIx xs.length xs.length hi - HT.sIx xs.length 0 lo)
def sliceD (d : D) (lo hi : Option Int) : Option D := match d with
  | .lst l => some (.lst (cutG l lo hi))
  | .tup l => some (.tup (cutG l lo hi))
  | .frl l => some (.lst (cutG l lo hi))
  | .str z => if z.length ≤ 16000000 then some (.str (cutS z lo hi)) else none
  | _ => none
abbrev OF := Sl → Store → Out (Option Int)
def ROi : Rel (Option Int) (Option Int) := fun _ _ _ _ _ v d => v = d
abbrev DO (X : Cx) (cl : Nat → Addr) (W : WX) (e : Option PySem.Expr) (f : OF) : Prop := PO X e (tG (Cx.th X cl) W ROi f)
def dNoP : OF := fun _ mu => .ok none mu
def dP (f : EF) : OF := dBind f fun d _ mu => match d with
  | .int i => .ok (some i) mu
  | _ => .bad
def dSl (f : EF) (lo hi : OF) : EF := dBind f fun d => dBind lo fun l => dBind hi fun h _ mu => match sliceD (lookD mu d) l h with
  | some r => .ok r mu
  | none => .bad
theorem back_ROi : Back ROi := fun _ _ _ _ _ _ _ _ _ h => h
theorem RpL.take {T : Th} {F : Hp} {al : Nat → Addr} {n : Nat} : ∀ {xs : List V} {l : List D} (k : Nat), RpL T F al n xs l → RpL T F al n (xs.take k) (l.take k)
  | [], [], 0, _ => .nil
  | [], [], _ + 1, _ => .nil
  | _ :: _, _ :: _, 0, _ => .nil
  | _ :: _, _ :: _, k + 1, .cons r1 r2 => .cons r1 (RpL.take k r2)
  | [], _ :: _, _, h => by cases h
  | _ :: _, [], _, h => by cases h
theorem RpL.drop {T : Th} {F : Hp} {al : Nat → Addr} {n : Nat} : ∀ {xs : List V} {l : List D} (k : Nat), RpL T F al n xs l → RpL T F al n (xs.drop k) (l.drop k)
  | [], [], 0, _ => .nil
  | [], [], _ + 1, _ => .nil
  | _ :: _, _ :: _, 0, h => h
  | _ :: _, _ :: _, k + 1, .cons _ r2 => RpL.drop k r2
  | [], _ :: _, _, h => by cases h
  | _ :: _, [], _, h => by cases h
theorem RpL.cut {T : Th} {F : Hp} {al : Nat → Addr} {n : Nat} {xs : List V} {l : List D} (r : RpL T F al n xs l) (lo hi : Option Int) : RpL T F al n (cutV xs lo hi) (cutG l lo hi) := by
  unfold cutV cutG
  rw [RpL.len r]
  exact (r.drop _).take _
theorem cut_whole {α : Type} {l : List α} {lo hi : Option Int} (h : HT.sIx l.length 0 lo = 0 ∧ HT.sIx l.length l.length hi = l.length) : cutG l lo hi = l := by
  unfold cutG
  rw [h.1, h.2]
  simp
abbrev rSl3 (K : PySem.W.Frag) : V → Option Int → Option Int → Hp → VK → Prop := fun x lo hi H Q => rSlL K x lo hi H Q ∨ rSlA K x lo hi H Q ∨ rSlS x lo hi H Q
theorem sl_top {T : Th} {F : Hp} {al : Nat → Addr} {mu : Store} {H : Hp} {x : V} {d res : D} {lo hi : Option Int} {Q : VK} (m : Mus T F al mu H) (rx : Top T F al mu.length H x d) (z : sliceD d lo hi = some res) (k : ∀ v F' H', Ext T F al mu H F' al mu H' → Rp T F' al mu.length v res → Q v H') : rSl3 T.K x lo hi H Q := by
  cases d with
  | lst l =>
    cases z
    obtain ⟨a, xs, rfl, h1, h2⟩ := rx
    exact .inl ⟨a, xs, rfl, SqL.of h1, fun p hp => k _ _ _ (Ext.laidF m (o := .lst _) hp) (.lst upd_same ((Ext.laidF m hp).rpL (h2.cut lo hi)))⟩
  | tup l =>
    cases z
    cases (show Rp _ _ _ _ _ _ from rx) with
    | @tup a xs ds h1 h2 =>
      refine .inr (.inl ⟨a, xs, rfl, sqT_mono m.sub h1, fun h => ?_, fun _ p hp => k _ _ _ (Ext.laidF m (o := .tup _) hp) (.tup upd_same ((Ext.laidF m hp).rpL (h2.cut lo hi)))⟩)
      rw [RpL.len h2] at h
      exact k _ F H (Ext.refl m) (by rw [cut_whole h]; exact .tup h1 h2)
  | frl l =>
    cases z
    cases (show Rp _ _ _ _ _ _ from rx) with
    | @frl a xs ds h1 h2 => exact .inl ⟨a, xs, rfl, sqL_mono m.sub h1, fun p hp => k _ _ _ (Ext.laidF m (o := .lst _) hp) (.lst upd_same ((Ext.laidF m hp).rpL (h2.cut lo hi)))⟩
  | str s =>
    have z' : (if s.length ≤ 16000000 then some (D.str (cutS s lo hi)) else none) = some res := z
    split at z'
    · rename_i hs
      cases z'
      cases (show Rp _ _ _ _ _ _ from rx)
      exact .inr (.inr ⟨s, rfl, by rw [sizeLine_eq]; omega, k _ F H (Ext.refl m) (.str _)⟩)
    · cases z'
  | _ => cases z
section
variable {X : Cx} {cl : Nat → Addr} {W : WX} {a b e : PySem.Expr} {lo hi : Option PySem.Expr} {f fa fb : EF} {pos p1 p2 : Pos} {x : Str}
theorem de_ix (ha : DE X cl W a fa) (hb : DE X cl W b fb) (hs : PlainIx b) : DE X cl W (.Subscript a b pos) (dIx fa fb) :=
  PE.imp (pe_ix (IxR.or ix_list (IxR.or ix_tup ix_str)) ha hb hs) fun σ H Q q => by
    obtain ⟨F, al, sl, mu, w, po⟩ := q
    refine seqG back_RD w po rfl fun v d F1 al1 mu1 H1 x1 w1 r1 po1 => ?_
    refine seqG back_RD w1 po1 rfl fun u e F2 al2 mu2 H2 x2 w2 r2 po2 => ?_
    dsimp only at po2
    cases z : ixD (lookD mu2 d) e with
    | none => rw [z] at po2; exact False.elim po2
    | some res =>
      rw [z] at po2
      exact ix_top (T := Cx.th X cl) w2.toMus (top_look w2.toMus (x2.rp r1)) r2 z fun v' r' => Po.here po2 w2.toMus r'
theorem de_ixS {i : Nat} (ha : PE X a (tVar i)) (hb : DE X cl W b fb) (hs : PlainIx b) : DE X cl W (.Subscript a b pos) (dIxS i fb) :=
  PE.imp (pe_ix (IxR.or ix_list (IxR.or ix_tup ix_str)) ha hb hs) fun σ H Q q => by
    obtain ⟨F, al, sl, mu, w, po⟩ := q
    unfold dIxS at po
    split at po
    · rename_i sv hsv
      have hv : ∃ v, σ[i]? = some (some v) := by
        cases sv with
        | val d =>
          obtain ⟨v, h1, _⟩ := w.val i d hsv
          exact ⟨v, h1⟩
        | own m =>
          obtain ⟨a, _, h1, _⟩ := w.own i m hsv
          exact ⟨_, h1⟩
      obtain ⟨v, hv⟩ := hv
      refine ⟨v, hv, ?_⟩
      refine seqG back_RD w po rfl fun u e F2 al2 mu2 H2 x2 w2 r2 po2 => ?_
      have ht : Top (Cx.th X cl) F2 al2 mu2.length H2 v (svD mu2 sv) := by
        cases sv with
        | val d =>
          obtain ⟨v', h1, h2⟩ := w2.val i d hsv
          rw [hv] at h1; cases h1
          exact top_look w2.toMus h2
        | own m =>
          obtain ⟨a, o, h1, h2, h3, h4, _⟩ := w2.own i m hsv
          rw [hv] at h1; cases h1
          exact top_conc h3 h4
      cases z : ixD (svD mu2 sv) e with
      | none => simp only [z] at po2; exact False.elim po2
      | some res =>
        simp only [z] at po2
        exact ix_top (T := Cx.th X cl) w2.toMus ht r2 z fun v' r' => Po.here po2 w2.toMus r'
    · exact False.elim po
theorem do_none : DO X cl W none dNoP := ⟨fun pins s σ H Q I h => by
  obtain ⟨F, al, sl, mu, w, po⟩ := h
  exact po_none.run pins s σ H Q I (Po.here po w.toMus rfl)⟩
theorem PO.imp {o : Option PySem.Expr} {t t' : TO} (h : PO X o t) (i : ∀ σ H Q, t' σ H Q → t σ H Q) : PO X o t' := ⟨fun pins s σ H Q I q => h.run pins s σ H Q I (i σ H Q q)⟩
theorem do_some (h : DE X cl W a fa) : DO X cl W (some a) (dP fa) := PO.imp (po_some h) fun σ H Q q => by
  obtain ⟨F, al, sl, mu, w, po⟩ := q
  refine seqG back_ROi w po rfl fun v d F1 al1 mu1 H1 x1 w1 r1 po1 => ?_
  cases d with
  | int i => cases r1; exact ⟨i, rfl, Po.here (R := ROi) po1 w1.toMus rfl⟩
  | _ => exact False.elim po1
theorem de_sl {l h : OF} (ha : DE X cl W a fa) (hl : DO X cl W lo l) (hh : DO X cl W hi h) : DE X cl W (.Subscript a (.Slice lo hi none p2) pos) (dSl fa l h) :=
  PE.imp (pe_slice (SlR.or sl_list (SlR.or sl_tupA sl_str)) ha hl hh) fun σ H Q q => by
    obtain ⟨F, al, sl, mu, w, po⟩ := q
    refine seqG back_RD w po rfl fun v d F1 al1 mu1 H1 x1 w1 r1 po1 => ?_
    refine seqG back_RD w1 po1 rfl fun i i' F2 al2 mu2 H2 x2 w2 r2 po2 => ?_
    refine seqG back_RD w2 po2 rfl fun j j' F3 al3 mu3 H3 x3 w3 r3 po3 => ?_
    cases r2
    cases r3
    dsimp only at po3
    cases z : sliceD (lookD mu3 d) i j with
    | none => rw [z] at po3; exact False.elim po3
    | some res =>
      rw [z] at po3
      exact sl_top (T := Cx.th X cl) w3.toMus (top_look w3.toMus (x3.rp (x2.rp r1))) z fun v' F' H' x' r' => po3 v' F' al3 H' x' r'
end

/-! ### isinstance -/
inductive Ty where
  | int | bool | str | list | tuple | dict
  deriving DecidableEq
def Ty.n : Ty → String
  | .int => "int" | .bool => "bool" | .str => "str" | .list => "list" | .tuple => "tuple" | .dict => "dict"
def isTy : Ty → D → Bool
  | .int, .int _ => true
  | .int, .bl _ => true
  | .bool, .bl _ => true
  | .str, .str _ => true
  | .list, .lst _ => true
  | .tuple, .tup _ => true
  | .dict, .dct _ => true
  | _, _ => false
/-- what isinstance may look at -/
def isiOk : D → Bool
  | .obj _ => false
  | .dct _ => false
  | .frl _ => false
  | _ => true
/-- what of the text a class of instances must have -/
structure ClsT (K : PySem.W.Frag) (C : Addr) : Prop where
  cl : Cls K C
  ha : PySem.W.findIn K (.ref C) "__class__" = some (some (.builtin "object.__class__"))
  hn : PySem.W.specialIn K (.builtin "object.__class__") "__get__" = some (some (.builtin "getset_descriptor.__get__"))
  tk : PySem.W.takesIn K (.builtin "object.__class__") = some true
  mr : PySem.W.mroIn K C (.type "object") = some true
  is : ∀ t : Ty, PySem.W.kitOne K (.ref C) (.type t.n) = some false
def tyNm : D → Option String
  | .non => some "NoneType"
  | .bl _ => some "bool"
  | .int _ => some "int"
  | .str _ => some "str"
  | .lst _ => some "list"
  | .tup _ => some "tuple"
  | _ => none
theorem kit_tbl : ∀ (t : Ty), kitB "NoneType" t.n = some false ∧ kitB "bool" t.n = some (decide (t = .int ∨ t = .bool)) ∧ kitB "int" t.n = some (decide (t = .int)) ∧ kitB "str" t.n = some (decide (t = .str)) ∧ kitB "list" t.n = some (decide (t = .list)) ∧ kitB "tuple" t.n = some (decide (t = .tuple)) := by
  intro t
  cases t <;> decide +kernel
/-- the type of what is looked at -/
theorem tyX_top {T : Th} {F : Hp} {al : Nat → Addr} {mu : Store} {H : Hp} {v : V} {d : D} (m : Mus T F al mu H) (hC : ∀ c, T.cls c ≠ 0 → ClsT T.K (T.cls c)) (r : Top T F al mu.length H v d) (ok : isiOk d = true) :
    ∃ t, TyX T.K H v t ∧ ((∃ n, tyNm d = some n ∧ t = .type n) ∨ ∃ c fs, d = .ins c fs ∧ T.cls c ≠ 0 ∧ t = .ref (T.cls c)) := by
  cases d with
  | non => cases (show Rp _ _ _ _ _ _ from r); exact ⟨_, .base .non, .inl ⟨_, rfl, rfl⟩⟩
  | bl b => cases (show Rp _ _ _ _ _ _ from r); exact ⟨_, .base (.bl b), .inl ⟨_, rfl, rfl⟩⟩
  | int b => cases (show Rp _ _ _ _ _ _ from r); exact ⟨_, .base (.int b), .inl ⟨_, rfl, rfl⟩⟩
  | str b => cases (show Rp _ _ _ _ _ _ from r); exact ⟨_, .base (.str b), .inl ⟨_, rfl, rfl⟩⟩
  | lst l =>
    obtain ⟨a, xs, rfl, h1, h2⟩ := r
    exact ⟨_, .base (.lst h1), .inl ⟨_, rfl, rfl⟩⟩
  | tup l =>
    cases (show Rp _ _ _ _ _ _ from r) with
    | tup h1 h2 =>
      exact ⟨_, .base (.tup (m.sub _ _ h1)), .inl ⟨_, rfl, rfl⟩⟩
  | ins c fs =>
    obtain ⟨hc, a, dx, vs, rfl, h1, h2⟩ := r
    have k := hC c hc
    exact ⟨_, .base (.ins h1 k.cl k.ha k.hn k.tk k.mr), .inr ⟨c, fs, rfl, hc, rfl⟩⟩
  | dct _ => cases ok
  | obj _ => cases ok
  | frl _ => cases ok
theorem kit_isTy {T : Th} {d : D} {t : Value} (y : Ty) (hC : ∀ c, T.cls c ≠ 0 → ClsT T.K (T.cls c)) (h : (∃ n, tyNm d = some n ∧ t = .type n) ∨ ∃ c fs, d = .ins c fs ∧ T.cls c ≠ 0 ∧ t = .ref (T.cls c)) : PySem.W.kitOne T.K t (.type y.n) = some (isTy y d) := by
  obtain ⟨k1, k2, k3, k4, k5, k6⟩ := kit_tbl y
  rcases h with ⟨n, e, rfl⟩ | ⟨c, fs, rfl, hc, rfl⟩
  · cases d with
    | non => cases e; rw [kit_ty k1]; cases y <;> rfl
    | bl b => cases e; rw [kit_ty k2]; cases y <;> rfl
    | int b => cases e; rw [kit_ty k3]; cases y <;> rfl
    | str b => cases e; rw [kit_ty k4]; cases y <;> rfl
    | lst b => cases e; rw [kit_ty k5]; cases y <;> rfl
    | tup b => cases e; rw [kit_ty k6]; cases y <;> rfl
    | _ => cases e
  · rw [(hC c hc).is y]
    cases y <;> rfl
/-- isinstance(x, T) -/
def dIsi (y : Ty) (f : EF) : BF := dBind f fun d _ mu => if isiOk d = true then .ok (isTy y d) mu else .bad
/-- isinstance(x, (T1, T2)) -/
def dIsi2 (y z : Ty) (f : EF) : BF := dBind f fun d _ mu => if isiOk d = true then .ok (isTy y d || isTy z d) mu else .bad
/-- isinstance(x, an own class) -/
def isIn (c : Nat) : D → Bool
  | .ins c' _ => c' == c
  | _ => false
def dIsC (c : Nat) (f : EF) : BF := dBind f fun d _ mu => if isiOk d = true then .ok (isIn c d) mu else .bad
structure ClsI (K : PySem.W.Frag) (cl : Nat → Addr) (c : Nat) : Prop where
  ty : ∀ n ∈ ["NoneType", "bool", "int", "str", "list", "tuple"], PySem.W.kitOne K (.type n) (.ref (cl c)) = some false
  own : ∀ c', cl c' ≠ 0 → PySem.W.kitOne K (.ref (cl c')) (.ref (cl c)) = some (c' == c)
section
variable {X : Cx} {cl : Nat → Addr} {W : WX} {a b e : PySem.Expr} {f fa fb : EF} {pos p1 p2 p3 p4 : Pos} {x : Str}
theorem de_isi {y : Ty} {tn : PySem.Expr} (hC : ∀ c, cl c ≠ 0 → ClsT X.K (cl c)) (hg : Gl X "isinstance") (hm : X.mg "isinstance" = none) (h : DKk X cl W e f) (ht : PE X tn (tC (.ty y.n)))
    (he : starEach [e, tn] X.env = (false, eval e X.env) :: starEach [tn] X.env := by rfl) (he2 : starEach [tn] X.env = (false, eval tn X.env) :: starEach [] X.env := by rfl) (hpl : (backTo pos (starEach [tn] X.env)).any (·.1) = false := by rfl) :
    DE X cl W (.Call (.Name "isinstance" p1) [e, tn] [] pos) (dB2v (dIsi y f)) :=
  PE.imp (pe_callB call_isi hg hm PyProof.Rows.boot_isinstance (pa_cons h (pa_cons ht pa_nil he2) he) (by decide) (by decide) he hpl) fun σ H Q q => by
    obtain ⟨F, al, sl, mu, w, po⟩ := tV2B q
    refine seqG back_RB w po rfl fun v d F1 al1 mu1 H1 x1 w1 r1 po1 => ?_
    dsimp only at po1
    split at po1
    · rename_i ok
      obtain ⟨t, h1, h2⟩ := tyX_top (T := Cx.th X cl) w1.toMus hC r1 ok
      exact ⟨v, .ty y.n, t, .type y.n, isTy y d, rfl, .ty _, h1, kit_isTy (T := Cx.th X cl) y hC h2, Po.here (R := RB) (Q := fun c H' => Q (.bl c) H') po1 w1.toMus rfl⟩
    · exact False.elim po1
theorem de_isi2 {y z : Ty} {tn tm : PySem.Expr} {k : Nat} (hC : ∀ c, cl c ≠ 0 → ClsT X.K (cl c)) (hg : Gl X "isinstance") (hm : X.mg "isinstance" = none) (h : DKk X cl W e f) (ht : PE X tn (tC (.ty y.n))) (hu : PE X tm (tC (.ty z.n)))
    (he : starEach [e, .Tuple [tn, tm] k p4] X.env = (false, eval e X.env) :: starEach [.Tuple [tn, tm] k p4] X.env := by rfl) (he2 : starEach [.Tuple [tn, tm] k p4] X.env = (false, eval (.Tuple [tn, tm] k p4) X.env) :: starEach [] X.env := by rfl)
    (he3 : starEach [tn, tm] X.env = (false, eval tn X.env) :: starEach [tm] X.env := by rfl) (he4 : starEach [tm] X.env = (false, eval tm X.env) :: starEach [] X.env := by rfl) (hpl : (backTo pos (starEach [.Tuple [tn, tm] k p4] X.env)).any (·.1) = false := by rfl) :
    DE X cl W (.Call (.Name "isinstance" p1) [e, .Tuple [tn, tm] k p4] [] pos) (dB2v (dIsi2 y z f)) :=
  PE.imp (pe_callB call_isiT hg hm PyProof.Rows.boot_isinstance (pa_cons h (pa_cons (pe_tup (pa_cons ht (pa_cons hu pa_nil he4) he3)) pa_nil he2) he) (by decide) (by decide) he hpl) fun σ H Q q => by
    obtain ⟨F, al, sl, mu, w, po⟩ := tV2B q
    refine seqG back_RB w po rfl fun v d F1 al1 mu1 H1 x1 w1 r1 po1 => ?_
    refine ⟨by show 2 ≤ sizeLine; rw [sizeLine_eq]; decide, fun p hp => ?_⟩
    dsimp only at po1
    split at po1
    · rename_i ok
      have x2 := Ext.laidH w1.toMus (o := .tup [V.ty y.n, V.ty z.n]) hp
      have r2 : Top (Cx.th X cl) F1 al1 mu1.length (upd H1 p (.tup [V.ty y.n, V.ty z.n])) v d := by
        cases d with
        | lst l =>
          obtain ⟨a, xs, e, h1, h2⟩ := r1
          exact ⟨a, xs, e, by rw [upd_ne (ne_of_none h1 hp)]; exact h1, h2⟩
        | ins c fs =>
          obtain ⟨h0, a, dx, xs, e, h1, h2⟩ := r1
          exact ⟨h0, a, dx, xs, e, by rw [upd_ne (ne_of_none h1 hp)]; exact h1, h2⟩
        | _ => exact r1
      obtain ⟨t, h1, h2⟩ := tyX_top (T := Cx.th X cl) x2.mus hC r2 ok
      have k1 := kit_isTy (T := Cx.th X cl) y hC h2
      have k2 := kit_isTy (T := Cx.th X cl) z hC h2
      refine ⟨v, p, [.ty y.n, .ty z.n], t, [.type y.n, .type z.n], isTy y d || isTy z d, rfl, upd_same, .cons (.ty _) (.cons (.ty _) .nil), h1, ?_, po1 _ F1 al1 _ x2 rfl⟩
      refine kitAny_cons k1 (fun e1 => ?_) (fun e1 => by rw [e1]; rfl)
      refine kitAny_cons k2 (fun e2 => ?_) (fun e2 => by rw [e2, Bool.or_true])
      rw [e1, e2]; rfl
    · exact False.elim po1
theorem de_isC {c : Nat} {tn : PySem.Expr} (hC : ∀ c, cl c ≠ 0 → ClsT X.K (cl c)) (hI : ClsI X.K cl c) (hg : Gl X "isinstance") (hm : X.mg "isinstance" = none) (h : DKk X cl W e f) (ht : PE X tn (tC (.ref (cl c))))
    (he : starEach [e, tn] X.env = (false, eval e X.env) :: starEach [tn] X.env := by rfl) (he2 : starEach [tn] X.env = (false, eval tn X.env) :: starEach [] X.env := by rfl) (hpl : (backTo pos (starEach [tn] X.env)).any (·.1) = false := by rfl) :
    DE X cl W (.Call (.Name "isinstance" p1) [e, tn] [] pos) (dB2v (dIsC c f)) :=
  PE.imp (pe_callB call_isi hg hm PyProof.Rows.boot_isinstance (pa_cons h (pa_cons ht pa_nil he2) he) (by decide) (by decide) he hpl) fun σ H Q q => by
    obtain ⟨F, al, sl, mu, w, po⟩ := tV2B q
    refine seqG back_RB w po rfl fun v d F1 al1 mu1 H1 x1 w1 r1 po1 => ?_
    dsimp only at po1
    split at po1
    · rename_i ok
      obtain ⟨t, h1, h2⟩ := tyX_top (T := Cx.th X cl) w1.toMus hC r1 ok
      have hk : PySem.W.kitOne X.K t (.ref (cl c)) = some (isIn c d) := by
        rcases h2 with ⟨n, e, rfl⟩ | ⟨c', fs, rfl, hc, rfl⟩
        · have hn : n ∈ ["NoneType", "bool", "int", "str", "list", "tuple"] := by
            cases d <;> first | (cases e; decide) | cases e
          rw [hI.ty n hn]
          cases d <;> first | rfl | cases e
        · exact hI.own c' hc
      exact ⟨v, .ref (cl c), t, .ref (cl c), isIn c d, rfl, .own _, h1, hk, Po.here (R := RB) (Q := fun c H' => Q (.bl c) H') po1 w1.toMus rfl⟩
    · exact False.elim po1

/-! ### attributes -/
def attrD (x : Str) : D → Option D
  | .ins c fs => fs.lookup x
  | _ => none
theorem RpF.lookup {T : Th} {F : Hp} {al : Nat → Addr} {n : Nat} {x : Str} {d : D} : ∀ {vs : List (Str × V)} {fs : List (Str × D)}, RpF T F al n vs fs → fs.lookup x = some d → ∃ v, vs.lookup x = some v ∧ Rp T F al n v d
  | [], [], _, h => by cases h
  | (y, v) :: vs, (z, d') :: fs, r, h => by
    cases r with
    | cons r1 r2 =>
      rw [List.lookup_cons] at h ⊢
      cases q : x == y with
      | true => rw [q] at h; cases h; exact ⟨v, rfl, r1⟩
      | false => rw [q] at h; exact RpF.lookup r2 h
  | [], _ :: _, r, _ => by cases r
  | _ :: _, [], r, _ => by cases r
theorem de_attr (hC : ∀ c, cl c ≠ 0 → ClsT X.K (cl c)) (hN : ∀ c, cl c ≠ 0 → NoAttr X.K (cl c) x) (h : DKk X cl W e f) (hb : attributeBase e x X.env (eval e X.env) = eval e X.env) : DE X cl W (.Attribute e x pos) (dOp1 (attrD x) f) :=
  PE.imp (pe_fld h hb) fun σ H Q q => by
    obtain ⟨F, al, sl, mu, w, po⟩ := q
    refine seqG back_RD w po rfl fun v d F1 al1 mu1 H1 x1 w1 r1 po1 => ?_
    dsimp only at po1
    cases z : attrD x d with
    | none => rw [z] at po1; exact False.elim po1
    | some res =>
      rw [z] at po1
      cases d with
      | ins c fs =>
        obtain ⟨hc, a, dx, vs, rfl, h1, h2⟩ := r1
        obtain ⟨u, h3, h4⟩ := h2.lookup z
        exact ⟨a, _, dx, vs, u, rfl, h1, (hC c hc).cl, hN c hc, h3, Po.here po1 w1.toMus h4⟩
      | _ => cases z
end
end DL
end

section
set_option Elab.async false
set_option linter.all false
set_option maxRecDepth 100000
set_option maxHeartbeats 4000000
/-! DO: objects of the store: made, changed, frozen; methods of lists; stores. -/
namespace DL
open PySem L2
section
variable {T : Th} {F F1 H H1 : Hp} {al al1 : Nat → Addr} {mu mu1 : Store} {sl : Sl} {σ : St} {v : V} {d : D}
def regA (al : Nat → Addr) (n : Nat) (a : Addr) : Nat → Addr := fun k => if k = n then a else al k
theorem regA_lt {n k : Nat} {a : Addr} (h : k < n) : regA al n a k = al k := if_neg (Nat.ne_of_lt h)
theorem app_get {m m' : MO} {k : Nat} (e : (mu ++ [some m])[k]? = some (some m')) : (k < mu.length ∧ mu[k]? = some (some m')) ∨ (k = mu.length ∧ m' = m) := by
  rcases Nat.lt_trichotomy k mu.length with h | h | h
  · rw [List.getElem?_append_left h] at e
    exact .inl ⟨h, e⟩
  · subst h
    rw [List.getElem?_append_right (Nat.le_refl _), Nat.sub_self] at e
    cases e
    exact .inr ⟨rfl, rfl⟩
  · rw [List.getElem?_eq_none (by rw [List.length_append]; exact h)] at e
    cases e
/-- a new object becomes one of the store -/
theorem Ext.reg (x : Ext T F al mu H F1 al1 mu1 H1) {a : Addr} {o : HO} {m : MO} (h0 : H a = none) (h1 : F1 a = none) (h2 : H1 a = some o) (c : Conc T F1 al1 mu1.length o m) (ne : ∀ k m', mu1[k]? = some (some m') → al1 k ≠ a) :
    Ext T F al mu H F1 (regA al1 mu1.length a) (mu1 ++ [some m]) H1 := by
  have len : (mu1 ++ [some m]).length = mu1.length + 1 := by simp
  have old : ∀ k, k < mu1.length → regA al1 mu1.length a k = al1 k := fun k h => regA_lt h
  have here : regA al1 mu1.length a mu1.length = a := if_pos rfl
  have up : ∀ {o m}, Conc T F1 al1 mu1.length o m → Conc T F1 (regA al1 mu1.length a) (mu1 ++ [some m]).length o m := fun c => c.mono (fun _ _ h => h) old (by rw [List.length_append]; exact Nat.le_add_right _ _)
  refine ⟨⟨x.mus.sub, fun k m' e => ?_, fun k m' k' m2 e1 e2 z => ?_⟩, x.sub, x.new, x.keep, x.there, fun k h => ?_, by rw [len]; exact Nat.le_succ_of_le x.ln, fun k m' e => ?_⟩
  · rcases app_get e with ⟨h, e⟩ | ⟨rfl, rfl⟩
    · obtain ⟨g1, o', g2, g3⟩ := x.mus.at_ k m' e
      rw [old k h]
      exact ⟨g1, o', g2, g3.mono (fun _ _ h => h) old (by rw [List.length_append]; exact Nat.le_add_right _ _)⟩
    · rw [here]
      exact ⟨h1, o, h2, up c⟩
  · rcases app_get e1 with ⟨l1, g1⟩ | ⟨i1, _⟩ <;> rcases app_get e2 with ⟨l2, g2⟩ | ⟨i2, _⟩
    · rw [old k l1, old k' l2] at z
      exact x.mus.inj k m' k' m2 g1 g2 z
    · rw [old k l1, i2, here] at z
      exact absurd z (ne k m' g1)
    · rw [old k' l2, i1, here] at z
      exact absurd z.symm (ne k' m2 g2)
    · rw [i1, i2]
  · rw [old k (Nat.lt_of_lt_of_le h x.ln)]
    exact x.als k h
  · rcases app_get e with ⟨h, e⟩ | ⟨rfl, rfl⟩
    · rcases x.fresh k m' e with g | g
      · exact .inl g
      · exact .inr (by rw [old k h]; exact g)
    · exact .inr (by rw [here]; exact h0)
/-- an object of the store is changed -/
theorem Ext.updO (M : Mus T F al mu H) {k : Nat} {m0 m : MO} {o : HO} (hk : mu[k]? = some (some m0)) (c : Conc T F al mu.length o m) : Ext T F al mu H F al (mu.set k (some m)) (upd H (al k) o) := by
  have hF := (M.at_ k m0 hk).1
  have lt := lt_of_live hk
  have get : ∀ {j : Nat} {m' : MO}, (mu.set k (some m))[j]? = some (some m') → (j = k ∧ m' = m) ∨ (k ≠ j ∧ mu[j]? = some (some m')) := fun e => by
    rcases set_get e with ⟨rfl, h, _⟩ | ⟨ne, h⟩
    · cases h; exact .inl ⟨rfl, rfl⟩
    · exact .inr ⟨ne, h⟩
  have live : ∀ {j : Nat} {m' : MO}, (mu.set k (some m))[j]? = some (some m') → ∃ m2, mu[j]? = some (some m2) := fun e => by
    rcases get e with ⟨rfl, _⟩ | ⟨_, h⟩
    · exact ⟨_, hk⟩
    · exact ⟨_, h⟩
  refine ⟨⟨fun a u e => ?_, fun j m' e => ?_, fun j m1 j' m2 e1 e2 z => ?_⟩, fun _ _ h => h, fun _ _ h => .inl h, fun a u e n => ?_, there_upd, fun _ _ => rfl, by rw [List.length_set]; exact Nat.le_refl _, fun j m' e => .inl (live e)⟩
  · rw [upd_ne (ne_of_none e hF)]; exact M.sub a u e
  · rw [List.length_set]
    rcases get e with ⟨rfl, rfl⟩ | ⟨ne, h⟩
    · exact ⟨hF, o, upd_same, c⟩
    · obtain ⟨g1, o', g2, g3⟩ := M.at_ j m' h
      exact ⟨g1, o', by rw [upd_ne fun z => ne (M.inj j m' k m0 h hk z).symm]; exact g2, g3⟩
  · obtain ⟨m3, e3⟩ := live e1
    obtain ⟨m4, e4⟩ := live e2
    exact M.inj j m3 j' m4 e3 e4 z
  · rw [upd_ne fun z => n k m0 hk z.symm]; exact e
/-- an object of the store is frozen -/
theorem Ext.frzO (M : Mus T F al mu H) {k : Nat} {m : MO} (hk : mu[k]? = some (some m)) (hm : ∀ kvs, m ≠ .dct kvs) : ∃ F', Ext T F al mu H F' al (mu.set k none) H ∧ Rp T F' al (mu.set k none).length (.ref (al k)) m.d := by
  obtain ⟨hF, o, ho, c⟩ := M.at_ k m hk
  have up : ∀ b u, F b = some u → upd F (al k) o b = some u := fun b u e => by rw [upd_ne (ne_of_none e hF)]; exact e
  have live : ∀ {j : Nat} {m' : MO}, (mu.set k none)[j]? = some (some m') → k ≠ j ∧ mu[j]? = some (some m') := fun e => by
    rcases set_get e with ⟨rfl, h, _⟩ | ⟨ne, h⟩
    · cases h
    · exact ⟨ne, h⟩
  refine ⟨upd F (al k) o, ⟨⟨fun a u e => ?_, fun j m' e => ?_, fun j m1 j' m2 e1 e2 z => M.inj j m1 j' m2 (live e1).2 (live e2).2 z⟩, up, fun a u e => ?_, fun a u e _ => e, fun _ h => h, fun _ _ => rfl, by rw [List.length_set]; exact Nat.le_refl _, fun j m' e => .inl ⟨m', (live e).2⟩⟩, by rw [List.length_set]; exact rp_freeze hF c hm⟩
  · by_cases z : a = al k
    · subst z; rw [upd_same] at e; cases e; exact ho
    · rw [upd_ne z] at e; exact M.sub a u e
  · obtain ⟨ne, h⟩ := live e
    obtain ⟨g1, o', g2, g3⟩ := M.at_ j m' h
    rw [List.length_set]
    exact ⟨by rw [upd_ne fun z => ne (M.inj j m' k m h hk z).symm]; exact g1, o', g2, g3.mono up (fun _ _ => rfl) (Nat.le_refl _)⟩
  · by_cases z : a = al k
    · exact .inr (.inr ⟨k, m, hk, z.symm⟩)
    · rw [upd_ne z] at e; exact .inl e
end

/-- a new object becomes one of the store -/
def dReg (f : NF) : EF := dBind f fun m _ mu => .ok (.obj mu.length) (mu ++ [some m])
/-- an object of the store is frozen; what is none stays -/
def dFz (f : EF) : EF := dBind f fun d _ mu => match d with
  | .obj k => match mu[k]? with
    | some (some (.lst l)) => .ok (.lst l) (mu.set k none)
    | some (some (.ins c fs)) => .ok (.ins c fs) (mu.set k none)
    | _ => .bad
  | d => .ok d mu
section
variable {X : Cx} {cl : Nat → Addr} {W : WX} {n : En} {a b e o i : PySem.Expr} {es : List PySem.Expr} {f fa fb fo fi : EF} {ga : LF} {pos p1 pos' apos cpos : Pos} {x : Str}
theorem de_reg {f : NF} (h : DN X cl W e f) : DE X cl W e (dReg f) := PE.imp h fun σ H Q q => by
  obtain ⟨F, al, sl, mu, w, po⟩ := q
  refine ⟨F, al, sl, mu, w, ?_⟩
  unfold dReg dBind obind at po
  cases q : f sl mu with
  | ok m mu1 =>
    rw [q] at po
    intro v F1 al1 H1 x r
    obtain ⟨a, o, rfl, h0, h1, h2, h3, h4⟩ := r
    refine po _ _ _ _ (x.reg h0 h1 h2 h3 h4) ?_
    have := Rp.obj (T := Cx.th X cl) (F := F1) (al := regA al1 mu1.length a) (n := (mu1 ++ [some m]).length) (k := mu1.length) (by simp)
    rwa [show regA al1 mu1.length a mu1.length = a from if_pos rfl] at this
  | ex c fs mu1 => rw [q] at po; exact po
  | bad => rw [q] at po; exact po
theorem de_fz (h : DE X cl W e f) : DE X cl W e (dFz f) := PE.imp h fun σ H Q q => by
  obtain ⟨F, al, sl, mu, w, po⟩ := q
  refine seqG back_RD w po rfl fun v d F1 al1 mu1 H1 x1 w1 r1 po1 => ?_
  cases d with
  | obj k =>
    dsimp only at po1
    cases r1
    split at po1
    · rename_i l hk
      obtain ⟨F', x2, r2⟩ := Ext.frzO w1.toMus hk (fun _ z => nomatch z)
      exact po1 _ _ _ _ x2 r2
    · rename_i c fs hk
      obtain ⟨F', x2, r2⟩ := Ext.frzO w1.toMus hk (fun _ z => nomatch z)
      exact po1 _ _ _ _ x2 r2
    · exact False.elim po1
  | _ => exact Po.here po1 w1.toMus r1

/-! ### methods that change a list of the store -/
def lstOf (mu : Store) : D → Option (List D)
  | .obj k => match mu[k]? with
    | some (some (.lst l)) => some l
    | _ => none
  | _ => none
def putO (mu : Store) (d : D) (m : MO) : Store := match d with
  | .obj k => mu.set k (some m)
  | _ => mu
theorem lstOf_get {mu : Store} {d : D} {l : List D} (h : lstOf mu d = some l) : ∃ k, d = .obj k ∧ mu[k]? = some (some (.lst l)) := by
  cases d with
  | obj k =>
    unfold lstOf at h
    dsimp only at h
    split at h
    · rename_i l' e
      cases h
      exact ⟨k, rfl, e⟩
    · cases h
  | _ => cases h
def RMut (T : Th) (r : V → List V → Hp → VK → Prop) (g : List D → List D → Option (D × List D)) : Prop := ∀ (F : Hp) (al : Nat → Addr) (mu : Store) (H : Hp), Mus T F al mu H → ∀ (a : Addr) (xs : List V) (l : List D) (vs : List V) (ds : List D) (res : D) (l' : List D) (Q : VK),
  H a = some (.lst xs) → RpL T F al mu.length xs l → RpL T F al mu.length vs ds → g l ds = some (res, l') → (∀ v xs', RpL T F al mu.length xs' l' → Rp T F al mu.length v res → Q v (upd H a (.lst xs'))) → r (.ref a) vs H Q
def dMut (g : List D → List D → Option (D × List D)) (fo : EF) (ga : LF) : EF := dBind fo fun d sl mu => match lstOf mu d with
  | some _ => obind (ga sl mu) fun ds mu => match lstOf mu d with
    | some l => match g l ds with
      | some (res, l') => .ok res (putO mu d (.lst l'))
      | none => .bad
    | none => .bad
  | none => .bad
theorem Mus.lst {T : Th} {F H : Hp} {al : Nat → Addr} {mu : Store} (M : Mus T F al mu H) {k : Nat} {l : List D} (hk : mu[k]? = some (some (.lst l))) : ∃ xs, H (al k) = some (.lst xs) ∧ RpL T F al mu.length xs l := by
  obtain ⟨_, o, h1, h2⟩ := M.at_ k _ hk
  cases o <;> first
    | exact False.elim h2
    | exact ⟨_, h1, h2⟩
theorem tMut {r : V → List V → Hp → VK → Prop} {g : List D → List D → Option (D × List D)} (hr : RMut (Cx.th X cl) r g) {σ : St} {H : Hp} {Q : VK} (q : tG (Cx.th X cl) W (RD (Cx.th X cl)) (dMut g fo ga) σ H Q) : tBM X.K "list" r (tG (Cx.th X cl) W (RD (Cx.th X cl)) fo) (tG (Cx.th X cl) W (RLs (Cx.th X cl)) ga) σ H Q := by
  obtain ⟨F, al, sl, mu, w, po⟩ := q
  refine seqG back_RD w po rfl fun v d F1 al1 mu1 H1 x1 w1 r1 po1 => ?_
  dsimp only at po1
  cases z : lstOf mu1 d with
  | none => rw [z] at po1; exact False.elim po1
  | some l1 =>
    rw [z] at po1
    dsimp only at po1
    obtain ⟨k, rfl, hk⟩ := lstOf_get z
    cases r1 with
    | obj lt =>
    obtain ⟨xs, h1, _⟩ := w1.toMus.lst hk
    refine ⟨.inl ⟨rfl, xs, SqL.of h1⟩, ?_⟩
    refine seqG back_RD w1 po1 rfl fun vs ds F2 al2 mu2 H2 x2 w2 r2 po2 => ?_
    cases z2 : lstOf mu2 (.obj k) with
    | none => rw [z2] at po2; exact False.elim po2
    | some l2 =>
      rw [z2] at po2
      dsimp only at po2
      cases z3 : g l2 ds with
      | none => rw [z3] at po2; exact False.elim po2
      | some p =>
        obtain ⟨res, l'⟩ := p
        rw [z3] at po2
        obtain ⟨k', e', hk2⟩ := lstOf_get z2
        cases e'
        obtain ⟨ys, h2, h3⟩ := w2.toMus.lst hk2
        rw [← x2.als k lt]
        refine hr F2 al2 mu2 H2 w2.toMus _ ys l2 vs ds res l' Q h2 h3 r2 z3 fun v xs' h4 h5 => ?_
        exact po2 v F2 al2 _ (Ext.updO w2.toMus hk2 (o := .lst xs') (m := .lst l') h4) (by show Rp _ _ _ (mu2.set k _).length _ _; rw [List.length_set]; exact h5)
theorem de_mut {name : Str} {id : String} {r : V → List V → Hp → VK → Prop} {g : List D → List D → Option (D × List D)} (slot : Slot "list" name id) (hty : typeOf (.builtin id) = pure (.type "method_descriptor")) (hm : MtR X id r) (hr : RMut (Cx.th X cl) r g) (ho : DE X cl W o fo) (ha : DAs X cl W (e :: es) ga)
    (hbase : attributeBase o name X.env (eval o X.env) = eval o X.env := by rfl)
    (hfew : ((backTo cpos (starEach (e :: es) X.env)).all (fun x => !x.1) && (backToKw cpos (keywordEach [] X.env)).all (fun x => x.1.isSome)
      && decide ((e :: es).length + ([] : List Keyword).length + (if ([] : List Keyword).isEmpty then 0 else 1) < 30)) = true := by rfl)
    (hline : (apos.endLine == cpos.line) = true := by rfl) (hs : starEach (e :: es) X.env = (false, eval e X.env) :: starEach es X.env := by rfl) (hplain : (backTo cpos (starEach es X.env)).any (·.1) = false := by rfl) :
    DE X cl W (.Call (.Attribute o name apos) (e :: es) [] cpos) (dMut g fo ga) :=
  PE.imp (pe_bm F.plainAttrs_list slot hty hm ho ha hbase hfew hline hs hplain) fun σ H Q q => tMut hr q
def appD (l ds : List D) : Option (D × List D) := match ds with
  | [d] => if l.length < 16000000 then some (.non, l ++ [d]) else none
  | _ => none
theorem rm_append {T : Th} : RMut T rAppend appD := fun F al mu H m a xs l vs ds res l' Q h1 h2 h3 z k => by
  unfold appD at z
  split at z
  · rename_i d
    split at z
    · rename_i hl
      cases z
      cases h3 with
      | cons r1 r2 =>
        cases r2
        exact ⟨a, xs, _, rfl, rfl, h1, by rw [RpL.len h2, sizeLine_eq]; omega, k _ _ (h2.append (.cons r1 .nil)) .non⟩
    · cases z
  · cases z
def extD (l ds : List D) : Option (D × List D) := match ds with
  | [.lst l'] => if l.length + l'.length ≤ 16000000 then some (.non, l ++ l') else none
  | _ => none
theorem rm_extend {T : Th} : RMut T rExtend extD := fun F al mu H m a xs l vs ds res l' Q h1 h2 h3 z k => by
  unfold extD at z
  split at z
  · rename_i d
    split at z
    · rename_i hl
      cases z
      cases h3 with
      | cons r1 r2 =>
        cases r2
        cases r1 with
        | lst g1 g2 => exact ⟨a, _, xs, _, rfl, rfl, h1, m.sub _ _ g1, by rw [RpL.len h2, RpL.len g2, sizeLine_eq]; omega, k _ _ (h2.append g2) .non⟩
    · cases z
  · cases z
def popD (l ds : List D) : Option (D × List D) := match ds with
  | [.int i] => if rgOk i = true then match seqIndex? i l.length with
    | some k => match l[k]? with
      | some d => some (d, l.eraseIdx k)
      | none => none
    | none => none
    else none
  | _ => none
theorem RpL.erase {T : Th} {F : Hp} {al : Nat → Addr} {n : Nat} : ∀ {vs : List V} {ds : List D} (k : Nat), RpL T F al n vs ds → RpL T F al n (vs.eraseIdx k) (ds.eraseIdx k)
  | [], [], _, h => h
  | v :: vs, d :: ds, 0, .cons _ h => h
  | v :: vs, d :: ds, k + 1, .cons h1 h => .cons h1 (RpL.erase k h)
  | [], d :: ds, _, h => by cases h
  | v :: vs, [], _, h => by cases h
theorem rm_pop {T : Th} : RMut T rPopAt popD := fun F al mu H m a xs l vs ds res l' Q h1 h2 h3 z k => by
  unfold popD at z
  split at z
  · rename_i i
    split at z
    · rename_i hi
      split at z
      · rename_i j hj
        split at z
        · rename_i d hd
          cases z
          cases h3 with
          | cons r1 r2 =>
            cases r2
            cases r1
            obtain ⟨y, g1, g2⟩ := h2.get hd
            have hi := rgOk_of hi
            exact ⟨a, xs, i, j, y, rfl, rfl, h1, by omega, by omega, by rw [RpL.len h2]; exact hj, g1, k _ _ (h2.erase j) g2⟩
        · cases z
      · cases z
    · cases z
  · cases z
theorem de_append (ho : DE X cl W o fo) (ha : DAs X cl W [e] ga)
    (hbase : attributeBase o "append" X.env (eval o X.env) = eval o X.env := by rfl)
    (hfew : ((backTo cpos (starEach [e] X.env)).all (fun x => !x.1) && (backToKw cpos (keywordEach [] X.env)).all (fun x => x.1.isSome)
      && decide ([e].length + ([] : List Keyword).length + (if ([] : List Keyword).isEmpty then 0 else 1) < 30)) = true := by rfl)
    (hline : (apos.endLine == cpos.line) = true := by rfl) (hs : starEach [e] X.env = (false, eval e X.env) :: starEach [] X.env := by rfl) (hplain : (backTo cpos (starEach [] X.env)).any (·.1) = false := by rfl) :
    DE X cl W (.Call (.Attribute o "append" apos) [e] [] cpos) (dMut appD fo ga) := de_mut F.slot_list_append (by rfl) mt_append rm_append ho ha hbase hfew hline hs hplain
theorem de_extend (ho : DE X cl W o fo) (ha : DAs X cl W [e] ga)
    (hbase : attributeBase o "extend" X.env (eval o X.env) = eval o X.env := by rfl)
    (hfew : ((backTo cpos (starEach [e] X.env)).all (fun x => !x.1) && (backToKw cpos (keywordEach [] X.env)).all (fun x => x.1.isSome)
      && decide ([e].length + ([] : List Keyword).length + (if ([] : List Keyword).isEmpty then 0 else 1) < 30)) = true := by rfl)
    (hline : (apos.endLine == cpos.line) = true := by rfl) (hs : starEach [e] X.env = (false, eval e X.env) :: starEach [] X.env := by rfl) (hplain : (backTo cpos (starEach [] X.env)).any (·.1) = false := by rfl) :
    DE X cl W (.Call (.Attribute o "extend" apos) [e] [] cpos) (dMut extD fo ga) := de_mut F.slot_list_extend (by rfl) mt_extend rm_extend ho ha hbase hfew hline hs hplain
theorem de_pop (ho : DE X cl W o fo) (ha : DAs X cl W [e] ga)
    (hbase : attributeBase o "pop" X.env (eval o X.env) = eval o X.env := by rfl)
    (hfew : ((backTo cpos (starEach [e] X.env)).all (fun x => !x.1) && (backToKw cpos (keywordEach [] X.env)).all (fun x => x.1.isSome)
      && decide ([e].length + ([] : List Keyword).length + (if ([] : List Keyword).isEmpty then 0 else 1) < 30)) = true := by rfl)
    (hline : (apos.endLine == cpos.line) = true := by rfl) (hs : starEach [e] X.env = (false, eval e X.env) :: starEach [] X.env := by rfl) (hplain : (backTo cpos (starEach [] X.env)).any (·.1) = false := by rfl) :
    DE X cl W (.Call (.Attribute o "pop" apos) [e] [] cpos) (dMut popD fo ga) := de_mut F.slot_list_pop (by rfl) mt_popAt rm_pop ho ha hbase hfew hline hs hplain

/-! ### o[i] = v, o.f = v, x op= v -/
def setD (l : List D) (i v : D) : Option (List D) := match i with
  | .int k => match ixN l.length k with
    | some j => some (l.set j v)
    | none => none
  | _ => none
def sSetI (fo fi f : EF) : SF := fun sl mu => sbind (f sl mu) sl fun v mu => sbind (fo sl mu) sl fun d mu => sbind (fi sl mu) sl fun i mu => match lstOf mu d with
  | some l => match setD l i v with
    | some l' => .nx sl (putO mu d (.lst l'))
    | none => .bad
  | none => .bad
theorem RpL.set {T : Th} {F : Hp} {al : Nat → Addr} {n : Nat} {v : V} {d : D} (r : Rp T F al n v d) : ∀ {vs : List V} {ds : List D} (k : Nat), RpL T F al n vs ds → RpL T F al n (vs.set k v) (ds.set k d)
  | [], [], _, h => h
  | _ :: vs, _ :: ds, 0, .cons _ h => .cons r h
  | _ :: vs, _ :: ds, k + 1, .cons h1 h => .cons h1 (RpL.set r k h)
  | [], d :: ds, _, h => by cases h
  | v :: vs, [], _, h => by cases h
theorem W3.updO {T : Th} {F H : Hp} {al : Nat → Addr} {mu : Store} {sl : Sl} {σ : St} (w : W3 T n F al sl mu σ H) {k : Nat} {m0 m : MO} {o : HO} (hk : mu[k]? = some (some m0)) (c : Conc T F al mu.length o m) : W3 T n F al sl (mu.set k (some m)) σ (L2.upd H (al k) o) := w.ext (Ext.updO w.w.toMus hk c)
theorem ds_setI (hf : DE X cl W e f) (ho : DE X cl W o fo) (hi : DE X cl W i fi)
    (ha : ∀ v, assign (.Subscript o i pos') X.env v = (do
      let ov ← holding [v] (eval o X.env)
      let iv ← holding [v, ov] (eval i X.env)
      standAt pos'
      holding [v, ov, iv] (setItem ov iv v)
      release [v, ov, iv] []) := by intro _; rfl)
    (hs : swapsWithSole [.Subscript o i pos'] e pos.line X.env = pure false := by rfl) (hw : swappedStores [.Subscript o i pos'] e X.env = pure none := by rfl)
    (h1 : (assignEach [.Subscript o i pos'] X.env).map (·.2) = [assign (.Subscript o i pos') X.env] := by rfl) : DS X cl W n (.Assign [.Subscript o i pos'] e pos) (sSetI fo fi f) :=
  PS.imp (ps_asg hf (pg_sub ho hi set_list ha) hs hw h1) fun Z σ H q => by
    obtain ⟨F, al, sl, mu, w, po⟩ := q
    refine seqS w po rfl fun v d F1 al1 mu1 H1 x1 w1 r1 po1 => ?_
    refine seqS w1 po1 rfl fun ov dd F2 al2 mu2 H2 x2 w2 r2 po2 => ?_
    refine seqS w2 po2 rfl fun iv di F3 al3 mu3 H3 x3 w3 r3 po3 => ?_
    cases z : lstOf mu3 dd with
    | none => rw [z] at po3; exact False.elim po3
    | some l =>
      rw [z] at po3
      dsimp only at po3
      obtain ⟨k, rfl, hk⟩ := lstOf_get z
      cases z2 : setD l di d with
      | none => rw [z2] at po3; exact False.elim po3
      | some l' =>
        rw [z2] at po3
        unfold setD at z2
        cases di with
        | int ii =>
          dsimp only at z2
          cases r3
          have r4 := x3.rp r2
          cases r4
          obtain ⟨xs, h1, h2⟩ := w3.w.toMus.lst hk
          split at z2
          · rename_i j hj
            cases z2
            exact ⟨_, xs, ii, j, rfl, rfl, h1, by rw [RpL.len h2]; exact hj, PoS.nx po3 (w3.updO hk (o := .lst (xs.set j v)) (m := .lst (l.set j d)) (h2.set (x3.rp (x2.rp r1)) j)) (by show mu3.length ≤ (mu3.set k _).length; rw [List.length_set]; exact Nat.le_refl _)⟩
          · cases z2
        | _ => cases z2
def putFD (f : Str) (v : D) : List (Str × D) → List (Str × D)
  | [] => [(f, v)]
  | (g, u) :: r => if g = f then (g, v) :: r else (g, u) :: putFD f v r
end
end DL
end

section
set_option Elab.async false
set_option linter.all false
set_option maxRecDepth 100000
set_option maxHeartbeats 4000000
/-! DP: attributes stored, augmented names, methods, instances made, own ==. -/
namespace DL
open PySem L2
section
variable {X : Cx} {k : Nat} {f C : Addr} {fd : FuncData} {ps : List Str} {sp : Sp} {E : St → XK} {x m : Str} {p pos apos : Pos} {e o : PySem.Expr} {es : List PySem.Expr} {ta : TE} {t : TA} {CX : CXT}
def tMeW (C : Addr) (m : Str) (sp : Sp) (E : St → XK) (ta : TE) (t : TA) : TE := fun σ H Q => ta σ H fun x H1 => ∃ a dx fs, x = .ref a ∧ H1 a = some (.ins C dx fs) ∧ fs.lookup m = none ∧ t σ H1 fun vs H2 => sp (x :: vs) H2 Q (E σ)
def tMkW (C : Addr) (sp : Sp) (E : St → XK) (t : TA) : TE := fun σ H Q => t σ H fun vs H1 => ∀ x dx, H1 x = none → H1 dx = none → dx ≠ x → sp (.ref x :: vs) (upd (upd H1 dx (.own x)) x (.ins C dx [])) (fun v H2 => v = .non ∧ Q (.ref x) H2) (E σ)
theorem pe_meW {pl : Sem Bool} (he : PE X o ta) (c : Cls X.K C) (hm : Meth X.K C m f) (F : FnOk X.prog X.w X.K X.mg X.base CX k f fd ps sp) (hr : Room k X.A) (hb : Binds X.K fd ps []) (hx : ∀ σ, PassesAt CX X σ (E σ)) (ha : PA X (e :: es) t)
    (hst : starEach (e :: es) X.env = (false, eval e X.env) :: starEach es X.env := by rfl) (hpl : (backTo pos (starEach es X.env)).any (·.1) = false := by rfl)
    (ht : eval (.Call (.Attribute o m apos) (e :: es) [] pos) X.env = (do
      let ov ← eval o X.env
      standAt apos.atName
      let (f, first) ← holding [ov] (getMethod ov m pl)
      callWith pos f first (backTo pos (starEach (e :: es) X.env)) (backToKw pos (keywordEach [] X.env))) := by rfl) :
    PE X (.Call (.Attribute o m apos) (e :: es) [] pos) (tMeW C m sp E ta t) := by
  refine ⟨fun pins s σ H Q I h => ?_⟩
  refine PySem.W.methodCall_KW (pl := pl) (thn (he.run pins s σ H _ I h) fun u s1 ⟨x, H1, I1, rx, a, dx, fs, ex, ea, l, q⟩ => ?_) ht
  subst ex
  obtain rfl : u = Value.ref a := rx
  refine getmeth_ok I1 ea c hm l ?_
  refine PySem.W.callWith_K (first := [.ref a]) (h₀ := X.base) I.ok.mod.kin hm.kp (thn (ha.run pos pins s1 σ H1 _ I1 q) fun us s2 ⟨vs, H2, I2, r, q2⟩ => ⟨I2.kIn, ?_⟩) hst hpl
  exact run_fnS (us := .ref a :: us) (vs := .ref a :: vs) F hr hb (hx σ) I2 (.cons rfl r) q2
theorem pe_meW0 {pl : Sem Bool} (he : PE X o ta) (c : Cls X.K C) (hm : Meth X.K C m f) (F : FnOk X.prog X.w X.K X.mg X.base CX k f fd ps sp) (hr : Room k X.A) (hb : Binds X.K fd ps []) (hx : ∀ σ, PassesAt CX X σ (E σ))
    (ht : eval (.Call (.Attribute o m apos) [] [] pos) X.env = (do
      let ov ← eval o X.env
      standAt apos.atName
      let (f, first) ← holding [ov] (getMethod ov m pl)
      callWith pos f first (backTo pos (starEach [] X.env)) (backToKw pos (keywordEach [] X.env))) := by rfl) :
    PE X (.Call (.Attribute o m apos) [] [] pos) (tMeW C m sp E ta tNil) := by
  refine ⟨fun pins s σ H Q I h => ?_⟩
  refine PySem.W.methodCall_KW (pl := pl) (thn (he.run pins s σ H _ I h) fun u s1 ⟨x, H1, I1, rx, a, dx, fs, ex, ea, l, q⟩ => ?_) ht
  subst ex
  obtain rfl : u = Value.ref a := rx
  refine getmeth_ok I1 ea c hm l ?_
  exact PySem.W.callWith_K0 (first := [.ref a]) I1.kIn hm.kp (run_fnS (us := [.ref a]) (vs := [.ref a]) F hr hb (hx σ) I1 (.cons rfl .nil) q)
theorem run_mkW {pins : List (Addr × Obj)} {σ : St} {H : Hp} {s : Shared} {Q : VK} {us : List Value} {vs : List V} (M : Mk X.K C f) (F : FnOk X.prog X.w X.K X.mg X.base CX k f fd ps sp) (hr : Room (k + 1) X.A) (hb : Binds X.K fd ps [])
    (hx : PassesAt CX X σ (E σ)) (I : Inv X pins σ H s) (r : Vals vs us)
    (h : ∀ x dx, H x = none → H dx = none → dx ≠ x → sp (.ref x :: vs) (upd (upd H dx (.own x)) x (.ins C dx [])) (fun v H2 => v = .non ∧ Q (.ref x) H2) (E σ)) :
    wpAny (model X.prog X.w) X.A (call (.ref C) us) (EP X pins σ Q) X.xe s := by
  have hq := h (s.heap.objs.size + 1) s.heap.objs.size (I.hok.fresh (Nat.le_succ _)) (I.hok.fresh (Nat.le_refl _)) (Nat.ne_of_lt (Nat.lt_succ_self _))
  have I2 := Inv.made (C := C) I
  have r2 : Vals (V.ref (s.heap.objs.size + 1) :: vs) (Value.ref (s.heap.objs.size + 1) :: us) := .cons rfl r
  have hl : (Value.ref (s.heap.objs.size + 1) :: us).length = ps.length := by rw [← r2.length]; exact F.len _ _ _ _ hq
  have b := hb _ (Value.ref (s.heap.objs.size + 1) :: us) I2.kIn (by rw [List.append_nil]; exact hl)
  rw [List.append_nil] at b
  refine wpAny_call (make_map (f := f) I.kIn M.makes M.init (beq_iff_eq.mp M.fn) (codeAny_mono (F.run _ X.stack _ _ ⟨Value.ref (s.heap.objs.size + 1) :: us, []⟩ (Value.ref (s.heap.objs.size + 1) :: us) _ _ (E σ) (hr.make C us [])
    (I2.env0.make C us []) b r2 hq) fun r s' hq' => ?_))
  cases r with
  | error e => exact hx pins _ _ e s' I2 hq'
  | ok fl =>
    cases fl with
    | ret u =>
      obtain ⟨v, H', I3, rv, ev, q3⟩ := I2.after hq'
      subst ev
      exact ⟨rv, ⟨V.ref (s.heap.objs.size + 1), H', I3, rfl, q3⟩⟩
    | next => exact False.elim hq'
    | brk => exact False.elim hq'
    | cont => exact False.elim hq'
theorem pe_mkW (M : Mk X.K C f) (F : FnOk X.prog X.w X.K X.mg X.base CX k f fd ps sp) (hr : Room (k + 1) X.A) (hg : Gl X x) (hm : X.mg x = some (.ref C)) (hb : Binds X.K fd ps []) (hx : ∀ σ, PassesAt CX X σ (E σ))
    (ha : PA X (e :: es) t) (hdb : (x == ("__debug__" : Str)) = false := by decide) (he : starEach (e :: es) X.env = (false, eval e X.env) :: starEach es X.env := by rfl) (hpl : (backTo pos (starEach es X.env)).any (·.1) = false := by rfl) :
    PE X (.Call (.Name x p) (e :: es) [] pos) (tMkW C sp E t) := by
  refine ⟨fun pins s σ H Q I h => ?_⟩
  refine wpAny_Call_Name_kw (ld_glob I hg hm ?_ hdb)
  refine PySem.W.callWith_K (h₀ := X.base) I.ok.mod.kin M.kp (thn (ha.run pos pins s σ H _ I h) fun us s1 ⟨vs, H1, I1, r, q⟩ => ⟨I1.kIn, ?_⟩) he hpl
  exact run_mkW M F hr hb (hx σ) I1 r q
theorem pe_mkW0 (M : Mk X.K C f) (F : FnOk X.prog X.w X.K X.mg X.base CX k f fd ps sp) (hr : Room (k + 1) X.A) (hg : Gl X x) (hm : X.mg x = some (.ref C)) (hb : Binds X.K fd ps []) (hx : ∀ σ, PassesAt CX X σ (E σ))
    (hdb : (x == ("__debug__" : Str)) = false := by decide) : PE X (.Call (.Name x p) [] [] pos) (tMkW C sp E tNil) := by
  refine ⟨fun pins s σ H Q I h => ?_⟩
  refine wpAny_Call_Name_kw (ld_glob I hg hm ?_ hdb)
  exact PySem.W.callWith_K0 I.kIn M.kp (run_mkW (us := []) M F hr hb (hx σ) I .nil h)
end

/-! ### methods of own classes -/
structure Gm (P : Program) (w : World) (K : PySem.W.Frag) (mg : Str → Option Value) (base : Heap) (cl : Nat → Addr) (k c : Nat) (m : Str) (np : Nat) (p : FF) : Prop where
  ex : ∃ (f : Addr) (fd : FuncData) (ps : List Str), FnOk P w K mg base (L2.CX P w) k f fd ps (spD ⟨K, cl⟩ np p) ∧ Meth K (cl c) m f ∧ Cls K (cl c) ∧ L2.Binds K fd ps []
structure Gi (P : Program) (w : World) (K : PySem.W.Frag) (mg : Str → Option Value) (base : Heap) (cl : Nat → Addr) (k : Nat) (x : Str) (c : Nat) (np : Nat) (p : FF) : Prop where
  ex : ∃ (f : Addr) (fd : FuncData) (ps : List Str), FnOk P w K mg base (L2.CX P w) k f fd ps (spD ⟨K, cl⟩ np p) ∧ (Mk K (cl c) f ∧ cl c ≠ 0) ∧ mg x = some (.ref (cl c)) ∧ L2.Binds K fd ps []
def hasC (c : Nat) (m : Str) : D → Bool
  | .ins c' fs => c' == c && (fs.lookup m).isNone
  | _ => false
def dMeth (c : Nat) (m : Str) (p : FF) (fo : EF) (ga : LF) : EF := dBind fo fun d sl mu => if hasC c m (lookD mu d) = true then obind (ga sl mu) fun ds mu => p (d :: ds) mu else .bad
def dMake (c : Nat) (p : FF) (ga : LF) : EF := dBind ga fun ds _ mu => match p (.obj mu.length :: ds) (mu ++ [some (.ins c [])]) with
  | .ok .non mu' => .ok (.obj mu.length) mu'
  | .ex c fs mu' => .ex c fs mu'
  | _ => .bad
theorem RpF.lookup_none {T : Th} {F : Hp} {al : Nat → Addr} {n : Nat} {x : Str} : ∀ {vs : List (Str × V)} {fs : List (Str × D)}, RpF T F al n vs fs → fs.lookup x = none → vs.lookup x = none
  | [], [], _, _ => rfl
  | (y, v) :: vs, (z, d') :: fs, r, h => by
    cases r with
    | cons r1 r2 =>
      rw [List.lookup_cons] at h ⊢
      cases q : x == y with
      | true => rw [q] at h; cases h
      | false => rw [q] at h; exact RpF.lookup_none r2 h
  | [], _ :: _, r, _ => by cases r
  | _ :: _, [], r, _ => by cases r
section
variable {X : Cx} {cl : Nat → Addr} {W : WX} {n : En} {a b e o i : PySem.Expr} {es : List PySem.Expr} {f fa fb fo fi : EF} {ga : LF} {pos p1 pos' apos cpos : Pos} {x m : Str} {k c np : Nat} {p : FF}
theorem top_ins {T : Th} {F H : Hp} {al : Nat → Addr} {mu : Store} {v : V} {d : D} (M : Mus T F al mu H) (r : Rp T F al mu.length v d) (h : hasC c m (lookD mu d) = true) : ∃ a dx fs, v = .ref a ∧ H a = some (.ins (T.cls c) dx fs) ∧ fs.lookup m = none := by
  have t := top_look M r
  cases z : lookD mu d with
  | ins c' fs =>
    rw [z] at h t
    have h' : (c' == c && (fs.lookup m).isNone) = true := h
    rw [Bool.and_eq_true] at h'
    obtain ⟨_, a, dx, vs, e1, e2, e3⟩ := t
    have hc : c' = c := by simpa using h'.1
    subst hc
    exact ⟨a, dx, vs, e1, e2, e3.lookup_none (by simpa using h'.2)⟩
  | _ => rw [z] at h; cases h
theorem tMe {F0 : FF} (hl : ∀ sl mu ds mu', ga sl mu = .ok ds mu' → ds.length + 1 = np) {σ : St} {H : Hp} {Q : VK} (q : tG (Cx.th X cl) W (RD (Cx.th X cl)) (dMeth c m p fo ga) σ H Q) :
    tMeW (cl c) m (spD (Cx.th X cl) np p) (WE W) (tG (Cx.th X cl) W (RD (Cx.th X cl)) fo) (tG (Cx.th X cl) W (RLs (Cx.th X cl)) ga) σ H Q := by
  obtain ⟨F, al, sl, mu, w, po⟩ := q
  refine seqG back_RD w po rfl fun v d F1 al1 mu1 H1 x1 w1 r1 po1 => ?_
  dsimp only at po1
  split at po1
  · rename_i hc
    obtain ⟨a, dx, fs, e1, e2, e3⟩ := top_ins (T := Cx.th X cl) w1.toMus r1 hc
    subst e1
    refine ⟨a, dx, fs, rfl, e2, e3, F1, al1, sl, mu1, w1, ?_⟩
    unfold obind at po1
    cases z : ga sl mu1 with
    | ok ds mu2 =>
      rw [z] at po1
      intro vs F2 al2 H2 x2 r2
      exact ⟨F2, al2, mu2, d :: ds, x2.mus, .cons (x2.rp r1) r2, hl _ _ _ _ z, Po.wish (Po.step back_RD x2 po1) fun _ _ _ h => h⟩
    | ex c fs mu2 => rw [z] at po1; exact po1
    | bad => rw [z] at po1; exact po1
  · exact False.elim po1
theorem de_meth {pl : Sem Bool} (g : Gm X.prog X.w X.K X.mg X.base cl k c m (np + 1) p) (hr : Room k X.A) (tk : Takes X W) (ho : DE X cl W o fo) (ha : DAs X cl W (e :: es) ga) (hl : Len ga np)
    (hst : starEach (e :: es) X.env = (false, eval e X.env) :: starEach es X.env := by rfl) (hpl : (backTo pos (starEach es X.env)).any (·.1) = false := by rfl)
    (ht : eval (.Call (.Attribute o m apos) (e :: es) [] pos) X.env = (do
      let ov ← eval o X.env
      standAt apos.atName
      let (f, first) ← holding [ov] (getMethod ov m pl)
      callWith pos f first (backTo pos (starEach (e :: es) X.env)) (backToKw pos (keywordEach [] X.env))) := by rfl) :
    DE X cl W (.Call (.Attribute o m apos) (e :: es) [] pos) (dMeth c m p fo ga) := by
  obtain ⟨f, fd, ps, hf, hm, hc, hb⟩ := g.ex
  exact PE.imp (pe_meW (pl := pl) (E := WE W) ho hc hm hf hr hb (passAt tk) ha hst hpl ht) fun σ H Q q => tMe (F0 := p) (fun _ _ _ _ h => by rw [hl _ _ _ _ h]) q
theorem de_meth0 {pl : Sem Bool} (g : Gm X.prog X.w X.K X.mg X.base cl k c m 1 p) (hr : Room k X.A) (tk : Takes X W) (ho : DE X cl W o fo)
    (ht : eval (.Call (.Attribute o m apos) [] [] pos) X.env = (do
      let ov ← eval o X.env
      standAt apos.atName
      let (f, first) ← holding [ov] (getMethod ov m pl)
      callWith pos f first (backTo pos (starEach [] X.env)) (backToKw pos (keywordEach [] X.env))) := by rfl) :
    DE X cl W (.Call (.Attribute o m apos) [] [] pos) (dMeth c m p fo dNil) := by
  obtain ⟨f, fd, ps, hf, hm, hc, hb⟩ := g.ex
  refine PE.imp (pe_meW0 (pl := pl) (E := WE W) ho hc hm hf hr hb (passAt tk) ht) fun σ H Q q => ?_
  have q1 := tMe (F0 := p) (np := 1) (fun _ _ _ _ h => by cases h; rfl) q
  obtain ⟨F, al, sl, mu, w, po⟩ := q1
  refine ⟨F, al, sl, mu, w, ?_⟩
  cases z : fo sl mu with
  | ok d mu1 =>
    rw [z] at po
    intro v F1 al1 H1 x1 r1
    obtain ⟨a, dx, fs, e1, e2, e3, F2, al2, sl2, mu2, w2, po2⟩ := po v F1 al1 H1 x1 r1
    exact ⟨a, dx, fs, e1, e2, e3, Po.here po2 w2.toMus .nil⟩
  | ex c fs mu1 => rw [z] at po; exact po
  | bad => rw [z] at po; exact po
theorem tMkD (h0 : cl c ≠ 0) (hl : ∀ sl mu ds mu', ga sl mu = .ok ds mu' → ds.length + 1 = np) {σ : St} {H : Hp} {Q : VK} (q : tG (Cx.th X cl) W (RD (Cx.th X cl)) (dMake c p ga) σ H Q) :
    tMkW (cl c) (spD (Cx.th X cl) np p) (WE W) (tG (Cx.th X cl) W (RLs (Cx.th X cl)) ga) σ H Q := by
  obtain ⟨F, al, sl, mu, w, po⟩ := q
  refine ⟨F, al, sl, mu, w, ?_⟩
  unfold dMake dBind obind at po
  cases z : ga sl mu with
  | ok ds mu1 =>
    rw [z] at po
    dsimp only at po
    intro vs F1 al1 H1 x1 r1 x dx hx hdx ne
    have g1 := x1.trans (Ext.laidH x1.mus (o := .own x) hdx)
    have hx2 : upd H1 dx (.own x) x = none := by rw [upd_ne ne.symm]; exact hx
    have g2 := g1.trans (Ext.laidH g1.mus (o := .ins (cl c) dx []) hx2)
    have g3 := Ext.reg (T := Cx.th X cl) (mu1 := mu1) (m := .ins c []) g2 (a := x) (x1.there x hx) (x1.mus.F_none hx) upd_same ⟨⟨rfl, h0⟩, .nil⟩ (Mus.ne_laid x1.mus hx)
    have ro : Rp (Cx.th X cl) F1 (regA al1 mu1.length x) (mu1 ++ [some (MO.ins c [])]).length (.ref x) (.obj mu1.length) := by
      have := Rp.obj (T := Cx.th X cl) (F := F1) (al := regA al1 mu1.length x) (n := (mu1 ++ [some (MO.ins c [])]).length) (k := mu1.length) (by simp)
      rwa [show regA al1 mu1.length x mu1.length = x from if_pos rfl] at this
    have rds := r1.mono (T := Cx.th X cl) (F' := F1) (al' := regA al1 mu1.length x) (n' := (mu1 ++ [some (MO.ins c [])]).length) (fun _ _ h => h) (fun k h => regA_lt h) (by rw [List.length_append]; exact Nat.le_add_right _ _)
    refine ⟨F1, regA al1 mu1.length x, mu1 ++ [some (.ins c [])], .obj mu1.length :: ds, g3.mus, .cons ro rds, hl _ _ _ _ z, ?_⟩
    cases z2 : p (.obj mu1.length :: ds) (mu1 ++ [some (.ins c [])]) with
    | ok d mu2 =>
      rw [z2] at po
      cases d with
      | non =>
        intro v F2 al2 H2 x2 r2
        cases r2
        refine ⟨rfl, po _ _ _ _ (g3.trans x2) ?_⟩
        exact x2.rp ro
      | _ => exact False.elim po
    | ex c' fs mu2 =>
      rw [z2] at po
      exact fun dx F2 al2 H2 x2 r2 => po _ _ _ _ (g3.trans x2) r2
    | bad => rw [z2] at po; exact False.elim po
  | ex c' fs mu1 => rw [z] at po; exact po
  | bad => rw [z] at po; exact po
theorem de_make (g : Gi X.prog X.w X.K X.mg X.base cl k x c (np + 1) p) (hr : Room (k + 1) X.A) (hg : Gl X x) (tk : Takes X W) (ha : DAs X cl W (e :: es) ga) (hl : Len ga np)
    (hdb : (x == ("__debug__" : Str)) = false := by decide) (he : starEach (e :: es) X.env = (false, eval e X.env) :: starEach es X.env := by rfl) (hpl : (backTo pos (starEach es X.env)).any (·.1) = false := by rfl) : DE X cl W (.Call (.Name x p1) (e :: es) [] pos) (dMake c p ga) := by
  obtain ⟨f, fd, ps, hf, ⟨hM, h0⟩, hm, hb⟩ := g.ex
  exact PE.imp (pe_mkW (E := WE W) hM hf hr hg hm hb (passAt tk) ha hdb he hpl) fun σ H Q q => tMkD h0 (fun _ _ _ _ h => by rw [hl _ _ _ _ h]) q
theorem de_make0 (g : Gi X.prog X.w X.K X.mg X.base cl k x c 1 p) (hr : Room (k + 1) X.A) (hg : Gl X x) (tk : Takes X W) (hdb : (x == ("__debug__" : Str)) = false := by decide) : DE X cl W (.Call (.Name x p1) [] [] pos) (dMake c p dNil) := by
  obtain ⟨f, fd, ps, hf, ⟨hM, h0⟩, hm, hb⟩ := g.ex
  refine PE.imp (pe_mkW0 (E := WE W) hM hf hr hg hm hb (passAt tk) hdb) fun σ H Q q => ?_
  obtain ⟨F, al, sl, mu, w, po⟩ := tMkD (np := 1) h0 (fun _ _ _ _ h => by cases h; rfl) q
  exact Po.here po w.toMus .nil
end
end DL
end

section
set_option Elab.async false
set_option linter.all false
set_option maxRecDepth 100000
set_option maxHeartbeats 4000000
/-! DQ: own == and !=, attributes stored, augmented names, what is out of reach goes. -/
namespace DL
open PySem L2
section
open PySem.W PyProof.Rows
variable {prog : Program} {w : World} {A : Around} {E : Value → Shared → Prop} {s : Shared} {K : Frag} {x C L f : Addr} {h₀ : Heap} {m : PySem.Str → Option Value} {ox : Obj} {od : Option Obj} {b tb : Value}
theorem objNe_own (X : K.In s.heap) (I : InstAt s.heap x ox C od) (hs : findIn K (.ref C) "__eq__" = some (some (.ref f))) (hf : isFn K (.ref f) = true) (hu : A.units < cLine) {Q : Fin → Shared → Prop}
    (hcall : wpAny (model prog w) A (call (.ref f) [.ref x, b]) (fun v s' => ∃ c, v = .bool c ∧ Q (.done (.ret (.bool (!c)))) s') E s) : wpAny (model prog w) A (Builtin.«object.__ne__» ⟨[.ref x, b], []⟩) Q E s := by
  obtain ⟨h, g, d, t, os⟩ := s
  unfold Builtin.«object.__ne__»
  repeat (first
    | with_reducible refine wpAny_cRoomFor hu ?_
    | (refine wpAny_bind (m := callSpecialIfBound? (.ref x) (PySem.Str.ofString "__eq__") [b])
        (ifBound_K (s := ⟨h, g, d, t, os⟩) X I hs hf (wpAny_mono hcall (fun v s' hv => by
          obtain ⟨c, rfl, hq⟩ := hv
          repeat (first | exact hq | exact wpAny_pure hq | exact wpAny_truthy_bool hq | (refine wpAny_bind (m := truthy (.bool _)) (wpAny_truthy_bool ?_)) | wp_step)) fun _ _ e => e)))
    | wp_step)
theorem tryNe_own (X : K.In s.heap) (I : InstAt s.heap x ox C od) (hs : findIn K (.ref C) "__eq__" = some (some (.ref f))) (hf : isFn K (.ref f) = true) (hne : findIn K (.ref C) "__ne__" = some (some (.builtin "object.__ne__"))) (hm : mroIn K C (.type "object") = some true) (hu : A.units + 1 < cLine) {Q : Option Value → Shared → Prop}
    (hcall : wpAny (model prog w) A.in1 (call (.ref f) [.ref x, b]) (fun v s' => ∃ c, v = .bool c ∧ Q (some (.bool (!c))) s') E s) : wpAny (model prog w) A (tryCompare (.ref x) "__ne__" b) Q E s := by
  unfold tryCompare
  have FB := (show Slot "object" "__ne__" "object.__ne__" from .of (owner := "object") (n := "__ne__") (by rw [typeLookup_type, builtinLookup_eq_fast]; kernel_rfl) (by decide +kernel) (by decide +kernel) (by decide +kernel)
    (by first | exact .inl (by decide +kernel) | exact .inr (by decide +kernel)) (by rw [isSubtype_type]; kernel_rfl))
  refine wpAny_bind (NtL.csib (E := E) (I.type.andThen (looks_findIn X hne)) (FB.bind _) ?_)
  refine wpAny_call (codeAny_call_builtin FB.plain PySem.F.cmpEntry_ne (check_slot PySem.F.cmpKind_ne PySem.F.cmpSplit_ne (I.type.andThen (looks_mroIn X hm)) (PySem.F.cmpArgs_ne _ _) ?_))
  refine objNe_own (A := A.in1) X I hs hf (by exact hu) (wpAny_mono hcall (fun v s' hv => ?_) fun _ _ e => e)
  obtain ⟨c, rfl, hq⟩ := hv
  first | exact ⟨c, rfl, wpAny_pure hq⟩ | exact ⟨c, rfl, wpAny_pure (wpAny_pure hq)⟩ | exact ⟨c, rfl, hq⟩
theorem ne_K {Q : Value → Shared → Prop} (hu : A.units + 1 < cLine) (F : Fr h₀ L s.heap m) (X₀ : K.In h₀) (I : InstAt s.heap x ox C od) (hb : Looks (model prog w) s.heap (typeOf b) tb) (hn : notFirst K C tb = true)
    (hs : findIn K (.ref C) "__eq__" = some (some (.ref f))) (hf : isFn K (.ref f) = true) (hne : findIn K (.ref C) "__ne__" = some (some (.builtin "object.__ne__"))) (hm : mroIn K C (.type "object") = some true)
    (h : wpAny (model prog w) A.in1 (call (.ref f) [.ref x, b]) (fun v s' => ∃ c, v = .bool c ∧ Q (.bool (!c)) s') E s) : wpAny (model prog w) A (richCompare .NotEq (.ref x) b) Q E s := by
  have X := X₀.keeps F.keep
  have one : wpAny (model prog w) A (tryCompare (.ref x) "__ne__" b) (fun r s' => ∃ v, r = some v ∧ Q v s') E s :=
    tryNe_own X I hs hf hne hm hu (wpAny_mono h (fun v s' hv => by obtain ⟨c, e1, e2⟩ := hv; exact ⟨c, e1, _, rfl, e2⟩) fun _ _ e => e)
  unfold richCompare
  simp only [oneThing_ref]
  refine wpAny_holding (wpAny_bind (wpAny_cRoomFor (Nat.lt_of_succ_lt hu) ?_))
  rw [cmpInfo_NotEq]
  dsimp only
  refine wpAny_bind (I.type.here (wpAny_bind (hb.here ?_)))
  split
  · rename_i q
    have e : subIn K tb (.ref C) = some false := by
      rcases Bool.or_eq_true_iff.mp hn with e | e
      · rw [beq_iff_eq.mp e] at q; simp at q
      · exact beq_iff_eq.mp e
    refine wpAny_bind ((looks_subIn X e).here ?_)
    simp only [Bool.false_eq_true, if_false]
    refine wpAny_bind (wpAny_mono one (fun r s' z => ?_) fun _ _ e => e)
    obtain ⟨v, rfl, hq⟩ := z
    exact wpAny_pure hq
  · refine wpAny_bind (wpAny_pure ?_)
    simp only [Bool.false_eq_true, if_false]
    refine wpAny_bind (wpAny_mono one (fun r s' z => ?_) fun _ _ e => e)
    obtain ⟨v, rfl, hq⟩ := z
    exact wpAny_pure hq
end
end DL
end

section
set_option Elab.async false
set_option linter.all false
set_option maxRecDepth 100000
set_option maxHeartbeats 4000000
namespace DL
open PySem L2
/-! DR: own == and != of the layer, attributes stored, augmented names, what is out of reach goes. -/
structure ClsE (K : PySem.W.Frag) (cl : Nat → Addr) (c : Nat) : Prop where
  ty : ∀ n ∈ ["NoneType", "bool", "int", "str", "list", "tuple"], PySem.W.notFirst K (cl c) (.type n) = true
  own : ∀ c', cl c' ≠ 0 → PySem.W.notFirst K (cl c) (.ref (cl c')) = true
structure ClsN (K : PySem.W.Frag) (C : Addr) : Prop where
  ne : PySem.W.findIn K (.ref C) "__ne__" = some (some (.builtin "object.__ne__"))
  ob : PySem.W.mroIn K C (.type "object") = some true
def isC (c : Nat) : D → Bool
  | .ins c' _ => c' == c
  | _ => false
def dEqO (neg : Bool) (c : Nat) (p : FF) (fa fb : EF) : BF := dBind fa fun x => dBind fb fun y _ mu => if isC c (lookD mu x) && isiOk (lookD mu y) then match p [x, y] mu with
  | .ok (.bl r) mu' => .ok (neg ^^ r) mu'
  | _ => .bad
  else .bad
abbrev E0 : XK := fun _ _ _ => False
def rOwn (K : PySem.W.Frag) (neg : Bool) (C : Addr) (sp : Sp) : R2 := fun x y H Q => ∃ a dx fs ty, x = .ref a ∧ H a = some (.ins C dx fs) ∧ TyX K H y ty ∧ PySem.W.notFirst K C ty = true ∧ sp [x, y] H (fun v H' => ∃ r, v = .bl r ∧ Q (.bl (neg ^^ r)) H') E0
section
variable {X : Cx} {cl : Nat → Addr} {W : WX} {n : En} {a b e o i : PySem.Expr} {es : List PySem.Expr} {f fa fb fo fi : EF} {ga : LF} {pos p1 pos' apos cpos : Pos} {x m : Str} {k c np : Nat} {p : FF}
theorem run_own {A : Around} {fd : FuncData} {ps : List Str} {sp : Sp} {g : Addr} {pins : List (Addr × Obj)} {s : Shared} {σ : St} {H : Hp} {x y : V} {v u : Value} {Q : VK} (F : FnOk X.prog X.w X.K X.mg X.base (L2.CX X.prog X.w) k g fd ps sp) (hr : Room k A) (hb : L2.Binds X.K fd ps []) (I : Inv X pins σ H s)
    (ev : Env0 X.prog X.w X.K X.mg X.base A X.stack s H) (rx : RelV x v) (ry : RelV y u) (h : sp [x, y] H Q E0) : wpAny (model X.prog X.w) A (call (.ref g) [v, u]) (EP X pins σ Q) X.xe s := by
  have r : Vals [x, y] [v, u] := .cons rx (.cons ry .nil)
  have hl := F.len _ _ _ _ h
  have b := hb s [v, u] I.kIn (by simpa using hl)
  rw [List.append_nil] at b
  refine wpAny_call (codeAny_mono (F.run A X.stack s H ⟨[v, u], []⟩ [v, u] [x, y] Q E0 hr ev b r h) fun r s' hq => ?_)
  cases r with
  | error e =>
    obtain ⟨_, _, _, _, _, _, _, _, _, _, _, _, hE⟩ := hq
    exact hE.elim
  | ok fl =>
    cases fl with
    | ret w => exact I.after hq
    | next => exact False.elim hq
    | brk => exact False.elim hq
    | cont => exact False.elim hq
theorem op_own_eq {sp : Sp} {g C : Addr} {fd : FuncData} {ps : List Str} (F : FnOk X.prog X.w X.K X.mg X.base (L2.CX X.prog X.w) k g fd ps sp) (hm : Meth X.K C "__eq__" g) (hb : L2.Binds X.K fd ps []) (hr : Room k X.A) : OpR X (compareOp .Eq) (rOwn X.K false C sp) := by
  intro pins s σ H x y v u Q I rx ry hq
  obtain ⟨a, dx, fs, ty, rfl, ha, hty, hn, q⟩ := hq
  cases rx
  obtain ⟨P, kx, hp, _⟩ := kit_of I ry hty
  obtain ⟨mA, J, _⟩ := ins_get I.hok ha
  obtain ⟨od, J, _⟩ := J.look
  obtain ⟨m, hF⟩ := I.fr
  refine PySem.W.cmp_K (op := .Eq) hr.units0 hF I.ok.mod.kin J (kx.ty _ _ I.kIn hp) hn hm.at_ hm.fn ?_
  refine wpAny_mono (run_own F hr hb I I.env0 (show RelV (.ref a) (.ref a) from rfl) ry q) (fun r s' z => ?_) fun _ _ z => z
  obtain ⟨w, H', I', rw', b, rfl, q'⟩ := z
  cases rw'
  exact ⟨.bl b, H', I', rfl, by rwa [Bool.false_xor] at q'⟩
theorem op_own_ne {sp : Sp} {g C : Addr} {fd : FuncData} {ps : List Str} (F : FnOk X.prog X.w X.K X.mg X.base (L2.CX X.prog X.w) k g fd ps sp) (hm : Meth X.K C "__eq__" g) (hN : ClsN X.K C) (hb : L2.Binds X.K fd ps []) (hr : Room (k + 1) X.A) : OpR X (compareOp .NotEq) (rOwn X.K true C sp) := by
  intro pins s σ H x y v u Q I rx ry hq
  obtain ⟨a, dx, fs, ty, rfl, ha, hty, hn, q⟩ := hq
  cases rx
  obtain ⟨P, kx, hp, _⟩ := kit_of I ry hty
  obtain ⟨mA, J, _⟩ := ins_get I.hok ha
  obtain ⟨od, J, _⟩ := J.look
  obtain ⟨m, hF⟩ := I.fr
  have hu : X.A.units + 1 < cLine := by have := hr.units; omega
  refine ne_K hu hF I.ok.mod.kin J (kx.ty _ _ I.kIn hp) hn hm.at_ hm.fn hN.ne hN.ob ?_
  refine wpAny_mono (run_own F hr.in1 hb I I.env0.in1 (show RelV (.ref a) (.ref a) from rfl) ry q) (fun r s' z => ?_) fun _ _ z => z
  obtain ⟨w, H', I', rw', b, rfl, q'⟩ := z
  cases rw'
  exact ⟨b, rfl, .bl (!b), H', I', rfl, by rwa [Bool.true_xor] at q'⟩
theorem tOwn {neg : Bool} (hC : ∀ c, cl c ≠ 0 → ClsT X.K (cl c)) (hE : ClsE X.K cl c) {σ : St} {H : Hp} {Q : VK} (q : tG (Cx.th X cl) W (RD (Cx.th X cl)) (dB2v (dEqO neg c p fa fb)) σ H Q) :
    tOp (rOwn X.K neg (cl c) (spD (Cx.th X cl) 2 p)) (tG (Cx.th X cl) W (RD (Cx.th X cl)) fa) (tG (Cx.th X cl) W (RD (Cx.th X cl)) fb) σ H Q := by
  obtain ⟨F, al, sl, mu, w, po⟩ := tV2B q
  refine seqG back_RB w po rfl fun v d F1 al1 mu1 H1 x1 w1 r1 po1 => ?_
  refine seqG back_RB w1 po1 rfl fun u e F2 al2 mu2 H2 x2 w2 r2 po2 => ?_
  dsimp only at po2
  split at po2
  · rename_i hc
    rw [Bool.and_eq_true] at hc
    have r1' := x2.rp r1
    have t1 := top_look w2.toMus r1'
    obtain ⟨t, h1, h2⟩ := tyX_top (T := Cx.th X cl) w2.toMus hC (top_look w2.toMus r2) hc.2
    cases z : lookD mu2 d with
    | ins c' fs =>
      rw [z] at hc t1
      have e' : c' = c := by simpa [isC] using hc.1
      subst e'
      obtain ⟨_, a, dx, vs, rfl, e2, e3⟩ := t1
      refine ⟨a, dx, vs, t, rfl, e2, h1, ?_, F2, al2, mu2, [d, e], w2.toMus, .cons r1' (.cons r2 .nil), rfl, ?_⟩
      · rcases h2 with ⟨n, e, rfl⟩ | ⟨c', fs, _, hc, rfl⟩
        · exact hE.ty n (by cases q : lookD mu2 _ <;> rw [q] at e <;> first | (cases e; decide) | cases e)
        · exact hE.own c' hc
      · cases z2 : p [d, e] mu2 with
        | ok r mu3 =>
          rw [z2] at po2
          cases r with
          | bl r =>
            intro v F3 al3 H3 x3 r3
            cases r3
            exact ⟨r, rfl, po2 _ _ _ _ x3 rfl⟩
          | _ => exact False.elim po2
        | ex c fs mu3 => rw [z2] at po2; exact False.elim po2
        | bad => rw [z2] at po2; exact False.elim po2
    | _ => rw [z] at hc; exact absurd hc.1 Bool.false_ne_true
  · exact False.elim po2
theorem de_eqO (g : Gm X.prog X.w X.K X.mg X.base cl k c "__eq__" 2 p) (hr : Room k X.A) (hC : ∀ c, cl c ≠ 0 → ClsT X.K (cl c)) (hE : ClsE X.K cl c) (ha : DE X cl W a fa) (hb : DE X cl W b fb) : DE X cl W (.Compare a [.Eq] [b] pos) (dB2v (dEqO false c p fa fb)) := by
  obtain ⟨f, fd, ps, hf, hm, hc, hbd⟩ := g.ex
  exact PE.imp (pe_cmpR (op_own_eq hf hm hbd hr) ha hb (nobehind _ (by decide) (by decide))) fun σ H Q q => tOwn hC hE q
theorem de_neO (g : Gm X.prog X.w X.K X.mg X.base cl k c "__eq__" 2 p) (hr : Room (k + 1) X.A) (hC : ∀ c, cl c ≠ 0 → ClsT X.K (cl c)) (hE : ClsE X.K cl c) (hN : ClsN X.K (cl c)) (ha : DE X cl W a fa) (hb : DE X cl W b fb) : DE X cl W (.Compare a [.NotEq] [b] pos) (dB2v (dEqO true c p fa fb)) := by
  obtain ⟨f, fd, ps, hf, hm, hc, hbd⟩ := g.ex
  exact PE.imp (pe_cmpR (op_own_ne hf hm hN hbd hr) ha hb (nobehind _ (by decide) (by decide))) fun σ H Q q => tOwn hC hE q

/-! ### o.f = v -/
def insOf (mu : Store) : D → Option (Nat × List (Str × D))
  | .obj k => match mu[k]? with
    | some (some (.ins c fs)) => some (c, fs)
    | _ => none
  | _ => none
theorem insOf_get {mu : Store} {d : D} {c : Nat} {l : List (Str × D)} (h : insOf mu d = some (c, l)) : ∃ k, d = .obj k ∧ mu[k]? = some (some (.ins c l)) := by
  cases d with
  | obj k =>
    unfold insOf at h
    dsimp only at h
    split at h
    · rename_i c' l' e
      cases h
      exact ⟨k, rfl, e⟩
    · cases h
  | _ => cases h
def sSetA (x : Str) (fo f : EF) : SF := fun sl mu => sbind (f sl mu) sl fun v mu => sbind (fo sl mu) sl fun d mu => match insOf mu d with
  | some (c, fs) => if fs.length < 1000 then .nx sl (putO mu d (.ins c (putFD x v fs))) else .bad
  | none => .bad
theorem RpF.len {T : Th} {F : Hp} {al : Nat → Addr} {n : Nat} : ∀ {vs : List (Str × V)} {ds : List (Str × D)}, RpF T F al n vs ds → vs.length = ds.length
  | [], [], _ => rfl
  | _ :: vs, _ :: ds, .cons _ h => by rw [List.length_cons, List.length_cons, RpF.len h]
  | [], _ :: _, h => by cases h
  | _ :: _, [], h => by cases h
theorem RpF.put {T : Th} {F : Hp} {al : Nat → Addr} {n : Nat} {v : V} {d : D} {x : Str} (r : Rp T F al n v d) : ∀ {vs : List (Str × V)} {ds : List (Str × D)}, RpF T F al n vs ds → RpF T F al n (putF x v vs) (putFD x d ds)
  | [], [], _ => .cons r .nil
  | (y, u) :: vs, (z, e) :: ds, h => by
    cases h with
    | cons h1 h2 =>
      unfold putF putFD
      split
      · exact .cons r h2
      · exact .cons h1 (RpF.put r h2)
  | [], _ :: _, h => by cases h
  | _ :: _, [], h => by cases h
theorem ds_setA (hC : ∀ c, cl c ≠ 0 → ClsT X.K (cl c)) (hN : ∀ c, cl c ≠ 0 → NoAttr X.K (cl c) x) (ho : DE X cl W o fo) (hf : DE X cl W e f) (hs : swapsWith e (some (.Attribute o x pos')) pos.line X.env = pure false := by rfl) : DS X cl W n (.Assign [.Attribute o x pos'] e pos) (sSetA x fo f) :=
  PS.imp (ps_fld ho hf hs) fun Z σ H q => by
    obtain ⟨F, al, sl, mu, w, po⟩ := q
    refine seqS w po rfl fun v d F1 al1 mu1 H1 x1 w1 r1 po1 => ?_
    refine seqS w1 po1 rfl fun ov dd F2 al2 mu2 H2 x2 w2 r2 po2 => ?_
    cases z : insOf mu2 dd with
    | none => rw [z] at po2; exact False.elim po2
    | some q =>
      obtain ⟨c, fs⟩ := q
      rw [z] at po2
      dsimp only at po2
      split at po2
      · rename_i hl
        obtain ⟨k, rfl, hk⟩ := insOf_get z
        cases r2
        obtain ⟨_, ho, h1, h2⟩ := w2.w.toMus.at_ k _ hk
        cases ho with
        | ins C dx vs =>
          obtain ⟨⟨e1, h0⟩, h3⟩ := h2
          subst e1
          exact ⟨_, _, dx, vs, rfl, h1, (hC c h0).cl, hN c h0, by rw [h3.len]; exact hl, PoS.nx po2 (w2.updO hk (o := .ins (cl c) dx (putF x v vs)) (m := .ins c (putFD x d fs)) ⟨⟨rfl, h0⟩, RpF.put (x2.rp r1) h3⟩) (by show mu2.length ≤ (mu2.set k _).length; rw [List.length_set]; exact Nat.le_refl _)⟩
        | _ => exact False.elim h2
      · exact False.elim po2

/-! ### x += e, x -= e of ints -/
def sAug (i : Nat) (g : Int → Int → Int) (f : EF) : SF := fun sl mu => match sl[i]? with
  | some (some (.val (.int z))) => sbind (f sl mu) sl fun d mu => match d with
    | .int j => .nx (sl.set i (some (.val (.int (g z j))))) mu
    | _ => .bad
  | _ => .bad
theorem ds_aug {i : Nat} {p' : Pos} {op : Operator} {g : Int → Int → Int} (hip : PIp X op (ipI g)) (hN : X.N.Nodup) (hi : X.N[i]? = some x) (hx : Loc X.env.scope x) (he : DE X cl W e f)
    (hf : X.fn x = true ∨ X.env.scope.names.lookup x = some .local := by first | exact .inl rfl | exact .inr rfl | assumption) : DS X cl W n (.AugAssign (.Name x p') op e pos) (sAug i g f) := PS.imp (ps_aug hN hi hx he hip hf) fun Z σ H q => by
  obtain ⟨F, al, sl, mu, w, po⟩ := q
  unfold sAug at po
  split at po
  · rename_i z hz
    obtain ⟨v, h1, h2⟩ := w.w.val i _ hz
    cases h2
    refine ⟨_, h1, ?_⟩
    refine seqS w po rfl fun v d F1 al1 mu1 H1 x1 w1 r1 po1 => ?_
    cases d with
    | int j => cases r1; exact ⟨z, j, rfl, rfl, PoS.nx po1 (w1.setVal (.int _))⟩
    | _ => exact False.elim po1
  · exact False.elim po
theorem ds_inc {i : Nat} {p' : Pos} (hN : X.N.Nodup) (hi : X.N[i]? = some x) (hx : Loc X.env.scope x) (he : DE X cl W e f)
    (hf : X.fn x = true ∨ X.env.scope.names.lookup x = some .local := by first | exact .inl rfl | exact .inr rfl | assumption) : DS X cl W n (.AugAssign (.Name x p') .Add e pos) (sAug i (fun i j => i + j) f) := ds_aug ip_add hN hi hx he hf
theorem ds_dec {i : Nat} {p' : Pos} (hN : X.N.Nodup) (hi : X.N[i]? = some x) (hx : Loc X.env.scope x) (he : DE X cl W e f)
    (hf : X.fn x = true ∨ X.env.scope.names.lookup x = some .local := by first | exact .inl rfl | exact .inr rfl | assumption) : DS X cl W n (.AugAssign (.Name x p') .Sub e pos) (sAug i (fun i j => i - j) f) := ds_aug ip_sub hN hi hx he hf
end

/-! ### what is out of reach goes -/
mutual
def clD (n : Nat) : D → Bool
  | .obj k => decide (k < n)
  | .lst l => clL n l
  | .frl l => clL n l
  | .tup l => clL n l
  | .ins _ fs => clF n fs
  | _ => true
def clL (n : Nat) : List D → Bool
  | [] => true
  | d :: ds => clD n d && clL n ds
def clF (n : Nat) : List (Str × D) → Bool
  | [] => true
  | (_, d) :: ds => clD n d && clF n ds
end
def clM (n : Nat) : Option MO → Bool
  | some (.lst l) => clL n l
  | some (.ins _ fs) => clF n fs
  | some (.dct _) => false
  | none => true
section
variable {T : Th} {F : Hp} {al : Nat → Addr} {n n' : Nat}
mutual
theorem Rp.shrink : ∀ {d : D} {v : V}, Rp T F al n v d → clD n' d = true → Rp T F al n' v d
  | .non, _, h, _ => by cases h; exact .non
  | .bl b, _, h, _ => by cases h; exact .bl b
  | .int i, _, h, _ => by cases h; exact .int i
  | .str x, _, h, _ => by cases h; exact .str x
  | .lst ds, _, h, c => by cases h with | lst h1 h2 => exact .lst h1 (RpL.shrink h2 c)
  | .tup ds, _, h, c => by cases h with | tup h1 h2 => exact .tup h1 (RpL.shrink h2 c)
  | .dct kvs, _, h, _ => by cases h
  | .frl ds, _, h, c => by cases h with | frl h1 h2 => exact .frl h1 (RpL.shrink h2 c)
  | .ins c ds, _, h, q => by cases h with | ins h0 h1 h2 => exact .ins h0 h1 (RpF.shrink h2 q)
  | .obj k, _, h, c => by cases h with | obj h1 => exact .obj (of_decide_eq_true c)
theorem RpL.shrink : ∀ {ds : List D} {vs : List V}, RpL T F al n vs ds → clL n' ds = true → RpL T F al n' vs ds
  | [], _, h, _ => by cases h; exact .nil
  | d :: ds, _, h, c => by
    have c' : (clD n' d && clL n' ds) = true := c
    rw [Bool.and_eq_true] at c'
    cases h with | cons h1 h2 => exact .cons (Rp.shrink h1 c'.1) (RpL.shrink h2 c'.2)
theorem RpF.shrink : ∀ {ds : List (Str × D)} {vs : List (Str × V)}, RpF T F al n vs ds → clF n' ds = true → RpF T F al n' vs ds
  | [], _, h, _ => by cases h; exact .nil
  | (x, d) :: ds, _, h, c => by
    have c' : (clD n' d && clF n' ds) = true := c
    rw [Bool.and_eq_true] at c'
    cases h with | cons h1 h2 => exact .cons (Rp.shrink h1 c'.1) (RpF.shrink h2 c'.2)
end
theorem Conc.shrink {o : HO} {m : MO} (h : Conc T F al n o m) (c : clM n' (some m) = true) : Conc T F al n' o m := by
  cases o <;> cases m <;> first
    | exact False.elim h
    | exact RpL.shrink h c
    | exact ⟨h.1, RpF.shrink h.2 c⟩
end
/-- the objects made since go, where nothing that stays names one -/
def gcO {α : Type} (cl : Nat → α → Bool) (n : Nat) (o : Out α) : Out α := match o with
  | .ok d mu => if cl n d && (mu.take n).all (clM n) then .ok d (mu.take n) else .bad
  | .ex c fs mu => if clF n fs && (mu.take n).all (clM n) then .ex c fs (mu.take n) else .bad
  | .bad => .bad
theorem take_get {mu : Store} {n k : Nat} {m : MO} (h : (mu.take n)[k]? = some (some m)) : k < n ∧ mu[k]? = some (some m) := by
  rw [List.getElem?_take] at h
  split at h
  · exact ⟨by assumption, h⟩
  · cases h
theorem Ext.gc {T : Th} {F F1 H H1 : Hp} {al al1 : Nat → Addr} {mu mu1 : Store} (x : Ext T F al mu H F1 al1 mu1 H1) (c : (mu1.take mu.length).all (clM mu.length) = true) : Ext T F al mu H F1 al1 (mu1.take mu.length) H1 := by
  have ln : (mu1.take mu.length).length = mu.length := by rw [List.length_take]; exact Nat.min_eq_left x.ln
  refine ⟨⟨x.mus.sub, fun k m e => ?_, fun k m k' m' e1 e2 z => x.mus.inj k m k' m' (take_get e1).2 (take_get e2).2 z⟩, x.sub, x.new, x.keep, x.there, x.als, by rw [ln]; exact Nat.le_refl _, fun k m e => x.fresh k m (take_get e).2⟩
  obtain ⟨h1, o, h2, h3⟩ := x.mus.at_ k m (take_get e).2
  rw [ln]
  exact ⟨h1, o, h2, h3.shrink (List.all_eq_true.mp c _ (List.mem_of_getElem? e))⟩
theorem po_gc {T : Th} {W : WX} {F : Hp} {al : Nat → Addr} {mu : Store} {σ : St} {H : Hp} {o : Out D} {Q : VK} (h : Po T W F al mu σ H (RD T) (gcO clD mu.length o) Q) : Po T W F al mu σ H (RD T) o Q := by
  cases o with
  | ok d mu1 =>
    unfold gcO at h
    dsimp only at h
    split at h
    · rename_i c
      rw [Bool.and_eq_true] at c
      intro v F1 al1 H1 x r
      have ln : (mu1.take mu.length).length = mu.length := by rw [List.length_take]; exact Nat.min_eq_left x.ln
      exact h v F1 al1 H1 (x.gc c.2) (by show Rp _ _ _ (mu1.take mu.length).length _ _; rw [ln]; exact Rp.shrink r c.1)
    · exact False.elim h
  | ex c fs mu1 =>
    unfold gcO at h
    dsimp only at h
    split at h
    · rename_i c
      rw [Bool.and_eq_true] at c
      intro dx F1 al1 H1 x r
      have ln : (mu1.take mu.length).length = mu.length := by rw [List.length_take]; exact Nat.min_eq_left x.ln
      refine h dx F1 al1 H1 (x.gc c.2) ?_
      rcases r with r | ⟨dx', vs, e1, e2, e3⟩
      · exact .inl r
      · exact .inr ⟨dx', vs, e1, e2, by rw [ln]; exact RpF.shrink e3 c.1⟩
    · exact False.elim h
  | bad => exact h
def dGc (f : EF) : EF := fun sl mu => gcO clD mu.length (f sl mu)
def fGc (p : FF) : FF := fun ds mu => gcO clD mu.length (p ds mu)
theorem de_gc {X : Cx} {cl : Nat → Addr} {W : WX} {e : PySem.Expr} {f : EF} (h : DE X cl W e f) : DE X cl W e (dGc f) := PE.imp h fun σ H Q q => by
  obtain ⟨F, al, sl, mu, w, po⟩ := q
  exact ⟨F, al, sl, mu, w, po_gc po⟩
theorem spD_gc {T : Th} {np : Nat} {p : FF} : ∀ vs H Q E, spD T np (fGc p) vs H Q E → spD T np p vs H Q E := fun vs H Q E ⟨F, al, mu, ds, m, r, hl, po⟩ => ⟨F, al, mu, ds, m, r, hl, po_gc po⟩
section
variable {P : Program} {w : World} {K : PySem.W.Frag} {mg : Str → Option Value} {base : Heap} {cl : Nat → Addr}
theorem Gf.gc {k np : Nat} {x : Str} {p : FF} (c : Gf P w K mg base cl k x np p) : Gf P w K mg base cl k x np (fGc p) := by
  obtain ⟨f, fd, ps, hf, r⟩ := c.ex
  exact ⟨f, fd, ps, hf.imp spD_gc, r⟩
theorem Gm.gc {k c np : Nat} {x : Str} {p : FF} (g : Gm P w K mg base cl k c x np p) : Gm P w K mg base cl k c x np (fGc p) := by
  obtain ⟨f, fd, ps, hf, r⟩ := g.ex
  exact ⟨f, fd, ps, hf.imp spD_gc, r⟩
theorem Gm.to {k c np : Nat} {x : Str} {p q : FF} (g : Gm P w K mg base cl k c x np p) (h : ∀ ds mu, ds.length = np → q ds mu ≠ .bad → p ds mu = q ds mu) : Gm P w K mg base cl k c x np q := by
  obtain ⟨f, fd, ps, hf, r⟩ := g.ex
  exact ⟨f, fd, ps, hf.imp (spD_imp h), r⟩
theorem Gi.gc {k c np : Nat} {x : Str} {p : FF} (g : Gi P w K mg base cl k x c np p) : Gi P w K mg base cl k x c np (fGc p) := by
  obtain ⟨f, fd, ps, hf, r⟩ := g.ex
  exact ⟨f, fd, ps, hf.imp spD_gc, r⟩
theorem Gi.to {k c np : Nat} {x : Str} {p q : FF} (g : Gi P w K mg base cl k x c np p) (h : ∀ ds mu, ds.length = np → q ds mu ≠ .bad → p ds mu = q ds mu) : Gi P w K mg base cl k x c np q := by
  obtain ⟨f, fd, ps, hf, r⟩ := g.ex
  exact ⟨f, fd, ps, hf.imp (spD_imp h), r⟩
theorem Gm.mono {j k c np : Nat} {x : Str} {p : FF} (g : Gm P w K mg base cl j c x np p) (h : j ≤ k) : Gm P w K mg base cl k c x np p := by
  obtain ⟨f, fd, ps, hf, r⟩ := g.ex
  exact ⟨f, fd, ps, hf.mono h, r⟩
theorem Gi.mono {j k c np : Nat} {x : Str} {p : FF} (g : Gi P w K mg base cl j x c np p) (h : j ≤ k) : Gi P w K mg base cl k x c np p := by
  obtain ⟨f, fd, ps, hf, r⟩ := g.ex
  exact ⟨f, fd, ps, hf.mono h, r⟩
end
end DL
end

section
set_option Elab.async false
set_option linter.all false
set_option maxRecDepth 100000
set_option maxHeartbeats 4000000
namespace DL
open PySem L2
/-! DS: methods of one argument, sorted, texts. -/
def tyOk : String → D → Bool
  | "str", .str _ => true
  | "list", .lst _ => true
  | _, _ => false
def PurM (T : Th) (r : V → List V → Hp → VK → Prop) (g : D → D → Option D) : Prop := ∀ (F : Hp) (al : Nat → Addr) (mu : Store) (H : Hp), Mus T F al mu H → ∀ (x y : V) (d e res : D), Top T F al mu.length H x d → Top T F al mu.length H y e → g d e = some res → ∀ Q : VK,
  (∀ v F' H', Ext T F al mu H F' al mu H' → Rp T F' al mu.length v res → Q v H') → r x [y] H Q
/-- o.m(e): o, e looked into -/
def dM1 (ty : String) (g : D → D → Option D) (fo fa : EF) : EF := dBind fo fun d sl mu => if tyOk ty (lookD mu d) = true then obind (fa sl mu) fun e mu => match g (lookD mu d) (lookD mu e) with
  | some r => .ok r mu
  | none => .bad
  else .bad
theorem tyV_of {T : Th} {F H : Hp} {al : Nat → Addr} {n : Nat} {ty : String} {v : V} {d : D} (t : Top T F al n H v d) (h : tyOk ty d = true) : tyV T.K ty v H := by
  unfold tyOk at h
  split at h
  · cases (show Rp _ _ _ _ _ _ from t)
    exact (rfl : "str" = "str")
  · obtain ⟨a, xs, rfl, h1, _⟩ := t
    exact .inl ⟨rfl, xs, SqL.of h1⟩
  · cases h
section
variable {X : Cx} {cl : Nat → Addr} {W : WX} {n : En} {a b e o i : PySem.Expr} {es : List PySem.Expr} {f fa fb fo fi : EF} {ga : LF} {pos p1 pos' apos cpos : Pos} {x m : Str} {k c np : Nat} {p : FF}
theorem de_m1 {name : Str} {ty id : String} {r : V → List V → Hp → VK → Prop} {g : D → D → Option D} (pa : PlainAttrs ty) (slot : Slot ty name id) (hty : typeOf (.builtin id) = pure (.type "method_descriptor")) (hm : MtR X id r) (hr : PurM (Cx.th X cl) r g) (ho : DE X cl W o fo) (he : DE X cl W e fa)
    (hbase : attributeBase o name X.env (eval o X.env) = eval o X.env := by rfl)
    (hfew : ((backTo cpos (starEach [e] X.env)).all (fun x => !x.1) && (backToKw cpos (keywordEach [] X.env)).all (fun x => x.1.isSome)
      && decide ([e].length + ([] : List Keyword).length + (if ([] : List Keyword).isEmpty then 0 else 1) < 30)) = true := by rfl)
    (hline : (apos.endLine == cpos.line) = true := by rfl) (hs : starEach [e] X.env = (false, eval e X.env) :: starEach [] X.env := by rfl) (hplain : (backTo cpos (starEach [] X.env)).any (·.1) = false := by rfl) :
    DE X cl W (.Call (.Attribute o name apos) [e] [] cpos) (dM1 ty g fo fa) :=
  PE.imp (pe_bm pa slot hty hm ho (pa_cons (dk_look he) pa_nil hs) hbase hfew hline hs hplain) fun σ H Q q => by
    obtain ⟨F, al, sl, mu, w, po⟩ := q
    refine seqG back_RD w po rfl fun v d F1 al1 mu1 H1 x1 w1 r1 po1 => ?_
    dsimp only at po1
    split at po1
    · rename_i hok
      refine ⟨tyV_of (T := Cx.th X cl) (top_look w1.toMus r1) hok, ?_⟩
      obtain ⟨F', al', sl', mu', w', po'⟩ : tG (Cx.th X cl) W (RK (Cx.th X cl)) (dLook fa) σ H1 fun y H2 => r v [y] H2 Q := by
        refine ⟨F1, al1, sl, mu1, w1, ?_⟩
        unfold dLook dBind obind
        unfold obind at po1
        cases z : fa sl mu1 with
        | ok e mu2 =>
          rw [z] at po1
          dsimp only at po1 ⊢
          intro y F2 al2 H2 x2 r2
          cases z2 : g (lookD mu2 d) (lookD mu2 e) with
          | none => rw [z2] at po1; exact False.elim po1
          | some res =>
            rw [z2] at po1
            exact hr F2 al2 mu2 H2 x2.mus v y _ _ res (top_look x2.mus (x2.rp r1)) r2 z2 Q fun v' F' H' x' r' => po1 v' F' al2 H' (x2.trans x') r'
        | ex c fs mu2 => rw [z] at po1; exact po1
        | bad => rw [z] at po1; exact po1
      exact ⟨F', al', sl', mu', w', po'⟩
    · exact False.elim po1
def strsD : List D → Option (List Str)
  | [] => some []
  | .str x :: l => (strsD l).map (x :: ·)
  | _ => none
theorem strsD_rp {T : Th} {F : Hp} {al : Nat → Addr} {n : Nat} : ∀ {l : List D} {xs : List V} {ys : List Str}, RpL T F al n xs l → strsD l = some ys → xs = ys.map V.str
  | [], _, _, r, e => by cases r; cases e; rfl
  | d :: l, _, is, r, e => by
    cases r with
    | cons r1 r2 =>
      cases d with
      | str i =>
        cases r1
        obtain ⟨is', h1, rfl⟩ := Option.map_eq_some_iff.mp e
        rw [strsD_rp r2 h1]; rfl
      | _ => cases e
theorem strsRp {T : Th} {F : Hp} {al : Nat → Addr} {n : Nat} : ∀ ys : List Str, RpL T F al n (ys.map V.str) (ys.map D.str)
  | [] => .nil
  | _ :: ys => .cons (.str _) (strsRp ys)
def joinD : D → D → Option D
  | .str a, .lst l => match strsD l with
    | some ys => if (ys.map (·.length)).sum + ys.length * a.length ≤ 16777216 then some (.str (Txt.join a ys)) else none
    | none => none
  | _, _ => none
theorem de_join (ho : DE X cl W o fo) (he : DE X cl W e fa)
    (hbase : attributeBase o "join" X.env (eval o X.env) = eval o X.env := by rfl)
    (hfew : ((backTo cpos (starEach [e] X.env)).all (fun x => !x.1) && (backToKw cpos (keywordEach [] X.env)).all (fun x => x.1.isSome)
      && decide ([e].length + ([] : List Keyword).length + (if ([] : List Keyword).isEmpty then 0 else 1) < 30)) = true := by rfl)
    (hline : (apos.endLine == cpos.line) = true := by rfl) (hs : starEach [e] X.env = (false, eval e X.env) :: starEach [] X.env := by rfl) (hplain : (backTo cpos (starEach [] X.env)).any (·.1) = false := by rfl) :
    DE X cl W (.Call (.Attribute o "join" apos) [e] [] cpos) (dM1 "str" joinD fo fa) :=
  de_m1 PySem.F.plainAttrs_str PySem.F.slot_str_join (by rfl) mt_join (fun F al mu H m x y d e res t1 t2 z Q k => by
    cases d with
    | str a =>
      cases e with
      | lst l =>
        unfold joinD at z
        dsimp only at z
        split at z
        · rename_i ys hy
          split at z
          · rename_i hl
            cases z
            cases (show Rp _ _ _ _ _ _ from t1)
            obtain ⟨p, xs, rfl, h1, h2⟩ := t2
            have h3 : xs = ys.map V.str := strsD_rp h2 hy
            subst h3
            exact ⟨a, p, ys, rfl, rfl, .inl (SqL.of h1), hl, k _ _ _ (Ext.refl m) (.str _)⟩
          · cases z
        · cases z
      | _ => cases z
    | _ => cases z) ho he hbase hfew hline hs hplain
def splitD : D → D → Option D
  | .str a, .str b => if (b.length == 0) = false ∧ a.length + 2 ≤ 16000000 then some (.lst ((Txt.split a b).map D.str)) else none
  | _, _ => none
theorem de_split (ho : DE X cl W o fo) (he : DE X cl W e fa)
    (hbase : attributeBase o "split" X.env (eval o X.env) = eval o X.env := by rfl)
    (hfew : ((backTo cpos (starEach [e] X.env)).all (fun x => !x.1) && (backToKw cpos (keywordEach [] X.env)).all (fun x => x.1.isSome)
      && decide ([e].length + ([] : List Keyword).length + (if ([] : List Keyword).isEmpty then 0 else 1) < 30)) = true := by rfl)
    (hline : (apos.endLine == cpos.line) = true := by rfl) (hs : starEach [e] X.env = (false, eval e X.env) :: starEach [] X.env := by rfl) (hplain : (backTo cpos (starEach [] X.env)).any (·.1) = false := by rfl) :
    DE X cl W (.Call (.Attribute o "split" apos) [e] [] cpos) (dM1 "str" splitD fo fa) :=
  de_m1 PySem.F.plainAttrs_str PySem.F.slot_str_split (by rfl) mt_split (fun F al mu H m x y d e res t1 t2 z Q k => by
    cases d with
    | str a =>
      cases e with
      | str b =>
        unfold splitD at z
        dsimp only at z
        split at z
        · rename_i hl
          cases z
          cases (show Rp _ _ _ _ _ _ from t1)
          cases (show Rp _ _ _ _ _ _ from t2)
          exact ⟨a, b, rfl, rfl, hl.1, by rw [sizeLine_eq]; omega, fun p hp => k _ _ _ (Ext.laidF m hp) (.lst upd_same (strsRp _))⟩
        · cases z
      | _ => cases z
    | _ => cases z) ho he hbase hfew hline hs hplain
def stripD : D → D → Option D
  | .str a, .str b => if a.length ≤ 16000000 then some (.str (Txt.stripChars a b)) else none
  | _, _ => none
theorem de_strip (ho : DE X cl W o fo) (he : DE X cl W e fa)
    (hbase : attributeBase o "strip" X.env (eval o X.env) = eval o X.env := by rfl)
    (hfew : ((backTo cpos (starEach [e] X.env)).all (fun x => !x.1) && (backToKw cpos (keywordEach [] X.env)).all (fun x => x.1.isSome)
      && decide ([e].length + ([] : List Keyword).length + (if ([] : List Keyword).isEmpty then 0 else 1) < 30)) = true := by rfl)
    (hline : (apos.endLine == cpos.line) = true := by rfl) (hs : starEach [e] X.env = (false, eval e X.env) :: starEach [] X.env := by rfl) (hplain : (backTo cpos (starEach [] X.env)).any (·.1) = false := by rfl) :
    DE X cl W (.Call (.Attribute o "strip" apos) [e] [] cpos) (dM1 "str" stripD fo fa) :=
  de_m1 PySem.F.plainAttrs_str PySem.F.slot_str_strip (by rfl) mt_stripChars (fun F al mu H m x y d e res t1 t2 z Q k => by
    cases d with
    | str a =>
      cases e with
      | str b =>
        unfold stripD at z
        dsimp only at z
        split at z
        · rename_i hl
          cases z
          cases (show Rp _ _ _ _ _ _ from t1)
          cases (show Rp _ _ _ _ _ _ from t2)
          exact ⟨a, b, rfl, rfl, by rw [sizeLine_eq]; omega, k _ _ _ (Ext.refl m) (.str _)⟩
        · cases z
      | _ => cases z
    | _ => cases z) ho he hbase hfew hline hs hplain
/-- the first place of an equal one -/
def indexD : D → D → Option D
  | .lst l, e => match toPL l, toP e with
    | some ps, some p => if SeqAt.shaped (.list ps) && SeqAt.shaped p then match ps.findIdx? fun z => PyData.eqv z p with
        | some j => some (.int (j : Nat))
        | none => none
      else none
    | _, _ => none
  | _, _ => none
theorem de_index (hu : X.A.units + 65 < cLine) (ho : DE X cl W o fo) (he : DE X cl W e fa)
    (hbase : attributeBase o "index" X.env (eval o X.env) = eval o X.env := by rfl)
    (hfew : ((backTo cpos (starEach [e] X.env)).all (fun x => !x.1) && (backToKw cpos (keywordEach [] X.env)).all (fun x => x.1.isSome)
      && decide ([e].length + ([] : List Keyword).length + (if ([] : List Keyword).isEmpty then 0 else 1) < 30)) = true := by rfl)
    (hline : (apos.endLine == cpos.line) = true := by rfl) (hs : starEach [e] X.env = (false, eval e X.env) :: starEach [] X.env := by rfl) (hplain : (backTo cpos (starEach [] X.env)).any (·.1) = false := by rfl) :
    DE X cl W (.Call (.Attribute o "index" apos) [e] [] cpos) (dM1 "list" indexD fo fa) :=
  de_m1 PySem.F.plainAttrs_list PySem.F.slot_list_index (by rfl) (mt_indexD hu) (fun F al mu H m x y d e res t1 t2 z Q k => by
    cases d with
    | lst l =>
      unfold indexD at z
      dsimp only at z
      split at z
      · rename_i ps p e1 e2
        split at z
        · rename_i hsh
          rw [Bool.and_eq_true] at hsh
          split at z
          · rename_i j hj
            cases z
            obtain ⟨a, xs, rfl, h1, h2⟩ := t1
            rw [List.findIdx?_eq_some_iff_getElem] at hj
            obtain ⟨hlt, hj1, hj2⟩ := hj
            have t2' : Rp (Cx.th X cl) F al mu.length y e ∨ ∃ l', e = .lst l' := by
              cases e with
              | lst l' => exact .inr ⟨l', rfl⟩
              | ins c fs => cases e2
              | dct _ => cases e2
              | _ => exact .inl t2
            have hy : Dp X.K H y p := by
              rcases t2' with h | ⟨l', rfl⟩
              · exact h.dp m.sub e2
              · obtain ⟨b, ys, rfl, g1, g2⟩ := t2
                unfold toP at e2
                split at e2
                · rename_i qs e3
                  cases e2
                  exact .lst (SqL.of g1) (g2.dp m.sub e3)
                · cases e2
            refine ⟨a, y, p, ps, j, ps[j], rfl, rfl, .lst (SqL.of h1) (h2.dp m.sub e1), hy, hsh.1, hsh.2, List.getElem?_eq_getElem hlt, hj1, fun m' z' hm hz => ?_, k _ _ _ (Ext.refl m) (.int _)⟩
            obtain ⟨hml, rfl⟩ := List.getElem?_eq_some_iff.mp hz
            have := hj2 m' hm
            simpa using this
          · cases z
        · cases z
      · cases z
    | _ => cases z) ho he hbase hfew hline hs hplain
end
end DL
end

section
set_option Elab.async false
set_option linter.all false
set_option maxRecDepth 100000
set_option maxHeartbeats 4000000
namespace DL
open PySem L2
/-! DU: sorted, f-strings. -/
def datD (d : D) : PyData := (toP d).getD .none
def alikeB (ps : List PyData) : Bool := ps.all fun p => ps.all fun q => PySem.W.alike p q
def tupNE : PyData → Bool
  | .tuple (_ :: _) => true
  | _ => false
def notNT : PyData → Bool
  | .none => false
  | .tuple _ => false
  | _ => true
def sortLe (d e : D) : Bool := PySem.W.dataLe false datD d e
def sortedD : D → Option MO
  | .lst l => match toPL l with
    | some ps => if (alikeB ps && (ps.all tupNE || ps.all notNT)) && (ps.all fun p => decide (p.depth ≤ 60)) then some (.lst (l.mergeSort sortLe)) else none
    | none => none
  | _ => none
theorem toPL_map : ∀ {l : List D} {ps : List PyData}, toPL l = some ps → ps = l.map datD ∧ ∀ d ∈ l, ∃ p, toP d = some p
  | [], _, h => by cases h; exact ⟨rfl, fun _ h => by cases h⟩
  | d :: ds, _, h => by
    unfold toPL at h
    split at h
    · rename_i p ps e1 e2
      cases h
      obtain ⟨h1, h2⟩ := toPL_map e2
      refine ⟨by rw [List.map_cons, ← h1]; unfold datD; rw [e1]; rfl, fun x hx => ?_⟩
      rcases List.mem_cons.mp hx with rfl | hx
      · exact ⟨p, e1⟩
      · exact h2 x hx
    · cases h
section
variable {X : Cx} {cl : Nat → Addr} {W : WX} {n : En} {a b e o i : PySem.Expr} {es : List PySem.Expr} {f fa fb fo fi : EF} {ga : LF} {pos p1 pos' apos cpos : Pos} {x m : Str} {k c np : Nat} {p : FF}
/-- rows of pairs -/
inductive Prs (T : Th) (F : Hp) (al : Nat → Addr) (n : Nat) : List V → List D → List Value → List (V × D) → Prop where
  | nil : Prs T F al n [] [] [] []
  | cons {v : V} {d : D} {u : Value} {vs : List V} {ds : List D} {us : List Value} {bs : List (V × D)} (r : Rp T F al n v d) (q : RelV v u) (t : Prs T F al n vs ds us bs) : Prs T F al n (v :: vs) (d :: ds) (u :: us) ((v, d) :: bs)
theorem prs_of {T : Th} {F : Hp} {al : Nat → Addr} {n : Nat} : ∀ {vs : List V} {ds : List D} {us : List Value}, RpL T F al n vs ds → Vals vs us → ∃ bs, Prs T F al n vs ds us bs
  | [], [], _, _, .nil => ⟨[], .nil⟩
  | v :: vs, d :: ds, _, .cons r1 r2, .cons q1 q2 => by
    obtain ⟨bs, h⟩ := prs_of r2 q2
    exact ⟨(v, d) :: bs, .cons r1 q1 h⟩
  | [], d :: ds, _, h, _ => by cases h
  | v :: vs, [], _, h, _ => by cases h
theorem Prs.bs {T : Th} {F : Hp} {al : Nat → Addr} {n : Nat} {vs : List V} {ds : List D} {us : List Value} {bs : List (V × D)} (h : Prs T F al n vs ds us bs) : bs.map (·.1) = vs ∧ bs.map (·.2) = ds ∧ (∀ b ∈ bs, Rp T F al n b.1 b.2) := by
  induction h with
  | nil => exact ⟨rfl, rfl, fun _ h => by cases h⟩
  | cons r q t ih =>
    refine ⟨by rw [List.map_cons, ih.1], by rw [List.map_cons, ih.2.1], fun b hb => ?_⟩
    rcases List.mem_cons.mp hb with rfl | hb
    · exact r
    · exact ih.2.2 b hb
theorem rpL_of {T : Th} {F : Hp} {al : Nat → Addr} {n : Nat} : ∀ {bs : List (V × D)}, (∀ b ∈ bs, Rp T F al n b.1 b.2) → RpL T F al n (bs.map (·.1)) (bs.map (·.2))
  | [], _ => .nil
  | b :: bs, h => .cons (h b List.mem_cons_self) (rpL_of fun c hc => h c (List.mem_cons_of_mem _ hc))
theorem vals_each : ∀ {out : List Value} {bs : List (V × D)}, PySem.W.EachIs (fun u b => RelV b.1 u) out bs → Vals (bs.map (·.1)) out
  | _, _, .nil => .nil
  | _, _, .cons h t => .cons h (vals_each t)
def rSortD (T : Th) : List V → Hp → VK → Prop := fun vs H Q => ∃ (F : Hp) (al : Nat → Addr) (n : Nat) (a : Addr) (xs : List V) (l : List D) (l' : List D), vs = [V.ref a] ∧ (∀ a o, F a = some o → H a = some o) ∧ H a = some (.lst xs) ∧ RpL T F al n xs l ∧ sortedD (.lst l) = some (.lst l') ∧
  ∀ p ys, H p = none → RpL T F al n ys l' → Q (.ref p) (upd H p (.lst ys))
theorem cr_sortedDat (hu : X.A.units + 64 < cLine) : CallR X (.builtin "sorted") (rSortD (Cx.th X cl)) := by
  intro pins s σ H vs us Q I r h
  obtain ⟨F, al, n, a, xs, l, l', rfl, sub, ha, hl, hs, q⟩ := h
  obtain ⟨its, rv, il, hz⟩ := I.list (SqL.of ha)
  rw [Vals.ref1 r]
  unfold sortedD at hs
  dsimp only at hs
  split at hs
  · rename_i ps hps
    split at hs
    · rename_i hc
      cases hs
      obtain ⟨h1, h2⟩ := toPL_map hps
      rw [Bool.and_eq_true, Bool.and_eq_true] at hc
      obtain ⟨⟨c1, c2⟩, c3⟩ := hc
      obtain ⟨bs, pr⟩ := prs_of hl rv
      have pb := pr.bs
      have eenc : bs.map (fun b => datD b.2) = ps := by
        rw [h1, ← pb.2.1, List.map_map]; rfl
      have each : ∀ {vs ds us bs}, Prs (Cx.th X cl) F al n vs ds us bs → (∀ d ∈ ds, ∃ p, toP d = some p) → PySem.W.EachIs (fun u (b : V × D) => RelV b.1 u) us bs ∧ PySem.W.EachIs (fun u (b : V × D) => ∃ as, Reads s.heap u (datD b.2) as) us bs := by
        intro vs ds us bs h hd
        induction h with
        | nil => exact ⟨.nil, .nil⟩
        | @cons v d u vs ds us bs r q t ih =>
          obtain ⟨i1, i2⟩ := ih fun d hd' => hd d (List.mem_cons_of_mem _ hd')
          obtain ⟨p, hp⟩ := hd d List.mem_cons_self
          obtain ⟨as, rd⟩ := Dp.reads I p v u (r.dp sub hp) q
          exact ⟨.cons q i1, .cons ⟨as, by show Reads s.heap u (datD d) as; unfold datD; rw [hp]; exact rd⟩ i2⟩
      obtain ⟨e1, e2⟩ := each pr h2
      have mem : ∀ d, d ∈ bs.map (fun b => datD b.2) → d ∈ ps := fun d hd => by rw [← eenc]; exact hd
      have al2 : PySem.W.AllAlike (bs.map fun b => datD b.2) := fun d hd d' hd' => by
        rw [eenc] at hd hd'
        have := List.all_eq_true.mp c1 d hd
        exact List.all_eq_true.mp this d' hd'
      have so : PySem.W.Sortable (bs.map fun b => datD b.2) := by
        rw [eenc]
        rcases Bool.or_eq_true_iff.mp c2 with h | h
        · refine .inl fun d hd => ?_
          have := List.all_eq_true.mp h d hd
          unfold tupNE at this
          split at this
          · exact ⟨_, _, rfl⟩
          · cases this
        · refine .inr fun d hd => ?_
          have := List.all_eq_true.mp h d hd
          refine ⟨fun z => ?_, fun ys z => ?_⟩
          · subst z; cases this
          · subst z; cases this
      have hlen : bs.length = xs.length := by rw [← pb.1, List.length_map]
      refine PySem.W.sorted_data il.isList e1 e2 al2 so (by rw [hlen]; exact hz) (fun b hb => ?_) fun out ho h3 => ?_
      · have := List.all_eq_true.mp c3 (datD b.2) (mem _ (List.mem_map.mpr ⟨b, hb, rfl⟩))
        have := of_decide_eq_true this
        omega
      · obtain ⟨ep, he'⟩ := PyProof.Rows.sortedAll_at s.heap its out.toArray
        have hv := vals_each h3
        have hm : (bs.mergeSort (PySem.W.dataLe false fun b => datD b.2)).map (·.2) = l.mergeSort sortLe := by
          rw [List.map_mergeSort (r := PySem.W.dataLe false fun b : V × D => datD b.2) (s := sortLe) (f := fun b : V × D => b.2) (fun _ _ _ _ => rfl), pb.2.1]
        have hr : RpL (Cx.th X cl) F al n ((bs.mergeSort (PySem.W.dataLe false fun b => datD b.2)).map (·.1)) (l.mergeSort sortLe) := by
          rw [← hm]
          exact rpL_of fun b hb => pb.2.2 b (List.mem_mergeSort.mp hb)
        have hll : ((bs.mergeSort (PySem.W.dataLe false fun b => datD b.2)).map (·.1)).length ≤ sizeLine := by
          rw [List.length_map, List.length_mergeSort, hlen]; exact hz
        exact ⟨.ref _, upd H (s.heap.objs.size + 1) (.lst _), I.laid (t' := s.toks) (fun _ _ => PyProof.Rows.sortedAll_old) (Nat.le_succ _) ⟨hll, out, ep, hv, he'⟩, rfl, q _ _ (I.hok.fresh (Nat.le_succ _)) hr⟩
    · cases hs
  · cases hs
theorem dn_sorted (hu : X.A.units + 64 < cLine) (hg : Gl X "sorted") (hm : X.mg "sorted" = none) (h : DKk X cl W e f) (he : starEach [e] X.env = (false, eval e X.env) :: starEach [] X.env := by rfl) (hpl : (backTo pos (starEach [] X.env)).any (·.1) = false := by rfl) : DN X cl W (.Call (.Name "sorted" p1) [e] [] pos) (dNw1 sortedD f) := by
  refine dn_b1 (cr_sortedDat (cl := cl) hu) (fun F al mu H m x d res t e Q k => ?_) hg hm (by decide +kernel) h (by decide) (by decide) he hpl
  cases d with
  | lst l =>
    have e0 := e
    unfold sortedD at e
    dsimp only at e
    split at e
    · split at e
      · cases e
        obtain ⟨a, xs, rfl, h1, h2⟩ := t
        refine ⟨F, al, mu.length, a, xs, l, _, rfl, m.sub, h1, h2, e0, fun p ys hp r => k _ F _ (Ext.laidH m hp) (rn_new (o := .lst ys) (m := .lst _) m hp r)⟩
      · cases e
    · cases e
  | _ => cases e

/-! ### f-strings -/
def fmtD : D → Option D
  | .str y => if y.length ≤ 16000000 then some (.str y) else none
  | .int i => if i.natAbs.log2 < 1920 then some (.str (toString i)) else none
  | _ => none
theorem de_fmt (h : DE X cl W e f) : DE X cl W (.FormattedValue e (-1) none pos) (dOp1 fmtD f) := PE.imp (pe_fmt h) fun σ H Q q => by
  obtain ⟨F, al, sl, mu, w, po⟩ := q
  refine seqG back_RD w po rfl fun v d F1 al1 mu1 H1 x1 w1 r1 po1 => ?_
  dsimp only at po1
  cases z : fmtD d with
  | none => rw [z] at po1; exact False.elim po1
  | some res =>
    rw [z] at po1
    unfold fmtD at z
    split at z
    · rename_i y
      split at z
      · rename_i hl
        cases z
        cases r1
        exact .inl ⟨y, rfl, by rw [sizeLine_eq]; omega, Po.here po1 w1.toMus (.str _)⟩
      · cases z
    · rename_i j
      split at z
      · rename_i hl
        cases z
        cases r1
        exact .inr ⟨j, rfl, hl, Po.here po1 w1.toMus (.str _)⟩
      · cases z
    · cases z
inductive DJs (X : Cx) (cl : Nat → Addr) (W : WX) : List PySem.Expr → List EF → Prop where
  | nil : DJs X cl W [] []
  | cons {e : PySem.Expr} {f : EF} {es : List PySem.Expr} {fs : List EF} (h : DE X cl W e f) (t : DJs X cl W es fs) : DJs X cl W (e :: es) (f :: fs)
theorem DJs.pj {es : List PySem.Expr} {fs : List EF} (h : DJs X cl W es fs) : PJ X es (fs.map fun f => tG (Cx.th X cl) W (RD (Cx.th X cl)) f) := by
  induction h with
  | nil => exact .nil
  | cons h t ih => exact .cons h ih
def dJs : List EF → Str → EF
  | [], acc, _, mu => .ok (.str acc) mu
  | f :: fs, acc, sl, mu => obind (f sl mu) fun d mu => match d with
    | .str y => if (acc ++ y).length ≤ 16000000 then dJs fs (acc ++ y) sl mu else .bad
    | _ => .bad
theorem tJs_of {σ : St} {Q : VK} : ∀ (fs : List EF) (acc : Str) (H : Hp), tG (Cx.th X cl) W (RD (Cx.th X cl)) (dJs fs acc) σ H Q → tJs (fs.map fun f => tG (Cx.th X cl) W (RD (Cx.th X cl)) f) acc σ H fun out H1 => Q (.str out) H1
  | [], acc, H, q => by
    obtain ⟨F, al, sl, mu, w, po⟩ := q
    exact Po.here po w.toMus (.str _)
  | f :: fs, acc, H, q => by
    obtain ⟨F, al, sl, mu, w, po⟩ := q
    show tG (Cx.th X cl) W (RD (Cx.th X cl)) f σ H fun x H1 => _
    refine seqG back_RD w po (g := fun d mu => match d with
      | .str y => if (acc ++ y).length ≤ 16000000 then dJs fs (acc ++ y) sl mu else .bad
      | _ => .bad) rfl fun v d F1 al1 mu1 H1 x1 w1 r1 po1 => ?_
    cases d with
    | str y =>
      dsimp only at po1
      split at po1
      · rename_i hl
        cases r1
        exact ⟨y, rfl, by rw [sizeLine_eq]; omega, tJs_of fs (acc ++ y) H1 ⟨F1, al1, sl, mu1, w1, po1⟩⟩
      · exact False.elim po1
    | _ => exact False.elim po1
theorem de_fstr {v1 v2 : PySem.Expr} {rest : List PySem.Expr} {fs : List EF} (h : DJs X cl W (v1 :: v2 :: rest) fs) : DE X cl W (.JoinedStr (v1 :: v2 :: rest) pos) (dJs fs Str.empty) := PE.imp (pe_joined h.pj) fun σ H Q q => tJs_of fs Str.empty H q
theorem de_fstr1 (h : DE X cl W e f) : DE X cl W (.JoinedStr [e] pos) f := pe_joined1 h
end
end DL
end

section
set_option Elab.async false
set_option linter.all false
set_option maxRecDepth 100000
set_option maxHeartbeats 4000000
/-! DV: {x: True for x in a list} and how many keys it has. -/
namespace DL
open PySem L2 PyProof.Rows
section
variable {X : Cx} {pins : List (Addr × Obj)} {σ : L2.St} {H : Hp} {s1 : Shared}
/-- what a table of the rows must keep, row by row -/
structure Tab (X : Cx) (H : Hp) (s1 : Shared) (items : Array Value) (o : HO) (T : Addr → Nat → Heap → Prop) : Prop where
  start : ∀ (D : Addr) (h : Heap), sysModules < D → h.get? D = some { cls := .type "dict", dict := none, data := .dict #[] } → T D 0 h
  stay : ∀ (D : Addr) (i : Nat) (h h' : Heap), T D i h → (∀ u, h.get? D = some u → h'.get? D = some u) → T D i h'
  step : ∀ (D : Addr) (i : Nat) (s : Shared) (v : Value) (E : Value → Shared → Prop) (Q : Unit → Shared → Prop), T D i s.heap → (∀ b u, s1.heap.get? b = some u → s.heap.get? b = some u) → s1.heap.objs.size ≤ D → items[i]? = some v →
    (∀ h' t, T D (i + 1) h' → Heap.SameBut D s.heap h' → Q () { s with heap := h', toks := t }) → wpAny (model X.prog X.w) X.A (dictSet D v (.bool true)) Q E s
  fin : ∀ (D : Addr) (h : Heap), (∀ b u, s1.heap.get? b = some u → h.get? b = some u) → s1.heap.objs.size ≤ D → T D items.size h → ObjOk X.prog X.w (upd H D o) h D o
theorem dc_rows {l : Addr} {items : Array Value} {o : HO} {T : Addr → Nat → Heap → Prop} {x : Str} {p1 p2 p3 : Pos} {j : Nat} {scope : Scope} {Q : VK} (hc : X.calm = true) (I : Inv X pins σ H s1) (hl : s1.heap.IsList l items) (tb : Tab X H s1 items o T)
    (hx : scope.names.lookup x = some .local) (hdb : (x == ("__debug__" : Str)) = false) (hk : scope.kind = .function) (hcell : ∀ y ∈ scope.names, y.2 ≠ .cell) (q : ∀ D, H D = none → Q (.ref D) (upd H D o)) :
    wpAny (model X.prog X.w) X.A (pyIter (.ref l)) (DcGoes X.prog X.w X.A X.xe X.env scope [] (.Name x p3) [] (.Name x p1) (.Constant (.bool true) j p2) none (EP X pins σ Q)) X.xe s1 := by
  have hh : X.A.handled = none := I.ok.hd hc
  refine wpAny_pyIter_list hl ?_
  have ltl : l < s1.heap.objs.size := let ⟨u, e, _⟩ := hl; Heap.lt_size e
  have hne : l ≠ s1.heap.objs.size := Nat.ne_of_lt ltl
  refine ⟨s1.heap.objs.size, [s1.heap.objs.size, l], [s1.heap.objs.size], items.size, _, _, rfl, Goes.list hh s1.heap.objs.size l hne items, ⟨⟨_, Heap.get?_push_size _ rfl, rfl, rfl⟩, hl.push _⟩, fun D C s3 b hD => ?_⟩
  have szp : s1.heap.objs.size < D := by
    have := b.newD
    rw [Heap.size_push] at this
    exact this
  have szc : s1.heap.objs.size < C := by
    have := b.newC
    rw [Heap.size_push] at this
    exact this
  have big : sysModules < D := Nat.lt_trans I.big szp
  have oldD : ∀ {b u}, s1.heap.get? b = some u → b ≠ D := fun e => Nat.ne_of_lt (Nat.lt_trans (Heap.lt_size e) szp)
  have oldC : ∀ {b u}, s1.heap.get? b = some u → b ≠ C := fun e => Nat.ne_of_lt (Nat.lt_trans (Heap.lt_size e) szc)
  have kf : (compEnvC scope [] C X.env).scope.kind = .function := hk
  have kl : (compEnvC scope [] C X.env).kindOf x = some .local := lookup_relabel_local hx
  refine ⟨fun i s' => (∃ h' tk, s' = { s1 with heap := h', toks := tk }) ∧ (∀ b u, s1.heap.get? b = some u → s'.heap.get? b = some u) ∧ (∃ m, s'.heap.Ns C m) ∧ T D i s'.heap, ?_, ?_, ?_, ?_⟩
  · obtain ⟨h, tk, e⟩ := b.only
    refine ⟨⟨h, tk, by rw [e]⟩, fun a u e => b.old a u (Heap.get?_push_of_some _ e), ⟨_, b.names⟩, tb.start D _ big hD⟩
  · rintro i s h' tk ⟨⟨h, t, e⟩, kept, ⟨m, hm⟩, ht⟩ k _
    refine ⟨⟨h', tk, by rw [e]⟩, fun a u ea => k a u (fun z => ?_) (kept a u ea), ⟨m, ?_⟩, tb.stay D i _ _ ht fun u eu => k D u (fun z => ?_) eu⟩
    · rw [List.mem_singleton] at z; subst z; exact absurd (Heap.lt_size ea) (Nat.lt_irrefl _)
    · obtain ⟨ob, es, ep, ho, r⟩ := hm
      exact ⟨ob, es, ep, k C ob (fun z => by rw [List.mem_singleton] at z; rw [z] at szc; exact absurd szc (Nat.lt_irrefl _)) ho, r⟩
    · rw [List.mem_singleton] at z; rw [z] at szp; exact absurd szp (Nat.lt_irrefl _)
  · rintro i v s hi hv st ⟨⟨h, t, e⟩, kept, ⟨m, hm⟩, ht⟩
    refine wpAny_assign_Name (wpAny_storeName_local kl (show s.heap.Ns (compEnvC scope [] C X.env).locals m from hm) (fun h2 hn2 hs2 => ?_) (by rw [kf]; rfl))
    have kept2 : ∀ b u, s1.heap.get? b = some u → h2.get? b = some u := fun a u ea => (hs2.2 a (oldC ea)).trans (kept a u ea)
    have st2 : ∀ (h3 : Heap), (∀ a u, a = s1.heap.objs.size ∨ a = l → s.heap.get? a = some u → h3.get? a = some u) → h3.IsListIter s1.heap.objs.size l (i + 1) ∧ h3.IsList l items := fun h3 k => by
      obtain ⟨⟨ob, e1, r1⟩, ob2, e2, r2⟩ := st
      exact ⟨⟨ob, k _ _ (.inl rfl) e1, r1⟩, ob2, k _ _ (.inr rfl) e2, r2⟩
    refine wpAny_pure ?_
    rw [if_pos rfl]
    refine wpAny_Name (wpAny_loadName_local kf kl hn2 (if_pos rfl) ?_) hdb
    refine Constant_bool ?_
    refine tb.step D i _ v _ _ (tb.stay D i _ _ ht fun u eu => (hs2.2 D b.ne).trans eu) kept2 (Nat.le_of_lt szp) hv fun h3 t3 ht3 hs3 => ?_
    refine ⟨⟨⟨h3, t3, by rw [e]⟩, fun a u ea => (hs3.2 a (oldD ea)).trans (kept2 a u ea), ⟨_, hn2.sameBut hs3 b.ne.symm⟩, ht3⟩, st2 h3 fun a u ha ea => ?_⟩
    have h1 : a ≠ D := by
      rcases ha with z | z
      · rw [z]; exact Nat.ne_of_lt szp
      · rw [z]; exact Nat.ne_of_lt (Nat.lt_trans ltl szp)
    have h2' : a ≠ C := by
      rcases ha with z | z
      · rw [z]; exact Nat.ne_of_lt szc
      · rw [z]; exact Nat.ne_of_lt (Nat.lt_trans ltl szc)
    exact (hs3.2 a h1).trans ((hs2.2 a h2').trans ea)
  · rintro s ⟨⟨h, t, e⟩, kept, ⟨m, hm⟩, ht⟩
    refine ⟨m, hm, fun h4 hs4 => ?_⟩
    have kept4 : ∀ b u, s1.heap.get? b = some u → h4.get? b = some u := fun a u ea => (hs4.2 a (oldC ea)).trans (kept a u ea)
    refine ⟨.ref D, upd H D o, ?_, rfl, q D (I.hok.fresh (Nat.le_of_lt szp))⟩
    have := I.laid (a := D) (o := o) (h' := h4) (t' := t) kept4 (Nat.le_of_lt szp) (tb.fin D h4 kept4 (Nat.le_of_lt szp) (tb.stay D _ _ _ ht fun u eu => (hs4.2 D b.ne).trans eu))
    rw [e]
    exact this
/-! the tables -/
def kvsOf {α : Type} [DecidableEq α] (ks : List α) (n : Nat) : List (α × V) := (ks.take n).foldl (fun acc k => putK acc k (.bl true)) []
theorem kvsOf_len {α : Type} [DecidableEq α] {ks : List α} : ∀ n, (kvsOf ks n).length ≤ n := by
  have key : ∀ (l : List α) (acc : List (α × V)), (l.foldl (fun acc k => putK acc k (.bl true)) acc).length ≤ acc.length + l.length := by
    intro l
    induction l with
    | nil => intro acc; exact Nat.le_refl _
    | cons k l ih =>
      intro acc
      have h1 := ih (putK acc k (.bl true))
      have h2 := length_putK acc k (.bl true)
      rw [List.foldl_cons, List.length_cons]
      omega
  intro n
  have := key (ks.take n) []
  rw [List.length_nil, Nat.zero_add] at this
  exact Nat.le_trans this (List.length_take_le n ks)
theorem kvsOf_succ {α : Type} [DecidableEq α] {ks : List α} {n : Nat} {k : α} (h : ks[n]? = some k) : kvsOf ks (n + 1) = putK (kvsOf ks n) k (.bl true) := by
  unfold kvsOf
  obtain ⟨hl, rfl⟩ := List.getElem?_eq_some_iff.mp h
  rw [List.take_succ_eq_append_getElem hl, List.foldl_append]
  rfl
theorem tab_K {l : Addr} {ks : List Key} {its : List Value} (I : Inv X pins σ H s1) (rv : Vals (ks.map kV) its) (hz : its.length ≤ sizeLine) :
    Tab X H s1 its.toArray (.dK (kvsOf ks its.length)) (fun D i h => (D == sysModules) = false ∧ i ≤ its.length ∧ ∃ vs, KV (kvsOf ks i) vs ∧ h.DictOf (mixKind X.prog X.w) D vs) where
  start D h big e := ⟨beq_eq_false_iff_ne.mpr (Ne.symm (Nat.ne_of_lt big)), Nat.zero_le _, [], .nil, _, #[], 0, e, ⟨rfl, rfl, rfl⟩, rfl, fun _ he => by simp at he, .nil, List.nodup_nil⟩
  stay D i h h' t k := by
    obtain ⟨t0, t1, vs, t2, o, es, ep, e, r⟩ := t
    exact ⟨t0, t1, vs, t2, o, es, ep, k o e, r⟩
  step D i s v E Q t kept hD hv q := by
    obtain ⟨t0, t1, vs, t2, t3⟩ := t
    have hl := rv.length
    rw [List.length_map] at hl
    have hi : i < its.length := by
      have := (List.getElem?_eq_some_iff.mp (by simpa using hv : its[i]? = some v)).1
      exact this
    have hk : ks[i]? = some (ks[i]'(by omega)) := List.getElem?_eq_getElem _
    obtain ⟨u, hu, ru⟩ := rv.get (i := i) (x := kV (ks[i]'(by omega))) (by rw [List.getElem?_map, hk]; rfl)
    have : u = v := by
      have hv' : its[i]? = some v := by simpa using hv
      rw [hu] at hv'; exact Option.some.inj hv'
    subst this
    have hlen : vs.length ≤ sizeLine := by
      rw [← Paired.length t2]
      have := kvsOf_len (ks := ks) i
      omega
    refine wpAny_dictSet_pairs (hsz := hlen) (kV_is ru) t3 fun h' dd hs => q h' _ ⟨t0, hi, _, ?_, dd⟩ hs
    rw [kvsOf_succ hk]
    exact t2.put _ rfl
  fin D h kept hD t := by
    obtain ⟨t0, t1, vs, t2, t3⟩ := t
    have hn : its.toArray.size = its.length := by simp
    rw [hn] at t2
    exact ⟨Nat.le_trans (kvsOf_len _) hz, t0, vs, t2, t3⟩
theorem tab_T {l : Addr} {ks : List (List Key)} {xs : List V} {its : List Value} (I : Inv X pins σ H s1) (rv : Vals xs its) (hu : X.A.units + 1 < cLine) (hz : its.length ≤ sizeLine) (hx : Paired (fun x k => ∃ b, x = V.ref b ∧ H b = some (.tup (k.map kV))) xs ks) :
    Tab X H s1 its.toArray (.dT (kvsOf ks its.length)) (fun D i h => (D == sysModules) = false ∧ i ≤ its.length ∧ ∃ zs, KT H (kvsOf ks i) zs ∧ ∃ o es ep, h.get? D = some o ∧ o.ExactDict ∧ o.data = .dict es ep ∧ es.toList = zs.map (entryOfKey (tupleKind (mixKind X.prog X.w))) ∧ (zs.map (·.1)).Nodup) where
  start D h big e := ⟨beq_eq_false_iff_ne.mpr (Ne.symm (Nat.ne_of_lt big)), Nat.zero_le _, [], .nil, _, #[], 0, e, ⟨rfl, rfl, rfl⟩, rfl, rfl, List.nodup_nil⟩
  stay D i h h' t k := by
    obtain ⟨t0, t1, zs, t2, o, es, ep, e, r⟩ := t
    exact ⟨t0, t1, zs, t2, o, es, ep, k o e, r⟩
  step D i s v E Q t kept hD hv q := by
    obtain ⟨t0, t1, zs, t2, o, es, ep, e1, e2, e3, e4, e5⟩ := t
    have hl := rv.length
    have hl2 := Paired.length hx
    have hi : i < its.length := (List.getElem?_eq_some_iff.mp (by simpa using hv : its[i]? = some v)).1
    have hk : ks[i]? = some (ks[i]'(by omega)) := List.getElem?_eq_getElem _
    have hxi : xs[i]? = some (xs[i]'(by omega)) := List.getElem?_eq_getElem _
    obtain ⟨u, hu', ru⟩ := rv.get hxi
    have hv' : its[i]? = some v := by simpa using hv
    rw [hu'] at hv'
    cases hv'
    obtain ⟨b, eb, hb⟩ : ∃ b, xs[i]'(by omega) = V.ref b ∧ H b = some (.tup ((ks[i]'(by omega)).map kV)) := by
      have key : ∀ {xs : List V} {ks : List (List Key)}, Paired (fun x k => ∃ b, x = V.ref b ∧ H b = some (.tup (k.map kV))) xs ks → ∀ (i : Nat) (h1 : i < xs.length) (h2 : i < ks.length), ∃ b, xs[i] = V.ref b ∧ H b = some (.tup (ks[i].map kV)) := by
        intro xs ks h
        induction h with
        | nil => intro i h1; exact absurd h1 (Nat.not_lt_zero _)
        | cons r t ih =>
          intro i h1 h2
          cases i with
          | zero => exact r
          | succ i => exact ih i (Nat.lt_of_succ_lt_succ h1) (Nat.lt_of_succ_lt_succ h2)
      exact key hx i _ _
    rw [eb] at ru
    cases (show v = Value.ref b from ru)
    have hlen : zs.length ≤ sizeLine := by
      rw [← Paired.length t2]
      have := kvsOf_len (ks := ks) i
      omega
    have keyok : ∀ {c : Addr} {k : List Key}, H c = some (.tup (k.map kV)) → (tupleKind (mixKind X.prog X.w)).is s.heap k c := fun {c k} hc => by
      obtain ⟨ob, its', n, h1, h2, h3, h4⟩ := key_of I.hok hc
      exact ⟨ob, its', n, kept _ _ h1, h2, h3, h4⟩
    have all : ∀ x ∈ zs, (tupleKind (mixKind X.prog X.w)).is s.heap x.1 x.2.1 := by
      have key : ∀ {kvs : List (List Key × V)} {zs : List (List Key × Addr × Value)}, KT H kvs zs → ∀ x ∈ zs, (tupleKind (mixKind X.prog X.w)).is s.heap x.1 x.2.1 := by
        intro kvs zs h
        induction h with
        | nil => intro x hx; cases hx
        | cons r t ih =>
          intro x hx
          rcases List.mem_cons.mp hx with rfl | hx
          · exact keyok (by rw [← r.1]; exact r.2.1)
          · exact ih x hx
      exact key t2
    refine wpAny_dictSet_heap (hsz := hlen) (by exact Nat.lt_of_succ_lt hu) (keyok hb) ⟨o, es, ep, e1, e2, e3, e4, all, e5⟩ fun h' dd hs => q h' _ ⟨t0, hi, storedH zs (ks[i]'(by omega)) b (.bool true), ?_, ?_⟩ hs
    · rw [kvsOf_succ hk]
      exact t2.put _ hb rfl
    · obtain ⟨o', es', ep', h1, h2, h3, h4, _, h6⟩ := dd
      exact ⟨o', es', ep', h1, h2, h3, h4, h6⟩
  fin D h kept hD t := by
    obtain ⟨t0, t1, zs, t2, t3⟩ := t
    have hn : its.toArray.size = its.length := by simp
    rw [hn] at t2
    refine ⟨Nat.le_trans (kvsOf_len _) hz, t0, zs, t2.keeps fun c ys ec => ?_, t3⟩
    rw [upd_ne (ne_of_none ec (I.hok.fresh hD))]
    exact ec
/-- the rule: D the new dict -/
def tDR (te : TE) : TE := fun σ H Q => te σ H fun v H1 => ∃ l xs, v = .ref l ∧ H1 l = some (.lst xs) ∧
  ((∃ ks : List Key, xs = ks.map kV ∧ ∀ D, H1 D = none → Q (.ref D) (upd H1 D (.dK (kvsOf ks ks.length)))) ∨
   ∃ ks : List (List Key), Paired (fun x k => ∃ b, x = V.ref b ∧ H1 b = some (.tup (k.map kV))) xs ks ∧ ∀ D, H1 D = none → Q (.ref D) (upd H1 D (.dT (kvsOf ks ks.length))))
theorem pe_dcRow {x : Str} {p1 p2 p3 pos : Pos} {j : Nat} {iter : PySem.Expr} {scope : Scope} {te : TE} (hc : X.calm = true) (hu : X.A.units + 1 < cLine) (he : PE X iter te)
    (hx : scope.names.lookup x = some .local := by rfl) (hdb : (x == ("__debug__" : Str)) = false := by decide) (hk : scope.kind = .function := by rfl) (hcell : ∀ y ∈ scope.names, y.2 ≠ .cell := by decide) (hfree : ∀ y ∈ scope.names, y.2 ≠ .free := by decide)
    (hn : ∀ y ∈ scope.names, y.2 = .local → scope.names.lookup y.1 = some .local := by decide) (hs : ∀ x, foldedSetIterable iter X.env x = pure x := by intro _; rfl) :
    PE X (.DictComp (.Name x p1) (.Constant (.bool true) j p2) [⟨.Name x p3, iter, [], 0⟩] scope pos) (tDR te) := ⟨fun pins s σ H Q I h => by
  refine DictComp_goes (closureFor_none hfree) hcell hk hn (thn (he.run pins s σ H _ I h) fun u s1 ⟨v, H1, I1, rv, l, xs, ev, hl, q⟩ => ?_) hs
  subst ev
  cases (show u = Value.ref l from rv)
  obtain ⟨its, r, il, hz⟩ := I1.list (SqL.of hl)
  have hlen := r.length
  have hz' : its.length ≤ sizeLine := by rw [← hlen]; exact hz
  rcases q with ⟨ks, rfl, q⟩ | ⟨ks, hks, q⟩
  · rw [List.length_map] at hlen
    exact dc_rows hc I1 il.isList (tab_K (l := l) I1 r hz') hx hdb hk hcell (by rw [← hlen]; exact q)
  · have hl2 := Paired.length hks
    exact dc_rows hc I1 il.isList (tab_T (l := l) I1 r hu hz' hks) hx hdb hk hcell (by rw [← hlen, hl2]; exact q)⟩
end
end DL
end

section
set_option Elab.async false
set_option linter.all false
set_option maxRecDepth 100000
set_option maxHeartbeats 4000000
namespace DL
open PySem L2
/-! DX: how many unlike rows, not in a constant tuple of texts, enumerate, lists and tuples walked alike. -/
def keyD : D → Option Key
  | .int i => some (.inl i)
  | .str z => some (.inr z)
  | _ => none
def allSome {α β : Type} (f : α → Option β) : List α → Option (List β)
  | [] => some []
  | a :: l => match f a, allSome f l with
    | some b, some r => some (b :: r)
    | _, _ => none
def tkeyD : D → Option (List Key)
  | .tup l => allSome keyD l
  | _ => none
/-- how many unlike rows -/
def unlike : List D → Option Nat := fun l => match allSome keyD l with
  | some ks => some (kvsOf ks ks.length).length
  | none => match allSome tkeyD l with
    | some ks => some (kvsOf ks ks.length).length
    | none => none
def unlikeD : D → Option D
  | .lst l => (unlike l).map fun n => .int (n : Nat)
  | _ => none
section
variable {T : Th} {F : Hp} {al : Nat → Addr} {n : Nat}
theorem keyD_rp {v : V} {d : D} {k : Key} (r : Rp T F al n v d) (h : keyD d = some k) : v = kV k := by
  cases d with
  | int i => cases h; cases r; rfl
  | str i => cases h; cases r; rfl
  | _ => cases h
theorem keysD_rp : ∀ {l : List D} {xs : List V} {ks : List Key}, RpL T F al n xs l → allSome keyD l = some ks → xs = ks.map kV
  | [], _, _, r, h => by cases h; cases r; rfl
  | d :: l, _, ks, r, h => by
    unfold allSome at h
    split at h
    · rename_i b r' e1 e2
      cases h
      cases r with
      | cons r1 r2 => rw [keyD_rp r1 e1, keysD_rp r2 e2]; rfl
    · cases h
theorem tkeysD_rp : ∀ {l : List D} {xs : List V} {ks : List (List Key)}, RpL T F al n xs l → allSome tkeyD l = some ks → Paired (fun x k => ∃ b, x = V.ref b ∧ F b = some (.tup (k.map kV))) xs ks
  | [], _, _, r, h => by cases h; cases r; exact .nil
  | d :: l, _, ks, r, h => by
    unfold allSome at h
    split at h
    · rename_i b r' e1 e2
      cases h
      cases r with
      | cons r1 r2 =>
        refine .cons ?_ (tkeysD_rp r2 e2)
        cases d with
        | tup m =>
          cases r1 with
          | tup h1 h2 => exact ⟨_, rfl, by rw [← keysD_rp h2 e1]; exact h1⟩
        | _ => cases e1
    · cases h
end
section
variable {X : Cx} {cl : Nat → Addr} {W : WX} {n : En} {a b e o i : PySem.Expr} {es : List PySem.Expr} {f fa fb fo fi : EF} {ga : LF} {pos p1 p2 p3 p4 p5 pos' apos cpos : Pos} {x m : Str} {k c np : Nat} {p : FF}
theorem de_unlike {j : Nat} {scope : Scope} (hc : X.calm = true) (hu : X.A.units + 1 < cLine) (hg : Gl X "len") (hm : X.mg "len" = none) (h : DE X cl W e f)
    (hx : scope.names.lookup x = some .local := by rfl) (hdb : (x == ("__debug__" : Str)) = false := by decide) (hk : scope.kind = .function := by rfl) (hcell : ∀ y ∈ scope.names, y.2 ≠ .cell := by decide) (hfree : ∀ y ∈ scope.names, y.2 ≠ .free := by decide)
    (hn : ∀ y ∈ scope.names, y.2 = .local → scope.names.lookup y.1 = some .local := by decide) (hs : ∀ x, foldedSetIterable e X.env x = pure x := by intro _; rfl)
    (he : starEach [.DictComp (.Name x p2) (.Constant (.bool true) j p3) [⟨.Name x p4, e, [], 0⟩] scope p5] X.env = (false, eval (.DictComp (.Name x p2) (.Constant (.bool true) j p3) [⟨.Name x p4, e, [], 0⟩] scope p5) X.env) :: starEach [] X.env := by rfl) (hpl : (backTo pos (starEach [] X.env)).any (·.1) = false := by rfl) :
    DE X cl W (.Call (.Name "len" p1) [.DictComp (.Name x p2) (.Constant (.bool true) j p3) [⟨.Name x p4, e, [], 0⟩] scope p5] [] pos) (dOp1 unlikeD f) :=
  PE.imp (pe_callB (CallR.or call_lenD call_len_dT) hg hm boot_len (pa_cons (pe_dcRow hc hu h hx hdb hk hcell hfree hn hs) pa_nil he) (by decide) (by decide) he hpl) fun σ H Q q => by
    obtain ⟨F, al, sl, mu, w, po⟩ := q
    refine seqG back_RD w po rfl fun v d F1 al1 mu1 H1 x1 w1 r1 po1 => ?_
    dsimp only at po1
    cases z : unlikeD d with
    | none => rw [z] at po1; exact False.elim po1
    | some res =>
      rw [z] at po1
      cases d with
      | lst l =>
        obtain ⟨m, hm, rfl⟩ := Option.map_eq_some_iff.mp z
        cases r1 with
        | lst h1 h2 =>
          refine ⟨_, _, rfl, w1.sub _ _ h1, ?_⟩
          unfold unlike at hm
          split at hm
          · rename_i ks hks
            cases hm
            exact .inl ⟨ks, keysD_rp h2 hks, fun D hD => .inl ⟨D, _, rfl, upd_same, po1 _ F1 al1 _ (Ext.laidH w1.toMus hD) (.int _)⟩⟩
          · split at hm
            · rename_i ks hks
              cases hm
              exact .inr ⟨ks, Paired.mapP (tkeysD_rp h2 hks) fun x k ⟨b, e1, e2⟩ => ⟨b, e1, w1.sub _ _ e2⟩, fun D hD => .inr ⟨D, _, rfl, upd_same, po1 _ F1 al1 _ (Ext.laidH w1.toMus hD) (.int _)⟩⟩
            · cases hm
      | _ => cases z
theorem toPL_strs : ∀ ws : List Str, toPL (ws.map D.str) = some (ws.map PyData.str)
  | [] => rfl
  | w :: ws => by
    show toPL (D.str w :: ws.map D.str) = _
    unfold toPL
    rw [toPL_strs ws]
    rfl
theorem dpAll_strs {K : PySem.W.Frag} {H : Hp} : ∀ ws : List Str, DpAll K H (ws.map V.str) (ws.map PyData.str)
  | [] => .nil
  | w :: ws => .cons (.str w) (dpAll_strs ws)
theorem de_ninK {ca : Addr} {ws : List Str} (hu : X.A.units + 65 < cLine) (ha : DE X cl W a fa) (hb : PE X b (tC (.ref ca))) (hq : ∀ H, SqT X.K H ca (ws.map V.str)) (hm : behindInMarks .NotIn b = false := by rfl) : DE X cl W (.Compare a [.NotIn] [b] pos) (dB2v (dIn true fa (dC (.tup (ws.map D.str))))) :=
  PE.imp (pe_cmpR (op_ninP hu) ha hb hm) fun σ H Q q => by
    obtain ⟨F, al, sl, mu, w, po⟩ := tV2B q
    refine seqG back_RB w po rfl fun v d F1 al1 mu1 H1 x1 w1 r1 po1 => ?_
    unfold dC dBind obind at po1
    dsimp only at po1
    cases z : inD d (.tup (ws.map D.str)) with
    | none => rw [z] at po1; exact False.elim po1
    | some r =>
      rw [z] at po1
      unfold inD at z
      dsimp only at z
      rw [toPL_strs] at z
      split at z
      · rename_i p ps e1 e2
        cases e2
        split at z
        · rename_i hd
          cases z
          exact ⟨p, Rp.dp w1.sub r1 e1, toP_plain e1, ws.map PyData.str, .inr (.tup (hq H1) (dpAll_strs ws)), toPL_plain (toPL_strs ws), hd, Po.here (R := RB) (Q := fun c H' => Q (.bl c) H') po1 w1.toMus rfl⟩
        · cases z
      · cases z

/-! ### what is walked -/
def dItQ (f : EF) : LF := dBind f fun d _ mu => match d with
  | .lst l => .ok l mu
  | .tup l => .ok l mu
  | _ => .bad
theorem di_seq {tg : PySem.Expr} (h : DE X cl W e f) : DI X cl W tg e (dItQ f) := ⟨fun pins s σ H R I q => by
  obtain ⟨F, al, sl, mu, w, po⟩ := q
  cases z : f sl mu with
  | ok d mu1 =>
    cases d with
    | lst l => exact (di_list (tg := tg) h).run pins s σ H R I ⟨F, al, sl, mu, w, by unfold dItQ dItL dBind obind at *; rw [z] at po ⊢; exact po⟩
    | tup l => exact (di_tup (tg := tg) h).run pins s σ H R I ⟨F, al, sl, mu, w, by unfold dItQ dItT dBind obind at *; rw [z] at po ⊢; exact po⟩
    | _ => unfold dItQ dBind obind at po; rw [z] at po; exact False.elim po
  | ex c fs mu1 => exact (di_list (tg := tg) h).run pins s σ H R I ⟨F, al, sl, mu, w, by unfold dItQ dItL dBind obind at *; rw [z] at po ⊢; exact po⟩
  | bad => unfold dItQ dBind obind at po; rw [z] at po; exact False.elim po⟩
def numD (n : Nat) : List D → List D
  | [] => []
  | d :: l => .tup [.int (n : Nat), d] :: numD (n + 1) l
theorem numD_get : ∀ {l : List D} {n i : Nat}, (numD n l)[i]? = l[i]?.map fun d => .tup [.int ((n + i : Nat) : Int), d]
  | [], _, _ => by simp [numD]
  | d :: l, n, 0 => by simp [numD]
  | d :: l, n, i + 1 => by
    unfold numD
    rw [List.getElem?_cons_succ, List.getElem?_cons_succ, numD_get]
    congr 1
    funext d
    rw [show n + 1 + i = n + (i + 1) from by omega]
theorem numD_len : ∀ {l : List D} {n : Nat}, (numD n l).length = l.length
  | [], _ => rfl
  | d :: l, n => by
    unfold numD
    rw [List.length_cons, List.length_cons, numD_len]
def dEnum (f : EF) : LF := dBind f fun d _ mu => match d with
  | .lst l => .ok (numD 0 l) mu
  | _ => .bad
theorem di_enum {elts : List PySem.Expr} {kk : Nat} {tpos : Pos} (hg : Gl X "enumerate") (hm : X.mg "enumerate" = none) (h : DE X cl W e f) (hs : starEach [e] X.env = [(false, eval e X.env)] := by rfl) : DI X cl W (.Tuple elts kk tpos) (.Call (.Name "enumerate" p1) [e] [] pos) (dEnum f) :=
  PI.imp (pi_enum hg hm (pa_cons h pa_nil hs) hs) fun σ H R q => by
    obtain ⟨F, al, sl, mu, w, po⟩ := q
    refine seqG back_RI w po rfl fun v d F1 al1 mu1 H1 x1 w1 r1 po1 => ?_
    cases r1 with
    | @lst a xs ds ha hl =>
      refine ⟨a, xs, rfl, SqL.of (w1.sub _ _ ha), Po.here po1 w1.toMus ⟨_, _, by rw [numD_len, ← RpL.len hl]; exact walk_enum (xs := xs), fun F' H' s1 s2 => SqL.of (s2 _ _ (s1 _ _ ha)), fun F' al' mu' H' i x H2 g m hi y => ?_⟩⟩
      obtain ⟨T, u, y', rfl, hT, rfl, e1, e2⟩ := y
      cases e1
      obtain ⟨d, h1, h2⟩ := gr_at g hl e2
      refine ⟨.tup [.int ((0 + i : Nat) : Int), d], _, by rw [numD_get, h1]; rfl, Ext.laidF m hT, .tup upd_same (.cons ?_ (.cons ((Ext.laidF m hT).rp h2) .nil))⟩
      rw [Nat.zero_add]
      exact .int _
    | _ => exact False.elim po1
end
end DL
end

section
set_option Elab.async false
set_option linter.all false
set_option maxRecDepth 100000
set_option maxHeartbeats 4000000
namespace DL
open PySem L2
/-! DY: small helps for written walks. -/
section
variable {A : Around} {k : Nat}
theorem u0 (r : Room k A) : A.units < cLine := by have := r.un; omega
theorem u1 (r : Room k A) : A.units + 1 < cLine := by have := r.un; omega
theorem u64 (r : Room k A) : A.units + 64 < cLine := by have := r.un; omega
theorem u65 (r : Room k A) : A.units + 65 < cLine := by have := r.un; omega
end
section
variable {X : Cx} {cl : Nat → Addr} {W : WX} {n : En} {a b e o i : PySem.Expr} {st : PySem.Stmt} {es : List PySem.Expr} {f fa fb fo fi : EF} {ga : LF} {pos p1 p2 p3 p4 p5 pos' apos cpos : Pos} {x y : Str} {k c np : Nat} {p : FF}
/-- a new object into a slot, frozen at once -/
theorem ds_ownF {i : Nat} {f : NF} (h : DS X cl W n st (sOwn i f)) : DS X cl W n st (sAsg i (dFrz f)) := PS.imp h fun Z σ H q => by
  obtain ⟨F, al, sl, mu, w, po⟩ := q
  refine ⟨F, al, sl, mu, w, ?_⟩
  unfold sOwn
  unfold sAsg dFrz dBind obind at po
  unfold sbind at po ⊢
  cases z : f sl mu with
  | ok m mu1 =>
    rw [z] at po
    have key : ∀ (hm : ∀ kvs, m ≠ .dct kvs), PoS (Cx.th X cl) W n F al mu Z (.nx (sl.set i (some (.val m.d))) mu1) → PoS (Cx.th X cl) W n F al mu Z (.nx (sl.set i (some (.own m))) mu1) := by
      intro hm po σ' F' al' H' g w'
      by_cases hi : i < sl.length
      · obtain ⟨F2, g2, w2⟩ := w'.freeze (i := i) (m := m) (List.getElem?_set_self hi) hm
        rw [List.set_set] at w2
        exact po σ' F2 al' H' (g.trans g2) w2
      · rw [List.set_eq_of_length_le (Nat.le_of_not_lt hi)] at w' po
        exact po σ' F' al' H' g w'
    cases m with
    | dct kvs => exact False.elim po
    | lst l => exact key (fun _ z => nomatch z) po
    | ins c fs => exact key (fun _ z => nomatch z) po
  | ex c fs mu1 => rw [z] at po; exact po
  | bad => rw [z] at po; exact po
/-- a, b = x, y -/
def sPar (i j : Nat) (fa fb : EF) : SF := fun sl mu => sbind (fa sl mu) sl fun d mu => sbind (fb sl mu) sl fun e mu => .nx ((sl.set i (some (.val d))).set j (some (.val e))) mu
theorem ds_par {i j : Nat} {px py pt : Pos} {kt k2 : Nat} {pt2 : Pos} (hc : X.calm = true) (hN : X.N.Nodup) (hi : X.N[i]? = some x) (hj : X.N[j]? = some y) (hij : i ≠ j) (hx : X.env.scope.names.lookup x = some .local) (hy : X.env.scope.names.lookup y = some .local) (ha : DE X cl W a fa) (hb : DE X cl W b fb)
    (hst : starEach [a, b] X.env = (false, eval a X.env) :: starEach [b] X.env := by rfl) (hst2 : starEach [b] X.env = (false, eval b X.env) :: starEach [] X.env := by rfl)
    (hw : swappedStores [.Tuple [.Name x px, .Name y py] kt pt] (.Tuple [a, b] k2 pt2) X.env = pure (some [x, y]) := by rfl) (hs : swapsWithSole [.Tuple [.Name x px, .Name y py] kt pt] (.Tuple [a, b] k2 pt2) pos.line X.env = pure false := by rfl) :
    DS X cl W n (.Assign [.Tuple [.Name x px, .Name y py] kt pt] (.Tuple [a, b] k2 pt2) pos) (sPar i j fa fb) :=
  PS.imp (ps_par hc hN hi hj hij hx hy (pa_cons ha (pa_cons hb pa_nil hst2) hst) hw hs) fun Z σ H q => by
    obtain ⟨F, al, sl, mu, w, po⟩ := q
    refine seqS w po rfl fun v d F1 al1 mu1 H1 x1 w1 r1 po1 => ?_
    refine seqS w1 po1 rfl fun u e F2 al2 mu2 H2 x2 w2 r2 po2 => ?_
    exact ⟨v, u, rfl, PoS.nx po2 ((w2.setVal (x2.rp r1)).setVal r2)⟩
theorem tChn_of {r r' : R2} {g h : D → D → Option Bool} {fc : EF} (hr : PurB (Cx.th X cl) r g) (hr' : PurB (Cx.th X cl) r' h) {σ : St} {H : Hp} {Q : VK} (q : tG (Cx.th X cl) W (RD (Cx.th X cl)) (dB2v (dChn g h fa fb fc)) σ H Q) : tChain r r' (tG (Cx.th X cl) W (RD (Cx.th X cl)) fa) (tG (Cx.th X cl) W (RD (Cx.th X cl)) fb) (tG (Cx.th X cl) W (RD (Cx.th X cl)) fc) σ H Q := by
    obtain ⟨F, al, sl, mu, w, po⟩ := tV2B q
    refine seqG back_RB w po rfl fun v d F1 al1 mu1 H1 x1 w1 r1 po1 => ?_
    refine seqG back_RB w1 po1 rfl fun u e F2 al2 mu2 H2 x2 w2 r2 po2 => ?_
    try dsimp only at po2
    cases z : g d e with
    | none => rw [z] at po2; exact False.elim po2
    | some k =>
      rw [z] at po2
      refine hr F2 al2 mu2 H2 w2.toMus v u d e k (x2.rp r1) r2 z _ ⟨k, rfl, ?_⟩
      cases k with
      | false =>
        rw [if_neg Bool.false_ne_true]
        exact Po.here (R := RB) (Q := fun c H' => Q (.bl c) H') po2 w2.toMus rfl
      | true =>
        rw [if_pos rfl]
        refine seqG back_RB w2 po2 rfl fun t e3 F3 al3 mu3 H3 x3 w3 r3 po3 => ?_
        try dsimp only at po3
        cases z2 : h e e3 with
        | none => rw [z2] at po3; exact False.elim po3
        | some k2 =>
          rw [z2] at po3
          exact hr' F3 al3 mu3 H3 w3.toMus u t e e3 k2 (x3.rp r2) r3 z2 _ (Po.here (R := RB) (Q := fun c H' => Q (.bl c) H') po3 w3.toMus rfl)
theorem dt_chain {op op' : CmpOp} {r r' : R2} {g h : D → D → Option Bool} {d : PySem.Expr} {fc : EF} (ho : OpR X (compareOp op) r) (ho' : OpR X (compareOp op') r') (hr : PurB (Cx.th X cl) r g) (hr' : PurB (Cx.th X cl) r' h) (ha : DE X cl W a fa) (hb : DE X cl W b fb) (hc : DE X cl W d fc)
    (hm : lastMarks [op, op'] [b, d] = false := by with_unfolding_all rfl) : DT X cl W (.Compare a [op, op'] [b, d] pos) (dChn g h fa fb fc) :=
  PT.imp (pt_chain ho ho' ha hb hc hm) fun σ H Q q => tChn_of hr hr' (tB2v q)

/-! ### comparisons as tests -/
theorem dt_cmpR {op : CmpOp} {r : R2} {g : D → D → Option Bool} (ho : OpR X (compareOp op) r) (hm : behindInMarks op b = false) (hr : PurB (Cx.th X cl) r g) (ha : DE X cl W a fa) (hb : DE X cl W b fb) : DT X cl W (.Compare a [op] [b] pos) (dCmp g fa fb) :=
  PT.imp (pt_cmpR ho ha hb hm) fun σ H Q q => tCmp_of hr (tB2v q)
theorem dt_eq (hu : X.A.units + 64 < cLine) (ha : DE X cl W a fa) (hb : DE X cl W b fb) : DT X cl W (.Compare a [.Eq] [b] pos) (dCmp eqD fa fb) := dt_cmpR (op_eqP hu) (nobehind _ (by decide) (by decide)) (pur_eq (T := Cx.th X cl)) ha hb
theorem dt_ne (hu : X.A.units + 64 < cLine) (ha : DE X cl W a fa) (hb : DE X cl W b fb) : DT X cl W (.Compare a [.NotEq] [b] pos) (dCmp neD fa fb) := dt_cmpR (op_neP hu) (nobehind _ (by decide) (by decide)) (pur_ne (T := Cx.th X cl)) ha hb
theorem dt_le (ha : DE X cl W a fa) (hb : DE X cl W b fb) : DT X cl W (.Compare a [.LtE] [b] pos) (dCmp leI fa fb) := dt_cmpR op_le (nobehind _ (by decide) (by decide)) pur_int ha hb
theorem dt_gt (ha : DE X cl W a fa) (hb : DE X cl W b fb) : DT X cl W (.Compare a [.Gt] [b] pos) (dCmp gtI fa fb) := dt_cmpR op_gt (nobehind _ (by decide) (by decide)) pur_int ha hb
theorem dt_ge (ha : DE X cl W a fa) (hb : DE X cl W b fb) : DT X cl W (.Compare a [.GtE] [b] pos) (dCmp geI fa fb) := dt_cmpR op_ge (nobehind _ (by decide) (by decide)) pur_int ha hb
theorem dt_lt (hu : X.A.units < cLine) (ha : DE X cl W a fa) (hb : DE X cl W b fb) : DT X cl W (.Compare a [.Lt] [b] pos) (dCmp ltD fa fb) := dt_cmpR (OpR.or op_lt (op_ltT hu)) (nobehind _ (by decide) (by decide)) (pur_lt (T := Cx.th X cl)) ha hb
theorem tIn_of {neg : Bool} {σ : St} {H : Hp} {Q : VK} (q : tG (Cx.th X cl) W (RD (Cx.th X cl)) (dB2v (dIn neg fa fb)) σ H Q) :
    tOp (fun x y H Q => rInP X.K neg x y H Q ∨ ∃ (c : Nat) (z : Str), x = .str ⟨#[c]⟩ ∧ y = .str z ∧ Q (.bl (if neg then !decide (c ∈ z.cps.toList) else decide (c ∈ z.cps.toList))) H) (tG (Cx.th X cl) W (RD (Cx.th X cl)) fa) (tG (Cx.th X cl) W (RK (Cx.th X cl)) fb) σ H Q := by
  obtain ⟨F, al, sl, mu, w, po⟩ := tV2B q
  refine seqG back_RB w po rfl fun v d F1 al1 mu1 H1 x1 w1 r1 po1 => ?_
  refine seqG back_RB w1 po1 rfl fun u e F2 al2 mu2 H2 x2 w2 r2 po2 => ?_
  dsimp only at po2
  cases z : inD d e with
  | none => rw [z] at po2; exact False.elim po2
  | some r =>
    rw [z] at po2
    exact in_reads (T := Cx.th X cl) (neg := neg) w2.toMus (x2.rp r1) r2 z (Po.here (R := RB) (Q := fun c H' => Q (.bl c) H') po2 w2.toMus rfl)
theorem dt_in (hu : X.A.units + 65 < cLine) (ha : DE X cl W a fa) (hb : DKk X cl W b fb) (hm : behindInMarks .In b = false) : DT X cl W (.Compare a [.In] [b] pos) (dIn false fa fb) :=
  PT.imp (pt_cmpR (OpR.or (op_inP hu) op_in_sign) ha hb hm) fun σ H Q q => tIn_of (neg := false) (tB2v q)
theorem dt_nin (hu : X.A.units + 65 < cLine) (ha : DE X cl W a fa) (hb : DKk X cl W b fb) (hm : behindInMarks .NotIn b = false) : DT X cl W (.Compare a [.NotIn] [b] pos) (dIn true fa fb) :=
  PT.imp (pt_cmpR (OpR.or (op_ninP hu) op_notIn_sign) ha hb hm) fun σ H Q q => tIn_of (neg := true) (tB2v q)
theorem tIsN_of {σ : St} {H : Hp} {Q : VK} (q : tG (Cx.th X cl) W (RD (Cx.th X cl)) (dB2v (dIsN f)) σ H Q) : tIsN (tG (Cx.th X cl) W (RD (Cx.th X cl)) f) σ H Q := by
  obtain ⟨F, al, sl, mu, w, po⟩ := tV2B q
  refine seqG back_RB w po rfl fun v d F1 al1 mu1 H1 x1 w1 r1 po1 => ?_
  rw [Rp.isNon r1]
  exact Po.here (R := RB) (Q := fun c H' => Q (.bl c) H') po1 w1.toMus rfl
theorem tNotN_of {σ : St} {H : Hp} {Q : VK} (q : tG (Cx.th X cl) W (RD (Cx.th X cl)) (dB2v (dNotN f)) σ H Q) : tNotN (tG (Cx.th X cl) W (RD (Cx.th X cl)) f) σ H Q := by
  obtain ⟨F, al, sl, mu, w, po⟩ := tV2B q
  refine seqG back_RB w po rfl fun v d F1 al1 mu1 H1 x1 w1 r1 po1 => ?_
  rw [Rp.isNon r1]
  exact Po.here (R := RB) (Q := fun c H' => Q (.bl c) H') po1 w1.toMus rfl
theorem dt_isN {j : Nat} (h : DE X cl W a f) : DT X cl W (.Compare a [.Is] [.Constant .none j p2] pos) (dIsN f) := PT.imp (pt_cmp (pc_isN h) rfl) fun σ H Q q => tIsN_of (tB2v q)
theorem dt_notN {j : Nat} (h : DE X cl W a f) : DT X cl W (.Compare a [.IsNot] [.Constant .none j p2] pos) (dNotN f) := PT.imp (pt_cmp (pc_notN h) rfl) fun σ H Q q => tNotN_of (tB2v q)
theorem dt_eqO (g : Gm X.prog X.w X.K X.mg X.base cl k c "__eq__" 2 p) (hr : Room k X.A) (hC : ∀ c, cl c ≠ 0 → ClsT X.K (cl c)) (hE : ClsE X.K cl c) (ha : DE X cl W a fa) (hb : DE X cl W b fb) : DT X cl W (.Compare a [.Eq] [b] pos) (dEqO false c p fa fb) := by
  obtain ⟨f, fd, ps, hf, hm, hc, hbd⟩ := g.ex
  exact PT.imp (pt_cmpR (op_own_eq hf hm hbd hr) ha hb (nobehind _ (by decide) (by decide))) fun σ H Q q => tOwn hC hE (tB2v q)
theorem dt_neO (g : Gm X.prog X.w X.K X.mg X.base cl k c "__eq__" 2 p) (hr : Room (k + 1) X.A) (hC : ∀ c, cl c ≠ 0 → ClsT X.K (cl c)) (hE : ClsE X.K cl c) (hN : ClsN X.K (cl c)) (ha : DE X cl W a fa) (hb : DE X cl W b fb) : DT X cl W (.Compare a [.NotEq] [b] pos) (dEqO true c p fa fb) := by
  obtain ⟨f, fd, ps, hf, hm, hc, hbd⟩ := g.ex
  exact PT.imp (pt_cmpR (op_own_ne hf hm hN hbd hr) ha hb (nobehind _ (by decide) (by decide))) fun σ H Q q => tOwn hC hE (tB2v q)

/-! ### a global's value; nothing is raised; a list repeated, new -/
theorem pe_gv {v : V} (hg : Gl X x) (h : ∃ u, X.mg x = some u ∧ RelV v u) (hd : (x == ("__debug__" : Str)) = false := by decide) : PE X (.Name x pos) (tC v) := by
  obtain ⟨u, h1, h2⟩ := h
  exact pe_glob hg h1 h2 hd
theorem tk0 {X : Cx} : Takes X WF := fun _ _ ⟨_, _, _, _, _, _, _, _, _, _, _, _, _, _, _, _, w⟩ => w.elim
def repD : D → D → Option MO
  | .lst l, .int j => if rgOk j = true ∧ l.length * j.toNat ≤ 16000000 then some (.lst (List.replicate j.toNat l).flatten) else none
  | _, _ => none
def dNw2 (g : D → D → Option MO) (fa fb : EF) : NF := dBind fa fun x => dBind fb fun y _ mu => match g x y with
  | some r => .ok r mu
  | none => .bad
theorem dn_rep (ha : DE X cl W a fa) (hb : DE X cl W b fb) : DN X cl W (.BinOp a .Mult b pos) (dNw2 repD fa fb) := PE.imp (pe_op op_rep ha hb) fun σ H Q q => by
  obtain ⟨F, al, sl, mu, w, po⟩ := q
  refine seqG back_RN w po rfl fun v d F1 al1 mu1 H1 x1 w1 r1 po1 => ?_
  refine seqG back_RN w1 po1 rfl fun u e F2 al2 mu2 H2 x2 w2 r2 po2 => ?_
  dsimp only at po2
  cases z : repD d e with
  | none => rw [z] at po2; exact False.elim po2
  | some res =>
    rw [z] at po2
    cases d with
    | lst l =>
      cases e with
      | int j =>
        have z' : (if rgOk j = true ∧ l.length * j.toNat ≤ 16000000 then some (MO.lst (List.replicate j.toNat l).flatten) else none) = some res := z
        split at z'
        · rename_i h
          cases z'
          cases r2
          cases x2.rp r1 with
          | @lst p xs ds h1 h2 =>
            have hl := RpL.len h2
            have hj := rgOk_of h.1
            refine ⟨p, j, xs, rfl, rfl, w2.sub _ _ h1, by omega, by omega, by rw [hl, sizeLine_eq]; omega, fun q hq => ?_⟩
            exact po2 _ F2 al2 _ (Ext.laidH w2.toMus hq) (rn_new (o := .lst _) (m := .lst _) w2.toMus hq (rpL_rep h2 _))
        · cases z'
      | _ => cases z
    | _ => cases z
end
end DL
end

section
set_option Elab.async false
set_option linter.all false
set_option maxRecDepth 100000
set_option maxHeartbeats 4000000
namespace DL
open PySem PySem.Spec PyProof.Rows
open L2 hiding St
def top (i : Nat) : Stmt := PySem.Challenge.pw_watchwebs_k02_whole_texts_of_webs.main.body.getD i (.Pass ⟨0, 0, 0, 0⟩)
def inC (s : Stmt) (j : Nat) : Stmt := match s with
  | .ClassDef _ _ _ b .. => b.getD j (.Pass ⟨0, 0, 0, 0⟩)
  | s => s
theorem gf_bad {P : Program} {w : World} {K : PySem.W.Frag} {mg : Str → Option Value} {base : Heap} {cl : Nat → Addr} {x : Str} {params : Arguments} {body : List Stmt} {scope : Scope} {f : Addr} {fd : FuncData} {ps : List Str} {k : Nat} (F : FunD K x x params body scope [] [] f fd) (hm : mg x = some (.ref f)) (hbd : L2.Binds K fd ps []) :
    Gf P w K mg base cl k x ps.length (fun _ _ => .bad) := ⟨f, fd, ps, ⟨fun vs H Q E ⟨_, _, _, _, _, _, _, po⟩ => False.elim po, fun _ _ _ _ _ _ _ _ _ _ _ _ _ ⟨_, _, _, _, _, _, _, po⟩ => False.elim po⟩, hm, F.kp, hbd⟩
structure Fc (K : PySem.W.Frag) (mg : Str → Option Value) (cl : Nat → Addr) (wa : Addr) : Prop where
  hC : ∀ c, cl c ≠ 0 → ClsT K (cl c)
  n_abs : mg "abs" = none
  n_all : mg "all" = none
  n_bool : mg "bool" = none
  n_enumerate : mg "enumerate" = none
  n_int : mg "int" = none
  n_isinstance : mg "isinstance" = none
  n_len : mg "len" = none
  n_list : mg "list" = none
  n_range : mg "range" = none
  n_sorted : mg "sorted" = none
  n_str : mg "str" = none
  n_tuple : mg "tuple" = none
  at_away : ∀ c, cl c ≠ 0 → NoAttr K (cl c) "away"
  at_ended : ∀ c, cl c ≠ 0 → NoAttr K (cl c) "ended"
  at_read_roads : ∀ c, cl c ≠ 0 → NoAttr K (cl c) "read_roads"
  at_read_spots : ∀ c, cl c ≠ 0 → NoAttr K (cl c) "read_spots"
  at_roads : ∀ c, cl c ≠ 0 → NoAttr K (cl c) "roads"
  at_spots : ∀ c, cl c ≠ 0 → NoAttr K (cl c) "spots"
  g_LONGEST : ∃ u, mg "LONGEST" = some u ∧ RelV (.int 8) u
  g_MOST_SPOTS : ∃ u, mg "MOST_SPOTS" = some u ∧ RelV (.int 9) u
  g_SIGNS : ∃ u, mg "SIGNS" = some u ∧ RelV (.str "abcdefghijklmnopqrstuvwxyz") u
  hE0 : ClsE K cl 0
  hI0 : ClsI K cl 0
  hN0 : ClsN K (cl 0)
  c_Web : ∃ u, mg "Web" = some u ∧ RelV (.ref (cl 0)) u
  m_WORDS : mg "WORDS" = some (.ref wa)
  q_WORDS : ∀ H, SqT K H wa ((["spot", "road", "over"] : List Str).map V.str)
section
variable {P : Program} {w : World} {K : PySem.W.Frag} {mg : Str → Option Value} {base : Heap} {cl : Nat → Addr} {wa : Addr}

abbrev s_is_number : Stmt := (top 5)
theorem sc_is_number : FnScope (["value"] : List Str) (["value"] : List Str) (defScope s_is_number) := ⟨rfl, rfl, rfl, by decide +kernel, rfl, by decide +kernel, by decide +kernel⟩
def g_is_number : SF :=
  (sRet (dB2v (dAnd (dIsi .int (dLook (dVar 0))) (dNot (dIsi .bool (dLook (dVar 0)))))))
def f_is_number : FF := (dFun 1 g_is_number)
theorem ok_is_number {f : Addr} {fd : FuncData} (fc : Fc K mg cl wa) (F : FunD K "is_number" "is_number" (defArgs s_is_number) (defBody s_is_number) (defScope s_is_number) [] [] f fd) (hm : mg "is_number" = some (.ref f)) : Gf P w K mg base cl 1 "is_number" 1 f_is_number :=
  have S := sc_is_number
  (gf_of (k := 0) (N := ["value"]) (ps := ["value"]) (g := g_is_number) F S hm (F.bindsN fun _ _ _ _ _ _ us hl => match us, hl with | [_], _ => rfl) fun cdv A outer s H E n hr =>
    (dss_one (ds_ret (de_and (de_isi (y := .int) fc.hC (by rfl) fc.n_isinstance (dk_look (de_var (pv 0))) (pe_bltn (by rfl) fc.n_int (by decide +kernel) rfl)) (de_one (de_not (de_isi (y := .bool) fc.hC (by rfl) fc.n_isinstance (dk_look (de_var (pv 0))) (pe_bltn (by rfl) fc.n_bool (by decide +kernel) rfl))))))))

abbrev s_is_within : Stmt := (top 6)
theorem sc_is_within : FnScope (["value", "least", "most"] : List Str) (["value", "least", "most"] : List Str) (defScope s_is_within) := ⟨rfl, rfl, rfl, by decide +kernel, rfl, by decide +kernel, by decide +kernel⟩
def g_is_within : SF :=
  (sRet (dB2v (dAnd (dTst (dCall f_is_number (dCons (dVar 0) dNil))) (dChn leI leI (dVar 1) (dVar 0) (dVar 2)))))
def f_is_within : FF := (dFun 3 g_is_within)
theorem ok_is_within {f : Addr} {fd : FuncData} (fc : Fc K mg cl wa) (F : FunD K "is_within" "is_within" (defArgs s_is_within) (defBody s_is_within) (defScope s_is_within) [] [] f fd) (hm : mg "is_within" = some (.ref f)) (h_is_number : Gf P w K mg base cl 1 "is_number" 1 f_is_number) : Gf P w K mg base cl 2 "is_within" 3 f_is_within :=
  have S := sc_is_within
  (gf_of (k := 1) (N := ["value", "least", "most"]) (ps := ["value", "least", "most"]) (g := g_is_within) F S hm (F.bindsN fun _ _ _ _ _ _ us hl => match us, hl with | [_, _, _], _ => rfl) fun cdv A outer s H E n hr =>
    (dss_one (ds_ret (de_and (de_tst (de_call (h_is_number.mono (by decide)) hr (by rfl) (takes_of rfl rfl rfl rfl) (da_cons (de_var (pv 0)) da_nil) (len_cons len_nil))) (de_one (de_chain op_le op_le pur_int pur_int (de_var (pv 1)) (de_var (pv 0)) (de_var (pv 2)) fun ha hb hc => pe_chain op_le op_le ha hb hc))))))

abbrev s_is_listed : Stmt := (top 7)
theorem sc_is_listed : FnScope (["value"] : List Str) (["value"] : List Str) (defScope s_is_listed) := ⟨rfl, rfl, rfl, by decide +kernel, rfl, by decide +kernel, by decide +kernel⟩
def g_is_listed : SF :=
  (sRet (dB2v (dIsi2 .list .tuple (dLook (dVar 0)))))
def f_is_listed : FF := (dFun 1 g_is_listed)
theorem ok_is_listed {f : Addr} {fd : FuncData} (fc : Fc K mg cl wa) (F : FunD K "is_listed" "is_listed" (defArgs s_is_listed) (defBody s_is_listed) (defScope s_is_listed) [] [] f fd) (hm : mg "is_listed" = some (.ref f)) : Gf P w K mg base cl 1 "is_listed" 1 f_is_listed :=
  have S := sc_is_listed
  (gf_of (k := 0) (N := ["value"]) (ps := ["value"]) (g := g_is_listed) F S hm (F.bindsN fun _ _ _ _ _ _ us hl => match us, hl with | [_], _ => rfl) fun cdv A outer s H E n hr =>
    (dss_one (ds_ret (de_isi2 (y := .list) (z := .tuple) fc.hC (by rfl) fc.n_isinstance (dk_look (de_var (pv 0))) (pe_bltn (by rfl) fc.n_list (by decide +kernel) rfl) (pe_bltn (by rfl) fc.n_tuple (by decide +kernel) rfl)))))

abbrev s_have_no_twice : Stmt := (top 8)
theorem sc_have_no_twice : FnScope (["rows", "row"] : List Str) (["rows"] : List Str) (defScope s_have_no_twice) := ⟨rfl, rfl, rfl, by decide +kernel, rfl, by decide +kernel, by decide +kernel⟩
def g_have_no_twice : SF :=
  (sRet (dB2v (dCmp eqD (dOp1 unlikeD (dVar 0)) (dOp1 lenD (dLook (dVar 0))))))
def f_have_no_twice : FF := (dFun 2 g_have_no_twice)
theorem ok_have_no_twice {f : Addr} {fd : FuncData} (fc : Fc K mg cl wa) (F : FunD K "have_no_twice" "have_no_twice" (defArgs s_have_no_twice) (defBody s_have_no_twice) (defScope s_have_no_twice) [] [] f fd) (hm : mg "have_no_twice" = some (.ref f)) : Gf P w K mg base cl 1 "have_no_twice" 1 f_have_no_twice :=
  have S := sc_have_no_twice
  (gf_of (k := 0) (N := ["rows", "row"]) (ps := ["rows"]) (g := g_have_no_twice) F S hm (F.bindsN fun _ _ _ _ _ _ us hl => match us, hl with | [_], _ => rfl) fun cdv A outer s H E n hr =>
    (dss_one (ds_ret (de_eq (u64 hr) (de_unlike (by rfl) (u1 hr) (by rfl) fc.n_len (de_var (pv 0))) (de_len (by rfl) fc.n_len (dk_look (de_var (pv 0))))))))

abbrev s_is_name : Stmt := (top 14)
theorem sc_is_name : FnScope (["value"] : List Str) (["value"] : List Str) (defScope s_is_name) := ⟨rfl, rfl, rfl, by decide +kernel, rfl, by decide +kernel, by decide +kernel⟩
def g_is_name : SF :=
  (sSeq (sIf (dOr (dNot (dIsi .str (dLook (dVar 0)))) (dOr (dNot (dChn leI leI (dC (.int 1)) (dOp1 lenD (dLook (dVar 0))) (dC (.int 8)))) (dCmp neD (dM1 "str" stripD (dVar 0) (dC (.str "abcdefghijklmnopqrstuvwxyz"))) (dC (.str ""))))) (sRet (dC (.bl false))) sSkip)
  (sRet (dB2v (dIn true (dVar 0) (dC (.tup ((["spot", "road", "over"] : List Str).map D.str)))))))
def f_is_name : FF := (dFun 1 g_is_name)
theorem ok_is_name {f : Addr} {fd : FuncData} (fc : Fc K mg cl wa) (F : FunD K "is_name" "is_name" (defArgs s_is_name) (defBody s_is_name) (defScope s_is_name) [] [] f fd) (hm : mg "is_name" = some (.ref f)) : Gf P w K mg base cl 1 "is_name" 1 f_is_name :=
  have S := sc_is_name
  (gf_of (k := 0) (N := ["value"]) (ps := ["value"]) (g := g_is_name) F S hm (F.bindsN fun _ _ _ _ _ _ us hl => match us, hl with | [_], _ => rfl) fun cdv A outer s H E n hr =>
    (dss_cons (ds_if (dt_w (dw_or (dt_not (dt_cmp (de_isi (y := .str) fc.hC (by rfl) fc.n_isinstance (dk_look (de_var (pv 0))) (pe_bltn (by rfl) fc.n_str (by decide +kernel) rfl)))) (dw_or (dt_not (dt_chain op_le op_le pur_int pur_int de_int (de_len (by rfl) fc.n_len (dk_look (de_var (pv 0)))) (de_c (pe_gv (by rfl) fc.g_LONGEST) fun _ _ _ => .int 8))) (dw_or1 (dt_ne (u64 hr) (de_strip (de_var (pv 0)) (de_c (pe_gv (by rfl) fc.g_SIGNS) fun _ _ _ => .str "abcdefghijklmnopqrstuvwxyz")) de_str))))) (dss_one (ds_ret de_bl)) dss_nil)
    (dss_one (ds_ret (de_ninK (u65 hr) (de_var (pv 0)) (pe_glob (by rfl) fc.m_WORDS rfl) fc.q_WORDS)))))

abbrev s_are_spots : Stmt := (top 15)
theorem sc_are_spots : FnScope (["value", "name"] : List Str) (["value"] : List Str) (defScope s_are_spots) := ⟨rfl, rfl, rfl, by decide +kernel, rfl, by decide +kernel, by decide +kernel⟩
def q_are_spots_1 : NF :=
  (dLc (dItQ (dVar 0)) (.nm 1) [1] dYes (dCall f_is_name (dCons (dVar 1) dNil)))
def g_are_spots : SF :=
  (sSeq (sIf (dOr (dNot (dTst (dCall f_is_listed (dCons (dVar 0) dNil)))) (dNot (dChn leI leI (dC (.int 1)) (dOp1 lenD (dLook (dVar 0))) (dC (.int 9))))) (sRet (dC (.bl false))) sSkip)
  (sRet (dB2v (dAnd (dTst (dOp1 allD (dLook (dFrz q_are_spots_1)))) (dTst (dCall f_have_no_twice (dCons (dVar 0) dNil)))))))
def f_are_spots : FF := (dFun 2 g_are_spots)
theorem ok_are_spots {f : Addr} {fd : FuncData} (fc : Fc K mg cl wa) (F : FunD K "are_spots" "are_spots" (defArgs s_are_spots) (defBody s_are_spots) (defScope s_are_spots) [] [] f fd) (hm : mg "are_spots" = some (.ref f)) (h_is_listed : Gf P w K mg base cl 1 "is_listed" 1 f_is_listed) (h_is_name : Gf P w K mg base cl 1 "is_name" 1 f_is_name) (h_have_no_twice : Gf P w K mg base cl 1 "have_no_twice" 1 f_have_no_twice) : Gf P w K mg base cl 2 "are_spots" 1 f_are_spots :=
  have S := sc_are_spots
  (gf_of (k := 1) (N := ["value", "name"]) (ps := ["value"]) (g := g_are_spots) F S hm (F.bindsN fun _ _ _ _ _ _ us hl => match us, hl with | [_], _ => rfl) fun cdv A outer s H E n hr =>
    (dss_cons (ds_if (dt_w (dw_or (dt_not (dt_val (de_call (h_is_listed.mono (by decide)) hr (by rfl) (takes_of rfl rfl rfl rfl) (da_cons (de_var (pv 0)) da_nil) (len_cons len_nil)))) (dw_or1 (dt_not (dt_chain op_le op_le pur_int pur_int de_int (de_len (by rfl) fc.n_len (dk_look (de_var (pv 0)))) (de_c (pe_gv (by rfl) fc.g_MOST_SPOTS) fun _ _ _ => .int 9)))))) (dss_one (ds_ret de_bl)) dss_nil)
    (dss_one (ds_ret (de_and (de_tst (de_all (by rfl) (by rfl) fc.n_all (dk_look (de_frz (dn_lc (by rfl) S.nd (di_seq (de_var (pv 0))) (blkOk_by (own := [("name", 1)]) (by first | (show blkC ["value", "name"] (defScope s_are_spots) _ _ = true; decide +kernel) | rfl | with_unfolding_all rfl)) (fun _ _ _ _ _ => (dg_name (i := 1) S.nd rfl (by first | exact .inl rfl | exact .inr rfl))) (fun _ _ _ _ _ => dts_nil) (fun _ _ _ _ _ => (de_call (h_is_name.mono (by decide)) hr (by rfl) tk0 (da_cons (de_var (pv 1)) da_nil) (len_cons len_nil))) (by decide)))))) (de_one (de_tst (de_call (h_have_no_twice.mono (by decide)) hr (by rfl) (takes_of rfl rfl rfl rfl) (da_cons (de_var (pv 0)) da_nil) (len_cons len_nil)))))))))

abbrev s_is_pair_below : Stmt := (top 16)
theorem sc_is_pair_below : FnScope (["value", "many"] : List Str) (["value", "many"] : List Str) (defScope s_is_pair_below) := ⟨rfl, rfl, rfl, by decide +kernel, rfl, by decide +kernel, by decide +kernel⟩
def g_is_pair_below : SF :=
  (sSeq (sIf (dOr (dNot (dIsi .tuple (dLook (dVar 0)))) (dOr (dCmp neD (dOp1 lenD (dLook (dVar 0))) (dC (.int 2))) (dNot (dTst (dCall f_is_within (dCons (dIx (dVar 0) (dC (.int 1))) (dCons (dC (.int 1)) (dCons (dOp2 subD (dVar 1) (dC (.int 1))) dNil)))))))) (sRet (dC (.bl false))) sSkip)
  (sRet (dCall f_is_within (dCons (dIx (dVar 0) (dC (.int 0))) (dCons (dC (.int 0)) (dCons (dOp2 subD (dIx (dVar 0) (dC (.int 1))) (dC (.int 1))) dNil))))))
def f_is_pair_below : FF := (dFun 2 g_is_pair_below)
theorem ok_is_pair_below {f : Addr} {fd : FuncData} (fc : Fc K mg cl wa) (F : FunD K "is_pair_below" "is_pair_below" (defArgs s_is_pair_below) (defBody s_is_pair_below) (defScope s_is_pair_below) [] [] f fd) (hm : mg "is_pair_below" = some (.ref f)) (h_is_within : Gf P w K mg base cl 2 "is_within" 3 f_is_within) : Gf P w K mg base cl 3 "is_pair_below" 2 f_is_pair_below :=
  have S := sc_is_pair_below
  (gf_of (k := 2) (N := ["value", "many"]) (ps := ["value", "many"]) (g := g_is_pair_below) F S hm (F.bindsN fun _ _ _ _ _ _ us hl => match us, hl with | [_, _], _ => rfl) fun cdv A outer s H E n hr =>
    (dss_cons (ds_if (dt_w (dw_or (dt_not (dt_cmp (de_isi (y := .tuple) fc.hC (by rfl) fc.n_isinstance (dk_look (de_var (pv 0))) (pe_bltn (by rfl) fc.n_tuple (by decide +kernel) rfl)))) (dw_or (dt_ne (u64 hr) (de_len (by rfl) fc.n_len (dk_look (de_var (pv 0)))) de_int) (dw_or1 (dt_not (dt_val (de_call (h_is_within.mono (by decide)) hr (by rfl) (takes_of rfl rfl rfl rfl) (da_cons (de_ix (de_var (pv 0)) de_int fun _ _ => rfl) (da_cons de_int (da_cons (de_sub (de_var (pv 1)) de_int) da_nil))) (len_cons (len_cons (len_cons len_nil)))))))))) (dss_one (ds_ret de_bl)) dss_nil)
    (dss_one (ds_ret (de_call (h_is_within.mono (by decide)) hr (by rfl) (takes_of rfl rfl rfl rfl) (da_cons (de_ix (de_var (pv 0)) de_int fun _ _ => rfl) (da_cons de_int (da_cons (de_sub (de_ix (de_var (pv 0)) de_int fun _ _ => rfl) de_int) da_nil))) (len_cons (len_cons (len_cons len_nil))))))))

abbrev s_steps_away : Stmt := (top 17)
theorem sc_steps_away : FnScope (["many", "roads", "start", "found", "line", "at", "one", "other", "later"] : List Str) (["many", "roads", "start"] : List Str) (defScope s_steps_away) := ⟨rfl, rfl, rfl, by decide +kernel, rfl, by decide +kernel, by decide +kernel⟩
def b_steps_away_1 : SF :=
  (sIf (dIn false (dIx (dVar 4) (dVar 5)) (dLook (dTup (dCons (dVar 6) (dCons (dVar 7) dNil))))) (sSeq (sAsg 8 (dOp2 subD (dOp2 addD (dVar 6) (dVar 7)) (dIx (dVar 4) (dVar 5))))
  (sIf (dIsN (dIx (dVar 3) (dVar 8))) (sSeq (sSetI (dVar 3) (dVar 8) (dOp2 addD (dIx (dVar 3) (dIx (dVar 4) (dVar 5))) (dC (.int 1))))
  (sExpr (dMut appD (dVar 4) (dCons (dVar 8) dNil)))) sSkip)) sSkip)
def b_steps_away_2 : SF :=
  (sSeq (sFor (dItQ (dVar 1)) (.tp [6, 7]) b_steps_away_1)
  (sAug 5 (fun i j => i + j) (dC (.int 1))))
def c_steps_away_1 : BF :=
  (dCmp ltD (dVar 5) (dOp1 lenD (dLook (dVar 4))))
def g_steps_away : SF :=
  (sSeq (sAsg 3 (dReg (dNw2 repD (dFrz (dLst (dCons (dC .non) dNil))) (dVar 0))))
  (sSeq (sSetI (dVar 3) (dVar 2) (dC (.int 0)))
  (sSeq (sAsg 4 (dReg (dLst (dCons (dVar 2) dNil))))
  (sSeq (sAsg 5 (dC (.int 0)))
  (sSeq (sWhl c_steps_away_1 b_steps_away_2 60)
  (sRet (dFz (dVar 3))))))))
def f_steps_away : FF := fGc (dFun 9 g_steps_away)
theorem ok_steps_away {f : Addr} {fd : FuncData} (fc : Fc K mg cl wa) (F : FunD K "steps_away" "steps_away" (defArgs s_steps_away) (defBody s_steps_away) (defScope s_steps_away) [] [] f fd) (hm : mg "steps_away" = some (.ref f)) : Gf P w K mg base cl 1 "steps_away" 3 f_steps_away :=
  have S := sc_steps_away
  Gf.gc (gf_of (k := 0) (N := ["many", "roads", "start", "found", "line", "at", "one", "other", "later"]) (ps := ["many", "roads", "start"]) (g := g_steps_away) F S hm (F.bindsN fun _ _ _ _ _ _ us hl => match us, hl with | [_, _, _], _ => rfl) fun cdv A outer s H E n hr =>
    (dss_cons (ds_asg (i := 3) S.nd rfl (by first | exact .inl rfl | exact .inr rfl) (de_reg (dn_rep (de_frz (dn_lst (da_cons de_non da_nil) (len_cons len_nil))) (de_var (pv 0)))))
    (dss_cons (ds_setI de_int (de_var (pv 3)) (de_var (pv 2)))
    (dss_cons (ds_asg (i := 4) S.nd rfl (by first | exact .inl rfl | exact .inr rfl) (de_reg (dn_lst (da_cons (de_var (pv 2)) da_nil) (len_cons len_nil))))
    (dss_cons (ds_asg (i := 5) S.nd rfl (by first | exact .inl rfl | exact .inr rfl) de_int)
    (dss_cons (ds_while (m := 60) (passes_of rfl) (dt_lt (u0 hr) (de_var (pv 5)) (de_len (by rfl) fc.n_len (dk_look (de_var (pv 4))))) (dss_cons (ds_for (passes_of rfl) rfl (di_seq (de_var (pv 1))) (dg_tup rfl (dgs_cons (i := 6) S.nd rfl (by first | exact .inl rfl | exact .inr rfl) (dgs_cons (i := 7) S.nd rfl (by first | exact .inl rfl | exact .inr rfl) dgs_nil))) (dss_one (ds_if (dt_in (u65 hr) (de_ix (de_var (pv 4)) (de_var (pv 5)) fun _ _ => rfl) (dk_look (de_tup (da_cons (de_var (pv 6)) (da_cons (de_var (pv 7)) da_nil)) (len_cons (len_cons len_nil)))) rfl) (dss_cons (ds_asg (i := 8) S.nd rfl (by first | exact .inl rfl | exact .inr rfl) (de_sub (de_add (de_var (pv 6)) (de_var (pv 7))) (de_ix (de_var (pv 4)) (de_var (pv 5)) fun _ _ => rfl)))
    (dss_one (ds_if (dt_isN (de_ix (de_var (pv 3)) (de_var (pv 8)) fun _ _ => rfl)) (dss_cons (ds_setI (de_add (de_ix (de_var (pv 3)) (de_ix (de_var (pv 4)) (de_var (pv 5)) fun _ _ => rfl) fun _ _ => rfl) de_int) (de_var (pv 3)) (de_var (pv 8)))
    (dss_one (ds_expr (de_append (de_var (pv 4)) (da_cons (de_var (pv 8)) da_nil))))) dss_nil))) dss_nil)))
    (dss_one (ds_inc (i := 5) S.nd rfl (by first | exact .inl rfl | exact .inr rfl) de_int))))
    (dss_one (ds_ret (de_fz (de_var (pv 3)))))))))))

abbrev s_web_text : Stmt := (top 20)
theorem sc_web_text : FnScope (["web", "lines", "name", "line", "one", "other"] : List Str) (["web"] : List Str) (defScope s_web_text) := ⟨rfl, rfl, rfl, by decide +kernel, rfl, by decide +kernel, by decide +kernel⟩
def q_web_text_1 : NF :=
  (dLc (dItQ (dOp1 (attrD "spots") (dLook (dVar 0)))) (.nm 2) [2] dYes (dJs [(dC (.str "spot ")), (dOp1 fmtD (dVar 2))] Str.empty))
def q_web_text_2 : NF :=
  (dLc (dItQ (dOp1 (attrD "roads") (dLook (dVar 0)))) (.tp [4, 5]) [4, 5] dYes (dJs [(dC (.str "road ")), (dOp1 fmtD (dIx (dOp1 (attrD "spots") (dLook (dVar 0))) (dVar 4))), (dC (.str " ")), (dOp1 fmtD (dIx (dOp1 (attrD "spots") (dLook (dVar 0))) (dVar 5)))] Str.empty))
def q_web_text_3 : NF :=
  (dLc (dItQ (dVar 1)) (.nm 3) [3] dYes (dOp2 addD (dVar 3) (dC (.str "\n"))))
def g_web_text : SF :=
  (sSeq (sAsg 1 (dFrz q_web_text_1))
  (sSeq (sAsg 1 (dOp2 addD (dOp2 addD (dVar 1) (dFrz q_web_text_2)) (dFrz (dLst (dCons (dC (.str "over")) dNil)))))
  (sRet (dM1 "str" joinD (dC (.str "")) (dFrz q_web_text_3)))))
def f_web_text : FF := (dFun 6 g_web_text)
theorem ok_web_text {f : Addr} {fd : FuncData} (fc : Fc K mg cl wa) (F : FunD K "web_text" "web_text" (defArgs s_web_text) (defBody s_web_text) (defScope s_web_text) [] [] f fd) (hm : mg "web_text" = some (.ref f)) : Gf P w K mg base cl 1 "web_text" 1 f_web_text :=
  have S := sc_web_text
  (gf_of (k := 0) (N := ["web", "lines", "name", "line", "one", "other"]) (ps := ["web"]) (g := g_web_text) F S hm (F.bindsN fun _ _ _ _ _ _ us hl => match us, hl with | [_], _ => rfl) fun cdv A outer s H E n hr =>
    (dss_cons (ds_ownF (ds_lc (i := 1) (by rfl) S.nd rfl rfl rfl (di_seq (de_attr fc.hC (fc.at_spots) (dk_look (de_var (pv 0))) rfl)) (blkOk_by (own := [("name", 2)]) (by first | (show blkC ["web", "lines", "name", "line", "one", "other"] (defScope s_web_text) _ _ = true; decide +kernel) | rfl | with_unfolding_all rfl)) (fun _ _ _ _ _ => (dg_name (i := 2) S.nd rfl (by first | exact .inl rfl | exact .inr rfl))) (fun _ _ _ _ _ => dts_nil) (fun _ _ _ _ _ => (de_fstr (.cons de_str (.cons (de_fmt (de_var (pv 2))) .nil)))) (by decide)))
    (dss_cons (ds_asg (i := 1) S.nd rfl (by first | exact .inl rfl | exact .inr rfl) (de_add (de_add (de_var (pv 1)) (de_frz (dn_lc (by rfl) S.nd (di_seq (de_attr fc.hC (fc.at_roads) (dk_look (de_var (pv 0))) rfl)) (blkOk_by (own := [("one", 4), ("other", 5)]) (by first | (show blkC ["web", "lines", "name", "line", "one", "other"] (defScope s_web_text) _ _ = true; decide +kernel) | rfl | with_unfolding_all rfl)) (fun _ _ _ _ _ => (dg_tup rfl (dgs_cons (i := 4) S.nd rfl (by first | exact .inl rfl | exact .inr rfl) (dgs_cons (i := 5) S.nd rfl (by first | exact .inl rfl | exact .inr rfl) dgs_nil)))) (fun _ _ _ _ _ => dts_nil) (fun _ _ _ _ _ => (de_fstr (.cons de_str (.cons (de_fmt (de_ix (de_attr fc.hC (fc.at_spots) (dk_look (de_var (pv 0))) rfl) (de_var (pv 4)) fun _ _ => rfl)) (.cons de_str (.cons (de_fmt (de_ix (de_attr fc.hC (fc.at_spots) (dk_look (de_var (pv 0))) rfl) (de_var (pv 5)) fun _ _ => rfl)) .nil)))))) (by decide)))) (de_frz (dn_lst (da_cons de_str da_nil) (len_cons len_nil)))))
    (dss_one (ds_ret (de_join de_str (de_frz (dn_lc (by rfl) S.nd (di_seq (de_var (pv 1))) (blkOk_by (own := [("line", 3)]) (by first | (show blkC ["web", "lines", "name", "line", "one", "other"] (defScope s_web_text) _ _ = true; decide +kernel) | rfl | with_unfolding_all rfl)) (fun _ _ _ _ _ => (dg_name (i := 3) S.nd rfl (by first | exact .inl rfl | exact .inr rfl))) (fun _ _ _ _ _ => dts_nil) (fun _ _ _ _ _ => (de_add (de_var (pv 3)) de_str)) (by decide)))))))))

abbrev s_LineReader_init : Stmt := (inC (top 21) 0)
theorem sc_LineReader_init : FnScope (["self"] : List Str) (["self"] : List Str) (defScope s_LineReader_init) := ⟨rfl, rfl, rfl, by decide +kernel, rfl, by decide +kernel, by decide +kernel⟩
def g_LineReader_init : SF :=
  (sSeq (sSetA "read_spots" (dVar 0) (dReg (dLst dNil)))
  (sSeq (sSetA "read_roads" (dVar 0) (dReg (dLst dNil)))
  (sSetA "ended" (dVar 0) (dC (.bl false)))))
def f_LineReader_init : FF := (dFun 1 g_LineReader_init)
theorem ok_LineReader_init {f : Addr} {fd : FuncData} (fc : Fc K mg cl wa) (F : FunD K "__init__" "LineReader.__init__" (defArgs s_LineReader_init) (defBody s_LineReader_init) (defScope s_LineReader_init) [] [] f fd) (M : Mk K (cl 1) f) (h0 : cl 1 ≠ 0) (hm : mg "LineReader" = some (.ref (cl 1))) : Gi P w K mg base cl 1 "LineReader" 1 1 f_LineReader_init :=
  have S := sc_LineReader_init
  ⟨f, fd, ["self"], fn_body (k := 0) (N := ["self"]) (ps := ["self"]) (g := g_LineReader_init) F S fun cdv A outer s H E n hr =>
    (dss_cons (ds_setA fc.hC fc.at_read_spots (de_var (pv 0)) (de_reg (dn_lst da_nil len_nil)))
    (dss_cons (ds_setA fc.hC fc.at_read_roads (de_var (pv 0)) (de_reg (dn_lst da_nil len_nil)))
    (dss_one (ds_setA fc.hC fc.at_ended (de_var (pv 0)) de_bl)))), ⟨M, h0⟩, hm, F.bindsN fun _ _ _ _ _ _ us hl => match us, hl with | [_], _ => rfl⟩

abbrev s_LineReader_takes : Stmt := (inC (top 21) 1)
theorem sc_LineReader_takes : FnScope (["self", "words", "word"] : List Str) (["self", "words"] : List Str) (defScope s_LineReader_takes) := ⟨rfl, rfl, rfl, by decide +kernel, rfl, by decide +kernel, by decide +kernel⟩
def q_LineReader_takes_1 : NF :=
  (dLc (dItQ (dSl (dVar 1) (dP (dC (.int 1))) dNoP)) (.nm 2) [2] dYes (dB2v (dIn false (dVar 2) (dLook (dOp1 (attrD "read_spots") (dLook (dVar 0)))))))
def g_LineReader_takes : SF :=
  (sSeq (sIf (dTst (dOp1 (attrD "ended") (dLook (dVar 0)))) (sRet (dC (.bl false))) sSkip)
  (sSeq (sIf (dCmp eqD (dIx (dVar 1) (dC (.int 0))) (dC (.str "spot"))) (sSeq (sExpr (dMut extD (dOp1 (attrD "read_spots") (dLook (dVar 0))) (dCons (dSl (dVar 1) (dP (dC (.int 1))) dNoP) dNil)))
  (sRet (dB2v (dAnd (dCmp eqD (dOp1 lenD (dLook (dVar 1))) (dC (.int 2))) (dAnd (dTst (dCall f_is_name (dCons (dIx (dVar 1) (dC (.int 1))) dNil))) (dCmp eqD (dOp1 lenD (dLook (dOp1 (attrD "read_roads") (dLook (dVar 0))))) (dC (.int 0)))))))) sSkip)
  (sSeq (sIf (dCmp eqD (dIx (dVar 1) (dC (.int 0))) (dC (.str "road"))) (sSeq (sExpr (dMut appD (dOp1 (attrD "read_roads") (dLook (dVar 0))) (dCons (dSl (dVar 1) (dP (dC (.int 1))) dNoP) dNil)))
  (sRet (dB2v (dAnd (dCmp eqD (dOp1 lenD (dLook (dVar 1))) (dC (.int 3))) (dTst (dOp1 allD (dLook (dFrz q_LineReader_takes_1)))))))) sSkip)
  (sSeq (sSetA "ended" (dVar 0) (dB2v (dCmp eqD (dVar 1) (dFrz (dLst (dCons (dC (.str "over")) dNil))))))
  (sRet (dB2v (dAnd (dTst (dOp1 (attrD "ended") (dLook (dVar 0)))) (dCmp gtI (dOp1 lenD (dLook (dOp1 (attrD "read_spots") (dLook (dVar 0))))) (dC (.int 0))))))))))
def f_LineReader_takes : FF := (dFun 3 g_LineReader_takes)
theorem ok_LineReader_takes {f : Addr} {fd : FuncData} (fc : Fc K mg cl wa) (F : FunD K "takes" "LineReader.takes" (defArgs s_LineReader_takes) (defBody s_LineReader_takes) (defScope s_LineReader_takes) [] [] f fd) (me : Meth K (cl 1) "takes" f) (h0 : cl 1 ≠ 0) (h_is_name : Gf P w K mg base cl 1 "is_name" 1 f_is_name) : Gm P w K mg base cl 2 1 "takes" 2 f_LineReader_takes :=
  have S := sc_LineReader_takes
  ⟨f, fd, ["self", "words"], fn_body (k := 1) (N := ["self", "words", "word"]) (ps := ["self", "words"]) (g := g_LineReader_takes) F S fun cdv A outer s H E n hr =>
    (dss_cons (ds_if (dt_val (de_attr fc.hC (fc.at_ended) (dk_look (de_var (pv 0))) rfl)) (dss_one (ds_ret de_bl)) dss_nil)
    (dss_cons (ds_if (dt_eq (u64 hr) (de_ix (de_var (pv 1)) de_int fun _ _ => rfl) de_str) (dss_cons (ds_expr (de_extend (de_attr fc.hC (fc.at_read_spots) (dk_look (de_var (pv 0))) rfl) (da_cons (de_sl (de_var (pv 1)) (do_some de_int) do_none) da_nil)))
    (dss_one (ds_ret (de_and (de_eq (u64 hr) (de_len (by rfl) fc.n_len (dk_look (de_var (pv 1)))) de_int) (de_and (de_tst (de_call (h_is_name.mono (by decide)) hr (by rfl) (takes_of rfl rfl rfl rfl) (da_cons (de_ix (de_var (pv 1)) de_int fun _ _ => rfl) da_nil) (len_cons len_nil))) (de_one (de_eq (u64 hr) (de_len (by rfl) fc.n_len (dk_look (de_attr fc.hC (fc.at_read_roads) (dk_look (de_var (pv 0))) rfl))) de_int))))))) dss_nil)
    (dss_cons (ds_if (dt_eq (u64 hr) (de_ix (de_var (pv 1)) de_int fun _ _ => rfl) de_str) (dss_cons (ds_expr (de_append (de_attr fc.hC (fc.at_read_roads) (dk_look (de_var (pv 0))) rfl) (da_cons (de_sl (de_var (pv 1)) (do_some de_int) do_none) da_nil)))
    (dss_one (ds_ret (de_and (de_eq (u64 hr) (de_len (by rfl) fc.n_len (dk_look (de_var (pv 1)))) de_int) (de_one (de_tst (de_all (by rfl) (by rfl) fc.n_all (dk_look (de_frz (dn_lc (by rfl) S.nd (di_seq (de_sl (de_var (pv 1)) (do_some de_int) do_none)) (blkOk_by (own := [("word", 2)]) (by first | (show blkC ["self", "words", "word"] (defScope s_LineReader_takes) _ _ = true; decide +kernel) | rfl | with_unfolding_all rfl)) (fun _ _ _ _ _ => (dg_name (i := 2) S.nd rfl (by first | exact .inl rfl | exact .inr rfl))) (fun _ _ _ _ _ => dts_nil) (fun _ _ _ _ _ => (de_in (u65 hr) (de_var (pv 2)) (dk_look (de_attr fc.hC (fc.at_read_spots) (dk_look (de_var (pv 0))) rfl)) rfl)) (by decide))))))))))) dss_nil)
    (dss_cons (ds_setA fc.hC fc.at_ended (de_var (pv 0)) (de_eq (u64 hr) (de_var (pv 1)) (de_frz (dn_lst (da_cons de_str da_nil) (len_cons len_nil)))))
    (dss_one (ds_ret (de_and (de_tst (de_attr fc.hC (fc.at_ended) (dk_look (de_var (pv 0))) rfl)) (de_one (de_gt (de_len (by rfl) fc.n_len (dk_look (de_attr fc.hC (fc.at_read_spots) (dk_look (de_var (pv 0))) rfl))) de_int))))))))), me, (fc.hC _ h0).cl, F.bindsN fun _ _ _ _ _ _ us hl => match us, hl with | [_, _], _ => rfl⟩

abbrev s_Web_init : Stmt := (inC (top 18) 0)
theorem sc_Web_init : FnScope (["self", "spots", "roads", "start", "pair"] : List Str) (["self", "spots", "roads"] : List Str) (defScope s_Web_init) := ⟨rfl, rfl, rfl, by decide +kernel, rfl, by decide +kernel, by decide +kernel⟩
def q_Web_init_1 : NF :=
  (dLc (dItQ (dVar 2)) (.nm 4) [4] dYes (dCall f_is_pair_below (dCons (dVar 4) (dCons (dOp1 lenD (dLook (dVar 1))) dNil))))
def q_Web_init_2 : NF :=
  (dLc (dRg1 (dOp1 lenD (dLook (dVar 1)))) (.nm 3) [3] dYes (dCall f_steps_away (dCons (dOp1 lenD (dLook (dVar 1))) (dCons (dVar 2) (dCons (dVar 3) dNil)))))
def g_Web_init : SF :=
  (sSeq (sIf (dNot (dTst (dCall f_are_spots (dCons (dVar 1) dNil)))) (fun _ _ => .bad) sSkip)
  (sSeq (sIf (dOr (dNot (dTst (dCall f_is_listed (dCons (dVar 2) dNil)))) (dNot (dTst (dOp1 allD (dLook (dFrz q_Web_init_1)))))) (fun _ _ => .bad) sSkip)
  (sSeq (sIf (dNot (dTst (dCall f_have_no_twice (dCons (dVar 2) dNil)))) (fun _ _ => .bad) sSkip)
  (sSeq (sSetA "spots" (dVar 0) (dOp1 tupleD (dLook (dVar 1))))
  (sSeq (sSetA "roads" (dVar 0) (dOp1 tupleD (dLook (dFrz (dNw1 sortedD (dLook (dVar 2)))))))
  (sSetA "away" (dVar 0) (dFrz q_Web_init_2)))))))
def f_Web_init : FF := (dFun 5 g_Web_init)
theorem ok_Web_init {f : Addr} {fd : FuncData} (fc : Fc K mg cl wa) (F : FunD K "__init__" "Web.__init__" (defArgs s_Web_init) (defBody s_Web_init) (defScope s_Web_init) [] [] f fd) (M : Mk K (cl 0) f) (h0 : cl 0 ≠ 0) (hm : mg "Web" = some (.ref (cl 0))) (h_are_spots : Gf P w K mg base cl 2 "are_spots" 1 f_are_spots) (h_is_listed : Gf P w K mg base cl 1 "is_listed" 1 f_is_listed) (h_is_pair_below : Gf P w K mg base cl 3 "is_pair_below" 2 f_is_pair_below) (h_have_no_twice : Gf P w K mg base cl 1 "have_no_twice" 1 f_have_no_twice) (h_steps_away : Gf P w K mg base cl 1 "steps_away" 3 f_steps_away) : Gi P w K mg base cl 4 "Web" 0 3 f_Web_init :=
  have S := sc_Web_init
  ⟨f, fd, ["self", "spots", "roads"], fn_body (k := 3) (N := ["self", "spots", "roads", "start", "pair"]) (ps := ["self", "spots", "roads"]) (g := g_Web_init) F S fun cdv A outer s H E n hr =>
    (dss_cons (ds_if (dt_not (dt_val (de_call (h_are_spots.mono (by decide)) hr (by rfl) (takes_of rfl rfl rfl rfl) (da_cons (de_var (pv 1)) da_nil) (len_cons len_nil)))) (dss_one ds_never) dss_nil)
    (dss_cons (ds_if (dt_w (dw_or (dt_not (dt_val (de_call (h_is_listed.mono (by decide)) hr (by rfl) (takes_of rfl rfl rfl rfl) (da_cons (de_var (pv 2)) da_nil) (len_cons len_nil)))) (dw_or1 (dt_not (dt_val (de_all (by rfl) (by rfl) fc.n_all (dk_look (de_frz (dn_lc (by rfl) S.nd (di_seq (de_var (pv 2))) (blkOk_by (own := [("pair", 4)]) (by first | (show blkC ["self", "spots", "roads", "start", "pair"] (defScope s_Web_init) _ _ = true; decide +kernel) | rfl | with_unfolding_all rfl)) (fun _ _ _ _ _ => (dg_name (i := 4) S.nd rfl (by first | exact .inl rfl | exact .inr rfl))) (fun _ _ _ _ _ => dts_nil) (fun _ _ _ _ _ => (de_call (h_is_pair_below.mono (by decide)) hr (by rfl) tk0 (da_cons (de_var (pv 4)) (da_cons (de_len (by rfl) fc.n_len (dk_look (de_var (pv 1)))) da_nil)) (len_cons (len_cons len_nil)))) (by decide)))))))))) (dss_one ds_never) dss_nil)
    (dss_cons (ds_if (dt_not (dt_val (de_call (h_have_no_twice.mono (by decide)) hr (by rfl) (takes_of rfl rfl rfl rfl) (da_cons (de_var (pv 2)) da_nil) (len_cons len_nil)))) (dss_one ds_never) dss_nil)
    (dss_cons (ds_setA fc.hC fc.at_spots (de_var (pv 0)) (de_tuple (by rfl) fc.n_tuple (dk_look (de_var (pv 1)))))
    (dss_cons (ds_setA fc.hC fc.at_roads (de_var (pv 0)) (de_tuple (by rfl) fc.n_tuple (dk_look (de_frz (dn_sorted (u64 hr) (by rfl) fc.n_sorted (dk_look (de_var (pv 2))))))))
    (dss_one (ds_setA fc.hC fc.at_away (de_var (pv 0)) (de_frz (dn_lc (by rfl) S.nd (di_range1 (by rfl) fc.n_range (da_cons (de_len (by rfl) fc.n_len (dk_look (de_var (pv 1)))) da_nil) rfl) (blkOk_by (own := [("start", 3)]) (by first | (show blkC ["self", "spots", "roads", "start", "pair"] (defScope s_Web_init) _ _ = true; decide +kernel) | rfl | with_unfolding_all rfl)) (fun _ _ _ _ _ => (dg_name (i := 3) S.nd rfl (by first | exact .inl rfl | exact .inr rfl))) (fun _ _ _ _ _ => dts_nil) (fun _ _ _ _ _ => (de_call (h_steps_away.mono (by decide)) hr (by rfl) tk0 (da_cons (de_len (by rfl) fc.n_len (dk_look (de_var (pv 1)))) (da_cons (de_var (pv 2)) (da_cons (de_var (pv 3)) da_nil))) (len_cons (len_cons (len_cons len_nil))))) (by decide)))))))))), ⟨M, h0⟩, hm, F.bindsN fun _ _ _ _ _ _ us hl => match us, hl with | [_, _, _], _ => rfl⟩

abbrev s_read_web : Stmt := (top 22)
theorem sc_read_web : FnScope (["text", "lines", "reader", "spots", "pairs", "at", "line", "words", "row", "name"] : List Str) (["text"] : List Str) (defScope s_read_web) := ⟨rfl, rfl, rfl, by decide +kernel, rfl, by decide +kernel, by decide +kernel⟩
def b_read_web_1 : SF :=
  (sSeq (sAsg 7 (dM1 "str" splitD (dVar 6) (dC (.str " "))))
  (sIf (dCmp eqD (dVar 5) (dOp2 subD (dOp1 lenD (dLook (dVar 1))) (dC (.int 1)))) (sIf (dCmp neD (dVar 6) (dC (.str ""))) (fun _ _ => .bad) sSkip) (sIf (dIn false (dC (.str "")) (dLook (dVar 7))) (fun _ _ => .bad) (sIf (dNot (dTst (dMeth 1 "takes" f_LineReader_takes (dVar 2) (dCons (dVar 7) dNil)))) (fun _ _ => .bad) sSkip))))
def q_read_web_1 : NF :=
  (dLc (dItQ (dVar 8)) (.nm 9) [9] dYes (dM1 "list" indexD (dVar 3) (dVar 9)))
def q_read_web_2 : NF :=
  (dLc (dItQ (dFz (dOp1 (attrD "read_roads") (dLook (dVar 2))))) (.nm 8) [8] dYes (dOp1 tupleD (dLook (dFrz (dNw1 sortedD (dLook (dFrz q_read_web_1)))))))
def g_read_web : SF :=
  (sSeq (sIf (dNot (dIsi .str (dLook (dVar 0)))) (fun _ _ => .bad) sSkip)
  (sSeq (sAsg 1 (dM1 "str" splitD (dVar 0) (dC (.str "\n"))))
  (sSeq (sAsg 2 (dMake 1 f_LineReader_init dNil))
  (sSeq (sFor (dEnum (dVar 1)) (.tp [5, 6]) b_read_web_1)
  (sSeq (sIf (dNot (dTst (dOp1 (attrD "ended") (dLook (dVar 2))))) (fun _ _ => .bad) sSkip)
  (sSeq (sAsg 3 (dFz (dOp1 (attrD "read_spots") (dLook (dVar 2)))))
  (sSeq (sAsg 4 (dFrz q_read_web_2))
  (sRet (dFz (dMake 0 f_Web_init (dCons (dVar 3) (dCons (dVar 4) dNil))))))))))))
def f_read_web : FF := fGc (dFun 10 g_read_web)
theorem ok_read_web {f : Addr} {fd : FuncData} (fc : Fc K mg cl wa) (F : FunD K "read_web" "read_web" (defArgs s_read_web) (defBody s_read_web) (defScope s_read_web) [] [] f fd) (hm : mg "read_web" = some (.ref f)) (h_LineReader_init : Gi P w K mg base cl 1 "LineReader" 1 1 f_LineReader_init) (h_LineReader_takes : Gm P w K mg base cl 2 1 "takes" 2 f_LineReader_takes) (h_Web_init : Gi P w K mg base cl 4 "Web" 0 3 f_Web_init) : Gf P w K mg base cl 6 "read_web" 1 f_read_web :=
  have S := sc_read_web
  Gf.gc (gf_of (k := 5) (N := ["text", "lines", "reader", "spots", "pairs", "at", "line", "words", "row", "name"]) (ps := ["text"]) (g := g_read_web) F S hm (F.bindsN fun _ _ _ _ _ _ us hl => match us, hl with | [_], _ => rfl) fun cdv A outer s H E n hr =>
    (dss_cons (ds_if (dt_not (dt_cmp (de_isi (y := .str) fc.hC (by rfl) fc.n_isinstance (dk_look (de_var (pv 0))) (pe_bltn (by rfl) fc.n_str (by decide +kernel) rfl)))) (dss_one ds_never) dss_nil)
    (dss_cons (ds_asg (i := 1) S.nd rfl (by first | exact .inl rfl | exact .inr rfl) (de_split (de_var (pv 0)) de_str))
    (dss_cons (ds_asg (i := 2) S.nd rfl (by first | exact .inl rfl | exact .inr rfl) (de_make0 (h_LineReader_init.mono (by decide)) hr (by rfl) (takes_of rfl rfl rfl rfl)))
    (dss_cons (ds_for (passes_of rfl) rfl (di_enum (by rfl) fc.n_enumerate (de_var (pv 1))) (dg_tup rfl (dgs_cons (i := 5) S.nd rfl (by first | exact .inl rfl | exact .inr rfl) (dgs_cons (i := 6) S.nd rfl (by first | exact .inl rfl | exact .inr rfl) dgs_nil))) (dss_cons (ds_asg (i := 7) S.nd rfl (by first | exact .inl rfl | exact .inr rfl) (de_split (de_var (pv 6)) de_str))
    (dss_one (ds_if (dt_eq (u64 hr) (de_var (pv 5)) (de_sub (de_len (by rfl) fc.n_len (dk_look (de_var (pv 1)))) de_int)) (dss_one (ds_if (dt_ne (u64 hr) (de_var (pv 6)) de_str) (dss_one ds_never) dss_nil)) (dss_one (ds_if (dt_in (u65 hr) de_str (dk_look (de_var (pv 7))) rfl) (dss_one ds_never) (dss_one (ds_if (dt_not (dt_val (de_meth (pl := _) (h_LineReader_takes.mono (by decide)) hr (takes_of rfl rfl rfl rfl) (de_var (pv 2)) (da_cons (de_var (pv 7)) da_nil) (len_cons len_nil)))) (dss_one ds_never) dss_nil))))))))
    (dss_cons (ds_if (dt_not (dt_val (de_attr fc.hC (fc.at_ended) (dk_look (de_var (pv 2))) rfl))) (dss_one ds_never) dss_nil)
    (dss_cons (ds_asg (i := 3) S.nd rfl (by first | exact .inl rfl | exact .inr rfl) (de_fz (de_attr fc.hC (fc.at_read_spots) (dk_look (de_var (pv 2))) rfl)))
    (dss_cons (ds_ownF (ds_lc (i := 4) (by rfl) S.nd rfl rfl rfl (di_seq (de_fz (de_attr fc.hC (fc.at_read_roads) (dk_look (de_var (pv 2))) rfl))) (blkOk_by (own := [("row", 8)]) (by first | (show blkC ["text", "lines", "reader", "spots", "pairs", "at", "line", "words", "row", "name"] (defScope s_read_web) _ _ = true; decide +kernel) | rfl | with_unfolding_all rfl)) (fun _ _ _ _ _ => (dg_name (i := 8) S.nd rfl (by first | exact .inl rfl | exact .inr rfl))) (fun _ _ _ _ _ => dts_nil) (fun _ _ _ _ _ => (de_tuple (by rfl) fc.n_tuple (dk_look (de_frz (dn_sorted (u64 hr) (by rfl) fc.n_sorted (dk_look (de_frz (dn_lc (by rfl) S.nd (di_seq (de_var (pv 8))) (blkOk_by (own := [("name", 9)]) (by first | (show blkC ["text", "lines", "reader", "spots", "pairs", "at", "line", "words", "row", "name"] (defScope s_read_web) _ _ = true; decide +kernel) | rfl | with_unfolding_all rfl)) (fun _ _ _ _ _ => (dg_name (i := 9) S.nd rfl (by first | exact .inl rfl | exact .inr rfl))) (fun _ _ _ _ _ => dts_nil) (fun _ _ _ _ _ => (de_index (u65 hr) (de_var (pv 3)) (de_var (pv 9)))) (by decide))))))))) (by decide)))
    (dss_one (ds_ret (de_fz (de_make (h_Web_init.mono (by decide)) hr (by rfl) (takes_of rfl rfl rfl rfl) (da_cons (de_var (pv 3)) (da_cons (de_var (pv 4)) da_nil)) (len_cons (len_cons len_nil))))))))))))))

abbrev s__law_pot : Stmt := (top 24)
theorem sc__law_pot : FnScope (["script", "cell"] : List Str) (["script"] : List Str) (defScope s__law_pot) := ⟨rfl, rfl, rfl, by decide +kernel, rfl, by decide +kernel, by decide +kernel⟩
def q__law_pot_1 : NF :=
  (dLc (dItQ (dSl (dVar 0) dNoP (dP (dC (.int 63))))) (.nm 1) [1] dYes (dOp1 absD (dLook (dVar 1))))
def g__law_pot : SF :=
  (sRet (dReg (dLst (dCons (dFrz q__law_pot_1) (dCons (dC (.int 0)) (dCons (dC (.int 20011)) (dCons (dC (.int 0)) dNil)))))))
def f__law_pot : FF := (dFun 2 g__law_pot)
theorem ok__law_pot {f : Addr} {fd : FuncData} (fc : Fc K mg cl wa) (F : FunD K "_law_pot" "_law_pot" (defArgs s__law_pot) (defBody s__law_pot) (defScope s__law_pot) [] [] f fd) (hm : mg "_law_pot" = some (.ref f)) : Gf P w K mg base cl 1 "_law_pot" 1 f__law_pot :=
  have S := sc__law_pot
  (gf_of (k := 0) (N := ["script", "cell"]) (ps := ["script"]) (g := g__law_pot) F S hm (F.bindsN fun _ _ _ _ _ _ us hl => match us, hl with | [_], _ => rfl) fun cdv A outer s H E n hr =>
    (dss_one (ds_ret (de_reg (dn_lst (da_cons (de_frz (dn_lc (by rfl) S.nd (di_seq (de_sl (de_var (pv 0)) do_none (do_some de_int))) (blkOk_by (own := [("cell", 1)]) (by first | (show blkC ["script", "cell"] (defScope s__law_pot) _ _ = true; decide +kernel) | rfl | with_unfolding_all rfl)) (fun _ _ _ _ _ => (dg_name (i := 1) S.nd rfl (by first | exact .inl rfl | exact .inr rfl))) (fun _ _ _ _ _ => dts_nil) (fun _ _ _ _ _ => (de_abs (by rfl) fc.n_abs (dk_look (de_var (pv 1))))) (by decide))) (da_cons de_int (da_cons de_int (da_cons de_int da_nil)))) (len_cons (len_cons (len_cons (len_cons len_nil)))))))))

abbrev s__law_draw : Stmt := (top 25)
theorem sc__law_draw : FnScope (["pot", "many", "cell", "found"] : List Str) (["pot", "many"] : List Str) (defScope s__law_draw) := ⟨rfl, rfl, rfl, by decide +kernel, rfl, by decide +kernel, by decide +kernel⟩
def g__law_draw : SF :=
  (sSeq (sIf (dCmp ltD (dVar 1) (dC (.int 2))) (sRet (dC (.int 0))) sSkip)
  (sSeq (sIf (dCmp gtI (dIx (dVar 0) (dC (.int 3))) (dC (.int 0))) (sSeq (sAsg 3 (dOp2 modD (dOp1 intD (dLook (dIx (dVar 0) (dC (.int 3))))) (dVar 1)))
  (sSeq (sSetI (dVar 0) (dC (.int 3)) (dOp2 divD (dIx (dVar 0) (dC (.int 3))) (dVar 1)))
  (sRet (dVar 3)))) sSkip)
  (sSeq (sAsg 2 (dC (.int 0)))
  (sSeq (sIf (dCmp ltD (dIx (dVar 0) (dC (.int 1))) (dOp1 lenD (dLook (dIx (dVar 0) (dC (.int 0)))))) (sSeq (sAsg 2 (dIx (dIx (dVar 0) (dC (.int 0))) (dIx (dVar 0) (dC (.int 1)))))
  (sSeq (sSetI (dVar 0) (dC (.int 1)) (dOp2 addD (dIx (dVar 0) (dC (.int 1))) (dC (.int 1))))
  (sIf (dCmp geI (dVar 2) (dOp2 powD (dC (.int 10)) (dC (.int 18)))) (sSeq (sSetI (dVar 0) (dC (.int 3)) (dOp2 divD (dVar 2) (dVar 1)))
  (sRet (dOp2 modD (dOp1 intD (dLook (dVar 2))) (dVar 1)))) sSkip))) sSkip)
  (sSeq (sSetI (dVar 0) (dC (.int 2)) (dOp2 modD (dOp1 intD (dLook (dOp2 addD (dOp2 addD (dOp2 mulD (dIx (dVar 0) (dC (.int 2))) (dC (.int 48271))) (dVar 2)) (dC (.int 12345))))) (dC (.int 2147483647))))
  (sRet (dOp2 modD (dOp1 intD (dLook (dOp2 addD (dOp2 divD (dOp2 mulD (dIx (dVar 0) (dC (.int 2))) (dIx (dVar 0) (dC (.int 2)))) (dC (.int 64))) (dOp2 divD (dIx (dVar 0) (dC (.int 2))) (dC (.int 7)))))) (dVar 1))))))))
def f__law_draw : FF := (dFun 4 g__law_draw)
theorem ok__law_draw {f : Addr} {fd : FuncData} (fc : Fc K mg cl wa) (F : FunD K "_law_draw" "_law_draw" (defArgs s__law_draw) (defBody s__law_draw) (defScope s__law_draw) [] [] f fd) (hm : mg "_law_draw" = some (.ref f)) : Gf P w K mg base cl 1 "_law_draw" 2 f__law_draw :=
  have S := sc__law_draw
  (gf_of (k := 0) (N := ["pot", "many", "cell", "found"]) (ps := ["pot", "many"]) (g := g__law_draw) F S hm (F.bindsN fun _ _ _ _ _ _ us hl => match us, hl with | [_, _], _ => rfl) fun cdv A outer s H E n hr =>
    (dss_cons (ds_if (dt_lt (u0 hr) (de_var (pv 1)) de_int) (dss_one (ds_ret de_int)) dss_nil)
    (dss_cons (ds_if (dt_gt (de_ix (de_var (pv 0)) de_int fun _ _ => rfl) de_int) (dss_cons (ds_asg (i := 3) S.nd rfl (by first | exact .inl rfl | exact .inr rfl) (de_mod (de_int1 (by rfl) fc.n_int (dk_look (de_ix (de_var (pv 0)) de_int fun _ _ => rfl))) (de_var (pv 1))))
    (dss_cons (ds_setI (de_div (de_ix (de_var (pv 0)) de_int fun _ _ => rfl) (de_var (pv 1))) (de_var (pv 0)) de_int)
    (dss_one (ds_ret (de_var (pv 3)))))) dss_nil)
    (dss_cons (ds_asg (i := 2) S.nd rfl (by first | exact .inl rfl | exact .inr rfl) de_int)
    (dss_cons (ds_if (dt_lt (u0 hr) (de_ix (de_var (pv 0)) de_int fun _ _ => rfl) (de_len (by rfl) fc.n_len (dk_look (de_ix (de_var (pv 0)) de_int fun _ _ => rfl)))) (dss_cons (ds_asg (i := 2) S.nd rfl (by first | exact .inl rfl | exact .inr rfl) (de_ix (de_ix (de_var (pv 0)) de_int fun _ _ => rfl) (de_ix (de_var (pv 0)) de_int fun _ _ => rfl) fun _ _ => rfl))
    (dss_cons (ds_setI (de_add (de_ix (de_var (pv 0)) de_int fun _ _ => rfl) de_int) (de_var (pv 0)) de_int)
    (dss_one (ds_if (dt_ge (de_var (pv 2)) (de_pow de_int de_int)) (dss_cons (ds_setI (de_div (de_var (pv 2)) (de_var (pv 1))) (de_var (pv 0)) de_int)
    (dss_one (ds_ret (de_mod (de_int1 (by rfl) fc.n_int (dk_look (de_var (pv 2)))) (de_var (pv 1)))))) dss_nil)))) dss_nil)
    (dss_cons (ds_setI (de_mod (de_int1 (by rfl) fc.n_int (dk_look (de_add (de_add (de_mul (de_ix (de_var (pv 0)) de_int fun _ _ => rfl) de_int) (de_var (pv 2))) de_int))) de_int) (de_var (pv 0)) de_int)
    (dss_one (ds_ret (de_mod (de_int1 (by rfl) fc.n_int (dk_look (de_add (de_div (de_mul (de_ix (de_var (pv 0)) de_int fun _ _ => rfl) (de_ix (de_var (pv 0)) de_int fun _ _ => rfl)) de_int) (de_div (de_ix (de_var (pv 0)) de_int fun _ _ => rfl) de_int)))) (de_var (pv 1)))))))))))

abbrev s__law_pick : Stmt := (top 26)
theorem sc__law_pick : FnScope (["pot", "row"] : List Str) (["pot", "row"] : List Str) (defScope s__law_pick) := ⟨rfl, rfl, rfl, by decide +kernel, rfl, by decide +kernel, by decide +kernel⟩
def g__law_pick : SF :=
  (sRet (dIx (dVar 1) (dCall f__law_draw (dCons (dVar 0) (dCons (dOp1 lenD (dLook (dVar 1))) dNil)))))
def f__law_pick : FF := (dFun 2 g__law_pick)
theorem ok__law_pick {f : Addr} {fd : FuncData} (fc : Fc K mg cl wa) (F : FunD K "_law_pick" "_law_pick" (defArgs s__law_pick) (defBody s__law_pick) (defScope s__law_pick) [] [] f fd) (hm : mg "_law_pick" = some (.ref f)) (h__law_draw : Gf P w K mg base cl 1 "_law_draw" 2 f__law_draw) : Gf P w K mg base cl 2 "_law_pick" 2 f__law_pick :=
  have S := sc__law_pick
  (gf_of (k := 1) (N := ["pot", "row"]) (ps := ["pot", "row"]) (g := g__law_pick) F S hm (F.bindsN fun _ _ _ _ _ _ us hl => match us, hl with | [_, _], _ => rfl) fun cdv A outer s H E n hr =>
    (dss_one (ds_ret (de_ix (de_var (pv 1)) (de_call (h__law_draw.mono (by decide)) hr (by rfl) (takes_of rfl rfl rfl rfl) (da_cons (de_var (pv 0)) (da_cons (de_len (by rfl) fc.n_len (dk_look (de_var (pv 1)))) da_nil)) (len_cons (len_cons len_nil))) fun _ _ => rfl))))

abbrev s__law_mixed : Stmt := (top 27)
theorem sc__law_mixed : FnScope (["pot", "row", "left", "k"] : List Str) (["pot", "row"] : List Str) (defScope s__law_mixed) := ⟨rfl, rfl, rfl, by decide +kernel, rfl, by decide +kernel, by decide +kernel⟩
def q__law_mixed_1 : NF :=
  (dLc (dRg1 (dOp1 lenD (dLook (dVar 1)))) (.nm 3) [3] dYes (dMut popD (dVar 2) (dCons (dCall f__law_draw (dCons (dVar 0) (dCons (dOp1 lenD (dLook (dVar 2))) dNil))) dNil)))
def g__law_mixed : SF :=
  (sSeq (sAsg 2 (dReg (dNw1 listD (dLook (dVar 1)))))
  (sRet (dFrz q__law_mixed_1)))
def f__law_mixed : FF := fGc (dFun 4 g__law_mixed)
theorem ok__law_mixed {f : Addr} {fd : FuncData} (fc : Fc K mg cl wa) (F : FunD K "_law_mixed" "_law_mixed" (defArgs s__law_mixed) (defBody s__law_mixed) (defScope s__law_mixed) [] [] f fd) (hm : mg "_law_mixed" = some (.ref f)) (h__law_draw : Gf P w K mg base cl 1 "_law_draw" 2 f__law_draw) : Gf P w K mg base cl 2 "_law_mixed" 2 f__law_mixed :=
  have S := sc__law_mixed
  Gf.gc (gf_of (k := 1) (N := ["pot", "row", "left", "k"]) (ps := ["pot", "row"]) (g := g__law_mixed) F S hm (F.bindsN fun _ _ _ _ _ _ us hl => match us, hl with | [_, _], _ => rfl) fun cdv A outer s H E n hr =>
    (dss_cons (ds_asg (i := 2) S.nd rfl (by first | exact .inl rfl | exact .inr rfl) (de_reg (dn_list (by rfl) fc.n_list (dk_look (de_var (pv 1))))))
    (dss_one (ds_ret (de_frz (dn_lc (by rfl) S.nd (di_range1 (by rfl) fc.n_range (da_cons (de_len (by rfl) fc.n_len (dk_look (de_var (pv 1)))) da_nil) rfl) (blkOk_by (own := [("k", 3)]) (by first | (show blkC ["pot", "row", "left", "k"] (defScope s__law_mixed) _ _ = true; decide +kernel) | rfl | with_unfolding_all rfl)) (fun _ _ _ _ _ => (dg_name (i := 3) S.nd rfl (by first | exact .inl rfl | exact .inr rfl))) (fun _ _ _ _ _ => dts_nil) (fun _ _ _ _ _ => (de_pop (de_var (pv 2)) (da_cons (de_call (h__law_draw.mono (by decide)) hr (by rfl) tk0 (da_cons (de_var (pv 0)) (da_cons (de_len (by rfl) fc.n_len (dk_look (de_var (pv 2)))) da_nil)) (len_cons (len_cons len_nil))) da_nil))) (by decide)))))))

abbrev s__law_same : Stmt := (top 28)
theorem sc__law_same : FnScope (["found", "due", "k"] : List Str) (["found", "due"] : List Str) (defScope s__law_same) := ⟨rfl, rfl, rfl, by decide +kernel, rfl, by decide +kernel, by decide +kernel⟩
def q__law_same_1 (fself : FF) : NF :=
  (dLc (dRg1 (dOp1 lenD (dLook (dVar 1)))) (.nm 2) [2] (dNot (dTst (dCall fself (dCons (dIx (dVar 0) (dVar 2)) (dCons (dIx (dVar 1) (dVar 2)) dNil))))) (dVar 2))
def g__law_same (fself : FF) : SF :=
  (sSeq (sIf (dOr (dIsi .tuple (dLook (dVar 1))) (dIsi .list (dLook (dVar 1)))) (sSeq (sIf (dOr (dCmp neD (dB2v (dIsi .tuple (dLook (dVar 1)))) (dB2v (dIsi .tuple (dLook (dVar 0))))) (dCmp neD (dB2v (dIsi .list (dLook (dVar 1)))) (dB2v (dIsi .list (dLook (dVar 0)))))) (sRet (dC (.bl false))) sSkip)
  (sSeq (sIf (dCmp neD (dOp1 lenD (dLook (dVar 0))) (dOp1 lenD (dLook (dVar 1)))) (sRet (dC (.bl false))) sSkip)
  (sRet (dB2v (dCmp eqD (dFrz (q__law_same_1 fself)) (dFrz (dLst dNil))))))) sSkip)
  (sSeq (sIf (dIsN (dVar 1)) (sRet (dB2v (dIsN (dVar 0)))) sSkip)
  (sSeq (sIf (dIsi .str (dLook (dVar 1))) (sRet (dB2v (dAnd (dIsi .str (dLook (dVar 0))) (dCmp eqD (dVar 0) (dVar 1))))) sSkip)
  (sRet (dB2v (dAnd (dIsi .int (dLook (dVar 0))) (dAnd (dCmp eqD (dB2v (dIsi .bool (dLook (dVar 0)))) (dB2v (dIsi .bool (dLook (dVar 1))))) (dCmp eqD (dVar 0) (dVar 1)))))))))
def f__law_same_at : Nat → FF
  | 0 => fun _ _ => .bad
  | n + 1 => dFun 3 (g__law_same (f__law_same_at n))
abbrev f__law_same : FF := f__law_same_at 6
theorem ok__law_same_at {f : Addr} {fd : FuncData} (fc : Fc K mg cl wa) (F : FunD K "_law_same" "_law_same" (defArgs s__law_same) (defBody s__law_same) (defScope s__law_same) [] [] f fd) (hm : mg "_law_same" = some (.ref f)) : ∀ r : Nat, Gf P w K mg base cl (0 + r) "_law_same" 2 (f__law_same_at r)
  | 0 => gf_bad F hm (ps := ["found", "due"]) (F.bindsN fun _ _ _ _ _ _ us hl => match us, hl with | [_, _], _ => rfl)
  | r + 1 =>
  have S := sc__law_same
  have hself := ok__law_same_at fc F hm r
  gf_of (k := 0 + r) (N := ["found", "due", "k"]) (ps := ["found", "due"]) (g := g__law_same (f__law_same_at r)) F S hm (F.bindsN fun _ _ _ _ _ _ us hl => match us, hl with | [_, _], _ => rfl) fun cdv A outer s H E n hr =>
    (dss_cons (ds_if (dt_w (dw_or (dt_cmp (de_isi (y := .tuple) fc.hC (by rfl) fc.n_isinstance (dk_look (de_var (pv 1))) (pe_bltn (by rfl) fc.n_tuple (by decide +kernel) rfl))) (dw_or1 (dt_cmp (de_isi (y := .list) fc.hC (by rfl) fc.n_isinstance (dk_look (de_var (pv 1))) (pe_bltn (by rfl) fc.n_list (by decide +kernel) rfl)))))) (dss_cons (ds_if (dt_w (dw_or (dt_ne (u64 hr) (de_isi (y := .tuple) fc.hC (by rfl) fc.n_isinstance (dk_look (de_var (pv 1))) (pe_bltn (by rfl) fc.n_tuple (by decide +kernel) rfl)) (de_isi (y := .tuple) fc.hC (by rfl) fc.n_isinstance (dk_look (de_var (pv 0))) (pe_bltn (by rfl) fc.n_tuple (by decide +kernel) rfl))) (dw_or1 (dt_ne (u64 hr) (de_isi (y := .list) fc.hC (by rfl) fc.n_isinstance (dk_look (de_var (pv 1))) (pe_bltn (by rfl) fc.n_list (by decide +kernel) rfl)) (de_isi (y := .list) fc.hC (by rfl) fc.n_isinstance (dk_look (de_var (pv 0))) (pe_bltn (by rfl) fc.n_list (by decide +kernel) rfl)))))) (dss_one (ds_ret de_bl)) dss_nil)
    (dss_cons (ds_if (dt_ne (u64 hr) (de_len (by rfl) fc.n_len (dk_look (de_var (pv 0)))) (de_len (by rfl) fc.n_len (dk_look (de_var (pv 1))))) (dss_one (ds_ret de_bl)) dss_nil)
    (dss_one (ds_ret (de_eq (u64 hr) (de_frz (dn_lc (by rfl) S.nd (di_range1 (by rfl) fc.n_range (da_cons (de_len (by rfl) fc.n_len (dk_look (de_var (pv 1)))) da_nil) rfl) (blkOk_by (own := [("k", 2)]) (by first | (show blkC ["found", "due", "k"] (defScope s__law_same) _ _ = true; decide +kernel) | rfl | with_unfolding_all rfl)) (fun _ _ _ _ _ => (dg_name (i := 2) S.nd rfl (by first | exact .inl rfl | exact .inr rfl))) (fun _ _ _ _ _ => (dts_one (dt_not (dt_val (de_call (hself.mono (by omega)) hr (by rfl) tk0 (da_cons (de_ix (de_var (pv 0)) (de_var (pv 2)) fun _ _ => rfl) (da_cons (de_ix (de_var (pv 1)) (de_var (pv 2)) fun _ _ => rfl) da_nil)) (len_cons (len_cons len_nil))))))) (fun _ _ _ _ _ => (de_var (pv 2))) (by decide))) (de_frz (dn_lst da_nil len_nil))))))) dss_nil)
    (dss_cons (ds_if (dt_isN (de_var (pv 1))) (dss_one (ds_ret (de_isN (de_var (pv 0))))) dss_nil)
    (dss_cons (ds_if (dt_cmp (de_isi (y := .str) fc.hC (by rfl) fc.n_isinstance (dk_look (de_var (pv 1))) (pe_bltn (by rfl) fc.n_str (by decide +kernel) rfl))) (dss_one (ds_ret (de_and (de_isi (y := .str) fc.hC (by rfl) fc.n_isinstance (dk_look (de_var (pv 0))) (pe_bltn (by rfl) fc.n_str (by decide +kernel) rfl)) (de_one (de_eq (u64 hr) (de_var (pv 0)) (de_var (pv 1))))))) dss_nil)
    (dss_one (ds_ret (de_and (de_isi (y := .int) fc.hC (by rfl) fc.n_isinstance (dk_look (de_var (pv 0))) (pe_bltn (by rfl) fc.n_int (by decide +kernel) rfl)) (de_and (de_eq (u64 hr) (de_isi (y := .bool) fc.hC (by rfl) fc.n_isinstance (dk_look (de_var (pv 0))) (pe_bltn (by rfl) fc.n_bool (by decide +kernel) rfl)) (de_isi (y := .bool) fc.hC (by rfl) fc.n_isinstance (dk_look (de_var (pv 1))) (pe_bltn (by rfl) fc.n_bool (by decide +kernel) rfl))) (de_one (de_eq (u64 hr) (de_var (pv 0)) (de_var (pv 1)))))))))))
theorem ok__law_same {f : Addr} {fd : FuncData} (fc : Fc K mg cl wa) (F : FunD K "_law_same" "_law_same" (defArgs s__law_same) (defBody s__law_same) (defScope s__law_same) [] [] f fd) (hm : mg "_law_same" = some (.ref f)) : Gf P w K mg base cl 7 "_law_same" 2 f__law_same := (ok__law_same_at fc F hm 6).mono (by decide)

abbrev s__law_pairs : Stmt := (top 29)
theorem sc__law_pairs : FnScope (["many", "found", "j", "i"] : List Str) (["many"] : List Str) (defScope s__law_pairs) := ⟨rfl, rfl, rfl, by decide +kernel, rfl, by decide +kernel, by decide +kernel⟩
def q__law_pairs_1 : NF :=
  (dLc (dRg1 (dVar 2)) (.nm 3) [3] dYes (dTup (dCons (dVar 3) (dCons (dVar 2) dNil))))
def b__law_pairs_1 : SF :=
  (sAsg 1 (dOp2 addD (dVar 1) (dFrz q__law_pairs_1)))
def g__law_pairs : SF :=
  (sSeq (sAsg 1 (dFrz (dLst dNil)))
  (sSeq (sFor (dRg1 (dVar 0)) (.nm 2) b__law_pairs_1)
  (sRet (dVar 1))))
def f__law_pairs : FF := (dFun 4 g__law_pairs)
theorem ok__law_pairs {f : Addr} {fd : FuncData} (fc : Fc K mg cl wa) (F : FunD K "_law_pairs" "_law_pairs" (defArgs s__law_pairs) (defBody s__law_pairs) (defScope s__law_pairs) [] [] f fd) (hm : mg "_law_pairs" = some (.ref f)) : Gf P w K mg base cl 1 "_law_pairs" 1 f__law_pairs :=
  have S := sc__law_pairs
  (gf_of (k := 0) (N := ["many", "found", "j", "i"]) (ps := ["many"]) (g := g__law_pairs) F S hm (F.bindsN fun _ _ _ _ _ _ us hl => match us, hl with | [_], _ => rfl) fun cdv A outer s H E n hr =>
    (dss_cons (ds_asg (i := 1) S.nd rfl (by first | exact .inl rfl | exact .inr rfl) (de_frz (dn_lst da_nil len_nil)))
    (dss_cons (ds_for (passes_of rfl) rfl (di_range1 (by rfl) fc.n_range (da_cons (de_var (pv 0)) da_nil) rfl) (dg_name (i := 2) S.nd rfl (by first | exact .inl rfl | exact .inr rfl)) (dss_one (ds_asg (i := 1) S.nd rfl (by first | exact .inl rfl | exact .inr rfl) (de_add (de_var (pv 1)) (de_frz (dn_lc (by rfl) S.nd (di_range1 (by rfl) fc.n_range (da_cons (de_var (pv 2)) da_nil) rfl) (blkOk_by (own := [("i", 3)]) (by first | (show blkC ["many", "found", "j", "i"] (defScope s__law_pairs) _ _ = true; decide +kernel) | rfl | with_unfolding_all rfl)) (fun _ _ _ _ _ => (dg_name (i := 3) S.nd rfl (by first | exact .inl rfl | exact .inr rfl))) (fun _ _ _ _ _ => dts_nil) (fun _ _ _ _ _ => (de_tup (da_cons (de_var (pv 3)) (da_cons (de_var (pv 2)) da_nil)) (len_cons (len_cons len_nil)))) (by decide)))))))
    (dss_one (ds_ret (de_var (pv 1)))))))

abbrev s__law_word : Stmt := (top 31)
theorem sc__law_word : FnScope (["pot", "size", "k"] : List Str) (["pot"] : List Str) (defScope s__law_word) := ⟨rfl, rfl, rfl, by decide +kernel, rfl, by decide +kernel, by decide +kernel⟩
def q__law_word_1 : NF :=
  (dLc (dRg1 (dVar 1)) (.nm 2) [2] dYes (dCall f__law_pick (dCons (dVar 0) (dCons (dC (.str "abcdefghijklmnopqrstuvwxyz")) dNil))))
def g__law_word : SF :=
  (sSeq (sIf (dCmp eqD (dCall f__law_draw (dCons (dVar 0) (dCons (dC (.int 6)) dNil))) (dC (.int 0))) (sRet (dCall f__law_pick (dCons (dVar 0) (dCons (dFrz (dLst (dCons (dC (.str "spot")) (dCons (dC (.str "road")) (dCons (dC (.str "over")) dNil))))) dNil)))) sSkip)
  (sSeq (sAsg 1 (dCall f__law_pick (dCons (dVar 0) (dCons (dFrz (dLst (dCons (dC (.int 1)) (dCons (dC (.int 2)) (dCons (dC (.int 3)) (dCons (dC (.int 5)) (dCons (dC (.int 8)) dNil))))))) dNil))))
  (sRet (dM1 "str" joinD (dC (.str "")) (dFrz q__law_word_1)))))
def f__law_word : FF := (dFun 3 g__law_word)
theorem ok__law_word {f : Addr} {fd : FuncData} (fc : Fc K mg cl wa) (F : FunD K "_law_word" "_law_word" (defArgs s__law_word) (defBody s__law_word) (defScope s__law_word) [] [] f fd) (hm : mg "_law_word" = some (.ref f)) (h__law_draw : Gf P w K mg base cl 1 "_law_draw" 2 f__law_draw) (h__law_pick : Gf P w K mg base cl 2 "_law_pick" 2 f__law_pick) : Gf P w K mg base cl 3 "_law_word" 1 f__law_word :=
  have S := sc__law_word
  (gf_of (k := 2) (N := ["pot", "size", "k"]) (ps := ["pot"]) (g := g__law_word) F S hm (F.bindsN fun _ _ _ _ _ _ us hl => match us, hl with | [_], _ => rfl) fun cdv A outer s H E n hr =>
    (dss_cons (ds_if (dt_eq (u64 hr) (de_call (h__law_draw.mono (by decide)) hr (by rfl) (takes_of rfl rfl rfl rfl) (da_cons (de_var (pv 0)) (da_cons de_int da_nil)) (len_cons (len_cons len_nil))) de_int) (dss_one (ds_ret (de_call (h__law_pick.mono (by decide)) hr (by rfl) (takes_of rfl rfl rfl rfl) (da_cons (de_var (pv 0)) (da_cons (de_frz (dn_lst (da_cons de_str (da_cons de_str (da_cons de_str da_nil))) (len_cons (len_cons (len_cons len_nil))))) da_nil)) (len_cons (len_cons len_nil))))) dss_nil)
    (dss_cons (ds_asg (i := 1) S.nd rfl (by first | exact .inl rfl | exact .inr rfl) (de_call (h__law_pick.mono (by decide)) hr (by rfl) (takes_of rfl rfl rfl rfl) (da_cons (de_var (pv 0)) (da_cons (de_frz (dn_lst (da_cons de_int (da_cons de_int (da_cons de_int (da_cons de_int (da_cons de_int da_nil))))) (len_cons (len_cons (len_cons (len_cons (len_cons len_nil))))))) da_nil)) (len_cons (len_cons len_nil))))
    (dss_one (ds_ret (de_join de_str (de_frz (dn_lc (by rfl) S.nd (di_range1 (by rfl) fc.n_range (da_cons (de_var (pv 1)) da_nil) rfl) (blkOk_by (own := [("k", 2)]) (by first | (show blkC ["pot", "size", "k"] (defScope s__law_word) _ _ = true; decide +kernel) | rfl | with_unfolding_all rfl)) (fun _ _ _ _ _ => (dg_name (i := 2) S.nd rfl (by first | exact .inl rfl | exact .inr rfl))) (fun _ _ _ _ _ => dts_nil) (fun _ _ _ _ _ => (de_call (h__law_pick.mono (by decide)) hr (by rfl) tk0 (da_cons (de_var (pv 0)) (da_cons de_str da_nil)) (len_cons (len_cons len_nil)))) (by decide)))))))))

abbrev s__law_is_name : Stmt := (top 32)
theorem sc__law_is_name : FnScope (["thing", "sign"] : List Str) (["thing"] : List Str) (defScope s__law_is_name) := ⟨rfl, rfl, rfl, by decide +kernel, rfl, by decide +kernel, by decide +kernel⟩
def q__law_is_name_1 : NF :=
  (dLc (dItS (dVar 0)) (.nm 1) [1] (dIn false (dVar 1) (dLook (dC (.str "abcdefghijklmnopqrstuvwxyz")))) (dVar 1))
def g__law_is_name : SF :=
  (sSeq (sIf (dOr (dNot (dIsi .str (dLook (dVar 0)))) (dOr (dNot (dChn leI leI (dC (.int 1)) (dOp1 lenD (dLook (dVar 0))) (dC (.int 8)))) (dIn false (dVar 0) (dLook (dTup (dCons (dC (.str "spot")) (dCons (dC (.str "road")) (dCons (dC (.str "over")) dNil)))))))) (sRet (dC (.bl false))) sSkip)
  (sRet (dB2v (dCmp eqD (dOp1 lenD (dLook (dFrz q__law_is_name_1))) (dOp1 lenD (dLook (dVar 0)))))))
def f__law_is_name : FF := (dFun 2 g__law_is_name)
theorem ok__law_is_name {f : Addr} {fd : FuncData} (fc : Fc K mg cl wa) (F : FunD K "_law_is_name" "_law_is_name" (defArgs s__law_is_name) (defBody s__law_is_name) (defScope s__law_is_name) [] [] f fd) (hm : mg "_law_is_name" = some (.ref f)) : Gf P w K mg base cl 1 "_law_is_name" 1 f__law_is_name :=
  have S := sc__law_is_name
  (gf_of (k := 0) (N := ["thing", "sign"]) (ps := ["thing"]) (g := g__law_is_name) F S hm (F.bindsN fun _ _ _ _ _ _ us hl => match us, hl with | [_], _ => rfl) fun cdv A outer s H E n hr =>
    (dss_cons (ds_if (dt_w (dw_or (dt_not (dt_cmp (de_isi (y := .str) fc.hC (by rfl) fc.n_isinstance (dk_look (de_var (pv 0))) (pe_bltn (by rfl) fc.n_str (by decide +kernel) rfl)))) (dw_or (dt_not (dt_chain op_le op_le pur_int pur_int de_int (de_len (by rfl) fc.n_len (dk_look (de_var (pv 0)))) de_int)) (dw_or1 (dt_in (u65 hr) (de_var (pv 0)) (dk_look (de_tup (da_cons de_str (da_cons de_str (da_cons de_str da_nil))) (len_cons (len_cons (len_cons len_nil))))) rfl))))) (dss_one (ds_ret de_bl)) dss_nil)
    (dss_one (ds_ret (de_eq (u64 hr) (de_len (by rfl) fc.n_len (dk_look (de_frz (dn_lc (by rfl) S.nd (di_str (de_var (pv 0))) (blkOk_by (own := [("sign", 1)]) (by first | (show blkC ["thing", "sign"] (defScope s__law_is_name) _ _ = true; decide +kernel) | rfl | with_unfolding_all rfl)) (fun _ _ _ _ _ => (dg_name (i := 1) S.nd rfl (by first | exact .inl rfl | exact .inr rfl))) (fun _ _ _ _ _ => (dts_one (dt_in (u65 hr) (de_var (pv 1)) (dk_look de_str) rfl))) (fun _ _ _ _ _ => (de_var (pv 1))) (by decide))))) (de_len (by rfl) fc.n_len (dk_look (de_var (pv 0)))))))))

abbrev s__law_names : Stmt := (top 30)
theorem sc__law_names : FnScope (["pot", "many", "found", "k", "word", "some", "sign", "one"] : List Str) (["pot", "many"] : List Str) (defScope s__law_names) := ⟨rfl, rfl, rfl, by decide +kernel, rfl, by decide +kernel, by decide +kernel⟩
def q__law_names_1 : NF :=
  (dLc (dItS (dC (.str "abcdefghijklmnopqrstuvwxyz"))) (.nm 6) [6] dYes (dOp2 addD (dVar 4) (dVar 6)))
def q__law_names_2 : NF :=
  (dLc (dItQ (dVar 5)) (.nm 7) [7] (dAnd (dIn true (dVar 7) (dLook (dVar 2))) (dTst (dCall f__law_is_name (dCons (dVar 7) dNil)))) (dVar 7))
def b__law_names_1 : SF :=
  (sSeq (sAsg 4 (dSl (dCall f__law_word (dCons (dVar 0) dNil)) dNoP (dP (dC (.int 7)))))
  (sSeq (sAsg 5 (dFrz q__law_names_1))
  (sExpr (dMut appD (dVar 2) (dCons (dIx (dFrz q__law_names_2) (dC (.int 0))) dNil)))))
def g__law_names : SF :=
  (sSeq (sAsg 2 (dReg (dLst dNil)))
  (sSeq (sFor (dRg1 (dVar 1)) (.nm 3) b__law_names_1)
  (sRet (dFz (dVar 2)))))
def f__law_names : FF := fGc (dFun 8 g__law_names)
theorem ok__law_names {f : Addr} {fd : FuncData} (fc : Fc K mg cl wa) (F : FunD K "_law_names" "_law_names" (defArgs s__law_names) (defBody s__law_names) (defScope s__law_names) [] [] f fd) (hm : mg "_law_names" = some (.ref f)) (h__law_word : Gf P w K mg base cl 3 "_law_word" 1 f__law_word) (h__law_is_name : Gf P w K mg base cl 1 "_law_is_name" 1 f__law_is_name) : Gf P w K mg base cl 4 "_law_names" 2 f__law_names :=
  have S := sc__law_names
  Gf.gc (gf_of (k := 3) (N := ["pot", "many", "found", "k", "word", "some", "sign", "one"]) (ps := ["pot", "many"]) (g := g__law_names) F S hm (F.bindsN fun _ _ _ _ _ _ us hl => match us, hl with | [_, _], _ => rfl) fun cdv A outer s H E n hr =>
    (dss_cons (ds_asg (i := 2) S.nd rfl (by first | exact .inl rfl | exact .inr rfl) (de_reg (dn_lst da_nil len_nil)))
    (dss_cons (ds_for (passes_of rfl) rfl (di_range1 (by rfl) fc.n_range (da_cons (de_var (pv 1)) da_nil) rfl) (dg_name (i := 3) S.nd rfl (by first | exact .inl rfl | exact .inr rfl)) (dss_cons (ds_asg (i := 4) S.nd rfl (by first | exact .inl rfl | exact .inr rfl) (de_sl (de_call (h__law_word.mono (by decide)) hr (by rfl) (takes_of rfl rfl rfl rfl) (da_cons (de_var (pv 0)) da_nil) (len_cons len_nil)) do_none (do_some de_int)))
    (dss_cons (ds_ownF (ds_lc (i := 5) (by rfl) S.nd rfl rfl rfl (di_str de_str) (blkOk_by (own := [("sign", 6)]) (by first | (show blkC ["pot", "many", "found", "k", "word", "some", "sign", "one"] (defScope s__law_names) _ _ = true; decide +kernel) | rfl | with_unfolding_all rfl)) (fun _ _ _ _ _ => (dg_name (i := 6) S.nd rfl (by first | exact .inl rfl | exact .inr rfl))) (fun _ _ _ _ _ => dts_nil) (fun _ _ _ _ _ => (de_add (de_var (pv 4)) (de_var (pv 6)))) (by decide)))
    (dss_one (ds_expr (de_append (de_var (pv 2)) (da_cons (de_ix (de_frz (dn_lc (by rfl) S.nd (di_seq (de_var (pv 5))) (blkOk_by (own := [("one", 7)]) (by first | (show blkC ["pot", "many", "found", "k", "word", "some", "sign", "one"] (defScope s__law_names) _ _ = true; decide +kernel) | rfl | with_unfolding_all rfl)) (fun _ _ _ _ _ => (dg_name (i := 7) S.nd rfl (by first | exact .inl rfl | exact .inr rfl))) (fun _ _ _ _ _ => (dts_one (dt_w (dw_and (dt_nin (u65 hr) (de_var (pv 7)) (dk_look (de_var (pv 2))) rfl) (dw_and1 (dt_val (de_call (h__law_is_name.mono (by decide)) hr (by rfl) tk0 (da_cons (de_var (pv 7)) da_nil) (len_cons len_nil)))))))) (fun _ _ _ _ _ => (de_var (pv 7))) (by decide))) de_int fun _ _ => rfl) da_nil)))))))
    (dss_one (ds_ret (de_fz (de_var (pv 2))))))))

abbrev s__law_spec : Stmt := (top 33)
theorem sc__law_spec : FnScope (["pot", "most", "names", "thick", "pair"] : List Str) (["pot", "most"] : List Str) (defScope s__law_spec) := ⟨rfl, rfl, rfl, by decide +kernel, rfl, by decide +kernel, by decide +kernel⟩
def q__law_spec_1 : NF :=
  (dLc (dItQ (dCall f__law_pairs (dCons (dOp1 lenD (dLook (dVar 2))) dNil))) (.nm 4) [4] (dCmp eqD (dCall f__law_draw (dCons (dVar 0) (dCons (dVar 3) dNil))) (dC (.int 0))) (dVar 4))
def g__law_spec : SF :=
  (sSeq (sAsg 2 (dCall f__law_names (dCons (dVar 0) (dCons (dOp2 addD (dC (.int 1)) (dCall f__law_draw (dCons (dVar 0) (dCons (dVar 1) dNil)))) dNil))))
  (sSeq (sAsg 3 (dOp2 addD (dC (.int 1)) (dCall f__law_draw (dCons (dVar 0) (dCons (dC (.int 4)) dNil)))))
  (sRet (dFrz (dLst (dCons (dVar 2) (dCons (dFrz q__law_spec_1) dNil)))))))
def f__law_spec : FF := (dFun 5 g__law_spec)
theorem ok__law_spec {f : Addr} {fd : FuncData} (fc : Fc K mg cl wa) (F : FunD K "_law_spec" "_law_spec" (defArgs s__law_spec) (defBody s__law_spec) (defScope s__law_spec) [] [] f fd) (hm : mg "_law_spec" = some (.ref f)) (h__law_draw : Gf P w K mg base cl 1 "_law_draw" 2 f__law_draw) (h__law_names : Gf P w K mg base cl 4 "_law_names" 2 f__law_names) (h__law_pairs : Gf P w K mg base cl 1 "_law_pairs" 1 f__law_pairs) : Gf P w K mg base cl 5 "_law_spec" 2 f__law_spec :=
  have S := sc__law_spec
  (gf_of (k := 4) (N := ["pot", "most", "names", "thick", "pair"]) (ps := ["pot", "most"]) (g := g__law_spec) F S hm (F.bindsN fun _ _ _ _ _ _ us hl => match us, hl with | [_, _], _ => rfl) fun cdv A outer s H E n hr =>
    (dss_cons (ds_asg (i := 2) S.nd rfl (by first | exact .inl rfl | exact .inr rfl) (de_call (h__law_names.mono (by decide)) hr (by rfl) (takes_of rfl rfl rfl rfl) (da_cons (de_var (pv 0)) (da_cons (de_add de_int (de_call (h__law_draw.mono (by decide)) hr (by rfl) (takes_of rfl rfl rfl rfl) (da_cons (de_var (pv 0)) (da_cons (de_var (pv 1)) da_nil)) (len_cons (len_cons len_nil)))) da_nil)) (len_cons (len_cons len_nil))))
    (dss_cons (ds_asg (i := 3) S.nd rfl (by first | exact .inl rfl | exact .inr rfl) (de_add de_int (de_call (h__law_draw.mono (by decide)) hr (by rfl) (takes_of rfl rfl rfl rfl) (da_cons (de_var (pv 0)) (da_cons de_int da_nil)) (len_cons (len_cons len_nil)))))
    (dss_one (ds_ret (de_frz (dn_lst (da_cons (de_var (pv 2)) (da_cons (de_frz (dn_lc (by rfl) S.nd (di_seq (de_call (h__law_pairs.mono (by decide)) hr (by rfl) (takes_of rfl rfl rfl rfl) (da_cons (de_len (by rfl) fc.n_len (dk_look (de_var (pv 2)))) da_nil) (len_cons len_nil))) (blkOk_by (own := [("pair", 4)]) (by first | (show blkC ["pot", "most", "names", "thick", "pair"] (defScope s__law_spec) _ _ = true; decide +kernel) | rfl | with_unfolding_all rfl)) (fun _ _ _ _ _ => (dg_name (i := 4) S.nd rfl (by first | exact .inl rfl | exact .inr rfl))) (fun _ _ _ _ _ => (dts_one (dt_eq (u64 hr) (de_call (h__law_draw.mono (by decide)) hr (by rfl) tk0 (da_cons (de_var (pv 0)) (da_cons (de_var (pv 3)) da_nil)) (len_cons (len_cons len_nil))) de_int))) (fun _ _ _ _ _ => (de_var (pv 4))) (by decide))) da_nil)) (len_cons (len_cons len_nil)))))))))

abbrev s__law_made : Stmt := (top 34)
theorem sc__law_made : FnScope (["spec"] : List Str) (["spec"] : List Str) (defScope s__law_made) := ⟨rfl, rfl, rfl, by decide +kernel, rfl, by decide +kernel, by decide +kernel⟩
def g__law_made : SF :=
  (sRet (dFz (dMake 0 f_Web_init (dCons (dFrz (dNw1 listD (dLook (dIx (dVar 0) (dC (.int 0)))))) (dCons (dFrz (dNw1 listD (dLook (dIx (dVar 0) (dC (.int 1)))))) dNil)))))
def f__law_made : FF := fGc (dFun 1 g__law_made)
theorem ok__law_made {f : Addr} {fd : FuncData} (fc : Fc K mg cl wa) (F : FunD K "_law_made" "_law_made" (defArgs s__law_made) (defBody s__law_made) (defScope s__law_made) [] [] f fd) (hm : mg "_law_made" = some (.ref f)) (h_Web_init : Gi P w K mg base cl 4 "Web" 0 3 f_Web_init) : Gf P w K mg base cl 6 "_law_made" 1 f__law_made :=
  have S := sc__law_made
  Gf.gc (gf_of (k := 5) (N := ["spec"]) (ps := ["spec"]) (g := g__law_made) F S hm (F.bindsN fun _ _ _ _ _ _ us hl => match us, hl with | [_], _ => rfl) fun cdv A outer s H E n hr =>
    (dss_one (ds_ret (de_fz (de_make (h_Web_init.mono (by decide)) hr (by rfl) (takes_of rfl rfl rfl rfl) (da_cons (de_frz (dn_list (by rfl) fc.n_list (dk_look (de_ix (de_var (pv 0)) de_int fun _ _ => rfl)))) (da_cons (de_frz (dn_list (by rfl) fc.n_list (dk_look (de_ix (de_var (pv 0)) de_int fun _ _ => rfl)))) da_nil)) (len_cons (len_cons len_nil)))))))

abbrev s__law_lines : Stmt := (top 35)
theorem sc__law_lines : FnScope (["spec", "name", "a", "b"] : List Str) (["spec"] : List Str) (defScope s__law_lines) := ⟨rfl, rfl, rfl, by decide +kernel, rfl, by decide +kernel, by decide +kernel⟩
def q__law_lines_1 : NF :=
  (dLc (dItQ (dIx (dVar 0) (dC (.int 0)))) (.nm 1) [1] dYes (dOp2 addD (dC (.str "spot ")) (dVar 1)))
def q__law_lines_2 : NF :=
  (dLc (dItQ (dFrz (dNw1 sortedD (dLook (dIx (dVar 0) (dC (.int 1))))))) (.tp [2, 3]) [2, 3] dYes (dOp2 addD (dOp2 addD (dOp2 addD (dC (.str "road ")) (dIx (dIx (dVar 0) (dC (.int 0))) (dVar 2))) (dC (.str " "))) (dIx (dIx (dVar 0) (dC (.int 0))) (dVar 3))))
def g__law_lines : SF :=
  (sRet (dOp2 addD (dOp2 addD (dFrz q__law_lines_1) (dFrz q__law_lines_2)) (dFrz (dLst (dCons (dC (.str "over")) dNil)))))
def f__law_lines : FF := (dFun 4 g__law_lines)
theorem ok__law_lines {f : Addr} {fd : FuncData} (fc : Fc K mg cl wa) (F : FunD K "_law_lines" "_law_lines" (defArgs s__law_lines) (defBody s__law_lines) (defScope s__law_lines) [] [] f fd) (hm : mg "_law_lines" = some (.ref f)) : Gf P w K mg base cl 1 "_law_lines" 1 f__law_lines :=
  have S := sc__law_lines
  (gf_of (k := 0) (N := ["spec", "name", "a", "b"]) (ps := ["spec"]) (g := g__law_lines) F S hm (F.bindsN fun _ _ _ _ _ _ us hl => match us, hl with | [_], _ => rfl) fun cdv A outer s H E n hr =>
    (dss_one (ds_ret (de_add (de_add (de_frz (dn_lc (by rfl) S.nd (di_seq (de_ix (de_var (pv 0)) de_int fun _ _ => rfl)) (blkOk_by (own := [("name", 1)]) (by first | (show blkC ["spec", "name", "a", "b"] (defScope s__law_lines) _ _ = true; decide +kernel) | rfl | with_unfolding_all rfl)) (fun _ _ _ _ _ => (dg_name (i := 1) S.nd rfl (by first | exact .inl rfl | exact .inr rfl))) (fun _ _ _ _ _ => dts_nil) (fun _ _ _ _ _ => (de_add de_str (de_var (pv 1)))) (by decide))) (de_frz (dn_lc (by rfl) S.nd (di_seq (de_frz (dn_sorted (u64 hr) (by rfl) fc.n_sorted (dk_look (de_ix (de_var (pv 0)) de_int fun _ _ => rfl))))) (blkOk_by (own := [("a", 2), ("b", 3)]) (by first | (show blkC ["spec", "name", "a", "b"] (defScope s__law_lines) _ _ = true; decide +kernel) | rfl | with_unfolding_all rfl)) (fun _ _ _ _ _ => (dg_tup rfl (dgs_cons (i := 2) S.nd rfl (by first | exact .inl rfl | exact .inr rfl) (dgs_cons (i := 3) S.nd rfl (by first | exact .inl rfl | exact .inr rfl) dgs_nil)))) (fun _ _ _ _ _ => dts_nil) (fun _ _ _ _ _ => (de_add (de_add (de_add de_str (de_ix (de_ix (de_var (pv 0)) de_int fun _ _ => rfl) (de_var (pv 2)) fun _ _ => rfl)) de_str) (de_ix (de_ix (de_var (pv 0)) de_int fun _ _ => rfl) (de_var (pv 3)) fun _ _ => rfl))) (by decide)))) (de_frz (dn_lst (da_cons de_str da_nil) (len_cons len_nil)))))))

abbrev s__law_text_of : Stmt := (top 36)
theorem sc__law_text_of : FnScope (["spec", "line"] : List Str) (["spec"] : List Str) (defScope s__law_text_of) := ⟨rfl, rfl, rfl, by decide +kernel, rfl, by decide +kernel, by decide +kernel⟩
def q__law_text_of_1 : NF :=
  (dLc (dItQ (dCall f__law_lines (dCons (dVar 0) dNil))) (.nm 1) [1] dYes (dOp2 addD (dVar 1) (dC (.str "\n"))))
def g__law_text_of : SF :=
  (sRet (dM1 "str" joinD (dC (.str "")) (dFrz q__law_text_of_1)))
def f__law_text_of : FF := (dFun 2 g__law_text_of)
theorem ok__law_text_of {f : Addr} {fd : FuncData} (fc : Fc K mg cl wa) (F : FunD K "_law_text_of" "_law_text_of" (defArgs s__law_text_of) (defBody s__law_text_of) (defScope s__law_text_of) [] [] f fd) (hm : mg "_law_text_of" = some (.ref f)) (h__law_lines : Gf P w K mg base cl 1 "_law_lines" 1 f__law_lines) : Gf P w K mg base cl 2 "_law_text_of" 1 f__law_text_of :=
  have S := sc__law_text_of
  (gf_of (k := 1) (N := ["spec", "line"]) (ps := ["spec"]) (g := g__law_text_of) F S hm (F.bindsN fun _ _ _ _ _ _ us hl => match us, hl with | [_], _ => rfl) fun cdv A outer s H E n hr =>
    (dss_one (ds_ret (de_join de_str (de_frz (dn_lc (by rfl) S.nd (di_seq (de_call (h__law_lines.mono (by decide)) hr (by rfl) (takes_of rfl rfl rfl rfl) (da_cons (de_var (pv 0)) da_nil) (len_cons len_nil))) (blkOk_by (own := [("line", 1)]) (by first | (show blkC ["spec", "line"] (defScope s__law_text_of) _ _ = true; decide +kernel) | rfl | with_unfolding_all rfl)) (fun _ _ _ _ _ => (dg_name (i := 1) S.nd rfl (by first | exact .inl rfl | exact .inr rfl))) (fun _ _ _ _ _ => dts_nil) (fun _ _ _ _ _ => (de_add (de_var (pv 1)) de_str)) (by decide)))))))

abbrev s_Web_eq : Stmt := (inC (top 18) 1)
theorem sc_Web_eq : FnScope (["self", "other"] : List Str) (["self", "other"] : List Str) (defScope s_Web_eq) := ⟨rfl, rfl, rfl, by decide +kernel, rfl, by decide +kernel, by decide +kernel⟩
def g_Web_eq : SF :=
  (sRet (dB2v (dAnd (dIsC 0 (dLook (dVar 1))) (dAnd (dCmp eqD (dOp1 (attrD "spots") (dLook (dVar 0))) (dOp1 (attrD "spots") (dLook (dVar 1)))) (dCmp eqD (dOp1 (attrD "roads") (dLook (dVar 0))) (dOp1 (attrD "roads") (dLook (dVar 1))))))))
def f_Web_eq : FF := (dFun 2 g_Web_eq)
theorem ok_Web_eq {f : Addr} {fd : FuncData} (fc : Fc K mg cl wa) (F : FunD K "__eq__" "Web.__eq__" (defArgs s_Web_eq) (defBody s_Web_eq) (defScope s_Web_eq) [] [] f fd) (me : Meth K (cl 0) "__eq__" f) (h0 : cl 0 ≠ 0) : Gm P w K mg base cl 1 0 "__eq__" 2 f_Web_eq :=
  have S := sc_Web_eq
  ⟨f, fd, ["self", "other"], fn_body (k := 0) (N := ["self", "other"]) (ps := ["self", "other"]) (g := g_Web_eq) F S fun cdv A outer s H E n hr =>
    (dss_one (ds_ret (de_and (de_isC fc.hC fc.hI0 (by rfl) fc.n_isinstance (dk_look (de_var (pv 1))) (pe_gv (by rfl) fc.c_Web)) (de_and (de_eq (u64 hr) (de_attr fc.hC (fc.at_spots) (dk_look (de_var (pv 0))) rfl) (de_attr fc.hC (fc.at_spots) (dk_look (de_var (pv 1))) rfl)) (de_one (de_eq (u64 hr) (de_attr fc.hC (fc.at_roads) (dk_look (de_var (pv 0))) rfl) (de_attr fc.hC (fc.at_roads) (dk_look (de_var (pv 1))) rfl))))))), me, (fc.hC _ h0).cl, F.bindsN fun _ _ _ _ _ _ us hl => match us, hl with | [_, _], _ => rfl⟩

abbrev s_law : Stmt := (top 37)
theorem sc_law : FnScope (["script", "pot", "turn", "spec", "roads", "lines", "again", "made", "due", "a", "b", "name", "line"] : List Str) (["script"] : List Str) (defScope s_law) := ⟨rfl, rfl, rfl, by decide +kernel, rfl, by decide +kernel, by decide +kernel⟩
def b_law_1 : SF :=
  (sExpr (dMut appD (dVar 4) (dCons (dOp2 addD (dC (.str "road ")) (dM1 "str" joinD (dC (.str " ")) (dCall f__law_mixed (dCons (dVar 1) (dCons (dFrz (dLst (dCons (dIx (dIx (dVar 3) (dC (.int 0))) (dVar 9)) (dCons (dIx (dIx (dVar 3) (dC (.int 0))) (dVar 10)) dNil)))) dNil))))) dNil)))
def q_law_1 : NF :=
  (dLc (dItQ (dIx (dVar 3) (dC (.int 0)))) (.nm 11) [11] dYes (dOp2 addD (dC (.str "spot ")) (dVar 11)))
def q_law_2 : NF :=
  (dLc (dItQ (dVar 5)) (.nm 12) [12] dYes (dOp2 addD (dVar 12) (dC (.str "\n"))))
def b_law_2 : SF :=
  (sSeq (sAsg 3 (dCall f__law_spec (dCons (dVar 1) (dCons (dC (.int 9)) dNil))))
  (sSeq (sPar 7 8 (dCall f__law_made (dCons (dVar 3) dNil)) (dCall f__law_text_of (dCons (dVar 3) dNil)))
  (sSeq (sAsg 4 (dReg (dLst dNil)))
  (sSeq (sFor (dItQ (dCall f__law_mixed (dCons (dVar 1) (dCons (dIx (dVar 3) (dC (.int 1))) dNil)))) (.tp [9, 10]) b_law_1)
  (sSeq (sAsg 5 (dOp2 addD (dOp2 addD (dFrz q_law_1) (dFz (dVar 4))) (dFrz (dLst (dCons (dC (.str "over")) dNil)))))
  (sSeq (sAsg 6 (dCall f_read_web (dCons (dVar 8) dNil)))
  (sSeq (sIf (dOr (dNot (dTst (dCall f__law_same (dCons (dCall f_web_text (dCons (dVar 7) dNil)) (dCons (dVar 8) dNil))))) (dOr (dEqO true 0 f_Web_eq (dVar 6) (dVar 7)) (dEqO true 0 f_Web_eq (dCall f_read_web (dCons (dM1 "str" joinD (dC (.str "")) (dFrz q_law_2)) dNil)) (dVar 7)))) (sRet (dC (.bl false))) sSkip)
  (sIf (dNot (dTst (dCall f__law_same (dCons (dFrz (dLst (dCons (dOp1 (attrD "spots") (dLook (dVar 6))) (dCons (dOp1 (attrD "roads") (dLook (dVar 6))) dNil)))) (dCons (dFrz (dLst (dCons (dOp1 tupleD (dLook (dIx (dVar 3) (dC (.int 0))))) (dCons (dOp1 tupleD (dLook (dFrz (dNw1 sortedD (dLook (dIx (dVar 3) (dC (.int 1)))))))) dNil)))) dNil))))) (sRet (dC (.bl false))) sSkip))))))))
def g_law : SF :=
  (sSeq (sAsg 1 (dCall f__law_pot (dCons (dVar 0) dNil)))
  (sSeq (sFor (dRg1 (dC (.int 6))) (.nm 2) b_law_2)
  (sRet (dC (.bl true)))))
def f_law : FF := dFun 13 g_law
theorem ok_law {f : Addr} {fd : FuncData} (fc : Fc K mg cl wa) (F : FunD K "law" "law" (defArgs s_law) (defBody s_law) (defScope s_law) [] [] f fd) (h__law_pot : Gf P w K mg base cl 1 "_law_pot" 1 f__law_pot) (h__law_spec : Gf P w K mg base cl 5 "_law_spec" 2 f__law_spec) (h__law_made : Gf P w K mg base cl 6 "_law_made" 1 f__law_made) (h__law_text_of : Gf P w K mg base cl 2 "_law_text_of" 1 f__law_text_of) (h__law_mixed : Gf P w K mg base cl 2 "_law_mixed" 2 f__law_mixed) (h_read_web : Gf P w K mg base cl 6 "read_web" 1 f_read_web) (h_web_text : Gf P w K mg base cl 1 "web_text" 1 f_web_text) (h__law_same : Gf P w K mg base cl 7 "_law_same" 2 f__law_same) (h_Web_eq : Gm P w K mg base cl 1 0 "__eq__" 2 f_Web_eq) : FnOk P w K mg base (L2.CX P w) 8 f fd ["script"] (spD ⟨K, cl⟩ 1 f_law) :=
  have S := sc_law
  fn_body (k := 7) (N := ["script", "pot", "turn", "spec", "roads", "lines", "again", "made", "due", "a", "b", "name", "line"]) (ps := ["script"]) (g := g_law) F S fun cdv A outer s H E n hr =>
    (dss_cons (ds_asg (i := 1) S.nd rfl (by first | exact .inl rfl | exact .inr rfl) (de_call (h__law_pot.mono (by decide)) hr (by rfl) (takes_of rfl rfl rfl rfl) (da_cons (de_var (pv 0)) da_nil) (len_cons len_nil)))
    (dss_cons (ds_for (passes_of rfl) rfl (di_range1 (by rfl) fc.n_range (da_cons de_int da_nil) rfl) (dg_name (i := 2) S.nd rfl (by first | exact .inl rfl | exact .inr rfl)) (dss_cons (ds_asg (i := 3) S.nd rfl (by first | exact .inl rfl | exact .inr rfl) (de_call (h__law_spec.mono (by decide)) hr (by rfl) (takes_of rfl rfl rfl rfl) (da_cons (de_var (pv 1)) (da_cons de_int da_nil)) (len_cons (len_cons len_nil))))
    (dss_cons (ds_par (i := 7) (j := 8) rfl S.nd rfl rfl (by decide) rfl rfl (de_call (h__law_made.mono (by decide)) hr (by rfl) (takes_of rfl rfl rfl rfl) (da_cons (de_var (pv 3)) da_nil) (len_cons len_nil)) (de_call (h__law_text_of.mono (by decide)) hr (by rfl) (takes_of rfl rfl rfl rfl) (da_cons (de_var (pv 3)) da_nil) (len_cons len_nil)))
    (dss_cons (ds_asg (i := 4) S.nd rfl (by first | exact .inl rfl | exact .inr rfl) (de_reg (dn_lst da_nil len_nil)))
    (dss_cons (ds_for (passes_of rfl) rfl (di_seq (de_call (h__law_mixed.mono (by decide)) hr (by rfl) (takes_of rfl rfl rfl rfl) (da_cons (de_var (pv 1)) (da_cons (de_ix (de_var (pv 3)) de_int fun _ _ => rfl) da_nil)) (len_cons (len_cons len_nil)))) (dg_tup rfl (dgs_cons (i := 9) S.nd rfl (by first | exact .inl rfl | exact .inr rfl) (dgs_cons (i := 10) S.nd rfl (by first | exact .inl rfl | exact .inr rfl) dgs_nil))) (dss_one (ds_expr (de_append (de_var (pv 4)) (da_cons (de_add de_str (de_join de_str (de_call (h__law_mixed.mono (by decide)) hr (by rfl) (takes_of rfl rfl rfl rfl) (da_cons (de_var (pv 1)) (da_cons (de_frz (dn_lst (da_cons (de_ix (de_ix (de_var (pv 3)) de_int fun _ _ => rfl) (de_var (pv 9)) fun _ _ => rfl) (da_cons (de_ix (de_ix (de_var (pv 3)) de_int fun _ _ => rfl) (de_var (pv 10)) fun _ _ => rfl) da_nil)) (len_cons (len_cons len_nil)))) da_nil)) (len_cons (len_cons len_nil))))) da_nil)))))
    (dss_cons (ds_asg (i := 5) S.nd rfl (by first | exact .inl rfl | exact .inr rfl) (de_add (de_add (de_frz (dn_lc (by rfl) S.nd (di_seq (de_ix (de_var (pv 3)) de_int fun _ _ => rfl)) (blkOk_by (own := [("name", 11)]) (by first | (show blkC ["script", "pot", "turn", "spec", "roads", "lines", "again", "made", "due", "a", "b", "name", "line"] (defScope s_law) _ _ = true; decide +kernel) | rfl | with_unfolding_all rfl)) (fun _ _ _ _ _ => (dg_name (i := 11) S.nd rfl (by first | exact .inl rfl | exact .inr rfl))) (fun _ _ _ _ _ => dts_nil) (fun _ _ _ _ _ => (de_add de_str (de_var (pv 11)))) (by decide))) (de_fz (de_var (pv 4)))) (de_frz (dn_lst (da_cons de_str da_nil) (len_cons len_nil)))))
    (dss_cons (ds_asg (i := 6) S.nd rfl (by first | exact .inl rfl | exact .inr rfl) (de_call (h_read_web.mono (by decide)) hr (by rfl) (takes_of rfl rfl rfl rfl) (da_cons (de_var (pv 8)) da_nil) (len_cons len_nil)))
    (dss_cons (ds_if (dt_w (dw_or (dt_not (dt_val (de_call (h__law_same.mono (by decide)) hr (by rfl) (takes_of rfl rfl rfl rfl) (da_cons (de_call (h_web_text.mono (by decide)) hr (by rfl) (takes_of rfl rfl rfl rfl) (da_cons (de_var (pv 7)) da_nil) (len_cons len_nil)) (da_cons (de_var (pv 8)) da_nil)) (len_cons (len_cons len_nil))))) (dw_or (dt_neO (h_Web_eq.mono (by decide)) hr fc.hC fc.hE0 fc.hN0 (de_var (pv 6)) (de_var (pv 7))) (dw_or1 (dt_neO (h_Web_eq.mono (by decide)) hr fc.hC fc.hE0 fc.hN0 (de_call (h_read_web.mono (by decide)) hr (by rfl) (takes_of rfl rfl rfl rfl) (da_cons (de_join de_str (de_frz (dn_lc (by rfl) S.nd (di_seq (de_var (pv 5))) (blkOk_by (own := [("line", 12)]) (by first | (show blkC ["script", "pot", "turn", "spec", "roads", "lines", "again", "made", "due", "a", "b", "name", "line"] (defScope s_law) _ _ = true; decide +kernel) | rfl | with_unfolding_all rfl)) (fun _ _ _ _ _ => (dg_name (i := 12) S.nd rfl (by first | exact .inl rfl | exact .inr rfl))) (fun _ _ _ _ _ => dts_nil) (fun _ _ _ _ _ => (de_add (de_var (pv 12)) de_str)) (by decide)))) da_nil) (len_cons len_nil)) (de_var (pv 7))))))) (dss_one (ds_ret de_bl)) dss_nil)
    (dss_one (ds_if (dt_not (dt_val (de_call (h__law_same.mono (by decide)) hr (by rfl) (takes_of rfl rfl rfl rfl) (da_cons (de_frz (dn_lst (da_cons (de_attr fc.hC (fc.at_spots) (dk_look (de_var (pv 6))) rfl) (da_cons (de_attr fc.hC (fc.at_roads) (dk_look (de_var (pv 6))) rfl) da_nil)) (len_cons (len_cons len_nil)))) (da_cons (de_frz (dn_lst (da_cons (de_tuple (by rfl) fc.n_tuple (dk_look (de_ix (de_var (pv 3)) de_int fun _ _ => rfl))) (da_cons (de_tuple (by rfl) fc.n_tuple (dk_look (de_frz (dn_sorted (u64 hr) (by rfl) fc.n_sorted (dk_look (de_ix (de_var (pv 3)) de_int fun _ _ => rfl)))))) da_nil)) (len_cons (len_cons len_nil)))) da_nil)) (len_cons (len_cons len_nil))))) (dss_one (ds_ret de_bl)) dss_nil))))))))))
    (dss_one (ds_ret de_bl))))

end
end DL
end

section
set_option Elab.async false
set_option linter.all false
set_option maxRecDepth 100000
set_option maxHeartbeats 4000000
namespace DL
open PySem
/-! the plain law of k02: draws -/
structure Pot where
  cells : List Int
  i : Int
  m : Int
  d : Int
def Pot.mo (p : Pot) : MO := .lst [.lst (p.cells.map .int), .int p.i, .int p.m, .int p.d]
def mus (p : Pot) (r : Store) : Store := some p.mo :: r
structure Pot.Ok (p : Pot) : Prop where
  i0 : 0 ≤ p.i
  len : p.cells.length ≤ 63
  pos : ∀ c ∈ p.cells, 0 ≤ c
  m0 : 0 ≤ p.m
  m1 : p.m < 2147483648
  d0 : 0 ≤ p.d
theorem draw_ok {p : Pot} (h : p.Ok) {many : Int} (h0 : 0 ≤ many) (h1 : many < 2147483648) (r : Store) :
    ∃ v p', f__law_draw [.obj 0, .int many] (mus p r) = .ok (.int v) (mus p' r) ∧ p'.Ok ∧ 0 ≤ v ∧ (v < many ∨ v = 0) := by
  by_cases c1 : many < 2
  · exact ⟨0, p, by simp [f__law_draw, g__law_draw, dFun, sSeq, snext, sIf, sbind, sAsg, sRet, sSkip, sExpr, sPar, sSetI, sSetA, sAug, sFor, sTg, dVar, dC, dNil, dCons, dBind, obind, dTup, dLst, dFrz, MO.d, dReg, dFz, dOp1, dOp2, dCmp, dB2v, dTst, dAnd, dOr, dNot, dIf, dCall, dIx, dLook, lookD, dIsi, dIsi2, dIsC, dIn, dChn, dMut, lstOf, putO, dM1, tyOk, dNw1, dNw2, dSl, dP, dNoP, dIsN, dItQ, dItS, dRg1, dRg2, dEnum, dLc, dYes, noex, Tg.run, gSets, List.length_map, List.length_cons, List.length_nil, List.map_cons, List.map_nil, ltD, c1], h, by omega, by omega⟩
  by_cases c2 : 0 < p.d
  · refine ⟨p.d % many, { p with d := p.d / many }, ?_, ⟨h.i0, h.len, h.pos, h.m0, h.m1, Int.ediv_nonneg h.d0 h0⟩, Int.emod_nonneg _ (by omega), .inl (Int.emod_lt_of_pos _ (by omega))⟩
    have e1 : (0 : Int) < many := by omega
    have e2 : many < 1152921504606846976 := by omega
    simp [f__law_draw, g__law_draw, dFun, sSeq, snext, sIf, sbind, sAsg, sRet, sSkip, sExpr, sPar, sSetI, sSetA, sAug, sFor, sTg, dVar, dC, dNil, dCons, dBind, obind, dTup, dLst, dFrz, MO.d, dReg, dFz, dOp1, dOp2, dCmp, dB2v, dTst, dAnd, dOr, dNot, dIf, dCall, dIx, dLook, lookD, dIsi, dIsi2, dIsC, dIn, dChn, dMut, lstOf, putO, dM1, tyOk, dNw1, dNw2, dSl, dP, dNoP, dIsN, dItQ, dItS, dRg1, dRg2, dEnum, dLc, dYes, noex, Tg.run, gSets, List.length_map, List.length_cons, List.length_nil, List.map_cons, List.map_nil, ltD, gtI, cmpI, c1, c2, mus, Pot.mo, ixD, L2.atI, L2.ixN, setD, intD, arI, e1, e2]
  by_cases c3 : p.i < p.cells.length
  · obtain ⟨j, ej⟩ : ∃ j : Nat, p.i = (j : Int) := ⟨p.i.toNat, by have := h.i0; omega⟩
    have hj : j < p.cells.length := by omega
    have hc : 0 ≤ p.cells[j] := h.pos _ (List.getElem_mem hj)
    have e1 : (0 : Int) < many := by omega
    have e2 : many < 1152921504606846976 := by omega
    by_cases c4 : (1000000000000000000 : Int) ≤ p.cells[j]
    · refine ⟨p.cells[j] % many, { p with i := p.i + 1, d := p.cells[j] / many }, ?_, ⟨by have := h.i0; show 0 ≤ p.i + 1; omega, h.len, h.pos, h.m0, h.m1, Int.ediv_nonneg hc h0⟩, Int.emod_nonneg _ (by omega), .inl (Int.emod_lt_of_pos _ (by omega))⟩
      simp [f__law_draw, g__law_draw, dFun, sSeq, snext, sIf, sbind, sAsg, sRet, sSkip, sExpr, sPar, sSetI, sSetA, sAug, sFor, sTg, dVar, dC, dNil, dCons, dBind, obind, dTup, dLst, dFrz, MO.d, dReg, dFz, dOp1, dOp2, dCmp, dB2v, dTst, dAnd, dOr, dNot, dIf, dCall, dIx, dLook, lookD, dIsi, dIsi2, dIsC, dIn, dChn, dMut, lstOf, putO, dM1, tyOk, dNw1, dNw2, dSl, dP, dNoP, dIsN, dItQ, dItS, dRg1, dRg2, dEnum, dLc, dYes, noex, Tg.run, gSets, List.length_map, List.length_cons, List.length_nil, List.map_cons, List.map_nil, ltD, gtI, geI, cmpI, c1, c2, c3, c4, mus, Pot.mo, ixD, L2.atI, L2.ixN, setD, intD, arI, e1, e2, lenD, addD, ej, hj]
    · have hm : 0 ≤ (p.m * 48271 + p.cells[j] + 12345) % 2147483647 := Int.emod_nonneg _ (by omega)
      have hm2 : (p.m * 48271 + p.cells[j] + 12345) % 2147483647 < 2147483647 := Int.emod_lt_of_pos _ (by omega)
      have m1 : -18446744073709551616 < p.m := by have := h.m0; omega
      have m2 : p.m < 18446744073709551616 := by have := h.m1; omega
      refine ⟨(((p.m * 48271 + p.cells[j] + 12345) % 2147483647) * ((p.m * 48271 + p.cells[j] + 12345) % 2147483647) / 64 + ((p.m * 48271 + p.cells[j] + 12345) % 2147483647) / 7) % many, { p with i := p.i + 1, m := (p.m * 48271 + p.cells[j] + 12345) % 2147483647 }, ?_, ⟨by have := h.i0; show 0 ≤ p.i + 1; omega, h.len, h.pos, hm, by show (p.m * 48271 + p.cells[j] + 12345) % 2147483647 < 2147483648; omega, h.d0⟩, Int.emod_nonneg _ (by omega), .inl (Int.emod_lt_of_pos _ (by omega))⟩
      have m3 : -18446744073709551616 < (p.m * 48271 + p.cells[j] + 12345) % 2147483647 := by omega
      have m4 : (p.m * 48271 + p.cells[j] + 12345) % 2147483647 < 18446744073709551616 := by omega
      simp [f__law_draw, g__law_draw, dFun, sSeq, snext, sIf, sbind, sAsg, sRet, sSkip, sExpr, sPar, sSetI, sSetA, sAug, sFor, sTg, dVar, dC, dNil, dCons, dBind, obind, dTup, dLst, dFrz, MO.d, dReg, dFz, dOp1, dOp2, dCmp, dB2v, dTst, dAnd, dOr, dNot, dIf, dCall, dIx, dLook, lookD, dIsi, dIsi2, dIsC, dIn, dChn, dMut, lstOf, putO, dM1, tyOk, dNw1, dNw2, dSl, dP, dNoP, dIsN, dItQ, dItS, dRg1, dRg2, dEnum, dLc, dYes, noex, Tg.run, gSets, List.length_map, List.length_cons, List.length_nil, List.map_cons, List.map_nil, ltD, gtI, geI, cmpI, c1, c2, c3, c4, mus, Pot.mo, ixD, L2.atI, L2.ixN, setD, intD, arI, e1, e2, lenD, addD, mulD, ej, hj, m1, m2, m3, m4]
  · have hm : 0 ≤ (p.m * 48271 + 0 + 12345) % 2147483647 := Int.emod_nonneg _ (by omega)
    have hm2 : (p.m * 48271 + 0 + 12345) % 2147483647 < 2147483647 := Int.emod_lt_of_pos _ (by omega)
    have m1 : -18446744073709551616 < p.m := by have := h.m0; omega
    have m2 : p.m < 18446744073709551616 := by have := h.m1; omega
    have e1 : (0 : Int) < many := by omega
    have e2 : many < 1152921504606846976 := by omega
    have m3 : -18446744073709551616 < (p.m * 48271 + 12345) % 2147483647 := by omega
    have m4 : (p.m * 48271 + 12345) % 2147483647 < 18446744073709551616 := by omega
    refine ⟨(((p.m * 48271 + 12345) % 2147483647) * ((p.m * 48271 + 12345) % 2147483647) / 64 + ((p.m * 48271 + 12345) % 2147483647) / 7) % many, { p with m := (p.m * 48271 + 12345) % 2147483647 }, ?_, ⟨h.i0, h.len, h.pos, by simpa using hm, by show (p.m * 48271 + 12345) % 2147483647 < 2147483648; omega, h.d0⟩, Int.emod_nonneg _ (by omega), .inl (Int.emod_lt_of_pos _ (by omega))⟩
    simp [f__law_draw, g__law_draw, dFun, sSeq, snext, sIf, sbind, sAsg, sRet, sSkip, sExpr, sPar, sSetI, sSetA, sAug, sFor, sTg, dVar, dC, dNil, dCons, dBind, obind, dTup, dLst, dFrz, MO.d, dReg, dFz, dOp1, dOp2, dCmp, dB2v, dTst, dAnd, dOr, dNot, dIf, dCall, dIx, dLook, lookD, dIsi, dIsi2, dIsC, dIn, dChn, dMut, lstOf, putO, dM1, tyOk, dNw1, dNw2, dSl, dP, dNoP, dIsN, dItQ, dItS, dRg1, dRg2, dEnum, dLc, dYes, noex, Tg.run, gSets, List.length_map, List.length_cons, List.length_nil, List.map_cons, List.map_nil, ltD, gtI, geI, cmpI, c1, c2, c3, mus, Pot.mo, ixD, L2.atI, L2.ixN, setD, intD, arI, e1, e2, lenD, addD, mulD, m1, m2, m3, m4]
end DL
end

section
set_option Elab.async false
set_option linter.all false
set_option maxRecDepth 100000
set_option maxHeartbeats 4000000
namespace DL
open PySem
/-! the plain law of k02: picks, words -/
theorem pick_lst {p : Pot} (h : p.Ok) {l : List D} (h0 : l ≠ []) (h1 : l.length < 2147483648) (r : Store) :
    ∃ d p', f__law_pick [.obj 0, .lst l] (mus p r) = .ok d (mus p' r) ∧ p'.Ok ∧ d ∈ l := by
  obtain ⟨v, p', e, ok, v0, v1⟩ := draw_ok h (many := (l.length : Int)) (by omega) (by omega) r
  have hl : 0 < l.length := List.length_pos_iff.mpr h0
  have hv : v < (l.length : Int) := by omega
  obtain ⟨j, ej⟩ : ∃ j : Nat, v = (j : Int) := ⟨v.toNat, by omega⟩
  subst ej
  have hj : j < l.length := by omega
  refine ⟨l[j], p', ?_, ok, List.getElem_mem hj⟩
  simp [f__law_pick, g__law_pick, dFun, sSeq, snext, sIf, sbind, sAsg, sRet, sSkip, sExpr, sPar, sSetI, sSetA, sAug, sFor, sTg, dVar, dC, dNil, dCons, dBind, obind, dTup, dLst, dFrz, MO.d, dReg, dFz, dOp1, dOp2, dCmp, dB2v, dTst, dAnd, dOr, dNot, dIf, dCall, dIx, dLook, lookD, dIsi, dIsi2, dIsC, dIn, dChn, dMut, lstOf, putO, dM1, tyOk, dNw1, dNw2, dSl, dP, dNoP, dIsN, dItQ, dItS, dRg1, dRg2, dEnum, dLc, dYes, noex, Tg.run, gSets, List.length_map, List.length_cons, List.length_nil, List.map_cons, List.map_nil, lenD, e, ixD, L2.atI, L2.ixN, hj]
theorem pick_str {p : Pot} (h : p.Ok) {z : Str} (h0 : z.length ≠ 0) (h1 : z.length ≤ 16000000) (r : Store) :
    ∃ c p', f__law_pick [.obj 0, .str z] (mus p r) = .ok (.str ⟨#[c]⟩) (mus p' r) ∧ p'.Ok ∧ c ∈ z.cps.toList := by
  obtain ⟨v, p', e, ok, v0, v1⟩ := draw_ok h (many := (z.length : Int)) (by omega) (by omega) r
  have hv : v < (z.length : Int) := by omega
  obtain ⟨j, ej⟩ : ∃ j : Nat, v = (j : Int) := ⟨v.toNat, by omega⟩
  subst ej
  have hj : j < z.length := by omega
  have hj' : j < z.cps.size := hj
  have hs : z.length = z.cps.size := rfl
  refine ⟨z.cps[j], p', ?_, ok, by simp⟩
  simp [f__law_pick, g__law_pick, dFun, sSeq, snext, sIf, sbind, sAsg, sRet, sSkip, sExpr, sPar, sSetI, sSetA, sAug, sFor, sTg, dVar, dC, dNil, dCons, dBind, obind, dTup, dLst, dFrz, MO.d, dReg, dFz, dOp1, dOp2, dCmp, dB2v, dTst, dAnd, dOr, dNot, dIf, dCall, dIx, dLook, lookD, dIsi, dIsi2, dIsC, dIn, dChn, dMut, lstOf, putO, dM1, tyOk, dNw1, dNw2, dSl, dP, dNoP, dIsN, dItQ, dItS, dRg1, dRg2, dEnum, dLc, dYes, noex, Tg.run, gSets, List.length_map, List.length_cons, List.length_nil, List.map_cons, List.map_nil, lenD, h1, e, ixD, L2.atI, L2.ixN]
  simp [hj']
def signs : Str := "abcdefghijklmnopqrstuvwxyz"
theorem signs_len : signs.length = 26 := by decide +kernel
/-- a word of letters -/
def lett (x : Str) : Prop := ∀ c ∈ x.cps.toList, c ∈ signs.cps.toList
def lettersD (cs : List Nat) : List D := cs.map fun c => .str ⟨#[c]⟩
theorem word_loop (r : Store) : ∀ (ds : List D) (acc : List Nat) (p : Pot) (sw : Sl), p.Ok → sw.length = 3 → sw[0]? = some (some (.val (.obj 0))) → (∀ c ∈ acc, c ∈ signs.cps.toList) →
    ∃ cs p', dLcL (.nm 2) sw dYes (dCall f__law_pick (dCons (dVar 0) (dCons (dC (.str signs)) dNil))) ds (lettersD acc) (mus p r) = .ok (.lst (lettersD cs)) (mus p' r) ∧ p'.Ok ∧ (∀ c ∈ cs, c ∈ signs.cps.toList) ∧ cs.length = acc.length + ds.length
  | [], acc, p, sw, h, hl, hs, ha => ⟨acc, p, rfl, h, ha, rfl⟩
  | d :: ds, acc, p, sw, h, hl, hs, ha => by
    obtain ⟨c, p1, e, ok, hc⟩ := pick_str h (z := signs) (by rw [signs_len]; decide) (by rw [signs_len]; decide) r
    obtain ⟨cs, p', e2, ok2, h2, h3⟩ := word_loop r ds (acc ++ [c]) p1 sw ok hl hs (fun x hx => by rcases List.mem_append.mp hx with hx | hx; exact ha x hx; rw [List.mem_singleton] at hx; subst hx; exact hc)
    refine ⟨cs, p', ?_, ok2, h2, by rw [h3]; simp; omega⟩
    have hs2 : (sw.set 2 (some (.val d)))[0]? = some (some (.val (.obj 0))) := by rw [List.getElem?_set_ne (by decide)]; exact hs
    rw [← e2]
    conv => lhs; unfold dLcL
    simp [Tg.run, dYes, noex, obind, dCall, dBind, dCons, dVar, dC, dNil, hs2, e, lettersD]
theorem joinL_nil : ∀ L : List (List Nat), TL.joinL [] L = L.flatten
  | [] => rfl
  | [p] => by simp [TL.joinL]
  | p :: q :: r => by
    have := joinL_nil (q :: r)
    simp only [TL.joinL, List.nil_append, this, List.flatten_cons]
theorem tl_join0 (ys : List Str) : TL.tl (Txt.join "" ys) = (ys.map TL.tl).flatten := by
  rw [TL.join_eq, TL.tl_join, show TL.tl ("" : Str) = [] from rfl, joinL_nil]
theorem join_signs (cs : List Nat) : Txt.join "" (cs.map fun c => (⟨#[c]⟩ : Str)) = ⟨cs.toArray⟩ := by
  apply TL.ext_tl
  rw [tl_join0, List.map_map, TL.tl_mk]
  induction cs with
  | nil => rfl
  | cons c cs ih =>
    rw [List.map_cons, List.flatten_cons, ih]
    rfl
theorem strsD_letters : ∀ cs : List Nat, strsD (lettersD cs) = some (cs.map fun c => (⟨#[c]⟩ : Str))
  | [] => rfl
  | c :: cs => by
    have := strsD_letters cs
    unfold lettersD at this ⊢
    rw [List.map_cons]
    unfold strsD
    rw [this]
    rfl
theorem letters_len (cs : List Nat) : ((cs.map fun c => (⟨#[c]⟩ : Str)).map (·.length)).sum = cs.length := by
  induction cs with
  | nil => rfl
  | cons c cs ih => rw [List.map_cons, List.map_cons, List.sum_cons, ih, List.length_cons]; show 1 + cs.length = _; omega
/-- letters, not none, up to eight -/
structure Word (x : Str) : Prop where
  let_ : ∀ c ∈ TL.tl x, c ∈ TL.tl signs
  pos : 1 ≤ x.length
  le : x.length ≤ 8
theorem word_q {p : Pot} (h : p.Ok) {n : Nat} (hn : n ≤ 100) (r : Store) : ∃ cs p', q__law_word_1 [some (.val (.obj 0)), some (.val (.int (n : Int))), none] (mus p r) = .ok (.lst (lettersD cs)) (mus p' r) ∧ p'.Ok ∧ (∀ c ∈ cs, c ∈ TL.tl signs) ∧ cs.length = n := by
  obtain ⟨cs, p', e, ok, h2, h3⟩ := word_loop r (rangeD 0 n) [] p (wipeS [some (.val (.obj 0)), some (.val (.int (n : Int))), none] [2]) h rfl rfl (fun _ h => by cases h)
  rw [rangeD_len, List.length_nil, Nat.zero_add] at h3
  refine ⟨cs, p', ?_, ok, h2, h3⟩
  have h1 : rgOk (n : Int) = true := rgOk_nat (by omega)
  have hs : sizeOk (rangeD 0 n) = true := by unfold sizeOk; rw [rangeD_len]; exact decide_eq_true (by omega)
  rw [← e]
  unfold q__law_word_1 dLc dRg1 dBind obind dVar
  simp only [List.getElem?_cons_succ, List.getElem?_cons_zero, h1, if_true, Int.toNat_natCast, hs]
  rfl
theorem word_ok {p : Pot} (h : p.Ok) (r : Store) : ∃ w p', f__law_word [.obj 0] (mus p r) = .ok (.str w) (mus p' r) ∧ p'.Ok ∧ Word w := by
  obtain ⟨v, p1, e, ok, v0, v1⟩ := draw_ok h (many := 6) (by decide) (by decide) r
  by_cases hv : v = 0
  · subst hv
    obtain ⟨d, p2, e2, ok2, hd⟩ := pick_lst ok (l := [.str "spot", .str "road", .str "over"]) (by simp) (by decide) r
    have : ∃ w : Str, d = .str w ∧ Word w := by
      simp only [List.mem_cons, List.not_mem_nil, or_false] at hd
      rcases hd with rfl | rfl | rfl
      · exact ⟨_, rfl, by decide +kernel, by decide +kernel, by decide +kernel⟩
      · exact ⟨_, rfl, by decide +kernel, by decide +kernel, by decide +kernel⟩
      · exact ⟨_, rfl, by decide +kernel, by decide +kernel, by decide +kernel⟩
    obtain ⟨w, rfl, hw⟩ := this
    exact ⟨w, p2, by simp [f__law_word, g__law_word, dFun, sSeq, snext, sIf, sbind, sAsg, sRet, sSkip, sExpr, sPar, sSetI, sSetA, sAug, sFor, sTg, dVar, dC, dNil, dCons, dBind, obind, dTup, dLst, dFrz, MO.d, dReg, dFz, dOp1, dOp2, dCmp, dB2v, dTst, dAnd, dOr, dNot, dIf, dCall, dIx, dLook, lookD, dIsi, dIsi2, dIsC, dIn, dChn, dMut, lstOf, putO, dM1, tyOk, dNw1, dNw2, dSl, dP, dNoP, dIsN, dItQ, dItS, dRg1, dRg2, dEnum, dLc, dYes, noex, Tg.run, gSets, List.length_map, List.length_cons, List.length_nil, List.map_cons, List.map_nil, e, eqD, toP, PyData.depth, PyData.eqv, e2], ok2, hw⟩
  · obtain ⟨d, p2, e2, ok2, hd⟩ := pick_lst ok (l := [.int 1, .int 2, .int 3, .int 5, .int 8]) (by simp) (by decide) r
    have : ∃ n : Nat, d = .int (n : Int) ∧ 1 ≤ n ∧ n ≤ 8 := by
      simp only [List.mem_cons, List.not_mem_nil, or_false] at hd
      rcases hd with rfl | rfl | rfl | rfl | rfl
      · exact ⟨1, rfl, by decide, by decide⟩
      · exact ⟨2, rfl, by decide, by decide⟩
      · exact ⟨3, rfl, by decide, by decide⟩
      · exact ⟨5, rfl, by decide, by decide⟩
      · exact ⟨8, rfl, by decide, by decide⟩
    obtain ⟨n, rfl, n1, n8⟩ := this
    obtain ⟨cs, p3, e3, ok3, h2, h3⟩ := word_q ok2 (n := n) (by omega) r
    refine ⟨⟨cs.toArray⟩, p3, ?_, ok3, ⟨h2, ?_, ?_⟩⟩
    · have hj : joinD (.str "") (.lst (lettersD cs)) = some (.str ⟨cs.toArray⟩) := by
        unfold joinD
        dsimp only
        rw [strsD_letters]
        dsimp only
        rw [letters_len, List.length_map, if_pos (by rw [show ("" : Str).length = 0 from rfl]; omega), join_signs]
      simp [f__law_word, g__law_word, dFun, sSeq, snext, sIf, sbind, sAsg, sRet, sSkip, sExpr, sPar, sSetI, sSetA, sAug, sFor, sTg, dVar, dC, dNil, dCons, dBind, obind, dTup, dLst, dFrz, MO.d, dReg, dFz, dOp1, dOp2, dCmp, dB2v, dTst, dAnd, dOr, dNot, dIf, dCall, dIx, dLook, lookD, dIsi, dIsi2, dIsC, dIn, dChn, dMut, lstOf, putO, dM1, tyOk, dNw1, dNw2, dSl, dP, dNoP, dIsN, dItQ, dItS, dRg1, dRg2, dEnum, dLc, dYes, noex, Tg.run, gSets, List.length_map, List.length_cons, List.length_nil, List.map_cons, List.map_nil, e, eqD, toP, PyData.depth, PyData.eqv, hv, e2, e3, hj]
    · show 1 ≤ cs.toArray.size
      simp; omega
    · show cs.toArray.size ≤ 8
      simp; omega
end DL
end

section
set_option Elab.async false
set_option linter.all false
set_option maxRecDepth 100000
set_option maxHeartbeats 4000000
namespace DL
open PySem
/-! the plain law of k02: names -/
/-- a comprehension that leaves the store as it is -/
theorem lcL_pure {g : Tg} {sw : Sl} {c : BF} {elt : EF} {mu : Store} (T : D → Option D) : ∀ (ds acc : List D), (∀ d ∈ ds, ∃ sl1, g.run d sw = some sl1 ∧ ((∃ y, T d = some y ∧ c sl1 mu = .ok true mu ∧ elt sl1 mu = .ok y mu) ∨ (T d = none ∧ c sl1 mu = .ok false mu))) →
    dLcL g sw c elt ds acc mu = .ok (.lst (acc ++ ds.filterMap T)) mu
  | [], acc, _ => by rw [List.filterMap_nil, List.append_nil]; rfl
  | d :: ds, acc, h => by
    obtain ⟨sl1, e1, h1⟩ := h d List.mem_cons_self
    have ih := fun acc => lcL_pure (g := g) (sw := sw) (c := c) (elt := elt) (mu := mu) T ds acc fun x hx => h x (List.mem_cons_of_mem _ hx)
    rcases h1 with ⟨y, t, e2, e3⟩ | ⟨t, e2⟩
    · rw [List.filterMap_cons_some t]
      unfold dLcL
      simp only [e1, e2, e3, noex, obind, if_true]
      rw [ih, List.append_assoc]
      rfl
    · rw [List.filterMap_cons_none t]
      unfold dLcL
      simp only [e1, e2, noex, obind, Bool.false_eq_true, if_false]
      exact ih acc
theorem lc_pure {src : LF} {g : Tg} {own : List Nat} {c : BF} {elt : EF} {sl : Sl} {mu : Store} {ds : List D} (T : D → Option D) (hs : src sl mu = .ok ds mu) (hz : ds.length ≤ 16000000)
    (h : ∀ d ∈ ds, ∃ sl1, g.run d (wipeS sl own) = some sl1 ∧ ((∃ y, T d = some y ∧ c sl1 mu = .ok true mu ∧ elt sl1 mu = .ok y mu) ∨ (T d = none ∧ c sl1 mu = .ok false mu))) :
    dLc src g own c elt sl mu = .ok (.lst (ds.filterMap T)) mu := by
  unfold dLc dBind obind
  rw [hs]
  have e : sizeOk ds = true := decide_eq_true hz
  simp only [e, if_true]
  rw [lcL_pure T ds [] h, List.nil_append]
/-- .. every one -/
theorem lc_all {src : LF} {g : Tg} {own : List Nat} {elt : EF} {sl : Sl} {mu : Store} {ds : List D} (T : D → D) (hs : src sl mu = .ok ds mu) (hz : ds.length ≤ 16000000)
    (h : ∀ d ∈ ds, ∃ sl1, g.run d (wipeS sl own) = some sl1 ∧ elt sl1 mu = .ok (T d) mu) : dLc src g own dYes elt sl mu = .ok (.lst (ds.map T)) mu := by
  have := lc_pure (src := src) (g := g) (own := own) (c := dYes) (elt := elt) (sl := sl) (mu := mu) (ds := ds) (fun d => some (T d)) hs hz fun d hd => by
    obtain ⟨sl1, e1, e2⟩ := h d hd
    exact ⟨sl1, e1, .inl ⟨_, rfl, rfl, e2⟩⟩
  rw [this]
  congr 2
  induction ds with
  | nil => rfl
  | cons d ds ih => simp
def resv : List Str := ["spot", "road", "over"]
theorem str_beq (a b : Str) : (a == b) = decide (b = a) := by
  rw [Bool.eq_iff_iff, beq_iff_eq, decide_eq_true_iff]
  exact eq_comm
theorem any_strs (x : Str) : ∀ ys : List Str, ((ys.map PyData.str).any fun y => PyData.eqv y (.str x)) = decide (x ∈ ys)
  | [] => rfl
  | y :: ys => by
    rw [List.map_cons, List.any_cons, any_strs x ys]
    show (y == x || decide (x ∈ ys)) = _
    rw [str_beq]
    simp
theorem depth_strs : ∀ ys : List Str, PyData.depthAll (ys.map PyData.str) = 0
  | [] => by simp [PyData.depthAll]
  | y :: ys => by
    rw [List.map_cons]
    simp [PyData.depthAll, PyData.depth, depth_strs ys]
theorem in_strs (x : Str) (ys : List Str) : inD (.str x) (.lst (ys.map D.str)) = some (decide (x ∈ ys)) := by
  unfold inD
  simp only [toP, toPL_strs, depth_strs, any_strs]
  rw [if_pos (by simp [PyData.depth])]
theorem in_strsT (x : Str) (ys : List Str) : inD (.str x) (.tup (ys.map D.str)) = some (decide (x ∈ ys)) := by
  unfold inD
  simp only [toP, toPL_strs, depth_strs, any_strs]
  rw [if_pos (by simp [PyData.depth])]
theorem in_resv (x : Str) : inD (.str x) (.tup [.str "spot", .str "road", .str "over"]) = some (decide (x ∈ resv)) := in_strsT x resv
theorem signs_in (c : Nat) : inD (.str ⟨#[c]⟩) (.str "abcdefghijklmnopqrstuvwxyz") = some (decide (c ∈ TL.tl signs)) := rfl
theorem q_law_is_name {x : Str} (h : Word x) (mu : Store) : q__law_is_name_1 [some (.val (.str x)), none] mu = .ok (.lst (signsD x)) mu := by
  have := lc_pure (src := dItS (dVar 0)) (g := .nm 1) (own := [1]) (c := dIn false (dVar 1) (dLook (dC (.str "abcdefghijklmnopqrstuvwxyz")))) (elt := dVar 1) (sl := [some (.val (.str x)), none]) (mu := mu) (ds := signsD x) some rfl
    (by unfold signsD; rw [List.length_map]; have := h.le; have e : x.length = x.cps.toList.length := by simp [Str.length]
        omega) (fun d hd => by
      unfold signsD at hd
      obtain ⟨c, hc, rfl⟩ := List.mem_map.mp hd
      refine ⟨_, rfl, .inl ⟨_, rfl, ?_, rfl⟩⟩
      have : decide (c ∈ TL.tl signs) = true := decide_eq_true (h.let_ c hc)
      have hm : c ∈ signs.cps := by simpa using h.let_ c hc
      simp [wipeS, dFun, sSeq, snext, sIf, sbind, sAsg, sRet, sSkip, sExpr, sPar, sSetI, sSetA, sAug, sFor, sTg, dVar, dC, dNil, dCons, dBind, obind, dTup, dLst, dFrz, MO.d, dReg, dFz, dOp1, dOp2, dCmp, dB2v, dTst, dAnd, dOr, dNot, dIf, dCall, dIx, dLook, lookD, dIsi, dIsi2, dIsC, dIn, dChn, dMut, lstOf, putO, dM1, tyOk, dNw1, dNw2, dSl, dP, dNoP, dIsN, dItQ, dItS, dRg1, dRg2, dEnum, dLc, dYes, noex, Tg.run, gSets, List.length_map, List.length_cons, List.length_nil, List.map_cons, List.map_nil, signs_in, hm])
  rw [List.filterMap_some] at this
  exact this
theorem law_is_name {x : Str} (h : Word x) (mu : Store) : f__law_is_name [.str x] mu = .ok (.bl (!decide (x ∈ resv))) mu := by
  have h1 : (1 : Int) ≤ (x.length : Int) := by have := h.pos; omega
  have h2 : (x.length : Int) ≤ 8 := by have := h.le; omega
  have h3 : x.length ≤ 16000000 := by have := h.le; omega
  have hl : ((signsD x).length : Int) = (x.length : Int) := by unfold signsD; simp [Str.length]
  by_cases hx : x ∈ resv
  · simp [f__law_is_name, g__law_is_name, dFun, sSeq, snext, sIf, sbind, sAsg, sRet, sSkip, sExpr, sPar, sSetI, sSetA, sAug, sFor, sTg, dVar, dC, dNil, dCons, dBind, obind, dTup, dLst, dFrz, MO.d, dReg, dFz, dOp1, dOp2, dCmp, dB2v, dTst, dAnd, dOr, dNot, dIf, dCall, dIx, dLook, lookD, dIsi, dIsi2, dIsC, dIn, dChn, dMut, lstOf, putO, dM1, tyOk, dNw1, dNw2, dSl, dP, dNoP, dIsN, dItQ, dItS, dRg1, dRg2, dEnum, dLc, dYes, noex, Tg.run, gSets, List.length_map, List.length_cons, List.length_nil, List.map_cons, List.map_nil, isiOk, isTy, lenD, leI, cmpI, h3, h1, h2, in_resv, hx]
  · simp [f__law_is_name, g__law_is_name, dFun, sSeq, snext, sIf, sbind, sAsg, sRet, sSkip, sExpr, sPar, sSetI, sSetA, sAug, sFor, sTg, dVar, dC, dNil, dCons, dBind, obind, dTup, dLst, dFrz, MO.d, dReg, dFz, dOp1, dOp2, dCmp, dB2v, dTst, dAnd, dOr, dNot, dIf, dCall, dIx, dLook, lookD, dIsi, dIsi2, dIsC, dIn, dChn, dMut, lstOf, putO, dM1, tyOk, dNw1, dNw2, dSl, dP, dNoP, dIsN, dItQ, dItS, dRg1, dRg2, dEnum, dLc, dYes, noex, Tg.run, gSets, List.length_map, List.length_cons, List.length_nil, List.map_cons, List.map_nil, isiOk, isTy, lenD, leI, cmpI, h3, h1, h2, in_resv, hx, q_law_is_name h, hl, eqD, toP, PyData.depth, PyData.eqv]
/-! names -/
structure Name (x : Str) : Prop extends Word x where
  free : x ∉ resv
/-- unlike names -/
structure Names (l : List Str) : Prop where
  all : ∀ x ∈ l, Name x
  nd : l.Nodup
  le : l.length ≤ 9
def sg (c : Nat) : Str := ⟨#[c]⟩
theorem signsD_eq (x : Str) : signsD x = (TL.tl x).map fun c => .str (sg c) := rfl
theorem tl_sg (x : Str) (c : Nat) : TL.tl (x ++ sg c) = TL.tl x ++ [c] := TL.tl_append x (sg c)
theorem len_sg (x : Str) (c : Nat) : (x ++ sg c).length = x.length + 1 := by rw [TL.len_tl, TL.len_tl, tl_sg, List.length_append]; rfl
def cands (w : Str) : List Str := (TL.tl signs).map fun c => w ++ sg c
theorem q_names_1 {w : Str} (h : w.length ≤ 7) (mu : Store) {a0 a1 a2 a3 a5 a6 a7 : Option SV} : q__law_names_1 [a0, a1, a2, a3, some (.val (.str w)), a5, a6, a7] mu = .ok (.lst ((cands w).map D.str)) mu := by
  have := lc_all (src := dItS (dC (.str "abcdefghijklmnopqrstuvwxyz"))) (g := .nm 6) (own := [6]) (elt := dOp2 addD (dVar 4) (dVar 6)) (sl := [a0, a1, a2, a3, some (.val (.str w)), a5, a6, a7]) (mu := mu) (ds := signsD signs)
    (fun d => match d with | .str s => .str (w ++ s) | d => d) rfl (by decide +kernel) (fun d hd => by
      rw [signsD_eq] at hd
      obtain ⟨c, hc, rfl⟩ := List.mem_map.mp hd
      refine ⟨_, rfl, ?_⟩
      have h1 : w.length + (sg c).length ≤ 16000000 := by show w.length + 1 ≤ _; omega
      simp [wipeS, dFun, sSeq, snext, sIf, sbind, sAsg, sRet, sSkip, sExpr, sPar, sSetI, sSetA, sAug, sFor, sTg, dVar, dC, dNil, dCons, dBind, obind, dTup, dLst, dFrz, MO.d, dReg, dFz, dOp1, dOp2, dCmp, dB2v, dTst, dAnd, dOr, dNot, dIf, dCall, dIx, dLook, lookD, dIsi, dIsi2, dIsC, dIn, dChn, dMut, lstOf, putO, dM1, tyOk, dNw1, dNw2, dSl, dP, dNoP, dIsN, dItQ, dItS, dRg1, dRg2, dEnum, dLc, dYes, noex, Tg.run, gSets, List.length_map, List.length_cons, List.length_nil, List.map_cons, List.map_nil, addD, h1])
  rw [show q__law_names_1 = dLc (dItS (dC (.str "abcdefghijklmnopqrstuvwxyz"))) (.nm 6) [6] dYes (dOp2 addD (dVar 4) (dVar 6)) from rfl, this]
  rw [signsD_eq, cands, List.map_map, List.map_map]
  rfl
theorem cand_word {w x : Str} (hl : ∀ c ∈ TL.tl w, c ∈ TL.tl signs) (h : w.length ≤ 7) (hx : x ∈ cands w) : Word x := by
  obtain ⟨c, hc, rfl⟩ := List.mem_map.mp hx
  refine ⟨fun d hd => ?_, by rw [len_sg]; omega, by rw [len_sg]; omega⟩
  rw [tl_sg] at hd
  rcases List.mem_append.mp hd with hd | hd
  · exact hl d hd
  · rw [List.mem_singleton] at hd; subst hd; exact hc
theorem filterMap_filter (P : Str → Bool) : ∀ l : List Str, (l.map D.str).filterMap (fun d => match d with
    | .str x => if P x = true then some (.str x) else none
    | _ => none) = (l.filter P).map D.str
  | [] => rfl
  | x :: l => by
    have ih := filterMap_filter P l
    cases h : P x
    · rw [List.filter_cons_of_neg (by rw [h]; decide), ← ih, List.map_cons, List.filterMap_cons_none (by simp [h])]
    · rw [List.filter_cons_of_pos h, List.map_cons, List.map_cons, ← ih, List.filterMap_cons_some (b := D.str x) (by simp [h])]
/-- those not yet found that are names -/
def fresh (w : Str) (found : List Str) : List Str := (cands w).filter fun x => !decide (x ∈ found) && !decide (x ∈ resv)
theorem q_names_2 {w : Str} (hl : ∀ c ∈ TL.tl w, c ∈ TL.tl signs) (h : w.length ≤ 7) {found : List Str} (p : Pot) (r : Store) {a0 a1 a3 a4 a6 a7 : Option SV} :
    q__law_names_2 [a0, a1, some (.val (.obj (r.length + 1))), a3, a4, some (.val (.lst ((cands w).map D.str))), a6, a7] (mus p (r ++ [some (.lst (found.map D.str))])) = .ok (.lst ((fresh w found).map D.str)) (mus p (r ++ [some (.lst (found.map D.str))])) := by
  have hlen : ((cands w).map D.str).length ≤ 16000000 := by unfold cands; rw [List.length_map, List.length_map]; decide +kernel
  have hget : (mus p (r ++ [some (.lst (found.map D.str))]))[r.length + 1]? = some (some (.lst (found.map D.str))) := by unfold mus; simp
  have := lc_pure (src := dItQ (dVar 5)) (g := .nm 7) (own := [7]) (c := dAnd (dIn true (dVar 7) (dLook (dVar 2))) (dTst (dCall f__law_is_name (dCons (dVar 7) dNil)))) (elt := dVar 7)
    (sl := [a0, a1, some (.val (.obj (r.length + 1))), a3, a4, some (.val (.lst ((cands w).map D.str))), a6, a7]) (mu := mus p (r ++ [some (.lst (found.map D.str))])) (ds := (cands w).map D.str)
    (fun d => match d with | .str x => if (!decide (x ∈ found) && !decide (x ∈ resv)) = true then some (.str x) else none | _ => none) rfl hlen (fun d hd => by
      obtain ⟨x, hx, rfl⟩ := List.mem_map.mp hd
      refine ⟨_, rfl, ?_⟩
      have hn := law_is_name (cand_word hl h hx) (mus p (r ++ [some (.lst (found.map D.str))]))
      by_cases h1 : x ∈ found
      · exact .inr ⟨by simp [h1], by simp [wipeS, dFun, sSeq, snext, sIf, sbind, sAsg, sRet, sSkip, sExpr, sPar, sSetI, sSetA, sAug, sFor, sTg, dVar, dC, dNil, dCons, dBind, obind, dTup, dLst, dFrz, MO.d, dReg, dFz, dOp1, dOp2, dCmp, dB2v, dTst, dAnd, dOr, dNot, dIf, dCall, dIx, dLook, lookD, dIsi, dIsi2, dIsC, dIn, dChn, dMut, lstOf, putO, dM1, tyOk, dNw1, dNw2, dSl, dP, dNoP, dIsN, dItQ, dItS, dRg1, dRg2, dEnum, dLc, dYes, noex, Tg.run, gSets, List.length_map, List.length_cons, List.length_nil, List.map_cons, List.map_nil, hget, in_strs, h1]⟩
      · by_cases h2 : x ∈ resv
        · exact .inr ⟨by simp [h2], by simp [wipeS, dFun, sSeq, snext, sIf, sbind, sAsg, sRet, sSkip, sExpr, sPar, sSetI, sSetA, sAug, sFor, sTg, dVar, dC, dNil, dCons, dBind, obind, dTup, dLst, dFrz, MO.d, dReg, dFz, dOp1, dOp2, dCmp, dB2v, dTst, dAnd, dOr, dNot, dIf, dCall, dIx, dLook, lookD, dIsi, dIsi2, dIsC, dIn, dChn, dMut, lstOf, putO, dM1, tyOk, dNw1, dNw2, dSl, dP, dNoP, dIsN, dItQ, dItS, dRg1, dRg2, dEnum, dLc, dYes, noex, Tg.run, gSets, List.length_map, List.length_cons, List.length_nil, List.map_cons, List.map_nil, hget, in_strs, h1, hn, h2]⟩
        · exact .inl ⟨.str x, by simp [h1, h2], by simp [wipeS, dFun, sSeq, snext, sIf, sbind, sAsg, sRet, sSkip, sExpr, sPar, sSetI, sSetA, sAug, sFor, sTg, dVar, dC, dNil, dCons, dBind, obind, dTup, dLst, dFrz, MO.d, dReg, dFz, dOp1, dOp2, dCmp, dB2v, dTst, dAnd, dOr, dNot, dIf, dCall, dIx, dLook, lookD, dIsi, dIsi2, dIsC, dIn, dChn, dMut, lstOf, putO, dM1, tyOk, dNw1, dNw2, dSl, dP, dNoP, dIsN, dItQ, dItS, dRg1, dRg2, dEnum, dLc, dYes, noex, Tg.run, gSets, List.length_map, List.length_cons, List.length_nil, List.map_cons, List.map_nil, hget, in_strs, h1, hn, h2], rfl⟩)
  rw [show q__law_names_2 = dLc (dItQ (dVar 5)) (.nm 7) [7] (dAnd (dIn true (dVar 7) (dLook (dVar 2))) (dTst (dCall f__law_is_name (dCons (dVar 7) dNil)))) (dVar 7) from rfl, this]
  congr 2
  exact filterMap_filter (fun x => !decide (x ∈ found) && !decide (x ∈ resv)) (cands w)
/-! there is always one -/
theorem cands_nodup (w : Str) : (cands w).Nodup := by
  have h : (TL.tl signs).Nodup := by decide +kernel
  unfold cands
  rw [List.Nodup, List.pairwise_map]
  refine h.imp fun {a b} hab e => hab ?_
  have := congrArg TL.tl e
  rw [tl_sg, tl_sg] at this
  have := List.append_cancel_left this
  exact List.head_eq_of_cons_eq this
theorem cands_len (w : Str) : (cands w).length = 26 := by unfold cands; rw [List.length_map]; decide +kernel
theorem fresh_ne {w : Str} {found : List Str} (h : found.length ≤ 9) : fresh w found ≠ [] := by
  intro e
  have sub : ∀ x ∈ cands w, x ∈ found ++ resv := by
    intro x hx
    have : x ∉ fresh w found := by rw [e]; simp
    unfold fresh at this
    rw [List.mem_filter] at this
    by_cases h1 : x ∈ found
    · exact List.mem_append_left _ h1
    · by_cases h2 : x ∈ resv
      · exact List.mem_append_right _ h2
      · exact absurd ⟨hx, by simp [h1, h2]⟩ this
  have := (cands_nodup w).length_le_of_subset sub
  rw [cands_len, List.length_append] at this
  have h3 : resv.length = 3 := rfl
  omega
theorem cut7 (w : Str) : TL.tl (L2.cutS w none (some 7)) = (TL.tl w).take 7 := by
  unfold L2.cutS
  rw [TL.tl_mk]
  have e : HT.sIx w.length w.length (some 7) = min 7 w.length := HT.sIx_nat _ _ 7
  rw [e, HT.sIx_none, List.drop_zero, Nat.sub_zero]
  have : w.length = (TL.tl w).length := TL.len_tl w
  rw [this]
  by_cases h : 7 ≤ (TL.tl w).length
  · rw [Nat.min_eq_left h]
  · rw [Nat.min_eq_right (by omega), List.take_of_length_le (Nat.le_refl _), List.take_of_length_le (by omega)]
/-- a turn -/
theorem names_turn {p : Pot} (h : p.Ok) {found : List Str} (hf : Names found) (hl : found.length ≤ 8) (r : Store) {a1 x3 x4 x5 : Option SV} : ∃ x p' y4 y5,
    b__law_names_1 [some (.val (.obj 0)), a1, some (.val (.obj (r.length + 1))), x3, x4, x5, none, none] (mus p (r ++ [some (.lst (found.map D.str))])) =
      .nx [some (.val (.obj 0)), a1, some (.val (.obj (r.length + 1))), x3, y4, y5, none, none] (mus p' (r ++ [some (.lst ((found ++ [x]).map D.str))])) ∧ p'.Ok ∧ Names (found ++ [x]) := by
  obtain ⟨w, p1, e1, ok, hw⟩ := word_ok h (r ++ [some (.lst (found.map D.str))])
  have hl7 : ∀ c ∈ TL.tl (L2.cutS w none (some 7)), c ∈ TL.tl signs := fun c hc => by
    rw [cut7] at hc
    exact hw.let_ c (List.mem_of_mem_take hc)
  have hlen : (L2.cutS w none (some 7)).length ≤ 7 := by
    rw [TL.len_tl, cut7]
    exact List.length_take_le 7 _
  have e2 := q_names_1 hlen (mus p1 (r ++ [some (.lst (found.map D.str))])) (a0 := some (.val (.obj 0))) (a1 := a1) (a2 := some (.val (.obj (r.length + 1)))) (a3 := x3) (a5 := x5) (a6 := none) (a7 := none)
  have e3 := q_names_2 hl7 hlen (found := found) p1 r (a0 := some (.val (.obj 0))) (a1 := a1) (a3 := x3) (a4 := some (.val (.str (L2.cutS w none (some 7))))) (a6 := none) (a7 := none)
  obtain ⟨x, l, e4⟩ : ∃ x l, fresh (L2.cutS w none (some 7)) found = x :: l := by
    cases q : fresh (L2.cutS w none (some 7)) found with
    | nil => exact absurd q (fresh_ne (by omega))
    | cons x l => exact ⟨x, l, rfl⟩
  have hx : x ∈ fresh (L2.cutS w none (some 7)) found := by rw [e4]; exact List.mem_cons_self
  unfold fresh at hx
  rw [List.mem_filter] at hx
  obtain ⟨hx1, hx2⟩ := hx
  have hx3 : x ∉ found ∧ x ∉ resv := by simpa using hx2
  rw [e4] at e3
  have hw16 : w.length ≤ 16000000 := by have := hw.le; omega
  have hget : (mus p1 (r ++ [some (.lst (found.map D.str))]))[r.length + 1]? = some (some (.lst (found.map D.str))) := by unfold mus; simp
  have hset : ∀ m : MO, (mus p1 (r ++ [some (.lst (found.map D.str))])).set (r.length + 1) (some m) = mus p1 (r ++ [some m]) := fun m => by unfold mus; simp
  have hf16 : found.length < 16000000 := by omega
  have hix : ixD (.lst (D.str x :: l.map D.str)) (.int 0) = some (.str x) := by simp [ixD, L2.atI, L2.ixN]
  refine ⟨x, p1, some (.val (.str (L2.cutS w none (some 7)))), some (.val (.lst ((cands (L2.cutS w none (some 7))).map D.str))), ?_, ok, ⟨fun y hy => ?_, ?_, by rw [List.length_append]; show found.length + 1 ≤ 9; omega⟩⟩
  · simp [b__law_names_1, dFun, sSeq, snext, sIf, sbind, sAsg, sRet, sSkip, sExpr, sPar, sSetI, sSetA, sAug, sFor, sTg, dVar, dC, dNil, dCons, dBind, obind, dTup, dLst, dFrz, MO.d, dReg, dFz, dOp1, dOp2, dCmp, dB2v, dTst, dAnd, dOr, dNot, dIf, dCall, dIx, dLook, lookD, dIsi, dIsi2, dIsC, dIn, dChn, dMut, lstOf, putO, dM1, tyOk, dNw1, dNw2, dSl, dP, dNoP, dIsN, dItQ, dItS, dRg1, dRg2, dEnum, dLc, dYes, noex, Tg.run, gSets, List.length_map, List.length_cons, List.length_nil, List.map_cons, List.map_nil, e1, sliceD, hw16, e2, e3, hget, appD, hf16, hset, hix]
  · rcases List.mem_append.mp hy with hy | hy
    · exact hf.all y hy
    · rw [List.mem_singleton] at hy
      subst hy
      exact { cand_word hl7 hlen hx1 with free := hx3.2 }
  · rw [List.nodup_append]
    refine ⟨hf.nd, by simp, fun a ha b hb => ?_⟩
    rw [List.mem_singleton] at hb
    subst hb
    exact fun e => hx3.1 (e ▸ ha)
theorem names_loop (r : Store) (a1 : Option SV) : ∀ (ds : List D) (found : List Str) (p : Pot) (x3 x4 x5 : Option SV), p.Ok → Names found → found.length + ds.length ≤ 9 → ∃ fs p' y3 y4 y5,
    sForL (.nm 3) b__law_names_1 ds [some (.val (.obj 0)), a1, some (.val (.obj (r.length + 1))), x3, x4, x5, none, none] (mus p (r ++ [some (.lst (found.map D.str))])) =
      .nx [some (.val (.obj 0)), a1, some (.val (.obj (r.length + 1))), y3, y4, y5, none, none] (mus p' (r ++ [some (.lst (fs.map D.str))])) ∧ p'.Ok ∧ Names fs ∧ fs.length = found.length + ds.length
  | [], found, p, x3, x4, x5, h, hf, hl => ⟨found, p, x3, x4, x5, rfl, h, hf, rfl⟩
  | d :: ds, found, p, x3, x4, x5, h, hf, hl => by
    rw [List.length_cons] at hl
    obtain ⟨x, p1, y4, y5, e, ok, hn⟩ := names_turn h hf (by omega) r (a1 := a1) (x3 := some (.val d)) (x4 := x4) (x5 := x5)
    obtain ⟨fs, p2, z3, z4, z5, e2, ok2, hn2, hl2⟩ := names_loop r a1 ds (found ++ [x]) p1 (some (.val d)) y4 y5 ok hn (by rw [List.length_append]; show found.length + 1 + ds.length ≤ 9; omega)
    refine ⟨fs, p2, z3, z4, z5, ?_, ok2, hn2, by rw [hl2]; simp; omega⟩
    rw [← e2]
    conv => lhs; unfold sForL
    simp only [Tg.run, List.set_cons_succ, List.set_cons_zero, e]
/-- names of the store that stays are closed -/
def Shut (r : Store) : Prop := r.all (clM (r.length + 1)) = true
theorem pot_clM (p : Pot) (n : Nat) : clM n (some p.mo) = true := by
  unfold Pot.mo clM
  have : ∀ l : List Int, clL n (l.map D.int) = true := fun l => by
    induction l with
    | nil => rfl
    | cons a l ih => rw [List.map_cons]; unfold clL; rw [ih]; rfl
  simp [clL, clD, this]
theorem gc_mus {α : Type} (cl : Nat → α → Bool) {p : Pot} {r r2 : Store} {a : α} (h : Shut r) (hc : cl (r.length + 1) a = true) : gcO cl (r.length + 1) (.ok a (mus p (r ++ r2))) = .ok a (mus p r) := by
  have e : (mus p (r ++ r2)).take (r.length + 1) = mus p r := by unfold mus; simp
  unfold gcO
  dsimp only
  rw [e, hc]
  have : (mus p r).all (clM (r.length + 1)) = true := by
    unfold mus
    rw [List.all_cons, pot_clM]
    exact h
  rw [this]
  rfl
theorem cl_strs (n : Nat) (l : List Str) : clL n (l.map D.str) = true := by
  induction l with
  | nil => rfl
  | cons a l ih => rw [List.map_cons]; unfold clL; rw [ih]; rfl
theorem names_ok {p : Pot} (h : p.Ok) {n : Nat} (hn : n ≤ 9) {r : Store} (hr : Shut r) : ∃ fs p', f__law_names [.obj 0, .int (n : Int)] (mus p r) = .ok (.lst (fs.map D.str)) (mus p' r) ∧ p'.Ok ∧ Names fs ∧ fs.length = n := by
  obtain ⟨fs, p', y3, y4, y5, e, ok, hf, hl⟩ := names_loop r (some (.val (.int (n : Int)))) (rangeD 0 n) [] p none none none h ⟨(fun _ h => by cases h), List.nodup_nil, (by decide)⟩ (by rw [rangeD_len]; show 0 + n ≤ 9; omega)
  rw [rangeD_len, List.length_nil, Nat.zero_add] at hl
  refine ⟨fs, p', ?_, ok, hf, hl⟩
  have h1 : rgOk (n : Int) = true := rgOk_nat (by omega)
  have hlen : (mus p r).length = r.length + 1 := by unfold mus; rfl
  have happ : mus p r ++ [some (.lst [])] = mus p (r ++ [some (.lst [])]) := rfl
  have hget : (mus p' (r ++ [some (.lst (fs.map D.str))]))[r.length + 1]? = some (some (.lst (fs.map D.str))) := by unfold mus; simp
  have hset : (mus p' (r ++ [some (.lst (fs.map D.str))])).set (r.length + 1) none = mus p' (r ++ [none]) := by unfold mus; simp
  have key : dFun 8 g__law_names [.obj 0, .int (n : Int)] (mus p r) = .ok (.lst (fs.map D.str)) (mus p' (r ++ [none])) := by
    simp [g__law_names, dFun, sSeq, snext, sIf, sbind, sAsg, sRet, sSkip, sExpr, sPar, sSetI, sSetA, sAug, sFor, sTg, dVar, dC, dNil, dCons, dBind, obind, dTup, dLst, dFrz, MO.d, dReg, dFz, dOp1, dOp2, dCmp, dB2v, dTst, dAnd, dOr, dNot, dIf, dCall, dIx, dLook, lookD, dIsi, dIsi2, dIsC, dIn, dChn, dMut, lstOf, putO, dM1, tyOk, dNw1, dNw2, dSl, dP, dNoP, dIsN, dItQ, dItS, dRg1, dRg2, dEnum, dLc, dYes, noex, Tg.run, gSets, List.length_map, List.length_cons, List.length_nil, List.map_cons, List.map_nil, hlen, happ, h1]
    simp at e
    simp [e, hget, hset]
  unfold f__law_names fGc
  rw [key, hlen]
  exact gc_mus clD hr (cl_strs _ _)
end DL
end

section
set_option Elab.async false
set_option linter.all false
set_option maxRecDepth 100000
set_option maxHeartbeats 4000000
namespace DL
open PySem
/-! the plain law of k02: pairs, specs -/
def pD (p : Nat × Nat) : D := .tup [.int (p.1 : Int), .int (p.2 : Int)]
theorem rangeD0 (n : Nat) : rangeD 0 n = (List.range n).map fun (i : Nat) => D.int (i : Int) := by
  unfold rangeD
  simp
def rowOf (j : Nat) : List (Nat × Nat) := (List.range j).map fun i => (i, j)
theorem q_pairs {j : Nat} (hj : j ≤ 1000) {a0 a1 a3 : Option SV} (mu : Store) : q__law_pairs_1 [a0, a1, some (.val (.int (j : Int))), a3] mu = .ok (.lst ((rowOf j).map pD)) mu := by
  have h1 : rgOk (j : Int) = true := rgOk_nat (by omega)
  have := lc_all (src := dRg1 (dVar 2)) (g := .nm 3) (own := [3]) (elt := dTup (dCons (dVar 3) (dCons (dVar 2) dNil))) (sl := [a0, a1, some (.val (.int (j : Int))), a3]) (mu := mu) (ds := rangeD 0 j)
    (fun d => .tup [d, .int (j : Int)]) (by simp [dRg1, dBind, obind, dVar, h1]) (by rw [rangeD_len]; omega) (fun d hd => ⟨_, rfl, by simp [wipeS, dFun, sSeq, snext, sIf, sbind, sAsg, sRet, sSkip, sExpr, sPar, sSetI, sSetA, sAug, sFor, sTg, dVar, dC, dNil, dCons, dBind, obind, dTup, dLst, dFrz, MO.d, dReg, dFz, dOp1, dOp2, dCmp, dB2v, dTst, dAnd, dOr, dNot, dIf, dCall, dIx, dLook, lookD, dIsi, dIsi2, dIsC, dIn, dChn, dMut, lstOf, putO, dM1, tyOk, dNw1, dNw2, dSl, dP, dNoP, dIsN, dItQ, dItS, dRg1, dRg2, dEnum, dLc, dYes, noex, Tg.run, gSets, List.length_map, List.length_cons, List.length_nil, List.map_cons, List.map_nil]⟩)
  rw [show q__law_pairs_1 = dLc (dRg1 (dVar 2)) (.nm 3) [3] dYes (dTup (dCons (dVar 3) (dCons (dVar 2) dNil))) from rfl, this, rangeD0, rowOf, List.map_map, List.map_map]
  rfl
theorem pairs_loop (a0 : Option SV) (mu : Store) : ∀ (js : List Nat) (acc : List D) (x2 : Option SV), (∀ j ∈ js, j ≤ 9) → acc.length + 9 * js.length ≤ 1000 → ∃ y2,
    sForL (.nm 2) b__law_pairs_1 (js.map fun (j : Nat) => D.int (j : Int)) [a0, some (.val (.lst acc)), x2, none] mu = .nx [a0, some (.val (.lst (acc ++ (js.flatMap rowOf).map pD))), y2, none] mu
  | [], acc, x2, _, _ => ⟨x2, by simp [sForL]⟩
  | j :: js, acc, x2, h, hl => by
    rw [List.length_cons] at hl
    have hj := h j List.mem_cons_self
    have hrow : ((rowOf j).map pD).length = j := by unfold rowOf; simp
    obtain ⟨y2, e⟩ := pairs_loop a0 mu js (acc ++ (rowOf j).map pD) (some (.val (.int (j : Int)))) (fun x hx => h x (List.mem_cons_of_mem _ hx)) (by rw [List.length_append, hrow]; omega)
    refine ⟨y2, ?_⟩
    rw [List.flatMap_cons, List.map_append, ← List.append_assoc, ← e]
    have hq := q_pairs (j := j) (by omega) (a0 := a0) (a1 := some (.val (.lst acc))) (a3 := none) mu
    have h16 : acc.length + ((rowOf j).map pD).length ≤ 16000000 := by omega
    conv => lhs; rw [List.map_cons]; unfold sForL
    have hb : b__law_pairs_1 [a0, some (.val (.lst acc)), some (.val (.int (j : Int))), none] mu = .nx [a0, some (.val (.lst (acc ++ (rowOf j).map pD))), some (.val (.int (j : Int))), none] mu := by
      rw [List.length_map] at h16
      simp [b__law_pairs_1, dFun, sSeq, snext, sIf, sbind, sAsg, sRet, sSkip, sExpr, sPar, sSetI, sSetA, sAug, sFor, sTg, dVar, dC, dNil, dCons, dBind, obind, dTup, dLst, dFrz, MO.d, dReg, dFz, dOp1, dOp2, dCmp, dB2v, dTst, dAnd, dOr, dNot, dIf, dCall, dIx, dLook, lookD, dIsi, dIsi2, dIsC, dIn, dChn, dMut, lstOf, putO, dM1, tyOk, dNw1, dNw2, dSl, dP, dNoP, dIsN, dItQ, dItS, dRg1, dRg2, dEnum, dLc, dYes, noex, Tg.run, gSets, List.length_map, List.length_cons, List.length_nil, List.map_cons, List.map_nil, hq, addD, h16]
    simp only [Tg.run, List.set_cons_succ, List.set_cons_zero, hb]
def pairs (n : Nat) : List (Nat × Nat) := (List.range n).flatMap rowOf
theorem pairs_ok {n : Nat} (hn : n ≤ 9) (mu : Store) : f__law_pairs [.int (n : Int)] mu = .ok (.lst ((pairs n).map pD)) mu := by
  obtain ⟨y2, e⟩ := pairs_loop (some (.val (.int (n : Int)))) mu (List.range n) [] none (fun j hj => by have := List.mem_range.mp hj; omega) (by rw [List.length_range]; show 0 + 9 * n ≤ 1000; omega)
  rw [← rangeD0] at e
  have h1 : rgOk (n : Int) = true := rgOk_nat (by omega)
  simp only [List.nil_append] at e
  simp [f__law_pairs, g__law_pairs, dFun, sSeq, snext, sIf, sbind, sAsg, sRet, sSkip, sExpr, sPar, sSetI, sSetA, sAug, sFor, sTg, dVar, dC, dNil, dCons, dBind, obind, dTup, dLst, dFrz, MO.d, dReg, dFz, dOp1, dOp2, dCmp, dB2v, dTst, dAnd, dOr, dNot, dIf, dCall, dIx, dLook, lookD, dIsi, dIsi2, dIsC, dIn, dChn, dMut, lstOf, putO, dM1, tyOk, dNw1, dNw2, dSl, dP, dNoP, dIsN, dItQ, dItS, dRg1, dRg2, dEnum, dLc, dYes, noex, Tg.run, gSets, List.length_map, List.length_cons, List.length_nil, List.map_cons, List.map_nil, h1, e, pairs]
theorem mem_pairs {n i j : Nat} : (i, j) ∈ pairs n ↔ i < j ∧ j < n := by
  unfold pairs rowOf
  simp only [List.mem_flatMap, List.mem_range, List.mem_map, Prod.mk.injEq]
  constructor
  · rintro ⟨k, hk, a, ha, rfl, rfl⟩
    exact ⟨ha, hk⟩
  · rintro ⟨h1, h2⟩
    exact ⟨j, h2, i, h1, rfl, rfl⟩
theorem pairs_nodup (n : Nat) : (pairs n).Nodup := by
  unfold pairs
  rw [List.Nodup, List.pairwise_flatMap]
  refine ⟨fun j hj => ?_, ?_⟩
  · unfold rowOf
    rw [List.pairwise_map]
    exact List.nodup_range.imp fun {a b} h e => h (congrArg Prod.fst e)
  · exact List.nodup_range.imp fun {a b} h x hx y hy e => by
      unfold rowOf at hx hy
      obtain ⟨i, _, rfl⟩ := List.mem_map.mp hx
      obtain ⟨k, _, rfl⟩ := List.mem_map.mp hy
      exact h (congrArg Prod.snd e)
theorem pairs_len {n : Nat} (h : n ≤ 9) : (pairs n).length ≤ 36 := by
  have : ∀ n : Fin 10, (pairs n.1).length ≤ 36 := by decide +kernel
  exact this ⟨n, by omega⟩
theorem spec_loop (r : Store) {th : Nat} (h1 : th ≤ 100) : ∀ (ps acc : List (Nat × Nat)) (p : Pot) (a1 a2 : Option SV), p.Ok → ∃ rs p',
    dLcL (.nm 4) [some (.val (.obj 0)), a1, a2, some (.val (.int (th : Int))), none] (dCmp eqD (dCall f__law_draw (dCons (dVar 0) (dCons (dVar 3) dNil))) (dC (.int 0))) (dVar 4) (ps.map pD) (acc.map pD) (mus p r) = .ok (.lst ((acc ++ rs).map pD)) (mus p' r) ∧ p'.Ok ∧ rs.Sublist ps
  | [], acc, p, a1, a2, h => ⟨[], p, by simp [dLcL], h, List.Sublist.slnil⟩
  | q :: ps, acc, p, a1, a2, h => by
    obtain ⟨v, p1, e, ok, v0, v1⟩ := draw_ok h (many := (th : Int)) (by omega) (by omega) r
    by_cases hv : v = 0
    · obtain ⟨rs, p2, e2, ok2, hs⟩ := spec_loop r h1 ps (acc ++ [q]) p1 a1 a2 ok
      refine ⟨q :: rs, p2, ?_, ok2, hs.cons₂ _⟩
      rw [show acc ++ q :: rs = acc ++ [q] ++ rs by simp, ← e2]
      conv => lhs; rw [List.map_cons]; unfold dLcL
      simp [dFun, sSeq, snext, sIf, sbind, sAsg, sRet, sSkip, sExpr, sPar, sSetI, sSetA, sAug, sFor, sTg, dVar, dC, dNil, dCons, dBind, obind, dTup, dLst, dFrz, MO.d, dReg, dFz, dOp1, dOp2, dCmp, dB2v, dTst, dAnd, dOr, dNot, dIf, dCall, dIx, dLook, lookD, dIsi, dIsi2, dIsC, dIn, dChn, dMut, lstOf, putO, dM1, tyOk, dNw1, dNw2, dSl, dP, dNoP, dIsN, dItQ, dItS, dRg1, dRg2, dEnum, dLc, dYes, noex, Tg.run, gSets, List.length_map, List.length_cons, List.length_nil, List.map_cons, List.map_nil, e, hv, eqD, toP, PyData.depth, PyData.eqv]
    · obtain ⟨rs, p2, e2, ok2, hs⟩ := spec_loop r h1 ps acc p1 a1 a2 ok
      refine ⟨rs, p2, ?_, ok2, hs.cons _⟩
      rw [← e2]
      conv => lhs; rw [List.map_cons]; unfold dLcL
      simp [dFun, sSeq, snext, sIf, sbind, sAsg, sRet, sSkip, sExpr, sPar, sSetI, sSetA, sAug, sFor, sTg, dVar, dC, dNil, dCons, dBind, obind, dTup, dLst, dFrz, MO.d, dReg, dFz, dOp1, dOp2, dCmp, dB2v, dTst, dAnd, dOr, dNot, dIf, dCall, dIx, dLook, lookD, dIsi, dIsi2, dIsC, dIn, dChn, dMut, lstOf, putO, dM1, tyOk, dNw1, dNw2, dSl, dP, dNoP, dIsN, dItQ, dItS, dRg1, dRg2, dEnum, dLc, dYes, noex, Tg.run, gSets, List.length_map, List.length_cons, List.length_nil, List.map_cons, List.map_nil, e, hv, eqD, toP, PyData.depth, PyData.eqv]
structure Spec (fs : List Str) (rs : List (Nat × Nat)) : Prop where
  names : Names fs
  ne : 1 ≤ fs.length
  sub : rs.Sublist (pairs fs.length)
def specD (fs : List Str) (rs : List (Nat × Nat)) : D := .lst [.lst (fs.map D.str), .lst (rs.map pD)]
theorem spec_ok {p : Pot} (h : p.Ok) {r : Store} (hr : Shut r) : ∃ fs rs p', f__law_spec [.obj 0, .int 9] (mus p r) = .ok (specD fs rs) (mus p' r) ∧ p'.Ok ∧ Spec fs rs := by
  obtain ⟨v, p1, e1, ok1, v0, v1⟩ := draw_ok h (many := 9) (by decide) (by decide) r
  obtain ⟨n, hn⟩ : ∃ n : Nat, 1 + v = (n : Int) := ⟨(1 + v).toNat, by omega⟩
  obtain ⟨fs, p2, e2, ok2, hf, hl⟩ := names_ok ok1 (n := n) (by omega) hr
  obtain ⟨t, p3, e3, ok3, t0, t1⟩ := draw_ok ok2 (many := 4) (by decide) (by decide) r
  obtain ⟨th, hth⟩ : ∃ th : Nat, 1 + t = (th : Int) := ⟨(1 + t).toNat, by omega⟩
  obtain ⟨rs, p4, e4, ok4, hs⟩ := spec_loop r (th := th) (by omega) (pairs n) [] p3 (some (.val (.int 9))) (some (.val (.lst (fs.map D.str)))) ok3
  have hp := pairs_ok (n := n) (by omega) (mus p3 r)
  have hq : q__law_spec_1 [some (.val (.obj 0)), some (.val (.int 9)), some (.val (.lst (fs.map D.str))), some (.val (.int (th : Int))), none] (mus p3 r) = .ok (.lst (rs.map pD)) (mus p4 r) := by
    rw [List.nil_append] at e4
    rw [← e4]
    have hz : sizeOk ((pairs n).map pD) = true := decide_eq_true (by rw [List.length_map]; have := pairs_len (n := n) (by omega); omega)
    have hlen : lenD (.lst (fs.map D.str)) = some (.int (n : Int)) := by simp [lenD, hl]
    unfold q__law_spec_1 dLc
    unfold dItQ
    simp [dBind, obind, dCall, dCons, dOp1, dLook, dVar, dNil, lookD, hlen, hp, hz, wipeS]
  refine ⟨fs, rs, p4, ?_, ok4, ⟨hf, by omega, by rw [hl]; exact hs⟩⟩
  simp [f__law_spec, g__law_spec, dFun, sSeq, snext, sIf, sbind, sAsg, sRet, sSkip, sExpr, sPar, sSetI, sSetA, sAug, sFor, sTg, dVar, dC, dNil, dCons, dBind, obind, dTup, dLst, dFrz, MO.d, dReg, dFz, dOp1, dOp2, dCmp, dB2v, dTst, dAnd, dOr, dNot, dIf, dCall, dIx, dLook, lookD, dIsi, dIsi2, dIsC, dIn, dChn, dMut, lstOf, putO, dM1, tyOk, dNw1, dNw2, dSl, dP, dNoP, dIsN, dItQ, dItS, dRg1, dRg2, dEnum, dLc, dYes, noex, Tg.run, gSets, List.length_map, List.length_cons, List.length_nil, List.map_cons, List.map_nil, e1, addD, hn, e2, e3, hth, hq, specD]
end DL
end

section
set_option Elab.async false
set_option linter.all false
set_option maxRecDepth 100000
set_option maxHeartbeats 4000000
namespace DL
open PySem
/-! the plain law of k02: the judges of webs -/
theorem takeWhile_all {α : Type} {p : α → Bool} : ∀ {l : List α}, (∀ a ∈ l, p a = true) → l.takeWhile p = l
  | [], _ => rfl
  | a :: l, h => by rw [List.takeWhile_cons, h a List.mem_cons_self, if_pos rfl, takeWhile_all fun b hb => h b (List.mem_cons_of_mem _ hb)]
theorem strip_word {x : Str} (h : Word x) : Txt.stripChars x signs = "" := by
  have hg : ∀ c ∈ TL.tl x, signs.cps.contains c = true := fun c hc => by
    have := h.let_ c hc
    simpa using this
  have lo : stripLo signs.cps.contains true x = x.length := by
    unfold stripLo
    rw [if_pos rfl, takeWhile_all hg, TL.len_tl]
  unfold Txt.stripChars Txt.stripBy
  have hs : stripSame signs.cps.contains true true x = false := by
    unfold stripSame
    rw [lo]
    have : (x.length == 0) = false := by have := h.pos; simp; omega
    rw [this]; rfl
  rw [hs, if_neg (by decide)]
  apply TL.ext_tl
  unfold stripped
  rw [lo, TL.tl_strSub, TL.len_tl, List.drop_length]
  simp
  rfl
theorem is_name_ok {x : Str} (h : Name x) (mu : Store) : f_is_name [.str x] mu = .ok (.bl true) mu := by
  have h1 : (1 : Int) ≤ (x.length : Int) := by have := h.pos; omega
  have h2 : (x.length : Int) ≤ 8 := by have := h.le; omega
  have h3 : x.length ≤ 16000000 := by have := h.le; omega
  have hs : stripD (.str x) (.str "abcdefghijklmnopqrstuvwxyz") = some (.str "") := by
    unfold stripD
    dsimp only
    rw [if_pos h3]
    exact congrArg (fun z => some (D.str z)) (strip_word h.toWord)
  have hf := h.free
  have hi : inD (.str x) (.tup [.str "spot", .str "road", .str "over"]) = some false := by rw [in_resv, decide_eq_false hf]
  have hn : neD (.str "") (.str "") = some false := by decide +kernel
  simp [f_is_name, g_is_name, dFun, sSeq, snext, sIf, sbind, sAsg, sRet, sSkip, sExpr, sPar, sSetI, sSetA, sAug, sFor, sTg, dVar, dC, dNil, dCons, dBind, obind, dTup, dLst, dFrz, MO.d, dReg, dFz, dOp1, dOp2, dCmp, dB2v, dTst, dAnd, dOr, dNot, dIf, dCall, dIx, dLook, lookD, dIsi, dIsi2, dIsC, dIn, dChn, dMut, lstOf, putO, dM1, tyOk, dNw1, dNw2, dSl, dP, dNoP, dIsN, dItQ, dItS, dRg1, dRg2, dEnum, dLc, dYes, noex, Tg.run, gSets, List.length_map, List.length_cons, List.length_nil, List.map_cons, List.map_nil, isiOk, isTy, lenD, leI, cmpI, h3, h1, h2, hs, hi, hn]
theorem bools_true : ∀ (l : List D), boolsD (l.map fun _ => D.bl true) = some (l.map fun _ => true)
  | [] => rfl
  | d :: l => by
    rw [List.map_cons]
    unfold boolsD
    rw [bools_true l]
    rfl
theorem all_true (l : List D) : allD (.lst (l.map fun _ => D.bl true)) = some (.bl true) := by
  unfold allD
  dsimp only
  rw [bools_true]
  simp
theorem kvs_nodup {α : Type} [DecidableEq α] {ks : List α} (h : ks.Nodup) : (kvsOf ks ks.length).length = ks.length := by
  unfold kvsOf
  rw [List.take_length]
  have key : ∀ (l : List α) (acc : List (α × L2.V)), l.Nodup → (∀ k ∈ l, ∀ kv ∈ acc, kv.1 ≠ k) → (l.foldl (fun acc k => L2.putK acc k (.bl true)) acc).length = acc.length + l.length := by
    intro l
    induction l with
    | nil => intro acc _ _; rfl
    | cons k l ih =>
      intro acc hn hd
      rw [List.nodup_cons] at hn
      have e : L2.putK acc k (.bl true) = acc ++ [(k, .bl true)] := by
        unfold L2.putK
        rw [if_neg]
        rw [Bool.not_eq_true, List.any_eq_false]
        intro kv hkv
        simpa using hd k List.mem_cons_self kv hkv
      rw [List.foldl_cons, e, ih (acc ++ [(k, L2.V.bl true)]) hn.2 fun k' hk' kv hkv => by
        rcases List.mem_append.mp hkv with hkv | hkv
        · exact hd k' (List.mem_cons_of_mem _ hk') kv hkv
        · rw [List.mem_singleton] at hkv
          subst hkv
          exact fun e => hn.1 (by rw [show k = k' from e]; exact hk')]
      simp only [List.length_append, List.length_cons, List.length_nil]
      omega
  have := key ks [] h (fun _ _ _ h => by cases h)
  rw [this]
  simp
theorem keys_strs : ∀ l : List Str, allSome keyD (l.map D.str) = some (l.map Sum.inr)
  | [] => rfl
  | x :: l => by
    rw [List.map_cons]
    unfold allSome
    rw [keys_strs l]
    rfl
theorem unlike_strs {l : List Str} (h : l.Nodup) : unlikeD (.lst (l.map D.str)) = some (.int (l.length : Nat)) := by
  have hn : (l.map (Sum.inr : Str → L2.Key)).Nodup := by
    rw [List.Nodup, List.pairwise_map]
    exact h.imp fun {a b} hab e => hab (Sum.inr.inj e)
  unfold unlikeD unlike
  dsimp only
  rw [keys_strs]
  dsimp only
  rw [kvs_nodup hn, List.length_map]
  rfl
def pK (p : Nat × Nat) : List L2.Key := [.inl (p.1 : Int), .inl (p.2 : Int)]
theorem keys_prs : ∀ l : List (Nat × Nat), allSome tkeyD (l.map pD) = some (l.map pK)
  | [] => rfl
  | x :: l => by
    rw [List.map_cons]
    unfold allSome
    rw [keys_prs l]
    rfl
theorem unlike_prs {l : List (Nat × Nat)} (h : l.Nodup) : unlikeD (.lst (l.map pD)) = some (.int (l.length : Nat)) := by
  have hn : (l.map pK).Nodup := by
    rw [List.Nodup, List.pairwise_map]
    refine h.imp fun {a b} hab e => hab ?_
    unfold pK at e
    simp only [List.cons.injEq, Sum.inl.injEq, and_true] at e
    exact Prod.ext (by exact_mod_cast e.1) (by exact_mod_cast e.2)
  unfold unlikeD unlike
  cases l with
  | nil => rfl
  | cons p l =>
    dsimp only
    have e : allSome keyD ((p :: l).map pD) = none := rfl
    rw [e, keys_prs]
    dsimp only
    rw [kvs_nodup hn, List.length_map]
    rfl
theorem no_twice_strs {l : List Str} (h : l.Nodup) (mu : Store) : f_have_no_twice [.lst (l.map D.str)] mu = .ok (.bl true) mu := by
  simp [f_have_no_twice, g_have_no_twice, dFun, sSeq, snext, sIf, sbind, sAsg, sRet, sSkip, sExpr, sPar, sSetI, sSetA, sAug, sFor, sTg, dVar, dC, dNil, dCons, dBind, obind, dTup, dLst, dFrz, MO.d, dReg, dFz, dOp1, dOp2, dCmp, dB2v, dTst, dAnd, dOr, dNot, dIf, dCall, dIx, dLook, lookD, dIsi, dIsi2, dIsC, dIn, dChn, dMut, lstOf, putO, dM1, tyOk, dNw1, dNw2, dSl, dP, dNoP, dIsN, dItQ, dItS, dRg1, dRg2, dEnum, dLc, dYes, noex, Tg.run, gSets, List.length_map, List.length_cons, List.length_nil, List.map_cons, List.map_nil, unlike_strs h, lenD, eqD, toP, PyData.depth, PyData.eqv]
theorem no_twice_prs {l : List (Nat × Nat)} (h : l.Nodup) (mu : Store) : f_have_no_twice [.lst (l.map pD)] mu = .ok (.bl true) mu := by
  simp [f_have_no_twice, g_have_no_twice, dFun, sSeq, snext, sIf, sbind, sAsg, sRet, sSkip, sExpr, sPar, sSetI, sSetA, sAug, sFor, sTg, dVar, dC, dNil, dCons, dBind, obind, dTup, dLst, dFrz, MO.d, dReg, dFz, dOp1, dOp2, dCmp, dB2v, dTst, dAnd, dOr, dNot, dIf, dCall, dIx, dLook, lookD, dIsi, dIsi2, dIsC, dIn, dChn, dMut, lstOf, putO, dM1, tyOk, dNw1, dNw2, dSl, dP, dNoP, dIsN, dItQ, dItS, dRg1, dRg2, dEnum, dLc, dYes, noex, Tg.run, gSets, List.length_map, List.length_cons, List.length_nil, List.map_cons, List.map_nil, unlike_prs h, lenD, eqD, toP, PyData.depth, PyData.eqv]
theorem q_are_spots {fs : List Str} (h : Names fs) (mu : Store) : q_are_spots_1 [some (.val (.lst (fs.map D.str))), none] mu = .ok (.lst (fs.map fun _ => D.bl true)) mu := by
  have := lc_all (src := dItQ (dVar 0)) (g := .nm 1) (own := [1]) (elt := dCall f_is_name (dCons (dVar 1) dNil)) (sl := [some (.val (.lst (fs.map D.str))), none]) (mu := mu) (ds := fs.map D.str)
    (fun _ => .bl true) rfl (by rw [List.length_map]; have := h.le; omega) (fun d hd => by
      obtain ⟨x, hx, rfl⟩ := List.mem_map.mp hd
      exact ⟨_, rfl, by simp [wipeS, dFun, sSeq, snext, sIf, sbind, sAsg, sRet, sSkip, sExpr, sPar, sSetI, sSetA, sAug, sFor, sTg, dVar, dC, dNil, dCons, dBind, obind, dTup, dLst, dFrz, MO.d, dReg, dFz, dOp1, dOp2, dCmp, dB2v, dTst, dAnd, dOr, dNot, dIf, dCall, dIx, dLook, lookD, dIsi, dIsi2, dIsC, dIn, dChn, dMut, lstOf, putO, dM1, tyOk, dNw1, dNw2, dSl, dP, dNoP, dIsN, dItQ, dItS, dRg1, dRg2, dEnum, dLc, dYes, noex, Tg.run, gSets, List.length_map, List.length_cons, List.length_nil, List.map_cons, List.map_nil, is_name_ok (h.all x hx)]⟩)
  rw [show q_are_spots_1 = dLc (dItQ (dVar 0)) (.nm 1) [1] dYes (dCall f_is_name (dCons (dVar 1) dNil)) from rfl, this, List.map_map]
  rfl
theorem are_spots_ok {fs : List Str} (h : Names fs) (h1 : 1 ≤ fs.length) (mu : Store) : f_are_spots [.lst (fs.map D.str)] mu = .ok (.bl true) mu := by
  have e1 : f_is_listed [.lst (fs.map D.str)] mu = .ok (.bl true) mu := by simp [f_is_listed, g_is_listed, dFun, sSeq, snext, sIf, sbind, sAsg, sRet, sSkip, sExpr, sPar, sSetI, sSetA, sAug, sFor, sTg, dVar, dC, dNil, dCons, dBind, obind, dTup, dLst, dFrz, MO.d, dReg, dFz, dOp1, dOp2, dCmp, dB2v, dTst, dAnd, dOr, dNot, dIf, dCall, dIx, dLook, lookD, dIsi, dIsi2, dIsC, dIn, dChn, dMut, lstOf, putO, dM1, tyOk, dNw1, dNw2, dSl, dP, dNoP, dIsN, dItQ, dItS, dRg1, dRg2, dEnum, dLc, dYes, noex, Tg.run, gSets, List.length_map, List.length_cons, List.length_nil, List.map_cons, List.map_nil, isiOk, isTy]
  have ha : allD (.lst (fs.map fun _ => D.bl true)) = some (.bl true) := by
    have := all_true (fs.map D.str)
    rw [List.map_map] at this
    exact this
  have h2 : (1 : Int) ≤ (fs.length : Int) := by omega
  have h3 : (fs.length : Int) ≤ 9 := by have := h.le; omega
  have hq := q_are_spots h mu
  have hn := no_twice_strs h.nd mu
  simp [f_are_spots, g_are_spots, dFun, sSeq, snext, sIf, sbind, sAsg, sRet, sSkip, sExpr, sPar, sSetI, sSetA, sAug, sFor, sTg, dVar, dC, dNil, dCons, dBind, obind, dTup, dLst, dFrz, MO.d, dReg, dFz, dOp1, dOp2, dCmp, dB2v, dTst, dAnd, dOr, dNot, dIf, dCall, dIx, dLook, lookD, dIsi, dIsi2, dIsC, dIn, dChn, dMut, lstOf, putO, dM1, tyOk, dNw1, dNw2, dSl, dP, dNoP, dIsN, dItQ, dItS, dRg1, dRg2, dEnum, dLc, dYes, noex, Tg.run, gSets, List.length_map, List.length_cons, List.length_nil, List.map_cons, List.map_nil, e1, lenD, leI, cmpI, h2, h3, hq, ha, hn]
theorem pair_ok {n i j : Nat} (h1 : i < j) (h2 : j < n) (h9 : n ≤ 9) (mu : Store) : f_is_pair_below [pD (i, j), .int (n : Int)] mu = .ok (.bl true) mu := by
  have w : ∀ a b c : Int, b ≤ a → a ≤ c → f_is_within [.int a, .int b, .int c] mu = .ok (.bl true) mu := fun a b c h1 h2 => by
    have e : f_is_number [.int a] mu = .ok (.bl true) mu := by simp [f_is_number, g_is_number, dFun, sSeq, snext, sIf, sbind, sAsg, sRet, sSkip, sExpr, sPar, sSetI, sSetA, sAug, sFor, sTg, dVar, dC, dNil, dCons, dBind, obind, dTup, dLst, dFrz, MO.d, dReg, dFz, dOp1, dOp2, dCmp, dB2v, dTst, dAnd, dOr, dNot, dIf, dCall, dIx, dLook, lookD, dIsi, dIsi2, dIsC, dIn, dChn, dMut, lstOf, putO, dM1, tyOk, dNw1, dNw2, dSl, dP, dNoP, dIsN, dItQ, dItS, dRg1, dRg2, dEnum, dLc, dYes, noex, Tg.run, gSets, List.length_map, List.length_cons, List.length_nil, List.map_cons, List.map_nil, isiOk, isTy]
    simp [f_is_within, g_is_within, dFun, sSeq, snext, sIf, sbind, sAsg, sRet, sSkip, sExpr, sPar, sSetI, sSetA, sAug, sFor, sTg, dVar, dC, dNil, dCons, dBind, obind, dTup, dLst, dFrz, MO.d, dReg, dFz, dOp1, dOp2, dCmp, dB2v, dTst, dAnd, dOr, dNot, dIf, dCall, dIx, dLook, lookD, dIsi, dIsi2, dIsC, dIn, dChn, dMut, lstOf, putO, dM1, tyOk, dNw1, dNw2, dSl, dP, dNoP, dIsN, dItQ, dItS, dRg1, dRg2, dEnum, dLc, dYes, noex, Tg.run, gSets, List.length_map, List.length_cons, List.length_nil, List.map_cons, List.map_nil, e, leI, cmpI, h1, h2]
  have w1 := w j 1 (n - 1) (by omega) (by omega)
  have w2 := w i 0 (j - 1) (by omega) (by omega)
  simp [f_is_pair_below, g_is_pair_below, dFun, sSeq, snext, sIf, sbind, sAsg, sRet, sSkip, sExpr, sPar, sSetI, sSetA, sAug, sFor, sTg, dVar, dC, dNil, dCons, dBind, obind, dTup, dLst, dFrz, MO.d, dReg, dFz, dOp1, dOp2, dCmp, dB2v, dTst, dAnd, dOr, dNot, dIf, dCall, dIx, dLook, lookD, dIsi, dIsi2, dIsC, dIn, dChn, dMut, lstOf, putO, dM1, tyOk, dNw1, dNw2, dSl, dP, dNoP, dIsN, dItQ, dItS, dRg1, dRg2, dEnum, dLc, dYes, noex, Tg.run, gSets, List.length_map, List.length_cons, List.length_nil, List.map_cons, List.map_nil, isiOk, isTy, lenD, neD, eqD, toP, PyData.depth, PyData.eqv, pD, ixD, L2.atI, L2.ixN, subD, w1, w2]
end DL
end

section
set_option Elab.async false
set_option linter.all false
set_option maxRecDepth 100000
set_option maxHeartbeats 4000000
namespace DL
open PySem
/-! the plain law of k02: steps away -/
structure Bf (n : Nat) (fv : List D) (lv : List Nat) : Prop where
  len : fv.length = n
  nd : lv.Nodup
  lt : ∀ x ∈ lv, x < n ∧ ∃ k : Int, fv[x]? = some (.int k)
  val : ∀ x < n, fv[x]? = some .non ∨ ∃ k : Int, fv[x]? = some (.int k)
theorem Bf.le {n : Nat} {fv : List D} {lv : List Nat} (h : Bf n fv lv) : lv.length ≤ n := by
  have := h.nd.length_le_of_subset (l₂ := List.range n) fun x hx => List.mem_range.mpr (h.lt x hx).1
  rwa [List.length_range] at this
def intsN (l : List Nat) : List D := l.map fun (i : Nat) => D.int (i : Int)
def st2 (mu : Store) (fv : List D) (lv : List Nat) : Store := mu ++ [some (.lst fv), some (.lst (intsN lv))]
theorem st2_0 (mu : Store) (fv : List D) (lv : List Nat) : (st2 mu fv lv)[mu.length]? = some (some (.lst fv)) := by unfold st2; simp
theorem st2_1 (mu : Store) (fv : List D) (lv : List Nat) : (st2 mu fv lv)[mu.length + 1]? = some (some (.lst (intsN lv))) := by
  unfold st2
  rw [List.getElem?_append_right (by omega)]
  simp
theorem st2_s0 (mu : Store) (fv fv' : List D) (lv : List Nat) : (st2 mu fv lv).set mu.length (some (.lst fv')) = st2 mu fv' lv := by unfold st2; simp
theorem st2_s1 (mu : Store) (fv : List D) (lv lv' : List Nat) : (st2 mu fv lv).set (mu.length + 1) (some (.lst (intsN lv'))) = st2 mu fv lv' := by
  unfold st2
  rw [List.set_append_right _ _ (by omega)]
  simp
theorem ix_nat {l : List D} {i : Nat} {d : D} (h : l[i]? = some d) : ixD (.lst l) (.int (i : Int)) = some d := by
  have hi : i < l.length := (List.getElem?_eq_some_iff.mp h).1
  unfold ixD L2.atI L2.ixN
  have h1 : (0 : Int) ≤ (i : Int) := by omega
  have h2 : (i : Int) < (l.length : Int) := by omega
  simp only [if_pos h1, if_pos h2, Int.toNat_natCast, Option.bind_some]
  exact h
theorem set_nat {l : List D} {i : Nat} {v : D} (h : i < l.length) : setD l (.int (i : Int)) v = some (l.set i v) := by
  unfold setD L2.ixN
  have h1 : (0 : Int) ≤ (i : Int) := by omega
  have h2 : (i : Int) < (l.length : Int) := by omega
  simp only [if_pos h1, if_pos h2, Int.toNat_natCast]
theorem intsN_get {l : List Nat} {i c : Nat} (h : l[i]? = some c) : (intsN l)[i]? = some (.int (c : Int)) := by unfold intsN; rw [List.getElem?_map, h]; rfl
theorem in_two (c a b : Int) : inD (.int c) (.tup [.int a, .int b]) = some (decide (a = c) || decide (b = c)) := by
  unfold inD
  simp [toP, toPL, PyData.depth, PyData.depthAll, PyData.eqv]
  rfl
/-- one road -/
theorem bf_turn {n : Nat} (hn : n ≤ 9) (mu : Store) {fv : List D} {lv : List Nat} (h : Bf n fv lv) {at_ c : Nat} (hat : lv[at_]? = some c) {a b : Nat} (hab : a < b) (hb : b < n) {a0 a1 a2 x8 : Option SV} : ∃ fv' lv' y8,
    b_steps_away_1 [a0, a1, a2, some (.val (.obj mu.length)), some (.val (.obj (mu.length + 1))), some (.val (.int (at_ : Int))), some (.val (.int (a : Int))), some (.val (.int (b : Int))), x8] (st2 mu fv lv) =
      .nx [a0, a1, a2, some (.val (.obj mu.length)), some (.val (.obj (mu.length + 1))), some (.val (.int (at_ : Int))), some (.val (.int (a : Int))), some (.val (.int (b : Int))), y8] (st2 mu fv' lv') ∧ Bf n fv' lv' ∧ ∃ t, lv' = lv ++ t := by
  have hc := h.lt c (List.mem_of_getElem? hat)
  have i1 := ix_nat (intsN_get hat)
  have g0 := st2_0 mu fv lv
  have g1 := st2_1 mu fv lv
  have s0 := fun fv' => st2_s0 mu fv fv' lv
  by_cases hin : a = c ∨ b = c
  · obtain ⟨e, he, hec⟩ : ∃ e : Nat, (a : Int) + b - c = (e : Int) ∧ e < n := by
      rcases hin with rfl | rfl
      · exact ⟨b, by omega, hb⟩
      · exact ⟨a, by omega, by omega⟩
    have hd : (decide ((a : Int) = c) || decide ((b : Int) = c)) = true := by
      rcases hin with rfl | rfl <;> simp
    rcases h.val e hec with hv | ⟨k, hv⟩
    · obtain ⟨k, hk⟩ := hc.2
      have i2 := ix_nat hv
      have i3 := ix_nat hk
      have hset := set_nat (l := fv) (i := e) (v := .int (k + 1)) (by rw [h.len]; exact hec)
      have hlv : lv.length < 16000000 := by have := h.le; omega
      have hne : e ∉ lv := fun hm => by
        obtain ⟨k', hk'⟩ := (h.lt e hm).2
        rw [hv] at hk'; cases hk'
      have g2 := st2_1 mu (fv.set e (.int (k + 1))) lv
      have s1 := st2_s1 mu (fv.set e (.int (k + 1))) lv (lv ++ [e])
      have happ : intsN lv ++ [.int (e : Int)] = intsN (lv ++ [e]) := by unfold intsN; simp
      have hlen : (intsN lv).length = lv.length := by unfold intsN; simp
      refine ⟨fv.set e (.int (k + 1)), lv ++ [e], some (.val (.int (e : Int))), ?_, ⟨by rw [List.length_set]; exact h.len, ?_, fun x hx => ?_, fun x hx => ?_⟩, [e], rfl⟩
      · simp [b_steps_away_1, dFun, sSeq, snext, sIf, sbind, sAsg, sRet, sSkip, sExpr, sPar, sSetI, sSetA, sAug, sFor, sTg, dVar, dC, dNil, dCons, dBind, obind, dTup, dLst, dFrz, MO.d, dReg, dFz, dOp1, dOp2, dCmp, dB2v, dTst, dAnd, dOr, dNot, dIf, dCall, dIx, dLook, lookD, dIsi, dIsi2, dIsC, dIn, dChn, dMut, lstOf, putO, dM1, tyOk, dNw1, dNw2, dSl, dP, dNoP, dIsN, dItQ, dItS, dRg1, dRg2, dEnum, dLc, dYes, noex, Tg.run, gSets, List.length_map, List.length_cons, List.length_nil, List.map_cons, List.map_nil, g1, g0, i1, in_two, hd, subD, addD, he, i2, isNon, i3, hset, s0, g2, appD, hlen, hlv, happ, s1]
      · rw [List.nodup_append]
        refine ⟨h.nd, by simp, fun x hx y hy => ?_⟩
        rw [List.mem_singleton] at hy
        subst hy
        exact fun z => hne (z ▸ hx)
      · rcases List.mem_append.mp hx with hx | hx
        · have := h.lt x hx
          refine ⟨this.1, ?_⟩
          obtain ⟨k', hk'⟩ := this.2
          have hex : e ≠ x := fun z => hne (by rw [z]; exact hx)
          exact ⟨k', by rw [List.getElem?_set_ne hex]; exact hk'⟩
        · rw [List.mem_singleton] at hx
          subst hx
          exact ⟨hec, k + 1, List.getElem?_set_self (by rw [h.len]; exact hec)⟩
      · by_cases hxe : e = x
        · subst hxe
          exact .inr ⟨k + 1, List.getElem?_set_self (by rw [h.len]; exact hec)⟩
        · rw [List.getElem?_set_ne hxe]
          exact h.val x hx
    · have i2 := ix_nat hv
      exact ⟨fv, lv, some (.val (.int (e : Int))), by simp [b_steps_away_1, dFun, sSeq, snext, sIf, sbind, sAsg, sRet, sSkip, sExpr, sPar, sSetI, sSetA, sAug, sFor, sTg, dVar, dC, dNil, dCons, dBind, obind, dTup, dLst, dFrz, MO.d, dReg, dFz, dOp1, dOp2, dCmp, dB2v, dTst, dAnd, dOr, dNot, dIf, dCall, dIx, dLook, lookD, dIsi, dIsi2, dIsC, dIn, dChn, dMut, lstOf, putO, dM1, tyOk, dNw1, dNw2, dSl, dP, dNoP, dIsN, dItQ, dItS, dRg1, dRg2, dEnum, dLc, dYes, noex, Tg.run, gSets, List.length_map, List.length_cons, List.length_nil, List.map_cons, List.map_nil, g1, g0, i1, in_two, hd, subD, addD, he, i2, isNon], h, [], by simp⟩
  · have hd : (decide ((a : Int) = c) || decide ((b : Int) = c)) = false := by
      rw [not_or] at hin
      simp
      omega
    exact ⟨fv, lv, x8, by simp [b_steps_away_1, dFun, sSeq, snext, sIf, sbind, sAsg, sRet, sSkip, sExpr, sPar, sSetI, sSetA, sAug, sFor, sTg, dVar, dC, dNil, dCons, dBind, obind, dTup, dLst, dFrz, MO.d, dReg, dFz, dOp1, dOp2, dCmp, dB2v, dTst, dAnd, dOr, dNot, dIf, dCall, dIx, dLook, lookD, dIsi, dIsi2, dIsC, dIn, dChn, dMut, lstOf, putO, dM1, tyOk, dNw1, dNw2, dSl, dP, dNoP, dIsN, dItQ, dItS, dRg1, dRg2, dEnum, dLc, dYes, noex, Tg.run, gSets, List.length_map, List.length_cons, List.length_nil, List.map_cons, List.map_nil, g1, g0, i1, in_two, hd], h, [], by simp⟩
theorem bf_for {n : Nat} (hn : n ≤ 9) (mu : Store) {at_ c : Nat} {a0 a1 a2 : Option SV} : ∀ (qs : List (Nat × Nat)) (fv : List D) (lv : List Nat) (x6 x7 x8 : Option SV), Bf n fv lv → lv[at_]? = some c → (∀ q ∈ qs, q.1 < q.2 ∧ q.2 < n) → ∃ fv' lv' y6 y7 y8,
    sForL (.tp [6, 7]) b_steps_away_1 (qs.map pD) [a0, a1, a2, some (.val (.obj mu.length)), some (.val (.obj (mu.length + 1))), some (.val (.int (at_ : Int))), x6, x7, x8] (st2 mu fv lv) =
      .nx [a0, a1, a2, some (.val (.obj mu.length)), some (.val (.obj (mu.length + 1))), some (.val (.int (at_ : Int))), y6, y7, y8] (st2 mu fv' lv') ∧ Bf n fv' lv' ∧ ∃ t, lv' = lv ++ t
  | [], fv, lv, x6, x7, x8, h, hat, hq => ⟨fv, lv, x6, x7, x8, rfl, h, [], by simp⟩
  | q :: qs, fv, lv, x6, x7, x8, h, hat, hq => by
    obtain ⟨q1, q2⟩ := hq q List.mem_cons_self
    obtain ⟨fv1, lv1, z8, e1, h1, t1, ht1⟩ := bf_turn hn mu h hat q1 q2 (a0 := a0) (a1 := a1) (a2 := a2) (x8 := x8)
    have hat1 : lv1[at_]? = some c := by
      rw [ht1, List.getElem?_append_left (List.getElem?_eq_some_iff.mp hat).1]
      exact hat
    obtain ⟨fv2, lv2, w6, w7, w8, e2, h2, t2, ht2⟩ := bf_for hn mu qs fv1 lv1 (some (.val (.int (q.1 : Int)))) (some (.val (.int (q.2 : Int)))) z8 h1 hat1 fun x hx => hq x (List.mem_cons_of_mem _ hx)
    refine ⟨fv2, lv2, w6, w7, w8, ?_, h2, t1 ++ t2, by rw [ht2, ht1, List.append_assoc]⟩
    rw [← e2]
    conv => lhs; rw [List.map_cons]; unfold sForL
    simp only [Tg.run, pD, gSets, List.set_cons_succ, List.set_cons_zero, e1]
theorem bf_while {n : Nat} (hn : n ≤ 9) (mu : Store) {qs : List (Nat × Nat)} (hq : ∀ q ∈ qs, q.1 < q.2 ∧ q.2 < n) {a0 a2 : Option SV} : ∀ (m at_ : Nat) (fv : List D) (lv : List Nat) (x6 x7 x8 : Option SV), Bf n fv lv → at_ ≤ lv.length → n + 1 ≤ m + at_ → ∃ fv' lv' sl,
    sWhl c_steps_away_1 b_steps_away_2 m [a0, some (.val (.lst (qs.map pD))), a2, some (.val (.obj mu.length)), some (.val (.obj (mu.length + 1))), some (.val (.int (at_ : Int))), x6, x7, x8] (st2 mu fv lv) =
      .nx sl (st2 mu fv' lv') ∧ Bf n fv' lv' ∧ sl[3]? = some (some (.val (.obj mu.length)))
  | 0, at_, fv, lv, x6, x7, x8, h, hat, hm => by have := h.le; omega
  | m + 1, at_, fv, lv, x6, x7, x8, h, hat, hm => by
    have g1 := st2_1 mu fv lv
    have hlen : (intsN lv).length = lv.length := by unfold intsN; simp
    by_cases hlt : at_ < lv.length
    · obtain ⟨fv1, lv1, y6, y7, y8, e1, h1, t, ht⟩ := bf_for hn mu (at_ := at_) (c := lv[at_]) (a0 := a0) (a1 := some (.val (.lst (qs.map pD)))) (a2 := a2) qs fv lv x6 x7 x8 h (List.getElem?_eq_getElem hlt) hq
      obtain ⟨fv2, lv2, sl, e2, h2, hs⟩ := bf_while hn mu hq (a0 := a0) (a2 := a2) m (at_ + 1) fv1 lv1 y6 y7 y8 h1 (by rw [ht, List.length_append]; omega) (by omega)
      refine ⟨fv2, lv2, sl, ?_, h2, hs⟩
      rw [← e2]
      conv => lhs; unfold sWhl
      have hlt' : (at_ : Int) < (lv.length : Int) := by omega
      have hb : b_steps_away_2 [a0, some (.val (.lst (qs.map pD))), a2, some (.val (.obj mu.length)), some (.val (.obj (mu.length + 1))), some (.val (.int (at_ : Int))), x6, x7, x8] (st2 mu fv lv) =
          .nx [a0, some (.val (.lst (qs.map pD))), a2, some (.val (.obj mu.length)), some (.val (.obj (mu.length + 1))), some (.val (.int ((at_ + 1 : Nat) : Int))), y6, y7, y8] (st2 mu fv1 lv1) := by
        simp [b_steps_away_2, dFun, sSeq, snext, sIf, sbind, sAsg, sRet, sSkip, sExpr, sPar, sSetI, sSetA, sAug, sFor, sTg, dVar, dC, dNil, dCons, dBind, obind, dTup, dLst, dFrz, MO.d, dReg, dFz, dOp1, dOp2, dCmp, dB2v, dTst, dAnd, dOr, dNot, dIf, dCall, dIx, dLook, lookD, dIsi, dIsi2, dIsC, dIn, dChn, dMut, lstOf, putO, dM1, tyOk, dNw1, dNw2, dSl, dP, dNoP, dIsN, dItQ, dItS, dRg1, dRg2, dEnum, dLc, dYes, noex, Tg.run, gSets, List.length_map, List.length_cons, List.length_nil, List.map_cons, List.map_nil, e1]
      simp [c_steps_away_1, dFun, sSeq, snext, sIf, sbind, sAsg, sRet, sSkip, sExpr, sPar, sSetI, sSetA, sAug, sFor, sTg, dVar, dC, dNil, dCons, dBind, obind, dTup, dLst, dFrz, MO.d, dReg, dFz, dOp1, dOp2, dCmp, dB2v, dTst, dAnd, dOr, dNot, dIf, dCall, dIx, dLook, lookD, dIsi, dIsi2, dIsC, dIn, dChn, dMut, lstOf, putO, dM1, tyOk, dNw1, dNw2, dSl, dP, dNoP, dIsN, dItQ, dItS, dRg1, dRg2, dEnum, dLc, dYes, noex, Tg.run, gSets, List.length_map, List.length_cons, List.length_nil, List.map_cons, List.map_nil, g1, lenD, hlen, ltD, hlt', hb]
    · have hlt' : ¬ (at_ : Int) < (lv.length : Int) := by omega
      refine ⟨fv, lv, [a0, some (.val (.lst (qs.map pD))), a2, some (.val (.obj mu.length)), some (.val (.obj (mu.length + 1))), some (.val (.int (at_ : Int))), x6, x7, x8], ?_, h, rfl⟩
      unfold sWhl
      simp [c_steps_away_1, dFun, sSeq, snext, sIf, sbind, sAsg, sRet, sSkip, sExpr, sPar, sSetI, sSetA, sAug, sFor, sTg, dVar, dC, dNil, dCons, dBind, obind, dTup, dLst, dFrz, MO.d, dReg, dFz, dOp1, dOp2, dCmp, dB2v, dTst, dAnd, dOr, dNot, dIf, dCall, dIx, dLook, lookD, dIsi, dIsi2, dIsC, dIn, dChn, dMut, lstOf, putO, dM1, tyOk, dNw1, dNw2, dSl, dP, dNoP, dIsN, dItQ, dItS, dRg1, dRg2, dEnum, dLc, dYes, noex, Tg.run, gSets, List.length_map, List.length_cons, List.length_nil, List.map_cons, List.map_nil, g1, lenD, hlen, ltD, hlt']
theorem clL_bf {n m : Nat} {fv : List D} {lv : List Nat} (h : Bf n fv lv) : clL m fv = true := by
  have key : ∀ l : List D, (∀ d ∈ l, clD m d = true) → clL m l = true := by
    intro l
    induction l with
    | nil => intro _; rfl
    | cons d l ih =>
      intro hd
      show (clD m d && clL m l) = true
      rw [hd d List.mem_cons_self, ih fun x hx => hd x (List.mem_cons_of_mem _ hx)]
      rfl
  refine key fv fun d hd => ?_
  obtain ⟨i, hi, e⟩ := List.mem_iff_getElem.mp hd
  have hv := h.val i (by rw [← h.len]; exact hi)
  rw [List.getElem?_eq_getElem hi, e] at hv
  rcases hv with hv | ⟨k, hv⟩
  · cases hv; rfl
  · cases hv; rfl
/-- nothing in the store names what is beyond it -/
def Shut0 (mu : Store) : Prop := mu.all (clM mu.length) = true
theorem steps_ok {n : Nat} (hn : n ≤ 9) {qs : List (Nat × Nat)} (hq : ∀ q ∈ qs, q.1 < q.2 ∧ q.2 < n) {s : Nat} (hs : s < n) {mu : Store} (hmu : Shut0 mu) : ∃ aw, f_steps_away [.int (n : Int), .lst (qs.map pD), .int (s : Int)] mu = .ok (.lst aw) mu ∧ ∀ m, clL m aw = true := by
  have h0 : Bf n ((List.replicate n D.non).set s (.int 0)) [s] := by
    refine ⟨by simp, by simp, fun x hx => ?_, fun x hx => ?_⟩
    · rw [List.mem_singleton] at hx
      subst hx
      exact ⟨hs, 0, List.getElem?_set_self (by simpa using hs)⟩
    · by_cases hxs : s = x
      · subst hxs
        exact .inr ⟨0, List.getElem?_set_self (by simpa using hs)⟩
      · rw [List.getElem?_set_ne hxs, List.getElem?_replicate, if_pos hx]
        exact .inl rfl
  obtain ⟨fv, lv, sl, e, hb, hsl⟩ := bf_while hn mu hq (a0 := some (.val (.int (n : Int)))) (a2 := some (.val (.int (s : Int)))) 60 0 _ _ none none none h0 (by simp) (by omega)
  refine ⟨fv, ?_, fun m => clL_bf hb⟩
  have r1 : rgOk (n : Int) = true := rgOk_nat (by omega)
  have hrep : repD (.lst [.non]) (.int (n : Int)) = some (.lst (List.replicate n D.non)) := by
    unfold repD
    have : rgOk (n : Int) = true ∧ [D.non].length * (n : Int).toNat ≤ 16000000 := ⟨r1, by simp; omega⟩
    dsimp only
    rw [if_pos this]
    simp
  have g0 : (mu ++ [some (MO.lst (List.replicate n D.non))])[mu.length]? = some (some (.lst (List.replicate n D.non))) := by simp
  have s0 : (mu ++ [some (MO.lst (List.replicate n D.non))]).set mu.length (some (.lst ((List.replicate n D.non).set s (.int 0)))) = mu ++ [some (.lst ((List.replicate n D.non).set s (.int 0)))] := by simp
  have hset := set_nat (l := List.replicate n D.non) (i := s) (v := .int 0) (by simpa using hs)
  have happ : mu ++ [some (MO.lst ((List.replicate n D.non).set s (.int 0)))] ++ [some (.lst [.int (s : Int)])] = st2 mu ((List.replicate n D.non).set s (.int 0)) [s] := by unfold st2 intsN; simp
  have g1 := st2_0 mu fv lv
  have key : dFun 9 g_steps_away [.int (n : Int), .lst (qs.map pD), .int (s : Int)] mu = .ok (.lst fv) ((st2 mu fv lv).set mu.length none) := by
    rw [show ((0 : Nat) : Int) = 0 from rfl] at e
    simp [g_steps_away, dFun, sSeq, snext, sIf, sbind, sAsg, sRet, sSkip, sExpr, sPar, sSetI, sSetA, sAug, sFor, sTg, dVar, dC, dNil, dCons, dBind, obind, dTup, dLst, dFrz, MO.d, dReg, dFz, dOp1, dOp2, dCmp, dB2v, dTst, dAnd, dOr, dNot, dIf, dCall, dIx, dLook, lookD, dIsi, dIsi2, dIsC, dIn, dChn, dMut, lstOf, putO, dM1, tyOk, dNw1, dNw2, dSl, dP, dNoP, dIsN, dItQ, dItS, dRg1, dRg2, dEnum, dLc, dYes, noex, Tg.run, gSets, List.length_map, List.length_cons, List.length_nil, List.map_cons, List.map_nil, hrep, g0, s0, hset, happ, e, hsl, g1]
  have hlen : (st2 mu fv lv).length = mu.length + 2 := by unfold st2; simp
  have ht : ((st2 mu fv lv).set mu.length none).take mu.length = mu := by
    rw [List.take_set_of_le (Nat.le_refl _)]
    unfold st2
    simp
  unfold f_steps_away fGc
  rw [key]
  unfold gcO
  dsimp only
  rw [ht, show clD mu.length (.lst fv) = clL mu.length fv from rfl, clL_bf hb]
  rw [show mu.all (clM mu.length) = true from hmu]
  rfl
end DL
end

section
set_option Elab.async false
set_option linter.all false
set_option maxRecDepth 100000
set_option maxHeartbeats 4000000
namespace DL
open PySem
/-! the plain law of k02: webs made -/
def pP (p : Nat × Nat) : PyData := .tuple [.int (p.1 : Int), .int (p.2 : Int)]
theorem toPL_prs : ∀ l : List (Nat × Nat), toPL (l.map pD) = some (l.map pP)
  | [] => rfl
  | p :: l => by
    rw [List.map_cons]
    unfold toPL
    rw [toPL_prs l]
    rfl
def srt (qs : List (Nat × Nat)) : List D := (qs.map pD).mergeSort sortLe
theorem sorted_prs (qs : List (Nat × Nat)) : sortedD (.lst (qs.map pD)) = some (.lst (srt qs)) := by
  unfold sortedD
  dsimp only
  rw [toPL_prs]
  dsimp only
  have h1 : alikeB (qs.map pP) = true := by
    unfold alikeB
    rw [List.all_eq_true]
    intro a ha
    rw [List.all_eq_true]
    intro b hb
    obtain ⟨x, _, rfl⟩ := List.mem_map.mp ha
    obtain ⟨y, _, rfl⟩ := List.mem_map.mp hb
    simp [pP, PySem.W.alike, PySem.W.alikeAll]
  have h2 : ((qs.map pP).all tupNE) = true := by
    rw [List.all_eq_true]
    intro a ha
    obtain ⟨x, _, rfl⟩ := List.mem_map.mp ha
    rfl
  have h3 : ((qs.map pP).all fun p => decide (p.depth ≤ 60)) = true := by
    rw [List.all_eq_true]
    intro a ha
    obtain ⟨x, _, rfl⟩ := List.mem_map.mp ha
    simp [pP, PyData.depth, PyData.depthAll]
  rw [h1, h2, h3]
  rfl
structure Web (fs : List Str) (qs : List (Nat × Nat)) : Prop where
  names : Names fs
  ne : 1 ≤ fs.length
  nd : qs.Nodup
  lt : ∀ q ∈ qs, q.1 < q.2 ∧ q.2 < fs.length
  few : qs.length ≤ 36
def webF (fs : List Str) (qs : List (Nat × Nat)) (aws : List D) : List (Str × D) := [("spots", .tup (fs.map D.str)), ("roads", .tup (srt qs)), ("away", .lst aws)]
theorem srt_mem {qs : List (Nat × Nat)} {d : D} (h : d ∈ srt qs) : ∃ q ∈ qs, pD q = d := by
  unfold srt at h
  rw [List.mem_mergeSort] at h
  exact List.mem_map.mp h
theorem clL_of {m : Nat} : ∀ {l : List D}, (∀ d ∈ l, clD m d = true) → clL m l = true
  | [], _ => rfl
  | d :: l, h => by
    show (clD m d && clL m l) = true
    rw [h d List.mem_cons_self, clL_of fun x hx => h x (List.mem_cons_of_mem _ hx)]
    rfl
theorem cl_srt (m : Nat) (qs : List (Nat × Nat)) : clL m (srt qs) = true := clL_of fun d hd => by
  obtain ⟨q, _, rfl⟩ := srt_mem hd
  rfl
theorem cl_webF (m : Nat) (fs : List Str) (qs : List (Nat × Nat)) {aws : List D} (h : clL m aws = true) : clF m (webF fs qs aws) = true := by
  unfold webF
  simp only [clF, clD, cl_strs, cl_srt, h, Bool.and_self]
theorem q_init_1 {fs : List Str} {qs : List (Nat × Nat)} (h : Web fs qs) (mu : Store) {a0 a3 : Option SV} : q_Web_init_1 [a0, some (.val (.lst (fs.map D.str))), some (.val (.lst (qs.map pD))), a3, none] mu = .ok (.lst (qs.map fun _ => D.bl true)) mu := by
  have hl : lenD (.lst (fs.map D.str)) = some (.int (fs.length : Nat)) := by simp [lenD]
  have := lc_all (src := dItQ (dVar 2)) (g := .nm 4) (own := [4]) (elt := dCall f_is_pair_below (dCons (dVar 4) (dCons (dOp1 lenD (dLook (dVar 1))) dNil))) (sl := [a0, some (.val (.lst (fs.map D.str))), some (.val (.lst (qs.map pD))), a3, none]) (mu := mu) (ds := qs.map pD)
    (fun _ => .bl true) rfl (by rw [List.length_map]; have := h.few; omega) (fun d hd => by
      obtain ⟨q, hq, rfl⟩ := List.mem_map.mp hd
      obtain ⟨q1, q2⟩ := h.lt q hq
      have hp := pair_ok q1 q2 h.names.le mu
      exact ⟨_, rfl, by simp [wipeS, dFun, sSeq, snext, sIf, sbind, sAsg, sRet, sSkip, sExpr, sPar, sSetI, sSetA, sAug, sFor, sTg, dVar, dC, dNil, dCons, dBind, obind, dTup, dLst, dFrz, MO.d, dReg, dFz, dOp1, dOp2, dCmp, dB2v, dTst, dAnd, dOr, dNot, dIf, dCall, dIx, dLook, lookD, dIsi, dIsi2, dIsC, dIn, dChn, dMut, lstOf, putO, dM1, tyOk, dNw1, dNw2, dSl, dP, dNoP, dIsN, dItQ, dItS, dRg1, dRg2, dEnum, dLc, dYes, noex, Tg.run, gSets, List.length_map, List.length_cons, List.length_nil, List.map_cons, List.map_nil, hl, hp]⟩)
  rw [show q_Web_init_1 = dLc (dItQ (dVar 2)) (.nm 4) [4] dYes (dCall f_is_pair_below (dCons (dVar 4) (dCons (dOp1 lenD (dLook (dVar 1))) dNil))) from rfl, this, List.map_map]
  rfl
theorem q_init_2 {fs : List Str} {qs : List (Nat × Nat)} (h : Web fs qs) {mu : Store} (hmu : Shut0 mu) {a0 : Option SV} : ∃ aws, q_Web_init_2 [a0, some (.val (.lst (fs.map D.str))), some (.val (.lst (qs.map pD))), none, none] mu = .ok (.lst aws) mu ∧ ∀ m, clL m aws = true := by
  have hl : lenD (.lst (fs.map D.str)) = some (.int (fs.length : Nat)) := by simp [lenD]
  obtain ⟨A, hA⟩ : ∃ A : Nat → List D, ∀ s, s < fs.length → f_steps_away [.int (fs.length : Nat), .lst (qs.map pD), .int (s : Int)] mu = .ok (.lst (A s)) mu ∧ ∀ m, clL m (A s) = true := by
    refine ⟨fun s => if hs : s < fs.length then Classical.choose (steps_ok h.names.le h.lt hs hmu) else [], fun s hs => ?_⟩
    dsimp only
    rw [dif_pos hs]
    exact Classical.choose_spec (steps_ok h.names.le h.lt hs hmu)
  have r1 : rgOk (fs.length : Int) = true := rgOk_nat (by have := h.names.le; omega)
  refine ⟨(rangeD 0 fs.length).map fun d => match d with
    | .int i => .lst (A i.toNat)
    | d => d, ?_, fun m => clL_of fun d hd => ?_⟩
  · have := lc_all (src := dRg1 (dOp1 lenD (dLook (dVar 1)))) (g := .nm 3) (own := [3]) (elt := dCall f_steps_away (dCons (dOp1 lenD (dLook (dVar 1))) (dCons (dVar 2) (dCons (dVar 3) dNil)))) (sl := [a0, some (.val (.lst (fs.map D.str))), some (.val (.lst (qs.map pD))), none, none]) (mu := mu) (ds := rangeD 0 fs.length)
      (fun d => match d with
        | .int i => .lst (A i.toNat)
        | d => d) (by simp [dFun, sSeq, snext, sIf, sbind, sAsg, sRet, sSkip, sExpr, sPar, sSetI, sSetA, sAug, sFor, sTg, dVar, dC, dNil, dCons, dBind, obind, dTup, dLst, dFrz, MO.d, dReg, dFz, dOp1, dOp2, dCmp, dB2v, dTst, dAnd, dOr, dNot, dIf, dCall, dIx, dLook, lookD, dIsi, dIsi2, dIsC, dIn, dChn, dMut, lstOf, putO, dM1, tyOk, dNw1, dNw2, dSl, dP, dNoP, dIsN, dItQ, dItS, dRg1, dRg2, dEnum, dLc, dYes, noex, Tg.run, gSets, List.length_map, List.length_cons, List.length_nil, List.map_cons, List.map_nil, hl, r1]) (by rw [rangeD_len]; have := h.names.le; omega) (fun d hd => by
      rw [rangeD0] at hd
      obtain ⟨s, hs, rfl⟩ := List.mem_map.mp hd
      have := (hA s (List.mem_range.mp hs)).1
      exact ⟨_, rfl, by simp [wipeS, dFun, sSeq, snext, sIf, sbind, sAsg, sRet, sSkip, sExpr, sPar, sSetI, sSetA, sAug, sFor, sTg, dVar, dC, dNil, dCons, dBind, obind, dTup, dLst, dFrz, MO.d, dReg, dFz, dOp1, dOp2, dCmp, dB2v, dTst, dAnd, dOr, dNot, dIf, dCall, dIx, dLook, lookD, dIsi, dIsi2, dIsC, dIn, dChn, dMut, lstOf, putO, dM1, tyOk, dNw1, dNw2, dSl, dP, dNoP, dIsN, dItQ, dItS, dRg1, dRg2, dEnum, dLc, dYes, noex, Tg.run, gSets, List.length_map, List.length_cons, List.length_nil, List.map_cons, List.map_nil, hl, this]⟩)
    exact this
  · obtain ⟨x, hx, rfl⟩ := List.mem_map.mp hd
    rw [rangeD0] at hx
    obtain ⟨s, hs, rfl⟩ := List.mem_map.mp hx
    exact (hA s (List.mem_range.mp hs)).2 m
def fldA (fs : List Str) : List (Str × D) := [("spots", .tup (fs.map D.str))]
def fldB (fs : List Str) (qs : List (Nat × Nat)) : List (Str × D) := [("spots", .tup (fs.map D.str)), ("roads", .tup (srt qs))]
theorem init_ok {fs : List Str} {qs : List (Nat × Nat)} (h : Web fs qs) {mu : Store} (hmu : mu.all (clM (mu.length + 1)) = true) : ∃ aws, f_Web_init [.obj mu.length, .lst (fs.map D.str), .lst (qs.map pD)] (mu ++ [some (.ins 0 [])]) = .ok .non (mu ++ [some (.ins 0 (webF fs qs aws))]) ∧ ∀ m, clL m aws = true := by
  have e1 := are_spots_ok h.names h.ne (mu ++ [some (.ins 0 [])])
  have e2 : f_is_listed [.lst (qs.map pD)] (mu ++ [some (.ins 0 [])]) = .ok (.bl true) (mu ++ [some (.ins 0 [])]) := by simp [f_is_listed, g_is_listed, dFun, sSeq, snext, sIf, sbind, sAsg, sRet, sSkip, sExpr, sPar, sSetI, sSetA, sAug, sFor, sTg, dVar, dC, dNil, dCons, dBind, obind, dTup, dLst, dFrz, MO.d, dReg, dFz, dOp1, dOp2, dCmp, dB2v, dTst, dAnd, dOr, dNot, dIf, dCall, dIx, dLook, lookD, dIsi, dIsi2, dIsC, dIn, dChn, dMut, lstOf, putO, dM1, tyOk, dNw1, dNw2, dSl, dP, dNoP, dIsN, dItQ, dItS, dRg1, dRg2, dEnum, dLc, dYes, noex, Tg.run, gSets, List.length_map, List.length_cons, List.length_nil, List.map_cons, List.map_nil, isiOk, isTy]
  have e3 := q_init_1 h (mu ++ [some (.ins 0 [])]) (a0 := some (.val (.obj mu.length))) (a3 := none)
  have ha : allD (.lst (qs.map fun _ => D.bl true)) = some (.bl true) := by
    have := all_true (qs.map pD)
    rw [List.map_map] at this
    exact this
  have e4 := no_twice_prs h.nd (mu ++ [some (.ins 0 [])])
  have i0 : insOf (mu ++ [some (.ins 0 [])]) (.obj mu.length) = some (0, []) := by unfold insOf; simp
  have i1 : insOf (mu ++ [some (.ins 0 (fldA fs))]) (.obj mu.length) = some (0, (fldA fs)) := by unfold insOf; simp
  have i2 : insOf (mu ++ [some (.ins 0 (fldB fs qs))]) (.obj mu.length) = some (0, (fldB fs qs)) := by unfold insOf; simp
  have s0 : ∀ m m' : MO, (mu ++ [some m]).set mu.length (some m') = mu ++ [some m'] := fun m m' => by simp
  have sh : Shut0 (mu ++ [some (.ins 0 (fldB fs qs))]) := by
    unfold Shut0
    rw [List.length_append, List.all_append]
    show (mu.all (clM (mu.length + 1)) && _) = true
    rw [hmu]
    simp [fldB, clM, clF, clD, cl_strs, cl_srt]
  obtain ⟨aws, e5, hc⟩ := q_init_2 h sh (a0 := some (.val (.obj mu.length)))
  refine ⟨aws, ?_, hc⟩
  have p1 : putFD "spots" (.tup (fs.map D.str)) [] = (fldA fs) := rfl
  have p2 : putFD "roads" (.tup (srt qs)) (fldA fs) = (fldB fs qs) := rfl
  have p3 : putFD "away" (.lst aws) (fldB fs qs) = webF fs qs aws := rfl
  have l1 : (fldA fs).length < 1000 := by show 1 < 1000; decide
  have l2 : (fldB fs qs).length < 1000 := by show 2 < 1000; decide
  simp [f_Web_init, g_Web_init, dFun, sSeq, snext, sIf, sbind, sAsg, sRet, sSkip, sExpr, sPar, sSetI, sSetA, sAug, sFor, sTg, dVar, dC, dNil, dCons, dBind, obind, dTup, dLst, dFrz, MO.d, dReg, dFz, dOp1, dOp2, dCmp, dB2v, dTst, dAnd, dOr, dNot, dIf, dCall, dIx, dLook, lookD, dIsi, dIsi2, dIsC, dIn, dChn, dMut, lstOf, putO, dM1, tyOk, dNw1, dNw2, dSl, dP, dNoP, dIsN, dItQ, dItS, dRg1, dRg2, dEnum, dLc, dYes, noex, Tg.run, gSets, List.length_map, List.length_cons, List.length_nil, List.map_cons, List.map_nil, l1, l2, e1, e2, e3, ha, e4, tupleD, i0, p1, s0, sorted_prs, i1, p2, i2, e5, p3]
def webD (fs : List Str) (qs : List (Nat × Nat)) (aws : List D) : D := .ins 0 (webF fs qs aws)
theorem mk_ok {fs : List Str} {qs : List (Nat × Nat)} (h : Web fs qs) {mu : Store} (hmu : mu.all (clM (mu.length + 1)) = true) : ∃ aws, (match f_Web_init [.obj mu.length, .lst (fs.map D.str), .lst (qs.map pD)] (mu ++ [some (.ins 0 [])]) with
    | .ok .non mu' => Out.ok (D.obj mu.length) mu'
    | .ex c fs mu' => .ex c fs mu'
    | _ => .bad) = .ok (.obj mu.length) (mu ++ [some (.ins 0 (webF fs qs aws))]) ∧ ∀ m, clL m aws = true := by
  obtain ⟨aws, e, hc⟩ := init_ok h hmu
  exact ⟨aws, by rw [e], hc⟩
theorem made_ok {fs : List Str} {rs : List (Nat × Nat)} (h : Web fs rs) {mu : Store} (hmu : ∀ n, mu.all (clM n) = true) : ∃ aws, f__law_made [specD fs rs] mu = .ok (webD fs rs aws) mu ∧ ∀ m, clL m aws = true := by
  obtain ⟨aws, e, hc⟩ := init_ok h (hmu (mu.length + 1))
  refine ⟨aws, ?_, hc⟩
  have hx0 : ixD (specD fs rs) (.int 0) = some (.lst (fs.map D.str)) := by simp [specD, ixD, L2.atI, L2.ixN]
  have hx1 : ixD (specD fs rs) (.int 1) = some (.lst (rs.map pD)) := by simp [specD, ixD, L2.atI, L2.ixN]
  have hl : lookD mu (specD fs rs) = specD fs rs := rfl
  have g0 : (mu ++ [some (MO.ins 0 (webF fs rs aws))])[mu.length]? = some (some (.ins 0 (webF fs rs aws))) := by simp
  have s0 : (mu ++ [some (MO.ins 0 (webF fs rs aws))]).set mu.length none = mu ++ [none] := by simp
  have key : dFun 1 g__law_made [specD fs rs] mu = .ok (webD fs rs aws) (mu ++ [none]) := by
    simp [g__law_made, dFun, sSeq, snext, sIf, sbind, sAsg, sRet, sSkip, sExpr, sPar, sSetI, sSetA, sAug, sFor, sTg, dVar, dC, dNil, dCons, dBind, obind, dTup, dLst, dFrz, MO.d, dReg, dFz, dOp1, dOp2, dCmp, dB2v, dTst, dAnd, dOr, dNot, dIf, dCall, dIx, dLook, lookD, dIsi, dIsi2, dIsC, dIn, dChn, dMut, lstOf, putO, dM1, tyOk, dNw1, dNw2, dSl, dP, dNoP, dIsN, dItQ, dItS, dRg1, dRg2, dEnum, dLc, dYes, noex, Tg.run, gSets, List.length_map, List.length_cons, List.length_nil, List.map_cons, List.map_nil, dMake, specD, ixD, L2.atI, L2.ixN, listD, e, g0, s0, webD]
  unfold f__law_made fGc
  rw [key]
  unfold gcO
  dsimp only
  rw [show (mu ++ [(none : Option MO)]).take mu.length = mu by simp, hmu, show clD mu.length (webD fs rs aws) = clF mu.length (webF fs rs aws) from rfl, cl_webF _ _ _ (hc _)]
  rfl
end DL
end

section
set_option Elab.async false
set_option linter.all false
set_option maxRecDepth 100000
set_option maxHeartbeats 4000000
namespace DL
open PySem
/-! the plain law of k02: the order, the lines, the text -/
def leP (a b : Nat × Nat) : Bool := sortLe (pD a) (pD b)
def srtP (qs : List (Nat × Nat)) : List (Nat × Nat) := qs.mergeSort leP
theorem srt_eq (qs : List (Nat × Nat)) : srt qs = (srtP qs).map pD := by
  unfold srt srtP
  rw [List.map_mergeSort (r := leP) (s := sortLe) (f := pD) (fun _ _ _ _ => rfl)]
theorem leP_anti (a b : Nat × Nat) (h1 : leP a b = true) (h2 : leP b a = true) : a = b := by
  have e := (PyProof.Rows.listOrd PyProof.Rows.itemOrd).total (PySem.W.keyToks (datD (pD a))) (PySem.W.keyToks (datD (pD b))) (by
      have : (!(PyProof.Rows.listOrd PyProof.Rows.itemOrd).blt (PySem.W.keyToks (datD (pD a))) (PySem.W.keyToks (datD (pD b)))) = true := h2
      simpa using this) (by
      have : (!(PyProof.Rows.listOrd PyProof.Rows.itemOrd).blt (PySem.W.keyToks (datD (pD b))) (PySem.W.keyToks (datD (pD a)))) = true := h1
      simpa using this)
  have e2 : ([Sum.inl 1, Sum.inl (a.1 : Int), Sum.inl 1, Sum.inl (a.2 : Int), Sum.inl 0] : List (Int ⊕ List Nat)) = [Sum.inl 1, Sum.inl (b.1 : Int), Sum.inl 1, Sum.inl (b.2 : Int), Sum.inl 0] := e
  simp only [List.cons.injEq, Sum.inl.injEq, true_and, and_true] at e2
  exact Prod.ext (by exact_mod_cast e2.1) (by exact_mod_cast e2.2)
theorem srtP_sorted (qs : List (Nat × Nat)) : (srtP qs).Pairwise fun a b => leP a b = true := by
  have T := PySem.W.sortLe_total (PyProof.Rows.listOrd PyProof.Rows.itemOrd) false fun p : Nat × Nat => PySem.W.keyToks (datD (pD p))
  exact List.pairwise_mergeSort (le := leP) (fun a b c h1 h2 => T.trans a b c h1 h2) (fun a b => Bool.or_eq_true_iff.mpr (T.total a b)) qs
theorem eq_of_sorted {α : Type} {le : α → α → Bool} (anti : ∀ x y, le x y = true → le y x = true → x = y) : ∀ {a b : List α}, a.Perm b → (a.Pairwise fun x y => le x y = true) → (b.Pairwise fun x y => le x y = true) → a = b
  | [], b, p, _, _ => (List.nil_perm.mp p).symm
  | x :: a, [], p, _, _ => absurd p.length_eq (by simp)
  | x :: a, y :: b, p, ha, hb => by
    rw [List.pairwise_cons] at ha hb
    have e : x = y := by
      have h1 : x ∈ y :: b := p.mem_iff.mp List.mem_cons_self
      have h2 : y ∈ x :: a := p.mem_iff.mpr List.mem_cons_self
      rcases List.mem_cons.mp h1 with h1 | h1
      · exact h1
      · rcases List.mem_cons.mp h2 with h2 | h2
        · exact h2.symm
        · exact anti x y (ha.1 y h2) (hb.1 x h1)
    subst e
    rw [eq_of_sorted anti (List.perm_cons x |>.mp p) ha.2 hb.2]
theorem srtP_perm {qs rs : List (Nat × Nat)} (h : qs.Perm rs) : srtP qs = srtP rs := by
  refine eq_of_sorted leP_anti ?_ (srtP_sorted qs) (srtP_sorted rs)
  exact (List.mergeSort_perm qs leP).trans (h.trans (List.mergeSort_perm rs leP).symm)
theorem srtP_mem {qs : List (Nat × Nat)} {q : Nat × Nat} : q ∈ srtP qs ↔ q ∈ qs := List.mem_mergeSort
theorem srtP_len (qs : List (Nat × Nat)) : (srtP qs).length = qs.length := List.length_mergeSort qs

/-! the lines -/
def nm (fs : List Str) (i : Nat) : Str := fs.getD i ""
def spotL (x : Str) : Str := "spot " ++ x
def roadL (fs : List Str) (q : Nat × Nat) : Str := "road " ++ nm fs q.1 ++ " " ++ nm fs q.2
def linesOf (fs : List Str) (ws : List (Nat × Nat)) : List Str := fs.map spotL ++ ws.map (roadL fs) ++ [("over" : Str)]
def nl (x : Str) : Str := x ++ "\n"
def textOf (l : List Str) : Str := Txt.join "" (l.map nl)
theorem ix_fs {fs : List Str} {i : Nat} (h : i < fs.length) : ixD (.lst (fs.map D.str)) (.int (i : Int)) = some (.str (nm fs i)) := by
  refine ix_nat ?_
  rw [List.getElem?_map, List.getElem?_eq_getElem h]
  unfold nm
  rw [List.getD_eq_getElem?_getD, List.getElem?_eq_getElem h]
  rfl
theorem ixT_nat {l : List D} {i : Nat} {d : D} (h : l[i]? = some d) : ixD (.tup l) (.int (i : Int)) = some d := by
  have := ix_nat h
  exact this
theorem nm_mem {fs : List Str} {i : Nat} (h : i < fs.length) : nm fs i ∈ fs := by
  unfold nm
  rw [List.getD_eq_getElem?_getD, List.getElem?_eq_getElem h]
  exact List.getElem_mem h
theorem nm_len {fs : List Str} (hf : Names fs) {i : Nat} (h : i < fs.length) : (nm fs i).length ≤ 8 := (hf.all _ (nm_mem h)).le
theorem len_app (x y : Str) : (x ++ y).length = x.length + y.length := by rw [TL.len_tl, TL.len_tl, TL.len_tl, TL.tl_append, List.length_append]
theorem spot_len : ("spot " : Str).length = 5 := by decide +kernel
theorem road_len : ("road " : Str).length = 5 := by decide +kernel
theorem sp_len : (" " : Str).length = 1 := by decide +kernel
theorem nl_len : ("\n" : Str).length = 1 := by decide +kernel
theorem over_len : ("over" : Str).length = 4 := by decide +kernel
theorem add_str {x y : Str} (h : x.length + y.length ≤ 16000000) : addD (.str x) (.str y) = some (.str (x ++ y)) := by
  unfold addD
  dsimp only
  rw [if_pos h]
theorem line_len {fs : List Str} (hf : Names fs) {ws : List (Nat × Nat)} (hw : ∀ w ∈ ws, w.1 < fs.length ∧ w.2 < fs.length) {l : Str} (h : l ∈ linesOf fs ws) : l.length ≤ 30 := by
  unfold linesOf at h
  rw [List.mem_append, List.mem_append] at h
  rcases h with (h | h) | h
  · obtain ⟨x, hx, rfl⟩ := List.mem_map.mp h
    have := (hf.all x hx).le
    unfold spotL
    rw [len_app, spot_len]
    omega
  · obtain ⟨q, hq, rfl⟩ := List.mem_map.mp h
    have h1 := nm_len hf (hw q hq).1
    have h2 := nm_len hf (hw q hq).2
    unfold roadL
    rw [len_app, len_app, len_app, road_len, sp_len]
    omega
  · rw [List.mem_singleton] at h
    subst h
    rw [over_len]
    decide
theorem linesOf_len (fs : List Str) (ws : List (Nat × Nat)) : (linesOf fs ws).length = fs.length + ws.length + 1 := by unfold linesOf; simp; omega
theorem lines_sum {l : List Str} {k : Nat} (h : ∀ x ∈ l, x.length ≤ 30) (hk : l.length ≤ k) : ((l.map nl).map (·.length)).sum ≤ 31 * k := by
  induction l generalizing k with
  | nil => exact Nat.zero_le _
  | cons a l ih =>
    rw [List.map_cons, List.map_cons, List.sum_cons, show nl a = a ++ "\n" from rfl, len_app, nl_len]
    rw [List.length_cons] at hk
    have h1 := h a List.mem_cons_self
    have h2 := ih (k := k - 1) (fun x hx => h x (List.mem_cons_of_mem _ hx)) (by omega)
    omega
theorem strsD_map : ∀ l : List Str, strsD (l.map D.str) = some l
  | [] => rfl
  | x :: l => by
    rw [List.map_cons]
    unfold strsD
    rw [strsD_map l]
    rfl
theorem join_text {l : List Str} (h : ∀ x ∈ l, x.length ≤ 30) (hk : l.length ≤ 1000) : joinD (.str "") (.lst ((l.map nl).map D.str)) = some (.str (textOf l)) := by
  unfold joinD
  dsimp only
  rw [strsD_map]
  dsimp only
  have h1 := lines_sum h hk
  rw [if_pos (by rw [show ("" : Str).length = 0 from rfl]; omega)]
  rfl
theorem q_ends {l : List Str} (h : ∀ x ∈ l, x.length ≤ 30) {src : LF} {i : Nat} {sl : Sl} {mu : Store} (hs : src sl mu = .ok (l.map D.str) mu) (hi : i < sl.length) (hk : l.length ≤ 1000) :
    dLc src (.nm i) [i] dYes (dOp2 addD (dVar i) (dC (.str "\n"))) sl mu = .ok (.lst ((l.map nl).map D.str)) mu := by
  have := lc_all (src := src) (g := .nm i) (own := [i]) (elt := dOp2 addD (dVar i) (dC (.str "\n"))) (sl := sl) (mu := mu) (ds := l.map D.str) (fun d => match d with
    | .str x => .str (nl x)
    | d => d) hs (by rw [List.length_map]; omega) (fun d hd => by
      obtain ⟨x, hx, rfl⟩ := List.mem_map.mp hd
      have hl := h x hx
      have ha := add_str (x := x) (y := "\n") (by rw [nl_len]; omega)
      refine ⟨_, rfl, ?_⟩
      have hg : ((wipeS sl [i]).set i (some (.val (.str x))))[i]? = some (some (.val (.str x))) := List.getElem?_set_self (by rw [wipeS_length]; exact hi)
      simp only [dOp2, dBind, obind, dVar, dC, hg, ha]
      rfl)
  rw [this, List.map_map, List.map_map]
  rfl
theorem law_lines_ok {fs : List Str} {rs : List (Nat × Nat)} (h : Web fs rs) (mu : Store) : f__law_lines [specD fs rs] mu = .ok (.lst ((linesOf fs (srtP rs)).map D.str)) mu := by
  have hx0 : ixD (specD fs rs) (.int 0) = some (.lst (fs.map D.str)) := by simp [specD, ixD, L2.atI, L2.ixN]
  have hx1 : ixD (specD fs rs) (.int 1) = some (.lst (rs.map pD)) := by simp [specD, ixD, L2.atI, L2.ixN]
  have hl : lookD mu (specD fs rs) = specD fs rs := rfl
  have h9 := h.names.le
  have e1 : q__law_lines_1 [some (.val (specD fs rs)), none, none, none] mu = .ok (.lst ((fs.map spotL).map D.str)) mu := by
    have := lc_all (src := dItQ (dIx (dVar 0) (dC (.int 0)))) (g := .nm 1) (own := [1]) (elt := dOp2 addD (dC (.str "spot ")) (dVar 1)) (sl := [some (.val (specD fs rs)), none, none, none]) (mu := mu) (ds := fs.map D.str) (fun d => match d with
      | .str x => .str (spotL x)
      | d => d) (by simp [dFun, sSeq, snext, sIf, sbind, sAsg, sRet, sSkip, sExpr, sPar, sSetI, sSetA, sAug, sFor, sTg, dVar, dC, dNil, dCons, dBind, obind, dTup, dLst, dFrz, MO.d, dReg, dFz, dOp1, dOp2, dCmp, dB2v, dTst, dAnd, dOr, dNot, dIf, dCall, dIx, dLook, lookD, dIsi, dIsi2, dIsC, dIn, dChn, dMut, lstOf, putO, dM1, tyOk, dNw1, dNw2, dSl, dP, dNoP, dIsN, dItQ, dItS, dRg1, dRg2, dEnum, dLc, dYes, noex, Tg.run, gSets, List.length_map, List.length_cons, List.length_nil, List.map_cons, List.map_nil, specD, ixD, L2.atI, L2.ixN]) (by rw [List.length_map]; omega) (fun d hd => by
        obtain ⟨x, hx, rfl⟩ := List.mem_map.mp hd
        have ha := add_str (x := "spot ") (y := x) (by have := (h.names.all x hx).le; rw [spot_len]; omega)
        exact ⟨_, rfl, by simp [wipeS, dFun, sSeq, snext, sIf, sbind, sAsg, sRet, sSkip, sExpr, sPar, sSetI, sSetA, sAug, sFor, sTg, dVar, dC, dNil, dCons, dBind, obind, dTup, dLst, dFrz, MO.d, dReg, dFz, dOp1, dOp2, dCmp, dB2v, dTst, dAnd, dOr, dNot, dIf, dCall, dIx, dLook, lookD, dIsi, dIsi2, dIsC, dIn, dChn, dMut, lstOf, putO, dM1, tyOk, dNw1, dNw2, dSl, dP, dNoP, dIsN, dItQ, dItS, dRg1, dRg2, dEnum, dLc, dYes, noex, Tg.run, gSets, List.length_map, List.length_cons, List.length_nil, List.map_cons, List.map_nil, ha, spotL]⟩)
    rw [show q__law_lines_1 = dLc (dItQ (dIx (dVar 0) (dC (.int 0)))) (.nm 1) [1] dYes (dOp2 addD (dC (.str "spot ")) (dVar 1)) from rfl, this, List.map_map, List.map_map]
    rfl
  have e2 : q__law_lines_2 [some (.val (specD fs rs)), none, none, none] mu = .ok (.lst (((srtP rs).map (roadL fs)).map D.str)) mu := by
    have hsrc : dItQ (dFrz (dNw1 sortedD (dLook (dIx (dVar 0) (dC (.int 1)))))) [some (.val (specD fs rs)), none, none, none] mu = .ok ((srtP rs).map pD) mu := by
      have hs := sorted_prs rs
      rw [srt_eq] at hs
      simp [dFun, sSeq, snext, sIf, sbind, sAsg, sRet, sSkip, sExpr, sPar, sSetI, sSetA, sAug, sFor, sTg, dVar, dC, dNil, dCons, dBind, obind, dTup, dLst, dFrz, MO.d, dReg, dFz, dOp1, dOp2, dCmp, dB2v, dTst, dAnd, dOr, dNot, dIf, dCall, dIx, dLook, lookD, dIsi, dIsi2, dIsC, dIn, dChn, dMut, lstOf, putO, dM1, tyOk, dNw1, dNw2, dSl, dP, dNoP, dIsN, dItQ, dItS, dRg1, dRg2, dEnum, dLc, dYes, noex, Tg.run, gSets, List.length_map, List.length_cons, List.length_nil, List.map_cons, List.map_nil, specD, ixD, L2.atI, L2.ixN, hs]
    have := lc_all (src := dItQ (dFrz (dNw1 sortedD (dLook (dIx (dVar 0) (dC (.int 1))))))) (g := .tp [2, 3]) (own := [2, 3]) (elt := dOp2 addD (dOp2 addD (dOp2 addD (dC (.str "road ")) (dIx (dIx (dVar 0) (dC (.int 0))) (dVar 2))) (dC (.str " "))) (dIx (dIx (dVar 0) (dC (.int 0))) (dVar 3))) (sl := [some (.val (specD fs rs)), none, none, none]) (mu := mu) (ds := (srtP rs).map pD) (fun d => match d with
      | .tup [.int a, .int b] => .str (roadL fs (a.toNat, b.toNat))
      | d => d) hsrc (by rw [List.length_map, srtP_len]; have := h.few; omega) (fun d hd => by
        obtain ⟨q, hq, rfl⟩ := List.mem_map.mp hd
        have hq' := h.lt q (srtP_mem.mp hq)
        have i1 := ix_fs (fs := fs) (i := q.1) (by omega)
        have i2 := ix_fs (fs := fs) (i := q.2) (by omega)
        have n1 := nm_len h.names (i := q.1) (by omega)
        have n2 := nm_len h.names (i := q.2) (by omega)
        have a1 := add_str (x := "road ") (y := nm fs q.1) (by rw [road_len]; omega)
        have a2 := add_str (x := "road " ++ nm fs q.1) (y := " ") (by rw [len_app, road_len, sp_len]; omega)
        have a3 := add_str (x := "road " ++ nm fs q.1 ++ " ") (y := nm fs q.2) (by rw [len_app, len_app, road_len, sp_len]; omega)
        refine ⟨[some (.val (specD fs rs)), none, some (.val (.int (q.1 : Int))), some (.val (.int (q.2 : Int)))], rfl, ?_⟩
        simp [dFun, sSeq, snext, sIf, sbind, sAsg, sRet, sSkip, sExpr, sPar, sSetI, sSetA, sAug, sFor, sTg, dVar, dC, dNil, dCons, dBind, obind, dTup, dLst, dFrz, MO.d, dReg, dFz, dOp1, dOp2, dCmp, dB2v, dTst, dAnd, dOr, dNot, dIf, dCall, dIx, dLook, lookD, dIsi, dIsi2, dIsC, dIn, dChn, dMut, lstOf, putO, dM1, tyOk, dNw1, dNw2, dSl, dP, dNoP, dIsN, dItQ, dItS, dRg1, dRg2, dEnum, dLc, dYes, noex, Tg.run, gSets, List.length_map, List.length_cons, List.length_nil, List.map_cons, List.map_nil, specD, ixD, L2.atI, L2.ixN] at i1 i2 ⊢
        simp [i1, i2, a1, a2, a3, pD, roadL])
    rw [show q__law_lines_2 = dLc (dItQ (dFrz (dNw1 sortedD (dLook (dIx (dVar 0) (dC (.int 1))))))) (.tp [2, 3]) [2, 3] dYes (dOp2 addD (dOp2 addD (dOp2 addD (dC (.str "road ")) (dIx (dIx (dVar 0) (dC (.int 0))) (dVar 2))) (dC (.str " "))) (dIx (dIx (dVar 0) (dC (.int 0))) (dVar 3))) from rfl, this, List.map_map, List.map_map]
    rfl
  have hl1 : fs.length + rs.length ≤ 16000000 := by have := h.few; omega
  have hl2 : fs.length + rs.length + 1 ≤ 16000000 := by have := h.few; omega
  simp [f__law_lines, g__law_lines, dFun, sSeq, snext, sIf, sbind, sAsg, sRet, sSkip, sExpr, sPar, sSetI, sSetA, sAug, sFor, sTg, dVar, dC, dNil, dCons, dBind, obind, dTup, dLst, dFrz, MO.d, dReg, dFz, dOp1, dOp2, dCmp, dB2v, dTst, dAnd, dOr, dNot, dIf, dCall, dIx, dLook, lookD, dIsi, dIsi2, dIsC, dIn, dChn, dMut, lstOf, putO, dM1, tyOk, dNw1, dNw2, dSl, dP, dNoP, dIsN, dItQ, dItS, dRg1, dRg2, dEnum, dLc, dYes, noex, Tg.run, gSets, List.length_map, List.length_cons, List.length_nil, List.map_cons, List.map_nil, e1, e2, addD, srtP_len, hl1, hl2, linesOf]
theorem law_text_ok {fs : List Str} {rs : List (Nat × Nat)} (h : Web fs rs) (mu : Store) : f__law_text_of [specD fs rs] mu = .ok (.str (textOf (linesOf fs (srtP rs)))) mu := by
  have e1 := law_lines_ok h mu
  have hb : ∀ x ∈ linesOf fs (srtP rs), x.length ≤ 30 := fun x hx => line_len h.names (fun w hw => by have := h.lt w (srtP_mem.mp hw); omega) hx
  have hk : (linesOf fs (srtP rs)).length ≤ 1000 := by rw [linesOf_len, srtP_len]; have := h.few; have := h.names.le; omega
  have e2 : q__law_text_of_1 [some (.val (specD fs rs)), none] mu = .ok (.lst (((linesOf fs (srtP rs)).map nl).map D.str)) mu :=
    q_ends hb (src := dItQ (dCall f__law_lines (dCons (dVar 0) dNil))) (i := 1) (by simp [dFun, sSeq, snext, sIf, sbind, sAsg, sRet, sSkip, sExpr, sPar, sSetI, sSetA, sAug, sFor, sTg, dVar, dC, dNil, dCons, dBind, obind, dTup, dLst, dFrz, MO.d, dReg, dFz, dOp1, dOp2, dCmp, dB2v, dTst, dAnd, dOr, dNot, dIf, dCall, dIx, dLook, lookD, dIsi, dIsi2, dIsC, dIn, dChn, dMut, lstOf, putO, dM1, tyOk, dNw1, dNw2, dSl, dP, dNoP, dIsN, dItQ, dItS, dRg1, dRg2, dEnum, dLc, dYes, noex, Tg.run, gSets, List.length_map, List.length_cons, List.length_nil, List.map_cons, List.map_nil, e1]) (by show 1 < 2; decide) hk
  have hj := join_text hb hk
  simp [f__law_text_of, g__law_text_of, dFun, sSeq, snext, sIf, sbind, sAsg, sRet, sSkip, sExpr, sPar, sSetI, sSetA, sAug, sFor, sTg, dVar, dC, dNil, dCons, dBind, obind, dTup, dLst, dFrz, MO.d, dReg, dFz, dOp1, dOp2, dCmp, dB2v, dTst, dAnd, dOr, dNot, dIf, dCall, dIx, dLook, lookD, dIsi, dIsi2, dIsC, dIn, dChn, dMut, lstOf, putO, dM1, tyOk, dNw1, dNw2, dSl, dP, dNoP, dIsN, dItQ, dItS, dRg1, dRg2, dEnum, dLc, dYes, noex, Tg.run, gSets, List.length_map, List.length_cons, List.length_nil, List.map_cons, List.map_nil] at hj ⊢
  simp [e2, dFun, sSeq, snext, sIf, sbind, sAsg, sRet, sSkip, sExpr, sPar, sSetI, sSetA, sAug, sFor, sTg, dVar, dC, dNil, dCons, dBind, obind, dTup, dLst, dFrz, MO.d, dReg, dFz, dOp1, dOp2, dCmp, dB2v, dTst, dAnd, dOr, dNot, dIf, dCall, dIx, dLook, lookD, dIsi, dIsi2, dIsC, dIn, dChn, dMut, lstOf, putO, dM1, tyOk, dNw1, dNw2, dSl, dP, dNoP, dIsN, dItQ, dItS, dRg1, dRg2, dEnum, dLc, dYes, noex, Tg.run, gSets, List.length_map, List.length_cons, List.length_nil, List.map_cons, List.map_nil, hj]
end DL
end

section
set_option Elab.async false
set_option linter.all false
set_option maxRecDepth 100000
set_option maxHeartbeats 4000000
namespace DL
open PySem
/-! the plain law of k02: web_text, mixed, same -/
theorem app_empty (x : Str) : Str.empty ++ x = x := by
  apply TL.ext_tl
  rw [TL.tl_append]
  rfl
theorem web_text_ok {fs : List Str} {rs : List (Nat × Nat)} (h : Web fs rs) {aws : List D} (mu : Store) : f_web_text [webD fs rs aws] mu = .ok (.str (textOf (linesOf fs (srtP rs)))) mu := by
  have h9 := h.names.le
  have hls : attrD "spots" (lookD mu (webD fs rs aws)) = some (.tup (fs.map D.str)) := rfl
  have hlr : attrD "roads" (lookD mu (webD fs rs aws)) = some (.tup ((srtP rs).map pD)) := by rw [← srt_eq]; rfl
  have e1 : q_web_text_1 [some (.val (webD fs rs aws)), none, none, none, none, none] mu = .ok (.lst ((fs.map spotL).map D.str)) mu := by
    have := lc_all (src := dItQ (dOp1 (attrD "spots") (dLook (dVar 0)))) (g := .nm 2) (own := [2]) (elt := dJs [(dC (.str "spot ")), (dOp1 fmtD (dVar 2))] Str.empty) (sl := [some (.val (webD fs rs aws)), none, none, none, none, none]) (mu := mu) (ds := fs.map D.str) (fun d => match d with
      | .str x => .str (spotL x)
      | d => d) (by simp only [dItQ, dOp1, dBind, obind, dLook, dVar, List.getElem?_cons_zero, hls]) (by rw [List.length_map]; omega) (fun d hd => by
        obtain ⟨x, hx, rfl⟩ := List.mem_map.mp hd
        have hx8 := (h.names.all x hx).le
        have l1 : (Str.empty ++ "spot ").length ≤ 16000000 := by rw [app_empty, spot_len]; decide
        have l2 : (Str.empty ++ "spot " ++ x).length ≤ 16000000 := by rw [app_empty, len_app, spot_len]; omega
        have l3 : x.length ≤ 16000000 := by omega
        refine ⟨_, rfl, ?_⟩
        simp [wipeS, dJs, dFun, sSeq, snext, sIf, sbind, sAsg, sRet, sSkip, sExpr, sPar, sSetI, sSetA, sAug, sFor, sTg, dVar, dC, dNil, dCons, dBind, obind, dTup, dLst, dFrz, MO.d, dReg, dFz, dOp1, dOp2, dCmp, dB2v, dTst, dAnd, dOr, dNot, dIf, dCall, dIx, dLook, lookD, dIsi, dIsi2, dIsC, dIn, dChn, dMut, lstOf, putO, dM1, tyOk, dNw1, dNw2, dSl, dP, dNoP, dIsN, dItQ, dItS, dRg1, dRg2, dEnum, dLc, dYes, noex, Tg.run, gSets, List.length_map, List.length_cons, List.length_nil, List.map_cons, List.map_nil, fmtD, l1, l2, l3]
        rw [app_empty]; rfl)
    rw [show q_web_text_1 = dLc (dItQ (dOp1 (attrD "spots") (dLook (dVar 0)))) (.nm 2) [2] dYes (dJs [(dC (.str "spot ")), (dOp1 fmtD (dVar 2))] Str.empty) from rfl, this, List.map_map, List.map_map]
    rfl
  have e2 : q_web_text_2 [some (.val (webD fs rs aws)), some (.val (.lst ((fs.map spotL).map D.str))), none, none, none, none] mu = .ok (.lst (((srtP rs).map (roadL fs)).map D.str)) mu := by
    have := lc_all (src := dItQ (dOp1 (attrD "roads") (dLook (dVar 0)))) (g := .tp [4, 5]) (own := [4, 5]) (elt := dJs [(dC (.str "road ")), (dOp1 fmtD (dIx (dOp1 (attrD "spots") (dLook (dVar 0))) (dVar 4))), (dC (.str " ")), (dOp1 fmtD (dIx (dOp1 (attrD "spots") (dLook (dVar 0))) (dVar 5)))] Str.empty)
      (sl := [some (.val (webD fs rs aws)), some (.val (.lst ((fs.map spotL).map D.str))), none, none, none, none]) (mu := mu) (ds := (srtP rs).map pD) (fun d => match d with
      | .tup [.int a, .int b] => .str (roadL fs (a.toNat, b.toNat))
      | d => d) (by simp only [dItQ, dOp1, dBind, obind, dLook, dVar, List.getElem?_cons_zero, hlr]) (by rw [List.length_map, srtP_len]; have := h.few; omega) (fun d hd => by
        obtain ⟨q, hq, rfl⟩ := List.mem_map.mp hd
        have hq' := h.lt q (srtP_mem.mp hq)
        have i1 : ixD (.tup (fs.map D.str)) (.int (q.1 : Int)) = some (.str (nm fs q.1)) := ix_fs (fs := fs) (i := q.1) (by omega)
        have i2 : ixD (.tup (fs.map D.str)) (.int (q.2 : Int)) = some (.str (nm fs q.2)) := ix_fs (fs := fs) (i := q.2) (by omega)
        have n1 := nm_len h.names (i := q.1) (by omega)
        have n2 := nm_len h.names (i := q.2) (by omega)
        have l1 : (Str.empty ++ "road ").length ≤ 16000000 := by rw [app_empty, road_len]; decide
        have l2 : (Str.empty ++ "road " ++ nm fs q.1).length ≤ 16000000 := by rw [app_empty, len_app, road_len]; omega
        have l3 : (Str.empty ++ "road " ++ nm fs q.1 ++ " ").length ≤ 16000000 := by rw [app_empty, len_app, len_app, road_len, sp_len]; omega
        have l4 : (Str.empty ++ "road " ++ nm fs q.1 ++ " " ++ nm fs q.2).length ≤ 16000000 := by rw [app_empty, len_app, len_app, len_app, road_len, sp_len]; omega
        have m1 : (nm fs q.1).length ≤ 16000000 := by omega
        have m2 : (nm fs q.2).length ≤ 16000000 := by omega
        refine ⟨[some (.val (webD fs rs aws)), some (.val (.lst ((fs.map spotL).map D.str))), none, none, some (.val (.int (q.1 : Int))), some (.val (.int (q.2 : Int)))], rfl, ?_⟩
        have hls' : attrD "spots" (webD fs rs aws) = some (.tup (fs.map D.str)) := rfl
        have hlk : lookD mu (webD fs rs aws) = webD fs rs aws := rfl
        have hlt : lookD mu (.tup (fs.map D.str)) = .tup (fs.map D.str) := rfl
        simp only [dJs, dOp1, dBind, obind, dLook, dVar, dIx, dC, List.getElem?_cons_zero, List.getElem?_cons_succ, hlk, hls', hlt, i1, i2, fmtD, l1, l2, l3, l4, m1, m2, if_true]
        rw [app_empty]
        rfl)
    rw [show q_web_text_2 = dLc (dItQ (dOp1 (attrD "roads") (dLook (dVar 0)))) (.tp [4, 5]) [4, 5] dYes (dJs [(dC (.str "road ")), (dOp1 fmtD (dIx (dOp1 (attrD "spots") (dLook (dVar 0))) (dVar 4))), (dC (.str " ")), (dOp1 fmtD (dIx (dOp1 (attrD "spots") (dLook (dVar 0))) (dVar 5)))] Str.empty) from rfl, this, List.map_map, List.map_map]
    rfl
  have hb : ∀ x ∈ linesOf fs (srtP rs), x.length ≤ 30 := fun x hx => line_len h.names (fun w hw => by have := h.lt w (srtP_mem.mp hw); omega) hx
  have hk : (linesOf fs (srtP rs)).length ≤ 1000 := by rw [linesOf_len, srtP_len]; have := h.few; omega
  have e3 : q_web_text_3 [some (.val (webD fs rs aws)), some (.val (.lst ((linesOf fs (srtP rs)).map D.str))), none, none, none, none] mu = .ok (.lst (((linesOf fs (srtP rs)).map nl).map D.str)) mu :=
    q_ends hb (src := dItQ (dVar 1)) (i := 3) rfl (by show 3 < 6; decide) hk
  have hl1 : (fs.map spotL).length + ((srtP rs).map (roadL fs)).length ≤ 16000000 := by rw [List.length_map, List.length_map, srtP_len]; have := h.few; omega
  have hl2 : (fs.map spotL).length + ((srtP rs).map (roadL fs)).length + 1 ≤ 16000000 := by rw [List.length_map, List.length_map, srtP_len]; have := h.few; omega
  have a1 : addD (.lst ((fs.map spotL).map D.str)) (.lst (((srtP rs).map (roadL fs)).map D.str)) = some (.lst ((fs.map spotL ++ (srtP rs).map (roadL fs)).map D.str)) := by
    unfold addD
    dsimp only
    rw [if_pos (by have := h.few; simp [srtP_len]; omega), List.map_append]
  have a2 : addD (.lst ((fs.map spotL ++ (srtP rs).map (roadL fs)).map D.str)) (.lst [.str "over"]) = some (.lst ((linesOf fs (srtP rs)).map D.str)) := by
    unfold addD
    dsimp only
    rw [if_pos (by have := h.few; simp [srtP_len]; omega)]
    unfold linesOf
    simp
  have hj := join_text hb hk
  have hlk : ∀ l : List Str, lookD mu (.lst (l.map D.str)) = .lst (l.map D.str) := fun l => rfl
  unfold f_web_text dFun g_web_text
  simp only [List.map_cons, List.map_nil, List.length_cons, List.length_nil, List.replicate, List.cons_append, List.nil_append, sSeq, sAsg, sRet, sbind, snext, dFrz, dBind, obind, e1, MO.d, List.set_cons_succ, List.set_cons_zero, dOp2, dVar, List.getElem?_cons_succ, List.getElem?_cons_zero, e2, a1, dLst, dCons, dC, dNil, a2, dM1, lookD, tyOk, e3, hj, if_true]
end DL
end

section
set_option Elab.async false
set_option linter.all false
set_option maxRecDepth 100000
set_option maxHeartbeats 4000000
namespace DL
open PySem
/-! the plain law of k02: read_web -/
def rdF (L : Nat) (e : Bool) : List (Str × D) := [("read_spots", .obj (L + 1)), ("read_roads", .obj (L + 2)), ("ended", .bl e)]
def RS (mu : Store) (sp : List Str) (rd : List D) (e : Bool) : Store := mu ++ [some (.ins 1 (rdF mu.length e)), some (.lst (sp.map D.str)), some (.lst rd)]
section
variable (mu : Store) (sp : List Str) (rd : List D) (e : Bool)
theorem rs0 : (RS mu sp rd e)[mu.length]? = some (some (.ins 1 (rdF mu.length e))) := by unfold RS; simp
theorem rs1 : (RS mu sp rd e)[mu.length + 1]? = some (some (.lst (sp.map D.str))) := by
  unfold RS
  rw [List.getElem?_append_right (by omega)]
  simp
theorem rs2 : (RS mu sp rd e)[mu.length + 2]? = some (some (.lst rd)) := by
  unfold RS
  rw [List.getElem?_append_right (by omega)]
  simp
theorem rs0s (e' : Bool) : (RS mu sp rd e).set mu.length (some (.ins 1 (rdF mu.length e'))) = RS mu sp rd e' := by unfold RS; simp
theorem rs1s (sp' : List Str) : (RS mu sp rd e).set (mu.length + 1) (some (.lst (sp'.map D.str))) = RS mu sp' rd e := by
  unfold RS
  rw [List.set_append_right _ _ (by omega)]
  simp
theorem rs2s (rd' : List D) : (RS mu sp rd e).set (mu.length + 2) (some (.lst rd')) = RS mu sp rd' e := by
  unfold RS
  rw [List.set_append_right _ _ (by omega)]
  simp
end
theorem rd_spots (L : Nat) (e : Bool) : (rdF L e).lookup ("read_spots" : Str) = some (D.obj (L + 1)) := rfl
theorem rd_roads (L : Nat) (e : Bool) : (rdF L e).lookup ("read_roads" : Str) = some (D.obj (L + 2)) := rfl
theorem rd_ended (L : Nat) (e : Bool) : (rdF L e).lookup ("ended" : Str) = some (D.bl e) := rfl
theorem rd_takes (L : Nat) (e : Bool) : (rdF L e).lookup ("takes" : Str) = none := rfl
theorem rd_put (L : Nat) (e e' : Bool) : putFD "ended" (.bl e') (rdF L e) = rdF L e' := rfl
theorem rd_len (L : Nat) (e : Bool) : (rdF L e).length < 1000 := by show 3 < 1000; decide
theorem eq_strs (x y : Str) : eqD (.str x) (.str y) = some (decide (y = x)) := by
  unfold eqD
  simp [toP, PyData.depth, PyData.eqv, str_beq]
theorem eq_ints (i j : Int) : eqD (.int i) (.int j) = some (decide (i = j)) := by
  unfold eqD
  simp [toP, PyData.depth, PyData.eqv]
  rfl
theorem cut1 {α : Type} (a : α) (l : List α) : cutG (a :: l) (some 1) none = l := by
  unfold cutG
  have e1 : HT.sIx (a :: l).length 0 (some 1) = 1 := by
    rw [show (some (1 : Int)) = some ((1 : Nat) : Int) from rfl, HT.sIx_nat]
    simp
  rw [e1, HT.sIx_none]
  simp
section
variable {mu : Store} {sp : List Str} {rd : List D}
theorem takes_spot {x : Str} (hx : Name x) (hl : sp.length ≤ 100) : f_LineReader_takes [.obj mu.length, .lst [.str "spot", .str x]] (RS mu sp [] false) = .ok (.bl true) (RS mu (sp ++ [x]) [] false) := by
  have g0 := rs0 mu sp [] false
  have g1 := rs1 mu sp [] false
  have k0 := rs0 mu (sp ++ [x]) [] false
  have k2 := rs2 mu (sp ++ [x]) [] false
  have s1 := rs1s mu sp [] false (sp ++ [x])
  have hn := is_name_ok hx (RS mu (sp ++ [x]) [] false)
  have hi : ixD (.lst [.str "spot", .str x]) (.int 0) = some (.str "spot") := by simp [ixD, L2.atI, L2.ixN]
  have hi1 : ixD (.lst [.str "spot", .str x]) (.int 1) = some (.str x) := by simp [ixD, L2.atI, L2.ixN]
  have hc : sliceD (.lst [.str "spot", .str x]) (some 1) none = some (.lst [.str x]) := congrArg (fun l => some (D.lst l)) (cut1 _ _)
  have h16 : sp.length + 1 ≤ 16000000 := by omega
  have e1 : eqD (.int 2) (.int 2) = some true := rfl
  have e2 : eqD (.int 0) (.int 0) = some true := rfl
  simp only [List.map_append, List.map_cons, List.map_nil] at s1
  simp [f_LineReader_takes, g_LineReader_takes, dFun, sSeq, snext, sIf, sbind, sAsg, sRet, sSkip, sExpr, sPar, sSetI, sSetA, sAug, sFor, sTg, dVar, dC, dNil, dCons, dBind, obind, dTup, dLst, dFrz, MO.d, dReg, dFz, dOp1, dOp2, dCmp, dB2v, dTst, dAnd, dOr, dNot, dIf, dCall, dIx, dLook, lookD, dIsi, dIsi2, dIsC, dIn, dChn, dMut, lstOf, putO, dM1, tyOk, dNw1, dNw2, dSl, dP, dNoP, dIsN, dItQ, dItS, dRg1, dRg2, dEnum, dLc, dYes, noex, Tg.run, gSets, List.length_map, List.length_cons, List.length_nil, List.map_cons, List.map_nil, g0, g1, k0, k2, attrD, rd_ended, rd_spots, rd_roads, hi, hi1, eq_strs, hc, extD, h16, s1, hn, lenD, e1, e2]
theorem takes_road {a b : Str} (ha : a ∈ sp) (hb : b ∈ sp) (hl : rd.length ≤ 1000) : f_LineReader_takes [.obj mu.length, .lst [.str "road", .str a, .str b]] (RS mu sp rd false) = .ok (.bl true) (RS mu sp (rd ++ [.lst [.str a, .str b]]) false) := by
  have g0 := rs0 mu sp rd false
  have g2 := rs2 mu sp rd false
  have k0 := rs0 mu sp (rd ++ [.lst [.str a, .str b]]) false
  have k1 := rs1 mu sp (rd ++ [.lst [.str a, .str b]]) false
  have s2 := rs2s mu sp rd false (rd ++ [.lst [.str a, .str b]])
  have hi : ixD (.lst [.str "road", .str a, .str b]) (.int 0) = some (.str "road") := by simp [ixD, L2.atI, L2.ixN]
  have hc : sliceD (.lst [.str "road", .str a, .str b]) (some 1) none = some (.lst [.str a, .str b]) := congrArg (fun l => some (D.lst l)) (cut1 _ _)
  have h16 : rd.length < 16000000 := by omega
  have hsr : ¬ ("spot" : Str) = "road" := by decide +kernel
  have e1 : eqD (.int 3) (.int 3) = some true := rfl
  have hq : q_LineReader_takes_1 [some (.val (.obj mu.length)), some (.val (.lst [.str "road", .str a, .str b])), none] (RS mu sp (rd ++ [.lst [.str a, .str b]]) false) = .ok (.lst [.bl true, .bl true]) (RS mu sp (rd ++ [.lst [.str a, .str b]]) false) := by
    have := lc_all (src := dItQ (dSl (dVar 1) (dP (dC (.int 1))) dNoP)) (g := .nm 2) (own := [2]) (elt := dB2v (dIn false (dVar 2) (dLook (dOp1 (attrD "read_spots") (dLook (dVar 0)))))) (sl := [some (.val (.obj mu.length)), some (.val (.lst [.str "road", .str a, .str b])), none]) (mu := RS mu sp (rd ++ [.lst [.str a, .str b]]) false) (ds := [.str a, .str b])
      (fun _ => .bl true) (by simp [dFun, sSeq, snext, sIf, sbind, sAsg, sRet, sSkip, sExpr, sPar, sSetI, sSetA, sAug, sFor, sTg, dVar, dC, dNil, dCons, dBind, obind, dTup, dLst, dFrz, MO.d, dReg, dFz, dOp1, dOp2, dCmp, dB2v, dTst, dAnd, dOr, dNot, dIf, dCall, dIx, dLook, lookD, dIsi, dIsi2, dIsC, dIn, dChn, dMut, lstOf, putO, dM1, tyOk, dNw1, dNw2, dSl, dP, dNoP, dIsN, dItQ, dItS, dRg1, dRg2, dEnum, dLc, dYes, noex, Tg.run, gSets, List.length_map, List.length_cons, List.length_nil, List.map_cons, List.map_nil, hc]) (by show 2 ≤ 16000000; decide) (fun d hd => by
        have : ∃ x ∈ sp, d = .str x := by
          simp only [List.mem_cons, List.not_mem_nil, or_false] at hd
          rcases hd with rfl | rfl
          · exact ⟨a, ha, rfl⟩
          · exact ⟨b, hb, rfl⟩
        obtain ⟨x, hx, rfl⟩ := this
        exact ⟨_, rfl, by simp [wipeS, dFun, sSeq, snext, sIf, sbind, sAsg, sRet, sSkip, sExpr, sPar, sSetI, sSetA, sAug, sFor, sTg, dVar, dC, dNil, dCons, dBind, obind, dTup, dLst, dFrz, MO.d, dReg, dFz, dOp1, dOp2, dCmp, dB2v, dTst, dAnd, dOr, dNot, dIf, dCall, dIx, dLook, lookD, dIsi, dIsi2, dIsC, dIn, dChn, dMut, lstOf, putO, dM1, tyOk, dNw1, dNw2, dSl, dP, dNoP, dIsN, dItQ, dItS, dRg1, dRg2, dEnum, dLc, dYes, noex, Tg.run, gSets, List.length_map, List.length_cons, List.length_nil, List.map_cons, List.map_nil, k0, attrD, rd_spots, k1, in_strs, hx]⟩)
    exact this
  have ha2 : allD (.lst [.bl true, .bl true]) = some (.bl true) := rfl
  simp [f_LineReader_takes, g_LineReader_takes, dFun, sSeq, snext, sIf, sbind, sAsg, sRet, sSkip, sExpr, sPar, sSetI, sSetA, sAug, sFor, sTg, dVar, dC, dNil, dCons, dBind, obind, dTup, dLst, dFrz, MO.d, dReg, dFz, dOp1, dOp2, dCmp, dB2v, dTst, dAnd, dOr, dNot, dIf, dCall, dIx, dLook, lookD, dIsi, dIsi2, dIsC, dIn, dChn, dMut, lstOf, putO, dM1, tyOk, dNw1, dNw2, dSl, dP, dNoP, dIsN, dItQ, dItS, dRg1, dRg2, dEnum, dLc, dYes, noex, Tg.run, gSets, List.length_map, List.length_cons, List.length_nil, List.map_cons, List.map_nil, g0, g2, attrD, rd_ended, rd_spots, rd_roads, hi, eq_strs, hsr, hc, appD, h16, s2, lenD, e1, hq, ha2]
theorem takes_over (hl : sp ≠ []) : f_LineReader_takes [.obj mu.length, .lst [.str "over"]] (RS mu sp rd false) = .ok (.bl true) (RS mu sp rd true) := by
  have g0 := rs0 mu sp rd false
  have k0 := rs0 mu sp rd true
  have k1 := rs1 mu sp rd true
  have s0 := rs0s mu sp rd false true
  have hi : ixD (.lst [.str "over"]) (.int 0) = some (.str "over") := by simp [ixD, L2.atI, L2.ixN]
  have h1 : ¬ ("spot" : Str) = "over" := by decide +kernel
  have h2 : ¬ ("road" : Str) = "over" := by decide +kernel
  have e1 : eqD (.lst [.str "over"]) (.lst [.str "over"]) = some true := by decide +kernel
  have hp : 0 < sp.length := List.length_pos_iff.mpr hl
  simp [f_LineReader_takes, g_LineReader_takes, dFun, sSeq, snext, sIf, sbind, sAsg, sRet, sSkip, sExpr, sPar, sSetI, sSetA, sAug, sFor, sTg, dVar, dC, dNil, dCons, dBind, obind, dTup, dLst, dFrz, MO.d, dReg, dFz, dOp1, dOp2, dCmp, dB2v, dTst, dAnd, dOr, dNot, dIf, dCall, dIx, dLook, lookD, dIsi, dIsi2, dIsC, dIn, dChn, dMut, lstOf, putO, dM1, tyOk, dNw1, dNw2, dSl, dP, dNoP, dIsN, dItQ, dItS, dRg1, dRg2, dEnum, dLc, dYes, noex, Tg.run, gSets, List.length_map, List.length_cons, List.length_nil, List.map_cons, List.map_nil, g0, attrD, rd_ended, rd_spots, rd_roads, hi, eq_strs, h1, h2, e1, insOf, rd_put, rd_len, s0, k0, k1, lenD, gtI, cmpI, hp]
end

/-! splitting -/
theorem no_sep {x : Str} (h : Word x) {s : Nat} (hs : s ∉ TL.tl signs) : s ∉ TL.tl x := fun hm => hs (h.let_ s hm)
theorem split_sp {parts : List Str} (hne : parts ≠ []) (hp : ∀ p ∈ parts, 32 ∉ TL.tl p) : Txt.split (Txt.join " " parts) " " = parts := TL.split_join (s := 32) (S := []) (by decide +kernel) (by decide +kernel) hne hp
theorem spot_join (x : Str) : spotL x = Txt.join " " [("spot" : Str), x] := by
  rw [TL.join_eq]
  apply TL.ext_tl
  rw [TL.tl_join]
  unfold spotL
  rw [TL.tl_append]
  show _ = TL.tl ("spot" : Str) ++ (TL.tl (" " : Str) ++ TL.tl x)
  rw [← List.append_assoc, show TL.tl ("spot " : Str) = TL.tl ("spot" : Str) ++ TL.tl (" " : Str) by decide +kernel]
theorem road_join (fs : List Str) (q : Nat × Nat) : roadL fs q = Txt.join " " [("road" : Str), nm fs q.1, nm fs q.2] := by
  rw [TL.join_eq]
  apply TL.ext_tl
  rw [TL.tl_join]
  unfold roadL
  rw [TL.tl_append, TL.tl_append, TL.tl_append]
  show _ = TL.tl ("road" : Str) ++ (TL.tl (" " : Str) ++ (TL.tl (nm fs q.1) ++ (TL.tl (" " : Str) ++ TL.tl (nm fs q.2))))
  rw [show TL.tl ("road " : Str) = TL.tl ("road" : Str) ++ TL.tl (" " : Str) by decide +kernel]
  simp only [List.append_assoc]
theorem s32 : 32 ∉ TL.tl signs := by decide +kernel
theorem s10 : 10 ∉ TL.tl signs := by decide +kernel
theorem spot_split {x : Str} (h : Name x) : Txt.split (spotL x) " " = [("spot" : Str), x] := by
  rw [spot_join]
  refine split_sp (by simp) fun p hp => ?_
  simp only [List.mem_cons, List.not_mem_nil, or_false] at hp
  rcases hp with rfl | rfl
  · decide +kernel
  · exact no_sep h.toWord s32
theorem road_split {fs : List Str} (hf : Names fs) {q : Nat × Nat} (h1 : q.1 < fs.length) (h2 : q.2 < fs.length) : Txt.split (roadL fs q) " " = [("road" : Str), nm fs q.1, nm fs q.2] := by
  rw [road_join]
  refine split_sp (by simp) fun p hp => ?_
  simp only [List.mem_cons, List.not_mem_nil, or_false] at hp
  rcases hp with rfl | rfl | rfl
  · decide +kernel
  · exact no_sep (hf.all _ (nm_mem h1)).toWord s32
  · exact no_sep (hf.all _ (nm_mem h2)).toWord s32
theorem over_split : Txt.split "over" " " = [("over" : Str)] := by
  have := split_sp (parts := [("over" : Str)]) (by simp) (fun p hp => by rw [List.mem_singleton] at hp; subst hp; decide +kernel)
  rw [TL.join_eq] at this
  exact this
theorem join_nl : ∀ l : List Str, TL.tl (textOf l) = TL.joinL [10] ((l ++ [("" : Str)]).map TL.tl)
  | [] => rfl
  | x :: l => by
    have ih := join_nl l
    unfold textOf at ih ⊢
    rw [tl_join0] at ih ⊢
    rw [List.map_cons, List.map_cons, List.flatten_cons, ih]
    rw [show nl x = x ++ "\n" from rfl, TL.tl_append, List.cons_append, List.map_cons]
    cases hq : (l ++ [("" : Str)]).map TL.tl with
    | nil => simp at hq
    | cons a r =>
      show _ = TL.tl x ++ ([10] ++ TL.joinL [10] (a :: r))
      rw [show TL.tl ("\n" : Str) = [10] by decide +kernel, List.append_assoc]
theorem text_split {l : List Str} (h : ∀ x ∈ l, 10 ∉ TL.tl x) : Txt.split (textOf l) "\n" = l ++ [("" : Str)] := by
  have e : textOf l = Txt.join "\n" (l ++ [("" : Str)]) := by
    rw [TL.join_eq]
    apply TL.ext_tl
    rw [TL.tl_join, join_nl, show TL.tl ("\n" : Str) = [10] by decide +kernel]
  rw [e]
  refine TL.split_join (s := 10) (S := []) (by decide +kernel) (by decide +kernel) (by simp) fun p hp => ?_
  rcases List.mem_append.mp hp with hp | hp
  · exact h p hp
  · rw [List.mem_singleton] at hp
    subst hp
    decide +kernel
theorem lines_no_nl {fs : List Str} (hf : Names fs) {ws : List (Nat × Nat)} (hw : ∀ w ∈ ws, w.1 < fs.length ∧ w.2 < fs.length) : ∀ x ∈ linesOf fs ws, 10 ∉ TL.tl x := by
  intro l h
  unfold linesOf at h
  rw [List.mem_append, List.mem_append] at h
  rcases h with (h | h) | h
  · obtain ⟨x, hx, rfl⟩ := List.mem_map.mp h
    unfold spotL
    rw [TL.tl_append, List.mem_append, not_or]
    exact ⟨by decide +kernel, no_sep (hf.all x hx).toWord s10⟩
  · obtain ⟨q, hq, rfl⟩ := List.mem_map.mp h
    unfold roadL
    rw [TL.tl_append, TL.tl_append, TL.tl_append]
    simp only [List.mem_append, not_or]
    exact ⟨⟨⟨by decide +kernel, no_sep (hf.all _ (nm_mem (hw q hq).1)).toWord s10⟩, by decide +kernel⟩, no_sep (hf.all _ (nm_mem (hw q hq).2)).toWord s10⟩
  · rw [List.mem_singleton] at h
    subst h
    decide +kernel
end DL
end

section
set_option Elab.async false
set_option linter.all false
set_option maxRecDepth 100000
set_option maxHeartbeats 4000000
namespace DL
open PySem
/-! the plain law of k02: read_web -/
def rsl (t : Option SV) (ls : List D) (L : Nat) (x5 x6 x7 : Option SV) : Sl := [t, some (.val (.lst ls)), some (.val (.obj L)), none, none, x5, x6, x7, none, none]
theorem rd_turn {t : Option SV} {ls : List D} {L k : Nat} (hk : k + 1 < ls.length) {x : Str} {ws : List Str} (hx : x.length ≤ 30) (hs : Txt.split x " " = ws) (hne : ("" : Str) ∉ ws) {mu1 mu2 : Store} (hc : hasC 1 "takes" (lookD mu1 (.obj L)) = true)
    (ht : f_LineReader_takes [.obj L, .lst (ws.map D.str)] mu1 = .ok (.bl true) mu2) (rest : List D) {x5 x6 x7 : Option SV} :
    sForL (.tp [5, 6]) b_read_web_1 (.tup [.int (k : Int), .str x] :: rest) (rsl t ls L x5 x6 x7) mu1 = sForL (.tp [5, 6]) b_read_web_1 rest (rsl t ls L (some (.val (.int (k : Int)))) (some (.val (.str x))) (some (.val (.lst (ws.map D.str))))) mu2 := by
  have hsp : splitD (.str x) (.str " ") = some (.lst (ws.map D.str)) := by
    unfold splitD
    dsimp only
    rw [if_pos ⟨by decide +kernel, by omega⟩, hs]
  have hlast : eqD (.int (k : Int)) (.int ((ls.length : Int) - 1)) = some false := by
    rw [eq_ints, decide_eq_false (by omega)]
  have hin : inD (.str "") (.lst (ws.map D.str)) = some false := by rw [in_strs, decide_eq_false hne]
  have hb : b_read_web_1 (rsl t ls L (some (.val (.int (k : Int)))) (some (.val (.str x))) x7) mu1 = .nx (rsl t ls L (some (.val (.int (k : Int)))) (some (.val (.str x))) (some (.val (.lst (ws.map D.str))))) mu2 := by
    unfold rsl
    simp only [lookD, MO.d] at hc
    simp [b_read_web_1, dFun, sSeq, snext, sIf, sbind, sAsg, sRet, sSkip, sExpr, sPar, sSetI, sSetA, sAug, sFor, sTg, dVar, dC, dNil, dCons, dBind, obind, dTup, dLst, dFrz, MO.d, dReg, dFz, dOp1, dOp2, dCmp, dB2v, dTst, dAnd, dOr, dNot, dIf, dCall, dIx, dLook, lookD, dIsi, dIsi2, dIsC, dIn, dChn, dMut, lstOf, putO, dM1, tyOk, dNw1, dNw2, dSl, dP, dNoP, dIsN, dItQ, dItS, dRg1, dRg2, dEnum, dLc, dYes, noex, Tg.run, gSets, List.length_map, List.length_cons, List.length_nil, List.map_cons, List.map_nil, dMeth, hsp, lenD, subD, hlast, hin, hc, ht]
  conv => lhs; unfold sForL
  simp only [Tg.run, gSets]
  rw [show ((rsl t ls L x5 x6 x7).set 5 (some (.val (.int (k : Int))))).set 6 (some (.val (.str x))) = rsl t ls L (some (.val (.int (k : Int)))) (some (.val (.str x))) x7 from rfl, hb]
theorem rs_has (mu : Store) (sp : List Str) (rd : List D) (e : Bool) : hasC 1 "takes" (lookD (RS mu sp rd e) (.obj mu.length)) = true := by
  have h0 := rs0 mu sp rd e
  simp only [lookD, h0, MO.d, hasC, rd_takes]
  rfl
theorem name_ne {x : Str} (h : Name x) : x ≠ ("" : Str) := fun e => by
  have := h.pos
  subst e
  exact absurd this (by decide +kernel)
theorem rd_spots_loop {mu : Store} {t : Option SV} {ls : List D} (rest : List D) : ∀ (xs sp : List Str) (k : Nat) (x5 x6 x7 : Option SV), (∀ x ∈ xs, Name x) → k + xs.length < ls.length → sp.length + xs.length ≤ 9 → ∃ y5 y6 y7,
    sForL (.tp [5, 6]) b_read_web_1 (numD k ((xs.map spotL).map D.str) ++ rest) (rsl t ls mu.length x5 x6 x7) (RS mu sp [] false) = sForL (.tp [5, 6]) b_read_web_1 rest (rsl t ls mu.length y5 y6 y7) (RS mu (sp ++ xs) [] false)
  | [], sp, k, x5, x6, x7, h, hk, hl => ⟨x5, x6, x7, by rw [List.append_nil]; rfl⟩
  | x :: xs, sp, k, x5, x6, x7, h, hk, hl => by
    rw [List.length_cons] at hk hl
    have hx := h x List.mem_cons_self
    have hx8 := hx.le
    obtain ⟨y5, y6, y7, e⟩ := rd_spots_loop (mu := mu) (t := t) (ls := ls) rest xs (sp ++ [x]) (k + 1) (some (.val (.int (k : Int)))) (some (.val (.str (spotL x)))) (some (.val (.lst ([("spot" : Str), x].map D.str)))) (fun y hy => h y (List.mem_cons_of_mem _ hy)) (by omega) (by rw [List.length_append]; show sp.length + 1 + xs.length ≤ 9; omega)
    refine ⟨y5, y6, y7, ?_⟩
    rw [show sp ++ x :: xs = sp ++ [x] ++ xs by simp, ← e]
    have hlen : (spotL x).length ≤ 30 := by unfold spotL; rw [len_app, spot_len]; omega
    exact rd_turn (ls := ls) (k := k) (by omega) hlen (spot_split hx) (by
      simp only [List.mem_cons, List.not_mem_nil, or_false, not_or]
      exact ⟨by decide +kernel, fun e => name_ne hx e.symm⟩) (rs_has mu sp [] false) (takes_spot (mu := mu) hx (by omega)) _
def rowD (fs : List Str) (q : Nat × Nat) : D := .lst [.str (nm fs q.1), .str (nm fs q.2)]
theorem rd_roads_loop {mu : Store} {t : Option SV} {ls : List D} (rest : List D) {fs : List Str} (hf : Names fs) : ∀ (ws : List (Nat × Nat)) (rd : List D) (k : Nat) (x5 x6 x7 : Option SV), (∀ q ∈ ws, q.1 < fs.length ∧ q.2 < fs.length) → k + ws.length < ls.length → rd.length + ws.length ≤ 1000 → ∃ y5 y6 y7,
    sForL (.tp [5, 6]) b_read_web_1 (numD k ((ws.map (roadL fs)).map D.str) ++ rest) (rsl t ls mu.length x5 x6 x7) (RS mu fs rd false) = sForL (.tp [5, 6]) b_read_web_1 rest (rsl t ls mu.length y5 y6 y7) (RS mu fs (rd ++ ws.map (rowD fs)) false)
  | [], rd, k, x5, x6, x7, h, hk, hl => ⟨x5, x6, x7, by simp only [List.map_nil, List.append_nil]; rfl⟩
  | q :: ws, rd, k, x5, x6, x7, h, hk, hl => by
    rw [List.length_cons] at hk hl
    obtain ⟨q1, q2⟩ := h q List.mem_cons_self
    obtain ⟨y5, y6, y7, e⟩ := rd_roads_loop (mu := mu) (t := t) (ls := ls) rest hf ws (rd ++ [rowD fs q]) (k + 1) (some (.val (.int (k : Int)))) (some (.val (.str (roadL fs q)))) (some (.val (.lst ([("road" : Str), nm fs q.1, nm fs q.2].map D.str)))) (fun y hy => h y (List.mem_cons_of_mem _ hy)) (by omega) (by rw [List.length_append]; show rd.length + 1 + ws.length ≤ 1000; omega)
    refine ⟨y5, y6, y7, ?_⟩
    have e0 : rd ++ (q :: ws).map (rowD fs) = rd ++ [rowD fs q] ++ ws.map (rowD fs) := by simp
    rw [e0, ← e]
    have n1 := nm_len hf q1
    have n2 := nm_len hf q2
    have hlen : (roadL fs q).length ≤ 30 := by unfold roadL; rw [len_app, len_app, len_app, road_len, sp_len]; omega
    exact rd_turn (ls := ls) (k := k) (by omega) hlen (road_split hf q1 q2) (by
      simp only [List.mem_cons, List.not_mem_nil, or_false, not_or]
      exact ⟨by decide +kernel, fun e => name_ne (hf.all _ (nm_mem q1)) e.symm, fun e => name_ne (hf.all _ (nm_mem q2)) e.symm⟩) (rs_has mu fs rd false) (takes_road (mu := mu) (nm_mem q1) (nm_mem q2) (by omega)) _
theorem rd_end {mu : Store} {t : Option SV} {ls : List D} {fs : List Str} (hf : fs ≠ []) {rd : List D} {k : Nat} (hk : k + 2 = ls.length) {x5 x6 x7 : Option SV} : ∃ sl,
    sForL (.tp [5, 6]) b_read_web_1 (numD k [.str "over", .str ""]) (rsl t ls mu.length x5 x6 x7) (RS mu fs rd false) = .nx sl (RS mu fs rd true) ∧ ∃ y5 y6 y7, sl = rsl t ls mu.length y5 y6 y7 := by
  have e1 := rd_turn (t := t) (ls := ls) (k := k) (by omega) (by decide +kernel) over_split (by
    simp only [List.mem_cons, List.not_mem_nil, or_false]
    decide +kernel) (rs_has mu fs rd false) (takes_over (mu := mu) (rd := rd) hf) (numD (k + 1) [.str ""]) (x5 := x5) (x6 := x6) (x7 := x7)
  refine ⟨_, ?_, some (.val (.int ((k + 1 : Nat) : Int))), some (.val (.str "")), some (.val (.lst [.str ""])), rfl⟩
  refine e1.trans ?_
  have hlast : eqD (.int (((k + 1 : Nat)) : Int)) (.int ((ls.length : Int) - 1)) = some true := by
    rw [eq_ints, decide_eq_true (by omega)]
  have hsp : splitD (.str "") (.str " ") = some (.lst [.str ""]) := by
    unfold splitD
    dsimp only
    rw [if_pos ⟨by decide +kernel, by decide +kernel⟩]
    have := split_sp (parts := [("" : Str)]) (by simp) (fun p hp => by rw [List.mem_singleton] at hp; subst hp; decide +kernel)
    rw [TL.join_eq] at this
    rw [show Txt.split ("" : Str) " " = [("" : Str)] from this]
    rfl
  have hn : neD (.str "") (.str "") = some false := by decide +kernel
  have hb : b_read_web_1 (rsl t ls mu.length (some (.val (.int ((k + 1 : Nat) : Int)))) (some (.val (.str ""))) (some (.val (.lst ([("over" : Str)].map D.str))))) (RS mu fs rd true) = .nx (rsl t ls mu.length (some (.val (.int ((k + 1 : Nat) : Int)))) (some (.val (.str ""))) (some (.val (.lst [.str ""])))) (RS mu fs rd true) := by
    unfold rsl
    simp only [b_read_web_1, sSeq, sAsg, sbind, snext, dM1, dBind, obind, dVar, dC, List.getElem?_cons_succ, List.getElem?_cons_zero, lookD, tyOk, if_true, hsp, List.set_cons_succ, List.set_cons_zero, sIf, dCmp, dOp2, dOp1, dLook, lenD, subD, hlast, hn, sSkip, Bool.false_eq_true, if_false]
  unfold numD numD sForL
  simp only [Tg.run, gSets]
  rw [show ∀ x5 x6 x7, ((rsl t ls mu.length x5 x6 x7).set 5 (some (.val (.int ((k + 1 : Nat) : Int))))).set 6 (some (.val (.str ""))) = rsl t ls mu.length (some (.val (.int ((k + 1 : Nat) : Int)))) (some (.val (.str ""))) x7 from fun _ _ _ => rfl, hb]
  rfl
end DL
end

section
set_option Elab.async false
set_option linter.all false
set_option maxRecDepth 100000
set_option maxHeartbeats 4000000
namespace DL
open PySem
/-! the plain law of k02: a web read -/
def ord (q : Nat × Nat) : Nat × Nat := if q.1 ≤ q.2 then q else (q.2, q.1)
theorem le_ints (a b : Int) : sortLe (.int a) (.int b) = !decide (b < a) := by
  have : sortLe (.int a) (.int b) = !PySem.W.dataLt (.int b) (.int a) := rfl
  rw [this, PySem.W.dataLt_int]
theorem sorted_two (q : Nat × Nat) : sortedD (.lst [.int (q.1 : Int), .int (q.2 : Int)]) = some (.lst [.int ((ord q).1 : Int), .int ((ord q).2 : Int)]) := by
  have e : ([D.int (q.1 : Int), D.int (q.2 : Int)] : List D).mergeSort sortLe = [D.int ((ord q).1 : Int), D.int ((ord q).2 : Int)] := by
    have m := List.map_mergeSort (r := fun a b : Int => sortLe (.int a) (.int b)) (s := sortLe) (f := D.int) (l := [(q.1 : Int), (q.2 : Int)]) (fun _ _ _ _ => rfl)
    rw [show ([D.int (q.1 : Int), D.int (q.2 : Int)] : List D) = [(q.1 : Int), (q.2 : Int)].map D.int from rfl, ← m]
    have anti : ∀ x y : Int, sortLe (.int x) (.int y) = true → sortLe (.int y) (.int x) = true → x = y := fun x y h1 h2 => by
      rw [le_ints] at h1 h2
      simp at h1 h2
      omega
    have s := eq_of_sorted anti (a := [(q.1 : Int), (q.2 : Int)].mergeSort fun a b : Int => sortLe (.int a) (.int b)) (b := [((ord q).1 : Int), ((ord q).2 : Int)]) ?_ ?_ ?_
    · rw [s]; rfl
    · refine (List.mergeSort_perm _ _).trans ?_
      unfold ord
      split
      · exact List.Perm.refl _
      · exact List.Perm.swap _ _ _
    · refine List.pairwise_mergeSort (le := fun a b : Int => sortLe (.int a) (.int b)) (fun a b c h1 h2 => ?_) (fun a b => ?_) _
      · rw [le_ints] at h1 h2 ⊢
        simp at h1 h2 ⊢
        omega
      · rw [le_ints, le_ints]
        simp
        omega
    · rw [List.pairwise_cons]
      refine ⟨fun y hy => ?_, List.pairwise_singleton _ _⟩
      rw [List.mem_singleton] at hy
      subst hy
      rw [le_ints]
      unfold ord
      split <;> simp <;> omega
  unfold sortedD
  dsimp only
  have ht : toPL [D.int (q.1 : Int), D.int (q.2 : Int)] = some [.int q.1, .int q.2] := rfl
  rw [ht]
  dsimp only
  rw [e, if_pos (by simp [alikeB, PySem.W.alike, tupNE, notNT, PyData.depth])]
theorem strOk_word {x : Str} (h : Word x) : PyData.strOk x = true := by
  have hs : ∀ c ∈ TL.tl signs, c < 0x110000 := by decide +kernel
  unfold PyData.strOk
  rw [Array.all_eq_true_iff_forall_mem]
  intro c hc
  exact decide_eq_true (hs c (h.let_ c (by simpa using hc)))
theorem index_ok {fs : List Str} (hf : Names fs) {i : Nat} (h : i < fs.length) : indexD (.lst (fs.map D.str)) (.str (nm fs i)) = some (.int (i : Int)) := by
  have hsh : SeqAt.shaped (.list (fs.map PyData.str)) = true ∧ SeqAt.shaped (.str (nm fs i)) = true := by
    have key : ∀ l : List Str, (∀ x ∈ l, Word x) → PyData.canLayAll0 (l.map PyData.str) = true := fun l => by
      induction l with
      | nil => intro _; simp [PyData.canLayAll0]
      | cons a l ih =>
        intro hl
        rw [List.map_cons]
        simp [PyData.canLayAll0, PyData.canLay0, ih fun x hx => hl x (List.mem_cons_of_mem _ hx), strOk_word (hl a List.mem_cons_self)]
    have key := key fs fun x hx => (hf.all x hx).toWord
    refine ⟨?_, ?_⟩
    · unfold SeqAt.shaped
      rw [Bool.and_eq_true]
      refine ⟨?_, decide_eq_true ?_⟩
      · simp [PyData.canLay0, key]
      · simp [PyData.depth, depth_strs]
    · unfold SeqAt.shaped
      simp [PyData.canLay0, PyData.depth, strOk_word (hf.all _ (nm_mem h)).toWord]
  unfold indexD
  dsimp only
  rw [toPL_strs]
  have hp : toP (.str (nm fs i)) = some (.str (nm fs i)) := rfl
  rw [hp]
  dsimp only
  rw [hsh.1, hsh.2]
  have hfind : (fs.map PyData.str).findIdx? (fun z => PyData.eqv z (.str (nm fs i))) = some i := by
    rw [List.findIdx?_eq_some_iff_getElem]
    refine ⟨by rw [List.length_map]; exact h, ?_, fun j hj => ?_⟩
    · rw [List.getElem_map]
      show (fs[i] == nm fs i) = true
      unfold nm
      rw [List.getD_eq_getElem?_getD, List.getElem?_eq_getElem h]
      simp
    · have hj' : j < fs.length := by omega
      rw [List.getElem_map]
      show ¬ (fs[j] == nm fs i) = true
      unfold nm
      rw [List.getD_eq_getElem?_getD, List.getElem?_eq_getElem h, beq_iff_eq]
      intro e
      have := (List.getElem_inj hf.nd).mp (show fs[j] = fs[i] from e)
      omega
  rw [hfind]
  rfl
theorem q_row {fs : List Str} (hf : Names fs) {q : Nat × Nat} (h1 : q.1 < fs.length) (h2 : q.2 < fs.length) (mu : Store) {a0 a1 a2 a4 a5 a6 a7 : Option SV} :
    q_read_web_1 [a0, a1, a2, some (.val (.lst (fs.map D.str))), a4, a5, a6, a7, some (.val (rowD fs q)), none] mu = .ok (.lst [.int (q.1 : Int), .int (q.2 : Int)]) mu := by
  have i1 := index_ok hf h1
  have i2 := index_ok hf h2
  unfold q_read_web_1 dLc dItQ rowD dBind obind dVar
  simp only [List.getElem?_cons_succ, List.getElem?_cons_zero, wipeS, List.set_cons_succ, List.set_cons_zero]
  rw [if_pos (show sizeOk [.str (nm fs q.1), .str (nm fs q.2)] = true from decide_eq_true (by show 2 ≤ 16000000; decide))]
  simp only [dLcL, Tg.run, List.set_cons_succ, List.set_cons_zero, dYes, noex, obind, if_true, dM1, dBind, dVar, List.getElem?_cons_succ, List.getElem?_cons_zero, lookD, tyOk, i1, i2, List.nil_append, List.cons_append]
def RZ (mu : Store) (fs : List Str) (rd : Option MO) : Store := mu ++ [some (.ins 1 (rdF mu.length true)), none, rd]
theorem q_rows {mu : Store} {fs : List Str} (hf : Names fs) {ws : List (Nat × Nat)} (hw : ∀ w ∈ ws, w.1 < fs.length ∧ w.2 < fs.length) (hl : ws.length ≤ 1000) {a0 a1 a4 a5 a6 a7 : Option SV} :
    q_read_web_2 [a0, a1, some (.val (.obj mu.length)), some (.val (.lst (fs.map D.str))), a4, a5, a6, a7, none, none] (RZ mu fs (some (.lst (ws.map (rowD fs))))) = .ok (.lst ((ws.map ord).map pD)) (RZ mu fs none) := by
  have g0 : (RZ mu fs (some (.lst (ws.map (rowD fs)))))[mu.length]? = some (some (.ins 1 (rdF mu.length true))) := by unfold RZ; simp
  have g2 : (RZ mu fs (some (.lst (ws.map (rowD fs)))))[mu.length + 2]? = some (some (.lst (ws.map (rowD fs)))) := by
    unfold RZ
    rw [List.getElem?_append_right (by omega)]
    simp
  have s2 : (RZ mu fs (some (.lst (ws.map (rowD fs))))).set (mu.length + 2) none = RZ mu fs none := by
    unfold RZ
    rw [List.set_append_right _ _ (by omega)]
    simp
  have hsrc : dItQ (dFz (dOp1 (attrD "read_roads") (dLook (dVar 2)))) [a0, a1, some (.val (.obj mu.length)), some (.val (.lst (fs.map D.str))), a4, a5, a6, a7, none, none] (RZ mu fs (some (.lst (ws.map (rowD fs))))) = .ok (ws.map (rowD fs)) (RZ mu fs none) := by
    simp only [dItQ, dFz, dOp1, dBind, obind, dLook, dVar, List.getElem?_cons_succ, List.getElem?_cons_zero, lookD, g0, MO.d, attrD, rd_roads, g2, s2]
  have key : ∀ (ws : List (Nat × Nat)) (acc : List D), (∀ w ∈ ws, w.1 < fs.length ∧ w.2 < fs.length) → dLcL (.nm 8) [a0, a1, some (.val (.obj mu.length)), some (.val (.lst (fs.map D.str))), a4, a5, a6, a7, none, none] dYes (dOp1 tupleD (dLook (dFrz (dNw1 sortedD (dLook (dFrz q_read_web_1)))))) (ws.map (rowD fs)) acc (RZ mu fs none) = .ok (.lst (acc ++ (ws.map ord).map pD)) (RZ mu fs none) := by
    intro ws
    induction ws with
    | nil => intro acc _; simp [dLcL]
    | cons w ws ih =>
      intro acc hw
      obtain ⟨h1, h2⟩ := hw w List.mem_cons_self
      have hq := q_row hf h1 h2 (RZ mu fs none) (a0 := a0) (a1 := a1) (a2 := some (.val (.obj mu.length))) (a4 := a4) (a5 := a5) (a6 := a6) (a7 := a7)
      have hs := sorted_two w
      have helt : dOp1 tupleD (dLook (dFrz (dNw1 sortedD (dLook (dFrz q_read_web_1))))) [a0, a1, some (.val (.obj mu.length)), some (.val (.lst (fs.map D.str))), a4, a5, a6, a7, some (.val (rowD fs w)), none] (RZ mu fs none) = .ok (pD (ord w)) (RZ mu fs none) := by
        simp only [dOp1, dBind, obind, dLook, dFrz, dNw1, hq, MO.d, lookD, hs, tupleD]
        rfl
      have e1 := ih (acc ++ [pD (ord w)]) fun x hx => hw x (List.mem_cons_of_mem _ hx)
      rw [List.map_cons]
      conv => lhs; unfold dLcL
      simp only [Tg.run, List.set_cons_succ, List.set_cons_zero, dYes, noex, obind, if_true, helt]
      rw [e1]
      simp
  unfold q_read_web_2 dLc
  unfold dBind obind
  rw [hsrc]
  dsimp only
  rw [if_pos (show sizeOk (ws.map (rowD fs)) = true from decide_eq_true (by rw [List.length_map]; omega))]
  have := key ws [] hw
  rw [List.nil_append] at this
  exact this
theorem rz_shut {mu : Store} (fs : List Str) (h : ∀ n, mu.all (clM n) = true) : (RZ mu fs none).all (clM ((RZ mu fs none).length + 1)) = true := by
  unfold RZ
  rw [List.all_append, h, List.length_append]
  simp only [List.length_cons, List.length_nil, List.all_cons, List.all_nil, clM, rdF, clF, clD, Bool.true_and, Bool.and_true]
  simp
theorem read_ok {fs : List Str} {ws : List (Nat × Nat)} (h : Web fs (ws.map ord)) (hw : ∀ w ∈ ws, w.1 < fs.length ∧ w.2 < fs.length) {mu : Store} (hmu : ∀ n, mu.all (clM n) = true) : ∃ aws, f_read_web [.str (textOf (linesOf fs ws))] mu = .ok (webD fs (ws.map ord) aws) mu ∧ ∀ m, clL m aws = true := by
  have hne : fs ≠ [] := fun e => by have := h.ne; rw [e] at this; exact absurd this (by decide)
  have hwl : ws.length ≤ 36 := by have := h.few; rwa [List.length_map] at this
  have h9 := h.names.le
  obtain ⟨aws, e5, hc⟩ := init_ok h (mu := RZ mu fs none) (rz_shut fs hmu)
  refine ⟨aws, ?_, hc⟩
  have hsplit : splitD (.str (textOf (linesOf fs ws))) (.str "\n") = some (.lst ((linesOf fs ws ++ [("" : Str)]).map D.str)) := by
    unfold splitD
    dsimp only
    have hlen : (textOf (linesOf fs ws)).length + 2 ≤ 16000000 := by
      have h1 := lines_sum (l := linesOf fs ws) (k := 100) (fun x hx => line_len h.names hw hx) (by rw [linesOf_len]; omega)
      rw [TL.len_tl]
      unfold textOf
      rw [tl_join0, List.length_flatten, List.map_map]
      have h2 : (linesOf fs ws |>.map nl).map (List.length ∘ TL.tl) = ((linesOf fs ws).map nl).map (·.length) := List.map_congr_left fun x _ => (TL.len_tl x).symm
      rw [h2]
      omega
    rw [if_pos ⟨by decide +kernel, hlen⟩, text_split (lines_no_nl h.names hw)]
  have hl : ((linesOf fs ws ++ [("" : Str)]).map D.str).length = fs.length + ws.length + 2 := by rw [List.length_map, List.length_append, linesOf_len]; rfl
  have hinit : f_LineReader_init [.obj mu.length] (mu ++ [some (.ins 1 [])]) = .ok .non (RS mu [] [] false) := by
    have i0 : insOf (mu ++ [some (MO.ins 1 []), some (.lst [])]) (.obj mu.length) = some (1, []) := by unfold insOf; simp
    have i1 : insOf (mu ++ [some (MO.ins 1 (putFD "read_spots" (.obj (mu.length + 1)) [])), some (.lst []), some (.lst [])]) (.obj mu.length) = some (1, putFD "read_spots" (.obj (mu.length + 1)) []) := by unfold insOf; simp
    have i2 : insOf (mu ++ [some (MO.ins 1 (putFD "read_roads" (.obj (mu.length + 2)) (putFD "read_spots" (.obj (mu.length + 1)) []))), some (.lst []), some (.lst [])]) (.obj mu.length) = some (1, putFD "read_roads" (.obj (mu.length + 2)) (putFD "read_spots" (.obj (mu.length + 1)) [])) := by unfold insOf; simp
    have p3 : putFD "ended" (.bl false) (putFD "read_roads" (.obj (mu.length + 2)) (putFD "read_spots" (.obj (mu.length + 1)) [])) = rdF mu.length false := rfl
    have l1 : (putFD "read_spots" (.obj (mu.length + 1)) []).length < 1000 := by show 1 < 1000; decide
    have l2 : (putFD "read_roads" (.obj (mu.length + 2)) (putFD "read_spots" (.obj (mu.length + 1)) [])).length < 1000 := by show 2 < 1000; decide
    simp [f_LineReader_init, g_LineReader_init, dFun, sSeq, snext, sIf, sbind, sAsg, sRet, sSkip, sExpr, sPar, sSetI, sSetA, sAug, sFor, sTg, dVar, dC, dNil, dCons, dBind, obind, dTup, dLst, dFrz, MO.d, dReg, dFz, dOp1, dOp2, dCmp, dB2v, dTst, dAnd, dOr, dNot, dIf, dCall, dIx, dLook, lookD, dIsi, dIsi2, dIsC, dIn, dChn, dMut, lstOf, putO, dM1, tyOk, dNw1, dNw2, dSl, dP, dNoP, dIsN, dItQ, dItS, dRg1, dRg2, dEnum, dLc, dYes, noex, Tg.run, gSets, List.length_map, List.length_cons, List.length_nil, List.map_cons, List.map_nil, i0, i1, i2, p3, l1, l2, RS]
  obtain ⟨y5, y6, y7, l1⟩ := rd_spots_loop (mu := mu) (t := some (.val (.str (textOf (linesOf fs ws))))) (ls := (linesOf fs ws ++ [("" : Str)]).map D.str) (numD fs.length ((ws.map (roadL fs)).map D.str) ++ numD (fs.length + ws.length) [.str "over", .str ""]) fs [] 0 none none none h.names.all (by rw [hl]; omega) (by simpa using h9)
  obtain ⟨z5, z6, z7, l2⟩ := rd_roads_loop (mu := mu) (t := some (.val (.str (textOf (linesOf fs ws))))) (ls := (linesOf fs ws ++ [("" : Str)]).map D.str) (numD (fs.length + ws.length) [.str "over", .str ""]) h.names ws [] fs.length y5 y6 y7 hw (by rw [hl]; omega) (by simp; omega)
  obtain ⟨sl, l3, w5, w6, w7, hsl⟩ := rd_end (mu := mu) (t := some (.val (.str (textOf (linesOf fs ws))))) (ls := (linesOf fs ws ++ [("" : Str)]).map D.str) (fs := fs) hne (rd := ws.map (rowD fs)) (k := fs.length + ws.length) (by rw [hl]) (x5 := z5) (x6 := z6) (x7 := z7)
  subst hsl
  have num_app : ∀ (a b : List D) (k : Nat), numD k (a ++ b) = numD k a ++ numD (k + a.length) b := by
    intro a
    induction a with
    | nil => intro b k; rfl
    | cons x a ih =>
      intro b k
      simp only [List.cons_append, numD, ih, List.length_cons]
      rw [show k + 1 + a.length = k + (a.length + 1) by omega]
  have hloop : sForL (.tp [5, 6]) b_read_web_1 (numD 0 ((linesOf fs ws ++ [("" : Str)]).map D.str)) (rsl (some (.val (.str (textOf (linesOf fs ws))))) ((linesOf fs ws ++ [("" : Str)]).map D.str) mu.length none none none) (RS mu [] [] false) =
      .nx (rsl (some (.val (.str (textOf (linesOf fs ws))))) ((linesOf fs ws ++ [("" : Str)]).map D.str) mu.length w5 w6 w7) (RS mu fs (ws.map (rowD fs)) true) := by
    have e : numD 0 ((linesOf fs ws ++ [("" : Str)]).map D.str) = numD 0 ((fs.map spotL).map D.str) ++ (numD fs.length ((ws.map (roadL fs)).map D.str) ++ numD (fs.length + ws.length) [.str "over", .str ""]) := by
      have : (linesOf fs ws ++ [("" : Str)]).map D.str = (fs.map spotL).map D.str ++ ((ws.map (roadL fs)).map D.str ++ [.str "over", .str ""]) := by unfold linesOf; simp
      rw [this, num_app, num_app]
      simp
    rw [e, l1, List.nil_append, l2, List.nil_append, l3]
  have r0 := rs0 mu fs (ws.map (rowD fs)) true
  have r1 := rs1 mu fs (ws.map (rowD fs)) true
  have sz : (RS mu fs (ws.map (rowD fs)) true).set (mu.length + 1) none = RZ mu fs (some (.lst (ws.map (rowD fs)))) := by
    unfold RS RZ
    rw [List.set_append_right _ _ (by omega)]
    simp
  have hq := q_rows h.names hw (by omega) (mu := mu) (a0 := some (.val (.str (textOf (linesOf fs ws))))) (a1 := some (.val (.lst ((linesOf fs ws ++ [("" : Str)]).map D.str)))) (a4 := none) (a5 := w5) (a6 := w6) (a7 := w7)
  have gz : (RZ mu fs none ++ [some (MO.ins 0 (webF fs (ws.map ord) aws))])[(RZ mu fs none).length]? = some (some (.ins 0 (webF fs (ws.map ord) aws))) := by simp
  have tz : (RZ mu fs none ++ [some (MO.ins 0 (webF fs (ws.map ord) aws))]).set (RZ mu fs none).length none = RZ mu fs none ++ [none] := by simp
  unfold rsl at hloop
  have key : dFun 10 g_read_web [.str (textOf (linesOf fs ws))] mu = .ok (webD fs (ws.map ord) aws) (RZ mu fs none ++ [none]) := by
    unfold dFun g_read_web
    simp only [List.map_cons, List.map_nil, List.length_cons, List.length_nil, List.replicate, List.cons_append, List.nil_append, sSeq, sAsg, sRet, sbind, snext, sIf, dNot, dIsi, dBind, obind, dLook, dVar, List.getElem?_cons_succ, List.getElem?_cons_zero, lookD, isiOk, isTy, if_true, Bool.not_true, Bool.false_eq_true, if_false, sSkip, dM1, dC, tyOk, hsplit, List.set_cons_succ, List.set_cons_zero, dMake, dNil, hinit, sFor, dEnum, hloop, dTst, dOp1, r0, MO.d, attrD, rd_ended, rd_spots, dFz, r1, sz, dFrz, hq, dCons, e5, gz, tz, webD]
  unfold f_read_web fGc
  rw [key]
  unfold gcO
  dsimp only
  have ht : (RZ mu fs none ++ [none]).take mu.length = mu := by unfold RZ; simp
  rw [ht, hmu, show clD mu.length (webD fs (ws.map ord) aws) = clF mu.length (webF fs (ws.map ord) aws) from rfl, cl_webF _ _ _ (hc _)]
  rfl
end DL
end

section
set_option Elab.async false
set_option linter.all false
set_option maxRecDepth 100000
set_option maxHeartbeats 4000000
namespace DL
open PySem
/-! the plain law of k02: mixed, same, == -/
theorem erase_perm {α : Type} : ∀ {l : List α} {j : Nat} (h : j < l.length), (l[j] :: l.eraseIdx j).Perm l
  | [], _, h => absurd h (Nat.not_lt_zero _)
  | a :: l, 0, _ => List.Perm.refl _
  | a :: l, j + 1, h => by
    have ih := erase_perm (l := l) (j := j) (Nat.lt_of_succ_lt_succ h)
    simp only [List.getElem_cons_succ, List.eraseIdx_cons_succ]
    exact (List.Perm.swap _ _ _).trans (ih.cons a)
theorem mixed_loop (r : Store) {a1 : Option SV} : ∀ (ds left acc : List D) (p : Pot), p.Ok → ds.length = left.length → left.length ≤ 1000 → ∃ out p',
    dLcL (.nm 3) [some (.val (.obj 0)), a1, some (.val (.obj (r.length + 1))), none] dYes (dMut popD (dVar 2) (dCons (dCall f__law_draw (dCons (dVar 0) (dCons (dOp1 lenD (dLook (dVar 2))) dNil))) dNil)) ds acc (mus p (r ++ [some (.lst left)])) = .ok (.lst (acc ++ out)) (mus p' (r ++ [some (.lst [])])) ∧ p'.Ok ∧ out.Perm left
  | [], left, acc, p, h, hl, h1 => by
    have : left = [] := List.length_eq_zero_iff.mp hl.symm
    subst this
    exact ⟨[], p, by simp [dLcL], h, List.Perm.nil⟩
  | d :: ds, left, acc, p, h, hl, h1 => by
    rw [List.length_cons] at hl
    obtain ⟨v, p1, e, ok, v0, v1⟩ := draw_ok h (many := (left.length : Int)) (by omega) (by omega) (r ++ [some (.lst left)])
    obtain ⟨j, ej⟩ : ∃ j : Nat, v = (j : Int) := ⟨v.toNat, by omega⟩
    subst ej
    have hj : j < left.length := by omega
    have hlen : (left.eraseIdx j).length = left.length - 1 := by rw [List.length_eraseIdx, if_pos hj]
    obtain ⟨out, p2, e2, ok2, hp⟩ := mixed_loop r (a1 := a1) ds (left.eraseIdx j) (acc ++ [left[j]]) p1 ok (by omega) (by omega)
    refine ⟨left[j] :: out, p2, ?_, ok2, (hp.cons _).trans (erase_perm hj)⟩
    rw [show acc ++ left[j] :: out = acc ++ [left[j]] ++ out by simp, ← e2]
    have g0 : ∀ p : Pot, (mus p (r ++ [some (.lst left)]))[r.length + 1]? = some (some (.lst left)) := fun p => by unfold mus; simp
    have s0 : ∀ (p : Pot) (l : List D), (mus p (r ++ [some (.lst left)])).set (r.length + 1) (some (.lst l)) = mus p (r ++ [some (.lst l)]) := fun p l => by unfold mus; simp
    have hix : L2.ixN left.length (j : Int) = some j := by
      unfold L2.ixN
      rw [if_pos (by omega), if_pos (by omega), Int.toNat_natCast]
    have hpop : popD left [.int (j : Int)] = some (left[j], left.eraseIdx j) := by
      unfold popD
      have hr : rgOk (j : Int) = true := rgOk_nat (by omega)
      simp only [hr, if_true, (L2.ixN_seq hix).1, List.getElem?_eq_getElem hj]
    conv => lhs; unfold dLcL
    simp only [Tg.run, List.set_cons_succ, List.set_cons_zero, dYes, noex, obind, if_true, dMut, dBind, dVar, List.getElem?_cons_succ, List.getElem?_cons_zero, lstOf, g0, dCons, dCall, dOp1, dLook, lookD, MO.d, lenD, dNil, e, hpop, putO, s0]
theorem mixed_ok {p : Pot} (h : p.Ok) {l : List D} (hl : l.length ≤ 1000) {r : Store} (hr : Shut r) (hc : ∀ d ∈ l, ∀ n, clD n d = true) : ∃ out p', f__law_mixed [.obj 0, .lst l] (mus p r) = .ok (.lst out) (mus p' r) ∧ p'.Ok ∧ out.Perm l := by
  obtain ⟨out, p', e, ok, hp⟩ := mixed_loop r (a1 := some (.val (.lst l))) (rangeD 0 l.length) l [] p h (rangeD_len) hl
  refine ⟨out, p', ?_, ok, hp⟩
  have r1 : rgOk (l.length : Int) = true := rgOk_nat (by omega)
  have hsz : sizeOk (rangeD 0 l.length) = true := decide_eq_true (by rw [rangeD_len]; omega)
  have hlen : (mus p r).length = r.length + 1 := rfl
  have happ : mus p r ++ [some (.lst l)] = mus p (r ++ [some (.lst l)]) := rfl
  rw [List.nil_append] at e
  have hq : q__law_mixed_1 [some (.val (.obj 0)), some (.val (.lst l)), some (.val (.obj (r.length + 1))), none] (mus p (r ++ [some (.lst l)])) = .ok (.lst out) (mus p' (r ++ [some (.lst [])])) := by
    rw [← e]
    unfold q__law_mixed_1 dLc
    simp only [dRg1, dOp1, dBind, obind, dLook, dVar, List.getElem?_cons_succ, List.getElem?_cons_zero, lookD, lenD, r1, if_true, Int.toNat_natCast, hsz]
    rfl
  have key : dFun 4 g__law_mixed [.obj 0, .lst l] (mus p r) = .ok (.lst out) (mus p' (r ++ [some (.lst [])])) := by
    unfold dFun g__law_mixed
    simp only [List.map_cons, List.map_nil, List.length_cons, List.length_nil, List.replicate, List.cons_append, List.nil_append, sSeq, sAsg, sRet, sbind, snext, dReg, dNw1, dBind, obind, dLook, dVar, List.getElem?_cons_succ, List.getElem?_cons_zero, lookD, listD, hlen, happ, List.set_cons_succ, List.set_cons_zero, dFrz, hq, MO.d]
  unfold f__law_mixed fGc
  rw [key, hlen]
  exact gc_mus clD hr (clL_of fun d hd => hc d (hp.mem_iff.mp hd) _)
theorem q_same {f : FF} {l : List D} {mu : Store} (hl : l.length ≤ 1000) (h : ∀ d ∈ l, f [d, d] mu = .ok (.bl true) mu) {x y : D} (hx : ∀ i : Nat, ixD x (.int (i : Int)) = ixD (.lst l) (.int (i : Int))) (hy : ∀ i : Nat, ixD y (.int (i : Int)) = ixD (.lst l) (.int (i : Int))) (hly : lenD y = some (.int (l.length : Int))) (lx : lookD mu x = x) (ly : lookD mu y = y) :
    q__law_same_1 f [some (.val x), some (.val y), none] mu = .ok (.lst []) mu := by
  have r1 : rgOk (l.length : Int) = true := rgOk_nat (by omega)
  have := lc_pure (src := dRg1 (dOp1 lenD (dLook (dVar 1)))) (g := .nm 2) (own := [2]) (c := dNot (dTst (dCall f (dCons (dIx (dVar 0) (dVar 2)) (dCons (dIx (dVar 1) (dVar 2)) dNil))))) (elt := dVar 2) (sl := [some (.val x), some (.val y), none]) (mu := mu) (ds := rangeD 0 l.length) (fun _ => none)
    (by simp only [dRg1, dOp1, dBind, obind, dLook, dVar, List.getElem?_cons_succ, List.getElem?_cons_zero, ly, hly, r1, if_true, Int.toNat_natCast]) (by rw [rangeD_len]; omega) (fun d hd => by
      rw [rangeD0] at hd
      obtain ⟨i, hi, rfl⟩ := List.mem_map.mp hd
      have hi' := List.mem_range.mp hi
      have e := ix_nat (l := l) (i := i) (d := l[i]) (List.getElem?_eq_getElem hi')
      have e2 := h l[i] (List.getElem_mem hi')
      refine ⟨_, rfl, .inr ⟨rfl, ?_⟩⟩
      simp only [wipeS, List.set_cons_succ, List.set_cons_zero, dNot, dTst, dCall, dCons, dIx, dBind, obind, dVar, dNil, List.getElem?_cons_succ, List.getElem?_cons_zero, lx, ly, hx, hy, e, e2, Bool.not_true])
  rw [show q__law_same_1 f = dLc (dRg1 (dOp1 lenD (dLook (dVar 1)))) (.nm 2) [2] (dNot (dTst (dCall f (dCons (dIx (dVar 0) (dVar 2)) (dCons (dIx (dVar 1) (dVar 2)) dNil))))) (dVar 2) from rfl, this]
  simp
theorem ne_bl (b : Bool) : neD (.bl b) (.bl b) = some false := by cases b <;> decide +kernel
theorem eq_bl (b : Bool) : eqD (.bl b) (.bl b) = some true := by cases b <;> decide +kernel
theorem ne_int (i : Int) : neD (.int i) (.int i) = some false := by
  unfold neD
  rw [eq_ints, decide_eq_true rfl]
  rfl
theorem eq_nil : eqD (.lst []) (.lst []) = some true := by decide +kernel
theorem same_lst {n : Nat} {l : List D} {mu : Store} (hl : l.length ≤ 1000) (h : ∀ d ∈ l, f__law_same_at n [d, d] mu = .ok (.bl true) mu) : f__law_same_at (n + 1) [.lst l, .lst l] mu = .ok (.bl true) mu := by
  have hq := q_same hl h (x := .lst l) (y := .lst l) (fun _ => rfl) (fun _ => rfl) rfl rfl rfl
  unfold f__law_same_at dFun g__law_same
  simp only [List.map_cons, List.map_nil, List.length_cons, List.length_nil, List.replicate, List.cons_append, List.nil_append, sSeq, sIf, sRet, sbind, snext, sSkip, dOr, dIsi, dB2v, dCmp, dBind, obind, dLook, dVar, List.getElem?_cons_succ, List.getElem?_cons_zero, lookD, isiOk, isTy, if_true, Bool.false_eq_true, if_false, ne_bl, dOp1, lenD, ne_int, dFrz, hq, MO.d, dLst, dNil, eq_nil]
theorem same_tup {n : Nat} {l : List D} {mu : Store} (hl : l.length ≤ 1000) (h : ∀ d ∈ l, f__law_same_at n [d, d] mu = .ok (.bl true) mu) : f__law_same_at (n + 1) [.tup l, .tup l] mu = .ok (.bl true) mu := by
  have hq := q_same hl h (x := .tup l) (y := .tup l) (fun _ => rfl) (fun _ => rfl) rfl rfl rfl
  unfold f__law_same_at dFun g__law_same
  simp only [List.map_cons, List.map_nil, List.length_cons, List.length_nil, List.replicate, List.cons_append, List.nil_append, sSeq, sIf, sRet, sbind, snext, sSkip, dOr, dIsi, dB2v, dCmp, dBind, obind, dLook, dVar, List.getElem?_cons_succ, List.getElem?_cons_zero, lookD, isiOk, isTy, if_true, Bool.false_eq_true, if_false, ne_bl, dOp1, lenD, ne_int, dFrz, hq, MO.d, dLst, dNil, eq_nil]
theorem same_str {n : Nat} {x : Str} {mu : Store} : f__law_same_at (n + 1) [.str x, .str x] mu = .ok (.bl true) mu := by
  have e : eqD (.str x) (.str x) = some true := by rw [eq_strs, decide_eq_true rfl]
  unfold f__law_same_at dFun g__law_same
  simp only [List.map_cons, List.map_nil, List.length_cons, List.length_nil, List.replicate, List.cons_append, List.nil_append, sSeq, sIf, sRet, sbind, snext, sSkip, dOr, dAnd, dIsi, dB2v, dCmp, dBind, obind, dLook, dVar, List.getElem?_cons_succ, List.getElem?_cons_zero, lookD, isiOk, isTy, if_true, Bool.false_eq_true, if_false, dIsN, isNon, e]
theorem same_int {n : Nat} {x : Int} {mu : Store} : f__law_same_at (n + 1) [.int x, .int x] mu = .ok (.bl true) mu := by
  have e : eqD (.int x) (.int x) = some true := by rw [eq_ints, decide_eq_true rfl]
  unfold f__law_same_at dFun g__law_same
  simp only [List.map_cons, List.map_nil, List.length_cons, List.length_nil, List.replicate, List.cons_append, List.nil_append, sSeq, sIf, sRet, sbind, snext, sSkip, dOr, dAnd, dIsi, dB2v, dCmp, dBind, obind, dLook, dVar, List.getElem?_cons_succ, List.getElem?_cons_zero, lookD, isiOk, isTy, if_true, Bool.false_eq_true, if_false, dIsN, isNon, eq_bl, e]
theorem same_web {fs : List Str} {qs : List (Nat × Nat)} (h : Web fs qs) (mu : Store) : f__law_same [.lst [.tup (fs.map D.str), .tup (srt qs)], .lst [.tup (fs.map D.str), .tup (srt qs)]] mu = .ok (.bl true) mu := by
  refine same_lst (n := 5) (by show 2 ≤ 1000; decide) fun d hd => ?_
  simp only [List.mem_cons, List.not_mem_nil, or_false] at hd
  rcases hd with rfl | rfl
  · refine same_tup (n := 4) (by rw [List.length_map]; have := h.names.le; omega) fun d hd => ?_
    obtain ⟨x, _, rfl⟩ := List.mem_map.mp hd
    exact same_str
  · refine same_tup (n := 4) (by rw [srt_eq, List.length_map, srtP_len]; have := h.few; omega) fun d hd => ?_
    obtain ⟨q, _, rfl⟩ := srt_mem hd
    refine same_tup (n := 3) (by show 2 ≤ 1000; decide) fun d hd => ?_
    simp only [List.mem_cons, List.not_mem_nil, or_false] at hd
    rcases hd with rfl | rfl
    · exact same_int
    · exact same_int
/-! == of two webs -/
theorem eqvAll_refl_strs : ∀ l : List Str, PyData.eqvAll (l.map PyData.str) (l.map PyData.str) = true
  | [] => by simp [PyData.eqvAll]
  | x :: l => by
    rw [List.map_cons]
    simp [PyData.eqvAll, PyData.eqv, eqvAll_refl_strs l]
theorem eqvAll_refl_prs : ∀ l : List (Nat × Nat), PyData.eqvAll (l.map pP) (l.map pP) = true
  | [] => by simp [PyData.eqvAll]
  | x :: l => by
    rw [List.map_cons]
    simp [PyData.eqvAll, PyData.eqv, pP, eqvAll_refl_prs l]
theorem depth_prs : ∀ l : List (Nat × Nat), PyData.depthAll (l.map pP) ≤ 1
  | [] => by simp [PyData.depthAll]
  | x :: l => by
    have := depth_prs l
    rw [List.map_cons]
    simp [PyData.depthAll, PyData.depth, pP]
    omega
theorem eq_strsT (l : List Str) : eqD (.tup (l.map D.str)) (.tup (l.map D.str)) = some true := by
  unfold eqD
  simp only [toP, toPL_strs]
  rw [if_pos (by simp [PyData.depth, depth_strs])]
  simp [PyData.eqv, eqvAll_refl_strs]
theorem eq_prsT (l : List (Nat × Nat)) : eqD (.tup (l.map pD)) (.tup (l.map pD)) = some true := by
  unfold eqD
  simp only [toP, toPL_prs]
  rw [if_pos (by have := depth_prs l; simp [PyData.depth]; omega)]
  simp [PyData.eqv, eqvAll_refl_prs]
theorem web_eq_ok {fs : List Str} {qs qs' : List (Nat × Nat)} {a b : List D} (h : srtP qs = srtP qs') (mu : Store) : f_Web_eq [webD fs qs a, webD fs qs' b] mu = .ok (.bl true) mu := by
  have s1 : attrD "spots" (webD fs qs a) = some (.tup (fs.map D.str)) := rfl
  have s2 : attrD "spots" (webD fs qs' b) = some (.tup (fs.map D.str)) := rfl
  have s3 : attrD "roads" (webD fs qs a) = some (.tup ((srtP qs).map pD)) := by rw [← srt_eq]; rfl
  have s4 : attrD "roads" (webD fs qs' b) = some (.tup ((srtP qs).map pD)) := by rw [h, ← srt_eq]; rfl
  have l1 : lookD mu (webD fs qs a) = webD fs qs a := rfl
  have l2 : lookD mu (webD fs qs' b) = webD fs qs' b := rfl
  have i1 : isiOk (webD fs qs' b) = true := rfl
  have i2 : isIn 0 (webD fs qs' b) = true := rfl
  unfold f_Web_eq dFun g_Web_eq
  simp only [List.map_cons, List.map_nil, List.length_cons, List.length_nil, List.replicate, List.cons_append, List.nil_append, sRet, sbind, dB2v, dAnd, dIsC, dCmp, dOp1, dBind, obind, dLook, dVar, List.getElem?_cons_succ, List.getElem?_cons_zero, l1, l2, i1, i2, if_true, s1, s2, s3, s4, eq_strsT, eq_prsT]
end DL
end

section
set_option Elab.async false
set_option linter.all false
set_option maxRecDepth 100000
set_option maxHeartbeats 4000000
namespace DL
open PySem
/-! the plain law of k02: the law -/
theorem spec_web {fs : List Str} {rs : List (Nat × Nat)} (h : Spec fs rs) : Web fs rs where
  names := h.names
  ne := h.ne
  nd := h.sub.nodup (pairs_nodup _)
  lt := fun q hq => mem_pairs.mp (show (q.1, q.2) ∈ pairs fs.length from h.sub.subset hq)
  few := Nat.le_trans h.sub.length_le (pairs_len h.names.le)
theorem web_perm {fs : List Str} {rs qs : List (Nat × Nat)} (h : Web fs rs) (p : qs.Perm rs) : Web fs qs where
  names := h.names
  ne := h.ne
  nd := p.nodup_iff.mpr h.nd
  lt := fun q hq => h.lt q (p.mem_iff.mp hq)
  few := by rw [p.length_eq]; exact h.few
theorem perm_map {qs : List (Nat × Nat)} : ∀ {l : List D}, l.Perm (qs.map pD) → ∃ rs : List (Nat × Nat), rs.Perm qs ∧ l = rs.map pD := by
  have key : ∀ {l m : List D}, l.Perm m → ∀ qs : List (Nat × Nat), m = qs.map pD → ∃ rs : List (Nat × Nat), rs.Perm qs ∧ l = rs.map pD := by
    intro l m p
    induction p with
    | nil =>
      intro qs e
      have : qs = [] := List.map_eq_nil_iff.mp e.symm
      subst this
      exact ⟨[], List.Perm.nil, rfl⟩
    | @cons x l m p ih =>
      intro qs e
      cases qs with
      | nil => cases e
      | cons q qs =>
        rw [List.map_cons] at e
        injection e with e1 e2
        obtain ⟨rs, h1, h2⟩ := ih qs e2
        exact ⟨q :: rs, h1.cons q, by rw [List.map_cons, e1, h2]⟩
    | @swap x y l =>
      intro qs e
      match qs, e with
      | a :: b :: qs, e =>
        rw [List.map_cons, List.map_cons] at e
        injection e with e1 e2
        injection e2 with e2 e3
        exact ⟨b :: a :: qs, List.Perm.swap _ _ _, by rw [List.map_cons, List.map_cons, ← e1, ← e2, ← e3]⟩
      | [a], e => cases e
      | [], e => cases e
    | @trans a b c p1 p2 ih1 ih2 =>
      intro qs e
      obtain ⟨rs, h1, h2⟩ := ih2 qs e
      obtain ⟨ts, h3, h4⟩ := ih1 rs h2
      exact ⟨ts, h3.trans h1, h4⟩
  intro l p
  exact key p qs rfl
theorem two_perm {x y : D} {l : List D} (h : l.Perm [x, y]) : l = [x, y] ∨ l = [y, x] := by
  match l, h.length_eq with
  | [a, b], _ =>
    have ha : a ∈ [x, y] := h.mem_iff.mp List.mem_cons_self
    simp only [List.mem_cons, List.not_mem_nil, or_false] at ha
    rcases ha with rfl | rfl
    · have := h.cons_inv
      have := List.perm_singleton.mp this
      injection this with e
      exact .inl (by rw [e])
    · have h2 := h.trans (List.Perm.swap _ _ _)
      have := List.perm_singleton.mp h2.cons_inv
      injection this with e
      exact .inr (by rw [e])
def swp (q : Nat × Nat) : Nat × Nat := (q.2, q.1)
theorem ord_self {q : Nat × Nat} (h : q.1 < q.2) : ord q = q := by unfold ord; rw [if_pos (by omega)]
theorem ord_swp {q : Nat × Nat} (h : q.1 < q.2) : ord (swp q) = q := by
  unfold ord swp
  rw [if_neg (by show ¬ q.2 ≤ q.1; omega)]
theorem join_two (x y : Str) : Txt.join " " [x, y] = x ++ " " ++ y := by
  rw [TL.join_eq]
  rfl
theorem road_of (fs : List Str) (q : Nat × Nat) : ("road " : Str) ++ (nm fs q.1 ++ " " ++ nm fs q.2) = roadL fs q := by
  apply TL.ext_tl
  unfold roadL
  simp only [TL.tl_append, List.append_assoc]
def lsl (a0 a2 x5 x6 x7 x8 x9 x10 : Option SV) (fs : List Str) (rs : List (Nat × Nat)) (L : Nat) : Sl := [a0, some (.val (.obj 0)), a2, some (.val (specD fs rs)), some (.val (.obj L)), x5, x6, x7, x8, x9, x10, none, none]
theorem look_str (mu : Store) (s : Str) : lookD mu (.str s) = .str s := rfl
theorem look_lst (mu : Store) (l : List D) : lookD mu (.lst l) = .lst l := rfl
theorem look_tup (mu : Store) (l : List D) : lookD mu (.tup l) = .tup l := rfl
theorem clM_strs (n : Nat) (l : List Str) : clM n (some (.lst (l.map D.str))) = true := cl_strs n l
theorem road_turn {p : Pot} (h : p.Ok) {r : Store} (hr : ∀ n, r.all (clM n) = true) {fs : List Str} {rs : List (Nat × Nat)} (hf : Names fs) {q : Nat × Nat} (h1 : q.1 < fs.length) (h2 : q.2 < fs.length) {out : List Str} (ho : out.length ≤ 100) {a0 a2 x5 x6 x7 x8 : Option SV} : ∃ w p',
    b_law_1 (lsl a0 a2 x5 x6 x7 x8 (some (.val (.int (q.1 : Int)))) (some (.val (.int (q.2 : Int)))) fs rs (r.length + 1)) (mus p (r ++ [some (.lst (out.map D.str))])) = .nx (lsl a0 a2 x5 x6 x7 x8 (some (.val (.int (q.1 : Int)))) (some (.val (.int (q.2 : Int)))) fs rs (r.length + 1)) (mus p' (r ++ [some (.lst ((out ++ [roadL fs w]).map D.str))])) ∧ p'.Ok ∧ (w = q ∨ w = swp q) := by
  have sh : Shut (r ++ [some (.lst (out.map D.str))]) := by
    unfold Shut
    rw [List.all_append, hr]
    simp only [List.all_cons, List.all_nil, clM_strs, Bool.and_self]
  obtain ⟨l, p1, e, ok, hp⟩ := mixed_ok h (l := [.str (nm fs q.1), .str (nm fs q.2)]) (by show 2 ≤ 1000; decide) sh (fun d hd n => by
    simp only [List.mem_cons, List.not_mem_nil, or_false] at hd
    rcases hd with rfl | rfl <;> rfl)
  have hw : ∃ w : Nat × Nat, l = [.str (nm fs w.1), .str (nm fs w.2)] ∧ (w = q ∨ w = swp q) := by
    rcases two_perm hp with rfl | rfl
    · exact ⟨q, rfl, .inl rfl⟩
    · exact ⟨swp q, rfl, .inr rfl⟩
  obtain ⟨w, rfl, hwq⟩ := hw
  have hw1 : w.1 < fs.length ∧ w.2 < fs.length := by rcases hwq with rfl | rfl <;> exact ⟨by first | exact h1 | exact h2, by first | exact h2 | exact h1⟩
  have n1 := nm_len hf hw1.1
  have n2 := nm_len hf hw1.2
  have hj : joinD (.str " ") (.lst [.str (nm fs w.1), .str (nm fs w.2)]) = some (.str (nm fs w.1 ++ " " ++ nm fs w.2)) := by
    unfold joinD
    dsimp only
    rw [show strsD [.str (nm fs w.1), .str (nm fs w.2)] = some [nm fs w.1, nm fs w.2] from rfl]
    dsimp only
    rw [if_pos (by simp only [List.map_cons, List.map_nil, List.sum_cons, List.sum_nil, List.length_cons, List.length_nil, sp_len]; omega), join_two]
  have ha := add_str (x := "road ") (y := nm fs w.1 ++ " " ++ nm fs w.2) (by rw [len_app, len_app, road_len, sp_len]; omega)
  rw [road_of] at ha
  have i1 := ix_fs h1
  have i2 := ix_fs h2
  have hx0 : ∀ mu : Store, ixD (lookD mu (specD fs rs)) (.int 0) = some (.lst (fs.map D.str)) := fun mu => by
    show ixD (specD fs rs) (.int 0) = _
    simp [specD, ixD, L2.atI, L2.ixN]
  have hlk : ∀ mu : Store, lookD mu (.lst (fs.map D.str)) = .lst (fs.map D.str) := fun _ => rfl
  have g0 : ∀ p : Pot, (mus p (r ++ [some (.lst (out.map D.str))]))[r.length + 1]? = some (some (.lst (out.map D.str))) := fun p => by unfold mus; simp
  have s0 : ∀ (p : Pot) (l : List D), (mus p (r ++ [some (.lst (out.map D.str))])).set (r.length + 1) (some (.lst l)) = mus p (r ++ [some (.lst l)]) := fun p l => by unfold mus; simp
  have ho16 : (out.map D.str).length < 16000000 := by rw [List.length_map]; omega
  refine ⟨w, p1, ?_, ok, hwq⟩
  unfold lsl b_law_1
  simp only [sExpr, sbind, dMut, dBind, obind, dVar, List.getElem?_cons_succ, List.getElem?_cons_zero, lstOf, g0, dCons, dOp2, dC, dM1, look_str, look_lst, tyOk, if_true, dCall, dFrz, dLst, dIx, hx0, hlk, i1, i2, dNil, MO.d, e, hj, ha, appD, ho16, putO, s0, List.map_append, List.map_cons, List.map_nil]
theorem road_loop {r : Store} (hr : ∀ n, r.all (clM n) = true) {fs : List Str} {rs : List (Nat × Nat)} (hf : Names fs) {a0 a2 x5 x6 x7 x8 : Option SV} : ∀ (qs : List (Nat × Nat)) (p : Pot) (ws0 : List (Nat × Nat)) (x9 x10 : Option SV), p.Ok → (∀ q ∈ qs, q.1 < q.2 ∧ q.2 < fs.length) → ws0.length + qs.length ≤ 100 → ∃ ws p' y9 y10,
    sForL (.tp [9, 10]) b_law_1 (qs.map pD) (lsl a0 a2 x5 x6 x7 x8 x9 x10 fs rs (r.length + 1)) (mus p (r ++ [some (.lst ((ws0.map (roadL fs)).map D.str))])) = .nx (lsl a0 a2 x5 x6 x7 x8 y9 y10 fs rs (r.length + 1)) (mus p' (r ++ [some (.lst (((ws0 ++ ws).map (roadL fs)).map D.str))])) ∧ p'.Ok ∧ ws.map ord = qs ∧ ∀ w ∈ ws, w.1 < fs.length ∧ w.2 < fs.length
  | [], p, ws0, x9, x10, h, hq, hl => ⟨[], p, x9, x10, by rw [List.append_nil]; rfl, h, rfl, fun _ h => by cases h⟩
  | q :: qs, p, ws0, x9, x10, h, hq, hl => by
    rw [List.length_cons] at hl
    obtain ⟨q1, q2⟩ := hq q List.mem_cons_self
    obtain ⟨w, p1, e, ok, hw⟩ := road_turn h hr (rs := rs) hf (q := q) (by omega) q2 (out := ws0.map (roadL fs)) (by rw [List.length_map]; omega) (a0 := a0) (a2 := a2) (x5 := x5) (x6 := x6) (x7 := x7) (x8 := x8)
    obtain ⟨ws, p2, y9, y10, e2, ok2, hm, hb⟩ := road_loop hr (rs := rs) hf (a0 := a0) (a2 := a2) (x5 := x5) (x6 := x6) (x7 := x7) (x8 := x8) qs p1 (ws0 ++ [w]) (some (.val (.int (q.1 : Int)))) (some (.val (.int (q.2 : Int)))) ok (fun x hx => hq x (List.mem_cons_of_mem _ hx)) (by rw [List.length_append]; show ws0.length + 1 + qs.length ≤ 100; omega)
    have ho : ord w = q := by rcases hw with rfl | rfl; exact ord_self q1; exact ord_swp q1
    have hwb : w.1 < fs.length ∧ w.2 < fs.length := by
      rcases hw with rfl | rfl
      · exact ⟨by omega, q2⟩
      · exact ⟨q2, by show q.1 < fs.length; omega⟩
    refine ⟨w :: ws, p2, y9, y10, ?_, ok2, by rw [List.map_cons, ho, hm], fun x hx => ?_⟩
    · rw [show ws0 ++ w :: ws = ws0 ++ [w] ++ ws by simp, ← e2]
      conv => lhs; rw [List.map_cons]; unfold sForL
      simp only [Tg.run, pD, gSets]
      rw [show ((lsl a0 a2 x5 x6 x7 x8 x9 x10 fs rs (r.length + 1)).set 9 (some (.val (.int (q.1 : Int))))).set 10 (some (.val (.int (q.2 : Int)))) = lsl a0 a2 x5 x6 x7 x8 (some (.val (.int (q.1 : Int)))) (some (.val (.int (q.2 : Int)))) fs rs (r.length + 1) from rfl, e]
      simp only [List.map_append, List.map_cons, List.map_nil]
    · rcases List.mem_cons.mp hx with rfl | hx
      · exact hwb
      · exact hb x hx
end DL
end

section
set_option Elab.async false
set_option linter.all false
set_option maxRecDepth 100000
set_option maxHeartbeats 4000000
namespace DL
open PySem
/-! the plain law of k02: it always answers true -/
theorem seq_nx {s t : SF} {sl sl' : Sl} {mu mu' : Store} (h : s sl mu = .nx sl' mu') : sSeq s t sl mu = t sl' mu' := by
  unfold sSeq
  rw [h]
  rfl
theorem asg_nx {i : Nat} {f : EF} {d : D} {sl : Sl} {mu mu' : Store} (h : f sl mu = .ok d mu') : sAsg i f sl mu = .nx (sl.set i (some (.val d))) mu' := by
  unfold sAsg
  rw [h]
  rfl
theorem if_no {c : BF} {s t : SF} {sl : Sl} {mu mu' : Store} (h : c sl mu = .ok false mu') : sIf c s t sl mu = t sl mu' := by
  unfold sIf
  rw [h]
  rfl
theorem call_ok {p : FF} {g : LF} {ds : List D} {sl : Sl} {mu mu' : Store} {o : Out D} (h : g sl mu = .ok ds mu') (k : p ds mu' = o) : dCall p g sl mu = o := by
  unfold dCall dBind obind
  rw [h]
  exact k
theorem one_ok {f : EF} {d : D} {sl : Sl} {mu mu' : Store} (h : f sl mu = .ok d mu') : dCons f dNil sl mu = .ok [d] mu' := by
  unfold dCons dNil dBind obind
  rw [h]
theorem two_ok {f g : EF} {d e : D} {sl : Sl} {mu m1 m2 : Store} (h : f sl mu = .ok d m1) (k : g sl m1 = .ok e m2) : dCons f (dCons g dNil) sl mu = .ok [d, e] m2 := by
  unfold dCons dNil dBind obind
  rw [h]
  dsimp only
  rw [k]
theorem or_no {f g : BF} {sl : Sl} {mu m1 m2 : Store} (h : f sl mu = .ok false m1) (k : g sl m1 = .ok false m2) : dOr f g sl mu = .ok false m2 := by
  unfold dOr dBind obind
  rw [h]
  exact k
theorem not_yes {f : BF} {sl : Sl} {mu m1 : Store} (h : f sl mu = .ok true m1) : dNot f sl mu = .ok false m1 := by
  unfold dNot dBind obind
  rw [h]
  rfl
theorem tst_yes {f : EF} {sl : Sl} {mu m1 : Store} (h : f sl mu = .ok (.bl true) m1) : dTst f sl mu = .ok true m1 := by
  unfold dTst dBind obind
  rw [h]
theorem add_ok {f g : EF} {a b c : D} {sl : Sl} {mu m1 m2 : Store} (h : f sl mu = .ok a m1) (k : g sl m1 = .ok b m2) (e : addD a b = some c) : dOp2 addD f g sl mu = .ok c m2 := by
  unfold dOp2 dBind obind
  rw [h]
  dsimp only
  rw [k]
  dsimp only
  rw [e]
theorem frz_lst {f : NF} {l : List D} {sl : Sl} {mu m1 : Store} (h : f sl mu = .ok (.lst l) m1) : dFrz f sl mu = .ok (.lst l) m1 := by
  unfold dFrz dBind obind
  rw [h]
  rfl
def tsl (a0 x2 x3 x4 x5 x6 x7 x8 x9 x10 : Option SV) : Sl := [a0, some (.val (.obj 0)), x2, x3, x4, x5, x6, x7, x8, x9, x10, none, none]
theorem shut_all {r : Store} (hr : ∀ n, r.all (clM n) = true) : Shut r := hr _
theorem mus_all {p : Pot} {r : Store} (hr : ∀ n, r.all (clM n) = true) : ∀ n, (mus p r).all (clM n) = true := fun n => by
  unfold mus
  rw [List.all_cons, pot_clM, hr]
  rfl
theorem q_spots {fs : List Str} {rs : List (Nat × Nat)} (hf : Names fs) {sl : Sl} (hs : sl.length = 13) (h3 : sl[3]? = some (some (.val (specD fs rs)))) (mu : Store) : q_law_1 sl mu = .ok (.lst ((fs.map spotL).map D.str)) mu := by
  have h9 := hf.le
  have hx0 : ixD (lookD mu (specD fs rs)) (.int 0) = some (.lst (fs.map D.str)) := by
    show ixD (specD fs rs) (.int 0) = _
    simp [specD, ixD, L2.atI, L2.ixN]
  have := lc_all (src := dItQ (dIx (dVar 3) (dC (.int 0)))) (g := .nm 11) (own := [11]) (elt := dOp2 addD (dC (.str "spot ")) (dVar 11)) (sl := sl) (mu := mu) (ds := fs.map D.str) (fun d => match d with
    | .str x => .str (spotL x)
    | d => d) (by simp only [dItQ, dIx, dBind, obind, dVar, dC, h3, hx0]) (by rw [List.length_map]; omega) (fun d hd => by
      obtain ⟨x, hx, rfl⟩ := List.mem_map.mp hd
      have ha := add_str (x := "spot ") (y := x) (by have := (hf.all x hx).le; rw [spot_len]; omega)
      have hg : ((wipeS sl [11]).set 11 (some (.val (.str x))))[11]? = some (some (.val (.str x))) := List.getElem?_set_self (by rw [wipeS_length, hs]; decide)
      refine ⟨_, rfl, ?_⟩
      simp only [dOp2, dBind, obind, dVar, dC, hg, ha]
      rfl)
  rw [show q_law_1 = dLc (dItQ (dIx (dVar 3) (dC (.int 0)))) (.nm 11) [11] dYes (dOp2 addD (dC (.str "spot ")) (dVar 11)) from rfl, this, List.map_map, List.map_map]
  rfl
theorem eqO_no {fs : List Str} {qs qs' : List (Nat × Nat)} {a b : List D} {f g : EF} {sl : Sl} {mu m1 m2 : Store} (h : f sl mu = .ok (webD fs qs a) m1) (k : g sl m1 = .ok (webD fs qs' b) m2) (e : srtP qs = srtP qs') : dEqO true 0 f_Web_eq f g sl mu = .ok false m2 := by
  unfold dEqO dBind obind
  rw [h]
  dsimp only
  rw [k]
  dsimp only
  rw [show (isC 0 (lookD m2 (webD fs qs a)) && isiOk (lookD m2 (webD fs qs' b))) = true from rfl, if_pos rfl, web_eq_ok e]
  rfl
theorem srtP_self (rs : List (Nat × Nat)) : srtP (srtP rs) = srtP rs := srtP_perm (List.mergeSort_perm rs leP)
theorem map_ord {l : List (Nat × Nat)} (h : ∀ q ∈ l, q.1 < q.2) : l.map ord = l := by
  induction l with
  | nil => rfl
  | cons q l ih => rw [List.map_cons, ord_self (h q List.mem_cons_self), ih fun x hx => h x (List.mem_cons_of_mem _ hx)]
theorem law_turn {p : Pot} (h : p.Ok) {r : Store} (hr : ∀ n, r.all (clM n) = true) (a0 x2 x3 x4 x5 x6 x7 x8 x9 x10 : Option SV) : ∃ p' y3 y4 y5 y6 y7 y8 y9 y10,
    b_law_2 (tsl a0 x2 x3 x4 x5 x6 x7 x8 x9 x10) (mus p r) = .nx (tsl a0 x2 y3 y4 y5 y6 y7 y8 y9 y10) (mus p' (r ++ [none])) ∧ p'.Ok := by
  obtain ⟨fs, rs, p1, e1, ok1, hsp⟩ := spec_ok h (shut_all hr)
  have W := spec_web hsp
  obtain ⟨aws, e2, hc2⟩ := made_ok W (mus_all (p := p1) hr)
  have e3 := law_text_ok W (mus p1 r)
  have hr1 : ∀ n, (r ++ [some (MO.lst [])]).all (clM n) = true := fun n => by
    rw [List.all_append, hr]
    rfl
  have hr2 : ∀ n, (r ++ [(none : Option MO)]).all (clM n) = true := fun n => by
    rw [List.all_append, hr]
    rfl
  obtain ⟨out, p2, e4, ok2, hp⟩ := mixed_ok ok1 (l := rs.map pD) (by rw [List.length_map]; have := W.few; omega) (shut_all hr1) (fun d hd n => by
    obtain ⟨q, _, rfl⟩ := List.mem_map.mp hd
    rfl)
  obtain ⟨qs, hqs, rfl⟩ := perm_map hp
  have Wq := web_perm W hqs
  have h9 := W.names.le
  have hfew := Wq.few
  obtain ⟨ws, p3, y9, y10, e5, ok3, hm, hb⟩ := road_loop hr (rs := rs) W.names (a0 := a0) (a2 := x2) (x5 := x5) (x6 := x6) (x7 := some (.val (webD fs rs aws))) (x8 := some (.val (.str (textOf (linesOf fs (srtP rs)))))) qs p2 [] x9 x10 ok2 Wq.lt (by show 0 + qs.length ≤ 100; omega)
  have hwl : ws.length ≤ 36 := by
    have : (ws.map ord).length = qs.length := by rw [hm]
    rw [List.length_map] at this
    omega
  have Ws : Web fs (srtP rs) := web_perm W (List.mergeSort_perm rs leP)
  have hos : (srtP rs).map ord = srtP rs := map_ord fun q hq => (Ws.lt q hq).1
  obtain ⟨aw2, e6, _⟩ := read_ok (ws := srtP rs) (by rw [hos]; exact Ws) (fun w hw => by have := Ws.lt w hw; omega) (mus_all (p := p3) hr2)
  obtain ⟨aw3, e7, _⟩ := read_ok (ws := ws) (by rw [hm]; exact Wq) hb (mus_all (p := p3) hr2)
  rw [hos] at e6
  rw [hm] at e7
  have e8 := web_text_ok W (aws := aws) (mus p3 (r ++ [none]))
  have hg : (mus p3 (r ++ [some (.lst ((ws.map (roadL fs)).map D.str))]))[r.length + 1]? = some (some (.lst ((ws.map (roadL fs)).map D.str))) := by unfold mus; simp
  have hs : (mus p3 (r ++ [some (.lst ((ws.map (roadL fs)).map D.str))])).set (r.length + 1) none = mus p3 (r ++ [none]) := by unfold mus; simp
  have hsame := same_web W (mus p3 (r ++ [none]))
  have hbl : ∀ x ∈ linesOf fs ws, x.length ≤ 30 := fun x hx => line_len W.names hb hx
  have hkl : (linesOf fs ws).length ≤ 1000 := by rw [linesOf_len]; omega
  refine ⟨p3, some (.val (specD fs rs)), some (.val (.obj (r.length + 1))), some (.val (.lst ((linesOf fs ws).map D.str))), some (.val (webD fs (srtP rs) aw2)), some (.val (webD fs rs aws)), some (.val (.str (textOf (linesOf fs (srtP rs))))), y9, y10, ?_, ok3⟩
  unfold b_law_2
  rw [seq_nx (asg_nx (call_ok (two_ok rfl rfl) e1))]
  rw [seq_nx (s := sPar 7 8 _ _) (sl' := tsl a0 x2 (some (.val (specD fs rs))) x4 x5 x6 (some (.val (webD fs rs aws))) (some (.val (.str (textOf (linesOf fs (srtP rs)))))) x9 x10) (mu' := mus p1 r) (by
    unfold sPar
    rw [call_ok (one_ok rfl) e2]
    unfold sbind
    dsimp only
    rw [call_ok (one_ok rfl) e3]
    rfl)]
  rw [seq_nx (asg_nx (show dReg (dLst dNil) _ (mus p1 r) = .ok (.obj (r.length + 1)) (mus p1 (r ++ [some (.lst [])])) from rfl))]
  rw [seq_nx (s := sFor _ _ _) (sl' := lsl a0 x2 x5 x6 (some (.val (webD fs rs aws))) (some (.val (.str (textOf (linesOf fs (srtP rs)))))) y9 y10 fs rs (r.length + 1)) (mu' := mus p3 (r ++ [some (.lst ((ws.map (roadL fs)).map D.str))])) (by
    have hsrc : dItQ (dCall f__law_mixed (dCons (dVar 1) (dCons (dIx (dVar 3) (dC (.int 1))) dNil))) (lsl a0 x2 x5 x6 (some (.val (webD fs rs aws))) (some (.val (.str (textOf (linesOf fs (srtP rs)))))) x9 x10 fs rs (r.length + 1)) (mus p1 (r ++ [some (.lst [])])) = .ok (qs.map pD) (mus p2 (r ++ [some (.lst [])])) := by
      unfold dItQ dBind
      rw [call_ok (two_ok rfl (show _ = Out.ok (D.lst (rs.map pD)) (mus p1 (r ++ [some (.lst [])])) by
        have hx1 : ∀ mu : Store, ixD (lookD mu (specD fs rs)) (.int 1) = some (.lst (rs.map pD)) := fun mu => by
          show ixD (specD fs rs) (.int 1) = _
          simp [specD, ixD, L2.atI, L2.ixN]
        simp only [dIx, dBind, obind, dVar, dC, lsl, List.getElem?_cons_succ, List.getElem?_cons_zero, hx1])) e4]
      rfl
    unfold sFor
    rw [show ((tsl a0 x2 (some (.val (specD fs rs))) x4 x5 x6 (some (.val (webD fs rs aws))) (some (.val (.str (textOf (linesOf fs (srtP rs)))))) x9 x10).set 4 (some (.val (.obj (r.length + 1))))) = lsl a0 x2 x5 x6 (some (.val (webD fs rs aws))) (some (.val (.str (textOf (linesOf fs (srtP rs)))))) x9 x10 fs rs (r.length + 1) from rfl, hsrc]
    unfold sbind
    dsimp only
    exact e5)]
  rw [seq_nx (asg_nx (add_ok (add_ok (frz_lst (q_spots W.names (rs := rs) rfl rfl _)) (show dFz (dVar 4) _ _ = .ok (.lst ((ws.map (roadL fs)).map D.str)) (mus p3 (r ++ [none])) by
      unfold dFz dBind obind
      rw [show dVar 4 (lsl a0 x2 x5 x6 (some (.val (webD fs rs aws))) (some (.val (.str (textOf (linesOf fs (srtP rs)))))) y9 y10 fs rs (r.length + 1)) (mus p3 (r ++ [some (.lst ((ws.map (roadL fs)).map D.str))])) = .ok (.obj (r.length + 1)) (mus p3 (r ++ [some (.lst ((ws.map (roadL fs)).map D.str))])) from rfl]
      dsimp only
      rw [hg]
      dsimp only
      rw [hs]) (show addD (.lst ((fs.map spotL).map D.str)) (.lst ((ws.map (roadL fs)).map D.str)) = some (.lst ((fs.map spotL ++ ws.map (roadL fs)).map D.str)) by
      unfold addD
      dsimp only
      rw [if_pos (by simp only [List.length_map]; omega), List.map_append])) (show dFrz (dLst (dCons (dC (.str "over")) dNil)) _ _ = .ok (.lst [.str "over"]) (mus p3 (r ++ [none])) from rfl) (show addD (.lst ((fs.map spotL ++ ws.map (roadL fs)).map D.str)) (.lst [.str "over"]) = some (.lst ((linesOf fs ws).map D.str)) by
      unfold addD linesOf
      dsimp only
      rw [if_pos (by simp only [List.length_map, List.length_append, List.length_cons, List.length_nil]; omega)]
      simp only [List.map_append, List.map_cons, List.map_nil])))]
  rw [seq_nx (asg_nx (call_ok (one_ok rfl) e6))]
  have q2 := q_ends hbl (src := dItQ (dVar 5)) (i := 12) (sl := tsl a0 x2 (some (.val (specD fs rs))) (some (.val (.obj (r.length + 1)))) (some (.val (.lst ((linesOf fs ws).map D.str)))) (some (.val (webD fs (srtP rs) aw2))) (some (.val (webD fs rs aws))) (some (.val (.str (textOf (linesOf fs (srtP rs)))))) y9 y10) (mu := mus p3 (r ++ [none])) rfl (by show 12 < 13; decide) hkl
  have hj := join_text hbl hkl
  have hread : dM1 "str" joinD (dC (.str "")) (dFrz q_law_2) (tsl a0 x2 (some (.val (specD fs rs))) (some (.val (.obj (r.length + 1)))) (some (.val (.lst ((linesOf fs ws).map D.str)))) (some (.val (webD fs (srtP rs) aw2))) (some (.val (webD fs rs aws))) (some (.val (.str (textOf (linesOf fs (srtP rs)))))) y9 y10) (mus p3 (r ++ [none])) = .ok (.str (textOf (linesOf fs ws))) (mus p3 (r ++ [none])) := by
    unfold dM1 dBind
    rw [show dC (.str "") (tsl a0 x2 (some (.val (specD fs rs))) (some (.val (.obj (r.length + 1)))) (some (.val (.lst ((linesOf fs ws).map D.str)))) (some (.val (webD fs (srtP rs) aw2))) (some (.val (webD fs rs aws))) (some (.val (.str (textOf (linesOf fs (srtP rs)))))) y9 y10) (mus p3 (r ++ [none])) = .ok (.str "") (mus p3 (r ++ [none])) from rfl]
    unfold obind
    dsimp only
    rw [show tyOk "str" (lookD (mus p3 (r ++ [none])) (.str "")) = true from rfl, if_pos rfl, show dFrz q_law_2 _ _ = _ from frz_lst q2]
    dsimp only
    rw [look_str, look_lst, hj]
  refine (seq_nx (if_no (or_no (not_yes (tst_yes (call_ok (two_ok (call_ok (one_ok rfl) e8) rfl) (same_str (n := 5))))) (or_no (eqO_no (f := dVar 6) rfl rfl (srtP_self rs)) (eqO_no (call_ok (one_ok hread) e7) rfl (srtP_perm hqs)))))).trans ?_
  have hx0 : ∀ mu : Store, ixD (lookD mu (specD fs rs)) (.int 0) = some (.lst (fs.map D.str)) := fun mu => by
    show ixD (specD fs rs) (.int 0) = _
    simp [specD, ixD, L2.atI, L2.ixN]
  have hx1 : ∀ mu : Store, ixD (lookD mu (specD fs rs)) (.int 1) = some (.lst (rs.map pD)) := fun mu => by
    show ixD (specD fs rs) (.int 1) = _
    simp [specD, ixD, L2.atI, L2.ixN]
  have s1 : ∀ mu : Store, attrD "spots" (lookD mu (webD fs (srtP rs) aw2)) = some (.tup (fs.map D.str)) := fun _ => rfl
  have s2 : ∀ mu : Store, attrD "roads" (lookD mu (webD fs (srtP rs) aw2)) = some (.tup (srt rs)) := fun _ => by
    rw [show attrD "roads" (lookD _ (webD fs (srtP rs) aw2)) = some (.tup (srt (srtP rs))) from rfl, srt_eq, srtP_self, ← srt_eq]
  refine (if_no (not_yes (tst_yes (call_ok (two_ok (show _ = Out.ok (D.lst [.tup (fs.map D.str), .tup (srt rs)]) (mus p3 (r ++ [none])) by
      apply frz_lst
      simp only [dLst, dCons, dNil, dOp1, dBind, obind, dLook, dVar, tsl, List.set_cons_succ, List.set_cons_zero, List.getElem?_cons_succ, List.getElem?_cons_zero, s1, s2]) (show _ = Out.ok (D.lst [.tup (fs.map D.str), .tup (srt rs)]) (mus p3 (r ++ [none])) by
      apply frz_lst
      simp only [dLst, dCons, dNil, dOp1, dBind, obind, dLook, dVar, dC, dIx, dNw1, dFrz, MO.d, tsl, List.set_cons_succ, List.set_cons_zero, List.getElem?_cons_succ, List.getElem?_cons_zero, hx0, hx1, look_lst, sorted_prs, tupleD])) hsame)))).trans ?_
  rfl
theorem law_loop (a0 : Option SV) : ∀ (ds : List D) (p : Pot) (r : Store) (x2 x3 x4 x5 x6 x7 x8 x9 x10 : Option SV), p.Ok → (∀ n, r.all (clM n) = true) → ∃ sl mu, sForL (.nm 2) b_law_2 ds (tsl a0 x2 x3 x4 x5 x6 x7 x8 x9 x10) (mus p r) = .nx sl mu
  | [], p, r, x2, x3, x4, x5, x6, x7, x8, x9, x10, h, hr => ⟨_, _, rfl⟩
  | d :: ds, p, r, x2, x3, x4, x5, x6, x7, x8, x9, x10, h, hr => by
    obtain ⟨p', y3, y4, y5, y6, y7, y8, y9, y10, e, ok⟩ := law_turn h hr a0 (some (.val d)) x3 x4 x5 x6 x7 x8 x9 x10
    obtain ⟨sl, mu, e2⟩ := law_loop a0 ds p' (r ++ [none]) (some (.val d)) y3 y4 y5 y6 y7 y8 y9 y10 ok (fun n => by rw [List.all_append, hr]; rfl)
    refine ⟨sl, mu, ?_⟩
    rw [← e2]
    unfold sForL
    rw [show (Tg.nm 2).run d (tsl a0 x2 x3 x4 x5 x6 x7 x8 x9 x10) = some (tsl a0 (some (.val d)) x3 x4 x5 x6 x7 x8 x9 x10) from rfl]
    dsimp only
    rw [e]
    cases ds <;> rfl
theorem cut_ints (ns : List Int) : cutG (ns.map D.int) none (some 63) = (ns.take 63).map D.int := by
  unfold cutG
  have e : HT.sIx (ns.map D.int).length (ns.map D.int).length (some 63) = min 63 (ns.map D.int).length := HT.sIx_nat _ _ 63
  rw [e, HT.sIx_none, List.drop_zero, Nat.sub_zero, List.length_map, ← List.map_take]
  by_cases h : 63 ≤ ns.length
  · rw [Nat.min_eq_left h]
  · rw [Nat.min_eq_right (by omega), List.take_of_length_le (Nat.le_refl _), List.take_of_length_le (by omega)]
theorem pot_ok (ns : List Int) : ∃ p, f__law_pot [.frl (ns.map D.int)] [] = .ok (.obj 0) (mus p []) ∧ p.Ok := by
  refine ⟨⟨(ns.take 63).map fun i => if i < 0 then -i else i, 0, 20011, 0⟩, ?_, ⟨Int.le_refl 0, by rw [List.length_map, List.length_take]; omega, fun c hc => by
    obtain ⟨i, _, rfl⟩ := List.mem_map.mp hc
    split <;> omega, by show (0 : Int) ≤ 20011; decide, by show (20011 : Int) < 2147483648; decide, Int.le_refl 0⟩⟩
  have hq : q__law_pot_1 [some (.val (.frl (ns.map D.int))), none] [] = .ok (.lst (((ns.take 63).map fun i => if i < 0 then -i else i).map D.int)) [] := by
    have := lc_all (src := dItQ (dSl (dVar 0) dNoP (dP (dC (.int 63))))) (g := .nm 1) (own := [1]) (elt := dOp1 absD (dLook (dVar 1))) (sl := [some (.val (.frl (ns.map D.int))), none]) (mu := []) (ds := (ns.take 63).map D.int) (fun d => match d with
      | .int i => .int (if i < 0 then -i else i)
      | d => d) (by
        rw [← cut_ints]
        rfl) (by rw [List.length_map, List.length_take]; omega) (fun d hd => by
        obtain ⟨i, _, rfl⟩ := List.mem_map.mp hd
        exact ⟨_, rfl, rfl⟩)
    rw [show q__law_pot_1 = dLc (dItQ (dSl (dVar 0) dNoP (dP (dC (.int 63))))) (.nm 1) [1] dYes (dOp1 absD (dLook (dVar 1))) from rfl, this, List.map_map, List.map_map]
    rfl
  unfold f__law_pot dFun g__law_pot
  simp only [List.map_cons, List.map_nil, List.length_cons, List.length_nil, List.replicate, List.cons_append, List.nil_append, sRet, sbind, dReg, dLst, dCons, dNil, dBind, obind, dFrz, hq, MO.d, dC]
  rfl
theorem law_true : ∀ ns : List Int, ns.length ≤ 63 → ∃ mu, f_law [.frl (ns.map D.int)] [] = .ok (.bl true) mu := fun ns _ => by
  obtain ⟨p, e, ok⟩ := pot_ok ns
  obtain ⟨sl, mu, e2⟩ := law_loop (some (.val (.frl (ns.map D.int)))) (rangeD 0 6) p [] none none none none none none none none none ok (fun _ => rfl)
  refine ⟨mu, ?_⟩
  have key : g_law [some (.val (.frl (ns.map D.int))), none, none, none, none, none, none, none, none, none, none, none, none] [] = .rt (.bl true) mu := by
    unfold g_law
    refine (seq_nx (asg_nx (call_ok (one_ok rfl) e))).trans ?_
    exact (seq_nx (s := sFor (dRg1 (dC (.int 6))) (.nm 2) b_law_2) (sl' := sl) (mu' := mu) (show sFor (dRg1 (dC (.int 6))) (.nm 2) b_law_2 _ _ = _ from e2)).trans rfl
  show (match g_law [some (.val (.frl (ns.map D.int))), none, none, none, none, none, none, none, none, none, none, none, none] [] with
    | .nx _ mu' => Out.ok D.non mu'
    | .rt d mu' => .ok d mu'
    | .ex c fs _ mu' => .ex c fs mu'
    | _ => .bad) = _
  rw [key]
end DL
end

section
set_option Elab.async false
set_option linter.all false
set_option maxRecDepth 100000
set_option maxHeartbeats 4000000
namespace DL
open PySem PySem.Spec PyProof.Rows
open L2 hiding St
def d_is_number : He.DefD := ⟨("is_number", none), "is_number", "is_number", defArgs s_is_number, defBody s_is_number, defScope s_is_number, [], []⟩
def d_is_within : He.DefD := ⟨("is_within", none), "is_within", "is_within", defArgs s_is_within, defBody s_is_within, defScope s_is_within, [], []⟩
def d_is_listed : He.DefD := ⟨("is_listed", none), "is_listed", "is_listed", defArgs s_is_listed, defBody s_is_listed, defScope s_is_listed, [], []⟩
def d_have_no_twice : He.DefD := ⟨("have_no_twice", none), "have_no_twice", "have_no_twice", defArgs s_have_no_twice, defBody s_have_no_twice, defScope s_have_no_twice, [], []⟩
def d_is_name : He.DefD := ⟨("is_name", none), "is_name", "is_name", defArgs s_is_name, defBody s_is_name, defScope s_is_name, [], []⟩
def d_are_spots : He.DefD := ⟨("are_spots", none), "are_spots", "are_spots", defArgs s_are_spots, defBody s_are_spots, defScope s_are_spots, [], []⟩
def d_is_pair_below : He.DefD := ⟨("is_pair_below", none), "is_pair_below", "is_pair_below", defArgs s_is_pair_below, defBody s_is_pair_below, defScope s_is_pair_below, [], []⟩
def d_steps_away : He.DefD := ⟨("steps_away", none), "steps_away", "steps_away", defArgs s_steps_away, defBody s_steps_away, defScope s_steps_away, [], []⟩
def d_web_text : He.DefD := ⟨("web_text", none), "web_text", "web_text", defArgs s_web_text, defBody s_web_text, defScope s_web_text, [], []⟩
def d_LineReader_init : He.DefD := ⟨("LineReader", some "__init__"), "__init__", "LineReader.__init__", defArgs s_LineReader_init, defBody s_LineReader_init, defScope s_LineReader_init, [], []⟩
def d_LineReader_takes : He.DefD := ⟨("LineReader", some "takes"), "takes", "LineReader.takes", defArgs s_LineReader_takes, defBody s_LineReader_takes, defScope s_LineReader_takes, [], []⟩
def d_Web_init : He.DefD := ⟨("Web", some "__init__"), "__init__", "Web.__init__", defArgs s_Web_init, defBody s_Web_init, defScope s_Web_init, [], []⟩
def d_read_web : He.DefD := ⟨("read_web", none), "read_web", "read_web", defArgs s_read_web, defBody s_read_web, defScope s_read_web, [], []⟩
def d__law_pot : He.DefD := ⟨("_law_pot", none), "_law_pot", "_law_pot", defArgs s__law_pot, defBody s__law_pot, defScope s__law_pot, [], []⟩
def d__law_draw : He.DefD := ⟨("_law_draw", none), "_law_draw", "_law_draw", defArgs s__law_draw, defBody s__law_draw, defScope s__law_draw, [], []⟩
def d__law_pick : He.DefD := ⟨("_law_pick", none), "_law_pick", "_law_pick", defArgs s__law_pick, defBody s__law_pick, defScope s__law_pick, [], []⟩
def d__law_mixed : He.DefD := ⟨("_law_mixed", none), "_law_mixed", "_law_mixed", defArgs s__law_mixed, defBody s__law_mixed, defScope s__law_mixed, [], []⟩
def d__law_same : He.DefD := ⟨("_law_same", none), "_law_same", "_law_same", defArgs s__law_same, defBody s__law_same, defScope s__law_same, [], []⟩
def d__law_pairs : He.DefD := ⟨("_law_pairs", none), "_law_pairs", "_law_pairs", defArgs s__law_pairs, defBody s__law_pairs, defScope s__law_pairs, [], []⟩
def d__law_word : He.DefD := ⟨("_law_word", none), "_law_word", "_law_word", defArgs s__law_word, defBody s__law_word, defScope s__law_word, [], []⟩
def d__law_is_name : He.DefD := ⟨("_law_is_name", none), "_law_is_name", "_law_is_name", defArgs s__law_is_name, defBody s__law_is_name, defScope s__law_is_name, [], []⟩
def d__law_names : He.DefD := ⟨("_law_names", none), "_law_names", "_law_names", defArgs s__law_names, defBody s__law_names, defScope s__law_names, [], []⟩
def d__law_spec : He.DefD := ⟨("_law_spec", none), "_law_spec", "_law_spec", defArgs s__law_spec, defBody s__law_spec, defScope s__law_spec, [], []⟩
def d__law_made : He.DefD := ⟨("_law_made", none), "_law_made", "_law_made", defArgs s__law_made, defBody s__law_made, defScope s__law_made, [], []⟩
def d__law_lines : He.DefD := ⟨("_law_lines", none), "_law_lines", "_law_lines", defArgs s__law_lines, defBody s__law_lines, defScope s__law_lines, [], []⟩
def d__law_text_of : He.DefD := ⟨("_law_text_of", none), "_law_text_of", "_law_text_of", defArgs s__law_text_of, defBody s__law_text_of, defScope s__law_text_of, [], []⟩
def d_Web_eq : He.DefD := ⟨("Web", some "__eq__"), "__eq__", "Web.__eq__", defArgs s_Web_eq, defBody s_Web_eq, defScope s_Web_eq, [], []⟩
def d_law : He.DefD := ⟨("law", none), "law", "law", defArgs s_law, defBody s_law, defScope s_law, [], []⟩
def fn : List He.DefD := [d_is_number, d_is_within, d_is_listed, d_have_no_twice, d_is_name, d_are_spots, d_is_pair_below, d_steps_away, d_web_text, d_LineReader_init, d_LineReader_takes, d_Web_init, d_read_web, d__law_pot, d__law_draw, d__law_pick, d__law_mixed, d__law_same, d__law_pairs, d__law_word, d__law_is_name, d__law_names, d__law_spec, d__law_made, d__law_lines, d__law_text_of, d_Web_eq, d_law]
def fa : List He.Fa := [.glo "is_number",
  .glo "is_within",
  .glo "is_listed",
  .glo "have_no_twice",
  .glo "is_name",
  .glo "are_spots",
  .glo "is_pair_below",
  .glo "steps_away",
  .glo "web_text",
  .glo "read_web",
  .glo "_law_pot",
  .glo "_law_draw",
  .glo "_law_pick",
  .glo "_law_mixed",
  .glo "_law_same",
  .glo "_law_pairs",
  .glo "_law_names",
  .glo "_law_word",
  .glo "_law_is_name",
  .glo "_law_spec",
  .glo "_law_made",
  .glo "_law_lines",
  .glo "_law_text_of",
  .glo "law",
  .free "abs",
  .free "all",
  .free "bool",
  .free "enumerate",
  .free "int",
  .free "isinstance",
  .free "len",
  .free "list",
  .free "range",
  .free "sorted",
  .free "str",
  .free "tuple",
  .int "LONGEST" 8,
  .int "MOST_SPOTS" 9,
  .str "SIGNS" "abcdefghijklmnopqrstuvwxyz",
  .glo "WORDS",
  .glo "Web",
  .cls "Web",
  .mkr "Web",
  .noat "Web" "away",
  .noat "Web" "ended",
  .noat "Web" "read_roads",
  .noat "Web" "read_spots",
  .noat "Web" "roads",
  .noat "Web" "spots",
  .meth "Web" "__eq__",
  .glo "LineReader",
  .cls "LineReader",
  .mkr "LineReader",
  .noat "LineReader" "away",
  .noat "LineReader" "ended",
  .noat "LineReader" "read_roads",
  .noat "LineReader" "read_spots",
  .noat "LineReader" "roads",
  .noat "LineReader" "spots",
  .meth "LineReader" "takes"]
def clK (K : PySem.W.Frag) : Nat → Addr := fun c => if c = 0 then He.ga K "Web" else if c = 1 then He.ga K "LineReader" else 0
def exT (K : PySem.W.Frag) (C : Addr) : Bool := !decide (C = 0) && (He.eqO (PySem.W.findIn K (.ref C) "__class__") (some (some (.builtin "object.__class__"))) && (He.eqO (PySem.W.specialIn K (.builtin "object.__class__") "__get__") (some (some (.builtin "getset_descriptor.__get__"))) &&
  (decide (PySem.W.takesIn K (.builtin "object.__class__") = some true) && (decide (PySem.W.mroIn K C (.type "object") = some true) && [Ty.int, .bool, .str, .list, .tuple, .dict].all fun t => decide (PySem.W.kitOne K (.ref C) (.type t.n) = some false)))))
theorem exT_ok {K : PySem.W.Frag} {C : Addr} (h : exT K C = true) (c : Cls K C) : C ≠ 0 ∧ ClsT K C := by
  unfold exT at h
  simp only [Bool.and_eq_true] at h
  obtain ⟨h0, h1, h2, h3, h4, h5⟩ := h
  refine ⟨by simpa using h0, c, He.eqO_ok h1, He.eqO_ok h2, of_decide_eq_true h3, of_decide_eq_true h4, fun t => of_decide_eq_true (List.all_eq_true.mp h5 t (by cases t <;> decide))⟩
def tyNs : List String := ["NoneType", "bool", "int", "str", "list", "tuple"]
def exI (K : PySem.W.Frag) (C : Addr) : Bool := tyNs.all fun n => decide (PySem.W.kitOne K (.type n) (.ref C) = some false)
def exE (K : PySem.W.Frag) (C : Addr) : Bool := tyNs.all fun n => PySem.W.notFirst K C (.type n)
def exN (K : PySem.W.Frag) (C : Addr) : Bool := He.eqO (PySem.W.findIn K (.ref C) "__ne__") (some (some (.builtin "object.__ne__"))) && decide (PySem.W.mroIn K C (.type "object") = some true)
theorem exN_ok {K : PySem.W.Frag} {C : Addr} (h : exN K C = true) : ClsN K C := by
  unfold exN at h
  rw [Bool.and_eq_true] at h
  exact ⟨He.eqO_ok h.1, of_decide_eq_true h.2⟩
def exL (K : PySem.W.Frag) : List Bool := [exT K (He.ga K "Web"),
  exT K (He.ga K "LineReader"),
  exE K (He.ga K "Web"),
  PySem.W.notFirst K (He.ga K "Web") (.ref (He.ga K "Web")),
  PySem.W.notFirst K (He.ga K "Web") (.ref (He.ga K "LineReader")),
  exI K (He.ga K "Web"),
  decide (PySem.W.kitOne K (.ref (He.ga K "Web")) (.ref (He.ga K "Web")) = some true),
  decide (PySem.W.kitOne K (.ref (He.ga K "LineReader")) (.ref (He.ga K "Web")) = some false),
  exN K (He.ga K "Web"),
  He.tupB K "WORDS" [.str "spot", .str "road", .str "over"]]
def ex (K : PySem.W.Frag) : Bool := (exL K).all id
theorem ex_at {K : PySem.W.Frag} (h : ex K = true) (i : Nat) {b : Bool} (e : (exL K)[i]? = some b) : b = true := List.all_eq_true.mp h b (List.mem_of_getElem? e)
abbrev R : PySem.W.OpenRow := PySem.W.OpenLaw.row PySem.Challenge.rw_watchwebs_k02_whole_texts_of_webs
abbrev hk : PySem.W.Hook := He.hookX 6 fa fn [] [] ex
def ob (s : PySem.W.SharedT) : He.AlX := He.obsX 6 fa fn [] [] ex (HandSHeadRun.getT s)
theorem ob_eq (s : PySem.W.SharedT) : ob s = hk.obs s.abs := He.obsX_eq (HandSHeadRun.getT_eq s)
def loose : List PySem.Str := (["WatchError", "BadWeb", "BadText", "is_number", "is_within", "is_listed", "have_no_twice", "WORDS", "SIGNS", "LONGEST", "MOST_SPOTS", "is_name", "are_spots", "is_pair_below", "steps_away", "Web", "web_text", "LineReader", "read_web", "_law_pot", "_law_draw", "_law_pick", "_law_mixed", "_law_same", "_law_pairs", "_law_names", "_law_word", "_law_is_name", "_law_spec", "_law_made"] : List PySem.Str) ++ (["_law_lines", "_law_text_of"] : List PySem.Str)
set_option maxHeartbeats 0 in
theorem run (w : World) : HandSHeadRun.RunEq R (PySem.W.view R.prog [37]) hk ob 4000 loose w := by
  intro os
  kernel_rfl
def spLaw (K : PySem.W.Frag) : Sp := fun vs H Q _ => ∃ (a : Addr) (ns : List Int), ns.length ≤ 63 ∧ vs = [.ref a] ∧ SqL K H a (ns.map V.int) ∧ ∀ H', Q (.bl true) H'
theorem rpL_ints {T : Th} {F : Hp} {al : Nat → Addr} {n : Nat} : ∀ ns : List Int, RpL T F al n (ns.map V.int) (ns.map D.int)
  | [] => .nil
  | _ :: ns => .cons (.int _) (rpL_ints ns)
theorem sp_law {K : PySem.W.Frag} {cl : Nat → Addr} {p : FF} (hp : ∀ ns : List Int, ns.length ≤ 63 → ∃ mu, p [.frl (ns.map D.int)] [] = .ok (.bl true) mu) (vs : List V) (H : Hp) (Q : VK) (E : XK) (h : spLaw K vs H Q E) : spD ⟨K, cl⟩ 1 p vs H Q E := by
  obtain ⟨a, ns, hl, rfl, hS, hQ⟩ := h
  obtain ⟨mu, e⟩ := hp ns hl
  refine ⟨fun b => if b = a then H b else none, fun _ => 0, [], [.frl (ns.map D.int)], ⟨fun b o h => ?_, fun k m h => by simp at h, fun k m k' m' h => by simp at h⟩, .cons (.frl ?_ (rpL_ints ns)) .nil, rfl, ?_⟩
  · split at h
    · exact h
    · cases h
  · rcases hS with (h | ⟨o, h⟩) | h
    · exact .inl (.inl (by show (if a = a then H a else none) = _; rw [if_pos rfl]; exact h))
    · exact .inl (.inr ⟨o, by show (if a = a then H a else none) = _; rw [if_pos rfl]; exact h⟩)
    · exact .inr h
  · rw [e]
    intro v F1 al1 H1 x r
    cases r
    exact hQ H1
theorem fn_cx0 {P : Program} {w : World} {K : PySem.W.Frag} {mg : Str → Option Value} {base : Heap} {k : Nat} {f : Addr} {fd : FuncData} {ps : List Str} {sp : Sp} (F : FnOk P w K mg base (L2.CX P w) k f fd ps sp) (h : ∀ vs H Q E, sp vs H Q E → sp vs H Q E0) : FnOk P w K mg base CX0 k f fd ps sp :=
  ⟨F.len, fun A outer s H args us vs Q E hr he hb hv hs => codeAny_mono (F.run A outer s H args us vs Q E0 hr he hb hv (h _ _ _ _ hs)) fun r s' q => by
    cases r with
    | error e =>
      obtain ⟨_, _, _, _, _, _, _, _, _, _, _, _, hE⟩ := q
      exact hE.elim
    | ok fl => cases fl <;> exact q⟩
theorem facts {P : Program} {w w2 : World} {K : PySem.W.Frag} {h : Heap} {mg : Str → Option Value} {f : Addr} (X : K.In h) (G : h.Ns mainGlobals mg) (hfa : mg ("law" : Str) = some (.ref f)) (cx : He.SaysX fa fn [] [] ex w2 h K)
    (hp : ∀ ns : List Int, ns.length ≤ 63 → ∃ mu, f_law [.frl (ns.map D.int)] [] = .ok (.bl true) mu) :
    ∃ fd : FuncData, (∀ (s : Shared) (v : Value), BindsTo s fd ⟨[v], []⟩ [("script", v)]) ∧ ∀ base : Heap, K.In base → base.Ns mainGlobals mg → FnOk P w K mg base CX0 8 f fd ["script"] (spLaw K) := by
  have c := cx.t.d
  have cfa := c
  have hx := cx.more
  obtain ⟨fd_is_number, F_is_number⟩ := c.def_ 0 (d := d_is_number) rfl
  obtain ⟨fd_is_within, F_is_within⟩ := c.def_ 1 (d := d_is_within) rfl
  obtain ⟨fd_is_listed, F_is_listed⟩ := c.def_ 2 (d := d_is_listed) rfl
  obtain ⟨fd_have_no_twice, F_have_no_twice⟩ := c.def_ 3 (d := d_have_no_twice) rfl
  obtain ⟨fd_is_name, F_is_name⟩ := c.def_ 4 (d := d_is_name) rfl
  obtain ⟨fd_are_spots, F_are_spots⟩ := c.def_ 5 (d := d_are_spots) rfl
  obtain ⟨fd_is_pair_below, F_is_pair_below⟩ := c.def_ 6 (d := d_is_pair_below) rfl
  obtain ⟨fd_steps_away, F_steps_away⟩ := c.def_ 7 (d := d_steps_away) rfl
  obtain ⟨fd_web_text, F_web_text⟩ := c.def_ 8 (d := d_web_text) rfl
  obtain ⟨fd_LineReader_init, F_LineReader_init⟩ := c.def_ 9 (d := d_LineReader_init) rfl
  obtain ⟨fd_LineReader_takes, F_LineReader_takes⟩ := c.def_ 10 (d := d_LineReader_takes) rfl
  obtain ⟨fd_Web_init, F_Web_init⟩ := c.def_ 11 (d := d_Web_init) rfl
  obtain ⟨fd_read_web, F_read_web⟩ := c.def_ 12 (d := d_read_web) rfl
  obtain ⟨fd__law_pot, F__law_pot⟩ := c.def_ 13 (d := d__law_pot) rfl
  obtain ⟨fd__law_draw, F__law_draw⟩ := c.def_ 14 (d := d__law_draw) rfl
  obtain ⟨fd__law_pick, F__law_pick⟩ := c.def_ 15 (d := d__law_pick) rfl
  obtain ⟨fd__law_mixed, F__law_mixed⟩ := c.def_ 16 (d := d__law_mixed) rfl
  obtain ⟨fd__law_same, F__law_same⟩ := c.def_ 17 (d := d__law_same) rfl
  obtain ⟨fd__law_pairs, F__law_pairs⟩ := c.def_ 18 (d := d__law_pairs) rfl
  obtain ⟨fd__law_word, F__law_word⟩ := c.def_ 19 (d := d__law_word) rfl
  obtain ⟨fd__law_is_name, F__law_is_name⟩ := c.def_ 20 (d := d__law_is_name) rfl
  obtain ⟨fd__law_names, F__law_names⟩ := c.def_ 21 (d := d__law_names) rfl
  obtain ⟨fd__law_spec, F__law_spec⟩ := c.def_ 22 (d := d__law_spec) rfl
  obtain ⟨fd__law_made, F__law_made⟩ := c.def_ 23 (d := d__law_made) rfl
  obtain ⟨fd__law_lines, F__law_lines⟩ := c.def_ 24 (d := d__law_lines) rfl
  obtain ⟨fd__law_text_of, F__law_text_of⟩ := c.def_ 25 (d := d__law_text_of) rfl
  obtain ⟨fd_Web_eq, F_Web_eq⟩ := c.def_ 26 (d := d_Web_eq) rfl
  obtain ⟨fd_law, F_law⟩ := c.def_ 27 (d := d_law) rfl
  have T0 := exT_ok (ex_at hx 0 rfl) (He.cls_ok (c.fact 41 (f := .cls "Web") rfl))
  have T1 := exT_ok (ex_at hx 1 rfl) (He.cls_ok (c.fact 51 (f := .cls "LineReader") rfl))
  have hC : ∀ c, clK K c ≠ 0 → ClsT K (clK K c) := fun c hc => by
    unfold clK at hc ⊢
    by_cases h0 : c = 0
    · subst h0; exact T0.2
    rw [if_neg h0] at hc ⊢
    by_cases h1 : c = 1
    · subst h1; exact T1.2
    rw [if_neg h1] at hc ⊢
    exact absurd rfl hc
  have at_away : ∀ c, clK K c ≠ 0 → NoAttr K (clK K c) "away" := fun c hc => by
    unfold clK at hc ⊢
    by_cases h0 : c = 0
    · subst h0; exact He.noat_ok (cfa.fact 43 (f := .noat "Web" "away") rfl)
    rw [if_neg h0] at hc ⊢
    by_cases h1 : c = 1
    · subst h1; exact He.noat_ok (cfa.fact 53 (f := .noat "LineReader" "away") rfl)
    rw [if_neg h1] at hc ⊢
    exact absurd rfl hc
  have at_ended : ∀ c, clK K c ≠ 0 → NoAttr K (clK K c) "ended" := fun c hc => by
    unfold clK at hc ⊢
    by_cases h0 : c = 0
    · subst h0; exact He.noat_ok (cfa.fact 44 (f := .noat "Web" "ended") rfl)
    rw [if_neg h0] at hc ⊢
    by_cases h1 : c = 1
    · subst h1; exact He.noat_ok (cfa.fact 54 (f := .noat "LineReader" "ended") rfl)
    rw [if_neg h1] at hc ⊢
    exact absurd rfl hc
  have at_read_roads : ∀ c, clK K c ≠ 0 → NoAttr K (clK K c) "read_roads" := fun c hc => by
    unfold clK at hc ⊢
    by_cases h0 : c = 0
    · subst h0; exact He.noat_ok (cfa.fact 45 (f := .noat "Web" "read_roads") rfl)
    rw [if_neg h0] at hc ⊢
    by_cases h1 : c = 1
    · subst h1; exact He.noat_ok (cfa.fact 55 (f := .noat "LineReader" "read_roads") rfl)
    rw [if_neg h1] at hc ⊢
    exact absurd rfl hc
  have at_read_spots : ∀ c, clK K c ≠ 0 → NoAttr K (clK K c) "read_spots" := fun c hc => by
    unfold clK at hc ⊢
    by_cases h0 : c = 0
    · subst h0; exact He.noat_ok (cfa.fact 46 (f := .noat "Web" "read_spots") rfl)
    rw [if_neg h0] at hc ⊢
    by_cases h1 : c = 1
    · subst h1; exact He.noat_ok (cfa.fact 56 (f := .noat "LineReader" "read_spots") rfl)
    rw [if_neg h1] at hc ⊢
    exact absurd rfl hc
  have at_roads : ∀ c, clK K c ≠ 0 → NoAttr K (clK K c) "roads" := fun c hc => by
    unfold clK at hc ⊢
    by_cases h0 : c = 0
    · subst h0; exact He.noat_ok (cfa.fact 47 (f := .noat "Web" "roads") rfl)
    rw [if_neg h0] at hc ⊢
    by_cases h1 : c = 1
    · subst h1; exact He.noat_ok (cfa.fact 57 (f := .noat "LineReader" "roads") rfl)
    rw [if_neg h1] at hc ⊢
    exact absurd rfl hc
  have at_spots : ∀ c, clK K c ≠ 0 → NoAttr K (clK K c) "spots" := fun c hc => by
    unfold clK at hc ⊢
    by_cases h0 : c = 0
    · subst h0; exact He.noat_ok (cfa.fact 48 (f := .noat "Web" "spots") rfl)
    rw [if_neg h0] at hc ⊢
    by_cases h1 : c = 1
    · subst h1; exact He.noat_ok (cfa.fact 58 (f := .noat "LineReader" "spots") rfl)
    rw [if_neg h1] at hc ⊢
    exact absurd rfl hc
  have hE0 : ClsE K (clK K) 0 := ⟨fun n hn => List.all_eq_true.mp (ex_at hx 2 rfl) n hn, fun c hc => by
    unfold clK at hc ⊢
    by_cases h0 : c = 0
    · subst h0; exact ex_at hx 3 rfl
    rw [if_neg h0] at hc
    by_cases h1 : c = 1
    · subst h1; exact ex_at hx 4 rfl
    rw [if_neg h1] at hc
    exact absurd rfl hc⟩
  have hI0 : ClsI K (clK K) 0 := ⟨fun n hn => of_decide_eq_true (List.all_eq_true.mp (ex_at hx 5 rfl) n hn), fun c hc => by
    unfold clK at hc ⊢
    by_cases h0 : c = 0
    · subst h0; exact of_decide_eq_true (ex_at hx 6 rfl)
    rw [if_neg h0] at hc
    by_cases h1 : c = 1
    · subst h1; exact of_decide_eq_true (ex_at hx 7 rfl)
    rw [if_neg h1] at hc
    exact absurd rfl hc⟩
  have hN0 : ClsN K (clK K 0) := exN_ok (ex_at hx 8 rfl)
  have fc : Fc K mg (clK K) (He.ga K "WORDS") :=
    { hC := hC,
      n_abs := He.free_ok X G (c.fact 24 (f := .free "abs") rfl),
      n_all := He.free_ok X G (c.fact 25 (f := .free "all") rfl),
      n_bool := He.free_ok X G (c.fact 26 (f := .free "bool") rfl),
      n_enumerate := He.free_ok X G (c.fact 27 (f := .free "enumerate") rfl),
      n_int := He.free_ok X G (c.fact 28 (f := .free "int") rfl),
      n_isinstance := He.free_ok X G (c.fact 29 (f := .free "isinstance") rfl),
      n_len := He.free_ok X G (c.fact 30 (f := .free "len") rfl),
      n_list := He.free_ok X G (c.fact 31 (f := .free "list") rfl),
      n_range := He.free_ok X G (c.fact 32 (f := .free "range") rfl),
      n_sorted := He.free_ok X G (c.fact 33 (f := .free "sorted") rfl),
      n_str := He.free_ok X G (c.fact 34 (f := .free "str") rfl),
      n_tuple := He.free_ok X G (c.fact 35 (f := .free "tuple") rfl),
      at_away := at_away,
      at_ended := at_ended,
      at_read_roads := at_read_roads,
      at_read_spots := at_read_spots,
      at_roads := at_roads,
      at_spots := at_spots,
      g_LONGEST := let ⟨t, e⟩ := He.int_ok X G (c.fact 36 (f := .int "LONGEST" 8) rfl); ⟨_, e, t, rfl⟩,
      g_MOST_SPOTS := let ⟨t, e⟩ := He.int_ok X G (c.fact 37 (f := .int "MOST_SPOTS" 9) rfl); ⟨_, e, t, rfl⟩,
      g_SIGNS := let ⟨t, e⟩ := He.str_ok X G (c.fact 38 (f := .str "SIGNS" "abcdefghijklmnopqrstuvwxyz") rfl); ⟨_, e, t, rfl⟩,
      hE0 := hE0,
      hI0 := hI0,
      hN0 := hN0,
      c_Web := ⟨_, He.glo_ok X G (c.fact 40 (f := .glo "Web") rfl), rfl⟩,
      m_WORDS := He.glo_ok X G (c.fact 39 (f := .glo "WORDS") rfl),
      q_WORDS := fun H => He.tupB_ok (ex_at hx 9 rfl) H }
  have b := FunD.bindsA (ps := ["script"]) F_law fun _ _ _ _ _ _ us hl => match us, hl with | [_], _ => rfl
  have e0 := hfa.symm.trans (He.glo_ok X G (c.fact 23 (f := .glo "law") rfl))
  refine ⟨fd_law, fun s v => b s [v] rfl, fun base _ _ => ?_⟩
  have h_is_number := ok_is_number (P := P) (w := w) (base := base) fc F_is_number (He.glo_ok X G (c.fact 0 (f := .glo "is_number") rfl))
  have h_is_within := ok_is_within (P := P) (w := w) (base := base) fc F_is_within (He.glo_ok X G (c.fact 1 (f := .glo "is_within") rfl)) h_is_number
  have h_is_listed := ok_is_listed (P := P) (w := w) (base := base) fc F_is_listed (He.glo_ok X G (c.fact 2 (f := .glo "is_listed") rfl))
  have h_have_no_twice := ok_have_no_twice (P := P) (w := w) (base := base) fc F_have_no_twice (He.glo_ok X G (c.fact 3 (f := .glo "have_no_twice") rfl))
  have h_is_name := ok_is_name (P := P) (w := w) (base := base) fc F_is_name (He.glo_ok X G (c.fact 4 (f := .glo "is_name") rfl))
  have h_are_spots := ok_are_spots (P := P) (w := w) (base := base) fc F_are_spots (He.glo_ok X G (c.fact 5 (f := .glo "are_spots") rfl)) h_is_listed h_is_name h_have_no_twice
  have h_is_pair_below := ok_is_pair_below (P := P) (w := w) (base := base) fc F_is_pair_below (He.glo_ok X G (c.fact 6 (f := .glo "is_pair_below") rfl)) h_is_within
  have h_steps_away := ok_steps_away (P := P) (w := w) (base := base) fc F_steps_away (He.glo_ok X G (c.fact 7 (f := .glo "steps_away") rfl))
  have h_web_text := ok_web_text (P := P) (w := w) (base := base) fc F_web_text (He.glo_ok X G (c.fact 8 (f := .glo "web_text") rfl))
  have h_LineReader_init := ok_LineReader_init (P := P) (w := w) (base := base) fc F_LineReader_init (He.mkr_ok (c.fact 52 (f := .mkr "LineReader") rfl)) T1.1 (He.glo_ok X G (c.fact 50 (f := .glo "LineReader") rfl))
  have h_LineReader_takes := ok_LineReader_takes (P := P) (w := w) (base := base) fc F_LineReader_takes (He.meth_ok (c.fact 59 (f := .meth "LineReader" "takes") rfl)) T1.1 h_is_name
  have h_Web_init := ok_Web_init (P := P) (w := w) (base := base) fc F_Web_init (He.mkr_ok (c.fact 42 (f := .mkr "Web") rfl)) T0.1 (He.glo_ok X G (c.fact 40 (f := .glo "Web") rfl)) h_are_spots h_is_listed h_is_pair_below h_have_no_twice h_steps_away
  have h_read_web := ok_read_web (P := P) (w := w) (base := base) fc F_read_web (He.glo_ok X G (c.fact 9 (f := .glo "read_web") rfl)) h_LineReader_init h_LineReader_takes h_Web_init
  have h__law_pot := ok__law_pot (P := P) (w := w) (base := base) fc F__law_pot (He.glo_ok X G (c.fact 10 (f := .glo "_law_pot") rfl))
  have h__law_draw := ok__law_draw (P := P) (w := w) (base := base) fc F__law_draw (He.glo_ok X G (c.fact 11 (f := .glo "_law_draw") rfl))
  have h__law_pick := ok__law_pick (P := P) (w := w) (base := base) fc F__law_pick (He.glo_ok X G (c.fact 12 (f := .glo "_law_pick") rfl)) h__law_draw
  have h__law_mixed := ok__law_mixed (P := P) (w := w) (base := base) fc F__law_mixed (He.glo_ok X G (c.fact 13 (f := .glo "_law_mixed") rfl)) h__law_draw
  have h__law_same := ok__law_same (P := P) (w := w) (base := base) fc F__law_same (He.glo_ok X G (c.fact 14 (f := .glo "_law_same") rfl))
  have h__law_pairs := ok__law_pairs (P := P) (w := w) (base := base) fc F__law_pairs (He.glo_ok X G (c.fact 15 (f := .glo "_law_pairs") rfl))
  have h__law_word := ok__law_word (P := P) (w := w) (base := base) fc F__law_word (He.glo_ok X G (c.fact 17 (f := .glo "_law_word") rfl)) h__law_draw h__law_pick
  have h__law_is_name := ok__law_is_name (P := P) (w := w) (base := base) fc F__law_is_name (He.glo_ok X G (c.fact 18 (f := .glo "_law_is_name") rfl))
  have h__law_names := ok__law_names (P := P) (w := w) (base := base) fc F__law_names (He.glo_ok X G (c.fact 16 (f := .glo "_law_names") rfl)) h__law_word h__law_is_name
  have h__law_spec := ok__law_spec (P := P) (w := w) (base := base) fc F__law_spec (He.glo_ok X G (c.fact 19 (f := .glo "_law_spec") rfl)) h__law_draw h__law_names h__law_pairs
  have h__law_made := ok__law_made (P := P) (w := w) (base := base) fc F__law_made (He.glo_ok X G (c.fact 20 (f := .glo "_law_made") rfl)) h_Web_init
  have h__law_lines := ok__law_lines (P := P) (w := w) (base := base) fc F__law_lines (He.glo_ok X G (c.fact 21 (f := .glo "_law_lines") rfl))
  have h__law_text_of := ok__law_text_of (P := P) (w := w) (base := base) fc F__law_text_of (He.glo_ok X G (c.fact 22 (f := .glo "_law_text_of") rfl)) h__law_lines
  have h_Web_eq := ok_Web_eq (P := P) (w := w) (base := base) fc F_Web_eq (He.meth_ok (c.fact 49 (f := .meth "Web" "__eq__") rfl)) T0.1
  have h_law := ok_law (P := P) (w := w) (base := base) fc F_law h__law_pot h__law_spec h__law_made h__law_text_of h__law_mixed h_read_web h_web_text h__law_same h_Web_eq
  have e1 : f = He.fAd K d_law.at_ := Value.ref.inj (Option.some.inj e0)
  rw [e1]
  exact fn_cx0 ((h_law.imp (sp_law hp))) fun vs H Q E h => h
end DL
open PySem PySem.W PySem.Calls PyProof.Rows
theorem PySem.Challenge.cw_watchwebs_k02_whole_texts_of_webs_holds : PySem.Challenge.rw_watchwebs_k02_whole_texts_of_webs.Holds := by
  w_on; o_law
  refine HandSHeadRun.head_any (r := OpenLaw.row PySem.Challenge.rw_watchwebs_k02_whole_texts_of_webs) (q := view (OpenLaw.row PySem.Challenge.rw_watchwebs_k02_whole_texts_of_webs).prog [37]) (H := DL.hk) (ob := DL.ob) (M := 4000) (loose := DL.loose) (d := HandSHeadRun.topDef (OpenLaw.row PySem.Challenge.rw_watchwebs_k02_whole_texts_of_webs).prog 37) (kwd := []) DL.ob_eq
    (by kernel_rfl) (fun s => by kernel_rfl) DL.run (by kernel_rfl) (by kernel_rfl) (by kernel_rfl) (by rfl) (by first | assumption | decide +kernel) (by decide +kernel) ⟨rfl, rfl, rfl, rfl, rfl, by decide +kernel⟩ ?hw ?hc
  case hw => w_witness2
  case hc =>
    refine L2.walk_ofE (l := PySem.Challenge.rw_watchwebs_k02_whole_texts_of_webs) (n := 63) (k := 8) (x := "script") (CX := L2.CX0) rfl (by decide) (by kernel_rfl) ⟨rfl, by decide, by decide⟩ ?F (fun _ _ _ _ z => z)
    intro w mg fa h Y G hmg0
    obtain ⟨K, KX, c⟩ := Y
    have hmg : mg ("law" : PySem.Str) = some (.ref fa) := by
      have e : (HandSHeadRun.topDef (OpenLaw.row PySem.Challenge.rw_watchwebs_k02_whole_texts_of_webs).prog 37).name = ("law" : PySem.Str) := by kernel_rfl
      rw [← e]
      exact hmg0
    obtain ⟨fd, hb, hF⟩ := DL.facts (P := (PySem.Challenge.rw_watchwebs_k02_whole_texts_of_webs).prog) (w := w) KX G hmg c DL.law_true
    exact ⟨K, fd, DL.spLaw K, KX, hb, fun H a ns hl _ hS => ⟨a, ns, hl, rfl, hS, fun _ => rfl⟩, hF⟩
end
