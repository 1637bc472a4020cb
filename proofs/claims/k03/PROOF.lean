import PyProof.Rows.All
import Wide.All
import OpenK.AllK
import Wide.FinOn
import HandS.ForMost
import HandS.Walk
import HandS.Exc
import HandS.ExcOwn
import HandS.IsInst
import HandS.Conv
import HandS.Lambda
import HandS.Defaults
import HandS.NoneIn
import HandS.DictComp
import HandS.TupAny
import HandS.StrMore
import HandS.Replace
import HandS.FStr
import HandS.Wide
import HandS.SortInts
import KE.DataEq
import KE.DataFind
import HandS.TupLe
import HandS.TupMul
import HandS.Codes
import HandS.CallRecv
import HandS.OwnEq
import HandS.NamedTupSort
import PyProof.InstNe
import KE.SortData
import HandS.Text
import HandS.Deep
import KE.GoesMore
import KE.GoesComp
import HandS.Dict
import HandS.TupLen
import HandS.WordsDict
import HandS.Zip
import KE.KExcSuper
import HandS.ExcInit
import KE.GoesEnum
import HandS.Star
import HandS.Style
import HandS.HeadHook1
import HandS.HeadHook2
import HandS.HeadHook3
import HandS.HeadHook4
import HandS.TryMany
import HandS.EndTab
import HandS.HeadWalk
import PyProof.Rows.IntBool
import HandS.RaiseMore
import HandS.ExcField
import KE.KDictPairs
import KE.KDictKeyed
import KE.KDictLaw
import KE.KStateDown
import HandS.Base
import HandS.Call
import HandS.Ends
import HandS.More
import HandS.Words
import HandS.WordsExc
import HandS.Head0
import HandS.Head1
import HandS.Head2
import HandS.HeadEnd
import PySem.Challenge.RW_watchwebs_k03_first_wrong_lines
section
set_option Elab.async false
set_option linter.all false
set_option maxRecDepth 100000
set_option maxHeartbeats 4000000
/-! DA: data, the store, what stands for what, how the heap grows. -/
namespace DL
open PySem L2

/-- data. obj k: the k-th object of the store -/
inductive D where
  | non | bl (b : Bool) | int (i : Int) | str (x : Str)
  | lst (l : List D) | tup (l : List D)
  | dct (kvs : List (D × D))
  | ins (c : Nat) (fs : List (Str × D))
  | obj (k : Nat)
  /-- a list that is known to the object (the script) -/
  | frl (l : List D)

/-- what may be changed: a list, a dict, an instance -/
inductive MO where
  | lst (l : List D) | dct (kvs : List (D × D)) | ins (c : Nat) (fs : List (Str × D))
abbrev Store := List (Option MO)
/-- a slot: data, or an object of the frame's own -/
inductive SV where
  | val (d : D) | own (m : MO)
abbrev Sl := List (Option SV)

/-- what a piece of the program comes to -/
inductive Out (α : Type) where
  | ok (a : α) (mu : Store)
  | ex (c : Nat) (fs : List (Str × D)) (mu : Store)
  | bad
/-- .. a statement: the next one, a return, break, continue -/
inductive OutS where
  | nx (sl : Sl) (mu : Store)
  | rt (d : D) (mu : Store)
  | bk (sl : Sl) (mu : Store)
  | ct (sl : Sl) (mu : Store)
  | ex (c : Nat) (fs : List (Str × D)) (sl : Sl) (mu : Store)
  | bad

/-- the theory: the written part, the classes' addresses -/
structure Th where
  K : PySem.W.Frag
  cls : Nat → Addr

/-- dicts: by a heap's predicate, told later -/
structure DKit where
  ok : Hp → Addr → List (V × V) → Prop

/-- a class of instances that is there (from 1000 on: errors) -/
def Lv (cl : Nat → Addr) (c : Nat) : Prop := cl c ≠ 0 ∧ c < 1000

/-- the names of lambdas, by their tables -/
def qn : Nat → Str
  | 0 => "law.<locals>.<lambda>"
  | 1 => "_law_web_right.<locals>.<lambda>"
  | _ => "_law_task_right.<locals>.<lambda>"
/-- no table, no code -/
def NoTab (o : HO) : Prop := (∀ ps, o ≠ .tbl ps) ∧ ∀ (c : Addr) (q : Str), o ≠ LamX.CodeO c q
/-- nothing stands there, or a table -/
def Fre (H : Hp) (a : Addr) : Prop := ∀ o, H a = some o → ∃ ps, o = .tbl ps
theorem Fre.of {H : Hp} {a : Addr} (h : H a = none) : Fre H a := fun o e => by rw [h] at e; cases e
theorem Fre.no {H : Hp} {a : Addr} {o : HO} (h : Fre H a) (e : H a = some o) (n : ∀ ps, o ≠ .tbl ps) : False := by
  obtain ⟨ps, z⟩ := h o e
  exact n ps z
theorem tab_upd {H : Hp} {a P : Addr} {o : HO} {q : Str} (h : H a = none ∨ ∃ u, H a = some u ∧ NoTab u) (t : LamX.TabS H P q) : LamX.TabS (upd H a o) P q := by
  obtain ⟨ps, h1, h2, h3⟩ := t
  have ne : ∀ {b u}, H b = some u → ¬ NoTab u → b ≠ a := fun e n z => by
    subst z
    rcases h with h | ⟨v, h, g⟩
    · rw [h] at e; cases e
    · rw [h] at e; cases e; exact n g
  refine ⟨ps, by rw [upd_ne (ne h1 fun g => g.1 ps rfl)]; exact h1, h2, fun pos cv hc => ?_⟩
  obtain ⟨c, e1, e2⟩ := h3 pos cv hc
  exact ⟨c, e1, by rw [upd_ne (ne e2 fun g => g.2 c q rfl)]; exact e2⟩

section
variable (T : Th) (F : Hp) (al : Nat → Addr) (n : Nat)
mutual
inductive Rp : V → D → Prop
  | non : Rp .non .non
  | bl (b : Bool) : Rp (.bl b) (.bl b)
  | int (i : Int) : Rp (.int i) (.int i)
  | str (x : Str) : Rp (.str x) (.str x)
  | lst {a : Addr} {xs : List V} {ds : List D} : F a = some (.lst xs) → RpL xs ds → Rp (.ref a) (.lst ds)
  | tup {a : Addr} {xs : List V} {ds : List D} : F a = some (.tup xs) → RpL xs ds → Rp (.ref a) (.tup ds)
  | ins {a dx : Addr} {c : Nat} {fs : List (Str × V)} {ds : List (Str × D)} : Lv T.cls c → F a = some (.ins (T.cls c) dx fs) → RpF fs ds → Rp (.ref a) (.ins c ds)
  | dct {a : Addr} : F a = some (.dK []) → Rp (.ref a) (.dct [])
  | obj {k : Nat} : k < n → Rp (.ref (al k)) (.obj k)
  | frl {a : Addr} {xs : List V} {ds : List D} : SqL T.K F a xs → RpL xs ds → Rp (.ref a) (.frl ds)
inductive RpL : List V → List D → Prop
  | nil : RpL [] []
  | cons {v : V} {vs : List V} {d : D} {ds : List D} : Rp v d → RpL vs ds → RpL (v :: vs) (d :: ds)
inductive RpF : List (Str × V) → List (Str × D) → Prop
  | nil : RpF [] []
  | cons {x : Str} {v : V} {vs : List (Str × V)} {d : D} {ds : List (Str × D)} : Rp v d → RpF vs ds → RpF ((x, v) :: vs) ((x, d) :: ds)
end
/-- what stands at an address for a changeable object -/
def Conc : HO → MO → Prop
  | .lst xs, .lst ds => RpL T F al n xs ds
  | .ins C _ fs, .ins c ds => (C = T.cls c ∧ Lv T.cls c) ∧ RpF T F al n fs ds
  | _, _ => False
end

theorem Conc.noTab {T : Th} {F : Hp} {al : Nat → Addr} {n : Nat} {o : HO} {m : MO} (h : Conc T F al n o m) : NoTab o := by
  refine ⟨fun ps z => ?_, fun c q z => ?_⟩
  · subst z
    cases m <;> exact h
  · subst z
    unfold LamX.CodeO at h
    cases m <;> exact h

theorem noTab_lst (xs : List V) : NoTab (.lst xs) := ⟨fun _ z => HO.noConfusion z, fun _ _ z => HO.noConfusion (show HO.lst xs = HO.ext _ from z)⟩
section
variable {T : Th} {F F' : Hp} {al al' : Nat → Addr} {n n' : Nat}
theorem sqT_mono {K : PySem.W.Frag} {a : Addr} {xs : List V} (s : ∀ a o, F a = some o → F' a = some o) (h : F a = some (.tup xs)) : SqT K F' a xs := .inl (.inl (s _ _ h))
theorem sqL_mono {K : PySem.W.Frag} {a : Addr} {xs : List V} (s : ∀ a o, F a = some o → F' a = some o) (h : SqL K F a xs) : SqL K F' a xs := by
  rcases h with (h | ⟨o, h⟩) | h
  · exact .inl (.inl (s _ _ h))
  · exact .inl (.inr ⟨o, s _ _ h⟩)
  · exact .inr h
mutual
theorem Rp.mono (s : ∀ a o, F a = some o → F' a = some o) (e : ∀ k, k < n → al' k = al k) (l : n ≤ n') : ∀ {d : D} {v : V}, Rp T F al n v d → Rp T F' al' n' v d
  | .non, _, h => by cases h; exact .non
  | .bl b, _, h => by cases h; exact .bl b
  | .int i, _, h => by cases h; exact .int i
  | .str x, _, h => by cases h; exact .str x
  | .lst ds, _, h => by cases h with | lst h1 h2 => exact .lst (s _ _ h1) (RpL.mono s e l h2)
  | .tup ds, _, h => by cases h with | tup h1 h2 => exact .tup (s _ _ h1) (RpL.mono s e l h2)
  | .dct kvs, _, h => by cases h with | dct h1 => exact .dct (s _ _ h1)
  | .frl ds, _, h => by cases h with | frl h1 h2 => exact .frl (sqL_mono s h1) (RpL.mono s e l h2)
  | .ins c ds, _, h => by cases h with | ins h0 h1 h2 => exact .ins h0 (s _ _ h1) (RpF.mono s e l h2)
  | .obj k, _, h => by
    cases h with
    | obj h1 =>
      rw [← e k h1]
      exact .obj (Nat.lt_of_lt_of_le h1 l)
theorem RpL.mono (s : ∀ a o, F a = some o → F' a = some o) (e : ∀ k, k < n → al' k = al k) (l : n ≤ n') : ∀ {ds : List D} {vs : List V}, RpL T F al n vs ds → RpL T F' al' n' vs ds
  | [], _, h => by cases h; exact .nil
  | d :: ds, _, h => by cases h with | cons h1 h2 => exact .cons (Rp.mono s e l h1) (RpL.mono s e l h2)
theorem RpF.mono (s : ∀ a o, F a = some o → F' a = some o) (e : ∀ k, k < n → al' k = al k) (l : n ≤ n') : ∀ {ds : List (Str × D)} {vs : List (Str × V)}, RpF T F al n vs ds → RpF T F' al' n' vs ds
  | [], _, h => by cases h; exact .nil
  | (x, d) :: ds, _, h => by cases h with | cons h1 h2 => exact .cons (Rp.mono s e l h1) (RpF.mono s e l h2)
end
end
end DL
end

section
set_option Elab.async false
set_option linter.all false
set_option maxRecDepth 100000
set_option maxHeartbeats 4000000
/-! DB: the world of a frame, how it goes on; readings of denotations. -/
namespace DL
open PySem L2
variable {T : Th} {F F1 F2 : Hp} {al al1 al2 : Nat → Addr} {mu mu1 mu2 : Store} {H H1 H2 : Hp} {sl : Sl} {σ : St}

/-- the store stands in H, F is of H -/
structure Mus (T : Th) (F : Hp) (al : Nat → Addr) (mu : Store) (H : Hp) : Prop where
  sub : ∀ a o, F a = some o → H a = some o
  at_ : ∀ k m, mu[k]? = some (some m) → F (al k) = none ∧ ∃ o, H (al k) = some o ∧ Conc T F al mu.length o m
  inj : ∀ k m k' m', mu[k]? = some (some m) → mu[k']? = some (some m') → al k = al k' → k = k'
  tab : ∀ i, T.cls (2000 + i) ≠ 0 → LamX.TabS H (T.cls (2000 + i)) (qn i)
  nt : ∀ a o, F a = some o → ∀ ps, o ≠ .tbl ps

structure Wd (T : Th) (F : Hp) (al : Nat → Addr) (sl : Sl) (mu : Store) (σ : St) (H : Hp) : Prop extends Mus T F al mu H where
  len : σ.length = sl.length
  val : ∀ (i : Nat) d, sl[i]? = some (some (SV.val d)) → ∃ v, σ[i]? = some (some v) ∧ Rp T F al mu.length v d
  own : ∀ (i : Nat) m, sl[i]? = some (some (SV.own m)) → ∃ a o, σ[i]? = some (some (V.ref a)) ∧ F a = none ∧ H a = some o ∧ Conc T F al mu.length o m ∧ ∀ k m', mu[k]? = some (some m') → al k ≠ a
  apart : ∀ (i j : Nat) m m' a, i ≠ j → sl[i]? = some (some (SV.own m)) → sl[j]? = some (some (SV.own m')) → σ[i]? = some (some (V.ref a)) → σ[j]? = some (some (V.ref a)) → False

structure Ext (T : Th) (F : Hp) (al : Nat → Addr) (mu : Store) (H : Hp) (F' : Hp) (al' : Nat → Addr) (mu' : Store) (H' : Hp) : Prop where
  mus : Mus T F' al' mu' H'
  sub : ∀ a o, F a = some o → F' a = some o
  new : ∀ a o, F' a = some o → F a = some o ∨ Fre H a ∨ ∃ k m, mu[k]? = some (some m) ∧ al k = a
  keep : ∀ a o, H a = some o → (∀ ps, o ≠ .tbl ps) → (∀ k m, mu[k]? = some (some m) → al k ≠ a) → H' a = some o
  there : ∀ a, Fre H' a → Fre H a
  als : ∀ k, k < mu.length → al' k = al k
  ln : mu.length ≤ mu'.length
  fresh : ∀ k m, mu'[k]? = some (some m) → (∃ m0, mu[k]? = some (some m0)) ∨ Fre H (al' k)

theorem lt_of_live {k : Nat} {m : MO} (h : mu[k]? = some (some m)) : k < mu.length := (List.getElem?_eq_some_iff.mp h).1
theorem Ext.refl (h : Mus T F al mu H) : Ext T F al mu H F al mu H :=
  ⟨h, fun _ _ e => e, fun _ _ e => .inl e, fun _ _ e _ _ => e, fun _ e => e, fun _ _ => rfl, Nat.le_refl _, fun k m e => .inl ⟨m, e⟩⟩
theorem Ext.trans (a : Ext T F al mu H F1 al1 mu1 H1) (b : Ext T F1 al1 mu1 H1 F2 al2 mu2 H2) : Ext T F al mu H F2 al2 mu2 H2 where
  mus := b.mus
  sub := fun x o e => b.sub x o (a.sub x o e)
  new := fun x o e => by
    rcases b.new x o e with h | h | ⟨k, m, e1, e2⟩
    · exact a.new x o h
    · exact .inr (.inl (a.there x h))
    · rcases a.fresh k m e1 with ⟨m0, h⟩ | h
      · exact .inr (.inr ⟨k, m0, h, by rw [← a.als k (lt_of_live h)]; exact e2⟩)
      · exact .inr (.inl (by rw [← e2]; exact h))
  keep := fun x o e t n => b.keep x o (a.keep x o e t n) t fun k m e1 e2 => by
    rcases a.fresh k m e1 with ⟨m0, h⟩ | h
    · exact n k m0 h (by rw [← a.als k (lt_of_live h)]; exact e2)
    · rw [e2] at h; exact h.no e t
  there := fun x e => a.there x (b.there x e)
  als := fun k hk => (b.als k (Nat.lt_of_lt_of_le hk a.ln)).trans (a.als k hk)
  ln := Nat.le_trans a.ln b.ln
  fresh := fun k m e => by
    rcases b.fresh k m e with ⟨m0, h⟩ | h
    · rcases a.fresh k m0 h with h' | h'
      · exact .inl h'
      · exact .inr (by rw [b.als k (lt_of_live h)]; exact h')
    · exact .inr (a.there _ h)

theorem Ext.rp (a : Ext T F al mu H F1 al1 mu1 H1) {v : V} {d : D} (h : Rp T F al mu.length v d) : Rp T F1 al1 mu1.length v d := h.mono a.sub a.als a.ln
theorem Ext.rpL (a : Ext T F al mu H F1 al1 mu1 H1) {v : List V} {d : List D} (h : RpL T F al mu.length v d) : RpL T F1 al1 mu1.length v d := h.mono a.sub a.als a.ln
theorem Conc.mono {n n' : Nat} (s : ∀ a o, F a = some o → F1 a = some o) (e : ∀ k, k < n → al1 k = al k) (l : n ≤ n') {o : HO} {m : MO} (h : Conc T F al n o m) : Conc T F1 al1 n' o m := by
  cases o <;> cases m <;> first
    | exact False.elim h
    | exact RpL.mono s e l h
    | exact ⟨h.1, RpF.mono s e l h.2⟩
theorem Ext.conc (a : Ext T F al mu H F1 al1 mu1 H1) {o : HO} {m : MO} (h : Conc T F al mu.length o m) : Conc T F1 al1 mu1.length o m := h.mono a.sub a.als a.ln
theorem Wd.ext (w : Wd T F al sl mu σ H) (a : Ext T F al mu H F1 al1 mu1 H1) : Wd T F1 al1 sl mu1 σ H1 where
  toMus := a.mus
  len := w.len
  val := fun i d e => by
    obtain ⟨v, h1, h2⟩ := w.val i d e
    exact ⟨v, h1, a.rp h2⟩
  own := fun i m e => by
    obtain ⟨x, o, h1, h2, h3, h4, h5⟩ := w.own i m e
    refine ⟨x, o, h1, ?_, a.keep x o h3 h4.noTab.1 h5, a.conc h4, fun k m' e' z => ?_⟩
    · cases q : F1 x with
      | none => rfl
      | some u =>
        rcases a.new x u q with h | h | ⟨k, m', e1, e2⟩
        · rw [h2] at h; cases h
        · exact (h.no h3 h4.noTab.1).elim
        · exact absurd e2 (h5 k m' e1)
    · rcases a.fresh k m' e' with ⟨m0, h⟩ | h
      · exact h5 k m0 h (by rw [← a.als k (lt_of_live h)]; exact z)
      · rw [z] at h; exact (h.no h3 h4.noTab.1).elim
  apart := w.apart
/-- a new object, frozen or not -/
theorem nt_upd {F : Hp} {p : Addr} {o : HO} (h : ∀ a o, F a = some o → ∀ ps, o ≠ .tbl ps) (k : ∀ ps, o ≠ .tbl ps) : ∀ a u, upd F p o a = some u → ∀ ps, u ≠ .tbl ps := fun a u e => by
  by_cases z : a = p
  · subst z; rw [upd_same] at e; cases e; exact k
  · rw [upd_ne z] at e; exact h a u e
theorem Mus.laidF (h : Mus T F al mu H) {p : Addr} {o : HO} (hp : H p = none) (nt : ∀ ps, o ≠ .tbl ps := by intro _ z; cases z) : Mus T (upd F p o) al mu (upd H p o) := by
  have hF : F p = none := by
    cases q : F p with
    | none => rfl
    | some u => rw [h.sub p u q] at hp; cases hp
  refine ⟨fun a u e => ?_, fun k m e => ?_, h.inj, fun i e => tab_upd (.inl hp) (h.tab i e), nt_upd h.nt nt⟩
  · by_cases z : a = p
    · subst z; rw [upd_same] at e ⊢; exact e
    · rw [upd_ne z] at e ⊢; exact h.sub a u e
  · obtain ⟨h1, o', h2, h3⟩ := h.at_ k m e
    have ne : al k ≠ p := fun z => by rw [z, hp] at h2; cases h2
    refine ⟨by rw [upd_ne ne]; exact h1, o', by rw [upd_ne ne]; exact h2, h3.mono (fun a u e => ?_) (fun _ _ => rfl) (Nat.le_refl _)⟩
    rw [upd_ne (ne_of_none e hF)]; exact e
theorem Mus.laidH (h : Mus T F al mu H) {p : Addr} {o : HO} (hp : H p = none) : Mus T F al mu (upd H p o) := by
  refine ⟨fun a u e => ?_, fun k m e => ?_, h.inj, fun i e => tab_upd (.inl hp) (h.tab i e), h.nt⟩
  · rw [upd_ne (ne_of_none (h.sub a u e) hp)]; exact h.sub a u e
  · obtain ⟨h1, o', h2, h3⟩ := h.at_ k m e
    exact ⟨h1, o', by rw [upd_ne (ne_of_none h2 hp)]; exact h2, h3⟩
theorem there_upd {p : Addr} {o : HO} (h : H p = none ∨ ∀ ps, o ≠ .tbl ps) : ∀ a, Fre (upd H p o) a → Fre H a := fun a e => by
  by_cases z : a = p
  · subst z
    rcases h with h | h
    · exact .of h
    · exact (e.no upd_same h).elim
  · intro u q
    exact e u (by rw [upd_ne z]; exact q)
theorem Ext.laidF (h : Mus T F al mu H) {p : Addr} {o : HO} (hp : H p = none) (nt : ∀ ps, o ≠ .tbl ps := by intro _ z; cases z) : Ext T F al mu H (upd F p o) al mu (upd H p o) := by
  have hF : F p = none := by
    cases q : F p with
    | none => rfl
    | some u => rw [h.sub p u q] at hp; cases hp
  refine ⟨h.laidF hp nt, fun a u e => by rw [upd_ne (ne_of_none e hF)]; exact e, fun a u e => ?_, fun a u e _ _ => by rw [upd_ne (ne_of_none e hp)]; exact e, there_upd (.inl hp), fun _ _ => rfl, Nat.le_refl _, fun k m e => .inl ⟨m, e⟩⟩
  by_cases z : a = p
  · subst z; exact .inr (.inl (.of hp))
  · rw [upd_ne z] at e; exact .inl e
theorem Ext.laidH (h : Mus T F al mu H) {p : Addr} {o : HO} (hp : H p = none) : Ext T F al mu H F al mu (upd H p o) :=
  ⟨h.laidH hp, fun _ _ e => e, fun _ _ e => .inl e, fun a u e _ _ => by rw [upd_ne (ne_of_none e hp)]; exact e, there_upd (.inl hp), fun _ _ => rfl, Nat.le_refl _, fun k m e => .inl ⟨m, e⟩⟩
theorem Mus.F_none (h : Mus T F al mu H) {p : Addr} (hp : H p = none) : F p = none := by
  cases q : F p with
  | none => rfl
  | some u => rw [h.sub p u q] at hp; cases hp

/-! ### what a denotation's reading asks -/
/-- how an exception's fields stand -/
def ExR (T : Th) (F : Hp) (al : Nat → Addr) (n : Nat) (H : Hp) (d : Option Addr) (fs : List (Str × D)) : Prop :=
  fs = [] ∨ ∃ dx vs, d = some dx ∧ H dx = some (.xd vs) ∧ RpF T F al n vs fs
/-- the relation of what is handed on to what it stands for: the heap ahead, the frozen part, the store's places, the store, the heap -/
abbrev Rel (β α : Type) := Hp → Hp → (Nat → Addr) → Store → Hp → β → α → Prop
def Po {α β : Type} (T : Th) (W : WX) (F : Hp) (al : Nat → Addr) (mu : Store) (σ : St) (H : Hp) (R : Rel β α) (o : Out α) (Q : β → Hp → Prop) : Prop :=
  match o with
  | .ok d mu' => ∀ v F' al' H', Ext T F al mu H F' al' mu' H' → R H F' al' mu' H' v d → Q v H'
  | .ex c fs mu' => ∀ dx F' al' H', Ext T F al mu H F' al' mu' H' → ExR T F' al' mu'.length H' dx fs → W (.ref (T.cls c)) dx σ H'
  | .bad => False
def tG {α β : Type} (T : Th) (W : WX) (R : Rel β α) (f : Sl → Store → Out α) : St → Hp → (β → Hp → Prop) → Prop :=
  fun σ H Q => ∃ F al sl mu, Wd T F al sl mu σ H ∧ Po T W F al mu σ H R (f sl mu) Q
abbrev EF := Sl → Store → Out D
/-- data | a row of data | a new object | a truth value -/
def RD (T : Th) : Rel V D := fun _ F al mu _ v d => Rp T F al mu.length v d
def RLs (T : Th) : Rel (List V) (List D) := fun _ F al mu _ v d => RpL T F al mu.length v d
def RN (T : Th) : Rel V MO := fun H0 F al mu H v m => ∃ a o, v = .ref a ∧ Fre H0 a ∧ F a = none ∧ H a = some o ∧ Conc T F al mu.length o m ∧ ∀ k m', mu[k]? = some (some m') → al k ≠ a
def RB : Rel Bool Bool := fun _ _ _ _ _ v d => v = d
def obind {α β : Type} (o : Out α) (g : α → Store → Out β) : Out β :=
  match o with
  | .ok d mu => g d mu
  | .ex c fs mu => .ex c fs mu
  | .bad => .bad
/-- then -/
def dBind {α β : Type} (f : Sl → Store → Out α) (g : α → Sl → Store → Out β) : Sl → Store → Out β := fun sl mu => obind (f sl mu) fun d mu => g d sl mu
/-- a relation that does not mind an older heap ahead -/
def Back {α β : Type} (R : Rel β α) : Prop := ∀ H0 H1 F al mu H v d, (∀ a, Fre H1 a → Fre H0 a) → R H1 F al mu H v d → R H0 F al mu H v d
theorem back_RD : Back (RD T) := fun _ _ _ _ _ _ _ _ _ h => h
theorem back_RLs : Back (RLs T) := fun _ _ _ _ _ _ _ _ _ h => h
theorem back_RB : Back RB := fun _ _ _ _ _ _ _ _ _ h => h
theorem back_RN : Back (RN T) := fun _ _ _ _ _ _ _ _ e ⟨a, o, h1, h2, h3⟩ => ⟨a, o, h1, e a h2, h3⟩
section
variable {α β γ δ : Type} {W : WX} {R : Rel β α} {R2 : Rel δ γ}
theorem Po.step {o : Out γ} {Q : δ → Hp → Prop} (hb : Back R2) (x : Ext T F al mu H F1 al1 mu1 H1) (h : Po T W F al mu σ H R2 o Q) : Po T W F1 al1 mu1 σ H1 R2 o Q := by
  cases o with
  | ok d2 mu2 => exact fun v2 F2 al2 H2 x2 r => h v2 F2 al2 H2 (x.trans x2) (hb _ _ _ _ _ _ _ _ x.there r)
  | ex c fs mu2 => exact fun dx F2 al2 H2 x2 => h dx F2 al2 H2 (x.trans x2)
  | bad => exact h
/-- from a reading of a whole to that of its first part -/
theorem seqG (hb : Back R2) {f : Sl → Store → Out α} {o : Out γ} {g : α → Store → Out γ} {Q : δ → Hp → Prop} {P : β → Hp → Prop} (w : Wd T F al sl mu σ H) (h : Po T W F al mu σ H R2 o Q) (e : o = obind (f sl mu) g)
    (k : ∀ v d F1 al1 mu1 H1, Ext T F al mu H F1 al1 mu1 H1 → Wd T F1 al1 sl mu1 σ H1 → R H F1 al1 mu1 H1 v d → Po T W F1 al1 mu1 σ H1 R2 (g d mu1) Q → P v H1) : tG T W R f σ H P := by
  refine ⟨F, al, sl, mu, w, ?_⟩
  subst e
  cases q : f sl mu with
  | ok d mu1 =>
    rw [q] at h
    intro v F1 al1 H1 x r
    exact k v d F1 al1 mu1 H1 x (w.ext x) r (Po.step hb x (show Po T W F al mu σ H R2 (g d mu1) Q from h))
  | ex c fs mu1 => rw [q] at h; exact h
  | bad => rw [q] at h; exact h
theorem Po.here {d : α} {Q : β → Hp → Prop} {v : β} (h : Po T W F al mu σ H R (.ok d mu) Q) (m : Mus T F al mu H) (r : R H F al mu H v d) : Q v H := h v F al H (Ext.refl m) r
end
theorem PE.imp {X : Cx} {e : PySem.Expr} {t t' : TE} (h : PE X e t) (i : ∀ σ H Q, t' σ H Q → t σ H Q) : PE X e t' := ⟨fun pins s σ H Q I q => h.run pins s σ H Q I (i σ H Q q)⟩
theorem PT.imp {X : Cx} {e : PySem.Expr} {t t' : TT} (h : PT X e t) (i : ∀ σ H Q, t' σ H Q → t σ H Q) : PT X e t' := ⟨fun pins s σ H Q I q => h.run pins s σ H Q I (i σ H Q q)⟩
theorem PA.imp {X : Cx} {e : List PySem.Expr} {t t' : TA} (h : PA X e t) (i : ∀ σ H Q, t' σ H Q → t σ H Q) : PA X e t' := ⟨fun pos pins s σ H Q I q => h.run pos pins s σ H Q I (i σ H Q q)⟩
theorem PS.imp {X : Cx} {e : PySem.Stmt} {t t' : TS} (h : PS X e t) (i : ∀ D σ H, t' D σ H → t D σ H) : PS X e t' := ⟨fun pins s σ H D I q => h.run pins s σ H D I (i D σ H q)⟩
theorem PSs.imp {X : Cx} {e : List PySem.Stmt} {t t' : TS} (h : PSs X e t) (i : ∀ D σ H, t' D σ H → t D σ H) : PSs X e t' := ⟨fun pins s σ H D I q => h.run pins s σ H D I (i D σ H q)⟩

/-- a new object is frozen -/
def MO.d : MO → D
  | .lst l => .lst l
  | .dct l => .dct l
  | .ins c fs => .ins c fs
theorem Ext.freeze {a : Addr} {o : HO} (x : Ext T F al mu H F1 al1 mu1 H1) (h0 : Fre H a) (h1 : F1 a = none) (h2 : H1 a = some o) (nt : ∀ ps, o ≠ .tbl ps) (ne : ∀ k m', mu1[k]? = some (some m') → al1 k ≠ a) : Ext T F al mu H (upd F1 a o) al1 mu1 H1 := by
  have up : ∀ b u, F1 b = some u → upd F1 a o b = some u := fun b u e => by rw [upd_ne (ne_of_none e h1)]; exact e
  refine ⟨⟨fun b u e => ?_, fun k m e => ?_, x.mus.inj, x.mus.tab, nt_upd x.mus.nt nt⟩, fun b u e => up b u (x.sub b u e), fun b u e => ?_, x.keep, x.there, x.als, x.ln, x.fresh⟩
  · by_cases z : b = a
    · subst z; rw [upd_same] at e; cases e; exact h2
    · rw [upd_ne z] at e; exact x.mus.sub b u e
  · obtain ⟨g1, o', g2, g3⟩ := x.mus.at_ k m e
    exact ⟨by rw [upd_ne (ne k m e)]; exact g1, o', g2, g3.mono up (fun _ _ => rfl) (Nat.le_refl _)⟩
  · by_cases z : b = a
    · subst z; exact .inr (.inl h0)
    · rw [upd_ne z] at e; exact x.new b u e
theorem rp_freeze {n : Nat} {a : Addr} {o : HO} {m : MO} (h1 : F a = none) (h : Conc T F al n o m) (k : ∀ kvs, m ≠ .dct kvs) : Rp T (upd F a o) al n (.ref a) m.d := by
  have up : ∀ b u, F b = some u → upd F a o b = some u := fun b u e => by rw [upd_ne (ne_of_none e h1)]; exact e
  cases o <;> cases m <;> first
    | exact False.elim h
    | exact .lst upd_same (RpL.mono up (fun _ _ => rfl) (Nat.le_refl _) h)
    | (obtain ⟨⟨h2, h4⟩, h3⟩ := h; subst h2; exact .ins h4 upd_same (RpF.mono up (fun _ _ => rfl) (Nat.le_refl _) h3))
end DL
end

section
set_option Elab.async false
set_option linter.all false
set_option maxRecDepth 100000
set_option maxHeartbeats 4000000
/-! DC: expressions, tests, arguments. -/
namespace DL
open PySem L2

abbrev BF := Sl → Store → Out Bool
abbrev LF := Sl → Store → Out (List D)
abbrev NF := Sl → Store → Out MO
abbrev Cx.th (X : Cx) (cl : Nat → Addr) : Th := ⟨X.K, cl⟩
abbrev DE (X : Cx) (cl : Nat → Addr) (W : WX) (e : PySem.Expr) (f : EF) : Prop := PE X e (tG (Cx.th X cl) W (RD (Cx.th X cl)) f)
abbrev DN (X : Cx) (cl : Nat → Addr) (W : WX) (e : PySem.Expr) (f : NF) : Prop := PE X e (tG (Cx.th X cl) W (RN (Cx.th X cl)) f)
abbrev DAs (X : Cx) (cl : Nat → Addr) (W : WX) (e : List PySem.Expr) (f : LF) : Prop := PA X e (tG (Cx.th X cl) W (RLs (Cx.th X cl)) f)
abbrev DT (X : Cx) (cl : Nat → Addr) (W : WX) (e : PySem.Expr) (f : BF) : Prop := PT X e (tG (Cx.th X cl) W RB f)
abbrev DW (X : Cx) (cl : Nat → Addr) (W : WX) (e : PySem.Expr) (f : BF) : Prop := PW X e (tG (Cx.th X cl) W RB f)

/-! ### denotations -/
def dVar (i : Nat) : EF := fun sl mu => match sl[i]? with
  | some (some (.val d)) => .ok d mu
  | _ => .bad
def dC (d : D) : EF := fun _ mu => .ok d mu
def dNil : LF := fun _ mu => .ok [] mu
def dCons (f : EF) (g : LF) : LF := dBind f fun d => dBind g fun ds _ mu => .ok (d :: ds) mu
def dTup (g : LF) : EF := dBind g fun ds _ mu => .ok (.tup ds) mu
def dLst (g : LF) : NF := dBind g fun ds _ mu => .ok (.lst ds) mu
def dFrz (f : NF) : EF := dBind f fun m _ mu => match m with
  | .dct _ => .bad
  | m => .ok m.d mu
def dOp1 (g : D → Option D) (f : EF) : EF := dBind f fun d _ mu => match g d with
  | some r => .ok r mu
  | none => .bad
def dOp2 (g : D → D → Option D) (fa fb : EF) : EF := dBind fa fun x => dBind fb fun y _ mu => match g x y with
  | some r => .ok r mu
  | none => .bad
def dCmp (g : D → D → Option Bool) (fa fb : EF) : BF := dBind fa fun x => dBind fb fun y _ mu => match g x y with
  | some r => .ok r mu
  | none => .bad
def dB2v (f : BF) : EF := dBind f fun b _ mu => .ok (.bl b) mu
def dTst (f : EF) : BF := dBind f fun d _ mu => match d with
  | .bl b => .ok b mu
  | _ => .bad
def dAnd (f g : BF) : BF := dBind f fun b sl mu => if b = true then g sl mu else .ok false mu
def dOr (f g : BF) : BF := dBind f fun b sl mu => if b = true then .ok true mu else g sl mu
def dNot (f : BF) : BF := dBind f fun b _ mu => .ok (!b) mu
def dIf {α : Type} (c : BF) (f g : Sl → Store → Out α) : Sl → Store → Out α := dBind c fun b sl mu => if b = true then f sl mu else g sl mu

/-! ### names, constants -/
section
variable {X : Cx} {cl : Nat → Addr} {W : WX} {a b e : PySem.Expr} {es rest : List PySem.Expr} {fa fb f : EF} {pos : Pos}
theorem de_var {i : Nat} (h : PE X e (tVar i)) : DE X cl W e (dVar i) := by
  refine PE.imp h fun σ H Q q => ?_
  obtain ⟨F, al, sl, mu, w, po⟩ := q
  unfold dVar at po
  split at po
  · rename_i d hd
    obtain ⟨v, h1, h2⟩ := w.val i d hd
    exact ⟨v, h1, Po.here po w.toMus h2⟩
  · exact False.elim po
theorem de_c {v : V} {d : D} (h : PE X e (tC v)) (r : ∀ F al n, Rp (Cx.th X cl) F al n v d) : DE X cl W e (dC d) := by
  refine PE.imp h fun σ H Q q => ?_
  obtain ⟨F, al, sl, mu, w, po⟩ := q
  exact Po.here po w.toMus (r F al _)
theorem de_int {i : Int} {j : Nat} : DE X cl W (.Constant (.int i) j pos) (dC (.int i)) := de_c pe_int fun _ _ _ => .int i
theorem de_bl {i : Bool} {j : Nat} : DE X cl W (.Constant (.bool i) j pos) (dC (.bl i)) := de_c pe_bl fun _ _ _ => .bl i
theorem de_non {j : Nat} : DE X cl W (.Constant .none j pos) (dC .non) := de_c pe_non fun _ _ _ => .non
theorem de_str {x : Str} {j : Nat} : DE X cl W (.Constant (.str x) j pos) (dC (.str x)) := de_c pe_str fun _ _ _ => .str x

/-! ### arguments, displays -/
theorem da_nil : DAs X cl W [] dNil := PA.imp pa_nil fun σ H Q q => by
  obtain ⟨F, al, sl, mu, w, po⟩ := q
  exact Po.here po w.toMus .nil
theorem da_cons {g : LF} (ha : DE X cl W a fa) (hr : DAs X cl W es g) (hs : starEach (a :: es) X.env = (false, eval a X.env) :: starEach es X.env := by rfl) : DAs X cl W (a :: es) (dCons fa g) :=
  PA.imp (pa_cons ha hr hs) fun σ H Q q => by
    obtain ⟨F, al, sl, mu, w, po⟩ := q
    refine seqG back_RLs w po rfl fun v d F1 al1 mu1 H1 x1 w1 r1 po1 => ?_
    refine seqG back_RLs w1 po1 rfl fun vs ds F2 al2 mu2 H2 x2 w2 r2 po2 => ?_
    exact Po.here po2 w2.toMus (.cons (x2.rp r1) r2)
theorem RpL.len {T : Th} {F : Hp} {al : Nat → Addr} {n : Nat} : ∀ {vs : List V} {ds : List D}, RpL T F al n vs ds → vs.length = ds.length
  | [], [], _ => rfl
  | v :: vs, d :: ds, h => by
    cases h with
    | cons _ h2 => rw [List.length_cons, List.length_cons, RpL.len h2]
  | [], d :: ds, h => by cases h
  | v :: vs, [], h => by cases h
def Len (g : LF) (n : Nat) : Prop := ∀ sl mu ds mu', g sl mu = .ok ds mu' → ds.length = n
theorem len_nil : Len dNil 0 := fun sl mu ds mu' h => by cases h; rfl
theorem len_cons {g : LF} {n : Nat} (h : Len g n) : Len (dCons fa g) (n + 1) := fun sl mu ds mu' e => by
  unfold dCons dBind obind at e
  split at e
  · rename_i d mu1 _
    dsimp only at e
    split at e
    · rename_i ds1 mu2 e2
      cases e
      rw [List.length_cons, h _ _ _ _ e2]
    · cases e
    · cases e
  · cases e
  · cases e
theorem le_line {n : Nat} (h : n ≤ 10000) : n ≤ sizeLine := by rw [sizeLine_eq]; omega
theorem de_tup {g : LF} {n k : Nat} (ha : DAs X cl W es g) (hl : Len g n) (hn : n ≤ 10000 := by decide) : DE X cl W (.Tuple es k pos) (dTup g) :=
  PE.imp (pe_tup ha) fun σ H Q q => by
    obtain ⟨F, al, sl, mu, w, po⟩ := q
    refine ⟨F, al, sl, mu, w, ?_⟩
    unfold dTup dBind obind at po
    cases q : g sl mu with
    | ok ds mu1 =>
      rw [q] at po
      intro vs F1 al1 H1 x r
      refine ⟨by rw [RpL.len r, hl _ _ _ _ q]; exact le_line hn, fun p hp => ?_⟩
      have x2 := x.trans (Ext.laidF x.mus (o := .tup vs) hp)
      exact po _ _ _ _ x2 (.tup upd_same ((Ext.laidF x.mus hp).rpL r))
    | ex c fs mu1 => rw [q] at po; exact po
    | bad => rw [q] at po; exact po
theorem Mus.ne_laid {T : Th} {F : Hp} {al : Nat → Addr} {mu : Store} {H : Hp} {p : Addr} (m : Mus T F al mu H) (hp : H p = none) : ∀ k m', mu[k]? = some (some m') → al k ≠ p := fun k m' e z => by
  obtain ⟨_, o, h, _⟩ := m.at_ k m' e
  rw [z, hp] at h; cases h
theorem dn_lst {g : LF} {n : Nat} (ha : DAs X cl W es g) (hl : Len g n) (hn : n ≤ 10000 := by decide) : DN X cl W (.List es pos) (dLst g) :=
  PE.imp (pe_lst ha) fun σ H Q q => by
    obtain ⟨F, al, sl, mu, w, po⟩ := q
    refine ⟨F, al, sl, mu, w, ?_⟩
    unfold dLst dBind obind at po
    cases q : g sl mu with
    | ok ds mu1 =>
      rw [q] at po
      intro vs F1 al1 H1 x r
      refine ⟨by rw [RpL.len r, hl _ _ _ _ q]; exact le_line hn, fun p hp => ?_⟩
      have x2 := x.trans (Ext.laidH x.mus (o := .lst vs) hp)
      exact po _ _ _ _ x2 ⟨p, _, rfl, x.there p (.of hp), x.mus.F_none hp, upd_same, r, Mus.ne_laid x.mus hp⟩
    | ex c fs mu1 => rw [q] at po; exact po
    | bad => rw [q] at po; exact po
/-- a new object, frozen at once -/
theorem de_frz {f : NF} (h : DN X cl W e f) : DE X cl W e (dFrz f) := PE.imp h fun σ H Q q => by
  obtain ⟨F, al, sl, mu, w, po⟩ := q
  refine ⟨F, al, sl, mu, w, ?_⟩
  unfold dFrz dBind obind at po
  cases q : f sl mu with
  | ok m mu1 =>
    rw [q] at po
    intro v F1 al1 H1 x r
    obtain ⟨a, o, rfl, h0, h1, h2, h3, h4⟩ := r
    have x2 := x.freeze h0 h1 h2 h3.noTab.1 h4
    cases m with
    | dct kvs => exact False.elim po
    | lst l => exact po _ _ _ _ x2 (rp_freeze (m := .lst l) h1 h3 fun _ z => nomatch z)
    | ins c fs => exact po _ _ _ _ x2 (rp_freeze (m := .ins c fs) h1 h3 fun _ z => nomatch z)
  | ex c fs mu1 => rw [q] at po; exact po
  | bad => rw [q] at po; exact po

/-! ### operators -/
def Pur2 (T : Th) (r : R2) (g : D → D → Option D) : Prop := ∀ (F : Hp) (al : Nat → Addr) (mu : Store) (H : Hp), Mus T F al mu H → ∀ (x y : V) (d e res : D), Rp T F al mu.length x d → Rp T F al mu.length y e → g d e = some res → ∀ Q : VK,
  (∀ v F' H', Ext T F al mu H F' al mu H' → Rp T F' al mu.length v res → Q v H') → r x y H Q
def PurB (T : Th) (r : R2) (g : D → D → Option Bool) : Prop := ∀ (F : Hp) (al : Nat → Addr) (mu : Store) (H : Hp), Mus T F al mu H → ∀ (x y : V) (d e : D) (res : Bool), Rp T F al mu.length x d → Rp T F al mu.length y e → g d e = some res → ∀ Q : VK,
  Q (.bl res) H → r x y H Q
theorem tOp_of {r : R2} {g : D → D → Option D} (hr : Pur2 (Cx.th X cl) r g) {σ : St} {H : Hp} {Q : VK} (q : tG (Cx.th X cl) W (RD (Cx.th X cl)) (dOp2 g fa fb) σ H Q) : tOp r (tG (Cx.th X cl) W (RD (Cx.th X cl)) fa) (tG (Cx.th X cl) W (RD (Cx.th X cl)) fb) σ H Q := by
  obtain ⟨F, al, sl, mu, w, po⟩ := q
  refine seqG back_RD w po rfl fun v d F1 al1 mu1 H1 x1 w1 r1 po1 => ?_
  refine seqG back_RD w1 po1 rfl fun u e F2 al2 mu2 H2 x2 w2 r2 po2 => ?_
  dsimp only at po2
  cases z : g d e with
  | none => rw [z] at po2; exact False.elim po2
  | some res =>
    rw [z] at po2
    exact hr F2 al2 mu2 H2 w2.toMus v u d e res (x2.rp r1) r2 z Q fun v' F' H' x' r' => po2 v' F' al2 H' x' r'
theorem de_op {op : Operator} {r : R2} {g : D → D → Option D} (ho : OpR X (binaryOp op) r) (hr : Pur2 (Cx.th X cl) r g) (ha : DE X cl W a fa) (hb : DE X cl W b fb) : DE X cl W (.BinOp a op b pos) (dOp2 g fa fb) :=
  PE.imp (pe_op ho ha hb) fun σ H Q q => tOp_of hr q
theorem tCmp_of {r : R2} {g : D → D → Option Bool} (hr : PurB (Cx.th X cl) r g) {σ : St} {H : Hp} {Q : VK} (q : tG (Cx.th X cl) W (RD (Cx.th X cl)) (dB2v (dCmp g fa fb)) σ H Q) : tOp r (tG (Cx.th X cl) W (RD (Cx.th X cl)) fa) (tG (Cx.th X cl) W (RD (Cx.th X cl)) fb) σ H Q := by
  have q' : tG (Cx.th X cl) W (RD (Cx.th X cl)) (dOp2 (fun x y => (g x y).map D.bl) fa fb) σ H Q := by
    have e : dB2v (dCmp g fa fb) = dOp2 (fun x y => (g x y).map D.bl) fa fb := by
      funext sl mu
      unfold dB2v dCmp dOp2 dBind obind
      cases fa sl mu with
      | ok x mu1 =>
        dsimp only
        cases fb sl mu1 with
        | ok y mu2 => dsimp only; cases g x y <;> rfl
        | ex _ _ _ => rfl
        | bad => rfl
      | ex _ _ _ => rfl
      | bad => rfl
    rw [← e]; exact q
  refine tOp_of (g := fun x y => (g x y).map D.bl) (fun F al mu H m x y d e res rx ry z Q k => ?_) q'
  obtain ⟨b, h1, rfl⟩ := Option.map_eq_some_iff.mp z
  exact hr F al mu H m x y d e b rx ry h1 Q (k _ _ _ (Ext.refl m) (.bl b))
theorem de_cmp {op : CmpOp} {r : R2} {g : D → D → Option Bool} (ho : OpR X (compareOp op) r) (hm : behindInMarks op b = false) (hr : PurB (Cx.th X cl) r g) (ha : DE X cl W a fa) (hb : DE X cl W b fb) : DE X cl W (.Compare a [op] [b] pos) (dB2v (dCmp g fa fb)) :=
  PE.imp (pe_cmpR ho ha hb hm) fun σ H Q q => tCmp_of hr q

/-! ### tests -/
theorem tB2v {f : BF} {σ : St} {H : Hp} {Q : Bool → Hp → Prop} (q : tG (Cx.th X cl) W RB f σ H Q) : tG (Cx.th X cl) W (RD (Cx.th X cl)) (dB2v f) σ H fun x H' => ∃ c, x = .bl c ∧ Q c H' := by
  obtain ⟨F, al, sl, mu, w, po⟩ := q
  refine ⟨F, al, sl, mu, w, ?_⟩
  unfold dB2v dBind obind
  cases z : f sl mu with
  | ok b mu1 =>
    rw [z] at po
    intro v F1 al1 H1 x r
    cases r
    exact ⟨b, rfl, po b F1 al1 H1 x rfl⟩
  | ex c fs mu1 => rw [z] at po; exact po
  | bad => rw [z] at po; exact po
theorem tTst {f : EF} {σ : St} {H : Hp} {Q : Bool → Hp → Prop} (q : tG (Cx.th X cl) W RB (dTst f) σ H Q) : tG (Cx.th X cl) W (RD (Cx.th X cl)) f σ H fun x H' => ∃ c, x = .bl c ∧ Q c H' := by
  obtain ⟨F, al, sl, mu, w, po⟩ := q
  refine seqG back_RB w po rfl fun v d F1 al1 mu1 H1 x1 w1 r1 po1 => ?_
  cases d <;> first
    | exact False.elim po1
    | (cases r1; exact ⟨_, rfl, Po.here po1 w1.toMus rfl⟩)
theorem dt_cmp {f : BF} (h : DE X cl W e (dB2v f)) (he : ∀ whole, isTrue e X.env whole = (do let v ← whole; standAt e.pos; holding [v] (truthy v)) := by intro _; rfl) : DT X cl W e f := PT.imp (pt_val h he) fun σ H Q q => tB2v q
theorem dt_val {f : EF} (h : DE X cl W e f) (he : ∀ whole, isTrue e X.env whole = (do let v ← whole; standAt e.pos; holding [v] (truthy v)) := by intro _; rfl) : DT X cl W e (dTst f) := PT.imp (pt_val h he) fun σ H Q q => tTst q
theorem PW.imp {t t' : TT} (h : PW X e t) (i : ∀ σ H Q, t' σ H Q → t σ H Q) : PW X e t' := ⟨fun whole pins s σ H Q I q => h.run whole pins s σ H Q I (i σ H Q q)⟩
theorem dw_and1 {f : BF} (h : DT X cl W a f) : DW X cl W (.BoolOp .And [a] pos) f := pw_and1 h
theorem dw_or1 {f : BF} (h : DT X cl W a f) : DW X cl W (.BoolOp .Or [a] pos) f := pw_or1 h
theorem dw_and {f g : BF} (h : DT X cl W a f) (hr : DW X cl W (.BoolOp .And (b :: rest) pos) g) : DW X cl W (.BoolOp .And (a :: b :: rest) pos) (dAnd f g) :=
  PW.imp (pw_and h hr) fun σ H Q q => by
    obtain ⟨F, al, sl, mu, w, po⟩ := q
    refine seqG back_RB w po rfl fun v d F1 al1 mu1 H1 x1 w1 r1 po1 => ?_
    cases r1
    dsimp only at po1
    split
    · rename_i hb
      rw [if_pos hb] at po1
      exact ⟨_, _, _, _, w1, po1⟩
    · rename_i hb
      rw [if_neg hb] at po1
      exact Po.here po1 w1.toMus rfl
theorem dw_or {f g : BF} (h : DT X cl W a f) (hr : DW X cl W (.BoolOp .Or (b :: rest) pos) g) : DW X cl W (.BoolOp .Or (a :: b :: rest) pos) (dOr f g) :=
  PW.imp (pw_or h hr) fun σ H Q q => by
    obtain ⟨F, al, sl, mu, w, po⟩ := q
    refine seqG back_RB w po rfl fun v d F1 al1 mu1 H1 x1 w1 r1 po1 => ?_
    cases r1
    dsimp only at po1
    split
    · rename_i hb
      rw [if_pos hb] at po1
      exact Po.here po1 w1.toMus rfl
    · rename_i hb
      rw [if_neg hb] at po1
      exact ⟨_, _, _, _, w1, po1⟩
theorem dt_w {f : BF} (h : DW X cl W e f) : DT X cl W e f := PW.pt h
theorem dt_not {f : BF} (h : DT X cl W a f) : DT X cl W (.UnaryOp .Not a pos) (dNot f) := PT.imp (pt_not h) fun σ H Q q => by
  obtain ⟨F, al, sl, mu, w, po⟩ := q
  refine seqG back_RB w po rfl fun v d F1 al1 mu1 H1 x1 w1 r1 po1 => ?_
  cases r1
  exact Po.here po1 w1.toMus rfl
/-- the same as values -/
theorem de_one {op : PySem.BoolOp} {f : BF} (h : DE X cl W a (dB2v f)) : DE X cl W (.BoolOp op [a] pos) (dB2v f) := pe_one h
theorem tTst' {f : BF} {g : BF} {σ : St} {H : Hp} {Q : VK} {k : Bool → Bool → Prop} (q : tG (Cx.th X cl) W RB f σ H (fun c H' => Q (.bl c) H')) : tG (Cx.th X cl) W (RD (Cx.th X cl)) (dB2v f) σ H Q := by
  obtain ⟨F, al, sl, mu, w, po⟩ := tB2v q
  refine ⟨F, al, sl, mu, w, ?_⟩
  cases z : dB2v f sl mu with
  | ok d mu1 =>
    rw [z] at po
    intro v F1 al1 H1 x r
    obtain ⟨c, rfl, h⟩ := po v F1 al1 H1 x r
    exact h
  | ex c fs mu1 => rw [z] at po; exact po
  | bad => rw [z] at po; exact po
theorem tV2B {f : BF} {σ : St} {H : Hp} {Q : VK} (q : tG (Cx.th X cl) W (RD (Cx.th X cl)) (dB2v f) σ H Q) : tG (Cx.th X cl) W RB f σ H (fun c H' => Q (.bl c) H') := by
  obtain ⟨F, al, sl, mu, w, po⟩ := q
  refine ⟨F, al, sl, mu, w, ?_⟩
  unfold dB2v dBind obind at po
  cases z : f sl mu with
  | ok b mu1 =>
    rw [z] at po
    intro v F1 al1 H1 x r
    cases r
    exact po _ F1 al1 H1 x (.bl _)
  | ex c fs mu1 => rw [z] at po; exact po
  | bad => rw [z] at po; exact po
theorem de_and {f g : BF} (h : DE X cl W a (dB2v f)) (hr : DE X cl W (.BoolOp .And (b :: rest) pos) (dB2v g)) : DE X cl W (.BoolOp .And (a :: b :: rest) pos) (dB2v (dAnd f g)) :=
  PE.imp (pe_and h hr) fun σ H Q q => by
    obtain ⟨F, al, sl, mu, w, po⟩ := tV2B q
    refine tB2v (Q := fun c H' => if c = true then tG (Cx.th X cl) W (RD (Cx.th X cl)) (dB2v g) σ H' Q else Q (.bl false) H') ?_
    refine seqG back_RB w po rfl fun v d F1 al1 mu1 H1 x1 w1 r1 po1 => ?_
    cases r1
    dsimp only at po1
    split
    · rename_i hb
      rw [if_pos hb] at po1
      exact tTst' (g := g) (k := fun _ _ => True) ⟨_, _, _, _, w1, po1⟩
    · rename_i hb
      rw [if_neg hb] at po1
      exact Po.here (R := RB) (Q := fun c H' => Q (.bl c) H') po1 w1.toMus rfl
theorem de_or {f g : BF} (h : DE X cl W a (dB2v f)) (hr : DE X cl W (.BoolOp .Or (b :: rest) pos) (dB2v g)) : DE X cl W (.BoolOp .Or (a :: b :: rest) pos) (dB2v (dOr f g)) :=
  PE.imp (pe_or h hr) fun σ H Q q => by
    obtain ⟨F, al, sl, mu, w, po⟩ := tV2B q
    refine tB2v (Q := fun c H' => if c = true then Q (.bl true) H' else tG (Cx.th X cl) W (RD (Cx.th X cl)) (dB2v g) σ H' Q) ?_
    refine seqG back_RB w po rfl fun v d F1 al1 mu1 H1 x1 w1 r1 po1 => ?_
    cases r1
    dsimp only at po1
    split
    · rename_i hb
      rw [if_pos hb] at po1
      exact Po.here (R := RB) (Q := fun c H' => Q (.bl c) H') po1 w1.toMus rfl
    · rename_i hb
      rw [if_neg hb] at po1
      exact tTst' (g := g) (k := fun _ _ => True) ⟨_, _, _, _, w1, po1⟩
theorem de_not {f : BF} (h : DE X cl W a (dB2v f)) : DE X cl W (.UnaryOp .Not a pos) (dB2v (dNot f)) := PE.imp (pe_not h) fun σ H Q q => by
  obtain ⟨F, al, sl, mu, w, po⟩ := tV2B q
  refine tB2v (Q := fun c H' => Q (.bl (!c)) H') ?_
  refine seqG back_RB w po rfl fun v d F1 al1 mu1 H1 x1 w1 r1 po1 => ?_
  cases r1
  exact Po.here (R := RB) (Q := fun c H' => Q (.bl c) H') po1 w1.toMus rfl
/-- a call that gives a truth value, as an operand of and, or, not -/
theorem de_tst {f : EF} (h : DE X cl W e f) : DE X cl W e (dB2v (dTst f)) := PE.imp h fun σ H Q q => by
  obtain ⟨F, al, sl, mu, w, po⟩ := tV2B q
  refine seqG back_RB w po rfl fun v d F1 al1 mu1 H1 x1 w1 r1 po1 => ?_
  cases d <;> first
    | exact False.elim po1
    | (cases r1; exact Po.here (R := RB) (Q := fun c H' => Q (.bl c) H') po1 w1.toMus rfl)
theorem de_if {c : PySem.Expr} {f : BF} (hc : DT X cl W c f) (ha : DE X cl W a fa) (hb : DE X cl W b fb) : DE X cl W (.IfExp c a b pos) (dIf f fa fb) :=
  PE.imp (pe_ifExp hc ha hb) fun σ H Q q => by
    obtain ⟨F, al, sl, mu, w, po⟩ := q
    refine seqG back_RD w po rfl fun v d F1 al1 mu1 H1 x1 w1 r1 po1 => ?_
    cases r1
    dsimp only at po1
    split
    · rename_i hb
      rw [if_pos hb] at po1
      exact ⟨_, _, _, _, w1, po1⟩
    · rename_i hb
      rw [if_neg hb] at po1
      exact ⟨_, _, _, _, w1, po1⟩
end
end DL
end

section
set_option Elab.async false
set_option linter.all false
set_option maxRecDepth 100000
set_option maxHeartbeats 4000000
/-! DD: calls of defs, statements, loops. -/
namespace DL
open PySem L2

/-! ### what a def promises -/
abbrev FF := List D → Store → Out D
def spD (T : Th) (np : Nat) (p : FF) : Sp := fun vs H Q E => ∃ F al mu ds, Mus T F al mu H ∧ RpL T F al mu.length vs ds ∧ ds.length = np ∧ Po T (fun c d _ H' => E c d H') F al mu [] H (RD T) (p ds mu) Q
structure Gf (P : Program) (w : World) (K : PySem.W.Frag) (mg : Str → Option Value) (base : Heap) (cl : Nat → Addr) (k : Nat) (x : Str) (np : Nat) (p : FF) : Prop where
  ex : ∃ (f : Addr) (fd : FuncData) (ps : List Str), FnOk P w K mg base (L2.CX P w) k f fd ps (spD ⟨K, cl⟩ np p) ∧ mg x = some (.ref f) ∧ PySem.W.keepIn K (.ref f) = true ∧ L2.Binds K fd ps []
def dCall (p : FF) (g : LF) : EF := dBind g fun ds _ mu => p ds mu
section
variable {X : Cx} {cl : Nat → Addr} {W : WX} {a b e : PySem.Expr} {es rest : List PySem.Expr} {fa fb f : EF} {pos p1 : Pos} {k np : Nat} {x : Str} {p : FF}
theorem Po.wish {α β : Type} {T : Th} {W1 W2 : WX} {F : Hp} {al : Nat → Addr} {mu : Store} {σ τ : St} {H : Hp} {R : Rel β α} {o : Out α} {Q : β → Hp → Prop} (h : Po T W1 F al mu σ H R o Q) (i : ∀ c d H', W1 c d σ H' → W2 c d τ H') : Po T W2 F al mu τ H R o Q := by
  cases o with
  | ok d mu' => exact h
  | ex c fs mu' => exact fun dx F' al' H' x r => i _ _ _ (h dx F' al' H' x r)
  | bad => exact h
theorem de_call {g : LF} (c : Gf X.prog X.w X.K X.mg X.base cl k x np p) (hr : Room k X.A) (hg : Gl X x) (tk : Takes X W) (ha : DAs X cl W (e :: es) g) (hl : Len g np) (hdb : (x == ("__debug__" : Str)) = false := by decide)
    (he : starEach (e :: es) X.env = (false, eval e X.env) :: starEach es X.env := by rfl) (hpl : (backTo pos (starEach es X.env)).any (·.1) = false := by rfl) : DE X cl W (.Call (.Name x p1) (e :: es) [] pos) (dCall p g) := by
  obtain ⟨f, fd, ps, hf, hm, hk, hb⟩ := c.ex
  refine PE.imp (pe_callS (E := WE W) hf hr hg hm hk hb (passAt tk) ha hdb he hpl) fun σ H Q q => ?_
  obtain ⟨F, al, sl, mu, w, po⟩ := q
  refine ⟨F, al, sl, mu, w, ?_⟩
  unfold dCall dBind obind at po
  cases z : g sl mu with
  | ok ds mu1 =>
    rw [z] at po
    intro vs F1 al1 H1 x1 r1
    exact ⟨F1, al1, mu1, ds, x1.mus, r1, hl _ _ _ _ z, Po.wish (Po.step back_RD x1 po) fun _ _ _ h => h⟩
  | ex c fs mu1 => rw [z] at po; exact po
  | bad => rw [z] at po; exact po
end

/-! ### statements -/
abbrev SF := Sl → Store → OutS
/-- where the frame began -/
structure En where
  F : Hp
  al : Nat → Addr
  mu : Store
  H : Hp
def OwnNew (n : En) (sl : Sl) (σ : St) : Prop := ∀ (i : Nat) m a, sl[i]? = some (some (SV.own m)) → σ[i]? = some (some (V.ref a)) → Fre n.H a
structure W3 (T : Th) (n : En) (F : Hp) (al : Nat → Addr) (sl : Sl) (mu : Store) (σ : St) (H : Hp) : Prop where
  x : Ext T n.F n.al n.mu n.H F al mu H
  w : Wd T F al sl mu σ H
  o : OwnNew n sl σ
/-- the frozen part grows, the store's places stay -/
structure Gr (F : Hp) (al : Nat → Addr) (mu : Store) (F' : Hp) (al' : Nat → Addr) (mu' : Store) : Prop where
  sub : ∀ a o, F a = some o → F' a = some o
  als : ∀ k, k < mu.length → al' k = al k
  ln : mu.length ≤ mu'.length
theorem Gr.refl {F : Hp} {al : Nat → Addr} {mu : Store} : Gr F al mu F al mu := ⟨fun _ _ h => h, fun _ _ => rfl, Nat.le_refl _⟩
theorem Gr.trans {F F1 F2 : Hp} {al al1 al2 : Nat → Addr} {mu mu1 mu2 : Store} (a : Gr F al mu F1 al1 mu1) (b : Gr F1 al1 mu1 F2 al2 mu2) : Gr F al mu F2 al2 mu2 :=
  ⟨fun x o h => b.sub x o (a.sub x o h), fun k h => (b.als k (Nat.lt_of_lt_of_le h a.ln)).trans (a.als k h), Nat.le_trans a.ln b.ln⟩
theorem Ext.gr {T : Th} {F F1 H H1 : Hp} {al al1 : Nat → Addr} {mu mu1 : Store} (x : Ext T F al mu H F1 al1 mu1 H1) : Gr F al mu F1 al1 mu1 := ⟨x.sub, x.als, x.ln⟩
def PoS (T : Th) (W : WX) (n : En) (F : Hp) (al : Nat → Addr) (mu : Store) (Z : Ends) (o : OutS) : Prop :=
  match o with
  | .nx sl' mu' => ∀ σ' F' al' H', Gr F al mu F' al' mu' → W3 T n F' al' sl' mu' σ' H' → Z.nx σ' H'
  | .bk sl' mu' => ∀ σ' F' al' H', Gr F al mu F' al' mu' → W3 T n F' al' sl' mu' σ' H' → Z.bk σ' H'
  | .ct sl' mu' => ∀ σ' F' al' H', Gr F al mu F' al' mu' → W3 T n F' al' sl' mu' σ' H' → Z.ct σ' H'
  | .rt d mu' => ∀ v F' al' H', Gr F al mu F' al' mu' → Ext T n.F n.al n.mu n.H F' al' mu' H' → Rp T F' al' mu'.length v d → Z.rt v H'
  | .ex c fs sl' mu' => ∀ dx σ' F' al' H', Gr F al mu F' al' mu' → W3 T n F' al' sl' mu' σ' H' → ExR T F' al' mu'.length H' dx fs → W (.ref (T.cls c)) dx σ' H'
  | .bad => False
def tS (T : Th) (W : WX) (n : En) (g : SF) : TS := fun Z σ H => ∃ F al sl mu, W3 T n F al sl mu σ H ∧ PoS T W n F al mu Z (g sl mu)
abbrev DS (X : Cx) (cl : Nat → Addr) (W : WX) (n : En) (st : PySem.Stmt) (g : SF) : Prop := PS X st (tS (Cx.th X cl) W n g)
abbrev DSs (X : Cx) (cl : Nat → Addr) (W : WX) (n : En) (st : List PySem.Stmt) (g : SF) : Prop := PSs X st (tS (Cx.th X cl) W n g)
def sbind {α : Type} (o : Out α) (sl : Sl) (g : α → Store → OutS) : OutS :=
  match o with
  | .ok d mu => g d mu
  | .ex c fs mu => .ex c fs sl mu
  | .bad => .bad
section
variable {T : Th} {W : WX} {n : En} {F F1 H H1 : Hp} {al al1 : Nat → Addr} {mu mu1 : Store} {sl : Sl} {σ : St} {Z : Ends}
theorem W3.ext (w : W3 T n F al sl mu σ H) (x : Ext T F al mu H F1 al1 mu1 H1) : W3 T n F1 al1 sl mu1 σ H1 := ⟨w.x.trans x, w.w.ext x, w.o⟩
theorem PoS.step {o : OutS} (g : Gr F al mu F1 al1 mu1) (h : PoS T W n F al mu Z o) : PoS T W n F1 al1 mu1 Z o := by
  cases o with
  | nx sl' mu' => exact fun σ' F' al' H' g' => h σ' F' al' H' (g.trans g')
  | bk sl' mu' => exact fun σ' F' al' H' g' => h σ' F' al' H' (g.trans g')
  | ct sl' mu' => exact fun σ' F' al' H' g' => h σ' F' al' H' (g.trans g')
  | rt d mu' => exact fun v F' al' H' g' => h v F' al' H' (g.trans g')
  | ex c fs sl' mu' => exact fun dx σ' F' al' H' g' => h dx σ' F' al' H' (g.trans g')
  | bad => exact h
/-- an expression ahead of the rest of a statement -/
theorem seqS {α β : Type} {R : Rel β α} {f : Sl → Store → Out α} {o : OutS} {g : α → Store → OutS} {P : β → Hp → Prop} (w : W3 T n F al sl mu σ H) (h : PoS T W n F al mu Z o) (e : o = sbind (f sl mu) sl g)
    (k : ∀ v d F1 al1 mu1 H1, Ext T F al mu H F1 al1 mu1 H1 → W3 T n F1 al1 sl mu1 σ H1 → R H F1 al1 mu1 H1 v d → PoS T W n F1 al1 mu1 Z (g d mu1) → P v H1) : tG T W R f σ H P := by
  refine ⟨F, al, sl, mu, w.w, ?_⟩
  subst e
  cases q : f sl mu with
  | ok d mu1 =>
    rw [q] at h
    intro v F1 al1 H1 x r
    exact k v d F1 al1 mu1 H1 x (w.ext x) r (PoS.step x.gr (show PoS T W n F al mu Z (g d mu1) from h))
  | ex c fs mu1 =>
    rw [q] at h
    intro dx F1 al1 H1 x r
    exact h dx σ F1 al1 H1 x.gr (w.ext x) r
  | bad => rw [q] at h; exact h
theorem PoS.nx {sl' : Sl} {mu' : Store} (h : PoS T W n F al mu Z (.nx sl' mu')) {σ' : St} (w : W3 T n F al sl' mu' σ' H) (e : mu.length ≤ mu'.length := by exact Nat.le_refl _) : Z.nx σ' H := h σ' F al H ⟨fun _ _ h => h, fun _ _ => rfl, e⟩ w
/-- another end -/
theorem PoS.ends {o : OutS} {Z' : Ends} (h : PoS T W n F al mu Z o) (h1 : ∀ σ H, Z.nx σ H → Z'.nx σ H) (h2 : ∀ v H, Z.rt v H → Z'.rt v H) (h3 : ∀ σ H, Z.bk σ H → Z'.bk σ H) (h4 : ∀ σ H, Z.ct σ H → Z'.ct σ H) : PoS T W n F al mu Z' o := by
  cases o with
  | nx sl' mu' => exact fun σ' F' al' H' g w => h1 _ _ (h σ' F' al' H' g w)
  | bk sl' mu' => exact fun σ' F' al' H' g w => h3 _ _ (h σ' F' al' H' g w)
  | ct sl' mu' => exact fun σ' F' al' H' g w => h4 _ _ (h σ' F' al' H' g w)
  | rt d mu' => exact fun v F' al' H' g w r => h2 _ _ (h v F' al' H' g w r)
  | ex c fs sl' mu' => exact h
  | bad => exact h
end

/-! ### denotations of statements -/
def sSkip : SF := fun sl mu => .nx sl mu
def sExpr (f : EF) : SF := fun sl mu => sbind (f sl mu) sl fun _ mu => .nx sl mu
def sAsg (i : Nat) (f : EF) : SF := fun sl mu => sbind (f sl mu) sl fun d mu => .nx (sl.set i (some (.val d))) mu
def sOwn (i : Nat) (f : NF) : SF := fun sl mu => sbind (f sl mu) sl fun m mu => .nx (sl.set i (some (.own m))) mu
def sRet (f : EF) : SF := fun sl mu => sbind (f sl mu) sl fun d mu => .rt d mu
def sIf (c : BF) (s t : SF) : SF := fun sl mu => sbind (c sl mu) sl fun b mu => if b = true then s sl mu else t sl mu
def snext (o : OutS) (t : SF) : OutS := match o with
  | .nx sl mu => t sl mu
  | o => o
def sSeq (s t : SF) : SF := fun sl mu => snext (s sl mu) t
section
variable {T : Th} {W : WX} {n : En} {F F1 H H0 H1 : Hp} {al al1 : Nat → Addr} {mu mu1 : Store} {sl : Sl} {σ : St} {Z : Ends}
theorem set_get {α : Type} {l : List (Option α)} {i j : Nat} {x : Option α} {y : α} (h : (l.set i x)[j]? = some (some y)) : (i = j ∧ x = some y ∧ i < l.length) ∨ (i ≠ j ∧ l[j]? = some (some y)) := by
  rw [List.getElem?_set] at h
  split at h
  · rename_i e
    split at h
    · rename_i hl
      cases h
      exact .inl ⟨e, rfl, hl⟩
    · cases h
  · rename_i e
    exact .inr ⟨e, h⟩
/-- data into a slot -/
theorem Wd.setVal (w : Wd T F al sl mu σ H) {i : Nat} {v : V} {d : D} (r : Rp T F al mu.length v d) : Wd T F al (sl.set i (some (.val d))) mu (σ.set i (some v)) H where
  toMus := w.toMus
  len := by rw [List.length_set, List.length_set]; exact w.len
  val := fun j d' e => by
    rcases set_get e with ⟨rfl, h, hl⟩ | ⟨ne, h⟩
    · cases h
      exact ⟨v, List.getElem?_set_self (by rw [w.len]; exact hl), r⟩
    · obtain ⟨v', h1, h2⟩ := w.val j d' h
      exact ⟨v', by rw [List.getElem?_set_ne ne]; exact h1, h2⟩
  own := fun j m e => by
    rcases set_get e with ⟨_, h, _⟩ | ⟨ne, h⟩
    · cases h
    · obtain ⟨a, o, h1, h2⟩ := w.own j m h
      exact ⟨a, o, by rw [List.getElem?_set_ne ne]; exact h1, h2⟩
  apart := fun j k m m' a ne e1 e2 g1 g2 => by
    rcases set_get e1 with ⟨_, h, _⟩ | ⟨n1, h1⟩
    · cases h
    · rcases set_get e2 with ⟨_, h, _⟩ | ⟨n2, h2⟩
      · cases h
      · rw [List.getElem?_set_ne n1] at g1
        rw [List.getElem?_set_ne n2] at g2
        exact w.apart j k m m' a ne h1 h2 g1 g2
theorem OwnNew.setVal (o : OwnNew n sl σ) {i : Nat} {v : V} {d : D} : OwnNew n (sl.set i (some (.val d))) (σ.set i (some v)) := fun j m a e g => by
  rcases set_get e with ⟨_, h, _⟩ | ⟨ne, h⟩
  · cases h
  · rw [List.getElem?_set_ne ne] at g
    exact o j m a h g
theorem W3.setVal (w : W3 T n F al sl mu σ H) {i : Nat} {v : V} {d : D} (r : Rp T F al mu.length v d) : W3 T n F al (sl.set i (some (.val d))) mu (σ.set i (some v)) H := ⟨w.x, w.w.setVal r, w.o.setVal⟩
/-- a new object into a slot -/
theorem Wd.setOwn (w : Wd T F al sl mu σ H) (hs : ∀ (j : Nat) m a, sl[j]? = some (some (SV.own m)) → σ[j]? = some (some (V.ref a)) → ¬ Fre H0 a) {i : Nat} {v : V} {m : MO} (r : RN T H0 F al mu H v m) : Wd T F al (sl.set i (some (.own m))) mu (σ.set i (some v)) H where
  toMus := w.toMus
  len := by rw [List.length_set, List.length_set]; exact w.len
  val := fun j d' e => by
    rcases set_get e with ⟨_, h, _⟩ | ⟨ne, h⟩
    · cases h
    · obtain ⟨v', h1, h2⟩ := w.val j d' h
      exact ⟨v', by rw [List.getElem?_set_ne ne]; exact h1, h2⟩
  own := fun j m' e => by
    rcases set_get e with ⟨rfl, h, hl⟩ | ⟨ne, h⟩
    · cases h
      obtain ⟨a, o, rfl, h0, h1, h2, h3, h4⟩ := r
      exact ⟨a, o, List.getElem?_set_self (by rw [w.len]; exact hl), h1, h2, h3, h4⟩
    · obtain ⟨a, o, h1, h2⟩ := w.own j m' h
      exact ⟨a, o, by rw [List.getElem?_set_ne ne]; exact h1, h2⟩
  apart := fun j k m1 m2 a ne e1 e2 g1 g2 => by
    obtain ⟨b, o, rfl, h0, _⟩ := r
    rcases set_get e1 with ⟨rfl, h, hl⟩ | ⟨n1, h1⟩
    · rcases set_get e2 with ⟨rfl, _, _⟩ | ⟨n2, h2⟩
      · exact ne rfl
      · rw [List.getElem?_set_self (by rw [w.len]; exact hl)] at g1
        rw [List.getElem?_set_ne n2] at g2
        cases g1
        exact hs k m2 a h2 g2 h0
    · rcases set_get e2 with ⟨rfl, h, hl⟩ | ⟨n2, h2⟩
      · rw [List.getElem?_set_self (by rw [w.len]; exact hl)] at g2
        rw [List.getElem?_set_ne n1] at g1
        cases g2
        exact hs j m1 a h1 g1 h0
      · rw [List.getElem?_set_ne n1] at g1
        rw [List.getElem?_set_ne n2] at g2
        exact w.apart j k m1 m2 a ne h1 h2 g1 g2
theorem Wd.ownThere (w : Wd T F al sl mu σ H) : ∀ (j : Nat) m a, sl[j]? = some (some (SV.own m)) → σ[j]? = some (some (V.ref a)) → ¬ Fre H a := fun j m a e g z => by
  obtain ⟨b, o, h1, _, h2, h3, _⟩ := w.own j m e
  rw [g] at h1; cases h1
  exact z.no h2 h3.noTab.1
theorem W3.setOwn (w0 : W3 T n F al sl mu σ H) (x : Ext T F al mu H F1 al1 mu1 H1) {i : Nat} {v : V} {m : MO} (r : RN T H F1 al1 mu1 H1 v m) : W3 T n F1 al1 (sl.set i (some (.own m))) mu1 (σ.set i (some v)) H1 := by
  have w := w0.ext x
  refine ⟨w.x, w.w.setOwn w0.w.ownThere r, fun j m' a e g => ?_⟩
  rcases set_get e with ⟨rfl, h, hl⟩ | ⟨ne, h⟩
  · obtain ⟨b, o, rfl, h0, _⟩ := r
    rw [List.getElem?_set_self (by rw [w.w.len]; exact hl)] at g
    cases g
    exact w0.x.there a h0
  · rw [List.getElem?_set_ne ne] at g
    exact w.o j m' a h g
/-- a slot's own object is frozen -/
theorem W3.freeze (w : W3 T n F al sl mu σ H) {i : Nat} {m : MO} (e : sl[i]? = some (some (.own m))) (hm : ∀ kvs, m ≠ .dct kvs) : ∃ F', Gr F al mu F' al mu ∧ W3 T n F' al (sl.set i (some (.val m.d))) mu σ H := by
  obtain ⟨a, o, h1, h2, h3, h4, h5⟩ := w.w.own i m e
  have x2 := w.x.freeze (w.o i m a e h1) h2 h3 h4.noTab.1 h5
  have up : ∀ b u, F b = some u → upd F a o b = some u := fun b u q => by rw [upd_ne (ne_of_none q h2)]; exact q
  refine ⟨upd F a o, ⟨up, fun _ _ => rfl, Nat.le_refl _⟩, x2, ⟨x2.mus, by rw [List.length_set]; exact w.w.len, fun j d q => ?_, fun j m' q => ?_, fun j k m1 m2 b ne e1 e2 g1 g2 => ?_⟩, fun j m' b q g => ?_⟩
  · rcases set_get q with ⟨rfl, h, hl⟩ | ⟨ne, h⟩
    · cases h
      exact ⟨_, h1, rp_freeze h2 h4 hm⟩
    · obtain ⟨v, g1, g2⟩ := w.w.val j d h
      exact ⟨v, g1, g2.mono up (fun _ _ => rfl) (Nat.le_refl _)⟩
  · rcases set_get q with ⟨_, h, _⟩ | ⟨ne, h⟩
    · cases h
    · obtain ⟨b, u, g1, g2, g3, g4, g5⟩ := w.w.own j m' h
      refine ⟨b, u, g1, ?_, g3, g4.mono up (fun _ _ => rfl) (Nat.le_refl _), g5⟩
      have : b ≠ a := fun z => w.w.apart i j m m' a ne e h h1 (by rw [← z]; exact g1)
      rw [upd_ne this]; exact g2
  · rcases set_get e1 with ⟨_, h, _⟩ | ⟨_, k1⟩
    · cases h
    · rcases set_get e2 with ⟨_, h, _⟩ | ⟨_, k2⟩
      · cases h
      · exact w.w.apart j k m1 m2 b ne k1 k2 g1 g2
  · rcases set_get q with ⟨_, h, _⟩ | ⟨_, h⟩
    · cases h
    · exact w.o j m' b h g
/-- a slot's own object is changed -/
theorem W3.upd (w : W3 T n F al sl mu σ H) {i : Nat} {m m' : MO} {a : Addr} {o : HO} (e : sl[i]? = some (some (.own m))) (ha : σ[i]? = some (some (V.ref a))) (c : Conc T F al mu.length o m') : W3 T n F al (sl.set i (some (.own m'))) mu σ (upd H a o) := by
  obtain ⟨a', o', h1, h2, h3, h4, h5⟩ := w.w.own i m e
  rw [ha] at h1; cases h1
  have h0 : Fre n.H a := w.o i m a e ha
  have hl : i < sl.length := (List.getElem?_eq_some_iff.mp e).1
  have M : Mus T F al mu (L2.upd H a o) := ⟨fun b u q => by rw [upd_ne (ne_of_none q h2)]; exact w.w.sub b u q, fun k m q => by
    obtain ⟨g1, u, g2, g3⟩ := w.w.at_ k m q
    exact ⟨g1, u, by rw [upd_ne (h5 k m q)]; exact g2, g3⟩, w.w.inj, fun i z => tab_upd (.inr ⟨_, h3, h4.noTab⟩) (w.w.tab i z), w.w.nt⟩
  refine ⟨⟨M, w.x.sub, w.x.new, fun b u q tt z => ?_, fun b q => w.x.there b (there_upd (.inr c.noTab.1) b q), w.x.als, w.x.ln, w.x.fresh⟩, ⟨M, by rw [List.length_set]; exact w.w.len, fun j d q => ?_, fun j m2 q => ?_, fun j k m1 m2 b ne e1 e2 g1 g2 => ?_⟩, fun j m2 b q g => ?_⟩
  · rw [upd_ne fun (g : b = a) => h0.no (g ▸ q) tt]; exact w.x.keep b u q tt z
  · rcases set_get q with ⟨_, h, _⟩ | ⟨_, h⟩
    · cases h
    · exact w.w.val j d h
  · rcases set_get q with ⟨rfl, h, _⟩ | ⟨ne, h⟩
    · cases h
      exact ⟨a, o, ha, h2, upd_same, c, h5⟩
    · obtain ⟨b, u, g1, g2, g3, g4, g5⟩ := w.w.own j m2 h
      have : b ≠ a := fun z => w.w.apart i j m m2 a ne e h ha (by rw [← z]; exact g1)
      exact ⟨b, u, g1, g2, by rw [upd_ne this]; exact g3, g4, g5⟩
  · have own_of : ∀ {j : Nat} {m1 : MO}, (sl.set i (some (SV.own m')))[j]? = some (some (SV.own m1)) → ∃ m0, sl[j]? = some (some (SV.own m0)) := fun {j m1} q => by
      rcases set_get q with ⟨rfl, _, _⟩ | ⟨_, h⟩
      · exact ⟨m, e⟩
      · exact ⟨m1, h⟩
    obtain ⟨p1, k1⟩ := own_of e1
    obtain ⟨p2, k2⟩ := own_of e2
    exact w.w.apart j k p1 p2 b ne k1 k2 g1 g2
  · rcases set_get q with ⟨rfl, _, _⟩ | ⟨_, h⟩
    · exact w.o _ m b e g
    · exact w.o j m2 b h g
end
end DL
end

section
set_option Elab.async false
set_option linter.all false
set_option maxRecDepth 100000
set_option maxHeartbeats 4000000
/-! DF: the rules of statements, loops, defs. -/
namespace DL
open PySem L2
section
variable {X : Cx} {cl : Nat → Addr} {W : WX} {n : En} {a b e : PySem.Expr} {es : List PySem.Expr} {st : PySem.Stmt} {sts : List PySem.Stmt} {f : EF} {s t : SF} {pos p1 : Pos} {x : Str}
theorem ds_expr (he : DE X cl W e f) (hs : swapsWith e none pos.line X.env = pure false := by rfl) : DS X cl W n (.Expr e pos) (sExpr f) := PS.imp (ps_expr he hs) fun Z σ H q => by
  obtain ⟨F, al, sl, mu, w, po⟩ := q
  exact seqS w po rfl fun v d F1 al1 mu1 H1 x1 w1 r1 po1 => PoS.nx po1 w1
theorem ds_asg {i : Nat} {p' : Pos} (hN : X.N.Nodup) (hi : X.N[i]? = some x) (hx : Loc X.env.scope x) (he : DE X cl W e f) (hs : swapsWith e (some (.Name x p')) pos.line X.env = pure false := by rfl)
    (hf : X.fn x = true ∨ X.env.scope.names.lookup x = some .local := by first | exact .inl rfl | exact .inr rfl | assumption) : DS X cl W n (.Assign [.Name x p'] e pos) (sAsg i f) := PS.imp (ps_set hN hi hx he hs hf) fun Z σ H q => by
  obtain ⟨F, al, sl, mu, w, po⟩ := q
  exact seqS w po rfl fun v d F1 al1 mu1 H1 x1 w1 r1 po1 => PoS.nx po1 (w1.setVal r1)
theorem ds_ret (he : DE X cl W e f) : DS X cl W n (.Return (some e) pos) (sRet f) := PS.imp (ps_ret he) fun Z σ H q => by
  obtain ⟨F, al, sl, mu, w, po⟩ := q
  exact seqS w po rfl fun v d F1 al1 mu1 H1 x1 w1 r1 po1 => po1 v F1 al1 H1 Gr.refl w1.x r1
theorem ds_if {c : BF} (hc : DT X cl W e c) (ha : DSs X cl W n sts s) {ss : List PySem.Stmt} (hb : DSs X cl W n ss t) : DS X cl W n (.If e sts ss pos) (sIf c s t) := PS.imp (ps_if hc ha hb) fun Z σ H q => by
  obtain ⟨F, al, sl, mu, w, po⟩ := q
  refine seqS w po rfl fun v d F1 al1 mu1 H1 x1 w1 r1 po1 => ?_
  cases r1
  split
  · rename_i hb
    rw [if_pos hb] at po1
    exact ⟨_, _, _, _, w1, po1⟩
  · rename_i hb
    rw [if_neg hb] at po1
    exact ⟨_, _, _, _, w1, po1⟩
theorem dss_nil : DSs X cl W n [] sSkip := PSs.imp pss_nil fun Z σ H q => by
  obtain ⟨F, al, sl, mu, w, po⟩ := q
  exact PoS.nx po w
theorem dss_one (h : DS X cl W n st s) : DSs X cl W n [st] s := pss_one h
theorem dss_cons (h : DS X cl W n st s) (hr : DSs X cl W n sts t) : DSs X cl W n (st :: sts) (sSeq s t) := PSs.imp (pss_cons h hr) fun Z σ H q => by
  obtain ⟨F, al, sl, mu, w, po⟩ := q
  refine ⟨F, al, sl, mu, w, ?_⟩
  unfold sSeq snext at po
  cases z : s sl mu with
  | nx sl' mu' =>
    rw [z] at po
    exact fun σ' F' al' H' g w' => ⟨F', al', sl', mu', w', PoS.step g po⟩
  | rt d mu' => rw [z] at po; exact po
  | bk sl' mu' => rw [z] at po; exact po
  | ct sl' mu' => rw [z] at po; exact po
  | ex c fs sl' mu' => rw [z] at po; exact po
  | bad => rw [z] at po; exact po
end

/-! ### loops -/
/-- what is walked: its items -/
def RI (T : Th) : Rel It (List D) := fun _ F al mu _ J ds => ∃ (G : Hp → Prop) (Y : Nat → Hp → V → Hp → Prop), Walk J ds.length G Y ∧
  (∀ (F' H' : Hp), (∀ a o, F a = some o → F' a = some o) → (∀ a o, F' a = some o → H' a = some o) → G H') ∧
  ∀ (F' : Hp) (al' : Nat → Addr) (mu' : Store) (H' : Hp) (i : Nat) (x : V) (H2 : Hp), Gr F al mu F' al' mu' → Mus T F' al' mu' H' → i < ds.length → Y i H' x H2 → ∃ d F2, ds[i]? = some d ∧ Ext T F' al' mu' H' F2 al' mu' H2 ∧ Rp T F2 al' mu'.length x d
abbrev DI (X : Cx) (cl : Nat → Addr) (W : WX) (tg e : PySem.Expr) (f : LF) : Prop := PI X tg e (tG (Cx.th X cl) W (RI (Cx.th X cl)) f)
/-- a target: a name; names of a tuple, of a list -/
inductive Tg where
  | nm (i : Nat) | tp (is : List Nat) | ls (is : List Nat)
def Tg.ix : Tg → List Nat
  | .nm i => [i]
  | .tp is => is
  | .ls is => is
def gSets : List Nat → List D → Sl → Option Sl
  | [], [], sl => some sl
  | i :: is, d :: ds, sl => gSets is ds (sl.set i (some (.val d)))
  | _, _, _ => none
def Tg.run : Tg → D → Sl → Option Sl
  | .nm i, d, sl => some (sl.set i (some (.val d)))
  | .tp is, d, sl => match d with
    | .tup ds => gSets is ds sl
    | _ => none
  | .ls is, d, sl => match d with
    | .lst ds => gSets is ds sl
    | _ => none
/-- the slots changed at is alone -/
def AtIx (is : List Nat) (σ σ' : St) : Prop := ∀ vs : List Nat, (∀ i ∈ is, i ∈ vs) → wipe σ' vs = wipe σ vs
def tTgt (T : Th) (g : Tg) : TG := fun v σ H Q => ∃ F al sl mu d sl', Wd T F al sl mu σ H ∧ Rp T F al mu.length v d ∧ g.run d sl = some sl' ∧ ∀ σ', Wd T F al sl' mu σ' H → (∀ n, OwnNew n sl σ → OwnNew n sl' σ') → AtIx g.ix σ σ' → Q σ' H
abbrev DG (X : Cx) (cl : Nat → Addr) (tg : PySem.Expr) (g : Tg) : Prop := PG X tg (tTgt (Cx.th X cl) g)
theorem wipe_set {i : Nat} {x : Option V} : ∀ {vs : List Nat} {σ : St}, i ∈ vs → wipe (σ.set i x) vs = wipe σ vs
  | [], _, h => by cases h
  | v :: vs, σ, h => by
    show (wipe (σ.set i x) vs).set v none = (wipe σ vs).set v none
    by_cases hm : i ∈ vs
    · rw [wipe_set hm]
    · have e : i = v := by
        rcases List.mem_cons.mp h with h | h
        · exact h
        · exact absurd h hm
      subst e
      have key : ∀ (vs : List Nat) (σ : St), i ∉ vs → wipe (σ.set i x) vs = (wipe σ vs).set i x := by
        intro vs
        induction vs with
        | nil => intro σ _; rfl
        | cons w ws ih =>
          intro σ hn
          show (wipe (σ.set i x) ws).set w none = ((wipe σ ws).set w none).set i x
          rw [ih σ fun q => hn (List.mem_cons_of_mem _ q)]
          rw [List.set_comm]
          intro e
          exact hn (by rw [e]; exact List.mem_cons_self)
      rw [key vs σ hm, List.set_set]
theorem AtIx.set {i : Nat} {x : Option V} {σ : St} : AtIx [i] σ (σ.set i x) := fun vs h => wipe_set (h i List.mem_cons_self)
theorem AtIx.refl {σ : St} {is : List Nat} : AtIx is σ σ := fun _ _ => rfl
def tTgts (T : Th) (is : List Nat) : TGs := fun vs σ H Q => ∃ F al sl mu ds sl', Wd T F al sl mu σ H ∧ RpL T F al mu.length vs ds ∧ gSets is ds sl = some sl' ∧ ∀ σ', Wd T F al sl' mu σ' H → (∀ n, OwnNew n sl σ → OwnNew n sl' σ') → AtIx is σ σ' → Q σ' H
section
variable {X : Cx} {cl : Nat → Addr} {W : WX} {n : En} {a b e tg : PySem.Expr} {es : List PySem.Expr} {pos : Pos} {x : Str}
theorem PG.imp {t t' : TG} (h : PG X e t) (i : ∀ v σ H Q, t' v σ H Q → t v σ H Q) : PG X e t' := ⟨fun pins s σ H v u Q I r q => h.run pins s σ H v u Q I r (i v σ H Q q)⟩
theorem PGs.imp {t t' : TGs} (h : PGs X es t) (i : ∀ v σ H Q, t' v σ H Q → t v σ H Q) : PGs X es t' := ⟨fun pins s σ H v u Q I r q => h.run pins s σ H v u Q I r (i v σ H Q q)⟩
theorem dg_name {i : Nat} (hN : X.N.Nodup) (hi : X.N[i]? = some x) (hx : Loc X.env.scope x) (hf : X.fn x = true ∨ X.env.scope.names.lookup x = some .local := by first | exact .inl rfl | exact .inr rfl | assumption) : DG X cl (.Name x pos) (.nm i) :=
  PG.imp (pg_name hN hi hx hf) fun v σ H Q q => by
    obtain ⟨F, al, sl, mu, d, sl', w, r, e, k⟩ := q
    cases e
    exact k _ (w.setVal r) (fun n o => o.setVal) AtIx.set
abbrev DGs (X : Cx) (cl : Nat → Addr) (es : List PySem.Expr) (is : List Nat) : Prop := PGs X es (tTgts (Cx.th X cl) is)
theorem dgs_nil : DGs X cl [] [] := PGs.imp pgs_nil fun v σ H Q q => by
  obtain ⟨F, al, sl, mu, ds, sl', w, r, e, k⟩ := q
  cases ds with
  | cons _ _ => cases e
  | nil =>
    cases e
    cases r
    exact ⟨rfl, k σ w (fun _ o => o) AtIx.refl⟩
theorem dgs_cons {i : Nat} {is : List Nat} (hN : X.N.Nodup) (hi : X.N[i]? = some x) (hx : Loc X.env.scope x) (hr : DGs X cl es is) (hf : X.fn x = true ∨ X.env.scope.names.lookup x = some .local := by first | exact .inl rfl | exact .inr rfl | assumption) : DGs X cl (.Name x pos :: es) (i :: is) :=
  PGs.imp (pgs_cons (pg_name hN hi hx hf) hr) fun v σ H Q q => by
    obtain ⟨F, al, sl, mu, ds, sl', w, r, e, k⟩ := q
    cases ds with
    | nil => cases e
    | cons d ds =>
      cases r with
      | cons r1 r2 =>
        exact ⟨_, _, rfl, F, al, _, mu, ds, sl', w.setVal r1, r2, e, fun σ' w' o' i' => k σ' w' (fun n o => o' n o.setVal) fun vs h => by rw [i' vs fun j hj => h j (List.mem_cons_of_mem _ hj)]; exact wipe_set (h _ List.mem_cons_self)⟩
theorem gSets_len : ∀ {is : List Nat} {ds : List D} {sl sl' : Sl}, gSets is ds sl = some sl' → ds.length = is.length
  | [], [], _, _, _ => rfl
  | i :: is, d :: ds, _, _, h => by
    have := gSets_len (is := is) (ds := ds) h
    rw [List.length_cons, List.length_cons, this]
  | [], _ :: _, _, _, h => by cases h
  | _ :: _, [], _, _, h => by cases h
theorem dg_tup {is : List Nat} {k : Nat} (hc : X.calm = true) (h : DGs X cl es is) (hn : (assignEach es X.env).length = is.length := by rfl) (hst : (assignEach es X.env).findIdx? (·.1) = none := by rfl) : DG X cl (.Tuple es k pos) (.tp is) :=
  PG.imp (pg_tup (n := is.length) hc h hn hst) fun v σ H Q q => by
    obtain ⟨F, al, sl, mu, d, sl', w, r, e, k⟩ := q
    cases r with
    | @tup a xs ds hs hl =>
      have e' : gSets is ds sl = some sl' := e
      exact ⟨a, xs, rfl, sqT_mono w.sub hs, by rw [RpL.len hl]; exact gSets_len e', F, al, sl, mu, ds, sl', w, hl, e', k⟩
    | _ => cases e
theorem dg_lst {is : List Nat} {k : Nat} (hc : X.calm = true) (h : DGs X cl es is) (hn : (assignEach es X.env).length = is.length := by rfl) (hst : (assignEach es X.env).findIdx? (·.1) = none := by rfl) : DG X cl (.Tuple es k pos) (.ls is) :=
  PG.imp (pg_unl (n := is.length) hc h hn hst) fun v σ H Q q => by
    obtain ⟨F, al, sl, mu, d, sl', w, r, e, k⟩ := q
    cases r with
    | @lst a xs ds hs hl =>
      have e' : gSets is ds sl = some sl' := e
      exact ⟨a, xs, rfl, SqL.of (w.sub _ _ hs), by rw [RpL.len hl]; exact gSets_len e', F, al, sl, mu, ds, sl', w, hl, e', k⟩
    | _ => cases e
end
/-- an assignment to several names -/
def sTg (g : Tg) (f : EF) : SF := fun sl mu => sbind (f sl mu) sl fun d mu => match g.run d sl with
  | some sl' => .nx sl' mu
  | none => .bad
def sForL (tgt : Tg) (body : SF) : List D → Sl → Store → OutS
  | [], sl, mu => .nx sl mu
  | d :: ds, sl, mu => match tgt.run d sl with
    | none => .bad
    | some sl1 => match body sl1 mu with
      | .nx sl2 mu2 => sForL tgt body ds sl2 mu2
      | .ct sl2 mu2 => sForL tgt body ds sl2 mu2
      | .bk sl2 mu2 => .nx sl2 mu2
      | o => o
def sFor (src : LF) (tgt : Tg) (body : SF) : SF := fun sl mu => sbind (src sl mu) sl fun ds mu => sForL tgt body ds sl mu
def sWhl (c : BF) (body : SF) : Nat → SF
  | 0, _, _ => .bad
  | n + 1, sl, mu => sbind (c sl mu) sl fun b mu => if b = true then (match body sl mu with
      | .nx sl2 mu2 => sWhl c body n sl2 mu2
      | .ct sl2 mu2 => sWhl c body n sl2 mu2
      | .bk sl2 mu2 => .nx sl2 mu2
      | o => o) else .nx sl mu
section
variable {X : Cx} {cl : Nat → Addr} {W : WX} {n : En} {a b e tg : PySem.Expr} {es : List PySem.Expr} {sts : List PySem.Stmt} {pos : Pos} {x : Str}
theorem ds_tg {f : EF} {g : Tg} (hg : DG X cl tg g) (he : DE X cl W e f) (hs : swapsWithSole [tg] e pos.line X.env = pure false := by rfl) (hw : swappedStores [tg] e X.env = pure none := by rfl) (h1 : (assignEach [tg] X.env).map (·.2) = [assign tg X.env] := by rfl) : DS X cl W n (.Assign [tg] e pos) (sTg g f) :=
  PS.imp (ps_asg he hg hs hw h1) fun Z σ H q => by
    obtain ⟨F, al, sl, mu, w, po⟩ := q
    refine seqS w po rfl fun v d F1 al1 mu1 H1 x1 w1 r1 po1 => ?_
    cases z : g.run d sl with
    | none => simp only [z] at po1; exact False.elim po1
    | some sl' =>
      simp only [z] at po1
      exact ⟨F1, al1, sl, mu1, d, sl', w1.w, r1, z, fun σ' w' o' _ => PoS.nx po1 ⟨w1.x, w', o' n w1.o⟩⟩
/-- the ends of a loop's turn -/
theorem turn_ends {T : Th} {F : Hp} {al : Nat → Addr} {mu : Store} {Z : Ends} {o : OutS} {P : St → Hp → Prop} {go : Sl → Store → OutS} (h : PoS T W n F al mu Z (match o with
      | .nx sl2 mu2 => go sl2 mu2
      | .ct sl2 mu2 => go sl2 mu2
      | .bk sl2 mu2 => .nx sl2 mu2
      | o => o)) (k : ∀ σ' F' al' sl' mu' H', Gr F al mu F' al' mu' → W3 T n F' al' sl' mu' σ' H' → PoS T W n F' al' mu' Z (go sl' mu') → P σ' H') : PoS T W n F al mu { Z with nx := P, ct := P, bk := Z.nx } o := by
  cases o with
  | nx sl2 mu2 => exact fun σ' F' al' H' g w => k σ' F' al' sl2 mu2 H' g w (PoS.step g h)
  | ct sl2 mu2 => exact fun σ' F' al' H' g w => k σ' F' al' sl2 mu2 H' g w (PoS.step g h)
  | bk sl2 mu2 => exact h
  | rt d mu2 => exact h
  | ex c fs sl2 mu2 => exact h
  | bad => exact h
theorem ds_for {src : LF} {g : Tg} {body : SF} (hp : PassesOwn (model X.prog X.w) X.A X.env X.xe) (hc : X.calm = true) (hi : DI X cl W tg e src) (hg : DG X cl tg g) (hb : DSs X cl W n sts body)
    (hs : ∀ x, foldedSetIterable e X.env x = pure x := by intro _; rfl) : DS X cl W n (.For tg e sts [] pos) (sFor src g body) :=
  PS.imp (ps_for hp hc hi hg hb hs) fun Z σ H q => by
    obtain ⟨F, al, sl, mu, w, po⟩ := q
    refine seqS w po rfl fun J ds F1 al1 mu1 H1 x1 w1 r1 po1 => ?_
    obtain ⟨G, Y, wk, hG, hY⟩ := r1
    refine for_it wk (fun i σ H => ∃ F2 al2 sl2 mu2, Gr F1 al1 mu1 F2 al2 mu2 ∧ W3 (Cx.th X cl) n F2 al2 sl2 mu2 σ H ∧ PoS (Cx.th X cl) W n F2 al2 mu2 Z (sForL g body (ds.drop i) sl2 mu2)) ?_ ?_ ?_ ?_
    · exact ⟨F1, al1, sl, mu1, Gr.refl, w1, po1⟩
    · rintro i σ H _ ⟨F2, al2, sl2, mu2, gr, w2, _⟩
      exact hG F2 H gr.sub w2.w.sub
    · rintro i x σ H H' hi ⟨F2, al2, sl2, mu2, gr, w2, po2⟩ y
      obtain ⟨d, F3, hd, x3, r3⟩ := hY F2 al2 mu2 H i x H' gr w2.w.toMus hi y
      have e : ds.drop i = d :: ds.drop (i + 1) := by
        rw [List.getElem?_eq_some_iff] at hd
        obtain ⟨h1, h2⟩ := hd
        rw [← h2]
        exact List.drop_eq_getElem_cons h1
      rw [e] at po2
      unfold sForL at po2
      split at po2
      · exact False.elim po2
      · rename_i sl3 hg3
        have w3 := w2.ext x3
        refine ⟨F3, al2, sl2, mu2, d, sl3, w3.w, r3, hg3, fun σ' w' o' _ => ⟨F3, al2, sl3, mu2, ⟨w3.x, w', o' n w3.o⟩, ?_⟩⟩
        refine turn_ends (PoS.step x3.gr po2) fun σ5 F5 al5 sl5 mu5 H5 g5 w5 po5 => ?_
        exact ⟨F5, al5, sl5, mu5, gr.trans (x3.gr.trans g5), w5, po5⟩
    · rintro σ H ⟨F2, al2, sl2, mu2, gr, w2, po2⟩
      rw [List.drop_length] at po2
      exact PoS.nx po2 w2
theorem ds_while {c : BF} {body : SF} {m : Nat} (hp : PassesOwn (model X.prog X.w) X.A X.env X.xe) (hc : DT X cl W e c) (hb : DSs X cl W n sts body) : DS X cl W n (.While e sts [] pos) (sWhl c body m) :=
  PS.imp (ps_while hp hc hb) fun Z σ H q => by
    obtain ⟨F, al, sl, mu, w, po⟩ := q
    refine ⟨fun m σ H => ∃ F al sl mu, W3 (Cx.th X cl) n F al sl mu σ H ∧ PoS (Cx.th X cl) W n F al mu Z (sWhl c body m sl mu), ⟨m, F, al, sl, mu, w, po⟩, ?_⟩
    rintro m σ H ⟨F, al, sl, mu, w, po⟩
    cases m with
    | zero => exact False.elim po
    | succ m =>
      unfold sWhl at po
      refine seqS w po rfl fun v d F1 al1 mu1 H1 x1 w1 r1 po1 => ?_
      cases r1
      split
      · rename_i hb
        rw [if_pos hb] at po1
        refine ⟨fun σ' H' => ∃ F al sl mu, W3 (Cx.th X cl) n F al sl mu σ' H' ∧ PoS (Cx.th X cl) W n F al mu Z (sWhl c body m sl mu), fun σ' H' h => ⟨m, Nat.lt_succ_self m, h⟩, F1, al1, sl, mu1, w1, ?_⟩
        exact turn_ends po1 fun σ5 F5 al5 sl5 mu5 H5 g5 w5 po5 => ⟨F5, al5, sl5, mu5, w5, po5⟩
      · rename_i hb
        rw [if_neg hb] at po1
        exact PoS.nx po1 w1
end

/-! ### a def by its body -/
def dFun (N : Nat) (b : SF) : FF := fun ds mu => match b (ds.map (fun d => some (.val d)) ++ List.replicate (N - ds.length) none) mu with
  | .nx _ mu' => .ok .non mu'
  | .rt d mu' => .ok d mu'
  | .ex c fs _ mu' => .ex c fs mu'
  | _ => .bad
theorem RpL.get {T : Th} {F : Hp} {al : Nat → Addr} {n : Nat} : ∀ {vs : List V} {ds : List D}, RpL T F al n vs ds → ∀ {i : Nat} {d : D}, ds[i]? = some d → ∃ v, vs[i]? = some v ∧ Rp T F al n v d
  | [], [], _, _, _, h => by simp at h
  | v :: vs, d :: ds, .cons r1 r2, i, d', h => by
    cases i with
    | zero => simp at h; subst h; exact ⟨v, rfl, r1⟩
    | succ i =>
      obtain ⟨v', h1, h2⟩ := RpL.get r2 (i := i) (d := d') (by simpa using h)
      exact ⟨v', by simpa using h1, h2⟩
  | [], d :: ds, h, _, _, _ => by cases h
  | v :: vs, [], h, _, _, _ => by cases h
theorem wd_start {T : Th} {F : Hp} {al : Nat → Addr} {mu : Store} {H : Hp} {N : List Str} {vs : List V} {ds : List D} (m : Mus T F al mu H) (r : RpL T F al mu.length vs ds) :
    Wd T F al (ds.map (fun d => some (SV.val d)) ++ List.replicate (N.length - ds.length) none) mu (L2.start N vs) H := by
  have hl := RpL.len r
  have noOwn : ∀ (i : Nat) m, (ds.map (fun d => some (SV.val d)) ++ List.replicate (N.length - ds.length) none)[i]? = some (some (SV.own m)) → False := fun i m e => by
    by_cases hi : i < ds.length
    · rw [List.getElem?_append_left (by simpa using hi), List.getElem?_map] at e
      cases q : ds[i]? with
      | none => rw [q] at e; cases e
      | some d => rw [q] at e; cases e
    · rw [List.getElem?_append_right (by simpa using hi), List.getElem?_replicate] at e
      split at e <;> cases e
  refine ⟨m, ?_, fun i d e => ?_, fun i m e => (noOwn i m e).elim, fun i j m m' a _ e _ _ _ => noOwn i m e⟩
  · unfold L2.start
    simp [hl]
  · by_cases hi : i < ds.length
    · rw [List.getElem?_append_left (by simpa using hi), List.getElem?_map] at e
      cases q : ds[i]? with
      | none => rw [q] at e; cases e
      | some d' =>
        rw [q] at e
        cases e
        obtain ⟨v, h1, h2⟩ := r.get q
        refine ⟨v, ?_, h2⟩
        unfold L2.start
        rw [List.getElem?_append_left (by simp; omega), List.getElem?_map, h1]
        rfl
    · rw [List.getElem?_append_right (by simpa using hi), List.getElem?_replicate] at e
      split at e <;> cases e
theorem ownNew_start {n : En} {N : List Str} {vs : List V} {ds : List D} : OwnNew n (ds.map (fun d => some (SV.val d)) ++ List.replicate (N.length - ds.length) none) (L2.start N vs) := fun i m a e _ => by
  exfalso
  by_cases hi : i < ds.length
  · rw [List.getElem?_append_left (by simpa using hi), List.getElem?_map] at e
    cases q : ds[i]? with
    | none => rw [q] at e; cases e
    | some d => rw [q] at e; cases e
  · rw [List.getElem?_append_right (by simpa using hi), List.getElem?_replicate] at e
    split at e <;> cases e
theorem body_of {T : Th} {N : List Str} {np : Nat} {g : SF} {vs : List V} {H : Hp} {Q : VK} {E : XK} (h : spD T np (dFun N.length g) vs H Q E) :
    ∃ n : En, tS T (fun c d _ H' => E c d H') n g { nx := fun _ H' => Q .non H', rt := Q } (L2.start N vs) H := by
  obtain ⟨F, al, mu, ds, m, r, hl, po⟩ := h
  refine ⟨⟨F, al, mu, H⟩, F, al, _, mu, ⟨Ext.refl m, wd_start (N := N) m r, ownNew_start⟩, ?_⟩
  unfold dFun at po
  cases z : g (ds.map (fun d => some (SV.val d)) ++ List.replicate (N.length - ds.length) none) mu with
  | nx sl' mu' => rw [z] at po; exact fun σ' F' al' H' _ w => po _ _ _ _ w.x .non
  | rt d mu' => rw [z] at po; exact fun v F' al' H' _ x r => po _ _ _ _ x r
  | bk sl' mu' => rw [z] at po; exact False.elim po
  | ct sl' mu' => rw [z] at po; exact False.elim po
  | ex c fs sl' mu' => rw [z] at po; exact fun dx σ' F' al' H' _ w r => po _ _ _ _ w.x r
  | bad => rw [z] at po; exact po
section
variable {P : Program} {w : World} {K : PySem.W.Frag} {mg : Str → Option Value} {base : Heap} {cl : Nat → Addr}
theorem fn_body {x qual : Str} {params : Arguments} {body : List PySem.Stmt} {scope : Scope} {f : Addr} {fd : FuncData} {N ps : List Str} {k : Nat} {g : SF} (F : FunD K x qual params body scope [] [] f fd) (S : FnScope N ps scope)
    (hb : ∀ (cdv : Value) (A : Around) (outer : List Env) (s : Shared) (H : Hp) (E : XK) (n : En), Room k (A.deeper (PyProof.Rows.envOfC qual scope s.heap.objs.size f cdv)) →
      DSs (cxOf (L2.CX P w) P w K mg base N qual scope f cdv A outer s H E) cl (fun c d _ H' => E c d H') n body g) :
    FnOk P w K mg base (L2.CX P w) (k + 1) f fd ps (spD ⟨K, cl⟩ ps.length (dFun N.length g)) := by
  refine F.ok S (fun vs H Q E h => ?_) (fun cdv A outer s H vs Q E hr h => ?_)
  · obtain ⟨F, al, mu, ds, _, r, hl, _⟩ := h
    rw [RpL.len r, hl]
  · obtain ⟨n, q⟩ := body_of (N := N) h
    exact ⟨_, hb cdv A outer s H E n hr, q⟩
theorem gf_of {x : Str} {params : Arguments} {body : List PySem.Stmt} {scope : Scope} {f : Addr} {fd : FuncData} {N ps : List Str} {k : Nat} {g : SF} (F : FunD K x x params body scope [] [] f fd) (S : FnScope N ps scope) (hm : mg x = some (.ref f)) (hbd : L2.Binds K fd ps [])
    (hb : ∀ (cdv : Value) (A : Around) (outer : List Env) (s : Shared) (H : Hp) (E : XK) (n : En), Room k (A.deeper (PyProof.Rows.envOfC x scope s.heap.objs.size f cdv)) →
      DSs (cxOf (L2.CX P w) P w K mg base N x scope f cdv A outer s H E) cl (fun c d _ H' => E c d H') n body g) :
    Gf P w K mg base cl (k + 1) x ps.length (dFun N.length g) := ⟨f, fd, ps, fn_body F S hb, hm, F.kp, hbd⟩
theorem spD_imp {T : Th} {np : Nat} {p q : FF} (h : ∀ ds mu, ds.length = np → q ds mu ≠ .bad → p ds mu = q ds mu) : ∀ vs H Q E, spD T np q vs H Q E → spD T np p vs H Q E := fun vs H Q E ⟨F, al, mu, ds, m, r, hl, po⟩ => by
  refine ⟨F, al, mu, ds, m, r, hl, ?_⟩
  by_cases z : q ds mu = .bad
  · rw [z] at po; exact False.elim po
  · rw [h ds mu hl z]; exact po
/-- the def by another function: the same wherever that one tells anything -/
theorem Gf.to {k np : Nat} {x : Str} {p q : FF} (c : Gf P w K mg base cl k x np p) (h : ∀ ds mu, ds.length = np → q ds mu ≠ .bad → p ds mu = q ds mu) : Gf P w K mg base cl k x np q := by
  obtain ⟨f, fd, ps, hf, r⟩ := c.ex
  exact ⟨f, fd, ps, hf.imp (spD_imp h), r⟩
theorem Gf.mono {j k np : Nat} {x : Str} {p : FF} (c : Gf P w K mg base cl j x np p) (h : j ≤ k) : Gf P w K mg base cl k x np p := by
  obtain ⟨f, fd, ps, hf, r⟩ := c.ex
  exact ⟨f, fd, ps, hf.mono h, r⟩
end
end DL
end

section
set_option Elab.async false
set_option linter.all false
set_option maxRecDepth 100000
set_option maxHeartbeats 4000000
/-! DH: comprehensions, what is walked. -/
namespace DL
open PySem L2
section
variable {T : Th} {F F1 H H1 : Hp} {al al1 : Nat → Addr} {mu mu1 : Store} {sl : Sl} {σ : St}
/-- an object aside is left as it is -/
theorem Ext.guard (x : Ext T F al mu H F1 al1 mu1 H1) {a : Addr} {o : HO} (h : H a = some o) (tt : ∀ ps, o ≠ .tbl ps) (hF : F a = none) (hm : ∀ k m, mu[k]? = some (some m) → al k ≠ a) : H1 a = some o ∧ F1 a = none ∧ ∀ k m, mu1[k]? = some (some m) → al1 k ≠ a := by
  refine ⟨x.keep a o h tt hm, ?_, fun k m e z => ?_⟩
  · cases q : F1 a with
    | none => rfl
    | some u =>
      rcases x.new a u q with g | g | ⟨k, m', e1, e2⟩
      · rw [hF] at g; cases g
      · exact (g.no h tt).elim
      · exact absurd e2 (hm k m' e1)
  · rcases x.fresh k m e with ⟨m0, g⟩ | g
    · exact hm k m0 g (by rw [← x.als k (lt_of_live g)]; exact z)
    · rw [z] at g; exact (g.no h tt).elim
theorem Ext.updNew (x : Ext T F al mu H F1 al1 mu1 H1) {a : Addr} {o u0 : HO} (ho : ∀ ps, o ≠ .tbl ps) (h0 : Fre H a) (hu : H1 a = some u0) (hn : NoTab u0) (hF : F1 a = none) (hm : ∀ k m, mu1[k]? = some (some m) → al1 k ≠ a) : Ext T F al mu H F1 al1 mu1 (upd H1 a o) :=
  ⟨⟨fun b u q => by rw [upd_ne (ne_of_none q hF)]; exact x.mus.sub b u q, fun k m q => by
    obtain ⟨g1, u, g2, g3⟩ := x.mus.at_ k m q
    exact ⟨g1, u, by rw [upd_ne (hm k m q)]; exact g2, g3⟩, x.mus.inj, fun i z => tab_upd (.inr ⟨_, hu, hn⟩) (x.mus.tab i z), x.mus.nt⟩, x.sub, x.new, fun b u q tt z => by rw [upd_ne fun (g : b = a) => h0.no (g ▸ q) tt]; exact x.keep b u q tt z, fun b q => x.there b (there_upd (.inr ho) b q), x.als, x.ln, x.fresh⟩

def wipeS (sl : Sl) : List Nat → Sl
  | [] => sl
  | v :: vs => (wipeS sl vs).set v none
theorem wipeS_length : ∀ vs : List Nat, (wipeS sl vs).length = sl.length
  | [] => rfl
  | v :: vs => by unfold wipeS; rw [List.length_set, wipeS_length vs]
theorem wipeS_some {i : Nat} {x : SV} : ∀ {vs : List Nat}, (wipeS sl vs)[i]? = some (some x) → sl[i]? = some (some x) ∧ i ∉ vs
  | [], h => ⟨h, by simp⟩
  | v :: vs, h => by
    unfold wipeS at h
    rcases set_get h with ⟨_, q, _⟩ | ⟨ne, q⟩
    · cases q
    · obtain ⟨h1, h2⟩ := wipeS_some q
      exact ⟨h1, by simp only [List.mem_cons, not_or]; exact ⟨fun e => ne e.symm, h2⟩⟩
theorem wipe_keep {i : Nat} : ∀ {vs : List Nat}, i ∉ vs → (wipe σ vs)[i]? = σ[i]?
  | [], _ => rfl
  | v :: vs, h => by
    unfold wipe
    rw [List.getElem?_set_ne fun e => h (by rw [e]; exact List.mem_cons_self)]
    exact wipe_keep fun q => h (List.mem_cons_of_mem _ q)
theorem Wd.wipe (w : Wd T F al sl mu σ H) (vs : List Nat) : Wd T F al (wipeS sl vs) mu (L2.wipe σ vs) H where
  toMus := w.toMus
  len := by rw [wipeS_length, wipe_length]; exact w.len
  val := fun i d e => by
    obtain ⟨h1, h2⟩ := wipeS_some e
    rw [wipe_keep h2]
    exact w.val i d h1
  own := fun i d e => by
    obtain ⟨h1, h2⟩ := wipeS_some e
    rw [wipe_keep h2]
    exact w.own i d h1
  apart := fun i j m m' a ne e1 e2 g1 g2 => by
    obtain ⟨h1, h2⟩ := wipeS_some e1
    obtain ⟨h3, h4⟩ := wipeS_some e2
    rw [wipe_keep h2] at g1
    rw [wipe_keep h4] at g2
    exact w.apart i j m m' a ne h1 h3 g1 g2
theorem wipe_wipe : ∀ (vs : List Nat), wipe (wipe σ vs) vs = wipe σ vs := fun vs => by
  have key : ∀ ws : List Nat, (∀ i ∈ ws, i ∈ vs) → wipe (wipe σ vs) ws = wipe σ vs := by
    intro ws
    induction ws with
    | nil => intro _; rfl
    | cons w ws ih =>
      intro h
      show (wipe (wipe σ vs) ws).set w none = wipe σ vs
      rw [ih fun i hi => h i (List.mem_cons_of_mem _ hi)]
      have hw := h w List.mem_cons_self
      have none_at : ∀ vs : List Nat, w ∈ vs → (wipe σ vs).set w none = wipe σ vs := by
        intro vs
        induction vs with
        | nil => intro h; cases h
        | cons v vs ih2 =>
          intro h
          show ((wipe σ vs).set v none).set w none = (wipe σ vs).set v none
          by_cases e : v = w
          · subst e; rw [List.set_set]
          · rw [List.set_comm _ _ e]
            rcases List.mem_cons.mp h with h | h
            · exact absurd h.symm e
            · rw [ih2 h]
      exact none_at vs hw
  exact key vs fun _ h => h
end

/-- no exception -/
def noex {α : Type} (o : Out α) : Out α := match o with
  | .ex _ _ _ => .bad
  | o => o
def dLcL (g : Tg) (sw : Sl) (c : BF) (elt : EF) : List D → List D → Store → Out MO
  | [], acc, mu => .ok (.lst acc) mu
  | d :: ds, acc, mu => match g.run d sw with
    | none => .bad
    | some sl1 => obind (noex (c sl1 mu)) fun b mu1 => if b = true then obind (noex (elt sl1 mu1)) fun y mu2 => dLcL g sw c elt ds (acc ++ [y]) mu2 else dLcL g sw c elt ds acc mu1
def sizeOk (ds : List D) : Bool := decide (ds.length ≤ 16000000)
def dLc (src : LF) (g : Tg) (own : List Nat) (c : BF) (elt : EF) : NF := dBind src fun ds sl mu => if sizeOk ds = true then dLcL g (wipeS sl own) c elt ds [] mu else .bad
def dYes : BF := fun _ mu => .ok true mu
abbrev WF : WX := fun _ _ _ _ => False
abbrev DTs (X : Cx) (cl : Nat → Addr) (W : WX) (ifs : List PySem.Expr) (f : BF) : Prop := PTs X ifs (tG (Cx.th X cl) W RB f)
section
variable {X : Cx} {cl : Nat → Addr} {W : WX} {n : En} {elt iter tg e : PySem.Expr} {ifs : List PySem.Expr} {pos : Pos} {scope : Scope} {own : List (Str × Nat)} {src : LF} {g : Tg} {c : BF} {f : EF}
theorem dts_nil : DTs X cl W [] dYes := ⟨fun pins s σ H Q I h => by
  obtain ⟨F, al, sl, mu, w, po⟩ := h
  exact pts_nil.run pins s σ H Q I (Po.here po w.toMus rfl)⟩
theorem dts_one {c : BF} (h : DT X cl W e c) : DTs X cl W [e] c := pts_one h
/-- the turns of a comprehension -/
theorem lc_turns {T : Th} {F1 H1 : Hp} {al1 : Nat → Addr} {mu1 : Store} {sl : Sl} {σ : St} {vs : List Nat} {ds : List D} {J : It} {Q : VK} (w1 : Wd T F1 al1 sl mu1 σ H1) (hix : ∀ i ∈ g.ix, i ∈ vs) (hsz : ds.length ≤ 16000000) (r1 : RI T H F1 al1 mu1 H1 J ds)
    (po : Po T W F1 al1 mu1 σ H1 (RN T) (dLcL g (wipeS sl vs) c f ds [] mu1) Q) {D : Addr} (hD : H1 D = none) :
    ∃ W2 : Nat → Nat → Hp → Prop, (∃ m, W2 0 m (upd H1 D (.lst []))) ∧ ∀ i m H, W2 i m H →
      (J.stop i H ∧ Q (.ref D) H) ∨ (J.go i H ∧ ∃ Nx : Hp → Prop, (∀ H', Nx H' → ∃ m', m' < m ∧ W2 (i + 1) m' H') ∧ ∀ x H', J.yld i H x H' → tTgt T g x (wipe σ vs) H' fun σ2 H2 => wipe σ2 vs = wipe σ vs ∧ tG T WF RB c σ2 H2 fun b H3 =>
        if b = true then tG T WF (RD T) f σ2 H3 fun y H4 => ∃ acc, H4 D = some (.lst acc) ∧ acc.length < sizeLine ∧ Nx (upd H4 D (.lst (acc ++ [y]))) else Nx H3) := by
  obtain ⟨G, Y, wk, hG, hY⟩ := r1
  refine lc_it (Qd := fun H => Q (.ref D) H) wk (fun i H' => ∃ F2 al2 mu2 acc vs', Ext T F1 al1 mu1 H1 F2 al2 mu2 H' ∧ H' D = some (.lst vs') ∧ F2 D = none ∧ (∀ k m, mu2[k]? = some (some m) → al2 k ≠ D) ∧ RpL T F2 al2 mu2.length vs' acc ∧ acc.length ≤ i ∧
    Po T W F1 al1 mu1 σ H1 (RN T) (dLcL g (wipeS sl vs) c f (ds.drop i) acc mu2) Q) ?_ ?_ ?_ ?_
  · exact ⟨F1, al1, mu1, [], [], Ext.laidH w1.toMus hD, upd_same, w1.F_none hD, Mus.ne_laid w1.toMus hD, .nil, Nat.le_refl _, po⟩
  · rintro i H' _ ⟨F2, al2, mu2, acc, vs', x2, _⟩
    exact hG F2 H' x2.sub x2.mus.sub
  · rintro i x H' H'' hi ⟨F2, al2, mu2, acc, vs', x2, hd, hF, hm, ra, hl, po2⟩ y
    obtain ⟨d, F3, hdd, x3, r3⟩ := hY F2 al2 mu2 H' i x H'' x2.gr x2.mus hi y
    have e : ds.drop i = d :: ds.drop (i + 1) := by
      rw [List.getElem?_eq_some_iff] at hdd
      obtain ⟨h1, h2⟩ := hdd
      rw [← h2]
      exact List.drop_eq_getElem_cons h1
    rw [e] at po2
    unfold dLcL at po2
    split at po2
    · exact False.elim po2
    · rename_i sl3 hg3
      have x4 := x2.trans x3
      obtain ⟨hd4, hF4, hm4⟩ := x3.guard hd (noTab_lst _).1 hF hm
      refine ⟨F3, al2, wipeS sl vs, mu2, d, sl3, (w1.wipe vs).ext x4, r3, hg3, fun σ' w' _ ix' => ⟨by rw [ix' vs hix, wipe_wipe], F3, al2, sl3, mu2, w', ?_⟩⟩
      cases z : c sl3 mu2 with
      | bad => rw [z] at po2; exact po2
      | ex a b d => rw [z] at po2; exact False.elim po2
      | ok b mu3 =>
        rw [z] at po2
        intro v F5 al5 H5 x5 r5
        cases r5
        obtain ⟨hd5, hF5, hm5⟩ := x5.guard hd4 (noTab_lst _).1 hF4 hm4
        cases b with
        | false =>
          exact ⟨F5, al5, mu3, acc, vs', x4.trans x5, hd5, hF5, hm5, x5.rpL (x3.rpL ra), by omega, po2⟩
        | true =>
          show tG T WF (RD T) f σ' H5 _
          refine ⟨F5, al5, sl3, mu3, w'.ext x5, ?_⟩
          cases z2 : f sl3 mu3 with
          | bad => simp only [noex, obind, if_true, z2] at po2; exact po2
          | ex a b d => simp only [noex, obind, if_true, z2] at po2; exact False.elim po2
          | ok y mu4 =>
            simp only [noex, obind, if_true, z2] at po2
            intro u F6 al6 H6 x6 r6
            obtain ⟨hd6, hF6, hm6⟩ := x6.guard hd5 (noTab_lst _).1 hF5 hm5
            have hlen := RpL.len ra
            refine ⟨vs', hd6, by rw [hlen, sizeLine_eq]; omega, F6, al6, mu4, acc ++ [y], vs' ++ [u], ((x4.trans x5).trans x6).updNew (noTab_lst _).1 (.of hD) hd6 (noTab_lst _) hF6 hm6, upd_same, hF6, hm6, ?_, by simp; omega, po2⟩
            have happ : ∀ {us : List V} {es : List DL.D}, RpL T F6 al6 mu4.length us es → RpL T F6 al6 mu4.length (us ++ [u]) (es ++ [y]) := by
              intro us
              induction us with
              | nil =>
                intro es h
                cases h
                exact .cons r6 .nil
              | cons v us ih =>
                intro es h
                cases h with
                | cons h1 h2 => exact .cons h1 (ih h2)
            exact happ (x6.rpL (x5.rpL (x3.rpL ra)))
  · rintro H' ⟨F2, al2, mu2, acc, vs', x2, hd, hF, hm, ra, hl, po2⟩
    rw [List.drop_length] at po2
    exact po2 _ F2 al2 H' x2 ⟨D, _, rfl, .of hD, hF, hd, ra, hm⟩
theorem dn_lc (hc : X.calm = true) (hN : X.N.Nodup) (hi : DI X cl W tg iter src) (ok : BlkOk X.N X.env.scope scope own) (hg : ∀ (s : Shared) (H : Hp) (C : Addr) (l : List (Str × Addr)) (fp : List Addr), DG (X.blk s H scope (compEnvC scope l C X.env) fp) cl tg g)
    (ht : ∀ (s : Shared) (H : Hp) (C : Addr) (l : List (Str × Addr)) (fp : List Addr), DTs (X.blk s H scope (compEnvC scope l C X.env) fp) cl WF ifs c) (he : ∀ (s : Shared) (H : Hp) (C : Addr) (l : List (Str × Addr)) (fp : List Addr), DE (X.blk s H scope (compEnvC scope l C X.env) fp) cl WF elt f)
    (hix : ∀ i ∈ g.ix, i ∈ own.map (·.2)) (hs : ∀ x, foldedSetIterable iter X.env x = pure x := by intro _; rfl) : DN X cl W (.ListComp elt [⟨tg, iter, ifs, 0⟩] scope pos) (dLc src g (own.map (·.2)) c f) :=
  PE.imp (pe_lc hc hN hi ok hg ht he hs) fun σ H Q q => by
    obtain ⟨F, al, sl, mu, w, po⟩ := q
    refine seqG back_RN w po rfl fun J ds F1 al1 mu1 H1 x1 w1 r1 po1 D hD => ?_
    dsimp only at po1
    split at po1
    · rename_i hsz
      exact lc_turns (W := W) (H := H) w1 hix (of_decide_eq_true hsz) r1 po1 hD
    · exact False.elim po1
/-- y = [.. for ..] -/
theorem ds_lc {i : Nat} {y : Str} {py spos : Pos} (hc : X.calm = true) (hN : X.N.Nodup) (hy : X.N[i]? = some y) (hyl : X.env.scope.names.lookup y = some .local) (hsw : swapsWith (.ListComp elt [⟨tg, iter, ifs, 0⟩] scope pos) (some (.Name y py)) spos.line X.env = pure true)
    (hi : DI X cl W tg iter src) (ok : BlkOk X.N X.env.scope scope own) (hg : ∀ (s : Shared) (H : Hp) (C : Addr) (l : List (Str × Addr)) (fp : List Addr), DG (X.blk s H scope (compEnvC scope l C X.env) fp) cl tg g)
    (ht : ∀ (s : Shared) (H : Hp) (C : Addr) (l : List (Str × Addr)) (fp : List Addr), DTs (X.blk s H scope (compEnvC scope l C X.env) fp) cl WF ifs c) (he : ∀ (s : Shared) (H : Hp) (C : Addr) (l : List (Str × Addr)) (fp : List Addr), DE (X.blk s H scope (compEnvC scope l C X.env) fp) cl WF elt f)
    (hix : ∀ i ∈ g.ix, i ∈ own.map (·.2)) (hs : ∀ x, foldedSetIterable iter X.env x = pure x := by intro _; rfl) : DS X cl W n (.Assign [.Name y py] (.ListComp elt [⟨tg, iter, ifs, 0⟩] scope pos) spos) (sOwn i (dLc src g (own.map (·.2)) c f)) :=
  PS.imp (ps_setLc hc hN hy hyl hsw hi ok hg ht he hs) fun Z σ H q => by
    obtain ⟨F, al, sl, mu, w, po⟩ := q
    have q2 : tG (Cx.th X cl) W (RN (Cx.th X cl)) (dLc src g (own.map (·.2)) c f) σ H fun v H' => Z.nx (σ.set i (some v)) H' :=
      seqS w po rfl fun v m F1 al1 mu1 H1 x1 w1 r1 po1 => PoS.nx po1 (w.setOwn x1 r1)
    obtain ⟨F, al, sl, mu, w, po⟩ := q2
    refine seqG back_RN w po rfl fun J ds F1 al1 mu1 H1 x1 w1 r1 po1 D hD => ?_
    dsimp only at po1
    split at po1
    · rename_i hsz
      exact lc_turns (W := W) (H := H) (Q := fun v H' => Z.nx (σ.set i (some v)) H') w1 hix (of_decide_eq_true hsz) r1 po1 hD
    · exact False.elim po1
end

/-! ### what is walked -/
def dItL (f : EF) : LF := dBind f fun d _ mu => match d with
  | .lst l => .ok l mu
  | _ => .bad
def dItT (f : EF) : LF := dBind f fun d _ mu => match d with
  | .tup l => .ok l mu
  | _ => .bad
def rangeD (lo : Int) (n : Nat) : List D := (List.range n).map fun i => .int (lo + (i : Nat))
def rgOk (j : Int) : Bool := decide (-1000000000 ≤ j) && decide (j ≤ 1000000000)
theorem rgOk_of {j : Int} (h : rgOk j = true) : -1000000000 ≤ j ∧ j ≤ 1000000000 := by
  unfold rgOk at h
  rw [Bool.and_eq_true] at h
  exact ⟨of_decide_eq_true h.1, of_decide_eq_true h.2⟩
theorem rgOk_nat {n : Nat} (h : n ≤ 1000000000) : rgOk (n : Int) = true := by
  unfold rgOk
  rw [Bool.and_eq_true]
  exact ⟨decide_eq_true (by omega), decide_eq_true (by omega)⟩
def dRg1 (f : EF) : LF := dBind f fun d _ mu => match d with
  | .int j => if rgOk j = true then .ok (rangeD 0 j.toNat) mu else .bad
  | _ => .bad
def dRg2 (f g : EF) : LF := dBind f fun d => dBind g fun e _ mu => match d, e with
  | .int i, .int j => if (rgOk i && rgOk j) = true then .ok (rangeD i (j - i).toNat) mu else .bad
  | _, _ => .bad
def signsD (z : Str) : List D := z.cps.toList.map fun c => .str ⟨#[c]⟩
def dItS (f : EF) : LF := dBind f fun d _ mu => match d with
  | .str z => .ok (signsD z) mu
  | _ => .bad
section
variable {X : Cx} {cl : Nat → Addr} {W : WX} {e tg a b : PySem.Expr} {f fa fb : EF} {pos p1 : Pos}
theorem back_RI {T : Th} : Back (RI T) := fun _ _ _ _ _ _ _ _ _ h => h
theorem PI.imp {t t' : TI} (h : PI X tg e t) (i : ∀ σ H R, t' σ H R → t σ H R) : PI X tg e t' := ⟨fun pins s σ H R I q => h.run pins s σ H R I (i σ H R q)⟩
theorem gr_at {T : Th} {F F' : Hp} {al al' : Nat → Addr} {mu mu' : Store} {xs : List V} {ds : List D} {i : Nat} {x : V} (g : Gr F al mu F' al' mu') (h : RpL T F al mu.length xs ds) (e : xs[i]? = some x) : ∃ d, ds[i]? = some d ∧ Rp T F' al' mu'.length x d := by
  have h' := RpL.mono (T := T) g.sub g.als g.ln h
  have hl := RpL.len h'
  have hi : i < xs.length := (List.getElem?_eq_some_iff.mp e).1
  cases q : ds[i]? with
  | none => rw [List.getElem?_eq_none_iff] at q; omega
  | some d =>
    obtain ⟨v, h1, h2⟩ := h'.get q
    rw [e] at h1; cases h1
    exact ⟨d, rfl, h2⟩
theorem di_list (h : DE X cl W e f) : DI X cl W tg e (dItL f) := PI.imp (pi_list h) fun σ H R q => by
  obtain ⟨F, al, sl, mu, w, po⟩ := q
  refine seqG back_RI w po rfl fun v d F1 al1 mu1 H1 x1 w1 r1 po1 => ?_
  cases r1 with
  | @lst a xs ds ha hl =>
    refine ⟨a, rfl, ⟨xs, SqL.of (w1.sub _ _ ha)⟩, Po.here po1 w1.toMus ⟨_, _, by rw [← RpL.len hl]; exact walk_list (xs := xs), fun F' H' s1 s2 => SqL.of (s2 _ _ (s1 _ _ ha)), fun F' al' mu' H' i x H2 g m hi y => ?_⟩⟩
    obtain ⟨rfl, hx⟩ := y
    obtain ⟨d, h1, h2⟩ := gr_at g hl hx
    exact ⟨d, F', h1, Ext.refl m, h2⟩
  | _ => exact False.elim po1
theorem di_tup (h : DE X cl W e f) : DI X cl W tg e (dItT f) := PI.imp (pi_tup h) fun σ H R q => by
  obtain ⟨F, al, sl, mu, w, po⟩ := q
  refine seqG back_RI w po rfl fun v d F1 al1 mu1 H1 x1 w1 r1 po1 => ?_
  cases r1 with
  | @tup a xs ds ha hl =>
    refine ⟨a, rfl, ⟨xs, sqT_mono w1.sub ha⟩, Po.here po1 w1.toMus ⟨_, _, by rw [← RpL.len hl]; exact walk_tup (xs := xs), fun F' H' s1 s2 => sqT_mono s2 (s1 _ _ ha), fun F' al' mu' H' i x H2 g m hi y => ?_⟩⟩
    obtain ⟨rfl, hx⟩ := y
    obtain ⟨d, h1, h2⟩ := gr_at g hl hx
    exact ⟨d, F', h1, Ext.refl m, h2⟩
  | _ => exact False.elim po1
theorem rangeD_len {lo : Int} {n : Nat} : (rangeD lo n).length = n := by unfold rangeD; simp
theorem ri_range {T : Th} {H0 F H : Hp} {al : Nat → Addr} {mu : Store} {lo : Int} {n : Nat} : RI T H0 F al mu H (Itr lo n) (rangeD lo n) :=
  ⟨_, _, by rw [rangeD_len]; exact walk_range, fun _ _ _ _ => trivial, fun F' al' mu' H' i x H2 g m hi y => by
    obtain ⟨rfl, rfl⟩ := y
    rw [rangeD_len] at hi
    exact ⟨.int (lo + (i : Nat)), F', by unfold rangeD; simp [hi], Ext.refl m, .int _⟩⟩
theorem di_range1 {g : LF} (hg : Gl X "range") (hm : X.mg "range" = none) (ha : DAs X cl W [a] g) (hf : g = dCons fa dNil) (hs : starEach [a] X.env = [(false, eval a X.env)] := by rfl) : DI X cl W tg (.Call (.Name "range" p1) [a] [] pos) (dRg1 fa) :=
  PI.imp (pi_range1 hg hm ha hs) fun σ H R q => by
    obtain ⟨F, al, sl, mu, w, po⟩ := q
    subst hf
    refine ⟨F, al, sl, mu, w, ?_⟩
    unfold dCons dNil dBind obind
    unfold dRg1 dBind obind at po
    cases z : fa sl mu with
    | bad => rw [z] at po; exact po
    | ex c fs mu1 => rw [z] at po; exact po
    | ok d mu1 =>
      rw [z] at po
      intro vs F1 al1 H1 x1 r1
      cases r1 with
      | cons r1 r2 =>
        cases r2
        cases r1 with
        | int j =>
          dsimp only at po
          split at po
          · rename_i hj
            have hj := rgOk_of hj
            exact ⟨j, rfl, by omega, by omega, po _ F1 al1 H1 x1 ri_range⟩
          · exact False.elim po
        | _ => exact False.elim po
theorem di_str (h : DE X cl W e f) : DI X cl W tg e (dItS f) := PI.imp (pi_str h) fun σ H R q => by
  obtain ⟨F, al, sl, mu, w, po⟩ := q
  refine seqG back_RI w po rfl fun v d F1 al1 mu1 H1 x1 w1 r1 po1 => ?_
  cases r1 with
  | str z =>
    have hl : (signsD z).length = z.cps.size := by unfold signsD; simp
    refine ⟨z, rfl, Po.here po1 w1.toMus ⟨_, _, by rw [hl]; exact walk_str (z := z), fun _ _ _ _ => trivial, fun F' al' mu' H' i x H2 g m hi y => ?_⟩⟩
    obtain ⟨rfl, c, h1, rfl⟩ := y
    refine ⟨.str ⟨#[c]⟩, F', ?_, Ext.refl m, .str _⟩
    unfold signsD
    rw [List.getElem?_map]
    have : z.cps.toList[i]? = some c := by simpa using h1
    rw [this]; rfl
  | _ => exact False.elim po1
end
end DL
end

section
set_option Elab.async false
set_option linter.all false
set_option maxRecDepth 100000
set_option maxHeartbeats 4000000
/-! DK: operands that are looked into, built-ins of one argument, subscripts, slices. -/
namespace DL
open PySem L2
def lookD (mu : Store) : D → D
  | .obj k => match mu[k]? with
    | some (some m) => m.d
    | _ => .obj k
  | d => d
/-- as it stands just now: its top in H, what is within in F -/
def Top (T : Th) (F : Hp) (al : Nat → Addr) (n : Nat) (H : Hp) (v : V) : D → Prop
  | .lst ds => ∃ a xs, v = .ref a ∧ H a = some (.lst xs) ∧ RpL T F al n xs ds
  | .ins c fs => Lv T.cls c ∧ ∃ a dx vs, v = .ref a ∧ H a = some (.ins (T.cls c) dx vs) ∧ RpF T F al n vs fs
  | d => Rp T F al n v d
section
variable {T : Th} {F F1 H H1 : Hp} {al al1 : Nat → Addr} {mu mu1 : Store} {sl : Sl} {σ : St} {v : V} {d : D}
theorem top_conc {a : Addr} {o : HO} {m : MO} (h : H a = some o) (c : Conc T F al mu.length o m) : Top T F al mu.length H (.ref a) m.d := by
  cases o <;> cases m <;> first
    | exact False.elim c
    | exact ⟨_, _, rfl, h, c⟩
    | (obtain ⟨⟨c1, c3⟩, c2⟩ := c; subst c1; exact ⟨c3, _, _, _, rfl, h, c2⟩)
theorem top_look (m : Mus T F al mu H) (r : Rp T F al mu.length v d) : Top T F al mu.length H v (lookD mu d) := by
  cases r with
  | @obj k hk =>
    unfold lookD
    dsimp only
    split
    · rename_i m' e
      obtain ⟨_, o, h1, h2⟩ := m.at_ k m' e
      exact top_conc h1 h2
    · exact .obj hk
  | lst h1 h2 => exact ⟨_, _, rfl, m.sub _ _ h1, h2⟩
  | ins h0 h1 h2 => exact ⟨h0, _, _, _, rfl, m.sub _ _ h1, h2⟩
  | non => exact .non
  | bl b => exact .bl b
  | int i => exact .int i
  | str x => exact .str x
  | tup h1 h2 => exact .tup h1 h2
  | frl h1 h2 => exact .frl h1 h2
  | dct h1 => exact .dct h1
end
def RK (T : Th) : Rel V D := fun _ F al mu H v d => Top T F al mu.length H v d
abbrev DKk (X : Cx) (cl : Nat → Addr) (W : WX) (e : PySem.Expr) (f : EF) : Prop := PE X e (tG (Cx.th X cl) W (RK (Cx.th X cl)) f)
def dLook (f : EF) : EF := dBind f fun d _ mu => .ok (lookD mu d) mu
def Pur1K (T : Th) (r : List V → Hp → VK → Prop) (g : D → Option D) : Prop := ∀ (F : Hp) (al : Nat → Addr) (mu : Store) (H : Hp), Mus T F al mu H → ∀ (x : V) (d res : D), Top T F al mu.length H x d → g d = some res → ∀ Q : VK,
  (∀ v F' H', Ext T F al mu H F' al mu H' → Rp T F' al mu.length v res → Q v H') → r [x] H Q
def Pur1N (T : Th) (r : List V → Hp → VK → Prop) (g : D → Option MO) : Prop := ∀ (F : Hp) (al : Nat → Addr) (mu : Store) (H : Hp), Mus T F al mu H → ∀ (x : V) (d : D) (res : MO), Top T F al mu.length H x d → g d = some res → ∀ Q : VK,
  (∀ v F' H', Ext T F al mu H F' al mu H' → RN T H F' al mu H' v res → Q v H') → r [x] H Q
def dNw1 (g : D → Option MO) (f : EF) : NF := dBind f fun d _ mu => match g d with
  | some r => .ok r mu
  | none => .bad
section
variable {X : Cx} {cl : Nat → Addr} {W : WX} {a b e : PySem.Expr} {f fa fb : EF} {pos p1 : Pos} {x : Str} {id : String} {r : List V → Hp → VK → Prop}
theorem dk_look (h : DE X cl W e f) : DKk X cl W e (dLook f) := PE.imp h fun σ H Q q => by
  obtain ⟨F, al, sl, mu, w, po⟩ := q
  refine ⟨F, al, sl, mu, w, ?_⟩
  unfold dLook dBind obind at po
  cases z : f sl mu with
  | ok d mu1 =>
    rw [z] at po
    exact fun v F1 al1 H1 x1 r1 => po v F1 al1 H1 x1 (top_look x1.mus r1)
  | ex c fs mu1 => rw [z] at po; exact po
  | bad => rw [z] at po; exact po
theorem tCB1 {g : D → Option D} (hr : Pur1K (Cx.th X cl) r g) {σ : St} {H : Hp} {Q : VK} (q : tG (Cx.th X cl) W (RD (Cx.th X cl)) (dOp1 g f) σ H Q) : tCB r (tCons (tG (Cx.th X cl) W (RK (Cx.th X cl)) f) tNil) σ H Q := by
  obtain ⟨F, al, sl, mu, w, po⟩ := q
  refine seqG back_RD w po rfl fun v d F1 al1 mu1 H1 x1 w1 r1 po1 => ?_
  dsimp only at po1
  cases z : g d with
  | none => rw [z] at po1; exact False.elim po1
  | some res =>
    rw [z] at po1
    exact hr F1 al1 mu1 H1 w1.toMus v d res r1 z Q fun v' F' H' x' r' => po1 v' F' al1 H' x' r'
theorem tCB1N {g : D → Option MO} (hr : Pur1N (Cx.th X cl) r g) {σ : St} {H : Hp} {Q : VK} (q : tG (Cx.th X cl) W (RN (Cx.th X cl)) (dNw1 g f) σ H Q) : tCB r (tCons (tG (Cx.th X cl) W (RK (Cx.th X cl)) f) tNil) σ H Q := by
  obtain ⟨F, al, sl, mu, w, po⟩ := q
  refine seqG back_RN w po rfl fun v d F1 al1 mu1 H1 x1 w1 r1 po1 => ?_
  dsimp only at po1
  cases z : g d with
  | none => rw [z] at po1; exact False.elim po1
  | some res =>
    rw [z] at po1
    exact hr F1 al1 mu1 H1 w1.toMus v d res r1 z Q fun v' F' H' x' r' => po1 v' F' al1 H' x' r'
theorem de_b1 {g : D → Option D} (hc : CallR X (.builtin id) r) (hr : Pur1K (Cx.th X cl) r g) (hg : Gl X x) (hm : X.mg x = none) (hv : bootBuiltins x = some (.builtin id)) (h : DKk X cl W e f) (hn : x ≠ "__name__" := by decide) (hdb : (x == ("__debug__" : Str)) = false := by decide)
    (he : starEach [e] X.env = (false, eval e X.env) :: starEach [] X.env := by rfl) (hpl : (backTo pos (starEach [] X.env)).any (·.1) = false := by rfl) : DE X cl W (.Call (.Name x p1) [e] [] pos) (dOp1 g f) :=
  PE.imp (pe_callB hc hg hm hv (pa_cons h pa_nil he) hn hdb he hpl) fun σ H Q q => tCB1 hr q
theorem de_t1 {g : D → Option D} (hc : CallR X (.type id) r) (hr : Pur1K (Cx.th X cl) r g) (hg : Gl X x) (hm : X.mg x = none) (hv : bootBuiltins x = some (.type id)) (h : DKk X cl W e f) (hn : x ≠ "__name__" := by decide) (hdb : (x == ("__debug__" : Str)) = false := by decide)
    (he : starEach [e] X.env = (false, eval e X.env) :: starEach [] X.env := by rfl) (hpl : (backTo pos (starEach [] X.env)).any (·.1) = false := by rfl) : DE X cl W (.Call (.Name x p1) [e] [] pos) (dOp1 g f) :=
  PE.imp (pe_callTy hc hg hm hv (pa_cons h pa_nil he) hn hdb he hpl) fun σ H Q q => tCB1 hr q
theorem dn_b1 {g : D → Option MO} (hc : CallR X (.builtin id) r) (hr : Pur1N (Cx.th X cl) r g) (hg : Gl X x) (hm : X.mg x = none) (hv : bootBuiltins x = some (.builtin id)) (h : DKk X cl W e f) (hn : x ≠ "__name__" := by decide) (hdb : (x == ("__debug__" : Str)) = false := by decide)
    (he : starEach [e] X.env = (false, eval e X.env) :: starEach [] X.env := by rfl) (hpl : (backTo pos (starEach [] X.env)).any (·.1) = false := by rfl) : DN X cl W (.Call (.Name x p1) [e] [] pos) (dNw1 g f) :=
  PE.imp (pe_callB hc hg hm hv (pa_cons h pa_nil he) hn hdb he hpl) fun σ H Q q => tCB1N hr q
def lenD : D → Option D
  | .lst l => some (.int l.length)
  | .tup l => some (.int l.length)
  | .str z => if z.length ≤ 16000000 then some (.int z.length) else none
  | _ => none
theorem de_len (hg : Gl X "len") (hm : X.mg "len" = none) (h : DKk X cl W e f) (he : starEach [e] X.env = (false, eval e X.env) :: starEach [] X.env := by rfl) (hpl : (backTo pos (starEach [] X.env)).any (·.1) = false := by rfl) : DE X cl W (.Call (.Name "len" p1) [e] [] pos) (dOp1 lenD f) := by
  refine de_b1 (CallR.or call_len_seq call_len_str) (fun F al mu H m x d res t e Q k => ?_) hg hm boot_len h (by decide) (by decide) he hpl
  cases d with
  | lst l =>
    cases e
    obtain ⟨a, xs, rfl, h1, h2⟩ := t
    exact .inl ⟨a, xs, rfl, .inl (SqL.of h1), k _ F H (Ext.refl m) (by rw [RpL.len h2]; exact .int _)⟩
  | tup l =>
    cases e
    cases (show Rp _ _ _ _ _ _ from t) with
    | tup h1 h2 => exact .inl ⟨_, _, rfl, .inr (sqT_mono m.sub h1), k _ F H (Ext.refl m) (by rw [RpL.len h2]; exact .int _)⟩
  | str z =>
    have e' : (if z.length ≤ 16000000 then some (D.int z.length) else none) = some res := e
    by_cases hz : z.length ≤ 16000000
    · rw [if_pos hz] at e'
      cases e'
      cases (show Rp _ _ _ _ _ _ from t)
      exact .inr ⟨z, rfl, by rw [sizeLine_eq]; omega, k _ F H (Ext.refl m) (.int _)⟩
    · rw [if_neg hz] at e'
      cases e'
  | _ => cases e
def absD : D → Option D
  | .int i => some (.int (if i < 0 then -i else i))
  | _ => none
theorem de_abs (hg : Gl X "abs") (hm : X.mg "abs" = none) (h : DKk X cl W e f) (he : starEach [e] X.env = (false, eval e X.env) :: starEach [] X.env := by rfl) (hpl : (backTo pos (starEach [] X.env)).any (·.1) = false := by rfl) : DE X cl W (.Call (.Name "abs" p1) [e] [] pos) (dOp1 absD f) := by
  refine de_b1 call_abs (fun F al mu H m x d res t e Q k => ?_) hg hm (by decide +kernel) h (by decide) (by decide) he hpl
  cases d with
  | int i =>
    cases e
    cases (show Rp _ _ _ _ _ _ from t)
    exact ⟨_, rfl, k _ F H (Ext.refl m) (.int _)⟩
  | _ => cases e
def intD : D → Option D
  | .int i => some (.int i)
  | .bl b => some (.int (if b then 1 else 0))
  | _ => none
theorem de_int1 (hg : Gl X "int") (hm : X.mg "int" = none) (h : DKk X cl W e f) (he : starEach [e] X.env = (false, eval e X.env) :: starEach [] X.env := by rfl) (hpl : (backTo pos (starEach [] X.env)).any (·.1) = false := by rfl) : DE X cl W (.Call (.Name "int" p1) [e] [] pos) (dOp1 intD f) := by
  refine de_t1 call_int1 (fun F al mu H m x d res t e Q k => ?_) hg hm (by decide +kernel) h (by decide) (by decide) he hpl
  cases d with
  | int i =>
    cases e
    cases (show Rp _ _ _ _ _ _ from t)
    exact .inl ⟨_, rfl, k _ F H (Ext.refl m) (.int _)⟩
  | bl i =>
    cases e
    cases (show Rp _ _ _ _ _ _ from t)
    exact .inr ⟨_, rfl, k _ F H (Ext.refl m) (.int _)⟩
  | _ => cases e
theorem rn_new {T : Th} {F H : Hp} {al : Nat → Addr} {mu : Store} {p : Addr} {o : HO} {m : MO} (M : Mus T F al mu H) (hp : H p = none) (c : Conc T F al mu.length o m) : RN T H F al mu (upd H p o) (.ref p) m := ⟨p, o, rfl, .of hp, M.F_none hp, upd_same, c, Mus.ne_laid M hp⟩
def tupleD : D → Option D
  | .lst l => some (.tup l)
  | .tup l => some (.tup l)
  | _ => none
theorem de_tuple (hg : Gl X "tuple") (hm : X.mg "tuple" = none) (h : DKk X cl W e f) (he : starEach [e] X.env = (false, eval e X.env) :: starEach [] X.env := by rfl) (hpl : (backTo pos (starEach [] X.env)).any (·.1) = false := by rfl) : DE X cl W (.Call (.Name "tuple" p1) [e] [] pos) (dOp1 tupleD f) := by
  refine de_t1 call_tuple_of (fun F al mu H m x d res t e Q k => ?_) hg hm (by decide +kernel) h (by decide) (by decide) he hpl
  cases d with
  | lst l =>
    cases e
    obtain ⟨a, xs, rfl, h1, h2⟩ := t
    exact ⟨a, xs, rfl, .inl ⟨SqL.of h1, fun p hp => k _ _ _ (Ext.laidF m (o := .tup xs) hp) (.tup upd_same ((Ext.laidF m hp).rpL h2))⟩⟩
  | tup l =>
    cases e
    cases (show Rp _ _ _ _ _ _ from t) with
    | @tup a xs ds h1 h2 => exact ⟨a, xs, rfl, .inr ⟨sqT_mono m.sub h1, k _ F H (Ext.refl m) (.tup h1 h2)⟩⟩
  | _ => cases e
/-- a list of truth values -/
def boolsD : List D → Option (List Bool)
  | [] => some []
  | .bl b :: l => (boolsD l).map (b :: ·)
  | _ => none
def allD : D → Option D
  | .lst l => (boolsD l).map fun bs => .bl (bs.all _root_.id)
  | _ => none
theorem boolsD_rp {T : Th} {F : Hp} {al : Nat → Addr} {n : Nat} : ∀ {l : List D} {xs : List V} {bs : List Bool}, RpL T F al n xs l → boolsD l = some bs → xs = bs.map V.bl
  | [], _, _, r, e => by cases r; cases e; rfl
  | d :: l, _, bs, r, e => by
    cases r with
    | cons r1 r2 =>
      cases d with
      | bl b =>
        cases r1
        obtain ⟨bs', h1, rfl⟩ := Option.map_eq_some_iff.mp e
        rw [boolsD_rp r2 h1]; rfl
      | _ => cases e
theorem de_all (hc : X.calm = true) (hg : Gl X "all") (hm : X.mg "all" = none) (h : DKk X cl W e f) (he : starEach [e] X.env = (false, eval e X.env) :: starEach [] X.env := by rfl) (hpl : (backTo pos (starEach [] X.env)).any (·.1) = false := by rfl) : DE X cl W (.Call (.Name "all" p1) [e] [] pos) (dOp1 allD f) := by
  refine de_b1 (cr_all hc) (fun F al mu H m x d res t e Q k => ?_) hg hm (by decide +kernel) h (by decide) (by decide) he hpl
  cases d with
  | lst l =>
    obtain ⟨bs, h1, rfl⟩ := Option.map_eq_some_iff.mp e
    obtain ⟨a, xs, rfl, h2, h3⟩ := t
    exact ⟨a, bs, rfl, by rw [← boolsD_rp h3 h1]; exact SqL.of h2, k _ F H (Ext.refl m) (.bl _)⟩
  | _ => cases e
end
end DL
end

section
set_option Elab.async false
set_option linter.all false
set_option maxRecDepth 100000
set_option maxHeartbeats 4000000
/-! DM: arithmetic, comparisons, in, is, subscripts, slices. -/
namespace DL
open PySem L2
mutual
def toP : D → Option PyData
  | .non => some .none
  | .bl b => some (.bool b)
  | .int i => some (.int i)
  | .str x => some (.str x)
  | .lst l => match toPL l with
    | some ps => some (.list ps)
    | none => none
  | .tup l => match toPL l with
    | some ps => some (.tuple ps)
    | none => none
  | .dct _ => none
  | .ins _ _ => none
  | .obj _ => none
  | .frl _ => none
def toPL : List D → Option (List PyData)
  | [] => some []
  | d :: ds => match toP d, toPL ds with
    | some p, some ps => some (p :: ps)
    | _, _ => none
end
mutual
theorem toP_plain : ∀ {d : D} {p : PyData}, toP d = some p → p.plain = true
  | .non, _, h => by cases h; rfl
  | .bl b, _, h => by cases h; rfl
  | .int i, _, h => by cases h; rfl
  | .str x, _, h => by cases h; rfl
  | .lst l, p, h => by
    unfold toP at h
    split at h
    · rename_i ps e
      cases h
      show PyData.plainAll ps = true
      exact toPL_plain e
    · cases h
  | .tup l, p, h => by
    unfold toP at h
    split at h
    · rename_i ps e
      cases h
      show PyData.plainAll ps = true
      exact toPL_plain e
    · cases h
  | .dct _, _, h => by cases h
  | .ins _ _, _, h => by cases h
  | .obj _, _, h => by cases h
  | .frl _, _, h => by cases h
theorem toPL_plain : ∀ {l : List D} {ps : List PyData}, toPL l = some ps → PyData.plainAll ps = true
  | [], _, h => by cases h; rfl
  | d :: ds, _, h => by
    unfold toPL at h
    split at h
    · rename_i p ps e1 e2
      cases h
      show (p.plain && PyData.plainAll ps) = true
      rw [toP_plain e1, toPL_plain e2]; rfl
    · cases h
end
section
variable {T : Th} {F H : Hp} {al : Nat → Addr} {n : Nat}
mutual
theorem Rp.dp (s : ∀ a o, F a = some o → H a = some o) : ∀ {d : D} {v : V} {p : PyData}, Rp T F al n v d → toP d = some p → Dp T.K H v p
  | .non, _, _, r, h => by cases h; cases r; exact .non
  | .bl b, _, _, r, h => by cases h; cases r; exact .bl b
  | .int i, _, _, r, h => by cases h; cases r; exact .int i
  | .str x, _, _, r, h => by cases h; cases r; exact .str x
  | .lst l, v, p, r, h => by
    unfold toP at h
    split at h
    · rename_i ps e
      cases h
      cases r with
      | lst h1 h2 => exact .lst (SqL.of (s _ _ h1)) (RpL.dp s h2 e)
    · cases h
  | .tup l, v, p, r, h => by
    unfold toP at h
    split at h
    · rename_i ps e
      cases h
      cases r with
      | tup h1 h2 => exact .tup (sqT_mono s h1) (RpL.dp s h2 e)
    · cases h
  | .dct _, _, _, _, h => by cases h
  | .ins _ _, _, _, _, h => by cases h
  | .obj _, _, _, _, h => by cases h
  | .frl _, _, _, _, h => by cases h
theorem RpL.dp (s : ∀ a o, F a = some o → H a = some o) : ∀ {l : List D} {vs : List V} {ps : List PyData}, RpL T F al n vs l → toPL l = some ps → DpAll T.K H vs ps
  | [], _, _, r, h => by cases h; cases r; exact .nil
  | d :: ds, _, _, r, h => by
    unfold toPL at h
    split at h
    · rename_i p ps e1 e2
      cases h
      cases r with
      | cons r1 r2 => exact .cons (Rp.dp s r1 e1) (RpL.dp s r2 e2)
    · cases h
end
end
/-! ### == -/
def eqD (d e : D) : Option Bool := match toP d, toP e with
  | some p, some q => if min p.depth q.depth ≤ 60 then some (PyData.eqv p q) else none
  | _, _ => none
def neD (d e : D) : Option Bool := (eqD d e).map (!·)
def rEqP (K : PySem.W.Frag) : R2 := fun x y H Q => ∃ d e, Dp K H x d ∧ Dp K H y e ∧ d.plain = true ∧ e.plain = true ∧ min d.depth e.depth ≤ 60 ∧ Q (.bl (PyData.eqv d e)) H
def rNeP (K : PySem.W.Frag) : R2 := fun x y H Q => ∃ d e, Dp K H x d ∧ Dp K H y e ∧ d.plain = true ∧ e.plain = true ∧ min d.depth e.depth ≤ 60 ∧ Q (.bl (!PyData.eqv d e)) H
section
variable {X : Cx} {cl : Nat → Addr} {W : WX} {a b e : PySem.Expr} {f fa fb : EF} {pos p1 : Pos} {x : Str}
theorem op_eqP (hu : X.A.units + 64 < cLine) : OpR X (compareOp .Eq) (rEqP X.K) := by
  intro pins s σ H x y v u Q I rx ry h
  obtain ⟨d, e, hd, he, sd, se, hm, q⟩ := h
  obtain ⟨as, r1⟩ := Dp.reads I d x v hd rx
  obtain ⟨bs, r2⟩ := Dp.reads I e y u he ry
  exact SeqAt.eq_plain r1 r2 sd se (by omega) ⟨.bl _, H, I, rfl, q⟩
theorem op_neP (hu : X.A.units + 64 < cLine) : OpR X (compareOp .NotEq) (rNeP X.K) := by
  intro pins s σ H x y v u Q I rx ry h
  obtain ⟨d, e, hd, he, sd, se, hm, q⟩ := h
  obtain ⟨as, r1⟩ := Dp.reads I d x v hd rx
  obtain ⟨bs, r2⟩ := Dp.reads I e y u he ry
  exact SeqAt.ne_plain r1 r2 sd se (by omega) ⟨.bl _, H, I, rfl, q⟩
theorem pur_eq {T : Th} : PurB T (rEqP T.K) eqD := fun F al mu H m x y d e res rx ry z Q k => by
  unfold eqD at z
  split at z
  · rename_i p q e1 e2
    split at z
    · rename_i hm
      cases z
      exact ⟨p, q, rx.dp m.sub e1, ry.dp m.sub e2, toP_plain e1, toP_plain e2, hm, k⟩
    · cases z
  · cases z
theorem pur_ne {T : Th} : PurB T (rNeP T.K) neD := fun F al mu H m x y d e res rx ry z Q k => by
  obtain ⟨b, z1, rfl⟩ := Option.map_eq_some_iff.mp z
  unfold eqD at z1
  split at z1
  · rename_i p q e1 e2
    split at z1
    · rename_i hm
      cases z1
      exact ⟨p, q, rx.dp m.sub e1, ry.dp m.sub e2, toP_plain e1, toP_plain e2, hm, k⟩
    · cases z1
  · cases z1
theorem de_eq (hu : X.A.units + 64 < cLine) (ha : DE X cl W a fa) (hb : DE X cl W b fb) : DE X cl W (.Compare a [.Eq] [b] pos) (dB2v (dCmp eqD fa fb)) := de_cmp (op_eqP hu) (nobehind _ (by decide) (by decide)) (pur_eq (T := Cx.th X cl)) ha hb
def cmpI (p : Int → Int → Bool) : D → D → Option Bool
  | .int i, .int j => some (p i j)
  | _, _ => none
theorem pur_int {T : Th} {p : Int → Int → Bool} : PurB T (rI0 fun i j => .bl (p i j)) (cmpI p) := fun F al mu H m x y d e res rx ry z Q k => by
  cases d with
  | int i =>
    cases e with
    | int j =>
      cases z
      cases rx
      cases ry
      exact ⟨i, j, rfl, rfl, k⟩
    | _ => cases z
  | _ => cases z
abbrev leI := cmpI fun i j => decide (i ≤ j)
abbrev gtI := cmpI fun i j => decide (j < i)
abbrev geI := cmpI fun i j => decide (j ≤ i)
theorem de_gt (ha : DE X cl W a fa) (hb : DE X cl W b fb) : DE X cl W (.Compare a [.Gt] [b] pos) (dB2v (dCmp gtI fa fb)) := de_cmp op_gt (nobehind _ (by decide) (by decide)) pur_int ha hb
def intsD : List D → Option (List Int)
  | [] => some []
  | .int i :: l => (intsD l).map (i :: ·)
  | _ => none
theorem intsD_rp {T : Th} {F : Hp} {al : Nat → Addr} {n : Nat} : ∀ {l : List D} {xs : List V} {is : List Int}, RpL T F al n xs l → intsD l = some is → xs = is.map V.int
  | [], _, _, r, e => by cases r; cases e; rfl
  | d :: l, _, is, r, e => by
    cases r with
    | cons r1 r2 =>
      cases d with
      | int i =>
        cases r1
        obtain ⟨is', h1, rfl⟩ := Option.map_eq_some_iff.mp e
        rw [intsD_rp r2 h1]; rfl
      | _ => cases e
def ltD : D → D → Option Bool
  | .int i, .int j => some (decide (i < j))
  | .tup l, .tup m => match intsD l, intsD m with
    | some is, some js => some (HT.lexLt is js)
    | _, _ => none
  | _, _ => none
theorem pur_lt {T : Th} : PurB T (fun x y H Q => rI0 (fun i j => .bl (decide (i < j))) x y H Q ∨ rLtT T.K x y H Q) ltD := fun F al mu H m x y d e res rx ry z Q k => by
  cases d with
  | int i =>
    cases e with
    | int j =>
      cases z
      cases rx
      cases ry
      exact .inl ⟨i, j, rfl, rfl, k⟩
    | _ => cases z
  | tup l =>
    cases e with
    | tup l' =>
      have z' : (match intsD l, intsD l' with
        | some is, some js => some (HT.lexLt is js)
        | _, _ => none) = some res := z
      split at z'
      · rename_i is js e1 e2
        cases z'
        cases rx with
        | tup h1 h2 =>
          cases ry with
          | tup h3 h4 =>
            rw [intsD_rp h2 e1] at h1
            rw [intsD_rp h4 e2] at h3
            exact .inr ⟨_, _, is, js, rfl, rfl, sqT_mono m.sub h1, sqT_mono m.sub h3, k⟩
      · cases z'
    | _ => cases z
  | _ => cases z
/-- a <= b <= c of ints -/
def dChn (g h : D → D → Option Bool) (fa fb fc : EF) : BF := dBind fa fun x => dBind fb fun y sl mu => match g x y with
  | some true => obind (fc sl mu) fun z mu => match h y z with
    | some r => .ok r mu
    | none => .bad
  | some false => .ok false mu
  | none => .bad
theorem de_chain {op op' : CmpOp} {r r' : R2} {g h : D → D → Option Bool} {c : PySem.Expr} {fc : EF} (ho : OpR X (compareOp op) r) (ho' : OpR X (compareOp op') r') (hr : PurB (Cx.th X cl) r g) (hr' : PurB (Cx.th X cl) r' h) (ha : DE X cl W a fa) (hb : DE X cl W b fb) (hc : DE X cl W c fc)
    (he : ∀ {ta tb tc : TE}, PE X a ta → PE X b tb → PE X c tc → PE X (.Compare a [op, op'] [b, c] pos) (tChain r r' ta tb tc)) : DE X cl W (.Compare a [op, op'] [b, c] pos) (dB2v (dChn g h fa fb fc)) :=
  PE.imp (he ha hb hc) fun σ H Q q => by
    obtain ⟨F, al, sl, mu, w, po⟩ := tV2B q
    refine seqG back_RB w po rfl fun v d F1 al1 mu1 H1 x1 w1 r1 po1 => ?_
    refine seqG back_RB w1 po1 rfl fun u e F2 al2 mu2 H2 x2 w2 r2 po2 => ?_
    try dsimp only at po2
    cases z : g d e with
    | none => rw [z] at po2; exact False.elim po2
    | some k =>
      rw [z] at po2
      refine hr F2 al2 mu2 H2 w2.toMus v u d e k (x2.rp r1) r2 z _ ⟨k, rfl, ?_⟩
      cases k with
      | false =>
        rw [if_neg Bool.false_ne_true]
        exact Po.here (R := RB) (Q := fun c H' => Q (.bl c) H') po2 w2.toMus rfl
      | true =>
        rw [if_pos rfl]
        refine seqG back_RB w2 po2 rfl fun t e3 F3 al3 mu3 H3 x3 w3 r3 po3 => ?_
        try dsimp only at po3
        cases z2 : h e e3 with
        | none => rw [z2] at po3; exact False.elim po3
        | some k2 =>
          rw [z2] at po3
          exact hr' F3 al3 mu3 H3 w3.toMus u t e e3 k2 (x3.rp r2) r3 z2 _ (Po.here (R := RB) (Q := fun c H' => Q (.bl c) H') po3 w3.toMus rfl)

/-! ### is -/
def isNon : D → Bool
  | .non => true
  | _ => false
theorem Rp.isNon {T : Th} {F : Hp} {al : Nat → Addr} {n : Nat} {v : V} {d : D} (r : Rp T F al n v d) : decide (v = .non) = DL.isNon d := by
  cases r <;> first | rfl | (apply decide_eq_false; intro h; cases h)
def dIsN (f : EF) : BF := dBind f fun d _ mu => .ok (isNon d) mu
def dNotN (f : EF) : BF := dBind f fun d _ mu => .ok (!isNon d) mu
theorem de_isN {j : Nat} {p2 : Pos} (h : DE X cl W a f) : DE X cl W (.Compare a [.Is] [.Constant .none j p2] pos) (dB2v (dIsN f)) := PE.imp (pe_cmp (pc_isN h) rfl) fun σ H Q q => by
  obtain ⟨F, al, sl, mu, w, po⟩ := tV2B q
  refine seqG back_RB w po rfl fun v d F1 al1 mu1 H1 x1 w1 r1 po1 => ?_
  rw [Rp.isNon r1]
  exact Po.here (R := RB) (Q := fun c H' => Q (.bl c) H') po1 w1.toMus rfl
def addD : D → D → Option D
  | .int i, .int j => some (.int (i + j))
  | .str x, .str y => if x.length + y.length ≤ 16000000 then some (.str (x ++ y)) else none
  | .lst l, .lst m => if l.length + m.length ≤ 16000000 then some (.lst (l ++ m)) else none
  | .tup l, .tup m => if l.length + m.length ≤ 16000000 then some (.tup (l ++ m)) else none
  | _, _ => none
theorem RpL.append {T : Th} {F : Hp} {al : Nat → Addr} {n : Nat} {vs us : List V} {ds es : List D} (h : RpL T F al n vs ds) (k : RpL T F al n us es) : RpL T F al n (vs ++ us) (ds ++ es) := by
  induction vs generalizing ds with
  | nil => cases h; exact k
  | cons v vs ih =>
    cases h with
    | cons h1 h2 => exact .cons h1 (ih h2)
abbrev rAdd4 (K : PySem.W.Frag) : R2 := fun x y H Q => (rI0 (fun i j => .int (i + j)) x y H Q ∨ ∃ i j, x = .str i ∧ y = .str j ∧ i.length + j.length ≤ sizeLine ∧ Q (.str (i ++ j)) H) ∨ rCat x y H Q ∨ rCatA K x y H Q
theorem pur_add {T : Th} : Pur2 T (rAdd4 T.K) addD := fun F al mu H m x y d e res rx ry z Q k => by
  cases d with
  | int i =>
    cases e with
    | int j => cases z; cases rx; cases ry; exact .inl (.inl ⟨i, j, rfl, rfl, k _ F H (Ext.refl m) (.int _)⟩)
    | _ => cases z
  | str i =>
    cases e with
    | str j =>
      have z' : (if i.length + j.length ≤ 16000000 then some (D.str (i ++ j)) else none) = some res := z
      split at z'
      · rename_i hz
        cases z'
        cases rx
        cases ry
        exact .inl (.inr ⟨i, j, rfl, rfl, by rw [sizeLine_eq]; omega, k _ F H (Ext.refl m) (.str _)⟩)
      · cases z'
    | _ => cases z
  | lst l =>
    cases e with
    | lst l' =>
      have z' : (if l.length + l'.length ≤ 16000000 then some (D.lst (l ++ l')) else none) = some res := z
      split at z'
      · rename_i hz
        cases z'
        cases rx with
        | @lst p xs ds h1 h2 =>
          cases ry with
          | @lst q ys es h3 h4 =>
            have e1 := RpL.len h2
            have e2 := RpL.len h4
            exact .inr (.inl ⟨p, q, xs, ys, rfl, rfl, m.sub _ _ h1, m.sub _ _ h3, by rw [sizeLine_eq]; omega, fun r hr => k _ _ _ (Ext.laidF m (o := .lst (xs ++ ys)) hr) (.lst upd_same ((Ext.laidF m hr).rpL (h2.append h4)))⟩)
      · cases z'
    | _ => cases z
  | tup l =>
    cases e with
    | tup l' =>
      have z' : (if l.length + l'.length ≤ 16000000 then some (D.tup (l ++ l')) else none) = some res := z
      split at z'
      · rename_i hz
        cases z'
        cases rx with
        | @tup p xs ds h1 h2 =>
          cases ry with
          | @tup q ys es h3 h4 =>
            have e1 := RpL.len h2
            have e2 := RpL.len h4
            refine .inr (.inr ⟨p, q, xs, ys, rfl, rfl, sqT_mono m.sub h1, sqT_mono m.sub h3, by rw [sizeLine_eq]; omega, fun e => ?_, fun _ e => ?_, fun _ _ r hr => ?_⟩)
            · subst e
              cases h2
              exact k _ F H (Ext.refl m) (.tup h3 h4)
            · subst e
              cases h4
              rw [List.append_nil] at k
              exact k _ F H (Ext.refl m) (.tup h1 h2)
            · exact k _ _ _ (Ext.laidF m (o := .tup (xs ++ ys)) hr) (.tup upd_same ((Ext.laidF m hr).rpL (h2.append h4)))
      · cases z'
    | _ => cases z
  | _ => cases z
theorem de_add (ha : DE X cl W a fa) (hb : DE X cl W b fb) : DE X cl W (.BinOp a .Add b pos) (dOp2 addD fa fb) := de_op (OpR.or (OpR.or op_add op_add_str) (OpR.or op_cat op_catA)) (pur_add (T := Cx.th X cl)) ha hb
def arI (c : Int → Int → Bool) (g : Int → Int → Int) : D → D → Option D
  | .int i, .int j => if c i j = true then some (.int (g i j)) else none
  | _, _ => none
theorem pur_ar {T : Th} {c : Int → Int → Bool} {C : Int → Int → Prop} {g : Int → Int → Int} (hc : ∀ i j, c i j = true → C i j) : Pur2 T (rI C fun i j => .int (g i j)) (arI c g) := fun F al mu H m x y d e res rx ry z Q k => by
  cases d with
  | int i =>
    cases e with
    | int j =>
      have z' : (if c i j = true then some (D.int (g i j)) else none) = some res := z
      split at z'
      · rename_i h
        cases z'
        cases rx
        cases ry
        exact ⟨i, j, rfl, rfl, hc i j h, k _ F H (Ext.refl m) (.int _)⟩
      · cases z'
    | _ => cases z
  | _ => cases z
def subD : D → D → Option D
  | .int i, .int j => some (.int (i - j))
  | _, _ => none
theorem de_sub (ha : DE X cl W a fa) (hb : DE X cl W b fb) : DE X cl W (.BinOp a .Sub b pos) (dOp2 subD fa fb) := de_op op_sub (fun F al mu H m x y d e res rx ry z Q k => by
  cases d with
  | int i =>
    cases e with
    | int j => cases z; cases rx; cases ry; exact ⟨i, j, rfl, rfl, k _ F H (Ext.refl m) (.int _)⟩
    | _ => cases z
  | _ => cases z) ha hb
abbrev modD := arI (fun _ j => decide (0 < j)) fun i j => i % j
abbrev divD := arI (fun _ j => decide (0 < j ∧ j < 2 ^ 60)) fun i j => i / j
abbrev powD := arI (fun i j => decide (0 ≤ j ∧ j ≤ 1000 ∧ i.natAbs < 2 ^ 64)) fun i j => i ^ j.toNat
theorem de_mod (ha : DE X cl W a fa) (hb : DE X cl W b fb) : DE X cl W (.BinOp a .Mod b pos) (dOp2 modD fa fb) := de_op op_mod (pur_ar fun i j h => of_decide_eq_true h) ha hb
theorem de_div (ha : DE X cl W a fa) (hb : DE X cl W b fb) : DE X cl W (.BinOp a .FloorDiv b pos) (dOp2 divD fa fb) := de_op op_fdivW (pur_ar fun i j h => by
  obtain ⟨h1, h2⟩ := of_decide_eq_true h
  exact wide_div (b := 60) h1 (by omega) (by decide) (by decide)) ha hb
theorem de_pow (ha : DE X cl W a fa) (hb : DE X cl W b fb) : DE X cl W (.BinOp a .Pow b pos) (dOp2 powD fa fb) := de_op op_pow (pur_ar fun i j h => by
  obtain ⟨h1, h2, h3⟩ := of_decide_eq_true h
  exact ⟨h1, by omega, h3⟩) ha hb
def mulD : D → D → Option D
  | .int i, .int j => if -(2 ^ 64) < i ∧ i < 2 ^ 64 then some (.int (i * j)) else none
  | .lst l, .int j => if rgOk j = true ∧ l.length * j.toNat ≤ 16000000 then some (.lst (List.replicate j.toNat l).flatten) else none
  | _, _ => none
theorem rpL_rep {T : Th} {F : Hp} {al : Nat → Addr} {n : Nat} {vs : List V} {ds : List D} (h : RpL T F al n vs ds) : ∀ k : Nat, RpL T F al n (List.replicate k vs).flatten (List.replicate k ds).flatten
  | 0 => .nil
  | k + 1 => by
    rw [List.replicate_succ, List.replicate_succ, List.flatten_cons, List.flatten_cons]
    exact h.append (rpL_rep h k)
theorem de_mul (ha : DE X cl W a fa) (hb : DE X cl W b fb) : DE X cl W (.BinOp a .Mult b pos) (dOp2 mulD fa fb) := de_op (OpR.or op_mul op_rep) (fun F al mu H m x y d e res rx ry z Q k => by
  cases d with
  | int i =>
    cases e with
    | int j =>
      have z' : (if -(2 ^ 64) < i ∧ i < 2 ^ 64 then some (D.int (i * j)) else none) = some res := z
      split at z'
      · rename_i h
        cases z'
        cases rx
        cases ry
        exact .inl ⟨i, j, rfl, rfl, .inl h, k _ F H (Ext.refl m) (.int _)⟩
      · cases z'
    | _ => cases z
  | lst l =>
    cases e with
    | int j =>
      have z' : (if rgOk j = true ∧ l.length * j.toNat ≤ 16000000 then some (D.lst (List.replicate j.toNat l).flatten) else none) = some res := z
      split at z'
      · rename_i h
        cases z'
        cases ry
        cases rx with
        | @lst p xs ds h1 h2 =>
          have hj := rgOk_of h.1
          refine .inr ⟨p, j, xs, rfl, rfl, m.sub _ _ h1, by omega, by omega, by rw [sizeLine_eq, RpL.len h2]; omega, fun r hr => k _ _ _ (Ext.laidF m (o := .lst _) hr) (.lst upd_same ((Ext.laidF m hr).rpL (rpL_rep h2 _)))⟩
      · cases z'
    | _ => cases z
  | _ => cases z) ha hb
def negD : D → Option D
  | .int i => some (.int (-i))
  | _ => none
theorem de_neg (h : DE X cl W a f) : DE X cl W (.UnaryOp .USub a pos) (dOp1 negD f) := PE.imp (pe_un un_neg h) fun σ H Q q => by
  obtain ⟨F, al, sl, mu, w, po⟩ := q
  refine seqG back_RD w po rfl fun v d F1 al1 mu1 H1 x1 w1 r1 po1 => ?_
  cases d with
  | int i => cases r1; exact ⟨i, rfl, Po.here po1 w1.toMus (.int _)⟩
  | _ => exact False.elim po1

/-! ### in -/
def inD (d : D) (c : D) : Option Bool := match c with
  | .lst l => match toP d, toPL l with
    | some p, some ps => if min (PyData.depthAll ps) p.depth ≤ 60 then some (ps.any fun y => PyData.eqv y p) else none
    | _, _ => none
  | .tup l => match toP d, toPL l with
    | some p, some ps => if min (PyData.depthAll ps) p.depth ≤ 60 then some (ps.any fun y => PyData.eqv y p) else none
    | _, _ => none
  | .str z => match d with
    | .str y => match y.cps.toList with
      | [c] => some (decide (c ∈ z.cps.toList))
      | _ => none
    | _ => none
  | _ => none
def rInP (K : PySem.W.Frag) (neg : Bool) : R2 := fun x y H Q => ∃ d, Dp K H x d ∧ d.plain = true ∧ ∃ ps, (Dp K H y (.list ps) ∨ Dp K H y (.tuple ps)) ∧ PyData.plainAll ps = true ∧ min (PyData.depthAll ps) d.depth ≤ 60 ∧ Q (.bl (if neg then !(ps.any fun z => PyData.eqv z d) else ps.any fun z => PyData.eqv z d)) H
theorem op_inP (hu : X.A.units + 65 < cLine) : OpR X (compareOp .In) (rInP X.K false) := by
  intro pins s σ H x y v u Q I rx ry h
  obtain ⟨d, hd, sd, ps, he, sp, hm, q⟩ := h
  obtain ⟨as, r1⟩ := Dp.reads I d x v hd rx
  rcases he with he | he
  · obtain ⟨bs, r2⟩ := Dp.reads I _ y u he ry
    exact SeqAt.in_list_data r2 r1 sp sd (by omega) ⟨.bl _, H, I, rfl, q⟩
  · obtain ⟨bs, r2⟩ := Dp.reads I _ y u he ry
    exact SeqAt.in_tuple_data r2 r1 sp sd (by omega) ⟨.bl _, H, I, rfl, q⟩
theorem op_ninP (hu : X.A.units + 65 < cLine) : OpR X (compareOp .NotIn) (rInP X.K true) := by
  intro pins s σ H x y v u Q I rx ry h
  obtain ⟨d, hd, sd, ps, he, sp, hm, q⟩ := h
  obtain ⟨as, r1⟩ := Dp.reads I d x v hd rx
  rcases he with he | he
  · obtain ⟨bs, r2⟩ := Dp.reads I _ y u he ry
    exact SeqAt.notIn_list_data r2 r1 sp sd (by omega) ⟨.bl _, H, I, rfl, q⟩
  · obtain ⟨bs, r2⟩ := Dp.reads I _ y u he ry
    exact SeqAt.notIn_tuple_data r2 r1 sp sd (by omega) ⟨.bl _, H, I, rfl, q⟩
/-- the container looked into -/
def dIn (neg : Bool) (fa fb : EF) : BF := dBind fa fun x => dBind fb fun y _ mu => match inD x y with
  | some r => .ok (if neg then !r else r) mu
  | none => .bad
theorem in_reads {T : Th} {F : Hp} {al : Nat → Addr} {mu : Store} {H : Hp} {x y : V} {d c : D} {neg res : Bool} {Q : VK} (m : Mus T F al mu H) (rx : Rp T F al mu.length x d) (ry : Top T F al mu.length H y c) (z : inD d c = some res) (k : Q (.bl (if neg then !res else res)) H) :
    rInP T.K neg x y H Q ∨ ∃ (c : Nat) (z : Str), x = .str ⟨#[c]⟩ ∧ y = .str z ∧ Q (.bl (if neg then !decide (c ∈ z.cps.toList) else decide (c ∈ z.cps.toList))) H := by
  cases c with
  | lst l =>
    obtain ⟨a, xs, rfl, h1, h2⟩ := ry
    unfold inD at z
    dsimp only at z
    split at z
    · rename_i p ps e1 e2
      split at z
      · rename_i hm
        cases z
        exact .inl ⟨p, rx.dp m.sub e1, toP_plain e1, ps, .inl (.lst (SqL.of h1) (h2.dp m.sub e2)), toPL_plain e2, hm, k⟩
      · cases z
    · cases z
  | tup l =>
    cases (show Rp _ _ _ _ _ _ from ry) with
    | tup h1 h2 =>
      unfold inD at z
      dsimp only at z
      split at z
      · rename_i p ps e1 e2
        split at z
        · rename_i hm
          cases z
          exact .inl ⟨p, rx.dp m.sub e1, toP_plain e1, ps, .inr (.tup (sqT_mono m.sub h1) (h2.dp m.sub e2)), toPL_plain e2, hm, k⟩
        · cases z
      · cases z
  | str s =>
    cases (show Rp _ _ _ _ _ _ from ry)
    cases d with
    | str y =>
      unfold inD at z
      dsimp only at z
      split at z
      · rename_i c hc
        cases z
        cases rx
        obtain ⟨cps⟩ := y
        have e : cps = #[c] := by
          have hc' : cps.toList = [c] := hc
          rw [← Array.toArray_toList (xs := cps), hc']
        subst e
        exact .inr ⟨c, s, rfl, rfl, k⟩
      · cases z
    | _ => cases z
  | _ => cases z
theorem de_in (hu : X.A.units + 65 < cLine) (ha : DE X cl W a fa) (hb : DKk X cl W b fb) (hm : behindInMarks .In b = false) : DE X cl W (.Compare a [.In] [b] pos) (dB2v (dIn false fa fb)) :=
  PE.imp (pe_cmpR (OpR.or (op_inP hu) op_in_sign) ha hb hm) fun σ H Q q => by
    obtain ⟨F, al, sl, mu, w, po⟩ := tV2B q
    refine seqG back_RB w po rfl fun v d F1 al1 mu1 H1 x1 w1 r1 po1 => ?_
    refine seqG back_RB w1 po1 rfl fun u e F2 al2 mu2 H2 x2 w2 r2 po2 => ?_
    dsimp only at po2
    cases z : inD d e with
    | none => rw [z] at po2; exact False.elim po2
    | some r =>
      rw [z] at po2
      exact in_reads (neg := false) w2.toMus (x2.rp r1) r2 z (Po.here (R := RB) (Q := fun c H' => Q (.bl c) H') po2 w2.toMus rfl)
end
end DL
end

section
set_option Elab.async false
set_option linter.all false
set_option maxRecDepth 100000
set_option maxHeartbeats 4000000
/-! DN: subscripts, slices, isinstance, attributes. -/
namespace DL
open PySem L2
/-! ### subscripts -/
def ixD : D → D → Option D
  | .lst l, .int i => atI l i
  | .tup l, .int i => atI l i
  | .str z, .int i => if z.length ≤ 16000000 then (atI z.cps.toList i).map fun c => .str ⟨#[c]⟩ else none
  | _, _ => none
def dIx (f g : EF) : EF := dBind f fun d => dBind g fun y _ mu => match ixD (lookD mu d) y with
  | some r => .ok r mu
  | none => .bad
theorem atI_some {α : Type} {l : List α} {i : Int} {x : α} (h : atI l i = some x) : ∃ j, ixN l.length i = some j ∧ l[j]? = some x := by
  unfold atI at h
  cases q : ixN l.length i with
  | none => rw [q] at h; cases h
  | some j => rw [q] at h; exact ⟨j, rfl, h⟩
theorem RpL.atI {T : Th} {F : Hp} {al : Nat → Addr} {n : Nat} {xs : List V} {l : List D} {i : Int} {d : D} (r : RpL T F al n xs l) (h : L2.atI l i = some d) : ∃ v, L2.atI xs i = some v ∧ Rp T F al n v d := by
  obtain ⟨j, h1, h2⟩ := atI_some h
  obtain ⟨v, h3, h4⟩ := r.get h2
  refine ⟨v, ?_, h4⟩
  unfold L2.atI
  rw [RpL.len r, h1]
  exact h3
abbrev rIx3 (K : PySem.W.Frag) : R2 := fun x y H Q => rIxL K x y H Q ∨ rIxT K x y H Q ∨ rIxS x y H Q
theorem ix_top {T : Th} {F : Hp} {al : Nat → Addr} {mu : Store} {H : Hp} {x y : V} {d e res : D} {Q : VK} (m : Mus T F al mu H) (rx : Top T F al mu.length H x d) (ry : Rp T F al mu.length y e) (z : ixD d e = some res) (k : ∀ v, Rp T F al mu.length v res → Q v H) : rIx3 T.K x y H Q := by
  cases d with
  | lst l =>
    cases e with
    | int i =>
      cases ry
      obtain ⟨a, xs, rfl, h1, h2⟩ := rx
      obtain ⟨v, h3, h4⟩ := h2.atI (show L2.atI l i = some res from z)
      exact .inl ⟨a, xs, i, v, rfl, rfl, SqL.of h1, h3, k v h4⟩
    | _ => cases z
  | tup l =>
    cases e with
    | int i =>
      cases ry
      cases (show Rp _ _ _ _ _ _ from rx) with
      | tup h1 h2 =>
        obtain ⟨v, h3, h4⟩ := h2.atI (show L2.atI l i = some res from z)
        exact .inr (.inl ⟨_, _, i, v, rfl, rfl, sqT_mono m.sub h1, h3, k v h4⟩)
    | _ => cases z
  | str s =>
    cases e with
    | int i =>
      cases ry
      cases (show Rp _ _ _ _ _ _ from rx)
      have z' : (if s.length ≤ 16000000 then (L2.atI s.cps.toList i).map fun c => D.str ⟨#[c]⟩ else none) = some res := z
      split at z'
      · rename_i hs
        obtain ⟨c, h1, rfl⟩ := Option.map_eq_some_iff.mp z'
        exact .inr (.inr ⟨s, i, c, rfl, rfl, by rw [sizeLine_eq]; omega, h1, k _ (.str _)⟩)
      · cases z'
    | _ => cases z
  | _ => cases z
/-! ### slices -/
def cutG {α : Type} (xs : List α) (lo hi : Option Int) : List α := (xs.drop (HT.sIx xs.length 0 lo)).take (HT.sIx xs.length xs.length hi - HT.sIx xs.length 0 lo)
def sliceD (d : D) (lo hi : Option Int) : Option D := match d with
  | .lst l => some (.lst (cutG l lo hi))
  | .tup l => some (.tup (cutG l lo hi))
  | .frl l => some (.lst (cutG l lo hi))
  | .str z => if z.length ≤ 16000000 then some (.str (cutS z lo hi)) else none
  | _ => none
abbrev OF := Sl → Store → Out (Option Int)
def ROi : Rel (Option Int) (Option Int) := fun _ _ _ _ _ v d => v = d
abbrev DO (X : Cx) (cl : Nat → Addr) (W : WX) (e : Option PySem.Expr) (f : OF) : Prop := PO X e (tG (Cx.th X cl) W ROi f)
def dNoP : OF := fun _ mu => .ok none mu
def dP (f : EF) : OF := dBind f fun d _ mu => match d with
  | .int i => .ok (some i) mu
  | _ => .bad
def dSl (f : EF) (lo hi : OF) : EF := dBind f fun d => dBind lo fun l => dBind hi fun h _ mu => match sliceD (lookD mu d) l h with
  | some r => .ok r mu
  | none => .bad
theorem back_ROi : Back ROi := fun _ _ _ _ _ _ _ _ _ h => h
theorem RpL.take {T : Th} {F : Hp} {al : Nat → Addr} {n : Nat} : ∀ {xs : List V} {l : List D} (k : Nat), RpL T F al n xs l → RpL T F al n (xs.take k) (l.take k)
  | [], [], 0, _ => .nil
  | [], [], _ + 1, _ => .nil
  | _ :: _, _ :: _, 0, _ => .nil
  | _ :: _, _ :: _, k + 1, .cons r1 r2 => .cons r1 (RpL.take k r2)
  | [], _ :: _, _, h => by cases h
  | _ :: _, [], _, h => by cases h
theorem RpL.drop {T : Th} {F : Hp} {al : Nat → Addr} {n : Nat} : ∀ {xs : List V} {l : List D} (k : Nat), RpL T F al n xs l → RpL T F al n (xs.drop k) (l.drop k)
  | [], [], 0, _ => .nil
  | [], [], _ + 1, _ => .nil
  | _ :: _, _ :: _, 0, h => h
  | _ :: _, _ :: _, k + 1, .cons _ r2 => RpL.drop k r2
  | [], _ :: _, _, h => by cases h
  | _ :: _, [], _, h => by cases h
theorem RpL.cut {T : Th} {F : Hp} {al : Nat → Addr} {n : Nat} {xs : List V} {l : List D} (r : RpL T F al n xs l) (lo hi : Option Int) : RpL T F al n (cutV xs lo hi) (cutG l lo hi) := by
  unfold cutV cutG
  rw [RpL.len r]
  exact (r.drop _).take _
theorem cut_whole {α : Type} {l : List α} {lo hi : Option Int} (h : HT.sIx l.length 0 lo = 0 ∧ HT.sIx l.length l.length hi = l.length) : cutG l lo hi = l := by
  unfold cutG
  rw [h.1, h.2]
  simp
abbrev rSl3 (K : PySem.W.Frag) : V → Option Int → Option Int → Hp → VK → Prop := fun x lo hi H Q => rSlL K x lo hi H Q ∨ rSlA K x lo hi H Q ∨ rSlS x lo hi H Q
theorem sl_top {T : Th} {F : Hp} {al : Nat → Addr} {mu : Store} {H : Hp} {x : V} {d res : D} {lo hi : Option Int} {Q : VK} (m : Mus T F al mu H) (rx : Top T F al mu.length H x d) (z : sliceD d lo hi = some res) (k : ∀ v F' H', Ext T F al mu H F' al mu H' → Rp T F' al mu.length v res → Q v H') : rSl3 T.K x lo hi H Q := by
  cases d with
  | lst l =>
    cases z
    obtain ⟨a, xs, rfl, h1, h2⟩ := rx
    exact .inl ⟨a, xs, rfl, SqL.of h1, fun p hp => k _ _ _ (Ext.laidF m (o := .lst _) hp) (.lst upd_same ((Ext.laidF m hp).rpL (h2.cut lo hi)))⟩
  | tup l =>
    cases z
    cases (show Rp _ _ _ _ _ _ from rx) with
    | @tup a xs ds h1 h2 =>
      refine .inr (.inl ⟨a, xs, rfl, sqT_mono m.sub h1, fun h => ?_, fun _ p hp => k _ _ _ (Ext.laidF m (o := .tup _) hp) (.tup upd_same ((Ext.laidF m hp).rpL (h2.cut lo hi)))⟩)
      rw [RpL.len h2] at h
      exact k _ F H (Ext.refl m) (by rw [cut_whole h]; exact .tup h1 h2)
  | frl l =>
    cases z
    cases (show Rp _ _ _ _ _ _ from rx) with
    | @frl a xs ds h1 h2 => exact .inl ⟨a, xs, rfl, sqL_mono m.sub h1, fun p hp => k _ _ _ (Ext.laidF m (o := .lst _) hp) (.lst upd_same ((Ext.laidF m hp).rpL (h2.cut lo hi)))⟩
  | str s =>
    have z' : (if s.length ≤ 16000000 then some (D.str (cutS s lo hi)) else none) = some res := z
    split at z'
    · rename_i hs
      cases z'
      cases (show Rp _ _ _ _ _ _ from rx)
      exact .inr (.inr ⟨s, rfl, by rw [sizeLine_eq]; omega, k _ F H (Ext.refl m) (.str _)⟩)
    · cases z'
  | _ => cases z
section
variable {X : Cx} {cl : Nat → Addr} {W : WX} {a b e : PySem.Expr} {lo hi : Option PySem.Expr} {f fa fb : EF} {pos p1 p2 : Pos} {x : Str}
theorem de_ix (ha : DE X cl W a fa) (hb : DE X cl W b fb) (hs : PlainIx b) : DE X cl W (.Subscript a b pos) (dIx fa fb) :=
  PE.imp (pe_ix (IxR.or ix_list (IxR.or ix_tup ix_str)) ha hb hs) fun σ H Q q => by
    obtain ⟨F, al, sl, mu, w, po⟩ := q
    refine seqG back_RD w po rfl fun v d F1 al1 mu1 H1 x1 w1 r1 po1 => ?_
    refine seqG back_RD w1 po1 rfl fun u e F2 al2 mu2 H2 x2 w2 r2 po2 => ?_
    dsimp only at po2
    cases z : ixD (lookD mu2 d) e with
    | none => rw [z] at po2; exact False.elim po2
    | some res =>
      rw [z] at po2
      exact ix_top (T := Cx.th X cl) w2.toMus (top_look w2.toMus (x2.rp r1)) r2 z fun v' r' => Po.here po2 w2.toMus r'
theorem do_none : DO X cl W none dNoP := ⟨fun pins s σ H Q I h => by
  obtain ⟨F, al, sl, mu, w, po⟩ := h
  exact po_none.run pins s σ H Q I (Po.here po w.toMus rfl)⟩
theorem PO.imp {o : Option PySem.Expr} {t t' : TO} (h : PO X o t) (i : ∀ σ H Q, t' σ H Q → t σ H Q) : PO X o t' := ⟨fun pins s σ H Q I q => h.run pins s σ H Q I (i σ H Q q)⟩
theorem do_some (h : DE X cl W a fa) : DO X cl W (some a) (dP fa) := PO.imp (po_some h) fun σ H Q q => by
  obtain ⟨F, al, sl, mu, w, po⟩ := q
  refine seqG back_ROi w po rfl fun v d F1 al1 mu1 H1 x1 w1 r1 po1 => ?_
  cases d with
  | int i => cases r1; exact ⟨i, rfl, Po.here (R := ROi) po1 w1.toMus rfl⟩
  | _ => exact False.elim po1
theorem de_sl {l h : OF} (ha : DE X cl W a fa) (hl : DO X cl W lo l) (hh : DO X cl W hi h) : DE X cl W (.Subscript a (.Slice lo hi none p2) pos) (dSl fa l h) :=
  PE.imp (pe_slice (SlR.or sl_list (SlR.or sl_tupA sl_str)) ha hl hh) fun σ H Q q => by
    obtain ⟨F, al, sl, mu, w, po⟩ := q
    refine seqG back_RD w po rfl fun v d F1 al1 mu1 H1 x1 w1 r1 po1 => ?_
    refine seqG back_RD w1 po1 rfl fun i i' F2 al2 mu2 H2 x2 w2 r2 po2 => ?_
    refine seqG back_RD w2 po2 rfl fun j j' F3 al3 mu3 H3 x3 w3 r3 po3 => ?_
    cases r2
    cases r3
    dsimp only at po3
    cases z : sliceD (lookD mu3 d) i j with
    | none => rw [z] at po3; exact False.elim po3
    | some res =>
      rw [z] at po3
      exact sl_top (T := Cx.th X cl) w3.toMus (top_look w3.toMus (x3.rp (x2.rp r1))) z fun v' F' H' x' r' => po3 v' F' al3 H' x' r'
end

/-! ### isinstance -/
inductive Ty where
  | int | bool | str | list | tuple | dict
  deriving DecidableEq
def Ty.n : Ty → String
  | .int => "int" | .bool => "bool" | .str => "str" | .list => "list" | .tuple => "tuple" | .dict => "dict"
def isTy : Ty → D → Bool
  | .int, .int _ => true
  | .int, .bl _ => true
  | .bool, .bl _ => true
  | .str, .str _ => true
  | .list, .lst _ => true
  | .tuple, .tup _ => true
  | .dict, .dct _ => true
  | _, _ => false
/-- what isinstance may look at -/
def isiOk : D → Bool
  | .obj _ => false
  | .frl _ => false
  | _ => true
/-- what of the text a class of instances must have -/
structure ClsT (K : PySem.W.Frag) (C : Addr) : Prop where
  cl : Cls K C
  ha : PySem.W.findIn K (.ref C) "__class__" = some (some (.builtin "object.__class__"))
  hn : PySem.W.specialIn K (.builtin "object.__class__") "__get__" = some (some (.builtin "getset_descriptor.__get__"))
  tk : PySem.W.takesIn K (.builtin "object.__class__") = some true
  mr : PySem.W.mroIn K C (.type "object") = some true
  is : ∀ t : Ty, PySem.W.kitOne K (.ref C) (.type t.n) = some false
def tyNm : D → Option String
  | .non => some "NoneType"
  | .bl _ => some "bool"
  | .int _ => some "int"
  | .str _ => some "str"
  | .lst _ => some "list"
  | .tup _ => some "tuple"
  | .dct _ => some "dict"
  | _ => none
theorem kit_tbl : ∀ (t : Ty), kitB "NoneType" t.n = some false ∧ kitB "bool" t.n = some (decide (t = .int ∨ t = .bool)) ∧ kitB "int" t.n = some (decide (t = .int)) ∧ kitB "str" t.n = some (decide (t = .str)) ∧ kitB "list" t.n = some (decide (t = .list)) ∧ kitB "tuple" t.n = some (decide (t = .tuple)) ∧ kitB "dict" t.n = some (decide (t = .dict)) := by
  intro t
  cases t <;> decide +kernel
/-- the type of what is looked at -/
theorem tyX_top {T : Th} {F : Hp} {al : Nat → Addr} {mu : Store} {H : Hp} {v : V} {d : D} (m : Mus T F al mu H) (hC : ∀ c, Lv T.cls c → ClsT T.K (T.cls c)) (r : Top T F al mu.length H v d) (ok : isiOk d = true) :
    ∃ t, TyX T.K H v t ∧ ((∃ n, tyNm d = some n ∧ t = .type n) ∨ ∃ c fs, d = .ins c fs ∧ Lv T.cls c ∧ t = .ref (T.cls c)) := by
  cases d with
  | non => cases (show Rp _ _ _ _ _ _ from r); exact ⟨_, .base .non, .inl ⟨_, rfl, rfl⟩⟩
  | bl b => cases (show Rp _ _ _ _ _ _ from r); exact ⟨_, .base (.bl b), .inl ⟨_, rfl, rfl⟩⟩
  | int b => cases (show Rp _ _ _ _ _ _ from r); exact ⟨_, .base (.int b), .inl ⟨_, rfl, rfl⟩⟩
  | str b => cases (show Rp _ _ _ _ _ _ from r); exact ⟨_, .base (.str b), .inl ⟨_, rfl, rfl⟩⟩
  | lst l =>
    obtain ⟨a, xs, rfl, h1, h2⟩ := r
    exact ⟨_, .base (.lst h1), .inl ⟨_, rfl, rfl⟩⟩
  | tup l =>
    cases (show Rp _ _ _ _ _ _ from r) with
    | tup h1 h2 =>
      exact ⟨_, .base (.tup (m.sub _ _ h1)), .inl ⟨_, rfl, rfl⟩⟩
  | ins c fs =>
    obtain ⟨hc, a, dx, vs, rfl, h1, h2⟩ := r
    have k := hC c hc
    exact ⟨_, .base (.ins h1 k.cl k.ha k.hn k.tk k.mr), .inr ⟨c, fs, rfl, hc, rfl⟩⟩
  | dct _ =>
    cases (show Rp _ _ _ _ _ _ from r) with
    | dct h1 => exact ⟨_, .base (.dK (m.sub _ _ h1)), .inl ⟨_, rfl, rfl⟩⟩
  | obj _ => cases ok
  | frl _ => cases ok
theorem kit_isTy {T : Th} {d : D} {t : Value} (y : Ty) (hC : ∀ c, Lv T.cls c → ClsT T.K (T.cls c)) (h : (∃ n, tyNm d = some n ∧ t = .type n) ∨ ∃ c fs, d = .ins c fs ∧ Lv T.cls c ∧ t = .ref (T.cls c)) : PySem.W.kitOne T.K t (.type y.n) = some (isTy y d) := by
  obtain ⟨k1, k2, k3, k4, k5, k6, k7⟩ := kit_tbl y
  rcases h with ⟨n, e, rfl⟩ | ⟨c, fs, rfl, hc, rfl⟩
  · cases d with
    | non => cases e; rw [kit_ty k1]; cases y <;> rfl
    | bl b => cases e; rw [kit_ty k2]; cases y <;> rfl
    | int b => cases e; rw [kit_ty k3]; cases y <;> rfl
    | str b => cases e; rw [kit_ty k4]; cases y <;> rfl
    | lst b => cases e; rw [kit_ty k5]; cases y <;> rfl
    | tup b => cases e; rw [kit_ty k6]; cases y <;> rfl
    | dct b => cases e; rw [kit_ty k7]; cases y <;> rfl
    | _ => cases e
  · rw [(hC c hc).is y]
    cases y <;> rfl
/-- isinstance(x, T) -/
def dIsi (y : Ty) (f : EF) : BF := dBind f fun d _ mu => if isiOk d = true then .ok (isTy y d) mu else .bad
/-- isinstance(x, (T1, T2)) -/
def dIsi2 (y z : Ty) (f : EF) : BF := dBind f fun d _ mu => if isiOk d = true then .ok (isTy y d || isTy z d) mu else .bad
/-- isinstance(x, an own class) -/
def isIn (c : Nat) : D → Bool
  | .ins c' _ => c' == c
  | _ => false
def dIsC (c : Nat) (f : EF) : BF := dBind f fun d _ mu => if isiOk d = true then .ok (isIn c d) mu else .bad
structure ClsI (K : PySem.W.Frag) (cl : Nat → Addr) (c : Nat) : Prop where
  ty : ∀ n ∈ ["NoneType", "bool", "int", "str", "list", "tuple", "dict"], PySem.W.kitOne K (.type n) (.ref (cl c)) = some false
  own : ∀ c', Lv cl c' → PySem.W.kitOne K (.ref (cl c')) (.ref (cl c)) = some (c' == c)
section
variable {X : Cx} {cl : Nat → Addr} {W : WX} {a b e : PySem.Expr} {f fa fb : EF} {pos p1 p2 p3 p4 : Pos} {x : Str}
theorem de_isi {y : Ty} {tn : PySem.Expr} (hC : ∀ c, Lv cl c → ClsT X.K (cl c)) (hg : Gl X "isinstance") (hm : X.mg "isinstance" = none) (h : DKk X cl W e f) (ht : PE X tn (tC (.ty y.n)))
    (he : starEach [e, tn] X.env = (false, eval e X.env) :: starEach [tn] X.env := by rfl) (he2 : starEach [tn] X.env = (false, eval tn X.env) :: starEach [] X.env := by rfl) (hpl : (backTo pos (starEach [tn] X.env)).any (·.1) = false := by rfl) :
    DE X cl W (.Call (.Name "isinstance" p1) [e, tn] [] pos) (dB2v (dIsi y f)) :=
  PE.imp (pe_callB call_isi hg hm PyProof.Rows.boot_isinstance (pa_cons h (pa_cons ht pa_nil he2) he) (by decide) (by decide) he hpl) fun σ H Q q => by
    obtain ⟨F, al, sl, mu, w, po⟩ := tV2B q
    refine seqG back_RB w po rfl fun v d F1 al1 mu1 H1 x1 w1 r1 po1 => ?_
    dsimp only at po1
    split at po1
    · rename_i ok
      obtain ⟨t, h1, h2⟩ := tyX_top (T := Cx.th X cl) w1.toMus hC r1 ok
      exact ⟨v, .ty y.n, t, .type y.n, isTy y d, rfl, .ty _, h1, kit_isTy (T := Cx.th X cl) y hC h2, Po.here (R := RB) (Q := fun c H' => Q (.bl c) H') po1 w1.toMus rfl⟩
    · exact False.elim po1
theorem de_isi2 {y z : Ty} {tn tm : PySem.Expr} {k : Nat} (hC : ∀ c, Lv cl c → ClsT X.K (cl c)) (hg : Gl X "isinstance") (hm : X.mg "isinstance" = none) (h : DKk X cl W e f) (ht : PE X tn (tC (.ty y.n))) (hu : PE X tm (tC (.ty z.n)))
    (he : starEach [e, .Tuple [tn, tm] k p4] X.env = (false, eval e X.env) :: starEach [.Tuple [tn, tm] k p4] X.env := by rfl) (he2 : starEach [.Tuple [tn, tm] k p4] X.env = (false, eval (.Tuple [tn, tm] k p4) X.env) :: starEach [] X.env := by rfl)
    (he3 : starEach [tn, tm] X.env = (false, eval tn X.env) :: starEach [tm] X.env := by rfl) (he4 : starEach [tm] X.env = (false, eval tm X.env) :: starEach [] X.env := by rfl) (hpl : (backTo pos (starEach [.Tuple [tn, tm] k p4] X.env)).any (·.1) = false := by rfl) :
    DE X cl W (.Call (.Name "isinstance" p1) [e, .Tuple [tn, tm] k p4] [] pos) (dB2v (dIsi2 y z f)) :=
  PE.imp (pe_callB call_isiT hg hm PyProof.Rows.boot_isinstance (pa_cons h (pa_cons (pe_tup (pa_cons ht (pa_cons hu pa_nil he4) he3)) pa_nil he2) he) (by decide) (by decide) he hpl) fun σ H Q q => by
    obtain ⟨F, al, sl, mu, w, po⟩ := tV2B q
    refine seqG back_RB w po rfl fun v d F1 al1 mu1 H1 x1 w1 r1 po1 => ?_
    refine ⟨by show 2 ≤ sizeLine; rw [sizeLine_eq]; decide, fun p hp => ?_⟩
    dsimp only at po1
    split at po1
    · rename_i ok
      have x2 := Ext.laidH w1.toMus (o := .tup [V.ty y.n, V.ty z.n]) hp
      have r2 : Top (Cx.th X cl) F1 al1 mu1.length (upd H1 p (.tup [V.ty y.n, V.ty z.n])) v d := by
        cases d with
        | lst l =>
          obtain ⟨a, xs, e, h1, h2⟩ := r1
          exact ⟨a, xs, e, by rw [upd_ne (ne_of_none h1 hp)]; exact h1, h2⟩
        | ins c fs =>
          obtain ⟨h0, a, dx, xs, e, h1, h2⟩ := r1
          exact ⟨h0, a, dx, xs, e, by rw [upd_ne (ne_of_none h1 hp)]; exact h1, h2⟩
        | _ => exact r1
      obtain ⟨t, h1, h2⟩ := tyX_top (T := Cx.th X cl) x2.mus hC r2 ok
      have k1 := kit_isTy (T := Cx.th X cl) y hC h2
      have k2 := kit_isTy (T := Cx.th X cl) z hC h2
      refine ⟨v, p, [.ty y.n, .ty z.n], t, [.type y.n, .type z.n], isTy y d || isTy z d, rfl, upd_same, .cons (.ty _) (.cons (.ty _) .nil), h1, ?_, po1 _ F1 al1 _ x2 rfl⟩
      refine kitAny_cons k1 (fun e1 => ?_) (fun e1 => by rw [e1]; rfl)
      refine kitAny_cons k2 (fun e2 => ?_) (fun e2 => by rw [e2, Bool.or_true])
      rw [e1, e2]; rfl
    · exact False.elim po1
def attrD (x : Str) : D → Option D
  | .ins c fs => fs.lookup x
  | _ => none
theorem RpF.lookup {T : Th} {F : Hp} {al : Nat → Addr} {n : Nat} {x : Str} {d : D} : ∀ {vs : List (Str × V)} {fs : List (Str × D)}, RpF T F al n vs fs → fs.lookup x = some d → ∃ v, vs.lookup x = some v ∧ Rp T F al n v d
  | [], [], _, h => by cases h
  | (y, v) :: vs, (z, d') :: fs, r, h => by
    cases r with
    | cons r1 r2 =>
      rw [List.lookup_cons] at h ⊢
      cases q : x == y with
      | true => rw [q] at h; cases h; exact ⟨v, rfl, r1⟩
      | false => rw [q] at h; exact RpF.lookup r2 h
  | [], _ :: _, r, _ => by cases r
  | _ :: _, [], r, _ => by cases r
theorem de_attr (hC : ∀ c, Lv cl c → ClsT X.K (cl c)) (hN : ∀ c, Lv cl c → NoAttr X.K (cl c) x) (h : DKk X cl W e f) (hb : attributeBase e x X.env (eval e X.env) = eval e X.env) : DE X cl W (.Attribute e x pos) (dOp1 (attrD x) f) :=
  PE.imp (pe_fld h hb) fun σ H Q q => by
    obtain ⟨F, al, sl, mu, w, po⟩ := q
    refine seqG back_RD w po rfl fun v d F1 al1 mu1 H1 x1 w1 r1 po1 => ?_
    dsimp only at po1
    cases z : attrD x d with
    | none => rw [z] at po1; exact False.elim po1
    | some res =>
      rw [z] at po1
      cases d with
      | ins c fs =>
        obtain ⟨hc, a, dx, vs, rfl, h1, h2⟩ := r1
        obtain ⟨u, h3, h4⟩ := h2.lookup z
        exact ⟨a, _, dx, vs, u, rfl, h1, (hC c hc).cl, hN c hc, h3, Po.here po1 w1.toMus h4⟩
      | _ => cases z
end
end DL
end

section
set_option Elab.async false
set_option linter.all false
set_option maxRecDepth 100000
set_option maxHeartbeats 4000000
/-! DO: objects of the store: made, changed, frozen; methods of lists; stores. -/
namespace DL
open PySem L2
section
variable {T : Th} {F F1 H H1 : Hp} {al al1 : Nat → Addr} {mu mu1 : Store} {sl : Sl} {σ : St} {v : V} {d : D}
def regA (al : Nat → Addr) (n : Nat) (a : Addr) : Nat → Addr := fun k => if k = n then a else al k
theorem regA_lt {n k : Nat} {a : Addr} (h : k < n) : regA al n a k = al k := if_neg (Nat.ne_of_lt h)
theorem app_get {m m' : MO} {k : Nat} (e : (mu ++ [some m])[k]? = some (some m')) : (k < mu.length ∧ mu[k]? = some (some m')) ∨ (k = mu.length ∧ m' = m) := by
  rcases Nat.lt_trichotomy k mu.length with h | h | h
  · rw [List.getElem?_append_left h] at e
    exact .inl ⟨h, e⟩
  · subst h
    rw [List.getElem?_append_right (Nat.le_refl _), Nat.sub_self] at e
    cases e
    exact .inr ⟨rfl, rfl⟩
  · rw [List.getElem?_eq_none (by rw [List.length_append]; exact h)] at e
    cases e
/-- a new object becomes one of the store -/
theorem Ext.reg (x : Ext T F al mu H F1 al1 mu1 H1) {a : Addr} {o : HO} {m : MO} (h0 : Fre H a) (h1 : F1 a = none) (h2 : H1 a = some o) (c : Conc T F1 al1 mu1.length o m) (ne : ∀ k m', mu1[k]? = some (some m') → al1 k ≠ a) :
    Ext T F al mu H F1 (regA al1 mu1.length a) (mu1 ++ [some m]) H1 := by
  have len : (mu1 ++ [some m]).length = mu1.length + 1 := by simp
  have old : ∀ k, k < mu1.length → regA al1 mu1.length a k = al1 k := fun k h => regA_lt h
  have here : regA al1 mu1.length a mu1.length = a := if_pos rfl
  have up : ∀ {o m}, Conc T F1 al1 mu1.length o m → Conc T F1 (regA al1 mu1.length a) (mu1 ++ [some m]).length o m := fun c => c.mono (fun _ _ h => h) old (by rw [List.length_append]; exact Nat.le_add_right _ _)
  refine ⟨⟨x.mus.sub, fun k m' e => ?_, fun k m' k' m2 e1 e2 z => ?_, x.mus.tab, x.mus.nt⟩, x.sub, x.new, x.keep, x.there, fun k h => ?_, by rw [len]; exact Nat.le_succ_of_le x.ln, fun k m' e => ?_⟩
  · rcases app_get e with ⟨h, e⟩ | ⟨rfl, rfl⟩
    · obtain ⟨g1, o', g2, g3⟩ := x.mus.at_ k m' e
      rw [old k h]
      exact ⟨g1, o', g2, g3.mono (fun _ _ h => h) old (by rw [List.length_append]; exact Nat.le_add_right _ _)⟩
    · rw [here]
      exact ⟨h1, o, h2, up c⟩
  · rcases app_get e1 with ⟨l1, g1⟩ | ⟨i1, _⟩ <;> rcases app_get e2 with ⟨l2, g2⟩ | ⟨i2, _⟩
    · rw [old k l1, old k' l2] at z
      exact x.mus.inj k m' k' m2 g1 g2 z
    · rw [old k l1, i2, here] at z
      exact absurd z (ne k m' g1)
    · rw [old k' l2, i1, here] at z
      exact absurd z.symm (ne k' m2 g2)
    · rw [i1, i2]
  · rw [old k (Nat.lt_of_lt_of_le h x.ln)]
    exact x.als k h
  · rcases app_get e with ⟨h, e⟩ | ⟨rfl, rfl⟩
    · rcases x.fresh k m' e with g | g
      · exact .inl g
      · exact .inr (by rw [old k h]; exact g)
    · exact .inr (by rw [here]; exact h0)
/-- an object of the store is changed -/
theorem Ext.updO (M : Mus T F al mu H) {k : Nat} {m0 m : MO} {o : HO} (hk : mu[k]? = some (some m0)) (c : Conc T F al mu.length o m) : Ext T F al mu H F al (mu.set k (some m)) (upd H (al k) o) := by
  have hF := (M.at_ k m0 hk).1
  have lt := lt_of_live hk
  have get : ∀ {j : Nat} {m' : MO}, (mu.set k (some m))[j]? = some (some m') → (j = k ∧ m' = m) ∨ (k ≠ j ∧ mu[j]? = some (some m')) := fun e => by
    rcases set_get e with ⟨rfl, h, _⟩ | ⟨ne, h⟩
    · cases h; exact .inl ⟨rfl, rfl⟩
    · exact .inr ⟨ne, h⟩
  have live : ∀ {j : Nat} {m' : MO}, (mu.set k (some m))[j]? = some (some m') → ∃ m2, mu[j]? = some (some m2) := fun e => by
    rcases get e with ⟨rfl, _⟩ | ⟨_, h⟩
    · exact ⟨_, hk⟩
    · exact ⟨_, h⟩
  refine ⟨⟨fun a u e => ?_, fun j m' e => ?_, fun j m1 j' m2 e1 e2 z => ?_, fun i z => tab_upd (by obtain ⟨_, u, g1, g2⟩ := M.at_ k m0 hk; exact .inr ⟨u, g1, g2.noTab⟩) (M.tab i z), M.nt⟩, fun _ _ h => h, fun _ _ h => .inl h, fun a u e _ n => ?_, there_upd (.inr c.noTab.1), fun _ _ => rfl, by rw [List.length_set]; exact Nat.le_refl _, fun j m' e => .inl (live e)⟩
  · rw [upd_ne (ne_of_none e hF)]; exact M.sub a u e
  · rw [List.length_set]
    rcases get e with ⟨rfl, rfl⟩ | ⟨ne, h⟩
    · exact ⟨hF, o, upd_same, c⟩
    · obtain ⟨g1, o', g2, g3⟩ := M.at_ j m' h
      exact ⟨g1, o', by rw [upd_ne fun z => ne (M.inj j m' k m0 h hk z).symm]; exact g2, g3⟩
  · obtain ⟨m3, e3⟩ := live e1
    obtain ⟨m4, e4⟩ := live e2
    exact M.inj j m3 j' m4 e3 e4 z
  · rw [upd_ne fun z => n k m0 hk z.symm]; exact e
/-- an object of the store is frozen -/
theorem Ext.frzO (M : Mus T F al mu H) {k : Nat} {m : MO} (hk : mu[k]? = some (some m)) (hm : ∀ kvs, m ≠ .dct kvs) : ∃ F', Ext T F al mu H F' al (mu.set k none) H ∧ Rp T F' al (mu.set k none).length (.ref (al k)) m.d := by
  obtain ⟨hF, o, ho, c⟩ := M.at_ k m hk
  have up : ∀ b u, F b = some u → upd F (al k) o b = some u := fun b u e => by rw [upd_ne (ne_of_none e hF)]; exact e
  have live : ∀ {j : Nat} {m' : MO}, (mu.set k none)[j]? = some (some m') → k ≠ j ∧ mu[j]? = some (some m') := fun e => by
    rcases set_get e with ⟨rfl, h, _⟩ | ⟨ne, h⟩
    · cases h
    · exact ⟨ne, h⟩
  refine ⟨upd F (al k) o, ⟨⟨fun a u e => ?_, fun j m' e => ?_, fun j m1 j' m2 e1 e2 z => M.inj j m1 j' m2 (live e1).2 (live e2).2 z, M.tab, nt_upd M.nt c.noTab.1⟩, up, fun a u e => ?_, fun a u e _ _ => e, fun _ h => h, fun _ _ => rfl, by rw [List.length_set]; exact Nat.le_refl _, fun j m' e => .inl ⟨m', (live e).2⟩⟩, by rw [List.length_set]; exact rp_freeze hF c hm⟩
  · by_cases z : a = al k
    · subst z; rw [upd_same] at e; cases e; exact ho
    · rw [upd_ne z] at e; exact M.sub a u e
  · obtain ⟨ne, h⟩ := live e
    obtain ⟨g1, o', g2, g3⟩ := M.at_ j m' h
    rw [List.length_set]
    exact ⟨by rw [upd_ne fun z => ne (M.inj j m' k m h hk z).symm]; exact g1, o', g2, g3.mono up (fun _ _ => rfl) (Nat.le_refl _)⟩
  · by_cases z : a = al k
    · exact .inr (.inr ⟨k, m, hk, z.symm⟩)
    · rw [upd_ne z] at e; exact .inl e
end

/-- a new object becomes one of the store -/
def dReg (f : NF) : EF := dBind f fun m _ mu => .ok (.obj mu.length) (mu ++ [some m])
/-- an object of the store is frozen; what is none stays -/
def dFz (f : EF) : EF := dBind f fun d _ mu => match d with
  | .obj k => match mu[k]? with
    | some (some (.lst l)) => .ok (.lst l) (mu.set k none)
    | some (some (.ins c fs)) => .ok (.ins c fs) (mu.set k none)
    | _ => .bad
  | d => .ok d mu
section
variable {X : Cx} {cl : Nat → Addr} {W : WX} {n : En} {a b e o i : PySem.Expr} {es : List PySem.Expr} {f fa fb fo fi : EF} {ga : LF} {pos p1 pos' apos cpos : Pos} {x : Str}
theorem de_reg {f : NF} (h : DN X cl W e f) : DE X cl W e (dReg f) := PE.imp h fun σ H Q q => by
  obtain ⟨F, al, sl, mu, w, po⟩ := q
  refine ⟨F, al, sl, mu, w, ?_⟩
  unfold dReg dBind obind at po
  cases q : f sl mu with
  | ok m mu1 =>
    rw [q] at po
    intro v F1 al1 H1 x r
    obtain ⟨a, o, rfl, h0, h1, h2, h3, h4⟩ := r
    refine po _ _ _ _ (x.reg h0 h1 h2 h3 h4) ?_
    have := Rp.obj (T := Cx.th X cl) (F := F1) (al := regA al1 mu1.length a) (n := (mu1 ++ [some m]).length) (k := mu1.length) (by simp)
    rwa [show regA al1 mu1.length a mu1.length = a from if_pos rfl] at this
  | ex c fs mu1 => rw [q] at po; exact po
  | bad => rw [q] at po; exact po
theorem de_fz (h : DE X cl W e f) : DE X cl W e (dFz f) := PE.imp h fun σ H Q q => by
  obtain ⟨F, al, sl, mu, w, po⟩ := q
  refine seqG back_RD w po rfl fun v d F1 al1 mu1 H1 x1 w1 r1 po1 => ?_
  cases d with
  | obj k =>
    dsimp only at po1
    cases r1
    split at po1
    · rename_i l hk
      obtain ⟨F', x2, r2⟩ := Ext.frzO w1.toMus hk (fun _ z => nomatch z)
      exact po1 _ _ _ _ x2 r2
    · rename_i c fs hk
      obtain ⟨F', x2, r2⟩ := Ext.frzO w1.toMus hk (fun _ z => nomatch z)
      exact po1 _ _ _ _ x2 r2
    · exact False.elim po1
  | _ => exact Po.here po1 w1.toMus r1

/-! ### methods that change a list of the store -/
def lstOf (mu : Store) : D → Option (List D)
  | .obj k => match mu[k]? with
    | some (some (.lst l)) => some l
    | _ => none
  | _ => none
def putO (mu : Store) (d : D) (m : MO) : Store := match d with
  | .obj k => mu.set k (some m)
  | _ => mu
theorem lstOf_get {mu : Store} {d : D} {l : List D} (h : lstOf mu d = some l) : ∃ k, d = .obj k ∧ mu[k]? = some (some (.lst l)) := by
  cases d with
  | obj k =>
    unfold lstOf at h
    dsimp only at h
    split at h
    · rename_i l' e
      cases h
      exact ⟨k, rfl, e⟩
    · cases h
  | _ => cases h
def RMut (T : Th) (r : V → List V → Hp → VK → Prop) (g : List D → List D → Option (D × List D)) : Prop := ∀ (F : Hp) (al : Nat → Addr) (mu : Store) (H : Hp), Mus T F al mu H → ∀ (a : Addr) (xs : List V) (l : List D) (vs : List V) (ds : List D) (res : D) (l' : List D) (Q : VK),
  H a = some (.lst xs) → RpL T F al mu.length xs l → RpL T F al mu.length vs ds → g l ds = some (res, l') → (∀ v xs', RpL T F al mu.length xs' l' → Rp T F al mu.length v res → Q v (upd H a (.lst xs'))) → r (.ref a) vs H Q
def dMut (g : List D → List D → Option (D × List D)) (fo : EF) (ga : LF) : EF := dBind fo fun d sl mu => match lstOf mu d with
  | some _ => obind (ga sl mu) fun ds mu => match lstOf mu d with
    | some l => match g l ds with
      | some (res, l') => .ok res (putO mu d (.lst l'))
      | none => .bad
    | none => .bad
  | none => .bad
theorem Mus.lst {T : Th} {F H : Hp} {al : Nat → Addr} {mu : Store} (M : Mus T F al mu H) {k : Nat} {l : List D} (hk : mu[k]? = some (some (.lst l))) : ∃ xs, H (al k) = some (.lst xs) ∧ RpL T F al mu.length xs l := by
  obtain ⟨_, o, h1, h2⟩ := M.at_ k _ hk
  cases o <;> first
    | exact False.elim h2
    | exact ⟨_, h1, h2⟩
theorem tMut {r : V → List V → Hp → VK → Prop} {g : List D → List D → Option (D × List D)} (hr : RMut (Cx.th X cl) r g) {σ : St} {H : Hp} {Q : VK} (q : tG (Cx.th X cl) W (RD (Cx.th X cl)) (dMut g fo ga) σ H Q) : tBM X.K "list" r (tG (Cx.th X cl) W (RD (Cx.th X cl)) fo) (tG (Cx.th X cl) W (RLs (Cx.th X cl)) ga) σ H Q := by
  obtain ⟨F, al, sl, mu, w, po⟩ := q
  refine seqG back_RD w po rfl fun v d F1 al1 mu1 H1 x1 w1 r1 po1 => ?_
  dsimp only at po1
  cases z : lstOf mu1 d with
  | none => rw [z] at po1; exact False.elim po1
  | some l1 =>
    rw [z] at po1
    dsimp only at po1
    obtain ⟨k, rfl, hk⟩ := lstOf_get z
    cases r1 with
    | obj lt =>
    obtain ⟨xs, h1, _⟩ := w1.toMus.lst hk
    refine ⟨.inl ⟨rfl, xs, SqL.of h1⟩, ?_⟩
    refine seqG back_RD w1 po1 rfl fun vs ds F2 al2 mu2 H2 x2 w2 r2 po2 => ?_
    cases z2 : lstOf mu2 (.obj k) with
    | none => rw [z2] at po2; exact False.elim po2
    | some l2 =>
      rw [z2] at po2
      dsimp only at po2
      cases z3 : g l2 ds with
      | none => rw [z3] at po2; exact False.elim po2
      | some p =>
        obtain ⟨res, l'⟩ := p
        rw [z3] at po2
        obtain ⟨k', e', hk2⟩ := lstOf_get z2
        cases e'
        obtain ⟨ys, h2, h3⟩ := w2.toMus.lst hk2
        rw [← x2.als k lt]
        refine hr F2 al2 mu2 H2 w2.toMus _ ys l2 vs ds res l' Q h2 h3 r2 z3 fun v xs' h4 h5 => ?_
        exact po2 v F2 al2 _ (Ext.updO w2.toMus hk2 (o := .lst xs') (m := .lst l') h4) (by show Rp _ _ _ (mu2.set k _).length _ _; rw [List.length_set]; exact h5)
theorem de_mut {name : Str} {id : String} {r : V → List V → Hp → VK → Prop} {g : List D → List D → Option (D × List D)} (slot : Slot "list" name id) (hty : typeOf (.builtin id) = pure (.type "method_descriptor")) (hm : MtR X id r) (hr : RMut (Cx.th X cl) r g) (ho : DE X cl W o fo) (ha : DAs X cl W (e :: es) ga)
    (hbase : attributeBase o name X.env (eval o X.env) = eval o X.env := by rfl)
    (hfew : ((backTo cpos (starEach (e :: es) X.env)).all (fun x => !x.1) && (backToKw cpos (keywordEach [] X.env)).all (fun x => x.1.isSome)
      && decide ((e :: es).length + ([] : List Keyword).length + (if ([] : List Keyword).isEmpty then 0 else 1) < 30)) = true := by rfl)
    (hline : (apos.endLine == cpos.line) = true := by rfl) (hs : starEach (e :: es) X.env = (false, eval e X.env) :: starEach es X.env := by rfl) (hplain : (backTo cpos (starEach es X.env)).any (·.1) = false := by rfl) :
    DE X cl W (.Call (.Attribute o name apos) (e :: es) [] cpos) (dMut g fo ga) :=
  PE.imp (pe_bm F.plainAttrs_list slot hty hm ho ha hbase hfew hline hs hplain) fun σ H Q q => tMut hr q
def appD (l ds : List D) : Option (D × List D) := match ds with
  | [d] => if l.length < 16000000 then some (.non, l ++ [d]) else none
  | _ => none
theorem rm_append {T : Th} : RMut T rAppend appD := fun F al mu H m a xs l vs ds res l' Q h1 h2 h3 z k => by
  unfold appD at z
  split at z
  · rename_i d
    split at z
    · rename_i hl
      cases z
      cases h3 with
      | cons r1 r2 =>
        cases r2
        exact ⟨a, xs, _, rfl, rfl, h1, by rw [RpL.len h2, sizeLine_eq]; omega, k _ _ (h2.append (.cons r1 .nil)) .non⟩
    · cases z
  · cases z
def extD (l ds : List D) : Option (D × List D) := match ds with
  | [.lst l'] => if l.length + l'.length ≤ 16000000 then some (.non, l ++ l') else none
  | _ => none
theorem rm_extend {T : Th} : RMut T rExtend extD := fun F al mu H m a xs l vs ds res l' Q h1 h2 h3 z k => by
  unfold extD at z
  split at z
  · rename_i d
    split at z
    · rename_i hl
      cases z
      cases h3 with
      | cons r1 r2 =>
        cases r2
        cases r1 with
        | lst g1 g2 => exact ⟨a, _, xs, _, rfl, rfl, h1, m.sub _ _ g1, by rw [RpL.len h2, RpL.len g2, sizeLine_eq]; omega, k _ _ (h2.append g2) .non⟩
    · cases z
  · cases z
theorem RpL.erase {T : Th} {F : Hp} {al : Nat → Addr} {n : Nat} : ∀ {vs : List V} {ds : List D} (k : Nat), RpL T F al n vs ds → RpL T F al n (vs.eraseIdx k) (ds.eraseIdx k)
  | [], [], _, h => h
  | v :: vs, d :: ds, 0, .cons _ h => h
  | v :: vs, d :: ds, k + 1, .cons h1 h => .cons h1 (RpL.erase k h)
  | [], d :: ds, _, h => by cases h
  | v :: vs, [], _, h => by cases h
theorem de_append (ho : DE X cl W o fo) (ha : DAs X cl W [e] ga)
    (hbase : attributeBase o "append" X.env (eval o X.env) = eval o X.env := by rfl)
    (hfew : ((backTo cpos (starEach [e] X.env)).all (fun x => !x.1) && (backToKw cpos (keywordEach [] X.env)).all (fun x => x.1.isSome)
      && decide ([e].length + ([] : List Keyword).length + (if ([] : List Keyword).isEmpty then 0 else 1) < 30)) = true := by rfl)
    (hline : (apos.endLine == cpos.line) = true := by rfl) (hs : starEach [e] X.env = (false, eval e X.env) :: starEach [] X.env := by rfl) (hplain : (backTo cpos (starEach [] X.env)).any (·.1) = false := by rfl) :
    DE X cl W (.Call (.Attribute o "append" apos) [e] [] cpos) (dMut appD fo ga) := de_mut F.slot_list_append (by rfl) mt_append rm_append ho ha hbase hfew hline hs hplain
theorem de_extend (ho : DE X cl W o fo) (ha : DAs X cl W [e] ga)
    (hbase : attributeBase o "extend" X.env (eval o X.env) = eval o X.env := by rfl)
    (hfew : ((backTo cpos (starEach [e] X.env)).all (fun x => !x.1) && (backToKw cpos (keywordEach [] X.env)).all (fun x => x.1.isSome)
      && decide ([e].length + ([] : List Keyword).length + (if ([] : List Keyword).isEmpty then 0 else 1) < 30)) = true := by rfl)
    (hline : (apos.endLine == cpos.line) = true := by rfl) (hs : starEach [e] X.env = (false, eval e X.env) :: starEach [] X.env := by rfl) (hplain : (backTo cpos (starEach [] X.env)).any (·.1) = false := by rfl) :
    DE X cl W (.Call (.Attribute o "extend" apos) [e] [] cpos) (dMut extD fo ga) := de_mut F.slot_list_extend (by rfl) mt_extend rm_extend ho ha hbase hfew hline hs hplain
def setD (l : List D) (i v : D) : Option (List D) := match i with
  | .int k => match ixN l.length k with
    | some j => some (l.set j v)
    | none => none
  | _ => none
def sSetI (fo fi f : EF) : SF := fun sl mu => sbind (f sl mu) sl fun v mu => sbind (fo sl mu) sl fun d mu => sbind (fi sl mu) sl fun i mu => match lstOf mu d with
  | some l => match setD l i v with
    | some l' => .nx sl (putO mu d (.lst l'))
    | none => .bad
  | none => .bad
theorem RpL.set {T : Th} {F : Hp} {al : Nat → Addr} {n : Nat} {v : V} {d : D} (r : Rp T F al n v d) : ∀ {vs : List V} {ds : List D} (k : Nat), RpL T F al n vs ds → RpL T F al n (vs.set k v) (ds.set k d)
  | [], [], _, h => h
  | _ :: vs, _ :: ds, 0, .cons _ h => .cons r h
  | _ :: vs, _ :: ds, k + 1, .cons h1 h => .cons h1 (RpL.set r k h)
  | [], d :: ds, _, h => by cases h
  | v :: vs, [], _, h => by cases h
theorem W3.updO {T : Th} {F H : Hp} {al : Nat → Addr} {mu : Store} {sl : Sl} {σ : St} (w : W3 T n F al sl mu σ H) {k : Nat} {m0 m : MO} {o : HO} (hk : mu[k]? = some (some m0)) (c : Conc T F al mu.length o m) : W3 T n F al sl (mu.set k (some m)) σ (L2.upd H (al k) o) := w.ext (Ext.updO w.w.toMus hk c)
theorem ds_setI (hf : DE X cl W e f) (ho : DE X cl W o fo) (hi : DE X cl W i fi)
    (ha : ∀ v, assign (.Subscript o i pos') X.env v = (do
      let ov ← holding [v] (eval o X.env)
      let iv ← holding [v, ov] (eval i X.env)
      standAt pos'
      holding [v, ov, iv] (setItem ov iv v)
      release [v, ov, iv] []) := by intro _; rfl)
    (hs : swapsWithSole [.Subscript o i pos'] e pos.line X.env = pure false := by rfl) (hw : swappedStores [.Subscript o i pos'] e X.env = pure none := by rfl)
    (h1 : (assignEach [.Subscript o i pos'] X.env).map (·.2) = [assign (.Subscript o i pos') X.env] := by rfl) : DS X cl W n (.Assign [.Subscript o i pos'] e pos) (sSetI fo fi f) :=
  PS.imp (ps_asg hf (pg_sub ho hi set_list ha) hs hw h1) fun Z σ H q => by
    obtain ⟨F, al, sl, mu, w, po⟩ := q
    refine seqS w po rfl fun v d F1 al1 mu1 H1 x1 w1 r1 po1 => ?_
    refine seqS w1 po1 rfl fun ov dd F2 al2 mu2 H2 x2 w2 r2 po2 => ?_
    refine seqS w2 po2 rfl fun iv di F3 al3 mu3 H3 x3 w3 r3 po3 => ?_
    cases z : lstOf mu3 dd with
    | none => rw [z] at po3; exact False.elim po3
    | some l =>
      rw [z] at po3
      dsimp only at po3
      obtain ⟨k, rfl, hk⟩ := lstOf_get z
      cases z2 : setD l di d with
      | none => rw [z2] at po3; exact False.elim po3
      | some l' =>
        rw [z2] at po3
        unfold setD at z2
        cases di with
        | int ii =>
          dsimp only at z2
          cases r3
          have r4 := x3.rp r2
          cases r4
          obtain ⟨xs, h1, h2⟩ := w3.w.toMus.lst hk
          split at z2
          · rename_i j hj
            cases z2
            exact ⟨_, xs, ii, j, rfl, rfl, h1, by rw [RpL.len h2]; exact hj, PoS.nx po3 (w3.updO hk (o := .lst (xs.set j v)) (m := .lst (l.set j d)) (h2.set (x3.rp (x2.rp r1)) j)) (by show mu3.length ≤ (mu3.set k _).length; rw [List.length_set]; exact Nat.le_refl _)⟩
          · cases z2
        | _ => cases z2
def putFD (f : Str) (v : D) : List (Str × D) → List (Str × D)
  | [] => [(f, v)]
  | (g, u) :: r => if g = f then (g, v) :: r else (g, u) :: putFD f v r
end
end DL
end

section
set_option Elab.async false
set_option linter.all false
set_option maxRecDepth 100000
set_option maxHeartbeats 4000000
/-! DP: attributes stored, augmented names, methods, instances made, own ==. -/
namespace DL
open PySem L2
section
variable {X : Cx} {k : Nat} {f C : Addr} {fd : FuncData} {ps : List Str} {sp : Sp} {E : St → XK} {x m : Str} {p pos apos : Pos} {e o : PySem.Expr} {es : List PySem.Expr} {ta : TE} {t : TA} {CX : CXT}
def tMeW (C : Addr) (m : Str) (sp : Sp) (E : St → XK) (ta : TE) (t : TA) : TE := fun σ H Q => ta σ H fun x H1 => ∃ a dx fs, x = .ref a ∧ H1 a = some (.ins C dx fs) ∧ fs.lookup m = none ∧ t σ H1 fun vs H2 => sp (x :: vs) H2 Q (E σ)
def tMkW (C : Addr) (sp : Sp) (E : St → XK) (t : TA) : TE := fun σ H Q => t σ H fun vs H1 => ∀ x dx, H1 x = none → H1 dx = none → dx ≠ x → sp (.ref x :: vs) (upd (upd H1 dx (.own x)) x (.ins C dx [])) (fun v H2 => v = .non ∧ Q (.ref x) H2) (E σ)
theorem pe_meW {pl : Sem Bool} (he : PE X o ta) (c : Cls X.K C) (hm : Meth X.K C m f) (F : FnOk X.prog X.w X.K X.mg X.base CX k f fd ps sp) (hr : Room k X.A) (hb : Binds X.K fd ps []) (hx : ∀ σ, PassesAt CX X σ (E σ)) (ha : PA X (e :: es) t)
    (hst : starEach (e :: es) X.env = (false, eval e X.env) :: starEach es X.env := by rfl) (hpl : (backTo pos (starEach es X.env)).any (·.1) = false := by rfl)
    (ht : eval (.Call (.Attribute o m apos) (e :: es) [] pos) X.env = (do
      let ov ← eval o X.env
      standAt apos.atName
      let (f, first) ← holding [ov] (getMethod ov m pl)
      callWith pos f first (backTo pos (starEach (e :: es) X.env)) (backToKw pos (keywordEach [] X.env))) := by rfl) :
    PE X (.Call (.Attribute o m apos) (e :: es) [] pos) (tMeW C m sp E ta t) := by
  refine ⟨fun pins s σ H Q I h => ?_⟩
  refine PySem.W.methodCall_KW (pl := pl) (thn (he.run pins s σ H _ I h) fun u s1 ⟨x, H1, I1, rx, a, dx, fs, ex, ea, l, q⟩ => ?_) ht
  subst ex
  obtain rfl : u = Value.ref a := rx
  refine getmeth_ok I1 ea c hm l ?_
  refine PySem.W.callWith_K (first := [.ref a]) (h₀ := X.base) I.ok.mod.kin hm.kp (thn (ha.run pos pins s1 σ H1 _ I1 q) fun us s2 ⟨vs, H2, I2, r, q2⟩ => ⟨I2.kIn, ?_⟩) hst hpl
  exact run_fnS (us := .ref a :: us) (vs := .ref a :: vs) F hr hb (hx σ) I2 (.cons rfl r) q2
theorem run_mkW {pins : List (Addr × Obj)} {σ : St} {H : Hp} {s : Shared} {Q : VK} {us : List Value} {vs : List V} (M : Mk X.K C f) (F : FnOk X.prog X.w X.K X.mg X.base CX k f fd ps sp) (hr : Room (k + 1) X.A) (hb : Binds X.K fd ps [])
    (hx : PassesAt CX X σ (E σ)) (I : Inv X pins σ H s) (r : Vals vs us)
    (h : ∀ x dx, H x = none → H dx = none → dx ≠ x → sp (.ref x :: vs) (upd (upd H dx (.own x)) x (.ins C dx [])) (fun v H2 => v = .non ∧ Q (.ref x) H2) (E σ)) :
    wpAny (model X.prog X.w) X.A (call (.ref C) us) (EP X pins σ Q) X.xe s := by
  have hq := h (s.heap.objs.size + 1) s.heap.objs.size (I.hok.fresh (Nat.le_succ _)) (I.hok.fresh (Nat.le_refl _)) (Nat.ne_of_lt (Nat.lt_succ_self _))
  have I2 := Inv.made (C := C) I
  have r2 : Vals (V.ref (s.heap.objs.size + 1) :: vs) (Value.ref (s.heap.objs.size + 1) :: us) := .cons rfl r
  have hl : (Value.ref (s.heap.objs.size + 1) :: us).length = ps.length := by rw [← r2.length]; exact F.len _ _ _ _ hq
  have b := hb _ (Value.ref (s.heap.objs.size + 1) :: us) I2.kIn (by rw [List.append_nil]; exact hl)
  rw [List.append_nil] at b
  refine wpAny_call (make_map (f := f) I.kIn M.makes M.init (beq_iff_eq.mp M.fn) (codeAny_mono (F.run _ X.stack _ _ ⟨Value.ref (s.heap.objs.size + 1) :: us, []⟩ (Value.ref (s.heap.objs.size + 1) :: us) _ _ (E σ) (hr.make C us [])
    (I2.env0.make C us []) b r2 hq) fun r s' hq' => ?_))
  cases r with
  | error e => exact hx pins _ _ e s' I2 hq'
  | ok fl =>
    cases fl with
    | ret u =>
      obtain ⟨v, H', I3, rv, ev, q3⟩ := I2.after hq'
      subst ev
      exact ⟨rv, ⟨V.ref (s.heap.objs.size + 1), H', I3, rfl, q3⟩⟩
    | next => exact False.elim hq'
    | brk => exact False.elim hq'
    | cont => exact False.elim hq'
theorem pe_mkW (M : Mk X.K C f) (F : FnOk X.prog X.w X.K X.mg X.base CX k f fd ps sp) (hr : Room (k + 1) X.A) (hg : Gl X x) (hm : X.mg x = some (.ref C)) (hb : Binds X.K fd ps []) (hx : ∀ σ, PassesAt CX X σ (E σ))
    (ha : PA X (e :: es) t) (hdb : (x == ("__debug__" : Str)) = false := by decide) (he : starEach (e :: es) X.env = (false, eval e X.env) :: starEach es X.env := by rfl) (hpl : (backTo pos (starEach es X.env)).any (·.1) = false := by rfl) :
    PE X (.Call (.Name x p) (e :: es) [] pos) (tMkW C sp E t) := by
  refine ⟨fun pins s σ H Q I h => ?_⟩
  refine wpAny_Call_Name_kw (ld_glob I hg hm ?_ hdb)
  refine PySem.W.callWith_K (h₀ := X.base) I.ok.mod.kin M.kp (thn (ha.run pos pins s σ H _ I h) fun us s1 ⟨vs, H1, I1, r, q⟩ => ⟨I1.kIn, ?_⟩) he hpl
  exact run_mkW M F hr hb (hx σ) I1 r q
theorem pe_mkW0 (M : Mk X.K C f) (F : FnOk X.prog X.w X.K X.mg X.base CX k f fd ps sp) (hr : Room (k + 1) X.A) (hg : Gl X x) (hm : X.mg x = some (.ref C)) (hb : Binds X.K fd ps []) (hx : ∀ σ, PassesAt CX X σ (E σ))
    (hdb : (x == ("__debug__" : Str)) = false := by decide) : PE X (.Call (.Name x p) [] [] pos) (tMkW C sp E tNil) := by
  refine ⟨fun pins s σ H Q I h => ?_⟩
  refine wpAny_Call_Name_kw (ld_glob I hg hm ?_ hdb)
  exact PySem.W.callWith_K0 I.kIn M.kp (run_mkW (us := []) M F hr hb (hx σ) I .nil h)
end

/-! ### methods of own classes -/
structure Gm (P : Program) (w : World) (K : PySem.W.Frag) (mg : Str → Option Value) (base : Heap) (cl : Nat → Addr) (k c : Nat) (m : Str) (np : Nat) (p : FF) : Prop where
  ex : ∃ (f : Addr) (fd : FuncData) (ps : List Str), FnOk P w K mg base (L2.CX P w) k f fd ps (spD ⟨K, cl⟩ np p) ∧ Meth K (cl c) m f ∧ Cls K (cl c) ∧ L2.Binds K fd ps []
structure Gi (P : Program) (w : World) (K : PySem.W.Frag) (mg : Str → Option Value) (base : Heap) (cl : Nat → Addr) (k : Nat) (x : Str) (c : Nat) (np : Nat) (p : FF) : Prop where
  ex : ∃ (f : Addr) (fd : FuncData) (ps : List Str), FnOk P w K mg base (L2.CX P w) k f fd ps (spD ⟨K, cl⟩ np p) ∧ (Mk K (cl c) f ∧ Lv cl c) ∧ mg x = some (.ref (cl c)) ∧ L2.Binds K fd ps []
def hasC (c : Nat) (m : Str) : D → Bool
  | .ins c' fs => c' == c && (fs.lookup m).isNone
  | _ => false
def dMeth (c : Nat) (m : Str) (p : FF) (fo : EF) (ga : LF) : EF := dBind fo fun d sl mu => if hasC c m (lookD mu d) = true then obind (ga sl mu) fun ds mu => p (d :: ds) mu else .bad
def dMake (c : Nat) (p : FF) (ga : LF) : EF := dBind ga fun ds _ mu => match p (.obj mu.length :: ds) (mu ++ [some (.ins c [])]) with
  | .ok .non mu' => .ok (.obj mu.length) mu'
  | .ex c fs mu' => .ex c fs mu'
  | _ => .bad
theorem RpF.lookup_none {T : Th} {F : Hp} {al : Nat → Addr} {n : Nat} {x : Str} : ∀ {vs : List (Str × V)} {fs : List (Str × D)}, RpF T F al n vs fs → fs.lookup x = none → vs.lookup x = none
  | [], [], _, _ => rfl
  | (y, v) :: vs, (z, d') :: fs, r, h => by
    cases r with
    | cons r1 r2 =>
      rw [List.lookup_cons] at h ⊢
      cases q : x == y with
      | true => rw [q] at h; cases h
      | false => rw [q] at h; exact RpF.lookup_none r2 h
  | [], _ :: _, r, _ => by cases r
  | _ :: _, [], r, _ => by cases r
section
variable {X : Cx} {cl : Nat → Addr} {W : WX} {n : En} {a b e o i : PySem.Expr} {es : List PySem.Expr} {f fa fb fo fi : EF} {ga : LF} {pos p1 pos' apos cpos : Pos} {x m : Str} {k c np : Nat} {p : FF}
theorem top_ins {T : Th} {F H : Hp} {al : Nat → Addr} {mu : Store} {v : V} {d : D} (M : Mus T F al mu H) (r : Rp T F al mu.length v d) (h : hasC c m (lookD mu d) = true) : ∃ a dx fs, v = .ref a ∧ H a = some (.ins (T.cls c) dx fs) ∧ fs.lookup m = none := by
  have t := top_look M r
  cases z : lookD mu d with
  | ins c' fs =>
    rw [z] at h t
    have h' : (c' == c && (fs.lookup m).isNone) = true := h
    rw [Bool.and_eq_true] at h'
    obtain ⟨_, a, dx, vs, e1, e2, e3⟩ := t
    have hc : c' = c := by simpa using h'.1
    subst hc
    exact ⟨a, dx, vs, e1, e2, e3.lookup_none (by simpa using h'.2)⟩
  | _ => rw [z] at h; cases h
theorem tMe {F0 : FF} (hl : ∀ sl mu ds mu', ga sl mu = .ok ds mu' → ds.length + 1 = np) {σ : St} {H : Hp} {Q : VK} (q : tG (Cx.th X cl) W (RD (Cx.th X cl)) (dMeth c m p fo ga) σ H Q) :
    tMeW (cl c) m (spD (Cx.th X cl) np p) (WE W) (tG (Cx.th X cl) W (RD (Cx.th X cl)) fo) (tG (Cx.th X cl) W (RLs (Cx.th X cl)) ga) σ H Q := by
  obtain ⟨F, al, sl, mu, w, po⟩ := q
  refine seqG back_RD w po rfl fun v d F1 al1 mu1 H1 x1 w1 r1 po1 => ?_
  dsimp only at po1
  split at po1
  · rename_i hc
    obtain ⟨a, dx, fs, e1, e2, e3⟩ := top_ins (T := Cx.th X cl) w1.toMus r1 hc
    subst e1
    refine ⟨a, dx, fs, rfl, e2, e3, F1, al1, sl, mu1, w1, ?_⟩
    unfold obind at po1
    cases z : ga sl mu1 with
    | ok ds mu2 =>
      rw [z] at po1
      intro vs F2 al2 H2 x2 r2
      exact ⟨F2, al2, mu2, d :: ds, x2.mus, .cons (x2.rp r1) r2, hl _ _ _ _ z, Po.wish (Po.step back_RD x2 po1) fun _ _ _ h => h⟩
    | ex c fs mu2 => rw [z] at po1; exact po1
    | bad => rw [z] at po1; exact po1
  · exact False.elim po1
theorem de_meth {pl : Sem Bool} (g : Gm X.prog X.w X.K X.mg X.base cl k c m (np + 1) p) (hr : Room k X.A) (tk : Takes X W) (ho : DE X cl W o fo) (ha : DAs X cl W (e :: es) ga) (hl : Len ga np)
    (hst : starEach (e :: es) X.env = (false, eval e X.env) :: starEach es X.env := by rfl) (hpl : (backTo pos (starEach es X.env)).any (·.1) = false := by rfl)
    (ht : eval (.Call (.Attribute o m apos) (e :: es) [] pos) X.env = (do
      let ov ← eval o X.env
      standAt apos.atName
      let (f, first) ← holding [ov] (getMethod ov m pl)
      callWith pos f first (backTo pos (starEach (e :: es) X.env)) (backToKw pos (keywordEach [] X.env))) := by rfl) :
    DE X cl W (.Call (.Attribute o m apos) (e :: es) [] pos) (dMeth c m p fo ga) := by
  obtain ⟨f, fd, ps, hf, hm, hc, hb⟩ := g.ex
  exact PE.imp (pe_meW (pl := pl) (E := WE W) ho hc hm hf hr hb (passAt tk) ha hst hpl ht) fun σ H Q q => tMe (F0 := p) (fun _ _ _ _ h => by rw [hl _ _ _ _ h]) q
theorem tMkD (h0 : Lv cl c) (hl : ∀ sl mu ds mu', ga sl mu = .ok ds mu' → ds.length + 1 = np) {σ : St} {H : Hp} {Q : VK} (q : tG (Cx.th X cl) W (RD (Cx.th X cl)) (dMake c p ga) σ H Q) :
    tMkW (cl c) (spD (Cx.th X cl) np p) (WE W) (tG (Cx.th X cl) W (RLs (Cx.th X cl)) ga) σ H Q := by
  obtain ⟨F, al, sl, mu, w, po⟩ := q
  refine ⟨F, al, sl, mu, w, ?_⟩
  unfold dMake dBind obind at po
  cases z : ga sl mu with
  | ok ds mu1 =>
    rw [z] at po
    dsimp only at po
    intro vs F1 al1 H1 x1 r1 x dx hx hdx ne
    have g1 := x1.trans (Ext.laidH x1.mus (o := .own x) hdx)
    have hx2 : upd H1 dx (.own x) x = none := by rw [upd_ne ne.symm]; exact hx
    have g2 := g1.trans (Ext.laidH g1.mus (o := .ins (cl c) dx []) hx2)
    have g3 := Ext.reg (T := Cx.th X cl) (mu1 := mu1) (m := .ins c []) g2 (a := x) (x1.there x (.of hx)) (x1.mus.F_none hx) upd_same ⟨⟨rfl, h0⟩, .nil⟩ (Mus.ne_laid x1.mus hx)
    have ro : Rp (Cx.th X cl) F1 (regA al1 mu1.length x) (mu1 ++ [some (MO.ins c [])]).length (.ref x) (.obj mu1.length) := by
      have := Rp.obj (T := Cx.th X cl) (F := F1) (al := regA al1 mu1.length x) (n := (mu1 ++ [some (MO.ins c [])]).length) (k := mu1.length) (by simp)
      rwa [show regA al1 mu1.length x mu1.length = x from if_pos rfl] at this
    have rds := r1.mono (T := Cx.th X cl) (F' := F1) (al' := regA al1 mu1.length x) (n' := (mu1 ++ [some (MO.ins c [])]).length) (fun _ _ h => h) (fun k h => regA_lt h) (by rw [List.length_append]; exact Nat.le_add_right _ _)
    refine ⟨F1, regA al1 mu1.length x, mu1 ++ [some (.ins c [])], .obj mu1.length :: ds, g3.mus, .cons ro rds, hl _ _ _ _ z, ?_⟩
    cases z2 : p (.obj mu1.length :: ds) (mu1 ++ [some (.ins c [])]) with
    | ok d mu2 =>
      rw [z2] at po
      cases d with
      | non =>
        intro v F2 al2 H2 x2 r2
        cases r2
        refine ⟨rfl, po _ _ _ _ (g3.trans x2) ?_⟩
        exact x2.rp ro
      | _ => exact False.elim po
    | ex c' fs mu2 =>
      rw [z2] at po
      exact fun dx F2 al2 H2 x2 r2 => po _ _ _ _ (g3.trans x2) r2
    | bad => rw [z2] at po; exact False.elim po
  | ex c' fs mu1 => rw [z] at po; exact po
  | bad => rw [z] at po; exact po
theorem de_make (g : Gi X.prog X.w X.K X.mg X.base cl k x c (np + 1) p) (hr : Room (k + 1) X.A) (hg : Gl X x) (tk : Takes X W) (ha : DAs X cl W (e :: es) ga) (hl : Len ga np)
    (hdb : (x == ("__debug__" : Str)) = false := by decide) (he : starEach (e :: es) X.env = (false, eval e X.env) :: starEach es X.env := by rfl) (hpl : (backTo pos (starEach es X.env)).any (·.1) = false := by rfl) : DE X cl W (.Call (.Name x p1) (e :: es) [] pos) (dMake c p ga) := by
  obtain ⟨f, fd, ps, hf, ⟨hM, h0⟩, hm, hb⟩ := g.ex
  exact PE.imp (pe_mkW (E := WE W) hM hf hr hg hm hb (passAt tk) ha hdb he hpl) fun σ H Q q => tMkD h0 (fun _ _ _ _ h => by rw [hl _ _ _ _ h]) q
theorem de_make0 (g : Gi X.prog X.w X.K X.mg X.base cl k x c 1 p) (hr : Room (k + 1) X.A) (hg : Gl X x) (tk : Takes X W) (hdb : (x == ("__debug__" : Str)) = false := by decide) : DE X cl W (.Call (.Name x p1) [] [] pos) (dMake c p dNil) := by
  obtain ⟨f, fd, ps, hf, ⟨hM, h0⟩, hm, hb⟩ := g.ex
  refine PE.imp (pe_mkW0 (E := WE W) hM hf hr hg hm hb (passAt tk) hdb) fun σ H Q q => ?_
  obtain ⟨F, al, sl, mu, w, po⟩ := tMkD (np := 1) h0 (fun _ _ _ _ h => by cases h; rfl) q
  exact Po.here po w.toMus .nil
end
end DL
end

section
set_option Elab.async false
set_option linter.all false
set_option maxRecDepth 100000
set_option maxHeartbeats 4000000
/-! DQ: own == and !=, attributes stored, augmented names, what is out of reach goes. -/
namespace DL
open PySem L2
section
open PySem.W PyProof.Rows
variable {prog : Program} {w : World} {A : Around} {E : Value → Shared → Prop} {s : Shared} {K : Frag} {x C L f : Addr} {h₀ : Heap} {m : PySem.Str → Option Value} {ox : Obj} {od : Option Obj} {b tb : Value}
end
end DL
end

section
set_option Elab.async false
set_option linter.all false
set_option maxRecDepth 100000
set_option maxHeartbeats 4000000
namespace DL
open PySem L2
/-! DR: own == and != of the layer, attributes stored, augmented names, what is out of reach goes. -/
structure ClsE (K : PySem.W.Frag) (cl : Nat → Addr) (c : Nat) : Prop where
  ty : ∀ n ∈ ["NoneType", "bool", "int", "str", "list", "tuple", "dict"], PySem.W.notFirst K (cl c) (.type n) = true
  own : ∀ c', Lv cl c' → PySem.W.notFirst K (cl c) (.ref (cl c')) = true
structure ClsN (K : PySem.W.Frag) (C : Addr) : Prop where
  ne : PySem.W.findIn K (.ref C) "__ne__" = some (some (.builtin "object.__ne__"))
  ob : PySem.W.mroIn K C (.type "object") = some true
abbrev E0 : XK := fun _ _ _ => False
section
variable {X : Cx} {cl : Nat → Addr} {W : WX} {n : En} {a b e o i : PySem.Expr} {es : List PySem.Expr} {f fa fb fo fi : EF} {ga : LF} {pos p1 pos' apos cpos : Pos} {x m : Str} {k c np : Nat} {p : FF}
def insOf (mu : Store) : D → Option (Nat × List (Str × D))
  | .obj k => match mu[k]? with
    | some (some (.ins c fs)) => some (c, fs)
    | _ => none
  | _ => none
theorem insOf_get {mu : Store} {d : D} {c : Nat} {l : List (Str × D)} (h : insOf mu d = some (c, l)) : ∃ k, d = .obj k ∧ mu[k]? = some (some (.ins c l)) := by
  cases d with
  | obj k =>
    unfold insOf at h
    dsimp only at h
    split at h
    · rename_i c' l' e
      cases h
      exact ⟨k, rfl, e⟩
    · cases h
  | _ => cases h
def sSetA (x : Str) (fo f : EF) : SF := fun sl mu => sbind (f sl mu) sl fun v mu => sbind (fo sl mu) sl fun d mu => match insOf mu d with
  | some (c, fs) => if fs.length < 1000 then .nx sl (putO mu d (.ins c (putFD x v fs))) else .bad
  | none => .bad
theorem RpF.len {T : Th} {F : Hp} {al : Nat → Addr} {n : Nat} : ∀ {vs : List (Str × V)} {ds : List (Str × D)}, RpF T F al n vs ds → vs.length = ds.length
  | [], [], _ => rfl
  | _ :: vs, _ :: ds, .cons _ h => by rw [List.length_cons, List.length_cons, RpF.len h]
  | [], _ :: _, h => by cases h
  | _ :: _, [], h => by cases h
theorem RpF.put {T : Th} {F : Hp} {al : Nat → Addr} {n : Nat} {v : V} {d : D} {x : Str} (r : Rp T F al n v d) : ∀ {vs : List (Str × V)} {ds : List (Str × D)}, RpF T F al n vs ds → RpF T F al n (putF x v vs) (putFD x d ds)
  | [], [], _ => .cons r .nil
  | (y, u) :: vs, (z, e) :: ds, h => by
    cases h with
    | cons h1 h2 =>
      unfold putF putFD
      split
      · exact .cons r h2
      · exact .cons h1 (RpF.put r h2)
  | [], _ :: _, h => by cases h
  | _ :: _, [], h => by cases h
theorem ds_setA (hC : ∀ c, Lv cl c → ClsT X.K (cl c)) (hN : ∀ c, Lv cl c → NoAttr X.K (cl c) x) (ho : DE X cl W o fo) (hf : DE X cl W e f) (hs : swapsWith e (some (.Attribute o x pos')) pos.line X.env = pure false := by rfl) : DS X cl W n (.Assign [.Attribute o x pos'] e pos) (sSetA x fo f) :=
  PS.imp (ps_fld ho hf hs) fun Z σ H q => by
    obtain ⟨F, al, sl, mu, w, po⟩ := q
    refine seqS w po rfl fun v d F1 al1 mu1 H1 x1 w1 r1 po1 => ?_
    refine seqS w1 po1 rfl fun ov dd F2 al2 mu2 H2 x2 w2 r2 po2 => ?_
    cases z : insOf mu2 dd with
    | none => rw [z] at po2; exact False.elim po2
    | some q =>
      obtain ⟨c, fs⟩ := q
      rw [z] at po2
      dsimp only at po2
      split at po2
      · rename_i hl
        obtain ⟨k, rfl, hk⟩ := insOf_get z
        cases r2
        obtain ⟨_, ho, h1, h2⟩ := w2.w.toMus.at_ k _ hk
        cases ho with
        | ins C dx vs =>
          obtain ⟨⟨e1, h0⟩, h3⟩ := h2
          subst e1
          exact ⟨_, _, dx, vs, rfl, h1, (hC c h0).cl, hN c h0, by rw [h3.len]; exact hl, PoS.nx po2 (w2.updO hk (o := .ins (cl c) dx (putF x v vs)) (m := .ins c (putFD x d fs)) ⟨⟨rfl, h0⟩, RpF.put (x2.rp r1) h3⟩) (by show mu2.length ≤ (mu2.set k _).length; rw [List.length_set]; exact Nat.le_refl _)⟩
        | _ => exact False.elim h2
      · exact False.elim po2

/-! ### x += e, x -= e of ints -/
def sAug (i : Nat) (g : Int → Int → Int) (f : EF) : SF := fun sl mu => match sl[i]? with
  | some (some (.val (.int z))) => sbind (f sl mu) sl fun d mu => match d with
    | .int j => .nx (sl.set i (some (.val (.int (g z j))))) mu
    | _ => .bad
  | _ => .bad
theorem ds_aug {i : Nat} {p' : Pos} {op : Operator} {g : Int → Int → Int} (hip : PIp X op (ipI g)) (hN : X.N.Nodup) (hi : X.N[i]? = some x) (hx : Loc X.env.scope x) (he : DE X cl W e f)
    (hf : X.fn x = true ∨ X.env.scope.names.lookup x = some .local := by first | exact .inl rfl | exact .inr rfl | assumption) : DS X cl W n (.AugAssign (.Name x p') op e pos) (sAug i g f) := PS.imp (ps_aug hN hi hx he hip hf) fun Z σ H q => by
  obtain ⟨F, al, sl, mu, w, po⟩ := q
  unfold sAug at po
  split at po
  · rename_i z hz
    obtain ⟨v, h1, h2⟩ := w.w.val i _ hz
    cases h2
    refine ⟨_, h1, ?_⟩
    refine seqS w po rfl fun v d F1 al1 mu1 H1 x1 w1 r1 po1 => ?_
    cases d with
    | int j => cases r1; exact ⟨z, j, rfl, rfl, PoS.nx po1 (w1.setVal (.int _))⟩
    | _ => exact False.elim po1
  · exact False.elim po
theorem ds_inc {i : Nat} {p' : Pos} (hN : X.N.Nodup) (hi : X.N[i]? = some x) (hx : Loc X.env.scope x) (he : DE X cl W e f)
    (hf : X.fn x = true ∨ X.env.scope.names.lookup x = some .local := by first | exact .inl rfl | exact .inr rfl | assumption) : DS X cl W n (.AugAssign (.Name x p') .Add e pos) (sAug i (fun i j => i + j) f) := ds_aug ip_add hN hi hx he hf
end

/-! ### what is out of reach goes -/
mutual
def clD (n : Nat) : D → Bool
  | .obj k => decide (k < n)
  | .lst l => clL n l
  | .frl l => clL n l
  | .tup l => clL n l
  | .ins _ fs => clF n fs
  | _ => true
def clL (n : Nat) : List D → Bool
  | [] => true
  | d :: ds => clD n d && clL n ds
def clF (n : Nat) : List (Str × D) → Bool
  | [] => true
  | (_, d) :: ds => clD n d && clF n ds
end
def clM (n : Nat) : Option MO → Bool
  | some (.lst l) => clL n l
  | some (.ins _ fs) => clF n fs
  | some (.dct _) => false
  | none => true
section
variable {T : Th} {F : Hp} {al : Nat → Addr} {n n' : Nat}
mutual
theorem Rp.shrink : ∀ {d : D} {v : V}, Rp T F al n v d → clD n' d = true → Rp T F al n' v d
  | .non, _, h, _ => by cases h; exact .non
  | .bl b, _, h, _ => by cases h; exact .bl b
  | .int i, _, h, _ => by cases h; exact .int i
  | .str x, _, h, _ => by cases h; exact .str x
  | .lst ds, _, h, c => by cases h with | lst h1 h2 => exact .lst h1 (RpL.shrink h2 c)
  | .tup ds, _, h, c => by cases h with | tup h1 h2 => exact .tup h1 (RpL.shrink h2 c)
  | .dct kvs, _, h, _ => by cases h with | dct h1 => exact .dct h1
  | .frl ds, _, h, c => by cases h with | frl h1 h2 => exact .frl h1 (RpL.shrink h2 c)
  | .ins c ds, _, h, q => by cases h with | ins h0 h1 h2 => exact .ins h0 h1 (RpF.shrink h2 q)
  | .obj k, _, h, c => by cases h with | obj h1 => exact .obj (of_decide_eq_true c)
theorem RpL.shrink : ∀ {ds : List D} {vs : List V}, RpL T F al n vs ds → clL n' ds = true → RpL T F al n' vs ds
  | [], _, h, _ => by cases h; exact .nil
  | d :: ds, _, h, c => by
    have c' : (clD n' d && clL n' ds) = true := c
    rw [Bool.and_eq_true] at c'
    cases h with | cons h1 h2 => exact .cons (Rp.shrink h1 c'.1) (RpL.shrink h2 c'.2)
theorem RpF.shrink : ∀ {ds : List (Str × D)} {vs : List (Str × V)}, RpF T F al n vs ds → clF n' ds = true → RpF T F al n' vs ds
  | [], _, h, _ => by cases h; exact .nil
  | (x, d) :: ds, _, h, c => by
    have c' : (clD n' d && clF n' ds) = true := c
    rw [Bool.and_eq_true] at c'
    cases h with | cons h1 h2 => exact .cons (Rp.shrink h1 c'.1) (RpF.shrink h2 c'.2)
end
theorem Conc.shrink {o : HO} {m : MO} (h : Conc T F al n o m) (c : clM n' (some m) = true) : Conc T F al n' o m := by
  cases o <;> cases m <;> first
    | exact False.elim h
    | exact RpL.shrink h c
    | exact ⟨h.1, RpF.shrink h.2 c⟩
end
/-- the objects made since go, where nothing that stays names one -/
def gcO {α : Type} (cl : Nat → α → Bool) (n : Nat) (o : Out α) : Out α := match o with
  | .ok d mu => if cl n d && (mu.take n).all (clM n) then .ok d (mu.take n) else .bad
  | .ex c fs mu => if clF n fs && (mu.take n).all (clM n) then .ex c fs (mu.take n) else .bad
  | .bad => .bad
theorem take_get {mu : Store} {n k : Nat} {m : MO} (h : (mu.take n)[k]? = some (some m)) : k < n ∧ mu[k]? = some (some m) := by
  rw [List.getElem?_take] at h
  split at h
  · exact ⟨by assumption, h⟩
  · cases h
theorem Ext.gc {T : Th} {F F1 H H1 : Hp} {al al1 : Nat → Addr} {mu mu1 : Store} (x : Ext T F al mu H F1 al1 mu1 H1) (c : (mu1.take mu.length).all (clM mu.length) = true) : Ext T F al mu H F1 al1 (mu1.take mu.length) H1 := by
  have ln : (mu1.take mu.length).length = mu.length := by rw [List.length_take]; exact Nat.min_eq_left x.ln
  refine ⟨⟨x.mus.sub, fun k m e => ?_, fun k m k' m' e1 e2 z => x.mus.inj k m k' m' (take_get e1).2 (take_get e2).2 z, x.mus.tab, x.mus.nt⟩, x.sub, x.new, x.keep, x.there, x.als, by rw [ln]; exact Nat.le_refl _, fun k m e => x.fresh k m (take_get e).2⟩
  obtain ⟨h1, o, h2, h3⟩ := x.mus.at_ k m (take_get e).2
  rw [ln]
  exact ⟨h1, o, h2, h3.shrink (List.all_eq_true.mp c _ (List.mem_of_getElem? e))⟩
theorem po_gc {T : Th} {W : WX} {F : Hp} {al : Nat → Addr} {mu : Store} {σ : St} {H : Hp} {o : Out D} {Q : VK} (h : Po T W F al mu σ H (RD T) (gcO clD mu.length o) Q) : Po T W F al mu σ H (RD T) o Q := by
  cases o with
  | ok d mu1 =>
    unfold gcO at h
    dsimp only at h
    split at h
    · rename_i c
      rw [Bool.and_eq_true] at c
      intro v F1 al1 H1 x r
      have ln : (mu1.take mu.length).length = mu.length := by rw [List.length_take]; exact Nat.min_eq_left x.ln
      exact h v F1 al1 H1 (x.gc c.2) (by show Rp _ _ _ (mu1.take mu.length).length _ _; rw [ln]; exact Rp.shrink r c.1)
    · exact False.elim h
  | ex c fs mu1 =>
    unfold gcO at h
    dsimp only at h
    split at h
    · rename_i c
      rw [Bool.and_eq_true] at c
      intro dx F1 al1 H1 x r
      have ln : (mu1.take mu.length).length = mu.length := by rw [List.length_take]; exact Nat.min_eq_left x.ln
      refine h dx F1 al1 H1 (x.gc c.2) ?_
      rcases r with r | ⟨dx', vs, e1, e2, e3⟩
      · exact .inl r
      · exact .inr ⟨dx', vs, e1, e2, by rw [ln]; exact RpF.shrink e3 c.1⟩
    · exact False.elim h
  | bad => exact h
def fGc (p : FF) : FF := fun ds mu => gcO clD mu.length (p ds mu)
theorem spD_gc {T : Th} {np : Nat} {p : FF} : ∀ vs H Q E, spD T np (fGc p) vs H Q E → spD T np p vs H Q E := fun vs H Q E ⟨F, al, mu, ds, m, r, hl, po⟩ => ⟨F, al, mu, ds, m, r, hl, po_gc po⟩
section
variable {P : Program} {w : World} {K : PySem.W.Frag} {mg : Str → Option Value} {base : Heap} {cl : Nat → Addr}
theorem Gf.gc {k np : Nat} {x : Str} {p : FF} (c : Gf P w K mg base cl k x np p) : Gf P w K mg base cl k x np (fGc p) := by
  obtain ⟨f, fd, ps, hf, r⟩ := c.ex
  exact ⟨f, fd, ps, hf.imp spD_gc, r⟩
theorem Gm.gc {k c np : Nat} {x : Str} {p : FF} (g : Gm P w K mg base cl k c x np p) : Gm P w K mg base cl k c x np (fGc p) := by
  obtain ⟨f, fd, ps, hf, r⟩ := g.ex
  exact ⟨f, fd, ps, hf.imp spD_gc, r⟩
theorem Gm.to {k c np : Nat} {x : Str} {p q : FF} (g : Gm P w K mg base cl k c x np p) (h : ∀ ds mu, ds.length = np → q ds mu ≠ .bad → p ds mu = q ds mu) : Gm P w K mg base cl k c x np q := by
  obtain ⟨f, fd, ps, hf, r⟩ := g.ex
  exact ⟨f, fd, ps, hf.imp (spD_imp h), r⟩
theorem Gi.gc {k c np : Nat} {x : Str} {p : FF} (g : Gi P w K mg base cl k x c np p) : Gi P w K mg base cl k x c np (fGc p) := by
  obtain ⟨f, fd, ps, hf, r⟩ := g.ex
  exact ⟨f, fd, ps, hf.imp spD_gc, r⟩
theorem Gi.to {k c np : Nat} {x : Str} {p q : FF} (g : Gi P w K mg base cl k x c np p) (h : ∀ ds mu, ds.length = np → q ds mu ≠ .bad → p ds mu = q ds mu) : Gi P w K mg base cl k x c np q := by
  obtain ⟨f, fd, ps, hf, r⟩ := g.ex
  exact ⟨f, fd, ps, hf.imp (spD_imp h), r⟩
theorem Gm.mono {j k c np : Nat} {x : Str} {p : FF} (g : Gm P w K mg base cl j c x np p) (h : j ≤ k) : Gm P w K mg base cl k c x np p := by
  obtain ⟨f, fd, ps, hf, r⟩ := g.ex
  exact ⟨f, fd, ps, hf.mono h, r⟩
theorem Gi.mono {j k c np : Nat} {x : Str} {p : FF} (g : Gi P w K mg base cl j x c np p) (h : j ≤ k) : Gi P w K mg base cl k x c np p := by
  obtain ⟨f, fd, ps, hf, r⟩ := g.ex
  exact ⟨f, fd, ps, hf.mono h, r⟩
end
end DL
end

section
set_option Elab.async false
set_option linter.all false
set_option maxRecDepth 100000
set_option maxHeartbeats 4000000
namespace DL
open PySem L2
/-! DS: methods of one argument, sorted, texts. -/
def tyOk : String → D → Bool
  | "str", .str _ => true
  | "list", .lst _ => true
  | _, _ => false
def PurM (T : Th) (r : V → List V → Hp → VK → Prop) (g : D → D → Option D) : Prop := ∀ (F : Hp) (al : Nat → Addr) (mu : Store) (H : Hp), Mus T F al mu H → ∀ (x y : V) (d e res : D), Top T F al mu.length H x d → Top T F al mu.length H y e → g d e = some res → ∀ Q : VK,
  (∀ v F' H', Ext T F al mu H F' al mu H' → Rp T F' al mu.length v res → Q v H') → r x [y] H Q
/-- o.m(e): o, e looked into -/
def dM1 (ty : String) (g : D → D → Option D) (fo fa : EF) : EF := dBind fo fun d sl mu => if tyOk ty (lookD mu d) = true then obind (fa sl mu) fun e mu => match g (lookD mu d) (lookD mu e) with
  | some r => .ok r mu
  | none => .bad
  else .bad
theorem tyV_of {T : Th} {F H : Hp} {al : Nat → Addr} {n : Nat} {ty : String} {v : V} {d : D} (t : Top T F al n H v d) (h : tyOk ty d = true) : tyV T.K ty v H := by
  unfold tyOk at h
  split at h
  · cases (show Rp _ _ _ _ _ _ from t)
    exact (rfl : "str" = "str")
  · obtain ⟨a, xs, rfl, h1, _⟩ := t
    exact .inl ⟨rfl, xs, SqL.of h1⟩
  · cases h
section
variable {X : Cx} {cl : Nat → Addr} {W : WX} {n : En} {a b e o i : PySem.Expr} {es : List PySem.Expr} {f fa fb fo fi : EF} {ga : LF} {pos p1 pos' apos cpos : Pos} {x m : Str} {k c np : Nat} {p : FF}
theorem de_m1 {name : Str} {ty id : String} {r : V → List V → Hp → VK → Prop} {g : D → D → Option D} (pa : PlainAttrs ty) (slot : Slot ty name id) (hty : typeOf (.builtin id) = pure (.type "method_descriptor")) (hm : MtR X id r) (hr : PurM (Cx.th X cl) r g) (ho : DE X cl W o fo) (he : DE X cl W e fa)
    (hbase : attributeBase o name X.env (eval o X.env) = eval o X.env := by rfl)
    (hfew : ((backTo cpos (starEach [e] X.env)).all (fun x => !x.1) && (backToKw cpos (keywordEach [] X.env)).all (fun x => x.1.isSome)
      && decide ([e].length + ([] : List Keyword).length + (if ([] : List Keyword).isEmpty then 0 else 1) < 30)) = true := by rfl)
    (hline : (apos.endLine == cpos.line) = true := by rfl) (hs : starEach [e] X.env = (false, eval e X.env) :: starEach [] X.env := by rfl) (hplain : (backTo cpos (starEach [] X.env)).any (·.1) = false := by rfl) :
    DE X cl W (.Call (.Attribute o name apos) [e] [] cpos) (dM1 ty g fo fa) :=
  PE.imp (pe_bm pa slot hty hm ho (pa_cons (dk_look he) pa_nil hs) hbase hfew hline hs hplain) fun σ H Q q => by
    obtain ⟨F, al, sl, mu, w, po⟩ := q
    refine seqG back_RD w po rfl fun v d F1 al1 mu1 H1 x1 w1 r1 po1 => ?_
    dsimp only at po1
    split at po1
    · rename_i hok
      refine ⟨tyV_of (T := Cx.th X cl) (top_look w1.toMus r1) hok, ?_⟩
      obtain ⟨F', al', sl', mu', w', po'⟩ : tG (Cx.th X cl) W (RK (Cx.th X cl)) (dLook fa) σ H1 fun y H2 => r v [y] H2 Q := by
        refine ⟨F1, al1, sl, mu1, w1, ?_⟩
        unfold dLook dBind obind
        unfold obind at po1
        cases z : fa sl mu1 with
        | ok e mu2 =>
          rw [z] at po1
          dsimp only at po1 ⊢
          intro y F2 al2 H2 x2 r2
          cases z2 : g (lookD mu2 d) (lookD mu2 e) with
          | none => rw [z2] at po1; exact False.elim po1
          | some res =>
            rw [z2] at po1
            exact hr F2 al2 mu2 H2 x2.mus v y _ _ res (top_look x2.mus (x2.rp r1)) r2 z2 Q fun v' F' H' x' r' => po1 v' F' al2 H' (x2.trans x') r'
        | ex c fs mu2 => rw [z] at po1; exact po1
        | bad => rw [z] at po1; exact po1
      exact ⟨F', al', sl', mu', w', po'⟩
    · exact False.elim po1
def strsD : List D → Option (List Str)
  | [] => some []
  | .str x :: l => (strsD l).map (x :: ·)
  | _ => none
theorem strsD_rp {T : Th} {F : Hp} {al : Nat → Addr} {n : Nat} : ∀ {l : List D} {xs : List V} {ys : List Str}, RpL T F al n xs l → strsD l = some ys → xs = ys.map V.str
  | [], _, _, r, e => by cases r; cases e; rfl
  | d :: l, _, is, r, e => by
    cases r with
    | cons r1 r2 =>
      cases d with
      | str i =>
        cases r1
        obtain ⟨is', h1, rfl⟩ := Option.map_eq_some_iff.mp e
        rw [strsD_rp r2 h1]; rfl
      | _ => cases e
theorem strsRp {T : Th} {F : Hp} {al : Nat → Addr} {n : Nat} : ∀ ys : List Str, RpL T F al n (ys.map V.str) (ys.map D.str)
  | [] => .nil
  | _ :: ys => .cons (.str _) (strsRp ys)
def joinD : D → D → Option D
  | .str a, .lst l => match strsD l with
    | some ys => if (ys.map (·.length)).sum + ys.length * a.length ≤ 16777216 then some (.str (Txt.join a ys)) else none
    | none => none
  | _, _ => none
theorem de_join (ho : DE X cl W o fo) (he : DE X cl W e fa)
    (hbase : attributeBase o "join" X.env (eval o X.env) = eval o X.env := by rfl)
    (hfew : ((backTo cpos (starEach [e] X.env)).all (fun x => !x.1) && (backToKw cpos (keywordEach [] X.env)).all (fun x => x.1.isSome)
      && decide ([e].length + ([] : List Keyword).length + (if ([] : List Keyword).isEmpty then 0 else 1) < 30)) = true := by rfl)
    (hline : (apos.endLine == cpos.line) = true := by rfl) (hs : starEach [e] X.env = (false, eval e X.env) :: starEach [] X.env := by rfl) (hplain : (backTo cpos (starEach [] X.env)).any (·.1) = false := by rfl) :
    DE X cl W (.Call (.Attribute o "join" apos) [e] [] cpos) (dM1 "str" joinD fo fa) :=
  de_m1 PySem.F.plainAttrs_str PySem.F.slot_str_join (by rfl) mt_join (fun F al mu H m x y d e res t1 t2 z Q k => by
    cases d with
    | str a =>
      cases e with
      | lst l =>
        unfold joinD at z
        dsimp only at z
        split at z
        · rename_i ys hy
          split at z
          · rename_i hl
            cases z
            cases (show Rp _ _ _ _ _ _ from t1)
            obtain ⟨p, xs, rfl, h1, h2⟩ := t2
            have h3 : xs = ys.map V.str := strsD_rp h2 hy
            subst h3
            exact ⟨a, p, ys, rfl, rfl, .inl (SqL.of h1), hl, k _ _ _ (Ext.refl m) (.str _)⟩
          · cases z
        · cases z
      | _ => cases z
    | _ => cases z) ho he hbase hfew hline hs hplain
def splitD : D → D → Option D
  | .str a, .str b => if (b.length == 0) = false ∧ a.length + 2 ≤ 16000000 then some (.lst ((Txt.split a b).map D.str)) else none
  | _, _ => none
theorem de_split (ho : DE X cl W o fo) (he : DE X cl W e fa)
    (hbase : attributeBase o "split" X.env (eval o X.env) = eval o X.env := by rfl)
    (hfew : ((backTo cpos (starEach [e] X.env)).all (fun x => !x.1) && (backToKw cpos (keywordEach [] X.env)).all (fun x => x.1.isSome)
      && decide ([e].length + ([] : List Keyword).length + (if ([] : List Keyword).isEmpty then 0 else 1) < 30)) = true := by rfl)
    (hline : (apos.endLine == cpos.line) = true := by rfl) (hs : starEach [e] X.env = (false, eval e X.env) :: starEach [] X.env := by rfl) (hplain : (backTo cpos (starEach [] X.env)).any (·.1) = false := by rfl) :
    DE X cl W (.Call (.Attribute o "split" apos) [e] [] cpos) (dM1 "str" splitD fo fa) :=
  de_m1 PySem.F.plainAttrs_str PySem.F.slot_str_split (by rfl) mt_split (fun F al mu H m x y d e res t1 t2 z Q k => by
    cases d with
    | str a =>
      cases e with
      | str b =>
        unfold splitD at z
        dsimp only at z
        split at z
        · rename_i hl
          cases z
          cases (show Rp _ _ _ _ _ _ from t1)
          cases (show Rp _ _ _ _ _ _ from t2)
          exact ⟨a, b, rfl, rfl, hl.1, by rw [sizeLine_eq]; omega, fun p hp => k _ _ _ (Ext.laidF m hp) (.lst upd_same (strsRp _))⟩
        · cases z
      | _ => cases z
    | _ => cases z) ho he hbase hfew hline hs hplain
def stripD : D → D → Option D
  | .str a, .str b => if a.length ≤ 16000000 then some (.str (Txt.stripChars a b)) else none
  | _, _ => none
theorem de_strip (ho : DE X cl W o fo) (he : DE X cl W e fa)
    (hbase : attributeBase o "strip" X.env (eval o X.env) = eval o X.env := by rfl)
    (hfew : ((backTo cpos (starEach [e] X.env)).all (fun x => !x.1) && (backToKw cpos (keywordEach [] X.env)).all (fun x => x.1.isSome)
      && decide ([e].length + ([] : List Keyword).length + (if ([] : List Keyword).isEmpty then 0 else 1) < 30)) = true := by rfl)
    (hline : (apos.endLine == cpos.line) = true := by rfl) (hs : starEach [e] X.env = (false, eval e X.env) :: starEach [] X.env := by rfl) (hplain : (backTo cpos (starEach [] X.env)).any (·.1) = false := by rfl) :
    DE X cl W (.Call (.Attribute o "strip" apos) [e] [] cpos) (dM1 "str" stripD fo fa) :=
  de_m1 PySem.F.plainAttrs_str PySem.F.slot_str_strip (by rfl) mt_stripChars (fun F al mu H m x y d e res t1 t2 z Q k => by
    cases d with
    | str a =>
      cases e with
      | str b =>
        unfold stripD at z
        dsimp only at z
        split at z
        · rename_i hl
          cases z
          cases (show Rp _ _ _ _ _ _ from t1)
          cases (show Rp _ _ _ _ _ _ from t2)
          exact ⟨a, b, rfl, rfl, by rw [sizeLine_eq]; omega, k _ _ _ (Ext.refl m) (.str _)⟩
        · cases z
      | _ => cases z
    | _ => cases z) ho he hbase hfew hline hs hplain
/-- the first place of an equal one -/
def indexD : D → D → Option D
  | .lst l, e => match toPL l, toP e with
    | some ps, some p => if SeqAt.shaped (.list ps) && SeqAt.shaped p then match ps.findIdx? fun z => PyData.eqv z p with
        | some j => some (.int (j : Nat))
        | none => none
      else none
    | _, _ => none
  | _, _ => none
theorem de_index (hu : X.A.units + 65 < cLine) (ho : DE X cl W o fo) (he : DE X cl W e fa)
    (hbase : attributeBase o "index" X.env (eval o X.env) = eval o X.env := by rfl)
    (hfew : ((backTo cpos (starEach [e] X.env)).all (fun x => !x.1) && (backToKw cpos (keywordEach [] X.env)).all (fun x => x.1.isSome)
      && decide ([e].length + ([] : List Keyword).length + (if ([] : List Keyword).isEmpty then 0 else 1) < 30)) = true := by rfl)
    (hline : (apos.endLine == cpos.line) = true := by rfl) (hs : starEach [e] X.env = (false, eval e X.env) :: starEach [] X.env := by rfl) (hplain : (backTo cpos (starEach [] X.env)).any (·.1) = false := by rfl) :
    DE X cl W (.Call (.Attribute o "index" apos) [e] [] cpos) (dM1 "list" indexD fo fa) :=
  de_m1 PySem.F.plainAttrs_list PySem.F.slot_list_index (by rfl) (mt_indexD hu) (fun F al mu H m x y d e res t1 t2 z Q k => by
    cases d with
    | lst l =>
      unfold indexD at z
      dsimp only at z
      split at z
      · rename_i ps p e1 e2
        split at z
        · rename_i hsh
          rw [Bool.and_eq_true] at hsh
          split at z
          · rename_i j hj
            cases z
            obtain ⟨a, xs, rfl, h1, h2⟩ := t1
            rw [List.findIdx?_eq_some_iff_getElem] at hj
            obtain ⟨hlt, hj1, hj2⟩ := hj
            have t2' : Rp (Cx.th X cl) F al mu.length y e ∨ ∃ l', e = .lst l' := by
              cases e with
              | lst l' => exact .inr ⟨l', rfl⟩
              | ins c fs => cases e2
              | dct _ => cases e2
              | _ => exact .inl t2
            have hy : Dp X.K H y p := by
              rcases t2' with h | ⟨l', rfl⟩
              · exact h.dp m.sub e2
              · obtain ⟨b, ys, rfl, g1, g2⟩ := t2
                unfold toP at e2
                split at e2
                · rename_i qs e3
                  cases e2
                  exact .lst (SqL.of g1) (g2.dp m.sub e3)
                · cases e2
            refine ⟨a, y, p, ps, j, ps[j], rfl, rfl, .lst (SqL.of h1) (h2.dp m.sub e1), hy, hsh.1, hsh.2, List.getElem?_eq_getElem hlt, hj1, fun m' z' hm hz => ?_, k _ _ _ (Ext.refl m) (.int _)⟩
            obtain ⟨hml, rfl⟩ := List.getElem?_eq_some_iff.mp hz
            have := hj2 m' hm
            simpa using this
          · cases z
        · cases z
      · cases z
    | _ => cases z) ho he hbase hfew hline hs hplain
end
end DL
end

section
set_option Elab.async false
set_option linter.all false
set_option maxRecDepth 100000
set_option maxHeartbeats 4000000
/-! DT: sorted of a list of tuples whose first one is (). -/
namespace DL
open PySem PySem.W PySem.Calls PySem.SeqAt PyProof.Rows
/-- the call of tuple's own __lt__, as sorting makes it -/
theorem tup_lt_call {prog : Program} {w : World} {A : Around} {s : Shared} {E : Value → Shared → Prop} {Q : Value → Shared → Prop} {l b : Addr} {items items2 : Array Value} {e r : Nat → Bool} (hl : s.heap.IsTuple l items) (hb : s.heap.IsTuple b items2)
    (he : ∀ j (h1 : j < items.size) (h2 : j < items2.size), EqAt A.in1 s items[j] items2[j] (e j)) (hr : ∀ j (h1 : j < items.size) (h2 : j < items2.size), e j = false → RcLt A.in1 s items[j] items2[j] (r j))
    (h : Q (.bool (firstLt e r (decide (items.size < items2.size)) (List.range (min items.size items2.size)))) s) : wpAny (model prog w) A (call (.builtin "tuple.__lt__") [.ref l, .ref b]) Q E s := by
  obtain ⟨⟨cls, dd, data, sl⟩, ho, hc, n, hd⟩ := id hl
  obtain ⟨⟨cls2, dd2, data2, sl2⟩, ho2, hc2, n2, hd2⟩ := id hb
  simp only at hc hd hc2 hd2
  subst hc hd hc2 hd2
  exact call_meets F.slot_tuple_lt ⟨_, ho, rfl⟩ F.entry_tuple_lt (F.args_tuple_lt_2 _ _) (tuple_ltAt l b items items2 n n2 dd dd2 sl sl2 e r) ⟨ho, ho2, he, hr, h⟩
section
variable {prog : Program} {w : World} {A : Around} {E : Value → Shared → Prop} {s : Shared}
theorem tup_oneLt {xs ys : List PyData} {a b : Value} {as bs : List Addr} {Q : Bool → Shared → Prop} (ra : Reads s.heap a (.tuple xs) as) (rb : Reads s.heap b (.tuple ys) bs) (hal : alikeAll xs ys = true)
    (hu : A.units + min (PyData.tuple xs).depth (PyData.tuple ys).depth < cLine) (hq : Q (dataLt (.tuple xs) (.tuple ys)) s) : wpAny (model prog w) A (oneLt' true a b) Q E s := by
  cases ra with
  | @tuple l o vs n _ as₁ h1 h2 h3 h4 =>
    cases rb with
    | @tuple l' o' vs' n' _ bs₁ k1 k2 k3 k4 =>
      have n1 : vs.size = xs.length := by simpa using ReadsAll.length _ _ _ h4
      have n2 : vs'.size = ys.length := by simpa using ReadsAll.length _ _ _ k4
      rw [dataLt_tuple, ← firstLt_toks xs ys hal, ← n1, ← n2] at hq
      rw [oneLt'_eq]
      simp only [if_true]
      refine wpAny_bind (wpAny_cRoomFor (room_here hu) ?_)
      refine wpAny_bind (wpAny_callSpecialIfBound?_slot (T := "tuple") ⟨_, h1, h2⟩ F.slot_tuple_lt (tup_lt_call (e := pairEq xs ys) (r := fun j => dataLt (xs.getD j .none) (ys.getD j .none)) ⟨_, h1, h2, _, h3⟩ ⟨_, k1, k2, _, k3⟩ (fun j j1 j2 => ?_) (fun j j1 j2 hj => ?_) ?_))
      · have := eqAt_alikeAll xs ys A.in1 s vs.toList vs'.toList _ _ h4 k4 hal (room_in hu) j (by simpa using j1) (by simpa using j2)
        simpa using this
      · have := rcLt_alikeAll xs ys A.in1 s vs.toList vs'.toList _ _ h4 k4 hal (room_in hu) j (by simpa using j1) (by simpa using j2) hj
        simpa using this
      · exact wpAny_truthy_bool hq
/-- what the first items of tuples are -/
theorem firsts0 {h : Heap} {M : Model} : ∀ {vs : List Value} {ds : List PyData}, EachIs (fun v d => ∃ as, Reads h v d as) vs ds → (∀ d, d ∈ ds → ∃ xs, d = .tuple xs) → ∀ {Q : List (Option Value) → Shared → Prop} {s : Shared}, s.heap = h → (∀ fs : List (Option Value), (∀ d r, ds = d :: r → d = .tuple [] → ∃ r, fs = none :: r) → Q fs s) → wpAny M A (vs.mapM firstOfTuple') Q E s
  | _, _, .nil, _, Q, s, _, hq => by rw [List.mapM_nil]; exact wpAny_pure (hq [] fun d r e => by cases e)
  | v :: vs, d :: ds, .cons ⟨as, r⟩ t, ht, Q, s, hs, hq => by
    rw [List.mapM_cons]
    obtain ⟨xs, rfl⟩ := ht d List.mem_cons_self
    cases r with
    | @tuple l o its n _ _ h1 h2 h3 h4 =>
      refine wpAny_bind ?_
      rw [kas_first_eq]
      refine wpAny_bind (Looks.here (looks_reads (M := M) (Reads.tuple (h := s.heap) (by rw [hs]; exact h1) h2 h3 (by rw [hs]; exact h4))) ?_)
      rw [show (dataType (.tuple xs) != Value.type "tuple") = false from by simp [dataType]]
      simp only [Bool.false_eq_true, if_false]
      refine wpAny_bind (listItems_at (s := s) (by rw [hs]; exact h1) h3 (wpAny_pure ?_))
      refine wpAny_bind (firsts0 t (fun d hd => ht d (List.mem_cons_of_mem _ hd)) hs fun fs hfs => wpAny_pure (hq _ fun d' r' e z => ?_))
      cases e
      injection z with z
      subst z
      have hz : its.size = 0 := by simpa using ReadsAll.length _ _ _ h4
      refine ⟨fs, ?_⟩
      rw [Array.getElem?_eq_none (by omega)]
theorem kind0 {vs : List Value} {ds : List PyData} {Q : SortKind → Shared → Prop} (e : EachIs (fun v d => ∃ as, Reads s.heap v d as) vs ds) (ht : ∀ d, d ∈ ds → ∃ xs, d = .tuple xs) (h0 : ∃ r, ds = .tuple [] :: r) (h : Q oneType' s) : wpAny (model prog w) A (keyKind' vs.toArray) Q E s := by
  obtain ⟨r, rfl⟩ := h0
  rw [keyKind'_eq, List.mapM_toArray, map_eq_pure_bind]
  refine wpAny_bind (wpAny_bind (firsts0 e ht rfl fun fs hfs => wpAny_pure ?_))
  obtain ⟨fr, rfl⟩ := hfs _ _ rfl rfl
  rw [if_neg (by simp), if_neg (by simp)]
  rw [oneTypeOnly'_eq, List.mapM_toArray, map_eq_pure_bind]
  refine wpAny_bind (wpAny_bind (wpAny_bind (kas_mapM (r := Value.type "tuple") _ (fun v hv Q' hq => ?_) (wpAny_pure ?_))))
  · obtain ⟨d, hd, as, rd⟩ := e.left v hv
    obtain ⟨xs, rfl⟩ := ht d hd
    exact (looks_reads rd).here hq
  · cases e with
    | @cons v _ vs' _ _ t =>
      have hall : ((List.map (fun _ => Value.type "tuple") (v :: vs')).toArray.all fun x => x == Value.type "tuple") = true := by
        simp only [List.all_toArray, List.all_map, List.all_eq_true]
        intro _ _
        rfl
      have h0 : (List.map (fun _ => Value.type "tuple") (v :: vs')).toArray[0]? = some (Value.type "tuple") := by simp
      rw [h0]
      simp only [hall, if_true]
      exact wpAny_pure (wpAny_pure h)
theorem sorts0 {vs : List Value} {ds : List PyData} (e : EachIs (fun v d => ∃ as, Reads s.heap v d as) vs ds) (hal : AllAlike ds) (ht : ∀ d, d ∈ ds → ∃ xs, d = .tuple xs) (h0 : ∃ r, ds = .tuple [] :: r) (hu : ∀ d, d ∈ ds → A.units + d.depth < cLine) : SortsAt prog w A s (dataKind s.heap ds) vs := by
  refine ⟨fun v hv => ?_, oneType', ?_, fun h2 E Q hq => kind0 e ht h0 hq⟩
  · obtain ⟨d, hd, as, r⟩ := e.left v hv
    exact ⟨_, dataKind_some hal hd r⟩
  · intro E x y a b Q ha hb hq
    obtain ⟨d, as, hd, ra, rfl⟩ := dataKind_inv ha
    obtain ⟨d', as', hd', rb, rfl⟩ := dataKind_inv hb
    obtain ⟨xs, rfl⟩ := ht d hd
    obtain ⟨ys, rfl⟩ := ht d' hd'
    rw [keyLt'_oneType]
    exact tup_oneLt ra rb (by simpa [alike] using hal _ hd _ hd') (Nat.lt_of_le_of_lt (Nat.add_le_add_left (Nat.min_le_left _ _) _) (hu _ hd)) hq
theorem sorted0 {β : Type} {vs : List Value} {bs : List β} {enc : β → PyData} {R : Value → β → Prop} {l : Addr} {Q : Value → Shared → Prop} (hl : s.heap.IsList l vs.toArray) (e : EachIs R vs bs) (er : EachIs (fun v b => ∃ as, Reads s.heap v (enc b) as) vs bs) (hal : AllAlike (bs.map enc))
    (ht : ∀ d, d ∈ bs.map enc → ∃ xs, d = .tuple xs) (h0 : ∃ r, bs.map enc = .tuple [] :: r) (hL : bs.length ≤ sizeLine)
    (hu : ∀ b, b ∈ bs → A.units + 2 + (enc b).depth < cLine) (h : ∀ out, out.length = bs.length → EachIs R out (bs.mergeSort (dataLe false enc)) → Q (.ref (s.heap.objs.size + 1)) { s with heap := sortedAll s.heap vs (List.toArray out) }) :
    wpAny (model prog w) A (call (.builtin "sorted") [.ref l]) Q E s := by
  have er' : EachIs (fun v b => ∃ as, Reads (sortingHeap (copyHeap s.heap vs) (s.heap.objs.size + 1) vs) v (enc b) as) vs bs := er.mono fun _ _ ⟨as, r⟩ => ⟨as, PyProof.Rows.Reads.keeps (fun _ _ => sorting_copy_old) r⟩
  exact sorted_vals hl (sorts0 (s := { s with heap := sortingHeap (copyHeap s.heap vs) (s.heap.objs.size + 1) vs }) (each_map (R := fun v d => ∃ as, Reads (sortingHeap (copyHeap s.heap vs) (s.heap.objs.size + 1) vs) v d as) enc er') hal ht h0 (bound_map hu)) (by rw [e.length]; exact hL)
    (h _ (by rw [sortVals_length false rfl]; exact e.length) (sortVals_data false e er' hal))
end
end DL
end

section
set_option Elab.async false
set_option linter.all false
set_option maxRecDepth 100000
set_option maxHeartbeats 4000000
namespace DL
open PySem L2
/-! DU: sorted, f-strings. -/
def datD (d : D) : PyData := (toP d).getD .none
def alikeB (ps : List PyData) : Bool := ps.all fun p => ps.all fun q => PySem.W.alike p q
def tupNE : PyData → Bool
  | .tuple (_ :: _) => true
  | _ => false
def notNT : PyData → Bool
  | .none => false
  | .tuple _ => false
  | _ => true
def isTupP : PyData → Bool
  | .tuple _ => true
  | _ => false
/-- tuples, the first one is () -/
def tup0 : List PyData → Bool
  | .tuple [] :: ps => ps.all isTupP
  | _ => false
def sortLe (d e : D) : Bool := PySem.W.dataLe false datD d e
def sortedD : D → Option MO
  | .lst l => match toPL l with
    | some ps => if (alikeB ps && (ps.all tupNE || ps.all notNT || tup0 ps)) && (ps.all fun p => decide (p.depth ≤ 60)) then some (.lst (l.mergeSort sortLe)) else none
    | none => none
  | _ => none
theorem toPL_map : ∀ {l : List D} {ps : List PyData}, toPL l = some ps → ps = l.map datD ∧ ∀ d ∈ l, ∃ p, toP d = some p
  | [], _, h => by cases h; exact ⟨rfl, fun _ h => by cases h⟩
  | d :: ds, _, h => by
    unfold toPL at h
    split at h
    · rename_i p ps e1 e2
      cases h
      obtain ⟨h1, h2⟩ := toPL_map e2
      refine ⟨by rw [List.map_cons, ← h1]; unfold datD; rw [e1]; rfl, fun x hx => ?_⟩
      rcases List.mem_cons.mp hx with rfl | hx
      · exact ⟨p, e1⟩
      · exact h2 x hx
    · cases h
section
variable {X : Cx} {cl : Nat → Addr} {W : WX} {n : En} {a b e o i : PySem.Expr} {es : List PySem.Expr} {f fa fb fo fi : EF} {ga : LF} {pos p1 pos' apos cpos : Pos} {x m : Str} {k c np : Nat} {p : FF}
/-- rows of pairs -/
inductive Prs (T : Th) (F : Hp) (al : Nat → Addr) (n : Nat) : List V → List D → List Value → List (V × D) → Prop where
  | nil : Prs T F al n [] [] [] []
  | cons {v : V} {d : D} {u : Value} {vs : List V} {ds : List D} {us : List Value} {bs : List (V × D)} (r : Rp T F al n v d) (q : RelV v u) (t : Prs T F al n vs ds us bs) : Prs T F al n (v :: vs) (d :: ds) (u :: us) ((v, d) :: bs)
theorem prs_of {T : Th} {F : Hp} {al : Nat → Addr} {n : Nat} : ∀ {vs : List V} {ds : List D} {us : List Value}, RpL T F al n vs ds → Vals vs us → ∃ bs, Prs T F al n vs ds us bs
  | [], [], _, _, .nil => ⟨[], .nil⟩
  | v :: vs, d :: ds, _, .cons r1 r2, .cons q1 q2 => by
    obtain ⟨bs, h⟩ := prs_of r2 q2
    exact ⟨(v, d) :: bs, .cons r1 q1 h⟩
  | [], d :: ds, _, h, _ => by cases h
  | v :: vs, [], _, h, _ => by cases h
theorem Prs.bs {T : Th} {F : Hp} {al : Nat → Addr} {n : Nat} {vs : List V} {ds : List D} {us : List Value} {bs : List (V × D)} (h : Prs T F al n vs ds us bs) : bs.map (·.1) = vs ∧ bs.map (·.2) = ds ∧ (∀ b ∈ bs, Rp T F al n b.1 b.2) := by
  induction h with
  | nil => exact ⟨rfl, rfl, fun _ h => by cases h⟩
  | cons r q t ih =>
    refine ⟨by rw [List.map_cons, ih.1], by rw [List.map_cons, ih.2.1], fun b hb => ?_⟩
    rcases List.mem_cons.mp hb with rfl | hb
    · exact r
    · exact ih.2.2 b hb
theorem rpL_of {T : Th} {F : Hp} {al : Nat → Addr} {n : Nat} : ∀ {bs : List (V × D)}, (∀ b ∈ bs, Rp T F al n b.1 b.2) → RpL T F al n (bs.map (·.1)) (bs.map (·.2))
  | [], _ => .nil
  | b :: bs, h => .cons (h b List.mem_cons_self) (rpL_of fun c hc => h c (List.mem_cons_of_mem _ hc))
theorem vals_each : ∀ {out : List Value} {bs : List (V × D)}, PySem.W.EachIs (fun u b => RelV b.1 u) out bs → Vals (bs.map (·.1)) out
  | _, _, .nil => .nil
  | _, _, .cons h t => .cons h (vals_each t)
def rSortD (T : Th) : List V → Hp → VK → Prop := fun vs H Q => ∃ (F : Hp) (al : Nat → Addr) (n : Nat) (a : Addr) (xs : List V) (l : List D) (l' : List D), vs = [V.ref a] ∧ (∀ a o, F a = some o → H a = some o) ∧ H a = some (.lst xs) ∧ RpL T F al n xs l ∧ sortedD (.lst l) = some (.lst l') ∧
  ∀ p ys, H p = none → RpL T F al n ys l' → Q (.ref p) (upd H p (.lst ys))
theorem cr_sortedDat (hu : X.A.units + 64 < cLine) : CallR X (.builtin "sorted") (rSortD (Cx.th X cl)) := by
  intro pins s σ H vs us Q I r h
  obtain ⟨F, al, n, a, xs, l, l', rfl, sub, ha, hl, hs, q⟩ := h
  obtain ⟨its, rv, il, hz⟩ := I.list (SqL.of ha)
  rw [Vals.ref1 r]
  unfold sortedD at hs
  dsimp only at hs
  split at hs
  · rename_i ps hps
    split at hs
    · rename_i hc
      cases hs
      obtain ⟨h1, h2⟩ := toPL_map hps
      rw [Bool.and_eq_true, Bool.and_eq_true] at hc
      obtain ⟨⟨c1, c2⟩, c3⟩ := hc
      obtain ⟨bs, pr⟩ := prs_of hl rv
      have pb := pr.bs
      have eenc : bs.map (fun b => datD b.2) = ps := by
        rw [h1, ← pb.2.1, List.map_map]; rfl
      have each : ∀ {vs ds us bs}, Prs (Cx.th X cl) F al n vs ds us bs → (∀ d ∈ ds, ∃ p, toP d = some p) → PySem.W.EachIs (fun u (b : V × D) => RelV b.1 u) us bs ∧ PySem.W.EachIs (fun u (b : V × D) => ∃ as, Reads s.heap u (datD b.2) as) us bs := by
        intro vs ds us bs h hd
        induction h with
        | nil => exact ⟨.nil, .nil⟩
        | @cons v d u vs ds us bs r q t ih =>
          obtain ⟨i1, i2⟩ := ih fun d hd' => hd d (List.mem_cons_of_mem _ hd')
          obtain ⟨p, hp⟩ := hd d List.mem_cons_self
          obtain ⟨as, rd⟩ := Dp.reads I p v u (r.dp sub hp) q
          exact ⟨.cons q i1, .cons ⟨as, by show Reads s.heap u (datD d) as; unfold datD; rw [hp]; exact rd⟩ i2⟩
      obtain ⟨e1, e2⟩ := each pr h2
      have mem : ∀ d, d ∈ bs.map (fun b => datD b.2) → d ∈ ps := fun d hd => by rw [← eenc]; exact hd
      have al2 : PySem.W.AllAlike (bs.map fun b => datD b.2) := fun d hd d' hd' => by
        rw [eenc] at hd hd'
        have := List.all_eq_true.mp c1 d hd
        exact List.all_eq_true.mp this d' hd'
      have so : PySem.W.Sortable (bs.map fun b => datD b.2) ∨ ((∀ d, d ∈ bs.map (fun b => datD b.2) → ∃ xs, d = .tuple xs) ∧ ∃ r, bs.map (fun b => datD b.2) = .tuple [] :: r) := by
        rw [eenc]
        rcases Bool.or_eq_true_iff.mp c2 with h | h
        rcases Bool.or_eq_true_iff.mp h with h | h
        · refine .inl (.inl fun d hd => ?_)
          have := List.all_eq_true.mp h d hd
          unfold tupNE at this
          split at this
          · exact ⟨_, _, rfl⟩
          · cases this
        · refine .inl (.inr fun d hd => ?_)
          have := List.all_eq_true.mp h d hd
          refine ⟨fun z => ?_, fun ys z => ?_⟩
          · subst z; cases this
          · subst z; cases this
        · refine .inr ?_
          unfold tup0 at h
          split at h
          · refine ⟨fun d hd => ?_, _, rfl⟩
            rcases List.mem_cons.mp hd with rfl | hd
            · exact ⟨_, rfl⟩
            · have := List.all_eq_true.mp h d hd
              unfold isTupP at this
              split at this
              · exact ⟨_, rfl⟩
              · cases this
          · cases h
      have hlen : bs.length = xs.length := by rw [← pb.1, List.length_map]
      have hdep : ∀ b, b ∈ bs → X.A.units + 2 + (datD b.2).depth < cLine := fun b hb => by
        have := List.all_eq_true.mp c3 (datD b.2) (mem _ (List.mem_map.mpr ⟨b, hb, rfl⟩))
        have := of_decide_eq_true this
        omega
      have fin : ∀ out : List Value, out.length = bs.length → PySem.W.EachIs (fun u (b : V × D) => RelV b.1 u) out (bs.mergeSort (PySem.W.dataLe false fun b => datD b.2)) → EP X pins σ Q (.ref (s.heap.objs.size + 1)) { s with heap := PyProof.Rows.sortedAll s.heap its (List.toArray out) } := fun out ho h3 => by
        obtain ⟨ep, he'⟩ := PyProof.Rows.sortedAll_at s.heap its out.toArray
        have hv := vals_each h3
        have hm : (bs.mergeSort (PySem.W.dataLe false fun b => datD b.2)).map (·.2) = l.mergeSort sortLe := by
          rw [List.map_mergeSort (r := PySem.W.dataLe false fun b : V × D => datD b.2) (s := sortLe) (f := fun b : V × D => b.2) (fun _ _ _ _ => rfl), pb.2.1]
        have hr : RpL (Cx.th X cl) F al n ((bs.mergeSort (PySem.W.dataLe false fun b => datD b.2)).map (·.1)) (l.mergeSort sortLe) := by
          rw [← hm]
          exact rpL_of fun b hb => pb.2.2 b (List.mem_mergeSort.mp hb)
        have hll : ((bs.mergeSort (PySem.W.dataLe false fun b => datD b.2)).map (·.1)).length ≤ sizeLine := by
          rw [List.length_map, List.length_mergeSort, hlen]; exact hz
        exact ⟨.ref _, upd H (s.heap.objs.size + 1) (.lst _), I.laid (t' := s.toks) (fun _ _ => PyProof.Rows.sortedAll_old) (Nat.le_succ _) ⟨hll, out, ep, hv, he'⟩, rfl, q _ _ (I.hok.fresh (Nat.le_succ _)) hr⟩
      rcases so with so | ⟨s1, s2⟩
      · exact PySem.W.sorted_data il.isList e1 e2 al2 so (by rw [hlen]; exact hz) hdep fin
      · exact sorted0 il.isList e1 e2 al2 s1 s2 (by rw [hlen]; exact hz) hdep fin
    · cases hs
  · cases hs
theorem dn_sorted (hu : X.A.units + 64 < cLine) (hg : Gl X "sorted") (hm : X.mg "sorted" = none) (h : DKk X cl W e f) (he : starEach [e] X.env = (false, eval e X.env) :: starEach [] X.env := by rfl) (hpl : (backTo pos (starEach [] X.env)).any (·.1) = false := by rfl) : DN X cl W (.Call (.Name "sorted" p1) [e] [] pos) (dNw1 sortedD f) := by
  refine dn_b1 (cr_sortedDat (cl := cl) hu) (fun F al mu H m x d res t e Q k => ?_) hg hm (by decide +kernel) h (by decide) (by decide) he hpl
  cases d with
  | lst l =>
    have e0 := e
    unfold sortedD at e
    dsimp only at e
    split at e
    · split at e
      · cases e
        obtain ⟨a, xs, rfl, h1, h2⟩ := t
        refine ⟨F, al, mu.length, a, xs, l, _, rfl, m.sub, h1, h2, e0, fun p ys hp r => k _ F _ (Ext.laidH m hp) (rn_new (o := .lst ys) (m := .lst _) m hp r)⟩
      · cases e
    · cases e
  | _ => cases e

/-! ### f-strings -/
inductive DJs (X : Cx) (cl : Nat → Addr) (W : WX) : List PySem.Expr → List EF → Prop where
  | nil : DJs X cl W [] []
  | cons {e : PySem.Expr} {f : EF} {es : List PySem.Expr} {fs : List EF} (h : DE X cl W e f) (t : DJs X cl W es fs) : DJs X cl W (e :: es) (f :: fs)
theorem DJs.pj {es : List PySem.Expr} {fs : List EF} (h : DJs X cl W es fs) : PJ X es (fs.map fun f => tG (Cx.th X cl) W (RD (Cx.th X cl)) f) := by
  induction h with
  | nil => exact .nil
  | cons h t ih => exact .cons h ih
end
end DL
end

section
set_option Elab.async false
set_option linter.all false
set_option maxRecDepth 100000
set_option maxHeartbeats 4000000
/-! DV: {x: True for x in a list} and how many keys it has. -/
namespace DL
open PySem L2 PyProof.Rows
section
variable {X : Cx} {pins : List (Addr × Obj)} {σ : L2.St} {H : Hp} {s1 : Shared}
/-- what a table of the rows must keep, row by row -/
structure Tab (X : Cx) (H : Hp) (s1 : Shared) (items : Array Value) (o : HO) (T : Addr → Nat → Heap → Prop) : Prop where
  start : ∀ (D : Addr) (h : Heap), sysModules < D → h.get? D = some { cls := .type "dict", dict := none, data := .dict #[] } → T D 0 h
  stay : ∀ (D : Addr) (i : Nat) (h h' : Heap), T D i h → (∀ u, h.get? D = some u → h'.get? D = some u) → T D i h'
  step : ∀ (D : Addr) (i : Nat) (s : Shared) (v : Value) (E : Value → Shared → Prop) (Q : Unit → Shared → Prop), T D i s.heap → (∀ b u, s1.heap.get? b = some u → s.heap.get? b = some u) → s1.heap.objs.size ≤ D → items[i]? = some v →
    (∀ h' t, T D (i + 1) h' → Heap.SameBut D s.heap h' → Q () { s with heap := h', toks := t }) → wpAny (model X.prog X.w) X.A (dictSet D v (.bool true)) Q E s
  fin : ∀ (D : Addr) (h : Heap), (∀ b u, s1.heap.get? b = some u → h.get? b = some u) → s1.heap.objs.size ≤ D → T D items.size h → ObjOk X.prog X.w (upd H D o) h D o
theorem dc_rows {l : Addr} {items : Array Value} {o : HO} {T : Addr → Nat → Heap → Prop} {x : Str} {p1 p2 p3 : Pos} {j : Nat} {scope : Scope} {Q : VK} (hc : X.calm = true) (I : Inv X pins σ H s1) (hl : s1.heap.IsList l items) (tb : Tab X H s1 items o T)
    (hx : scope.names.lookup x = some .local) (hdb : (x == ("__debug__" : Str)) = false) (hk : scope.kind = .function) (hcell : ∀ y ∈ scope.names, y.2 ≠ .cell) (q : ∀ D, H D = none → Q (.ref D) (upd H D o)) :
    wpAny (model X.prog X.w) X.A (pyIter (.ref l)) (DcGoes X.prog X.w X.A X.xe X.env scope [] (.Name x p3) [] (.Name x p1) (.Constant (.bool true) j p2) none (EP X pins σ Q)) X.xe s1 := by
  have hh : X.A.handled = none := I.ok.hd hc
  refine wpAny_pyIter_list hl ?_
  have ltl : l < s1.heap.objs.size := let ⟨u, e, _⟩ := hl; Heap.lt_size e
  have hne : l ≠ s1.heap.objs.size := Nat.ne_of_lt ltl
  refine ⟨s1.heap.objs.size, [s1.heap.objs.size, l], [s1.heap.objs.size], items.size, _, _, rfl, Goes.list hh s1.heap.objs.size l hne items, ⟨⟨_, Heap.get?_push_size _ rfl, rfl, rfl⟩, hl.push _⟩, fun D C s3 b hD => ?_⟩
  have szp : s1.heap.objs.size < D := by
    have := b.newD
    rw [Heap.size_push] at this
    exact this
  have szc : s1.heap.objs.size < C := by
    have := b.newC
    rw [Heap.size_push] at this
    exact this
  have big : sysModules < D := Nat.lt_trans I.big szp
  have oldD : ∀ {b u}, s1.heap.get? b = some u → b ≠ D := fun e => Nat.ne_of_lt (Nat.lt_trans (Heap.lt_size e) szp)
  have oldC : ∀ {b u}, s1.heap.get? b = some u → b ≠ C := fun e => Nat.ne_of_lt (Nat.lt_trans (Heap.lt_size e) szc)
  have kf : (compEnvC scope [] C X.env).scope.kind = .function := hk
  have kl : (compEnvC scope [] C X.env).kindOf x = some .local := lookup_relabel_local hx
  refine ⟨fun i s' => (∃ h' tk, s' = { s1 with heap := h', toks := tk }) ∧ (∀ b u, s1.heap.get? b = some u → s'.heap.get? b = some u) ∧ (∃ m, s'.heap.Ns C m) ∧ T D i s'.heap, ?_, ?_, ?_, ?_⟩
  · obtain ⟨h, tk, e⟩ := b.only
    refine ⟨⟨h, tk, by rw [e]⟩, fun a u e => b.old a u (Heap.get?_push_of_some _ e), ⟨_, b.names⟩, tb.start D _ big hD⟩
  · rintro i s h' tk ⟨⟨h, t, e⟩, kept, ⟨m, hm⟩, ht⟩ k _
    refine ⟨⟨h', tk, by rw [e]⟩, fun a u ea => k a u (fun z => ?_) (kept a u ea), ⟨m, ?_⟩, tb.stay D i _ _ ht fun u eu => k D u (fun z => ?_) eu⟩
    · rw [List.mem_singleton] at z; subst z; exact absurd (Heap.lt_size ea) (Nat.lt_irrefl _)
    · obtain ⟨ob, es, ep, ho, r⟩ := hm
      exact ⟨ob, es, ep, k C ob (fun z => by rw [List.mem_singleton] at z; rw [z] at szc; exact absurd szc (Nat.lt_irrefl _)) ho, r⟩
    · rw [List.mem_singleton] at z; rw [z] at szp; exact absurd szp (Nat.lt_irrefl _)
  · rintro i v s hi hv st ⟨⟨h, t, e⟩, kept, ⟨m, hm⟩, ht⟩
    refine wpAny_assign_Name (wpAny_storeName_local kl (show s.heap.Ns (compEnvC scope [] C X.env).locals m from hm) (fun h2 hn2 hs2 => ?_) (by rw [kf]; rfl))
    have kept2 : ∀ b u, s1.heap.get? b = some u → h2.get? b = some u := fun a u ea => (hs2.2 a (oldC ea)).trans (kept a u ea)
    have st2 : ∀ (h3 : Heap), (∀ a u, a = s1.heap.objs.size ∨ a = l → s.heap.get? a = some u → h3.get? a = some u) → h3.IsListIter s1.heap.objs.size l (i + 1) ∧ h3.IsList l items := fun h3 k => by
      obtain ⟨⟨ob, e1, r1⟩, ob2, e2, r2⟩ := st
      exact ⟨⟨ob, k _ _ (.inl rfl) e1, r1⟩, ob2, k _ _ (.inr rfl) e2, r2⟩
    refine wpAny_pure ?_
    rw [if_pos rfl]
    refine wpAny_Name (wpAny_loadName_local kf kl hn2 (if_pos rfl) ?_) hdb
    refine Constant_bool ?_
    refine tb.step D i _ v _ _ (tb.stay D i _ _ ht fun u eu => (hs2.2 D b.ne).trans eu) kept2 (Nat.le_of_lt szp) hv fun h3 t3 ht3 hs3 => ?_
    refine ⟨⟨⟨h3, t3, by rw [e]⟩, fun a u ea => (hs3.2 a (oldD ea)).trans (kept2 a u ea), ⟨_, hn2.sameBut hs3 b.ne.symm⟩, ht3⟩, st2 h3 fun a u ha ea => ?_⟩
    have h1 : a ≠ D := by
      rcases ha with z | z
      · rw [z]; exact Nat.ne_of_lt szp
      · rw [z]; exact Nat.ne_of_lt (Nat.lt_trans ltl szp)
    have h2' : a ≠ C := by
      rcases ha with z | z
      · rw [z]; exact Nat.ne_of_lt szc
      · rw [z]; exact Nat.ne_of_lt (Nat.lt_trans ltl szc)
    exact (hs3.2 a h1).trans ((hs2.2 a h2').trans ea)
  · rintro s ⟨⟨h, t, e⟩, kept, ⟨m, hm⟩, ht⟩
    refine ⟨m, hm, fun h4 hs4 => ?_⟩
    have kept4 : ∀ b u, s1.heap.get? b = some u → h4.get? b = some u := fun a u ea => (hs4.2 a (oldC ea)).trans (kept a u ea)
    refine ⟨.ref D, upd H D o, ?_, rfl, q D (I.hok.fresh (Nat.le_of_lt szp))⟩
    have := I.laid (a := D) (o := o) (h' := h4) (t' := t) kept4 (Nat.le_of_lt szp) (tb.fin D h4 kept4 (Nat.le_of_lt szp) (tb.stay D _ _ _ ht fun u eu => (hs4.2 D b.ne).trans eu))
    rw [e]
    exact this
/-! the tables -/
def kvsOf {α : Type} [DecidableEq α] (ks : List α) (n : Nat) : List (α × V) := (ks.take n).foldl (fun acc k => putK acc k (.bl true)) []
theorem kvsOf_len {α : Type} [DecidableEq α] {ks : List α} : ∀ n, (kvsOf ks n).length ≤ n := by
  have key : ∀ (l : List α) (acc : List (α × V)), (l.foldl (fun acc k => putK acc k (.bl true)) acc).length ≤ acc.length + l.length := by
    intro l
    induction l with
    | nil => intro acc; exact Nat.le_refl _
    | cons k l ih =>
      intro acc
      have h1 := ih (putK acc k (.bl true))
      have h2 := length_putK acc k (.bl true)
      rw [List.foldl_cons, List.length_cons]
      omega
  intro n
  have := key (ks.take n) []
  rw [List.length_nil, Nat.zero_add] at this
  exact Nat.le_trans this (List.length_take_le n ks)
theorem kvsOf_succ {α : Type} [DecidableEq α] {ks : List α} {n : Nat} {k : α} (h : ks[n]? = some k) : kvsOf ks (n + 1) = putK (kvsOf ks n) k (.bl true) := by
  unfold kvsOf
  obtain ⟨hl, rfl⟩ := List.getElem?_eq_some_iff.mp h
  rw [List.take_succ_eq_append_getElem hl, List.foldl_append]
  rfl
theorem tab_K {l : Addr} {ks : List Key} {its : List Value} (I : Inv X pins σ H s1) (rv : Vals (ks.map kV) its) (hz : its.length ≤ sizeLine) :
    Tab X H s1 its.toArray (.dK (kvsOf ks its.length)) (fun D i h => (D == sysModules) = false ∧ i ≤ its.length ∧ ∃ vs, KV (kvsOf ks i) vs ∧ h.DictOf (mixKind X.prog X.w) D vs) where
  start D h big e := ⟨beq_eq_false_iff_ne.mpr (Ne.symm (Nat.ne_of_lt big)), Nat.zero_le _, [], .nil, _, #[], 0, e, ⟨rfl, rfl, rfl⟩, rfl, fun _ he => by simp at he, .nil, List.nodup_nil⟩
  stay D i h h' t k := by
    obtain ⟨t0, t1, vs, t2, o, es, ep, e, r⟩ := t
    exact ⟨t0, t1, vs, t2, o, es, ep, k o e, r⟩
  step D i s v E Q t kept hD hv q := by
    obtain ⟨t0, t1, vs, t2, t3⟩ := t
    have hl := rv.length
    rw [List.length_map] at hl
    have hi : i < its.length := by
      have := (List.getElem?_eq_some_iff.mp (by simpa using hv : its[i]? = some v)).1
      exact this
    have hk : ks[i]? = some (ks[i]'(by omega)) := List.getElem?_eq_getElem _
    obtain ⟨u, hu, ru⟩ := rv.get (i := i) (x := kV (ks[i]'(by omega))) (by rw [List.getElem?_map, hk]; rfl)
    have : u = v := by
      have hv' : its[i]? = some v := by simpa using hv
      rw [hu] at hv'; exact Option.some.inj hv'
    subst this
    have hlen : vs.length ≤ sizeLine := by
      rw [← Paired.length t2]
      have := kvsOf_len (ks := ks) i
      omega
    refine wpAny_dictSet_pairs (hsz := hlen) (kV_is ru) t3 fun h' dd hs => q h' _ ⟨t0, hi, _, ?_, dd⟩ hs
    rw [kvsOf_succ hk]
    exact t2.put _ rfl
  fin D h kept hD t := by
    obtain ⟨t0, t1, vs, t2, t3⟩ := t
    have hn : its.toArray.size = its.length := by simp
    rw [hn] at t2
    exact ⟨Nat.le_trans (kvsOf_len _) hz, t0, vs, t2, t3⟩
theorem tab_T {l : Addr} {ks : List (List Key)} {xs : List V} {its : List Value} (I : Inv X pins σ H s1) (rv : Vals xs its) (hu : X.A.units + 1 < cLine) (hz : its.length ≤ sizeLine) (hx : Paired (fun x k => ∃ b, x = V.ref b ∧ H b = some (.tup (k.map kV))) xs ks) :
    Tab X H s1 its.toArray (.dT (kvsOf ks its.length)) (fun D i h => (D == sysModules) = false ∧ i ≤ its.length ∧ ∃ zs, KT H (kvsOf ks i) zs ∧ ∃ o es ep, h.get? D = some o ∧ o.ExactDict ∧ o.data = .dict es ep ∧ es.toList = zs.map (entryOfKey (tupleKind (mixKind X.prog X.w))) ∧ (zs.map (·.1)).Nodup) where
  start D h big e := ⟨beq_eq_false_iff_ne.mpr (Ne.symm (Nat.ne_of_lt big)), Nat.zero_le _, [], .nil, _, #[], 0, e, ⟨rfl, rfl, rfl⟩, rfl, rfl, List.nodup_nil⟩
  stay D i h h' t k := by
    obtain ⟨t0, t1, zs, t2, o, es, ep, e, r⟩ := t
    exact ⟨t0, t1, zs, t2, o, es, ep, k o e, r⟩
  step D i s v E Q t kept hD hv q := by
    obtain ⟨t0, t1, zs, t2, o, es, ep, e1, e2, e3, e4, e5⟩ := t
    have hl := rv.length
    have hl2 := Paired.length hx
    have hi : i < its.length := (List.getElem?_eq_some_iff.mp (by simpa using hv : its[i]? = some v)).1
    have hk : ks[i]? = some (ks[i]'(by omega)) := List.getElem?_eq_getElem _
    have hxi : xs[i]? = some (xs[i]'(by omega)) := List.getElem?_eq_getElem _
    obtain ⟨u, hu', ru⟩ := rv.get hxi
    have hv' : its[i]? = some v := by simpa using hv
    rw [hu'] at hv'
    cases hv'
    obtain ⟨b, eb, hb⟩ : ∃ b, xs[i]'(by omega) = V.ref b ∧ H b = some (.tup ((ks[i]'(by omega)).map kV)) := by
      have key : ∀ {xs : List V} {ks : List (List Key)}, Paired (fun x k => ∃ b, x = V.ref b ∧ H b = some (.tup (k.map kV))) xs ks → ∀ (i : Nat) (h1 : i < xs.length) (h2 : i < ks.length), ∃ b, xs[i] = V.ref b ∧ H b = some (.tup (ks[i].map kV)) := by
        intro xs ks h
        induction h with
        | nil => intro i h1; exact absurd h1 (Nat.not_lt_zero _)
        | cons r t ih =>
          intro i h1 h2
          cases i with
          | zero => exact r
          | succ i => exact ih i (Nat.lt_of_succ_lt_succ h1) (Nat.lt_of_succ_lt_succ h2)
      exact key hx i _ _
    rw [eb] at ru
    cases (show v = Value.ref b from ru)
    have hlen : zs.length ≤ sizeLine := by
      rw [← Paired.length t2]
      have := kvsOf_len (ks := ks) i
      omega
    have keyok : ∀ {c : Addr} {k : List Key}, H c = some (.tup (k.map kV)) → (tupleKind (mixKind X.prog X.w)).is s.heap k c := fun {c k} hc => by
      obtain ⟨ob, its', n, h1, h2, h3, h4⟩ := key_of I.hok hc
      exact ⟨ob, its', n, kept _ _ h1, h2, h3, h4⟩
    have all : ∀ x ∈ zs, (tupleKind (mixKind X.prog X.w)).is s.heap x.1 x.2.1 := by
      have key : ∀ {kvs : List (List Key × V)} {zs : List (List Key × Addr × Value)}, KT H kvs zs → ∀ x ∈ zs, (tupleKind (mixKind X.prog X.w)).is s.heap x.1 x.2.1 := by
        intro kvs zs h
        induction h with
        | nil => intro x hx; cases hx
        | cons r t ih =>
          intro x hx
          rcases List.mem_cons.mp hx with rfl | hx
          · exact keyok (by rw [← r.1]; exact r.2.1)
          · exact ih x hx
      exact key t2
    refine wpAny_dictSet_heap (hsz := hlen) (by exact Nat.lt_of_succ_lt hu) (keyok hb) ⟨o, es, ep, e1, e2, e3, e4, all, e5⟩ fun h' dd hs => q h' _ ⟨t0, hi, storedH zs (ks[i]'(by omega)) b (.bool true), ?_, ?_⟩ hs
    · rw [kvsOf_succ hk]
      exact t2.put _ hb rfl
    · obtain ⟨o', es', ep', h1, h2, h3, h4, _, h6⟩ := dd
      exact ⟨o', es', ep', h1, h2, h3, h4, h6⟩
  fin D h kept hD t := by
    obtain ⟨t0, t1, zs, t2, t3⟩ := t
    have hn : its.toArray.size = its.length := by simp
    rw [hn] at t2
    refine ⟨Nat.le_trans (kvsOf_len _) hz, t0, zs, t2.keeps fun c ys ec => ?_, t3⟩
    rw [upd_ne (ne_of_none ec (I.hok.fresh hD))]
    exact ec
/-- the rule: D the new dict -/
def tDR (te : TE) : TE := fun σ H Q => te σ H fun v H1 => ∃ l xs, v = .ref l ∧ H1 l = some (.lst xs) ∧
  ((∃ ks : List Key, xs = ks.map kV ∧ ∀ D, H1 D = none → Q (.ref D) (upd H1 D (.dK (kvsOf ks ks.length)))) ∨
   ∃ ks : List (List Key), Paired (fun x k => ∃ b, x = V.ref b ∧ H1 b = some (.tup (k.map kV))) xs ks ∧ ∀ D, H1 D = none → Q (.ref D) (upd H1 D (.dT (kvsOf ks ks.length))))
theorem pe_dcRow {x : Str} {p1 p2 p3 pos : Pos} {j : Nat} {iter : PySem.Expr} {scope : Scope} {te : TE} (hc : X.calm = true) (hu : X.A.units + 1 < cLine) (he : PE X iter te)
    (hx : scope.names.lookup x = some .local := by rfl) (hdb : (x == ("__debug__" : Str)) = false := by decide) (hk : scope.kind = .function := by rfl) (hcell : ∀ y ∈ scope.names, y.2 ≠ .cell := by decide) (hfree : ∀ y ∈ scope.names, y.2 ≠ .free := by decide)
    (hn : ∀ y ∈ scope.names, y.2 = .local → scope.names.lookup y.1 = some .local := by decide) (hs : ∀ x, foldedSetIterable iter X.env x = pure x := by intro _; rfl) :
    PE X (.DictComp (.Name x p1) (.Constant (.bool true) j p2) [⟨.Name x p3, iter, [], 0⟩] scope pos) (tDR te) := ⟨fun pins s σ H Q I h => by
  refine DictComp_goes (closureFor_none hfree) hcell hk hn (thn (he.run pins s σ H _ I h) fun u s1 ⟨v, H1, I1, rv, l, xs, ev, hl, q⟩ => ?_) hs
  subst ev
  cases (show u = Value.ref l from rv)
  obtain ⟨its, r, il, hz⟩ := I1.list (SqL.of hl)
  have hlen := r.length
  have hz' : its.length ≤ sizeLine := by rw [← hlen]; exact hz
  rcases q with ⟨ks, rfl, q⟩ | ⟨ks, hks, q⟩
  · rw [List.length_map] at hlen
    exact dc_rows hc I1 il.isList (tab_K (l := l) I1 r hz') hx hdb hk hcell (by rw [← hlen]; exact q)
  · have hl2 := Paired.length hks
    exact dc_rows hc I1 il.isList (tab_T (l := l) I1 r hu hz' hks) hx hdb hk hcell (by rw [← hlen, hl2]; exact q)⟩
end
end DL
end

section
set_option Elab.async false
set_option linter.all false
set_option maxRecDepth 100000
set_option maxHeartbeats 4000000
namespace DL
open PySem L2
/-! DX: how many unlike rows, not in a constant tuple of texts, enumerate, lists and tuples walked alike. -/
def keyD : D → Option Key
  | .int i => some (.inl i)
  | .str z => some (.inr z)
  | _ => none
def allSome {α β : Type} (f : α → Option β) : List α → Option (List β)
  | [] => some []
  | a :: l => match f a, allSome f l with
    | some b, some r => some (b :: r)
    | _, _ => none
def tkeyD : D → Option (List Key)
  | .tup l => allSome keyD l
  | _ => none
/-- how many unlike rows -/
def unlike : List D → Option Nat := fun l => match allSome keyD l with
  | some ks => some (kvsOf ks ks.length).length
  | none => match allSome tkeyD l with
    | some ks => some (kvsOf ks ks.length).length
    | none => none
def unlikeD : D → Option D
  | .lst l => (unlike l).map fun n => .int (n : Nat)
  | _ => none
section
variable {T : Th} {F : Hp} {al : Nat → Addr} {n : Nat}
theorem keyD_rp {v : V} {d : D} {k : Key} (r : Rp T F al n v d) (h : keyD d = some k) : v = kV k := by
  cases d with
  | int i => cases h; cases r; rfl
  | str i => cases h; cases r; rfl
  | _ => cases h
theorem keysD_rp : ∀ {l : List D} {xs : List V} {ks : List Key}, RpL T F al n xs l → allSome keyD l = some ks → xs = ks.map kV
  | [], _, _, r, h => by cases h; cases r; rfl
  | d :: l, _, ks, r, h => by
    unfold allSome at h
    split at h
    · rename_i b r' e1 e2
      cases h
      cases r with
      | cons r1 r2 => rw [keyD_rp r1 e1, keysD_rp r2 e2]; rfl
    · cases h
theorem tkeysD_rp : ∀ {l : List D} {xs : List V} {ks : List (List Key)}, RpL T F al n xs l → allSome tkeyD l = some ks → Paired (fun x k => ∃ b, x = V.ref b ∧ F b = some (.tup (k.map kV))) xs ks
  | [], _, _, r, h => by cases h; cases r; exact .nil
  | d :: l, _, ks, r, h => by
    unfold allSome at h
    split at h
    · rename_i b r' e1 e2
      cases h
      cases r with
      | cons r1 r2 =>
        refine .cons ?_ (tkeysD_rp r2 e2)
        cases d with
        | tup m =>
          cases r1 with
          | tup h1 h2 => exact ⟨_, rfl, by rw [← keysD_rp h2 e1]; exact h1⟩
        | _ => cases e1
    · cases h
end
section
variable {X : Cx} {cl : Nat → Addr} {W : WX} {n : En} {a b e o i : PySem.Expr} {es : List PySem.Expr} {f fa fb fo fi : EF} {ga : LF} {pos p1 p2 p3 p4 p5 pos' apos cpos : Pos} {x m : Str} {k c np : Nat} {p : FF}
theorem de_unlike {j : Nat} {scope : Scope} (hc : X.calm = true) (hu : X.A.units + 1 < cLine) (hg : Gl X "len") (hm : X.mg "len" = none) (h : DE X cl W e f)
    (hx : scope.names.lookup x = some .local := by rfl) (hdb : (x == ("__debug__" : Str)) = false := by decide) (hk : scope.kind = .function := by rfl) (hcell : ∀ y ∈ scope.names, y.2 ≠ .cell := by decide) (hfree : ∀ y ∈ scope.names, y.2 ≠ .free := by decide)
    (hn : ∀ y ∈ scope.names, y.2 = .local → scope.names.lookup y.1 = some .local := by decide) (hs : ∀ x, foldedSetIterable e X.env x = pure x := by intro _; rfl)
    (he : starEach [.DictComp (.Name x p2) (.Constant (.bool true) j p3) [⟨.Name x p4, e, [], 0⟩] scope p5] X.env = (false, eval (.DictComp (.Name x p2) (.Constant (.bool true) j p3) [⟨.Name x p4, e, [], 0⟩] scope p5) X.env) :: starEach [] X.env := by rfl) (hpl : (backTo pos (starEach [] X.env)).any (·.1) = false := by rfl) :
    DE X cl W (.Call (.Name "len" p1) [.DictComp (.Name x p2) (.Constant (.bool true) j p3) [⟨.Name x p4, e, [], 0⟩] scope p5] [] pos) (dOp1 unlikeD f) :=
  PE.imp (pe_callB (CallR.or call_lenD call_len_dT) hg hm boot_len (pa_cons (pe_dcRow hc hu h hx hdb hk hcell hfree hn hs) pa_nil he) (by decide) (by decide) he hpl) fun σ H Q q => by
    obtain ⟨F, al, sl, mu, w, po⟩ := q
    refine seqG back_RD w po rfl fun v d F1 al1 mu1 H1 x1 w1 r1 po1 => ?_
    dsimp only at po1
    cases z : unlikeD d with
    | none => rw [z] at po1; exact False.elim po1
    | some res =>
      rw [z] at po1
      cases d with
      | lst l =>
        obtain ⟨m, hm, rfl⟩ := Option.map_eq_some_iff.mp z
        cases r1 with
        | lst h1 h2 =>
          refine ⟨_, _, rfl, w1.sub _ _ h1, ?_⟩
          unfold unlike at hm
          split at hm
          · rename_i ks hks
            cases hm
            exact .inl ⟨ks, keysD_rp h2 hks, fun D hD => .inl ⟨D, _, rfl, upd_same, po1 _ F1 al1 _ (Ext.laidH w1.toMus hD) (.int _)⟩⟩
          · split at hm
            · rename_i ks hks
              cases hm
              exact .inr ⟨ks, Paired.mapP (tkeysD_rp h2 hks) fun x k ⟨b, e1, e2⟩ => ⟨b, e1, w1.sub _ _ e2⟩, fun D hD => .inr ⟨D, _, rfl, upd_same, po1 _ F1 al1 _ (Ext.laidH w1.toMus hD) (.int _)⟩⟩
            · cases hm
      | _ => cases z
theorem toPL_strs : ∀ ws : List Str, toPL (ws.map D.str) = some (ws.map PyData.str)
  | [] => rfl
  | w :: ws => by
    show toPL (D.str w :: ws.map D.str) = _
    unfold toPL
    rw [toPL_strs ws]
    rfl
theorem dpAll_strs {K : PySem.W.Frag} {H : Hp} : ∀ ws : List Str, DpAll K H (ws.map V.str) (ws.map PyData.str)
  | [] => .nil
  | w :: ws => .cons (.str w) (dpAll_strs ws)
theorem de_ninK {ca : Addr} {ws : List Str} (hu : X.A.units + 65 < cLine) (ha : DE X cl W a fa) (hb : PE X b (tC (.ref ca))) (hq : ∀ H, SqT X.K H ca (ws.map V.str)) (hm : behindInMarks .NotIn b = false := by rfl) : DE X cl W (.Compare a [.NotIn] [b] pos) (dB2v (dIn true fa (dC (.tup (ws.map D.str))))) :=
  PE.imp (pe_cmpR (op_ninP hu) ha hb hm) fun σ H Q q => by
    obtain ⟨F, al, sl, mu, w, po⟩ := tV2B q
    refine seqG back_RB w po rfl fun v d F1 al1 mu1 H1 x1 w1 r1 po1 => ?_
    unfold dC dBind obind at po1
    dsimp only at po1
    cases z : inD d (.tup (ws.map D.str)) with
    | none => rw [z] at po1; exact False.elim po1
    | some r =>
      rw [z] at po1
      unfold inD at z
      dsimp only at z
      rw [toPL_strs] at z
      split at z
      · rename_i p ps e1 e2
        cases e2
        split at z
        · rename_i hd
          cases z
          exact ⟨p, Rp.dp w1.sub r1 e1, toP_plain e1, ws.map PyData.str, .inr (.tup (hq H1) (dpAll_strs ws)), toPL_plain (toPL_strs ws), hd, Po.here (R := RB) (Q := fun c H' => Q (.bl c) H') po1 w1.toMus rfl⟩
        · cases z
      · cases z

/-! ### what is walked -/
def dItQ (f : EF) : LF := dBind f fun d _ mu => match d with
  | .lst l => .ok l mu
  | .tup l => .ok l mu
  | _ => .bad
theorem di_seq {tg : PySem.Expr} (h : DE X cl W e f) : DI X cl W tg e (dItQ f) := ⟨fun pins s σ H R I q => by
  obtain ⟨F, al, sl, mu, w, po⟩ := q
  cases z : f sl mu with
  | ok d mu1 =>
    cases d with
    | lst l => exact (di_list (tg := tg) h).run pins s σ H R I ⟨F, al, sl, mu, w, by unfold dItQ dItL dBind obind at *; rw [z] at po ⊢; exact po⟩
    | tup l => exact (di_tup (tg := tg) h).run pins s σ H R I ⟨F, al, sl, mu, w, by unfold dItQ dItT dBind obind at *; rw [z] at po ⊢; exact po⟩
    | _ => unfold dItQ dBind obind at po; rw [z] at po; exact False.elim po
  | ex c fs mu1 => exact (di_list (tg := tg) h).run pins s σ H R I ⟨F, al, sl, mu, w, by unfold dItQ dItL dBind obind at *; rw [z] at po ⊢; exact po⟩
  | bad => unfold dItQ dBind obind at po; rw [z] at po; exact False.elim po⟩
def numD (n : Nat) : List D → List D
  | [] => []
  | d :: l => .tup [.int (n : Nat), d] :: numD (n + 1) l
theorem numD_get : ∀ {l : List D} {n i : Nat}, (numD n l)[i]? = l[i]?.map fun d => .tup [.int ((n + i : Nat) : Int), d]
  | [], _, _ => by simp [numD]
  | d :: l, n, 0 => by simp [numD]
  | d :: l, n, i + 1 => by
    unfold numD
    rw [List.getElem?_cons_succ, List.getElem?_cons_succ, numD_get]
    congr 1
    funext d
    rw [show n + 1 + i = n + (i + 1) from by omega]
theorem numD_len : ∀ {l : List D} {n : Nat}, (numD n l).length = l.length
  | [], _ => rfl
  | d :: l, n => by
    unfold numD
    rw [List.length_cons, List.length_cons, numD_len]
def dEnum (f : EF) : LF := dBind f fun d _ mu => match d with
  | .lst l => .ok (numD 0 l) mu
  | _ => .bad
end
end DL
end

section
set_option Elab.async false
set_option linter.all false
set_option maxRecDepth 100000
set_option maxHeartbeats 4000000
namespace DL
open PySem L2
/-! DY: small helps for written walks. -/
section
variable {A : Around} {k : Nat}
theorem u0 (r : Room k A) : A.units < cLine := by have := r.un; omega
theorem u1 (r : Room k A) : A.units + 1 < cLine := by have := r.un; omega
theorem u64 (r : Room k A) : A.units + 64 < cLine := by have := r.un; omega
theorem u65 (r : Room k A) : A.units + 65 < cLine := by have := r.un; omega
end
section
variable {X : Cx} {cl : Nat → Addr} {W : WX} {n : En} {a b e o i : PySem.Expr} {st : PySem.Stmt} {es : List PySem.Expr} {f fa fb fo fi : EF} {ga : LF} {pos p1 p2 p3 p4 p5 pos' apos cpos : Pos} {x y : Str} {k c np : Nat} {p : FF}
/-- a new object into a slot, frozen at once -/
theorem ds_ownF {i : Nat} {f : NF} (h : DS X cl W n st (sOwn i f)) : DS X cl W n st (sAsg i (dFrz f)) := PS.imp h fun Z σ H q => by
  obtain ⟨F, al, sl, mu, w, po⟩ := q
  refine ⟨F, al, sl, mu, w, ?_⟩
  unfold sOwn
  unfold sAsg dFrz dBind obind at po
  unfold sbind at po ⊢
  cases z : f sl mu with
  | ok m mu1 =>
    rw [z] at po
    have key : ∀ (hm : ∀ kvs, m ≠ .dct kvs), PoS (Cx.th X cl) W n F al mu Z (.nx (sl.set i (some (.val m.d))) mu1) → PoS (Cx.th X cl) W n F al mu Z (.nx (sl.set i (some (.own m))) mu1) := by
      intro hm po σ' F' al' H' g w'
      by_cases hi : i < sl.length
      · obtain ⟨F2, g2, w2⟩ := w'.freeze (i := i) (m := m) (List.getElem?_set_self hi) hm
        rw [List.set_set] at w2
        exact po σ' F2 al' H' (g.trans g2) w2
      · rw [List.set_eq_of_length_le (Nat.le_of_not_lt hi)] at w' po
        exact po σ' F' al' H' g w'
    cases m with
    | dct kvs => exact False.elim po
    | lst l => exact key (fun _ z => nomatch z) po
    | ins c fs => exact key (fun _ z => nomatch z) po
  | ex c fs mu1 => rw [z] at po; exact po
  | bad => rw [z] at po; exact po
/-- a, b = x, y -/
def sPar (i j : Nat) (fa fb : EF) : SF := fun sl mu => sbind (fa sl mu) sl fun d mu => sbind (fb sl mu) sl fun e mu => .nx ((sl.set i (some (.val d))).set j (some (.val e))) mu
theorem ds_par {i j : Nat} {px py pt : Pos} {kt k2 : Nat} {pt2 : Pos} (hc : X.calm = true) (hN : X.N.Nodup) (hi : X.N[i]? = some x) (hj : X.N[j]? = some y) (hij : i ≠ j) (hx : X.env.scope.names.lookup x = some .local) (hy : X.env.scope.names.lookup y = some .local) (ha : DE X cl W a fa) (hb : DE X cl W b fb)
    (hst : starEach [a, b] X.env = (false, eval a X.env) :: starEach [b] X.env := by rfl) (hst2 : starEach [b] X.env = (false, eval b X.env) :: starEach [] X.env := by rfl)
    (hw : swappedStores [.Tuple [.Name x px, .Name y py] kt pt] (.Tuple [a, b] k2 pt2) X.env = pure (some [x, y]) := by rfl) (hs : swapsWithSole [.Tuple [.Name x px, .Name y py] kt pt] (.Tuple [a, b] k2 pt2) pos.line X.env = pure false := by rfl) :
    DS X cl W n (.Assign [.Tuple [.Name x px, .Name y py] kt pt] (.Tuple [a, b] k2 pt2) pos) (sPar i j fa fb) :=
  PS.imp (ps_par hc hN hi hj hij hx hy (pa_cons ha (pa_cons hb pa_nil hst2) hst) hw hs) fun Z σ H q => by
    obtain ⟨F, al, sl, mu, w, po⟩ := q
    refine seqS w po rfl fun v d F1 al1 mu1 H1 x1 w1 r1 po1 => ?_
    refine seqS w1 po1 rfl fun u e F2 al2 mu2 H2 x2 w2 r2 po2 => ?_
    exact ⟨v, u, rfl, PoS.nx po2 ((w2.setVal (x2.rp r1)).setVal r2)⟩
theorem tChn_of {r r' : R2} {g h : D → D → Option Bool} {fc : EF} (hr : PurB (Cx.th X cl) r g) (hr' : PurB (Cx.th X cl) r' h) {σ : St} {H : Hp} {Q : VK} (q : tG (Cx.th X cl) W (RD (Cx.th X cl)) (dB2v (dChn g h fa fb fc)) σ H Q) : tChain r r' (tG (Cx.th X cl) W (RD (Cx.th X cl)) fa) (tG (Cx.th X cl) W (RD (Cx.th X cl)) fb) (tG (Cx.th X cl) W (RD (Cx.th X cl)) fc) σ H Q := by
    obtain ⟨F, al, sl, mu, w, po⟩ := tV2B q
    refine seqG back_RB w po rfl fun v d F1 al1 mu1 H1 x1 w1 r1 po1 => ?_
    refine seqG back_RB w1 po1 rfl fun u e F2 al2 mu2 H2 x2 w2 r2 po2 => ?_
    try dsimp only at po2
    cases z : g d e with
    | none => rw [z] at po2; exact False.elim po2
    | some k =>
      rw [z] at po2
      refine hr F2 al2 mu2 H2 w2.toMus v u d e k (x2.rp r1) r2 z _ ⟨k, rfl, ?_⟩
      cases k with
      | false =>
        rw [if_neg Bool.false_ne_true]
        exact Po.here (R := RB) (Q := fun c H' => Q (.bl c) H') po2 w2.toMus rfl
      | true =>
        rw [if_pos rfl]
        refine seqG back_RB w2 po2 rfl fun t e3 F3 al3 mu3 H3 x3 w3 r3 po3 => ?_
        try dsimp only at po3
        cases z2 : h e e3 with
        | none => rw [z2] at po3; exact False.elim po3
        | some k2 =>
          rw [z2] at po3
          exact hr' F3 al3 mu3 H3 w3.toMus u t e e3 k2 (x3.rp r2) r3 z2 _ (Po.here (R := RB) (Q := fun c H' => Q (.bl c) H') po3 w3.toMus rfl)
theorem dt_chain {op op' : CmpOp} {r r' : R2} {g h : D → D → Option Bool} {d : PySem.Expr} {fc : EF} (ho : OpR X (compareOp op) r) (ho' : OpR X (compareOp op') r') (hr : PurB (Cx.th X cl) r g) (hr' : PurB (Cx.th X cl) r' h) (ha : DE X cl W a fa) (hb : DE X cl W b fb) (hc : DE X cl W d fc)
    (hm : lastMarks [op, op'] [b, d] = false := by with_unfolding_all rfl) : DT X cl W (.Compare a [op, op'] [b, d] pos) (dChn g h fa fb fc) :=
  PT.imp (pt_chain ho ho' ha hb hc hm) fun σ H Q q => tChn_of hr hr' (tB2v q)

/-! ### comparisons as tests -/
theorem dt_cmpR {op : CmpOp} {r : R2} {g : D → D → Option Bool} (ho : OpR X (compareOp op) r) (hm : behindInMarks op b = false) (hr : PurB (Cx.th X cl) r g) (ha : DE X cl W a fa) (hb : DE X cl W b fb) : DT X cl W (.Compare a [op] [b] pos) (dCmp g fa fb) :=
  PT.imp (pt_cmpR ho ha hb hm) fun σ H Q q => tCmp_of hr (tB2v q)
theorem dt_eq (hu : X.A.units + 64 < cLine) (ha : DE X cl W a fa) (hb : DE X cl W b fb) : DT X cl W (.Compare a [.Eq] [b] pos) (dCmp eqD fa fb) := dt_cmpR (op_eqP hu) (nobehind _ (by decide) (by decide)) (pur_eq (T := Cx.th X cl)) ha hb
theorem dt_ne (hu : X.A.units + 64 < cLine) (ha : DE X cl W a fa) (hb : DE X cl W b fb) : DT X cl W (.Compare a [.NotEq] [b] pos) (dCmp neD fa fb) := dt_cmpR (op_neP hu) (nobehind _ (by decide) (by decide)) (pur_ne (T := Cx.th X cl)) ha hb
theorem dt_gt (ha : DE X cl W a fa) (hb : DE X cl W b fb) : DT X cl W (.Compare a [.Gt] [b] pos) (dCmp gtI fa fb) := dt_cmpR op_gt (nobehind _ (by decide) (by decide)) pur_int ha hb
theorem dt_ge (ha : DE X cl W a fa) (hb : DE X cl W b fb) : DT X cl W (.Compare a [.GtE] [b] pos) (dCmp geI fa fb) := dt_cmpR op_ge (nobehind _ (by decide) (by decide)) pur_int ha hb
theorem dt_lt (hu : X.A.units < cLine) (ha : DE X cl W a fa) (hb : DE X cl W b fb) : DT X cl W (.Compare a [.Lt] [b] pos) (dCmp ltD fa fb) := dt_cmpR (OpR.or op_lt (op_ltT hu)) (nobehind _ (by decide) (by decide)) (pur_lt (T := Cx.th X cl)) ha hb
theorem tIn_of {neg : Bool} {σ : St} {H : Hp} {Q : VK} (q : tG (Cx.th X cl) W (RD (Cx.th X cl)) (dB2v (dIn neg fa fb)) σ H Q) :
    tOp (fun x y H Q => rInP X.K neg x y H Q ∨ ∃ (c : Nat) (z : Str), x = .str ⟨#[c]⟩ ∧ y = .str z ∧ Q (.bl (if neg then !decide (c ∈ z.cps.toList) else decide (c ∈ z.cps.toList))) H) (tG (Cx.th X cl) W (RD (Cx.th X cl)) fa) (tG (Cx.th X cl) W (RK (Cx.th X cl)) fb) σ H Q := by
  obtain ⟨F, al, sl, mu, w, po⟩ := tV2B q
  refine seqG back_RB w po rfl fun v d F1 al1 mu1 H1 x1 w1 r1 po1 => ?_
  refine seqG back_RB w1 po1 rfl fun u e F2 al2 mu2 H2 x2 w2 r2 po2 => ?_
  dsimp only at po2
  cases z : inD d e with
  | none => rw [z] at po2; exact False.elim po2
  | some r =>
    rw [z] at po2
    exact in_reads (T := Cx.th X cl) (neg := neg) w2.toMus (x2.rp r1) r2 z (Po.here (R := RB) (Q := fun c H' => Q (.bl c) H') po2 w2.toMus rfl)
theorem dt_in (hu : X.A.units + 65 < cLine) (ha : DE X cl W a fa) (hb : DKk X cl W b fb) (hm : behindInMarks .In b = false) : DT X cl W (.Compare a [.In] [b] pos) (dIn false fa fb) :=
  PT.imp (pt_cmpR (OpR.or (op_inP hu) op_in_sign) ha hb hm) fun σ H Q q => tIn_of (neg := false) (tB2v q)
theorem dt_nin (hu : X.A.units + 65 < cLine) (ha : DE X cl W a fa) (hb : DKk X cl W b fb) (hm : behindInMarks .NotIn b = false) : DT X cl W (.Compare a [.NotIn] [b] pos) (dIn true fa fb) :=
  PT.imp (pt_cmpR (OpR.or (op_ninP hu) op_notIn_sign) ha hb hm) fun σ H Q q => tIn_of (neg := true) (tB2v q)
theorem tIsN_of {σ : St} {H : Hp} {Q : VK} (q : tG (Cx.th X cl) W (RD (Cx.th X cl)) (dB2v (dIsN f)) σ H Q) : tIsN (tG (Cx.th X cl) W (RD (Cx.th X cl)) f) σ H Q := by
  obtain ⟨F, al, sl, mu, w, po⟩ := tV2B q
  refine seqG back_RB w po rfl fun v d F1 al1 mu1 H1 x1 w1 r1 po1 => ?_
  rw [Rp.isNon r1]
  exact Po.here (R := RB) (Q := fun c H' => Q (.bl c) H') po1 w1.toMus rfl
theorem dt_isN {j : Nat} (h : DE X cl W a f) : DT X cl W (.Compare a [.Is] [.Constant .none j p2] pos) (dIsN f) := PT.imp (pt_cmp (pc_isN h) rfl) fun σ H Q q => tIsN_of (tB2v q)
theorem pe_gv {v : V} (hg : Gl X x) (h : ∃ u, X.mg x = some u ∧ RelV v u) (hd : (x == ("__debug__" : Str)) = false := by decide) : PE X (.Name x pos) (tC v) := by
  obtain ⟨u, h1, h2⟩ := h
  exact pe_glob hg h1 h2 hd
theorem tk0 {X : Cx} : Takes X WF := fun _ _ ⟨_, _, _, _, _, _, _, _, _, _, _, _, _, _, _, _, w⟩ => w.elim
def repD : D → D → Option MO
  | .lst l, .int j => if rgOk j = true ∧ l.length * j.toNat ≤ 16000000 then some (.lst (List.replicate j.toNat l).flatten) else none
  | _, _ => none
def dNw2 (g : D → D → Option MO) (fa fb : EF) : NF := dBind fa fun x => dBind fb fun y _ mu => match g x y with
  | some r => .ok r mu
  | none => .bad
theorem dn_rep (ha : DE X cl W a fa) (hb : DE X cl W b fb) : DN X cl W (.BinOp a .Mult b pos) (dNw2 repD fa fb) := PE.imp (pe_op op_rep ha hb) fun σ H Q q => by
  obtain ⟨F, al, sl, mu, w, po⟩ := q
  refine seqG back_RN w po rfl fun v d F1 al1 mu1 H1 x1 w1 r1 po1 => ?_
  refine seqG back_RN w1 po1 rfl fun u e F2 al2 mu2 H2 x2 w2 r2 po2 => ?_
  dsimp only at po2
  cases z : repD d e with
  | none => rw [z] at po2; exact False.elim po2
  | some res =>
    rw [z] at po2
    cases d with
    | lst l =>
      cases e with
      | int j =>
        have z' : (if rgOk j = true ∧ l.length * j.toNat ≤ 16000000 then some (MO.lst (List.replicate j.toNat l).flatten) else none) = some res := z
        split at z'
        · rename_i h
          cases z'
          cases r2
          cases x2.rp r1 with
          | @lst p xs ds h1 h2 =>
            have hl := RpL.len h2
            have hj := rgOk_of h.1
            refine ⟨p, j, xs, rfl, rfl, w2.sub _ _ h1, by omega, by omega, by rw [hl, sizeLine_eq]; omega, fun q hq => ?_⟩
            exact po2 _ F2 al2 _ (Ext.laidH w2.toMus hq) (rn_new (o := .lst _) (m := .lst _) w2.toMus hq (rpL_rep h2 _))
        · cases z'
      | _ => cases z
    | _ => cases z
end
end DL
end

section
set_option Elab.async false
set_option linter.all false
set_option maxRecDepth 100000
set_option maxHeartbeats 4000000
/-! EA: an own error class whose __init__ says super().__init__(..), then stores its parameters. -/
namespace DL
open PySem PySem.W PySem.Calls PyProof.Rows
open L2 hiding St
section
variable {prog : Program} {w : World} {A : Around} {E : Value → Shared → Prop} {s : Shared} {h₀ base : Heap} {L : Addr} {m mg : Str → Option Value} {news : List (Addr × Obj)} {K : Frag}
variable {x C Dc f cc cda : Addr} {ox : Obj} {odx : Option Obj}
/-- what the written part says of an __init__ that says super() -/
structure SupD (prog : Program) (K : Frag) (mg : Str → Option Value) (C Dc f cc cda : Addr) (fd : FuncData) (scope : Scope) (me : Str) : Prop where
  at_ : ∃ oc od osl, K.lookup f = some ⟨oc, od, .func fd, osl⟩
  par : ∃ ar, (fd.params.posonlyargs ++ fd.params.args).head? = some ar ∧ ar.arg = me
  code : ∃ ccl cdd vs ccs file tf, K.lookup cda = some ⟨ccl, cdd, .fields vs, ccs⟩ ∧ vs[2]? = some (.str file tf) ∧ ((prog.main.file : Str) == file) = true
  cell : ∃ cl cld csl, K.lookup cc = some ⟨cl, cld, .cell (some (.ref Dc)), csl⟩
  own : ∃ cdD, clsIn K Dc = some cdD
  sub : mroIn K C (.ref Dc) = some true
  sup : mg "super" = none
  nsup : scope.names.lookup ("super" : Str) = some .globalImplicit
  ncls : scope.names.lookup ("__class__" : Str) = some .free
  nself : scope.names.lookup me = some .local
  kind : scope.kind = .function
  top : (prog.main.scope.names.lookup ("super" : Str)).isSome = false
theorem sup_node {body : List Stmt} {q : Str} {scope : Scope} {p0 p1 : Pos} {attr me : Str} {whole : Sem Value} {fd : FuncData} {Q : Value → Shared → Prop}
    (S : SupD prog K mg C Dc f cc cda fd scope me) (F : Fr h₀ L s.heap m) (X₀ : K.In h₀) (M : Mod K mg base) (kb : ∀ b o, base.get? b = some o → h₀.get? b = some o) (N : News h₀ L s.heap news)
    (hv : m me = some (.ref x)) (I : InstAt s.heap x ox C odx) (hat : (attr == ("__class__" : Str)) = false)
    (k : ∀ so h', Fr h₀ L h' m → News h₀ L h' ((so, ks_superObj Dc x C) :: news) → (∀ p ∈ news, p.1 < so) → Q (.ref so) { s with heap := h' }) :
    _root_.PySem.wpAt (model prog w) A (.func body (ksEnv q scope L f (.ref cda) cc)) (attributeBase (.Call (.Name "super" p0) [] [] p1) attr (ksEnv q scope L f (.ref cda) cc) whole) Q E s := by
  have KX : K.In s.heap := X₀.keeps F.keep
  have kbs : ∀ b o, base.get? b = some o → s.heap.get? b = some o := fun b o e => F.keep _ _ (kb b o e)
  obtain ⟨_, _, _, hf⟩ := S.at_
  obtain ⟨ar, hp, rfl⟩ := S.par
  obtain ⟨_, _, vs, _, file, tf, hcode, hvs, hfile⟩ := S.code
  obtain ⟨_, _, _, hcell⟩ := S.cell
  obtain ⟨cdD, hD⟩ := S.own
  obtain ⟨mb, hb1, hb2⟩ := M.blt
  obtain ⟨oD, hD1, hD2⟩ : ∃ oD, s.heap.get? Dc = some oD ∧ oD.data = .cls cdD := by
    unfold clsIn at hD
    split at hD
    · rename_i ho
      cases hD
      exact ⟨_, KX _ _ ho, rfl⟩
    · cases hD
  have hk := S.kind
  obtain ⟨hh, g, d, t, os⟩ := s
  refine ks_wpAt_super_base (env := ksEnv q scope L f (.ref cda) cc) S.nsup S.ncls hat rfl (KX _ _ hf) rfl hp rfl (KX _ _ hcode) rfl hvs hfile S.top ?_
  refine ks_loadName_global hk S.nsup (loadGlobal_builtin (env := ksEnv q scope L f (.ref cda) cc) (M.glob.keeps kbs) S.sup (hb1.keeps kbs) ((hb2 _ (by decide)).trans (show bootBuiltins "super" = some (.type "super") by decide +kernel)) ⟨rfl, ?_⟩)
  refine wpAny_loadName_free hk S.ncls rfl ⟨_, KX _ _ hcell, rfl⟩ ?_
  refine wpAny_loadName_local hk S.nself F.ns hv ?_
  refine ks_wpAny_isType_cls hD1 hD2 ⟨rfl, ?_⟩
  refine ks_wpAny_call_super hD1 hD2 I.at_ I.cls (fun c e => ?_) (looks_mroIn KX S.sub) (fun h' e kk => ?_)
  · have z := I.no
    unfold notCls at z
    rw [e] at z
    cases z
  · obtain ⟨F', N', l'⟩ := ks_newsPush (s := ⟨hh, g, d, t, os⟩) F N rfl e kk
    exact k _ _ F' N' l'
/-- the arguments are read off the frame -/
def ArgRd (env : Env) (L : Addr) (m : Str → Option Value) (es : List PySem.Expr) (us : List Value) : Prop := ∀ (M : Model) (A : Around) (E : Value → Shared → Prop) (s : Shared) (pos : Pos) (Q : List Value → Shared → Prop), s.heap.Ns L m → Q us s → wpAny M A (spliced (backTo pos (starEach es env))) Q E s
theorem reads_nil {env : Env} : ArgRd env L m [] [] := fun _ _ _ _ _ _ _ h => Calls.spliced_nil h
theorem reads_name {env : Env} {y : Str} {p : Pos} {v : Value} {es : List PySem.Expr} {us : List Value} (hL : env.locals = L) (hk : env.scope.kind = .function) (hl : env.kindOf y = some .local) (hv : m y = some v) (hd : (y == ("__debug__" : Str)) = false) (r : ArgRd env L m es us)
    (hs : starEach (.Name y p :: es) env = (false, eval (.Name y p) env) :: starEach es env) : ArgRd env L m (.Name y p :: es) (v :: us) := fun M A E s pos Q hn h => by
  rw [hs]
  refine Calls.spliced_cons (wpAny_Name (wpAny_loadName_local hk hl (by rw [hL]; exact hn) hv ?_) hd)
  exact r M A E s pos _ hn h
/-- super().__init__(..): the error's args are laid anew -/
theorem sup_stmt {body : List Stmt} {q : Str} {scope : Scope} {p0 p1 ap pc pe : Pos} {me : Str} {fd : FuncData} {B i newId : String} {bmB : List Value} {t : Addr} {es : List PySem.Expr} {us : List Value} {pl : Sem Bool} {Q : Flow → Shared → Prop}
    (S : SupD prog K mg C Dc f cc cda fd scope me) (F : Fr h₀ L s.heap m) (X₀ : K.In h₀) (M : Mod K mg base) (kb : ∀ b o, base.get? b = some o → h₀.get? b = some o) (N : News h₀ L s.heap [(x, excObj C t none .none)])
    (hv : m me = some (.ref x)) (KF : KxsFacts B i) (FB : ExcBaseFacts B newId i bmB) (hno : nsIn K cStatics "thirdparty.any" = some none) (hm : ks_superIn K C Dc "__init__" = some (some (.builtin i)))
    (hB : subIn K (.ref C) (.type B) = some true) (hi : excInitIn K C bmB newId = true) (hr : ArgRd (ksEnv q scope L f (.ref cda) cc) L m es us) (hz : us.length ≤ sizeLine) (hsh : (es = [] ∧ us = []) ∨ ∃ a b, backTo pc (starEach es (ksEnv q scope L f (.ref cda) cc)) = (false, a) :: b)
    (hpl : (backTo pc (starEach es (ksEnv q scope L f (.ref cda) cc))).any (·.1) = false)
    (hin : interactive (ksEnv q scope L f (.ref cda) cc) = false) (hsw : swapsWith (.Call (.Attribute (.Call (.Name "super" p0) [] [] p1) "__init__" ap) es [] pc) none pe.line (ksEnv q scope L f (.ref cda) cc) = pure false)
    (hev : eval (.Call (.Attribute (.Call (.Name "super" p0) [] [] p1) "__init__" ap) es [] pc) (ksEnv q scope L f (.ref cda) cc) = (do
      let ov ← attributeBase (.Call (.Name "super" p0) [] [] p1) "__init__" (ksEnv q scope L f (.ref cda) cc) (eval (.Call (.Name "super" p0) [] [] p1) (ksEnv q scope L f (.ref cda) cc))
      standAt ap.atName
      let (g, first) ← holding [ov] (getMethod ov "__init__" pl)
      callWith pc g first (backTo pc (starEach es (ksEnv q scope L f (.ref cda) cc))) []))
    (k : ∀ t' h' tk, Fr h₀ L h' m → News h₀ L h' [(x, excObj C t' none .none)] → Q .next { s with heap := h', toks := tk }) :
    _root_.PySem.wpAt (model prog w) A (.func body (ksEnv q scope L f (.ref cda) cc)) (exec (.Expr (.Call (.Attribute (.Call (.Name "super" p0) [] [] p1) "__init__" ap) es [] pc) pe) (ksEnv q scope L f (.ref cda) cc)) Q E s := by
  refine ks_wpAt_Expr_any ?_ hin hsw
  refine ks_wpAt_MethodCall (pl := pl) ?_ hev
  have I : InstAt s.heap x (excObj C t none .none) C none := ⟨(N (x, excObj C t none .none) (by simp)).1, rfl, rfl, trivial⟩
  refine sup_node S F X₀ M kb N hv I (by decide) fun so h1 F1 N1 l1 => ?_
  have I1 : InstAt h1 x (excObj C t none .none) C none := ⟨(N1 (x, excObj C t none .none) (by simp)).1, rfl, rfl, trivial⟩
  refine kxs_method (s := { s with heap := h1 }) KF F1 X₀ N1 List.mem_cons_self I1 hno hm hB (by decide) fun u h2 F2 N2 l2 => ?_
  have ux : u ≠ x := fun z => by
    have := l2 (x, excObj C t none .none) (by simp)
    rw [z] at this
    exact Nat.lt_irrefl _ this
  have sx : so ≠ x := fun z => by
    have := l1 (x, excObj C t none .none) (by simp)
    rw [z] at this
    exact Nat.lt_irrefl _ this
  refine kxs_callWith (i := i) (x := x) hpl ?_
  have key : wpAny (model prog w) A (evalArgs (.ref u) true (backTo pc (starEach es (ksEnv q scope L f (.ref cda) cc))) []) (fun ar s₁ => ar = ⟨us, []⟩ ∧ s₁ = { s with heap := h2, toks := s.toks + 1 }) E { s with heap := h2, toks := s.toks + 1 } := by
    rcases hsh with ⟨rfl, rfl⟩ | ⟨a, b, hs⟩
    · exact evalArgs_empty ⟨rfl, rfl⟩
    · have := hr (model prog w) A E { s with heap := h2, toks := s.toks + 1 } pc (fun vs s₁ => (⟨vs, []⟩ : Args) = ⟨us, []⟩ ∧ s₁ = { s with heap := h2, toks := s.toks + 1 }) F2.ns ⟨rfl, rfl⟩
      rw [hs] at this ⊢
      exact Calls.evalArgs_plain this
  refine wpAny_mono key (fun ar s₁ hh => ?_) fun _ _ z => z
  obtain ⟨rfl, rfl⟩ := hh
  refine ⟨kxs_at N2 List.mem_cons_self, ?_⟩
  refine kxs_call (nw := fun o => [(u, kxs_mw i x), (so, ks_superObj Dc x C), (x, o)]) F2 X₀ N2 FB hi List.mem_cons_self (.tail ux (.tail sx (.head (by simp)))) hz fun t' h3 F3 N3 l3 => ?_
  exact k t' h3 _ F3 fun p hp => N3 p (by
    rcases List.mem_cons.mp hp with rfl | hp
    · simp
    · cases hp)
/-- what an error class's text says of the stores -/
structure StoD (K : Frag) (C : Addr) : Prop where
  cls : ∃ cd, clsIn K C = some cd ∧ PySem.HandSPX.refsVE cd.mro = true ∧ cd.hasDict = true
  sa : findIn K (.ref C) "__setattr__" = some (some (.builtin "object.__setattr__"))
/-- the error at x, its dict none as yet -/
def Err0 (C x : Addr) (h : Heap) : Prop := ∃ t : Addr, h.get? x = some { cls := .ref C, data := .fields #[.ref t, .none, .none, .none, .bool false, .none] }
/-- .. its dict at dx -/
def ErrD (C x dx : Addr) (mA : Str → Option Value) (h : Heap) : Prop := (∃ t : Addr, h.get? x = some { cls := .ref C, dict := some dx, data := .fields #[.ref t, .none, .none, .none, .bool false, .none] }) ∧ h.Ns1 dx mA
theorem Fr.keepBut {h h' : Heap} (F : Fr h₀ L h m) (hx : h₀.get? x = none) (xL : x ≠ L) (k : ∀ b o, b ≠ x → h.get? b = some o → h'.get? b = some o) : Fr h₀ L h' m := by
  obtain ⟨oL, es, ep, hL, r⟩ := F.ns
  exact ⟨⟨oL, es, ep, k _ _ (Ne.symm xL) hL, r⟩, fun b o e => k b o (fun z => by rw [z, hx] at e; cases e) (F.keep b o e), F.above⟩
theorem store0 {me name y : Str} {p1 p2 p3 pos : Pos} {v : Value} {env : Env} {Q : Flow → Shared → Prop} (D : StoD K C) (F : Fr h₀ L s.heap m) (X₀ : K.In h₀) (hx : h₀.get? x = none) (xL : x ≠ L) (e0 : Err0 C x s.heap)
    (hn : findIn K (.ref C) name = some none) (hL : env.locals = L) (hk : env.scope.kind = .function) (ly : env.kindOf y = some .local) (lm : env.kindOf me = some .local) (vy : m y = some v) (vm : m me = some (.ref x)) (dy : (y == ("__debug__" : Str)) = false) (dm : (me == ("__debug__" : Str)) = false)
    (hsw : swapsWith (.Name y p3) (some (.Attribute (.Name me p1) name p2)) pos.line env = pure false)
    (k : ∀ dx h' tk, Fr h₀ L h' m → h₀.objs.size ≤ dx → h₀.get? dx = none → dx ≠ L → dx ≠ x → ErrD C x dx (fun z => if z = name then some v else none) h' → Q .next { s with heap := h', toks := tk }) :
    wpAny (model prog w) A (exec (.Assign [.Attribute (.Name me p1) name p2] (.Name y p3) pos) env) Q E s := by
  obtain ⟨cd, hcd, hm, hh⟩ := D.cls
  obtain ⟨t, ho⟩ := e0
  have KX := X₀.keeps F.keep
  subst hL
  refine plainObj_wpAny_Assign_Attribute ?_ hsw
  refine wpAny_Name (wpAny_loadName_local hk ly F.ns vy ?_) dy
  refine wpAny_Name (wpAny_loadName_local hk lm F.ns vm ?_) dm
  obtain ⟨hp, g, d, tk, os⟩ := s
  refine set_plain KX (ox := { cls := .ref C, dict := none, data := .fields #[.ref t, .none, .none, .none, .bool false, .none] }) (od := none) ⟨ho, rfl, rfl, trivial⟩ D.sa ?_
  refine PySem.HandSPX.exc_osa KX ho hcd hm hh hn (fun h' tk' dx kk dn dne hx' hns => ?_)
  have hd0 : h₀.get? dx = none := by
    cases z : h₀.get? dx with
    | none => rfl
    | some o => exact absurd (Heap.lt_size (F.keep _ _ z)) (Nat.not_lt.mpr dn)
  obtain ⟨oL, _, _, hoL, _⟩ := F.ns
  have dL : dx ≠ env.locals := fun z => by
    have := Heap.lt_size (show hp.get? env.locals = some oL from hoL)
    rw [← z] at this
    exact absurd this (Nat.not_lt.mpr dn)
  have up : h₀.objs.size ≤ dx := Nat.le_trans F.above (Nat.le_trans (Nat.le_of_lt (Heap.lt_size (show hp.get? env.locals = some oL from hoL))) dn)
  exact k dx h' tk' (Fr.keepBut F hx xL kk) up hd0 dL dne ⟨⟨t, hx'⟩, hns⟩
theorem storeD {me name y : Str} {dx : Addr} {mA : Str → Option Value} {nl : List Str} {p1 p2 p3 pos : Pos} {v : Value} {env : Env} {Q : Flow → Shared → Prop} (D : StoD K C) (F : Fr h₀ L s.heap m) (X₀ : K.In h₀) (hd : h₀.get? dx = none) (dL : dx ≠ L) (dne : dx ≠ x) (e0 : ErrD C x dx mA s.heap) (hw : Within mA nl) (hz : nl.length ≤ 1000)
    (hn : findIn K (.ref C) name = some none) (hL : env.locals = L) (hk : env.scope.kind = .function) (ly : env.kindOf y = some .local) (lm : env.kindOf me = some .local) (vy : m y = some v) (vm : m me = some (.ref x)) (dy : (y == ("__debug__" : Str)) = false) (dm : (me == ("__debug__" : Str)) = false)
    (hsw : swapsWith (.Name y p3) (some (.Attribute (.Name me p1) name p2)) pos.line env = pure false)
    (k : ∀ h' tk, Fr h₀ L h' m → ErrD C x dx (fun z => if z = name then some v else mA z) h' → Q .next { s with heap := h', toks := tk }) :
    wpAny (model prog w) A (exec (.Assign [.Attribute (.Name me p1) name p2] (.Name y p3) pos) env) Q E s := by
  obtain ⟨cd, hcd, hm, hh⟩ := D.cls
  obtain ⟨⟨t, ho⟩, hns⟩ := e0
  have KX := X₀.keeps F.keep
  subst hL
  refine plainObj_wpAny_Assign_Attribute ?_ hsw
  refine wpAny_Name (wpAny_loadName_local hk ly F.ns vy ?_) dy
  refine wpAny_Name (wpAny_loadName_local hk lm F.ns vm ?_) dm
  obtain ⟨hp, g, d, tk, os⟩ := s
  obtain ⟨oD, _, _, hoD, _, _⟩ := hns.count hw
  refine set_plain KX (ox := { cls := .ref C, dict := some dx, data := .fields #[.ref t, .none, .none, .none, .bool false, .none] }) (od := some oD) ⟨ho, rfl, rfl, hoD⟩ D.sa ?_
  refine PySem.OEX.osa_old KX ho hns hw hz hcd hm hh hn (fun h' tk' kk hn' => ?_)
  exact k h' tk' (Fr.keepBut F hd dL kk) ⟨⟨t, kk _ _ (Ne.symm dne) ho⟩, hn'⟩
/-- the frame of such an __init__ -/
theorem init_enter {name qual : Str} {params : Arguments} {body : List Stmt} {scope : Scope} {dV kV doc pm ct oc : Value} {an od : Option Addr} {osl : Array (Option Value)} {args : Args} {binds : List (Str × Value)} {R : Result → Shared → Prop}
    (lk : K.lookup f = some ⟨oc, od, .func (ksFn name qual params body scope dV kV doc pm an (.ref cda) ct cc), osl⟩) (hcd : codeIn K (.ref cda) qual = true) (KX : K.In s.heap) (lim : s.heap.NoLimit) (hroom : A.depth < recursionLimit)
    (hbind : BindsTo s (ksFn name qual params body scope dV kV doc pm an (.ref cda) ct cc) args binds) (hloc : ∀ y ∈ binds, scope.names.lookup y.1 = some .local) (hcell : ∀ y ∈ scope.names, y.2 ≠ .cell)
    (hco : scope.isCoroutine = false) (hgen : scope.isGenerator = false) (hk : scope.kind = .function) (KB : K.In base) (kb : ∀ b o, base.get? b = some o → s.heap.get? b = some o) (hx : base.get? x = none) (e0 : Err0 C x s.heap)
    (h : ∀ h₀ L h₁, Fr h₀ L h₁ (fun y => binds.reverse.lookup y) → K.In h₀ → (∀ b o, base.get? b = some o → h₀.get? b = some o) → h₀.get? x = none → (∀ b o, b ≠ x → s.heap.get? b = some o → h₀.get? b = some o) → h₀.objs.size = s.heap.objs.size → x ≠ L → Err0 C x h₁ →
      _root_.PySem.wpAt (model prog w) (A.deeper (ksEnv qual scope L f (.ref cda) cc)) (.func body (ksEnv qual scope L f (.ref cda) cc)) (execs body (ksEnv qual scope L f (.ref cda) cc))
        (fun fl s' => R (.ok (.ret (match fl with | .ret v => v | _ => .none))) s')
        (fun e s' => wpAny (model prog w) (A.deeper (ksEnv qual scope L f (.ref cda) cc)) (leaving (ksEnv qual scope L f (.ref cda) cc) e) (fun _ s'' => R (.error e) s'') (fun e' s'' => R (.error e') s'') s')
        { s with heap := h₁, toks := s.toks + binds.length }) : codeAny (model prog w) A (.call (.ref f) args) R s := by
  obtain ⟨t, ho⟩ := e0
  have k0 : ∀ b o, b ≠ x → s.heap.get? b = some o → (hideAll s.heap [x]).get? b = some o := fun b o hb e => hideAll_get _ e (by simpa using hb)
  have kb0 : ∀ b o, base.get? b = some o → (hideAll s.heap [x]).get? b = some o := fun b o e => k0 b o (fun z => by rw [z, hx] at e; cases e) (kb b o e)
  refine ks_codeAny_call_defAt (fd := ksFn name qual params body scope dV kV doc pm an (.ref cda) ct cc) (body := body) (binds := binds) hroom (KX _ _ lk) rfl lim (codeRec_of KX hcd) rfl hbind hcell hloc (fun h₁ hns hk₁ => ?_) hco hgen hk
  exact h (hideAll s.heap [x]) s.heap.objs.size h₁ ⟨hns, fun b o e => hk₁ b o (of_hideAll _ e), Nat.le_of_eq (hideAll_size _ _)⟩ (KB.keeps kb0) kb0 (hideAll_none _ (by simp)) k0 (hideAll_size _ _) (Nat.ne_of_lt (Heap.lt_size ho)) ⟨t, hk₁ _ _ ho⟩
end
end DL
end

section
set_option Elab.async false
set_option linter.all false
set_option maxRecDepth 100000
set_option maxHeartbeats 4000000
/-! EB: such an __init__ run as a whole: no, one, two fields. -/
namespace DL
open PySem PySem.W PySem.Calls PyProof.Rows
open L2 hiding St
section
variable {prog : Program} {w : World} {A : Around} {s : Shared} {base : Heap} {mg : Str → Option Value} {K : Frag}
variable {x C Dc f cc cda : Addr} {name qual me : Str} {params : Arguments} {scope : Scope} {dV kV doc pm ct oc : Value} {an od : Option Addr} {osl : Array (Option Value)} {R : Result → Shared → Prop}
/-- the frame's own conditions -/
structure FrmD (K : Frag) (f cc cda : Addr) (name qual : Str) (params : Arguments) (body : List Stmt) (scope : Scope) (dV kV doc pm ct oc : Value) (an od : Option Addr) (osl : Array (Option Value)) : Prop where
  lk : K.lookup f = some ⟨oc, od, .func (ksFn name qual params body scope dV kV doc pm an (.ref cda) ct cc), osl⟩
  cd : codeIn K (.ref cda) qual = true
  cell : ∀ y ∈ scope.names, y.2 ≠ .cell
  co : scope.isCoroutine = false
  gen : scope.isGenerator = false
  kind : scope.kind = .function
/-- the built-in __init__ that is come to -/
structure SupB (K : Frag) (C Dc : Addr) (B i newId : String) (bmB : List Value) : Prop where
  kf : KxsFacts B i
  fb : ExcBaseFacts B newId i bmB
  no : nsIn K cStatics "thirdparty.any" = some none
  along : ks_superIn K C Dc "__init__" = some (some (.builtin i))
  sub : subIn K (.ref C) (.type B) = some true
  ini : excInitIn K C bmB newId = true
variable {B i newId : String} {bmB : List Value}
/-- one field -/
theorem init1 {a nm : Str} {p0 p1 ap pc pe q1 q2 q3 q4 q5 : Pos} {pl : Sem Bool} {u : Value}
    (Fm : FrmD K f cc cda name qual params [.Expr (.Call (.Attribute (.Call (.Name "super" p0) [] [] p1) "__init__" ap) [.Name a q1] [] pc) pe, .Assign [.Attribute (.Name me q2) nm q3] (.Name a q4) q5] scope dV kV doc pm ct oc an od osl)
    (S : SupD prog K mg C Dc f cc cda (ksFn name qual params [.Expr (.Call (.Attribute (.Call (.Name "super" p0) [] [] p1) "__init__" ap) [.Name a q1] [] pc) pe, .Assign [.Attribute (.Name me q2) nm q3] (.Name a q4) q5] scope dV kV doc pm an (.ref cda) ct cc) scope me)
    (SB : SupB K C Dc B i newId bmB) (D : StoD K C) (M : L2.Mod K mg base) (kb : ∀ b o, base.get? b = some o → s.heap.get? b = some o) (hx : base.get? x = none) (e0 : Err0 C x s.heap) (hroom : A.depth < recursionLimit)
    (hbind : BindsTo s (ksFn name qual params [.Expr (.Call (.Attribute (.Call (.Name "super" p0) [] [] p1) "__init__" ap) [.Name a q1] [] pc) pe, .Assign [.Attribute (.Name me q2) nm q3] (.Name a q4) q5] scope dV kV doc pm an (.ref cda) ct cc) ⟨[.ref x, u], []⟩ [(me, .ref x), (a, u)])
    (la : scope.names.lookup a = some .local) (ham : a ≠ me) (da : (a == ("__debug__" : Str)) = false) (dm : (me == ("__debug__" : Str)) = false) (hn : findIn K (.ref C) nm = some none)
    (hev : ∀ L, eval (.Call (.Attribute (.Call (.Name "super" p0) [] [] p1) "__init__" ap) [.Name a q1] [] pc) (ksEnv qual scope L f (.ref cda) cc) = (do
      let ov ← attributeBase (.Call (.Name "super" p0) [] [] p1) "__init__" (ksEnv qual scope L f (.ref cda) cc) (eval (.Call (.Name "super" p0) [] [] p1) (ksEnv qual scope L f (.ref cda) cc))
      standAt ap.atName
      let (g, first) ← holding [ov] (getMethod ov "__init__" pl)
      callWith pc g first (backTo pc (starEach [.Name a q1] (ksEnv qual scope L f (.ref cda) cc))) []))
    (hst : ∀ L, starEach [.Name a q1] (ksEnv qual scope L f (.ref cda) cc) = [(false, eval (.Name a q1) (ksEnv qual scope L f (.ref cda) cc))])
    (hin : ∀ L, interactive (ksEnv qual scope L f (.ref cda) cc) = false)
    (hs1 : ∀ L, swapsWith (.Call (.Attribute (.Call (.Name "super" p0) [] [] p1) "__init__" ap) [.Name a q1] [] pc) none pe.line (ksEnv qual scope L f (.ref cda) cc) = pure false)
    (hs2 : ∀ L, swapsWith (.Name a q4) (some (.Attribute (.Name me q2) nm q3)) q5.line (ksEnv qual scope L f (.ref cda) cc) = pure false)
    (k : ∀ dx h' tk, (∀ b o, b ≠ x → s.heap.get? b = some o → h'.get? b = some o) → s.heap.objs.size ≤ dx → dx ≠ x → ErrD C x dx (fun z => if z = nm then some u else none) h' → R (.ok (.ret .none)) { s with heap := h', toks := tk }) :
    codeAny (model prog w) A (.call (.ref f) ⟨[.ref x, u], []⟩) R s := by
  have KX : K.In s.heap := M.kin.keeps kb
  refine init_enter (binds := [(me, .ref x), (a, u)]) Fm.lk Fm.cd KX (M.nolimit.keeps kb) hroom hbind (fun y hy => ?_) Fm.cell Fm.co Fm.gen Fm.kind M.kin kb hx e0 fun h₀ L h₁ F X₀ kb0 hx0 k0 hsz xL e1 => ?_
  · simp only [List.mem_cons, List.not_mem_nil, or_false] at hy
    rcases hy with rfl | rfl
    · exact S.nself
    · exact la
  have vm : ([(me, Value.ref x), (a, u)] : List (Str × Value)).reverse.lookup me = some (.ref x) := by
    have : (me == a) = false := by simpa using fun z => ham z.symm
    simp [List.lookup, this]
  have va : ([(me, Value.ref x), (a, u)] : List (Str × Value)).reverse.lookup a = some u := by simp [List.lookup]
  obtain ⟨t, ho⟩ := e1
  refine ks_wpAt_execs_cons ?_
  refine sup_stmt (s := { s with heap := h₁, toks := s.toks + 2 }) (t := t) S F X₀ M kb0 (fun p hp => by
    rcases List.mem_cons.mp hp with rfl | hp
    · exact ⟨ho, xL, hx0⟩
    · cases hp) vm SB.kf SB.fb SB.no SB.along SB.sub SB.ini (reads_name rfl Fm.kind la va da reads_nil (hst L)) (by show 1 ≤ sizeLine; rw [sizeLine_eq]; omega) (.inr ⟨_, _, by rw [hst L]; rfl⟩) (by rw [hst L]; rfl) (hin L) (hs1 L) (hev L) fun t' h2 tk2 F2 N2 => ?_
  refine wpAt_of_wpAny (wpAny_execs_cons ?_)
  refine store0 (s := { s with heap := h2, toks := tk2 }) D F2 X₀ hx0 xL ⟨t', (N2 _ List.mem_cons_self).1⟩ hn rfl Fm.kind la S.nself va vm da dm (hs2 L) fun dx h3 tk3 F3 up d0 dL dne e3 => ?_
  refine wpAny_execs_nil ?_
  exact k dx h3 tk3 (fun b o hb e => F3.keep _ _ (k0 b o hb e)) (by rw [← hsz]; exact up) dne e3
/-- two fields -/
theorem init2 {a b nm nm2 : Str} {p0 p1 ap pc pe q1 q2 q3 q4 q5 r1 r2 r3 r4 r5 : Pos} {pl : Sem Bool} {u v : Value}
    (Fm : FrmD K f cc cda name qual params [.Expr (.Call (.Attribute (.Call (.Name "super" p0) [] [] p1) "__init__" ap) [.Name a q1, .Name b r1] [] pc) pe, .Assign [.Attribute (.Name me q2) nm q3] (.Name a q4) q5, .Assign [.Attribute (.Name me r2) nm2 r3] (.Name b r4) r5] scope dV kV doc pm ct oc an od osl)
    (S : SupD prog K mg C Dc f cc cda (ksFn name qual params [.Expr (.Call (.Attribute (.Call (.Name "super" p0) [] [] p1) "__init__" ap) [.Name a q1, .Name b r1] [] pc) pe, .Assign [.Attribute (.Name me q2) nm q3] (.Name a q4) q5, .Assign [.Attribute (.Name me r2) nm2 r3] (.Name b r4) r5] scope dV kV doc pm an (.ref cda) ct cc) scope me)
    (SB : SupB K C Dc B i newId bmB) (D : StoD K C) (M : L2.Mod K mg base) (kb : ∀ b o, base.get? b = some o → s.heap.get? b = some o) (hx : base.get? x = none) (e0 : Err0 C x s.heap) (hroom : A.depth < recursionLimit)
    (hbind : BindsTo s (ksFn name qual params [.Expr (.Call (.Attribute (.Call (.Name "super" p0) [] [] p1) "__init__" ap) [.Name a q1, .Name b r1] [] pc) pe, .Assign [.Attribute (.Name me q2) nm q3] (.Name a q4) q5, .Assign [.Attribute (.Name me r2) nm2 r3] (.Name b r4) r5] scope dV kV doc pm an (.ref cda) ct cc) ⟨[.ref x, u, v], []⟩ [(me, .ref x), (a, u), (b, v)])
    (la : scope.names.lookup a = some .local) (ham : a ≠ me) (da : (a == ("__debug__" : Str)) = false) (dm : (me == ("__debug__" : Str)) = false) (hn : findIn K (.ref C) nm = some none)
    (lb : scope.names.lookup b = some .local) (hbm : b ≠ me) (hba : b ≠ a) (db : (b == ("__debug__" : Str)) = false) (hn2 : findIn K (.ref C) nm2 = some none)
    (hev : ∀ L, eval (.Call (.Attribute (.Call (.Name "super" p0) [] [] p1) "__init__" ap) [.Name a q1, .Name b r1] [] pc) (ksEnv qual scope L f (.ref cda) cc) = (do
      let ov ← attributeBase (.Call (.Name "super" p0) [] [] p1) "__init__" (ksEnv qual scope L f (.ref cda) cc) (eval (.Call (.Name "super" p0) [] [] p1) (ksEnv qual scope L f (.ref cda) cc))
      standAt ap.atName
      let (g, first) ← holding [ov] (getMethod ov "__init__" pl)
      callWith pc g first (backTo pc (starEach [.Name a q1, .Name b r1] (ksEnv qual scope L f (.ref cda) cc))) []))
    (hst : ∀ L, starEach [.Name a q1, .Name b r1] (ksEnv qual scope L f (.ref cda) cc) = (false, eval (.Name a q1) (ksEnv qual scope L f (.ref cda) cc)) :: starEach [.Name b r1] (ksEnv qual scope L f (.ref cda) cc))
    (hst2 : ∀ L, starEach [.Name b r1] (ksEnv qual scope L f (.ref cda) cc) = [(false, eval (.Name b r1) (ksEnv qual scope L f (.ref cda) cc))])
    (hin : ∀ L, interactive (ksEnv qual scope L f (.ref cda) cc) = false)
    (hs1 : ∀ L, swapsWith (.Call (.Attribute (.Call (.Name "super" p0) [] [] p1) "__init__" ap) [.Name a q1, .Name b r1] [] pc) none pe.line (ksEnv qual scope L f (.ref cda) cc) = pure false)
    (hs2 : ∀ L, swapsWith (.Name a q4) (some (.Attribute (.Name me q2) nm q3)) q5.line (ksEnv qual scope L f (.ref cda) cc) = pure false)
    (hs3 : ∀ L, swapsWith (.Name b r4) (some (.Attribute (.Name me r2) nm2 r3)) r5.line (ksEnv qual scope L f (.ref cda) cc) = pure false)
    (k : ∀ dx h' tk, (∀ b o, b ≠ x → s.heap.get? b = some o → h'.get? b = some o) → s.heap.objs.size ≤ dx → dx ≠ x → ErrD C x dx (fun z => if z = nm2 then some v else if z = nm then some u else none) h' → R (.ok (.ret .none)) { s with heap := h', toks := tk }) :
    codeAny (model prog w) A (.call (.ref f) ⟨[.ref x, u, v], []⟩) R s := by
  have KX : K.In s.heap := M.kin.keeps kb
  refine init_enter (binds := [(me, .ref x), (a, u), (b, v)]) Fm.lk Fm.cd KX (M.nolimit.keeps kb) hroom hbind (fun y hy => ?_) Fm.cell Fm.co Fm.gen Fm.kind M.kin kb hx e0 fun h₀ L h₁ F X₀ kb0 hx0 k0 hsz xL e1 => ?_
  · simp only [List.mem_cons, List.not_mem_nil, or_false] at hy
    rcases hy with rfl | rfl | rfl
    · exact S.nself
    · exact la
    · exact lb
  have vm : ([(me, Value.ref x), (a, u), (b, v)] : List (Str × Value)).reverse.lookup me = some (.ref x) := by
    have z1 : (me == a) = false := by simpa using fun z => ham z.symm
    have z2 : (me == b) = false := by simpa using fun z => hbm z.symm
    simp [List.lookup, z1, z2]
  have va : ([(me, Value.ref x), (a, u), (b, v)] : List (Str × Value)).reverse.lookup a = some u := by
    have z2 : (a == b) = false := by simpa using fun z => hba z.symm
    simp [List.lookup, z2]
  have vb : ([(me, Value.ref x), (a, u), (b, v)] : List (Str × Value)).reverse.lookup b = some v := by simp [List.lookup]
  obtain ⟨t, ho⟩ := e1
  refine ks_wpAt_execs_cons ?_
  refine sup_stmt (s := { s with heap := h₁, toks := s.toks + 3 }) (t := t) S F X₀ M kb0 (fun p hp => by
    rcases List.mem_cons.mp hp with rfl | hp
    · exact ⟨ho, xL, hx0⟩
    · cases hp) vm SB.kf SB.fb SB.no SB.along SB.sub SB.ini (reads_name rfl Fm.kind la va da (reads_name rfl Fm.kind lb vb db reads_nil (hst2 L)) (hst L)) (by show 2 ≤ sizeLine; rw [sizeLine_eq]; omega) (.inr ⟨_, _, by rw [hst L]; rfl⟩) (by rw [hst L, hst2 L]; rfl) (hin L) (hs1 L) (hev L) fun t' h2 tk2 F2 N2 => ?_
  refine wpAt_of_wpAny (wpAny_execs_cons ?_)
  refine store0 (s := { s with heap := h2, toks := tk2 }) D F2 X₀ hx0 xL ⟨t', (N2 _ List.mem_cons_self).1⟩ hn rfl Fm.kind la S.nself va vm da dm (hs2 L) fun dx h3 tk3 F3 up d0 dL dne e3 => ?_
  refine wpAny_execs_cons ?_
  have hw : Within (fun z => if z = nm then some u else none) [nm] := fun z hz => by
    by_cases e : z = nm
    · simp [e]
    · exact absurd (if_neg e) hz
  refine storeD (s := { s with heap := h3, toks := tk3 }) D F3 X₀ d0 dL dne e3 hw (by show 1 ≤ 1000; decide) hn2 rfl Fm.kind lb S.nself vb vm db dm (hs3 L) fun h4 tk4 F4 e4 => ?_
  refine wpAny_execs_nil ?_
  exact k dx h4 tk4 (fun b o hb e => F4.keep _ _ (k0 b o hb e)) (by rw [← hsz]; exact up) dne e4
end
end DL
end

section
set_option Elab.async false
set_option linter.all false
set_option maxRecDepth 100000
set_option maxHeartbeats 4000000
/-! EC: C(e, ..), an error of one's own: what is raised. -/
namespace DL
open PySem PySem.W PySem.Calls PyProof.Rows
open L2 hiding St
/-- the error's dict after its __init__, or none -/
def ErrAt (C x : Addr) (ns : List Str) (us : List Value) (size : Nat) (h' : Heap) : Option Addr → Prop
  | none => ns = [] ∧ Err0 C x h'
  | some dx => size ≤ dx ∧ dx ≠ x ∧ ∃ mA, ErrD C x dx mA h' ∧ ∀ f, mA f = (ns.zip us).lookup f
/-- C's __init__ keeps its arguments under the names ns -/
def InitOk (prog : Program) (w : World) (K : Frag) (mg : Str → Option Value) (base : Heap) (C f : Addr) (ns : List Str) : Prop :=
  ∀ (A : Around) (s : Shared) (x : Addr) (us : List Value) (R : Result → Shared → Prop), us.length = ns.length → L2.Mod K mg base → (∀ b o, base.get? b = some o → s.heap.get? b = some o) → base.get? x = none → Err0 C x s.heap → A.depth < recursionLimit →
    (∀ dx h' tk, (∀ b o, b ≠ x → s.heap.get? b = some o → h'.get? b = some o) → ErrAt C x ns us s.heap.objs.size h' dx → R (.ok (.ret .none)) { s with heap := h', toks := tk }) →
    codeAny (model prog w) A (.call (.ref f) ⟨.ref x :: us, []⟩) R s
section
variable {X : Cx} {e : PySem.Expr} {es : List PySem.Expr} {ta : TA} {x : Str} {p pos : Pos} {C fI : Addr} {ns : List Str}
/-- C(e, ..) -/
def tErr (C : Addr) (ns : List Str) (ta : TA) : L2.St → Hp → XK → Prop := fun σ H Q => ta σ H fun vs H1 => vs.length = ns.length ∧ vs.length ≤ 1000 ∧ ∀ d : Option Addr, (d = none → ns = []) → (∀ a, d = some a → H1 a = none) →
  Q (.ref C) d (match d with | none => H1 | some a => upd H1 a (.xd (ns.zip vs)))
theorem zip_rel : ∀ {ns : List Str} {vs : List V} {us : List Value} (_ : Vals vs us) (f : Str), RelO ((ns.zip vs).lookup f) ((ns.zip us).lookup f)
  | [], _, _, _, _ => True.intro
  | n :: ns, _, _, .nil, _ => True.intro
  | n :: ns, _, _, .cons h r, f => by
    rw [List.zip_cons_cons, List.zip_cons_cons, List.lookup_cons, List.lookup_cons]
    cases f == n with
    | true => exact h
    | false => exact zip_rel r f
theorem err_end {pins : List (Addr × Obj)} {σ : L2.St} {H1 : Hp} {Q : XK} {hp h2 : Heap} {g : Array GenState} {dr : Drawn} {t1 t2 : Nat} {os : OsState} {a : Addr} {vs : List V} {us : List Value} {dx : Option Addr} (T : Raises X (.ref C)) (I1 : L2.Inv X pins σ H1 ⟨hp, g, dr, t1, os⟩)
    (ha : hp.objs.size ≤ a) (k : ∀ b o, hp.get? b = some o → h2.get? b = some o) (r : Vals vs us) (hn : vs.length = ns.length) (E : ErrAt C a ns us hp.objs.size h2 dx)
    (q : ∀ d : Option Addr, (d = none → ns = []) → (∀ a, d = some a → H1 a = none) → Q (.ref C) d (match d with | none => H1 | some a => upd H1 a (.xd (ns.zip vs)))) : MkP X pins σ Q (.ref a) ⟨h2, g, dr, t2, os⟩ := by
  obtain ⟨G, g1, g2⟩ := restrict h2 fun b => decide (b ≠ a)
  have gk : ∀ b, b ≠ a → G.get? b = h2.get? b := fun b hb => g1 b (decide_eq_true hb)
  have ge : G.get? a = none := g2 a (by simp)
  have na : H1 a = none := I1.hok.fresh ha
  have kG : ∀ b o, hp.get? b = some o → G.get? b = some o := fun b o e => by
    rw [gk b (Nat.ne_of_lt (Nat.lt_of_lt_of_le (Heap.lt_size e) ha))]
    exact k b o e
  have kg : ∀ b o, G.get? b = some o → h2.get? b = some o := fun b o e => by
    by_cases hb : b = a
    · rw [hb, ge] at e; cases e
    · rw [← gk b hb]; exact e
  cases dx with
  | none =>
    obtain ⟨hns, t, he⟩ := E
    exact ⟨a, _, _, ⟨G, g, dr, t2, os⟩, H1, .ref C, none, rfl, I1.kept kG, kg, ge, he, ⟨rfl, rfl⟩, rfl, rfl, na, rfl, I1.bare, T, q none (fun _ => hns) (fun _ z => nomatch z)⟩
  | some d =>
    obtain ⟨hd, hda, mA, ⟨⟨t, he⟩, hns⟩, hm⟩ := E
    have nd : H1 d = none := I1.hok.fresh hd
    have ok : ObjOk X.prog X.w (upd H1 d (.xd (ns.zip vs))) G d (.xd (ns.zip vs)) := ⟨mA, hns.at fun o y => (gk d hda).trans y, fun f => by rw [hm]; exact zip_rel r f⟩
    exact ⟨a, _, _, ⟨G, g, dr, t2, os⟩, upd H1 d (.xd (ns.zip vs)), .ref C, some d, rfl, I1.laid kG hd ok, kg, ge, he, ⟨rfl, rfl⟩, rfl, rfl, by rw [upd_ne (Ne.symm hda)]; exact na, rfl, I1.bare, T, q (some d) (fun z => nomatch z) fun b z => by cases z; exact nd⟩
theorem err_call {pins : List (Addr × Obj)} {σ : L2.St} {H1 : Hp} {Q : XK} {s : Shared} {k : Nat} {vs : List V} {us : List Value} (T : OexC X.K C) (iC : findIn X.K (.ref C) "__init__" = some (some (.ref fI))) (tI : typeIn X.K (.ref fI) = some (.type "function"))
    (IO : InitOk X.prog X.w X.K X.mg X.base C fI ns) (hr : Room (k + 1) X.A) (I1 : L2.Inv X pins σ H1 s) (r : Vals vs us) (hn : vs.length = ns.length) (hz : vs.length ≤ 1000)
    (q : ∀ d : Option Addr, (d = none → ns = []) → (∀ a, d = some a → H1 a = none) → Q (.ref C) d (match d with | none => H1 | some a => upd H1 a (.xd (ns.zip vs)))) :
    wpAny (model X.prog X.w) X.A (call (.ref C) us) (MkP X pins σ Q) X.xe s := by
  obtain ⟨nm, qn, N, bs, bm, sn, sub, ab, col, dd, k0, k1, k2, k3, k5, hC, hbm⟩ := T.cls
  obtain ⟨hp, g, dr, tk, os⟩ := s
  have hget : ((hp.push (kdv_tup us)).push (PySem.HandSPX.excO C hp.objs.size)).get? (hp.objs.size + 1) = some (PySem.HandSPX.excO C hp.objs.size) := by heap_get
  have kk : ∀ b o, hp.get? b = some o → ((hp.push (kdv_tup us)).push (PySem.HandSPX.excO C hp.objs.size)).get? b = some o := fun b o z => Heap.get?_push_of_some _ (Heap.get?_push_of_some _ z)
  have hus : us.length ≤ sizeLine := by
    rw [← Paired.length r, sizeLine_eq]
    omega
  have up : hp.objs.size ≤ ((hp.push (kdv_tup us)).push (PySem.HandSPX.excO C hp.objs.size)).objs.size := by
    rw [Heap.size_push, Heap.size_push]
    omega
  have hb : X.base.get? (hp.objs.size + 1) = none := by
    cases z : X.base.get? (hp.objs.size + 1) with
    | none => rfl
    | some o =>
      have : hp.objs.size + 1 < hp.objs.size := Heap.lt_size (I1.bk _ _ z)
      omega
  refine wpAny_call (PySem.HandSPX.call_own PySem.F.excBase_ValueError (fun Y => PySem.HandSPX.refsVE_contains Y bm hbm) (I1.kIn _ _ hC) (looks_findIn I1.kIn iC) (fun me => bind_fn I1.kIn me tI) hus ?_)
  refine IO _ _ (hp.objs.size + 1) us _ (by rw [← Paired.length r, hn]) I1.mod (fun b o z => kk b o (I1.bk b o z)) hb ⟨_, hget⟩ (hr.make C us []).depth fun dx h' tk' hk E => ?_
  refine ⟨rfl, ?_⟩
  show MkP X pins σ Q (.ref (hp.objs.size + 1)) _
  exact err_end (dx := dx) (raises_own T.exC T.tyC) I1 (Nat.le_succ _) (fun b o z => hk b o (Nat.ne_of_lt (Nat.lt_succ_of_lt (Heap.lt_size z))) (kk b o z)) r hn (by
    cases dx with
    | none => exact E
    | some d => exact ⟨Nat.le_trans up E.1, E.2⟩) q
theorem pmk_err {k : Nat} (T : OexC X.K C) (iC : findIn X.K (.ref C) "__init__" = some (some (.ref fI))) (tI : typeIn X.K (.ref fI) = some (.type "function")) (IO : InitOk X.prog X.w X.K X.mg X.base C fI ns) (hr : Room (k + 1) X.A)
    (hg : Gl X x) (hm : X.mg x = some (.ref C)) (ha : PA X (e :: es) ta) (hdb : (x == ("__debug__" : Str)) = false := by decide) (he : starEach (e :: es) X.env = (false, eval e X.env) :: starEach es X.env := by rfl) (hpl : (backTo pos (starEach es X.env)).any (·.1) = false := by rfl) :
    PMk X (.Call (.Name x p) (e :: es) [] pos) (tErr C ns ta) := by
  intro pins s σ H Q I h
  refine wpAny_Call_Name_kw (ld_glob I hg hm ?_ hdb)
  refine callWith_K (h₀ := X.base) I.ok.mod.kin T.kC (thn (ha.run pos pins s σ H _ I h) fun us s1 ⟨vs, H1, I1, r, hn, hz, q⟩ => ⟨I1.kIn, ?_⟩) he hpl
  exact err_call T iC tI IO hr I1 r hn hz q
end
end DL
end

section
set_option Elab.async false
set_option linter.all false
set_option maxRecDepth 100000
set_option maxHeartbeats 4000000
/-! ED: raise C(e, ..). -/
namespace DL
open PySem PyProof.Rows
open L2 hiding St
def sRaise (c : Nat) (ns : List Str) (g : LF) : SF := fun sl mu => sbind (g sl mu) sl fun ds mu => if ds.length = ns.length ∧ ds.length ≤ 1000 then .ex c (ns.zip ds) sl mu else .bad
theorem rpF_zip {T : Th} {F : Hp} {al : Nat → Addr} {n : Nat} : ∀ {ns : List Str} {vs : List V} {ds : List D} (_ : RpL T F al n vs ds), RpF T F al n (ns.zip vs) (ns.zip ds)
  | [], _, _, _ => .nil
  | n :: ns, [], _, h => by cases h; exact .nil
  | n :: ns, v :: vs, _, h => by
    cases h with
    | cons h1 h2 => exact .cons h1 (rpF_zip h2)
theorem rpL_len {T : Th} {F : Hp} {al : Nat → Addr} {n : Nat} : ∀ {vs : List V} {ds : List D} (_ : RpL T F al n vs ds), vs.length = ds.length
  | [], _, h => by cases h; rfl
  | v :: vs, _, h => by
    cases h with
    | cons h1 h2 => rw [List.length_cons, List.length_cons, rpL_len h2]
section
variable {X : Cx} {cl : Nat → Addr} {W : WX} {n : En} {es : List PySem.Expr} {e : PySem.Expr} {x : Str} {p pos pos' : Pos} {C fI : Addr} {ns : List Str} {g : LF} {c : Nat}
theorem ds_raise0 (hc : X.calm = true) (tk : Takes X W) (hC : cl c = C) (hm : PMk X e (tErr C ns (tG (Cx.th X cl) W (RLs (Cx.th X cl)) g))) : DS X cl W n (.Raise (some e) none pos) (sRaise c ns g) := PS.imp (ps_raise hc tk hm) fun Z σ H q => by
  obtain ⟨F, al, sl, mu, w, po⟩ := q
  refine seqS w po rfl fun vs ds F1 al1 mu1 H1 x1 w1 r1 po1 => ?_
  subst hC
  have hl := rpL_len r1
  by_cases hz : ds.length = ns.length ∧ ds.length ≤ 1000
  · have po2 : PoS (Cx.th X cl) W n F1 al1 mu1 Z (.ex c (ns.zip ds) sl mu1) := by
      rw [if_pos hz] at po1
      exact po1
    refine ⟨hl.trans hz.1, by rw [hl]; exact hz.2, fun d h0 h1 => ?_⟩
    cases d with
    | none =>
      have : ns = [] := h0 rfl
      subst this
      exact po2 none σ F1 al1 H1 Gr.refl w1 (.inl rfl)
    | some a =>
      have x2 : Ext (Cx.th X cl) F1 al1 mu1 H1 F1 al1 mu1 (upd H1 a (.xd (ns.zip vs))) := Ext.laidH w1.w.toMus (h1 a rfl)
      exact po2 (some a) σ F1 al1 _ Gr.refl (w1.ext x2) (.inr ⟨a, ns.zip vs, rfl, upd_same, rpF_zip r1⟩)
  · rw [if_neg hz] at po1
    exact po1.elim
end
end DL
end

section
set_option Elab.async false
set_option linter.all false
set_option maxRecDepth 100000
set_option maxHeartbeats 4000000
/-! EE: what the three kinds of __init__ keep, as InitOk. -/
namespace DL
open PySem PySem.W PySem.Calls PyProof.Rows
open L2 hiding St
section
variable {prog : Program} {w : World} {base : Heap} {mg : Str → Option Value} {K : Frag}
variable {C Dc f cc cda : Addr} {name qual me : Str} {params : Arguments} {scope : Scope} {dV kV doc pm ct oc : Value} {an od : Option Addr} {osl : Array (Option Value)} {B i newId : String} {bmB : List Value}
theorem init1_ok {a nm : Str} {p0 p1 ap pc pe q1 q2 q3 q4 q5 : Pos} {pl : Sem Bool}
    (Fm : FrmD K f cc cda name qual params [.Expr (.Call (.Attribute (.Call (.Name "super" p0) [] [] p1) "__init__" ap) [.Name a q1] [] pc) pe, .Assign [.Attribute (.Name me q2) nm q3] (.Name a q4) q5] scope dV kV doc pm ct oc an od osl)
    (S : SupD prog K mg C Dc f cc cda (ksFn name qual params [.Expr (.Call (.Attribute (.Call (.Name "super" p0) [] [] p1) "__init__" ap) [.Name a q1] [] pc) pe, .Assign [.Attribute (.Name me q2) nm q3] (.Name a q4) q5] scope dV kV doc pm an (.ref cda) ct cc) scope me)
    (SB : SupB K C Dc B i newId bmB) (D : StoD K C)
    (hbind : ∀ (s : Shared) (x : Addr) (u : Value), BindsTo s (ksFn name qual params [.Expr (.Call (.Attribute (.Call (.Name "super" p0) [] [] p1) "__init__" ap) [.Name a q1] [] pc) pe, .Assign [.Attribute (.Name me q2) nm q3] (.Name a q4) q5] scope dV kV doc pm an (.ref cda) ct cc) ⟨[.ref x, u], []⟩ [(me, .ref x), (a, u)])
    (la : scope.names.lookup a = some .local) (ham : a ≠ me) (da : (a == ("__debug__" : Str)) = false) (dm : (me == ("__debug__" : Str)) = false) (hn : findIn K (.ref C) nm = some none)
    (hev : ∀ L, eval (.Call (.Attribute (.Call (.Name "super" p0) [] [] p1) "__init__" ap) [.Name a q1] [] pc) (ksEnv qual scope L f (.ref cda) cc) = (do
      let ov ← attributeBase (.Call (.Name "super" p0) [] [] p1) "__init__" (ksEnv qual scope L f (.ref cda) cc) (eval (.Call (.Name "super" p0) [] [] p1) (ksEnv qual scope L f (.ref cda) cc))
      standAt ap.atName
      let (g, first) ← holding [ov] (getMethod ov "__init__" pl)
      callWith pc g first (backTo pc (starEach [.Name a q1] (ksEnv qual scope L f (.ref cda) cc))) []))
    (hst : ∀ L, starEach [.Name a q1] (ksEnv qual scope L f (.ref cda) cc) = [(false, eval (.Name a q1) (ksEnv qual scope L f (.ref cda) cc))])
    (hin : ∀ L, interactive (ksEnv qual scope L f (.ref cda) cc) = false)
    (hs1 : ∀ L, swapsWith (.Call (.Attribute (.Call (.Name "super" p0) [] [] p1) "__init__" ap) [.Name a q1] [] pc) none pe.line (ksEnv qual scope L f (.ref cda) cc) = pure false)
    (hs2 : ∀ L, swapsWith (.Name a q4) (some (.Attribute (.Name me q2) nm q3)) q5.line (ksEnv qual scope L f (.ref cda) cc) = pure false) :
    InitOk prog w K mg base C f [nm] := fun A s x us R hl M kb hx e0 hr k => match us, hl with
  | [u], _ => init1 Fm S SB D M kb hx e0 hr (hbind s x u) la ham da dm hn hev hst hin hs1 hs2 (fun dx h' tk kk up ne ed => k (some dx) h' tk kk ⟨up, ne, _, ed, fun f => by
      show _ = ([(nm, u)] : List (Str × Value)).lookup f
      by_cases e : f = nm
      · subst e; simp [List.lookup]
      · simp [List.lookup, e, show (f == nm) = false by simpa using e]⟩)
theorem init2_ok {a b nm nm2 : Str} {p0 p1 ap pc pe q1 q2 q3 q4 q5 r1 r2 r3 r4 r5 : Pos} {pl : Sem Bool}
    (Fm : FrmD K f cc cda name qual params [.Expr (.Call (.Attribute (.Call (.Name "super" p0) [] [] p1) "__init__" ap) [.Name a q1, .Name b r1] [] pc) pe, .Assign [.Attribute (.Name me q2) nm q3] (.Name a q4) q5, .Assign [.Attribute (.Name me r2) nm2 r3] (.Name b r4) r5] scope dV kV doc pm ct oc an od osl)
    (S : SupD prog K mg C Dc f cc cda (ksFn name qual params [.Expr (.Call (.Attribute (.Call (.Name "super" p0) [] [] p1) "__init__" ap) [.Name a q1, .Name b r1] [] pc) pe, .Assign [.Attribute (.Name me q2) nm q3] (.Name a q4) q5, .Assign [.Attribute (.Name me r2) nm2 r3] (.Name b r4) r5] scope dV kV doc pm an (.ref cda) ct cc) scope me)
    (SB : SupB K C Dc B i newId bmB) (D : StoD K C)
    (hbind : ∀ (s : Shared) (x : Addr) (u v : Value), BindsTo s (ksFn name qual params [.Expr (.Call (.Attribute (.Call (.Name "super" p0) [] [] p1) "__init__" ap) [.Name a q1, .Name b r1] [] pc) pe, .Assign [.Attribute (.Name me q2) nm q3] (.Name a q4) q5, .Assign [.Attribute (.Name me r2) nm2 r3] (.Name b r4) r5] scope dV kV doc pm an (.ref cda) ct cc) ⟨[.ref x, u, v], []⟩ [(me, .ref x), (a, u), (b, v)])
    (la : scope.names.lookup a = some .local) (ham : a ≠ me) (da : (a == ("__debug__" : Str)) = false) (dm : (me == ("__debug__" : Str)) = false) (hn : findIn K (.ref C) nm = some none)
    (lb : scope.names.lookup b = some .local) (hbm : b ≠ me) (hba : b ≠ a) (db : (b == ("__debug__" : Str)) = false) (hnn : nm ≠ nm2) (hn2 : findIn K (.ref C) nm2 = some none)
    (hev : ∀ L, eval (.Call (.Attribute (.Call (.Name "super" p0) [] [] p1) "__init__" ap) [.Name a q1, .Name b r1] [] pc) (ksEnv qual scope L f (.ref cda) cc) = (do
      let ov ← attributeBase (.Call (.Name "super" p0) [] [] p1) "__init__" (ksEnv qual scope L f (.ref cda) cc) (eval (.Call (.Name "super" p0) [] [] p1) (ksEnv qual scope L f (.ref cda) cc))
      standAt ap.atName
      let (g, first) ← holding [ov] (getMethod ov "__init__" pl)
      callWith pc g first (backTo pc (starEach [.Name a q1, .Name b r1] (ksEnv qual scope L f (.ref cda) cc))) []))
    (hst : ∀ L, starEach [.Name a q1, .Name b r1] (ksEnv qual scope L f (.ref cda) cc) = (false, eval (.Name a q1) (ksEnv qual scope L f (.ref cda) cc)) :: starEach [.Name b r1] (ksEnv qual scope L f (.ref cda) cc))
    (hst2 : ∀ L, starEach [.Name b r1] (ksEnv qual scope L f (.ref cda) cc) = [(false, eval (.Name b r1) (ksEnv qual scope L f (.ref cda) cc))])
    (hin : ∀ L, interactive (ksEnv qual scope L f (.ref cda) cc) = false)
    (hs1 : ∀ L, swapsWith (.Call (.Attribute (.Call (.Name "super" p0) [] [] p1) "__init__" ap) [.Name a q1, .Name b r1] [] pc) none pe.line (ksEnv qual scope L f (.ref cda) cc) = pure false)
    (hs2 : ∀ L, swapsWith (.Name a q4) (some (.Attribute (.Name me q2) nm q3)) q5.line (ksEnv qual scope L f (.ref cda) cc) = pure false)
    (hs3 : ∀ L, swapsWith (.Name b r4) (some (.Attribute (.Name me r2) nm2 r3)) r5.line (ksEnv qual scope L f (.ref cda) cc) = pure false) :
    InitOk prog w K mg base C f [nm, nm2] := fun A s x us R hl M kb hx e0 hr k => match us, hl with
  | [u, v], _ => init2 Fm S SB D M kb hx e0 hr (hbind s x u v) la ham da dm hn lb hbm hba db hn2 hev hst hst2 hin hs1 hs2 hs3 (fun dx h' tk kk up ne ed => k (some dx) h' tk kk ⟨up, ne, _, ed, fun f => by
      show _ = ([(nm, u), (nm2, v)] : List (Str × Value)).lookup f
      by_cases e : f = nm
      · subst e
        simp [List.lookup, hnn]
      · by_cases e2 : f = nm2
        · subst e2
          simp [List.lookup, show (f == nm) = false by simpa using e]
        · simp [List.lookup, e, e2, show (f == nm) = false by simpa using e, show (f == nm2) = false by simpa using e2]⟩)
end
end DL
end

section
set_option Elab.async false
set_option linter.all false
set_option maxRecDepth 100000
set_option maxHeartbeats 4000000
/-! EF: enumerate of a tuple, at the level of the hand layer. -/
namespace DL
open PySem PySem.Spec PyProof.Rows L2
theorem meets_enum1 {v : Value} {o : Obj} {H : Heap → Prop} (B : Begins v o H) :
    Meets (Builtin.«enumerate.__new__» ⟨[.type "enumerate", v], []⟩) (fun _ R s => H s.heap ∧
      R (.ok (.ret (.ref (s.heap.push o).objs.size))) { s with heap := (s.heap.push o).push { cls := .type "enumerate", data := .fields #[.none, .bool false, .ref s.heap.objs.size, rawInt 0, .none, .none] } }) :=
  .of_wp fun prog w A R s h => by
    obtain ⟨hp, g, d, tk, os⟩ := s; obtain ⟨h1, h⟩ := h
    have hsub := sub_enumerate
    have q1 : ∀ {A' : Around} {E : Value → Shared → Prop} {Q : Value → Shared → Prop}, Q (.ref hp.objs.size) ⟨hp.push o, g, d, tk, os⟩ → wpAny (model prog w) A' (pyIter v) Q E ⟨hp, g, d, tk, os⟩ :=
      fun q => B.iter prog w _ _ ⟨hp, g, d, tk, os⟩ _ h1 q
    wp_walk using q1
    refine wpAny_stack_any fun st => wpAny_pure ?_
    split
    · rename_i c _ _ _ _ _
      cases (c == Value.type "enumerate")
      · wp_walk using q1
        exact ⟨_, rfl, h⟩
      · wp_walk using q1
        exact ⟨_, rfl, h⟩
    · wp_walk using q1
      exact ⟨_, rfl, h⟩
section
variable {prog : Program} {w : World} {A : Around} {E : Value → Shared → Prop} {s : Shared}
/-- enumerate(v): its two new cells -/
theorem call_enum1 {v : Value} {o : Obj} {H : Heap → Prop} {Q : Value → Shared → Prop} (B : Begins v o H) (h1 : H s.heap)
    (h : ∀ h', IsEnum h' (s.heap.objs.size + 1) s.heap.objs.size 0 .none → h'.get? s.heap.objs.size = some o → h'.objs.size = s.heap.objs.size + 2 →
      (∀ b o, s.heap.get? b = some o → h'.get? b = some o) → Q (.ref (s.heap.objs.size + 1)) { s with heap := h' }) :
    wpAny (model prog w) A (call (.type "enumerate") [v]) Q E s := by
  refine callType_new F.called_enumerate (by decide) (F.typeCall_enumerate_1 _) (F.newCall_enumerate_1 _) (fun obj => F.args_object_init_2 obj _) F.entry_enumerate_new
    (meets_enum1 B) ⟨h1, ?_⟩
  have hz : (s.heap.push o).objs.size = s.heap.objs.size + 1 := Heap.size_push ..
  show _ ∧ _
  rw [hz]
  have he : IsEnum ((s.heap.push o).push { cls := .type "enumerate", data := .fields #[.none, .bool false, .ref s.heap.objs.size, rawInt 0, .none, .none] }) (s.heap.objs.size + 1) s.heap.objs.size 0 .none := by
    have := Heap.get?_push_size (s.heap.push o) (o := { cls := .type "enumerate", data := .fields #[.none, .bool false, .ref s.heap.objs.size, rawInt 0, .none, .none] }) rfl
    rw [hz] at this; exact this
  refine ⟨⟨_, he, rfl⟩, h _ he (Heap.get?_push_of_some _ (Heap.get?_push_size _ B.free)) (by rw [Heap.size_push, hz]) fun b o x => Heap.get?_push_of_some _ (Heap.get?_push_of_some _ x)⟩
theorem enum_endT {e it t : Addr} {i : Nat} {items : Array Value} {old : Value} {Q : Option Value → Shared → Prop} (hh : A.handled = none)
    (he : IsEnum s.heap e it i old) (hit : s.heap.IsTupleIter it t i) (hl : s.heap.IsTuple t items) (hx : items[i]? = none)
    (hQ : ∀ h', Heap.ExtBut it s.heap h' → Q none { s with heap := h' }) : wpAny (model prog w) A (pyNext (.ref e)) Q E s := by
  have hT : s.TypeIs (.ref e) "enumerate" := ⟨_, he, rfl⟩
  unfold pyNext
  refine wpAny_bind (wpAny_attempt (wpAny_callSpecial?_slot (name := Str.ofString "__next__") hT F.slot_enumerate_next
    (wpAny_call_entry F.slot_enumerate_next hT F.entry_enumerate_next ?_ (F.args_enumerate_next_1 _))))
  show wpAny _ _ (field (.ref e) 2 >>= _) _ _ _
  refine wpAny_bind (wpAny_field he rfl (x := .ref it) rfl ?_)
  refine wpAny_bind (wpAny_nextOf_tuple_end hh hit hl hx fun h' x he' hx' => ?_)
  obtain ⟨o, ho, hc⟩ := hx'
  refine wpAny_bind (wpAny_isInstance (T := "StopIteration") (b := true) ⟨o, ho, hc⟩ isSubtype_stop ?_)
  exact wpAny_pure (hQ _ he')
end
/-- the tuple at a as it stands at each turn, each item in a new pair -/
def IteT (K : PySem.W.Frag) (a : Addr) : It :=
  ⟨fun i H => ∃ (xs : List V) (x : V), SqT K H a xs ∧ xs[i]? = some x, fun i H v H' => ∃ T x, v = .ref T ∧ H T = none ∧ H' = upd H T (.tup [.int (i : Nat), x]) ∧ ∀ xs, SqT K H a xs → xs[i]? = some x, fun i H => ∃ xs : List V, SqT K H a xs ∧ xs.length ≤ i⟩
theorem turn_enumT {P : Program} {w : World} {K : PySem.W.Frag} {elts : List Expr} {kk : Nat} {tpos : Pos} (a e it : Addr) :
    Turn P w K (.Tuple elts kk tpos) (IteT K a) [e, it] e (fun i h => (∃ old, IsEnum h e it ((i : Nat) : Int) old) ∧ h.IsTupleIter it a i ∧ e ≠ it ∧ a ≠ it ∧ e ≠ a) where
  mem := by simp
  obj := fun i h st b hb => by
    obtain ⟨⟨old, he⟩, ⟨o, ho, hc, hd⟩, _⟩ := st
    have e' : b = e ∨ b = it := by simpa using hb
    rcases e' with z | z
    · rw [z]; exact ⟨_, he, fun v q => nomatch q⟩
    · rw [z]; exact ⟨o, ho, fun v q => by rw [hd] at q; cases q⟩
  keep := fun i h h' st k => let ⟨⟨old, he⟩, hi, hne⟩ := st; ⟨⟨old, k e (by simp) _ he⟩, hi.at fun o q => k it (by simp) o q, hne⟩
  item := by
    intro X hP hw hK hc i pins s σ H E I hf st hg
    subst hP hw hK
    obtain ⟨⟨old, he⟩, hit, hne, hat, hea⟩ := st
    obtain ⟨xs, x, hq, hx⟩ := hg
    obtain ⟨its, rv, p, hz⟩ := I.tuple hq
    obtain ⟨u, hu, ru⟩ := rv.get hx
    have hel : e < s.heap.objs.size := Heap.lt_size he
    have hil : it < s.heap.objs.size := by obtain ⟨_, q, _⟩ := hit; exact Heap.lt_size q
    have hil' : i < its.length := (List.getElem?_eq_some_iff.mp hu).1
    refine wpAny_pyNext_enum_itemD (Draws.tuple (show X.A.in1.handled = none from I.ok.hd hc) it a hat its.toArray) he ⟨hit, p⟩ (by simpa using hil') hne (by simp; exact ⟨hne, hea⟩) fun x' h' tk hx' ho st' hT hsz hk => ?_
    have ex : x' = u := by
      have : its.toArray[i]? = some u := by simpa using hu
      rw [this] at hx'; exact (Option.some.inj hx').symm
    subst ex
    refine ⟨_, rfl, wpAny_letOwnedTupleGo_enum (s := { s with heap := h', toks := tk + 1 }) ho fun h'' he' sb => ?_⟩
    have hT2 : h''.get? s.heap.objs.size = some { cls := .type "tuple", data := .seq #[.int i tk, x'] } := (sb.2 _ (Nat.ne_of_gt hel)).trans hT
    have new : ObjOk X.prog X.w (upd H s.heap.objs.size (.tup [.int (i : Nat), x])) h'' s.heap.objs.size (.tup [.int (i : Nat), x]) :=
      ⟨by show 2 ≤ sizeLine; decide, [.int i tk, x'], .cons ⟨_, rfl⟩ (.cons ru .nil), ⟨_, hT2, rfl, _, rfl⟩⟩
    have I1 : Inv X pins σ (upd H s.heap.objs.size (.tup [.int (i : Nat), x])) { s with heap := h'', toks := tk + 1 } :=
      I.turnedNew (ch := [e, it]) (fun b ob hb q => (sb.2 b (fun z => hb (by simp [z]))).trans (hk b ob (fun z => hb (by simp [z])) (fun z => hb (by simp [z])) q)) hf (Nat.le_refl _) new
    refine ⟨.ref s.heap.objs.size, _, I1, rfl, ⟨_, x, rfl, I.hok.fresh (Nat.le_refl _), rfl, fun ys hy => by rw [I.tuple_inj hy hq]; exact hx⟩, ⟨⟨x', ?_⟩, st'.1.at fun o q => (sb.2 it (Ne.symm hne)).trans q, hne, hat, hea⟩, fun b hb => ?_⟩
    · have e1 : ((i + 1 : Nat) : Int) = (i : Int) + 1 := by omega
      rw [e1]; exact he'
    · have hb' : b < s.heap.objs.size := by
        have e' : b = e ∨ b = it := by simpa using hb
        rcases e' with z | z
        · rw [z]; exact hel
        · rw [z]; exact hil
      rw [upd_ne (Nat.ne_of_lt hb')]
      exact (hf b hb).1
  done := by
    intro X hP hw hK hc i pins s σ H E I hf st hg
    subst hP hw hK
    obtain ⟨⟨old, he⟩, hit, hne, hat, hea⟩ := st
    obtain ⟨xs, hq, hx⟩ := hg
    obtain ⟨its, rv, p, hz⟩ := I.tuple hq
    obtain ⟨f0, f1, f2, f3, f4, f5⟩ := hf it (by simp)
    have hl := rv.length
    exact enum_endT (I.ok.hd hc) he hit p (by simp; omega) fun h' eb => ⟨rfl, I.turned (t' := s.toks) (fun b o hb q => eb b o hb q) f0 f1 f3 f4 f5⟩
  self := fun A i s Q E st h => let ⟨⟨_, he⟩, _⟩ := st; wpAny_pyIter_enum he h
def iEnumT (K : PySem.W.Frag) (ta : TA) : TI := fun σ H R => ta σ H fun vs H1 => ∃ a xs, vs = [.ref a] ∧ ((SqL K H1 a xs ∧ R (Ite K a) H1) ∨ (SqT K H1 a xs ∧ R (IteT K a) H1))
theorem pi_enumA {X : Cx} {e : Expr} {ta : TA} {p pos tpos : Pos} {elts : List Expr} {kk : Nat} (hg : Gl X "enumerate") (hm : X.mg "enumerate" = none) (ha : PA X [e] ta) (hs : starEach [e] X.env = [(false, eval e X.env)] := by rfl) :
    PI X (.Tuple elts kk tpos) (.Call (.Name "enumerate" p) [e] [] pos) (iEnumT X.K ta) := by
  refine ⟨fun pins s σ H R I h => ?_⟩
  refine Call_ (ld_blt I hg hm boot_enumerate (PyProof.Rows.callWith_type1 (thn (ha.run pos pins s σ H _ I h) fun us s1 ⟨vs, H1, I1, r1, q1⟩ => ?_) hs rfl))
  obtain ⟨a, xs, ex, hq⟩ := q1
  subst ex
  cases r1 with
  | cons r rr =>
    cases rr
    cases r
    have fresh2 : ∀ b, b ∈ [s1.heap.objs.size + 1, s1.heap.objs.size] → FpOk X pins H1 b := fun b hb => by
      have e' : b = s1.heap.objs.size + 1 ∨ b = s1.heap.objs.size := by simpa using hb
      have hle : s1.heap.objs.size ≤ b := by
        rcases e' with z | z
        · rw [z]; exact Nat.le_add_right _ _
        · rw [z]; exact Nat.le_refl _
      exact I1.fpOk hle (I1.hok.fresh hle)
    rcases hq with ⟨hq, q⟩ | ⟨hq, q⟩
    · obtain ⟨its, rv, p', hz⟩ := I1.list hq
      refine call_enumerate_list p'.isList fun h' he hit hsz hk => wpAny_pyIter_enum he ?_
      have I2 : Inv X pins σ H1 { s1 with heap := h' } := I1.kept (t' := s1.toks) hk
      exact ⟨s1.heap.objs.size + 1, [s1.heap.objs.size + 1, s1.heap.objs.size], _, _, H1, rfl, I2, turn_enum a (s1.heap.objs.size + 1) s1.heap.objs.size, ⟨⟨.none, he⟩, hit, Nat.succ_ne_self _⟩, fresh2, q⟩
    · obtain ⟨its, rv, p', hz⟩ := I1.tuple hq
      have lt : a < s1.heap.objs.size := by obtain ⟨o, ho, _⟩ := p'; exact Heap.lt_size ho
      refine call_enum1 (begins_tuple a its.toArray) p' fun h' he hit hsz hk => wpAny_pyIter_enum he ?_
      have I2 : Inv X pins σ H1 { s1 with heap := h' } := I1.kept (t' := s1.toks) hk
      exact ⟨s1.heap.objs.size + 1, [s1.heap.objs.size + 1, s1.heap.objs.size], _, _, H1, rfl, I2, turn_enumT a (s1.heap.objs.size + 1) s1.heap.objs.size, ⟨⟨.none, he⟩, ⟨_, hit, rfl, rfl⟩, Nat.succ_ne_self _, Nat.ne_of_lt lt, Nat.ne_of_gt (Nat.lt_succ_of_lt lt)⟩, fresh2, q⟩
theorem walk_enumT {K : PySem.W.Frag} {a : Addr} {xs : List V} : Walk (IteT K a) xs.length (fun H => SqT K H a xs) (YPair (fun i => some (.int (i : Nat))) (fun i => xs[i]?)) := by
  refine ⟨fun i _ hi q => ⟨xs, xs[i], q, by simp [hi]⟩, fun _ q => ⟨xs, q, Nat.le_refl _⟩, fun i H v H' _ q y => ?_⟩
  obtain ⟨T, x, h1, h2, h3, h4⟩ := y
  exact ⟨T, .int (i : Nat), x, h1, h2, h3, rfl, h4 xs q⟩
end DL
end

section
set_option Elab.async false
set_option linter.all false
set_option maxRecDepth 100000
set_option maxHeartbeats 4000000
/-! EG: enumerate, zip, star displays, min and max, three names at once. -/
namespace DL
open PySem L2
def dEnumQ (f : EF) : LF := dBind f fun d _ mu => match d with
  | .lst l => .ok (numD 0 l) mu
  | .tup l => .ok (numD 0 l) mu
  | _ => .bad
def zipD : List D → List D → List D
  | x :: xs, y :: ys => .tup [x, y] :: zipD xs ys
  | _, _ => []
def dZip (fa fb : EF) : LF := dBind fa fun x => dBind fb fun y _ mu => match x, y with
  | .lst l, .lst m => .ok (zipD l m) mu
  | .tup l, .tup m => .ok (zipD l m) mu
  | _, _ => .bad
section
variable {X : Cx} {cl : Nat → Addr} {W : WX} {n : En} {a b c e : PySem.Expr} {es : List PySem.Expr} {f fa fb fc : EF} {g : LF} {pos p1 sp : Pos}
theorem di_enumQ {elts : List PySem.Expr} {kk : Nat} {tpos : Pos} (hg : Gl X "enumerate") (hm : X.mg "enumerate" = none) (h : DE X cl W e f) (hs : starEach [e] X.env = [(false, eval e X.env)] := by rfl) : DI X cl W (.Tuple elts kk tpos) (.Call (.Name "enumerate" p1) [e] [] pos) (dEnumQ f) :=
  PI.imp (pi_enumA hg hm (pa_cons h pa_nil hs) hs) fun σ H R q => by
    obtain ⟨F, al, sl, mu, w, po⟩ := q
    refine seqG back_RI w po rfl fun v d F1 al1 mu1 H1 x1 w1 r1 po1 => ?_
    have key : ∀ {xs : List V} {ds : List D} {J : It}, RpL (Cx.th X cl) F1 al1 mu1.length xs ds → ∀ {G : Hp → Prop}, Walk J xs.length G (YPair (fun i => some (.int (i : Nat))) (fun i => xs[i]?)) →
        (∀ (F' H' : Hp), (∀ a o, F1 a = some o → F' a = some o) → (∀ a o, F' a = some o → H' a = some o) → G H') → RI (Cx.th X cl) H F1 al1 mu1 H1 J (numD 0 ds) := fun {xs ds J} hl {G} wk hG =>
      ⟨G, _, by rw [numD_len, ← RpL.len hl]; exact wk, hG, fun F' al' mu' H' i x H2 g m hi y => by
        obtain ⟨T, u, y', rfl, hT, rfl, e1, e2⟩ := y
        cases e1
        obtain ⟨d, h1, h2⟩ := gr_at g hl e2
        refine ⟨.tup [.int ((0 + i : Nat) : Int), d], _, by rw [numD_get, h1]; rfl, Ext.laidF m hT, .tup upd_same (.cons ?_ (.cons ((Ext.laidF m hT).rp h2) .nil))⟩
        rw [Nat.zero_add]
        exact .int _⟩
    cases r1 with
    | @lst a xs ds ha hl => exact ⟨a, xs, rfl, .inl ⟨SqL.of (w1.sub _ _ ha), Po.here po1 w1.toMus (key hl walk_enum fun F' H' s1 s2 => SqL.of (s2 _ _ (s1 _ _ ha)))⟩⟩
    | @tup a xs ds ha hl => exact ⟨a, xs, rfl, .inr ⟨sqT_mono w1.sub ha, Po.here po1 w1.toMus (key hl walk_enumT fun F' H' s1 s2 => sqT_mono s2 (s1 _ _ ha))⟩⟩
    | _ => exact False.elim po1
/-- the least -/
def leastI (i : Int) (is : List Int) : Int := is.foldl (fun a b => if b < a then b else a) i
def minLD : D → Option D
  | .lst l => match intsD l with
    | some (i :: is) => some (.int (leastI i is))
    | _ => none
  | _ => none
/-- a, b, c = x, y, z -/
def sPar3 (i j l : Nat) (fa fb fc : EF) : SF := fun sl mu => sbind (fa sl mu) sl fun d mu => sbind (fb sl mu) sl fun e mu => sbind (fc sl mu) sl fun h mu => .nx (((sl.set i (some (.val d))).set j (some (.val e))).set l (some (.val h))) mu
theorem ds_par3 {i j l : Nat} {x y z : Str} {px py pz pt : Pos} {kt k2 : Nat} {pt2 : Pos} (hc : X.calm = true) (hN : X.N.Nodup) (hi : X.N[i]? = some x) (hj : X.N[j]? = some y) (hl : X.N[l]? = some z) (hij : i ≠ j) (hil : i ≠ l) (hjl : j ≠ l)
    (hx : X.env.scope.names.lookup x = some .local) (hy : X.env.scope.names.lookup y = some .local) (hz : X.env.scope.names.lookup z = some .local) (ha : DE X cl W a fa) (hb : DE X cl W b fb) (hcc : DE X cl W c fc)
    (hst : starEach [a, b, c] X.env = (false, eval a X.env) :: starEach [b, c] X.env := by rfl) (hst2 : starEach [b, c] X.env = (false, eval b X.env) :: starEach [c] X.env := by rfl) (hst3 : starEach [c] X.env = (false, eval c X.env) :: starEach [] X.env := by rfl)
    (hw : swappedStores [.Tuple [.Name x px, .Name y py, .Name z pz] kt pt] (.Tuple [a, b, c] k2 pt2) X.env = pure (some [x, y, z]) := by rfl) (hs : swapsWithSole [.Tuple [.Name x px, .Name y py, .Name z pz] kt pt] (.Tuple [a, b, c] k2 pt2) pos.line X.env = pure false := by rfl) :
    DS X cl W n (.Assign [.Tuple [.Name x px, .Name y py, .Name z pz] kt pt] (.Tuple [a, b, c] k2 pt2) pos) (sPar3 i j l fa fb fc) :=
  PS.imp (L2.ps_par3 hc hN hi hj hl hij hil hjl hx hy hz (pa_cons ha (pa_cons hb (pa_cons hcc pa_nil hst3) hst2) hst) hw hs) fun Z σ H q => by
    obtain ⟨F, al, sl, mu, w, po⟩ := q
    refine seqS w po rfl fun v d F1 al1 mu1 H1 x1 w1 r1 po1 => ?_
    refine seqS w1 po1 rfl fun u e F2 al2 mu2 H2 x2 w2 r2 po2 => ?_
    refine seqS w2 po2 rfl fun t h F3 al3 mu3 H3 x3 w3 r3 po3 => ?_
    exact ⟨v, u, t, rfl, PoS.nx po3 (((w3.setVal (x3.rp (x2.rp r1))).setVal (x3.rp r2)).setVal r3)⟩
end
end DL
end

section
set_option Elab.async false
set_option linter.all false
set_option maxRecDepth 100000
set_option maxHeartbeats 4000000
/-! EH: the facts of own error classes, told by a Hook of their own. -/
namespace DL
open PySem PySem.W PyProof.Rows
/-! ### one error class: its __init__ -/
structure EDef where
  cls : Str
  qual : Str
  params : Arguments
  body : List Stmt
  scope : Scope
  ns : List Str
abbrev FnE : Type := Option (Str × Str × Arguments × FuncBody × Scope × Addr × List Str × Addr)
def iAd (K : Frag) (x : Str) : Addr := He.ma K (He.ga K x) "__init__"
def fnE (K : Frag) (x : Str) : FnE := match K.lookup (iAd K x) with
  | some ⟨_, _, .func fd, _⟩ => some (fd.name, fd.qualname, fd.params, fd.body, fd.scope, fd.globals, fd.closure.map (·.1), fd.builtins)
  | _ => none
def EDef.val (d : EDef) : FnE := some ("__init__", d.qual, d.params, .stmts d.body, d.scope, mainGlobals, ["__class__"], builtinsNs)
/-- the frame's bits: the code, the closure's cell -/
def initB (K : Frag) (d : EDef) (file : Str) : Bool := match K.lookup (iAd K d.cls) with
  | some ⟨_, _, .func fd, _⟩ => (match fd.code, fd.closure with
    | .ref cda, [(_, cc)] => codeIn K (.ref cda) d.qual && (match K.lookup cda with
        | some ⟨_, _, .fields vs, _⟩ => (match (vs[2]? : Option Value) with
          | some (Value.str z _) => file == z
          | _ => false)
        | _ => false) && (match K.lookup cc with
        | some ⟨_, _, .cell (some (.ref a)), _⟩ => a == He.ga K d.cls
        | _ => false) && (match fd.defaults with
        | .none => true
        | _ => false)
    | _, _ => false)
  | _ => false
structure InitF (K : Frag) (d : EDef) (file : Str) : Prop where
  ex : ∃ (cda cc : Addr) (kV doc pm ct oc : Value) (an od : Option Addr) (osl : Array (Option Value)),
    K.lookup (iAd K d.cls) = some ⟨oc, od, .func (ksFn "__init__" d.qual d.params d.body d.scope .none kV doc pm an (.ref cda) ct cc), osl⟩ ∧ codeIn K (.ref cda) d.qual = true ∧
    (∃ ccl cdd vs ccs z tf, K.lookup cda = some ⟨ccl, cdd, .fields vs, ccs⟩ ∧ vs[2]? = some (.str z tf) ∧ (file == z) = true) ∧ ∃ cl cld csl, K.lookup cc = some ⟨cl, cld, .cell (some (.ref (He.ga K d.cls))), csl⟩
theorem initF_of {K : Frag} {d : EDef} {file : Str} (e : fnE K d.cls = d.val) (c : initB K d file = true) : InitF K d file := by
  unfold fnE at e
  unfold initB at c
  cases q : K.lookup (iAd K d.cls) with
  | none => rw [q] at c; cases c
  | some o =>
    obtain ⟨oc, od, dt, osl⟩ := o
    rw [q] at c e
    cases dt with
    | func fd =>
      obtain ⟨n1, n2, n3, n4, n5, n6, n7, n8, n9, n10, n11, n12, n13, n14, n15⟩ := fd
      have e2 : (some (n1, n2, n3, n4, n5, n6, n7.map (·.1), n15) : FnE) = some (("__init__" : Str), d.qual, d.params, FuncBody.stmts d.body, d.scope, mainGlobals, [("__class__" : Str)], builtinsNs) := e
      simp only [Option.some.injEq, Prod.mk.injEq] at e2
      obtain ⟨h1, h2, h3, h4, h5, h6, h7, h8⟩ := e2
      subst h1 h2 h3 h4 h5 h6 h8
      dsimp only at c
      cases n13 with
      | ref cda =>
        obtain ⟨cc, rfl⟩ : ∃ cc, n7 = [(("__class__" : Str), cc)] := by
          cases n7 with
          | nil => cases h7
          | cons p r =>
            cases r with
            | nil =>
              obtain ⟨a, b⟩ := p
              simp at h7
              exact ⟨b, by rw [h7]⟩
            | cons _ _ => simp at h7
        dsimp only at c
        simp only [Bool.and_eq_true] at c
        obtain ⟨⟨⟨c1, c2⟩, c3⟩, c4⟩ := c
        cases n8 with
        | none =>
          refine ⟨cda, cc, n9, n10, n11, n14, oc, n12, od, osl, q, c1, ?_, ?_⟩
          · split at c2
            · rename_i vs _ hv
              split at c2
              · rename_i z _ hz
                exact ⟨_, _, vs, _, z, _, hv, hz, c2⟩
              · cases c2
            · cases c2
          · split at c3
            · rename_i a _ ha
              have : a = He.ga K d.cls := by simpa using c3
              subst this
              exact ⟨_, _, _, ha⟩
            · cases c3
        | _ => cases c4
      | _ => cases c
    | _ => cases c
/-! ### the class -/
def clsB (K : Frag) (C : Addr) : Bool := match K.lookup C with
  | some ⟨.type t, _, .cls cd, sl⟩ => (match cd.mro, sl.toList with
    | .ref C' :: bm, [_, _, _, _, some (.builtin n), _] => t == "type" && C' == C && n == "ValueError.__new__" && !cd.hasDel && cd.hasDict && HandSPX.refsVE bm
    | _, _ => false)
  | _ => false
def oexB (K : Frag) (C : Addr) : Bool := clsB K C && He.eqO (findIn K (.ref C) "__setattr__") (some (some (.builtin "object.__setattr__"))) && decide (subIn K (.ref C) (.type "BaseException") = some true) && decide (typeIn K (.ref C) = some (.type "type")) && keepIn K (.ref C)
theorem oexB_ok {K : Frag} {C : Addr} (h : oexB K C = true) : L2.OexC K C ∧ StoD K C := by
  unfold oexB at h
  simp only [Bool.and_eq_true] at h
  obtain ⟨⟨⟨⟨h1, h2⟩, h3⟩, h4⟩, h5⟩ := h
  have key : ∃ nm q N bs bm sn sub ab col dd k0 k1 k2 k3 k5, K.lookup C = some (excClassObj nm q C N bs bm true sn sub ab col dd k0 k1 k2 k3 k5 "ValueError.__new__") ∧ HandSPX.refsVE bm = true := by
    unfold clsB at h1
    split at h1
    · rename_i t dd cd sl ho
      split at h1
      · rename_i C' bm k0 k1 k2 k3 n k5 hm hs
        simp only [Bool.and_eq_true, beq_iff_eq, Bool.not_eq_true'] at h1
        obtain ⟨⟨⟨⟨⟨rfl, rfl⟩, rfl⟩, hdel⟩, hdict⟩, ht⟩ := h1
        obtain ⟨nm, bs, mro, ns, qn, hd, sn, sub, ab, col, del⟩ := cd
        dsimp only at hm hdel hdict
        subst hm hdel hdict
        have hsl : sl = #[k0, k1, k2, k3, some (.builtin "ValueError.__new__"), k5] := by
          obtain ⟨l⟩ := sl
          simp only at hs
          rw [hs]
        subst hsl
        exact ⟨nm, qn, ns, bs, bm, sn, sub, ab, col, dd, k0, k1, k2, k3, k5, ho, ht⟩
      · cases h1
    · cases h1
  refine ⟨⟨key, He.eqO_ok h2, of_decide_eq_true h3, of_decide_eq_true h4, h5⟩, ?_, He.eqO_ok h2⟩
  obtain ⟨nm, q, N, bs, bm, sn, sub, ab, col, dd, k0, k1, k2, k3, k5, ho, hb⟩ := key
  refine ⟨_, by unfold clsIn; rw [ho], ?_, rfl⟩
  exact hb
/-- the built-in __init__ that super() comes to -/
def supB (K : Frag) (C : Addr) : Bool := decide (nsIn K cStatics "thirdparty.any" = some none) && He.eqO (ks_superIn K C C "__init__") (some (some (.builtin "ValueError.__init__"))) && decide (subIn K (.ref C) (.type "ValueError") = some true) && excInitIn K C He.veBase "ValueError.__new__"
theorem supB_ok {K : Frag} {C : Addr} (h : supB K C = true) : SupB K C C "ValueError" "ValueError.__init__" "ValueError.__new__" He.veBase := by
  unfold supB at h
  simp only [Bool.and_eq_true] at h
  obtain ⟨⟨⟨h1, h2⟩, h3⟩, h4⟩ := h
  exact ⟨kxs_ValueError, F.excBase_ValueError, of_decide_eq_true h1, He.eqO_ok h2, of_decide_eq_true h3, h4⟩
/-- all of one error class -/
def errB (K : Frag) (d : EDef) (file : Str) : Bool := He.eqO (nsIn K mainGlobals d.cls) (some (some (.ref (He.ga K d.cls)))) && oexB K (He.ga K d.cls) && supB K (He.ga K d.cls) && initB K d file && He.eqO (findIn K (.ref (He.ga K d.cls)) "__init__") (some (some (.ref (iAd K d.cls)))) &&
  decide (typeIn K (.ref (iAd K d.cls)) = some (.type "function")) && decide (mroIn K (He.ga K d.cls) (.ref (He.ga K d.cls)) = some true) && (d.ns.all fun n => He.eqO (findIn K (.ref (He.ga K d.cls)) n) (some none))
/-- what a raise asks -/
structure Ge (P : Program) (w : World) (K : Frag) (mg : Str → Option Value) (base : Heap) (cl : Nat → Addr) (x : Str) (c : Nat) (ns : List Str) : Prop where
  ex : ∃ fI : Addr, L2.OexC K (cl c) ∧ findIn K (.ref (cl c)) "__init__" = some (some (.ref fI)) ∧ typeIn K (.ref fI) = some (.type "function") ∧ InitOk P w K mg base (cl c) fI ns ∧ mg x = some (.ref (cl c))
/-! ### the Hook -/
abbrev AlE : Type := He.AlX × List FnE
def asE (g : Addr → Option Obj) (n : Nat) : List Addr := He.asD g n ++ [cStatics]
def obsE (n : Nat) (fa : List He.Fa) (fn : List He.DefD) (es : List EDef) (tf : List He.Defn) (ex : Frag → Bool) (g : Addr → Option Obj) : AlE :=
  ((He.obsT fa fn [] (He.frT g (asE g n)), ex (He.frT g (asE g n)) && He.tabsB g tf (He.frT g (asE g n))), es.map fun d => fnE (He.frT g (asE g n)) d.cls)
def valE (fn : List He.DefD) (es : List EDef) (w : World) : AlE := ((He.valT fn [] w, true), es.map EDef.val)
structure SaysE (fa : List He.Fa) (fn : List He.DefD) (es : List EDef) (tf : List He.Defn) (ex : Frag → Bool) (w : World) (h : Heap) (K : Frag) : Prop where
  t : He.SaysT fa fn [] w K
  more : ex K = true
  er : es.map (fun d => fnE K d.cls) = es.map EDef.val
  hd : ∀ p ∈ tf, codeHdIn K (He.cT K p).1 (He.cT K p).2 = true
  out : ∀ p ∈ tf, K.lookup (He.cT K p).2 = none
  empty : ∀ p ∈ tf, h.get? (He.cT K p).2 = some { cls := .none, data := .fields #[] }
theorem saysE_of {n : Nat} {fa : List He.Fa} {fn : List He.DefD} {es : List EDef} {tf : List He.Defn} {ex : Frag → Bool} {w : World} {h : Heap} (e : obsE n fa fn es tf ex h.get? = valE fn es w) : SaysE fa fn es tf ex w h (He.frT h.get? (asE h.get? n)) := by
  have e1 := congrArg (fun z : AlE => z.1.2) e
  have e2 : (ex (He.frT h.get? (asE h.get? n)) && He.tabsB h.get? tf (He.frT h.get? (asE h.get? n))) = true := e1
  rw [Bool.and_eq_true] at e2
  have each : ∀ p ∈ tf, codeHdIn (He.frT h.get? (asE h.get? n)) (He.cT (He.frT h.get? (asE h.get? n)) p).1 (He.cT (He.frT h.get? (asE h.get? n)) p).2 = true ∧ ∃ o, h.get? (He.cT (He.frT h.get? (asE h.get? n)) p).2 = some o ∧ He.emptyTab o = true := fun p hp => by
    have h1 := List.all_eq_true.mp e2.2 p hp
    rw [Bool.and_eq_true] at h1
    refine ⟨h1.1, ?_⟩
    have h2 := h1.2
    split at h2
    · rename_i o q
      exact ⟨o, q, h2⟩
    · cases h2
  refine ⟨congrArg (fun z : AlE => z.1.1) e, e2.1, congrArg (fun z : AlE => z.2) e, fun p hp => (each p hp).1, fun p hp => ?_, fun p hp => ?_⟩
  · obtain ⟨_, o, q, z⟩ := each p hp
    exact He.frT_none q z
  · obtain ⟨_, o, q, z⟩ := each p hp
    rw [q, He.emptyTab_eq z]
def hookE (n : Nat) (fa : List He.Fa) (fn : List He.DefD) (es : List EDef) (tf : List He.Defn) (ex : Frag → Bool) : Hook where
  α := AlE
  obs := fun s => obsE n fa fn es tf ex s.heap.get?
  val := fun w => valE fn es w
  says := fun w h => ∃ K : Frag, K.In h ∧ SaysE fa fn es tf ex w h K
  of := fun _ _ e => ⟨_, He.frT_in, saysE_of e⟩
  keeps := fun _ _ _ ⟨K, hK, c⟩ k => ⟨K, Frag.In.keeps hK k, ⟨c.t, c.more, c.er, c.hd, c.out, fun p hp => k _ _ (c.empty p hp)⟩⟩
theorem obsE_eq {n : Nat} {fa : List He.Fa} {fn : List He.DefD} {es : List EDef} {tf : List He.Defn} {ex : Frag → Bool} {g : Addr → Option Obj} {s : Shared} (h : ∀ a, g a = s.heap.get? a) : obsE n fa fn es tf ex g = (hookE n fa fn es tf ex).obs s := by
  have e : g = s.heap.get? := funext h
  rw [e] <;> rfl
theorem SaysE.err {fa : List He.Fa} {fn : List He.DefD} {es : List EDef} {tf : List He.Defn} {ex : Frag → Bool} {w : World} {h : Heap} {K : Frag} (c : SaysE fa fn es tf ex w h K) (i : Nat) {d : EDef} (hi : es[i]? = some d := by rfl) : fnE K d.cls = d.val := by
  have e2 : (es.map fun d => fnE K d.cls)[i]? = (es.map EDef.val)[i]? := by rw [c.er]
  rw [List.getElem?_map, List.getElem?_map, hi] at e2
  exact Option.some.inj e2
/-! ### the rule of raise -/
section
open L2
variable {X : Cx} {cl : Nat → Addr} {W : WX} {n : En} {e : PySem.Expr} {es : List PySem.Expr} {pos p1 pos' : Pos} {x : Str} {c k : Nat} {ns : List Str} {g : LF}
theorem ds_raise (G : Ge X.prog X.w X.K X.mg X.base cl x c ns) (hc : X.calm = true) (tk : Takes X W) (hr : Room (k + 1) X.A) (hg : Gl X x) (ha : DAs X cl W (e :: es) g)
    (hdb : (x == ("__debug__" : Str)) = false := by decide) (he : starEach (e :: es) X.env = (false, eval e X.env) :: starEach es X.env := by rfl) (hpl : (backTo pos (starEach es X.env)).any (·.1) = false := by rfl) :
    DS X cl W n (.Raise (some (.Call (.Name x p1) (e :: es) [] pos)) none pos') (sRaise c ns g) := by
  obtain ⟨fI, T, iC, tI, IO, hm⟩ := G.ex
  exact ds_raise0 hc tk rfl (pmk_err T iC tI IO hr hg hm ha hdb he hpl)
end
end DL
end

section
set_option Elab.async false
set_option linter.all false
set_option maxRecDepth 100000
set_option maxHeartbeats 4000000
/-! EI: from the facts of an error class to what its raise asks. -/
namespace DL
open PySem PySem.W PyProof.Rows
section
variable {P : Program} {w : World} {K : Frag} {mg : Str → Option Value} {base : Heap} {cl : Nat → Addr} {c : Nat} {x qual me : Str} {params : Arguments} {scope : Scope}
/-- the scope's bits -/
structure ScE (scope : Scope) (params : Arguments) (me : Str) : Prop where
  cell : ∀ y ∈ scope.names, y.2 ≠ .cell
  co : scope.isCoroutine = false
  gen : scope.isGenerator = false
  kind : scope.kind = .function
  nsup : scope.names.lookup ("super" : Str) = some .globalImplicit
  ncls : scope.names.lookup ("__class__" : Str) = some .free
  nself : scope.names.lookup me = some .local
  par : ∃ ar, (params.posonlyargs ++ params.args).head? = some ar ∧ ar.arg = me
theorem errB_ok {d : EDef} {file : Str} (b : errB K d file = true) : L2.OexC K (He.ga K d.cls) ∧ StoD K (He.ga K d.cls) ∧ SupB K (He.ga K d.cls) (He.ga K d.cls) "ValueError" "ValueError.__init__" "ValueError.__new__" He.veBase ∧ initB K d file = true ∧
    findIn K (.ref (He.ga K d.cls)) "__init__" = some (some (.ref (iAd K d.cls))) ∧ typeIn K (.ref (iAd K d.cls)) = some (.type "function") ∧ mroIn K (He.ga K d.cls) (.ref (He.ga K d.cls)) = some true ∧ (∀ n ∈ d.ns, findIn K (.ref (He.ga K d.cls)) n = some none) ∧ nsIn K mainGlobals d.cls = some (some (.ref (He.ga K d.cls))) := by
  unfold errB at b
  simp only [Bool.and_eq_true] at b
  obtain ⟨⟨⟨⟨⟨⟨⟨b0, b1⟩, b2⟩, b3⟩, b4⟩, b5⟩, b6⟩, b7⟩ := b
  obtain ⟨o1, o2⟩ := oexB_ok b1
  exact ⟨o1, o2, supB_ok b2, b3, He.eqO_ok b4, of_decide_eq_true b5, of_decide_eq_true b6, fun n hn => He.eqO_ok (List.all_eq_true.mp b7 n hn), He.eqO_ok b0⟩
theorem supD_of {d : EDef} {file : Str} {me : Str} {f cc cda : Addr} {kV doc pm ct oc : Value} {an od : Option Addr} {osl : Array (Option Value)} {b : List Stmt} (hfile : P.main.file = file) (SC : ScE scope params me) (hmro : mroIn K (He.ga K x) (.ref (He.ga K x)) = some true) (hsup : mg "super" = none) (htop : (P.main.scope.names.lookup ("super" : Str)).isSome = false) (O : L2.OexC K (He.ga K x))
    (lk : K.lookup f = some ⟨oc, od, .func (ksFn "__init__" qual params b scope .none kV doc pm an (.ref cda) ct cc), osl⟩)
    (hc : ∃ ccl cdd vs ccs z tf, K.lookup cda = some ⟨ccl, cdd, .fields vs, ccs⟩ ∧ vs[2]? = some (.str z tf) ∧ (file == z) = true) (hcell : ∃ cl cld csl, K.lookup cc = some ⟨cl, cld, .cell (some (.ref (He.ga K x))), csl⟩) :
    SupD P K mg (He.ga K x) (He.ga K x) f cc cda (ksFn "__init__" qual params b scope .none kV doc pm an (.ref cda) ct cc) scope me := by
  refine ⟨⟨_, _, _, lk⟩, SC.par, ?_, hcell, ?_, hmro, hsup, SC.nsup, SC.ncls, SC.nself, SC.kind, htop⟩
  · obtain ⟨a1, a2, a3, a4, a5, a6, a7, a8, a9⟩ := hc
    exact ⟨a1, a2, a3, a4, a5, a6, a7, a8, by rw [hfile]; exact a9⟩
  · obtain ⟨nm, q, N, bs, bm, sn, sub, ab, col, dd, k0, k1, k2, k3, k5, ho, hb⟩ := O.cls
    exact ⟨_, by unfold clsIn; rw [ho]⟩
theorem ge1 {a nm : Str} {p0 p1 ap pc pe q1 q2 q3 q4 q5 : Pos} {pl : Sem Bool} {file : Str} (hfile : P.main.file = file)
    (e : fnE K x = (EDef.mk x qual params [.Expr (.Call (.Attribute (.Call (.Name "super" p0) [] [] p1) "__init__" ap) [.Name a q1] [] pc) pe, .Assign [.Attribute (.Name me q2) nm q3] (.Name a q4) q5] scope [nm]).val)
    (b : errB K (EDef.mk x qual params [.Expr (.Call (.Attribute (.Call (.Name "super" p0) [] [] p1) "__init__" ap) [.Name a q1] [] pc) pe, .Assign [.Attribute (.Name me q2) nm q3] (.Name a q4) q5] scope [nm]) file = true) (hcl : cl c = He.ga K x) (hmg : mg x = some (.ref (He.ga K x))) (hsup : mg "super" = none) (htop : (P.main.scope.names.lookup ("super" : Str)).isSome = false) (SC : ScE scope params me)
    (hbind : ∀ (kV doc pm ct : Value) (an : Option Addr) (cda cc : Addr) (u v : Value), bindArgs (ksFn "__init__" qual params [.Expr (.Call (.Attribute (.Call (.Name "super" p0) [] [] p1) "__init__" ap) [.Name a q1] [] pc) pe, .Assign [.Attribute (.Name me q2) nm q3] (.Name a q4) q5] scope .none kV doc pm an (.ref cda) ct cc) ⟨[u, v], []⟩ = pure [(me, u), (a, v)])
    (la : scope.names.lookup a = some .local) (ham : a ≠ me) (da : (a == ("__debug__" : Str)) = false) (dm : (me == ("__debug__" : Str)) = false)
    (hev : ∀ f cda cc L, eval (.Call (.Attribute (.Call (.Name "super" p0) [] [] p1) "__init__" ap) [.Name a q1] [] pc) (ksEnv qual scope L f (.ref cda) cc) = (do
      let ov ← attributeBase (.Call (.Name "super" p0) [] [] p1) "__init__" (ksEnv qual scope L f (.ref cda) cc) (eval (.Call (.Name "super" p0) [] [] p1) (ksEnv qual scope L f (.ref cda) cc))
      standAt ap.atName
      let (g, first) ← holding [ov] (getMethod ov "__init__" pl)
      callWith pc g first (backTo pc (starEach [.Name a q1] (ksEnv qual scope L f (.ref cda) cc))) []))
    (hst : ∀ f cda cc L, starEach [.Name a q1] (ksEnv qual scope L f (.ref cda) cc) = [(false, eval (.Name a q1) (ksEnv qual scope L f (.ref cda) cc))])
    (hin : ∀ f cda cc L, interactive (ksEnv qual scope L f (.ref cda) cc) = false)
    (hs1 : ∀ f cda cc L, swapsWith (.Call (.Attribute (.Call (.Name "super" p0) [] [] p1) "__init__" ap) [.Name a q1] [] pc) none pe.line (ksEnv qual scope L f (.ref cda) cc) = pure false)
    (hs2 : ∀ f cda cc L, swapsWith (.Name a q4) (some (.Attribute (.Name me q2) nm q3)) q5.line (ksEnv qual scope L f (.ref cda) cc) = pure false) :
    Ge P w K mg base cl x c [nm] := by
  obtain ⟨O, D, SB, b3, iC, tI, hmro, hns, _⟩ := errB_ok b
  obtain ⟨cda, cc, kV, doc, pm, ct, oc, an, od, osl, lk, hcd, hc, hcell⟩ := (initF_of e b3).ex
  refine ⟨iAd K x, by rw [hcl]; exact O, by rw [hcl]; exact iC, tI, ?_, by rw [hcl]; exact hmg⟩
  rw [hcl]
  exact init1_ok ⟨lk, hcd, SC.cell, SC.co, SC.gen, SC.kind⟩ (supD_of (d := EDef.mk x qual params [] scope []) hfile SC hmro hsup htop O lk hc hcell) SB D (fun s y u => BindsTo.of_eq (hbind _ _ _ _ _ _ _ _ _)) la ham da dm (hns nm List.mem_cons_self) (hev _ _ _) (hst _ _ _) (hin _ _ _) (hs1 _ _ _) (hs2 _ _ _)
theorem ge2 {a b' nm nm2 : Str} {p0 p1 ap pc pe q1 q2 q3 q4 q5 r1 r2 r3 r4 r5 : Pos} {pl : Sem Bool} {file : Str} (hfile : P.main.file = file)
    (e : fnE K x = (EDef.mk x qual params [.Expr (.Call (.Attribute (.Call (.Name "super" p0) [] [] p1) "__init__" ap) [.Name a q1, .Name b' r1] [] pc) pe, .Assign [.Attribute (.Name me q2) nm q3] (.Name a q4) q5, .Assign [.Attribute (.Name me r2) nm2 r3] (.Name b' r4) r5] scope [nm, nm2]).val)
    (b : errB K (EDef.mk x qual params [.Expr (.Call (.Attribute (.Call (.Name "super" p0) [] [] p1) "__init__" ap) [.Name a q1, .Name b' r1] [] pc) pe, .Assign [.Attribute (.Name me q2) nm q3] (.Name a q4) q5, .Assign [.Attribute (.Name me r2) nm2 r3] (.Name b' r4) r5] scope [nm, nm2]) file = true) (hcl : cl c = He.ga K x) (hmg : mg x = some (.ref (He.ga K x))) (hsup : mg "super" = none) (htop : (P.main.scope.names.lookup ("super" : Str)).isSome = false) (SC : ScE scope params me)
    (hbind : ∀ (kV doc pm ct : Value) (an : Option Addr) (cda cc : Addr) (u v t : Value), bindArgs (ksFn "__init__" qual params [.Expr (.Call (.Attribute (.Call (.Name "super" p0) [] [] p1) "__init__" ap) [.Name a q1, .Name b' r1] [] pc) pe, .Assign [.Attribute (.Name me q2) nm q3] (.Name a q4) q5, .Assign [.Attribute (.Name me r2) nm2 r3] (.Name b' r4) r5] scope .none kV doc pm an (.ref cda) ct cc) ⟨[u, v, t], []⟩ = pure [(me, u), (a, v), (b', t)])
    (la : scope.names.lookup a = some .local) (ham : a ≠ me) (da : (a == ("__debug__" : Str)) = false) (dm : (me == ("__debug__" : Str)) = false)
    (lb : scope.names.lookup b' = some .local) (hbm : b' ≠ me) (hba : b' ≠ a) (db : (b' == ("__debug__" : Str)) = false) (hnn : nm ≠ nm2)
    (hev : ∀ f cda cc L, eval (.Call (.Attribute (.Call (.Name "super" p0) [] [] p1) "__init__" ap) [.Name a q1, .Name b' r1] [] pc) (ksEnv qual scope L f (.ref cda) cc) = (do
      let ov ← attributeBase (.Call (.Name "super" p0) [] [] p1) "__init__" (ksEnv qual scope L f (.ref cda) cc) (eval (.Call (.Name "super" p0) [] [] p1) (ksEnv qual scope L f (.ref cda) cc))
      standAt ap.atName
      let (g, first) ← holding [ov] (getMethod ov "__init__" pl)
      callWith pc g first (backTo pc (starEach [.Name a q1, .Name b' r1] (ksEnv qual scope L f (.ref cda) cc))) []))
    (hst : ∀ f cda cc L, starEach [.Name a q1, .Name b' r1] (ksEnv qual scope L f (.ref cda) cc) = (false, eval (.Name a q1) (ksEnv qual scope L f (.ref cda) cc)) :: starEach [.Name b' r1] (ksEnv qual scope L f (.ref cda) cc))
    (hst2 : ∀ f cda cc L, starEach [.Name b' r1] (ksEnv qual scope L f (.ref cda) cc) = [(false, eval (.Name b' r1) (ksEnv qual scope L f (.ref cda) cc))])
    (hin : ∀ f cda cc L, interactive (ksEnv qual scope L f (.ref cda) cc) = false)
    (hs1 : ∀ f cda cc L, swapsWith (.Call (.Attribute (.Call (.Name "super" p0) [] [] p1) "__init__" ap) [.Name a q1, .Name b' r1] [] pc) none pe.line (ksEnv qual scope L f (.ref cda) cc) = pure false)
    (hs2 : ∀ f cda cc L, swapsWith (.Name a q4) (some (.Attribute (.Name me q2) nm q3)) q5.line (ksEnv qual scope L f (.ref cda) cc) = pure false)
    (hs3 : ∀ f cda cc L, swapsWith (.Name b' r4) (some (.Attribute (.Name me r2) nm2 r3)) r5.line (ksEnv qual scope L f (.ref cda) cc) = pure false) :
    Ge P w K mg base cl x c [nm, nm2] := by
  obtain ⟨O, D, SB, b3, iC, tI, hmro, hns, _⟩ := errB_ok b
  obtain ⟨cda, cc, kV, doc, pm, ct, oc, an, od, osl, lk, hcd, hc, hcell⟩ := (initF_of e b3).ex
  refine ⟨iAd K x, by rw [hcl]; exact O, by rw [hcl]; exact iC, tI, ?_, by rw [hcl]; exact hmg⟩
  rw [hcl]
  exact init2_ok ⟨lk, hcd, SC.cell, SC.co, SC.gen, SC.kind⟩ (supD_of (d := EDef.mk x qual params [] scope []) hfile SC hmro hsup htop O lk hc hcell) SB D (fun s y u v => BindsTo.of_eq (hbind _ _ _ _ _ _ _ _ _ _)) la ham da dm (hns nm List.mem_cons_self) lb hbm hba db hnn (hns nm2 (List.mem_cons_of_mem _ List.mem_cons_self)) (hev _ _ _) (hst _ _ _) (hst2 _ _ _) (hin _ _ _) (hs1 _ _ _) (hs2 _ _ _) (hs3 _ _ _)
end
end DL
end

section
set_option Elab.async false
set_option linter.all false
set_option maxRecDepth 100000
set_option maxHeartbeats 4000000
/-! EJ: list(range(n)); a slot's object frozen ahead of a statement. -/
namespace DL
open PySem L2
def dLstRg (f : EF) : NF := dBind f fun d _ mu => match d with
  | .int j => if (rgOk j && decide (j ≤ 16000000)) = true then .ok (.lst (rangeD 0 j.toNat)) mu else .bad
  | _ => .bad
section
variable {X : Cx} {cl : Nat → Addr} {W : WX} {n : En} {a b c e : PySem.Expr} {st : PySem.Stmt} {s : SF} {es : List PySem.Expr} {f fa fb fc : EF} {g : LF} {pos p1 p2 sp pos2 : Pos}
end
end DL
end

section
set_option Elab.async false
set_option linter.all false
set_option maxRecDepth 100000
set_option maxHeartbeats 4000000
namespace DL
open PySem L2
/-! EK: a lambda handed to a def that tries it. -/
/-- which class is met by which clause -/
def ExM (K : PySem.W.Frag) (cl : Nat → Addr) (cs : List Nat) (hs : List Nat) : Prop := ∀ c ∈ cs, ∀ h ∈ hs, PySem.W.exmOne K (.ref (cl c)) (.ref (cl h)) = some (decide (c = h))
def wStr (K : PySem.W.Frag) (Q : VK) : List (Value × Str) → Value → Hp → Prop
  | [], _, _ => False
  | (c, x) :: r, cls, H => ∃ b, PySem.W.exmOne K cls c = some b ∧ (b = true → Q (.str x) H) ∧ (b = false → wStr K Q r cls H)
def TStr (K : PySem.W.Frag) (hs : List (Value × Str)) : (XK → Hp → VK → Prop) → Hp → VK → Prop := fun tl H Q => tl (fun cls _ H' => wStr K Q hs cls H') H Q
/-- the clauses: except x: return a text -/
inductive HdsStr (X : Cx) : List ExceptHandler → List (Value × Str) → Prop
  | nil : HdsStr X [] []
  | cons {x z : Str} {c : Value} {j : Nat} {p1 p2 p3 p4 : Pos} {hds : List ExceptHandler} {l : List (Value × Str)} (hc : Names X x c) (r : HdsStr X hds l) :
      HdsStr X (.ExceptHandler (some (.Name x p1)) none [.Return (some (.Constant (.str z) j p2)) p3] p4 :: hds) ((c, z) :: l)
theorem HdsStr.ok {X : Cx} {hds : List ExceptHandler} {l : List (Value × Str)} (h : HdsStr X hds l) : HdsOk X hds (l.map fun p => (p.1, fun _ _ _ D σ H => D.rt (.str p.2) H)) := by
  induction h with
  | nil => exact .nil
  | cons hc r ih => exact .cons hc (fun a oe cls d pn _ _ => pss_one (ps_ret pe_str)) ih
end DL
end

section
set_option Elab.async false
set_option linter.all false
set_option maxRecDepth 100000
set_option maxHeartbeats 4000000
/-! EL: defs that make lambdas, defs that try them, a law's promise with tables. -/
namespace DL
open PySem PySem.Spec PyProof.Rows L2
section
variable {P : Program} {w : World} {K : PySem.W.Frag} {mg : Str → Option Value} {base : Heap} {cl : Nat → Addr}
end
/-- a def that tries the lambda that it gets -/
structure Gt (P : Program) (w : World) (K : PySem.W.Frag) (mg : Str → Option Value) (base : Heap) (cl : Nat → Addr) (cs : List Nat) (hs : List (Nat × Str)) (x : Str) : Prop where
  ex : ∃ (g : Addr) (a : Str) (pg : Arguments) (bg : List Stmt) (sg : Scope) (dV kV doc pm cdv ct oc : Value) (an od : Option Addr) (osl : Array (Option Value)) (Ng : List Str),
    mg x = some (.ref g) ∧ PySem.W.keepIn K (.ref g) = true ∧ K.lookup g = some ⟨oc, od, .func (PySem.W.fnOf x x pg bg sg dV kV doc pm an cdv ct), osl⟩ ∧ PySem.W.codeIn K cdv x = true ∧ L2.Binds K (PySem.W.fnOf x x pg bg sg dV kV doc pm an cdv ct) [a] [] ∧
    FnScope Ng [a] sg ∧ Ng[0]? = some a ∧ Vis sg a ∧ (a == ("__debug__" : Str)) = false ∧ (a == ("__classdict__" : Str)) = false ∧
    ∀ X : Cx, X.prog = P → X.w = w → X.K = K → X.mg = mg → X.base = base → ∀ q, LamX.GivesTo X Ng x sg g cdv bg a q (TStr X.K (hs.map fun p => (.ref (cl p.1), p.2)))
  m : ExM K cl cs (hs.map (·.1))
/-- what a maker of lambdas asks: its table's number, its table -/
structure Tb (base : Heap) (mg : Str → Option Value) (cl : Nat → Addr) (i : Nat) (c : Addr) : Prop where
  lt : i < 3
  ne : cl (2000 + i) ≠ 0
  out : ∀ j, 3 ≤ j → cl (2000 + j) = 0
  dis : ∀ j, j < 3 → cl (2000 + j) ≠ 0 → cl (2000 + j) = cl (2000 + i) → j = i
  tb : LamX.TabB base mg c (cl (2000 + i))
section
variable {P : Program} {w : World} {K : PySem.W.Frag} {mg : Str → Option Value} {base : Heap} {cl : Nat → Addr}
end
/-! ### a law's promise -/
def spLaw (K : PySem.W.Frag) (ts : List Addr) : Sp := fun vs H Q _ => ∃ (a : Addr) (ns : List Int), ns.length ≤ 63 ∧ vs = [.ref a] ∧ (∀ p ∈ ts, H p = some (.tbl #[])) ∧ SqL K H a (ns.map V.int) ∧ ∀ H', Q (.bl true) H'
theorem rpL_ints {T : Th} {F : Hp} {al : Nat → Addr} {n : Nat} : ∀ ns : List Int, RpL T F al n (ns.map V.int) (ns.map D.int)
  | [] => .nil
  | _ :: ns => .cons (.int _) (rpL_ints ns)
theorem sp_law {K : PySem.W.Frag} {cl : Nat → Addr} {ts : List Addr} (ht : ∀ i, cl (2000 + i) ≠ 0 → cl (2000 + i) ∈ ts) {p : FF} (hp : ∀ ns : List Int, ns.length ≤ 63 → ∃ mu, p [.frl (ns.map D.int)] [] = .ok (.bl true) mu) (vs : List V) (H : Hp) (Q : VK) (E : XK) (h : spLaw K ts vs H Q E) : spD ⟨K, cl⟩ 1 p vs H Q E := by
  obtain ⟨a, ns, hl, rfl, hts, hS, hQ⟩ := h
  obtain ⟨mu, e⟩ := hp ns hl
  have key : ∀ F : Hp, (∀ b o, F b = some o → H b = some o) → (∀ b o, F b = some o → ∀ ps, o ≠ .tbl ps) → SqL K F a (ns.map V.int) → spD ⟨K, cl⟩ 1 p [V.ref a] H Q E := fun F h1 h2 h3 => by
    refine ⟨F, fun _ => 0, [], [.frl (ns.map D.int)], ⟨h1, fun k m h => by simp at h, fun k m k' m' h => by simp at h, fun i hi => LamX.TabS.nil (hts _ (ht i hi)), h2⟩, .cons (.frl h3 (rpL_ints ns)) .nil, rfl, ?_⟩
    rw [e]
    intro v F1 al1 H1 x r
    cases r
    exact hQ H1
  rcases hS with (h | ⟨o, h⟩) | h
  · refine key (fun b => if b = a then some (.lst (ns.map V.int)) else none) (fun b o q => ?_) (fun b o q ps z => ?_) (.inl (.inl (if_pos rfl)))
    · split at q
      · rename_i hb; rw [hb, h]; exact q
      · cases q
    · split at q
      · cases q; cases z
      · cases q
  · refine key (fun b => if b = a then H b else none) (fun b o q => ?_) (fun b o q ps z => ?_) (.inl (.inr ⟨o, (if_pos rfl).trans h⟩))
    · split at q
      · exact q
      · cases q
    · split at q
      · rename_i hb
        rw [hb, h] at q
        cases q; cases z
      · cases q
  · exact key (fun _ => none) (fun _ _ q => by cases q) (fun _ _ q => by cases q) (.inr h)
theorem fn_cx0 {P : Program} {w : World} {K : PySem.W.Frag} {mg : Str → Option Value} {base : Heap} {k : Nat} {f : Addr} {fd : FuncData} {ps : List Str} {sp : Sp} (F : FnOk P w K mg base (L2.CX P w) k f fd ps sp) (h : ∀ vs H Q E, sp vs H Q E → sp vs H Q E0) : FnOk P w K mg base CX0 k f fd ps sp :=
  ⟨F.len, fun A outer s H args us vs Q E hr he hb hv hs => codeAny_mono (F.run A outer s H args us vs Q E0 hr he hb hv (h _ _ _ _ hs)) fun r s' q => by
    cases r with
    | error e =>
      obtain ⟨_, _, _, _, _, _, _, _, _, _, _, _, hE⟩ := q
      exact hE.elim
    | ok fl => cases fl <;> exact q⟩
end DL
end

section
set_option Elab.async false
set_option linter.all false
set_option maxRecDepth 100000
set_option maxHeartbeats 4000000
/-! EM: truth values as numbers, str(..), repr(..), an empty dict, lists put together as a new one. -/
namespace DL
open PySem PySem.Spec PyProof.Rows L2
section
variable {X : Cx} {cl : Nat → Addr} {W : WX} {a b e : PySem.Expr} {f fa fb : EF} {pos p1 : Pos}
def dDct0 : EF := fun _ mu => .ok (.dct []) mu
theorem de_dct0 : DE X cl W (.Dict [] [] pos) dDct0 := PE.imp pe_dnewK fun σ H Q q => by
  obtain ⟨F, al, sl, mu, w, po⟩ := q
  exact fun p hp => po _ _ _ _ (Ext.laidF w.toMus (o := .dK []) hp) (.dct upd_same)
/-! ### a new list of two -/
end
end DL
end

section
set_option Elab.async false
set_option linter.all false
set_option maxRecDepth 100000
set_option maxHeartbeats 4000000
/-! EN: an object of the store beside data, ==, !=. -/
namespace DL
open PySem PySem.Spec PyProof.Rows
open L2 hiding St
section
variable {X : Cx} {cl : Nat → Addr} {W : WX} {a b e : PySem.Expr} {f fa fb : EF} {pos p1 : Pos}
theorem Top.dp {T : Th} {F : Hp} {al : Nat → Addr} {mu : Store} {H : Hp} (m : Mus T F al mu H) {v : V} {d : D} (t : Top T F al mu.length H v d) {p : PyData} (h : toP d = some p) : Dp T.K H v p := by
  cases d with
  | lst l =>
    obtain ⟨a, xs, rfl, h1, h2⟩ := t
    unfold toP at h
    split at h
    · rename_i ps e
      cases h
      exact .lst (SqL.of h1) (RpL.dp m.sub h2 e)
    · cases h
  | ins c fs => cases h
  | _ => exact Rp.dp m.sub (show Rp _ _ _ _ _ _ from t) h
end
end DL
end

section
set_option Elab.async false
set_option linter.all false
set_option maxRecDepth 100000
set_option maxHeartbeats 4000000
/-! EO: is not True as a test; comprehensions with two for. -/
namespace DL
open PySem PySem.Spec PyProof.Rows
open L2 hiding St
section
variable {X : Cx} {cl : Nat → Addr} {W : WX} {a b e : PySem.Expr} {f fa fb : EF} {pos p1 : Pos}
end
/-! ### two for -/
def noOwn (sl : Sl) : Bool := sl.all fun s => match s with
  | some (.own _) => false
  | _ => true
section
variable {T : Th} {F H : Hp} {al : Nat → Addr} {mu : Store} {sl : Sl} {σ : L2.St}
theorem Mus.aside (M : Mus T F al mu H) {a : Addr} {o u0 : HO} (hF : F a = none) (hm : ∀ k m, mu[k]? = some (some m) → al k ≠ a) (hu : H a = some u0) (hn : NoTab u0) : Mus T F al mu (upd H a o) :=
  ⟨fun b u q => by rw [upd_ne (ne_of_none q hF)]; exact M.sub b u q, fun k m q => by
    obtain ⟨g1, u, g2, g3⟩ := M.at_ k m q
    exact ⟨g1, u, by rw [upd_ne (hm k m q)]; exact g2, g3⟩, M.inj, fun i z => tab_upd (.inr ⟨_, hu, hn⟩) (M.tab i z), M.nt⟩
theorem noOwn_no (h : noOwn sl = true) {i : Nat} {m : MO} (e : sl[i]? = some (some (SV.own m))) : False := by
  have := List.all_eq_true.mp h _ (List.mem_of_getElem? e)
  cases this
theorem Wd.aside (w : Wd T F al sl mu σ H) (h : noOwn sl = true) {a : Addr} {o u0 : HO} (hF : F a = none) (hm : ∀ k m, mu[k]? = some (some m) → al k ≠ a) (hu : H a = some u0) (hn : NoTab u0) : Wd T F al sl mu σ (upd H a o) :=
  ⟨w.toMus.aside hF hm hu hn, w.len, w.val, fun i m e => (noOwn_no h e).elim, fun i j m m' b _ e _ _ _ => noOwn_no h e⟩
end
section
variable {g g1 : Tg} {c c1 : BF} {f : EF} {src1 : LF}
end
end DL
end

section
set_option Elab.async false
set_option linter.all false
set_option maxRecDepth 100000
set_option maxHeartbeats 4000000
/-! EP: a list and the empty list compared, whatever stands within. -/
namespace DL
open PySem L2
def eqE : D → D → Option Bool
  | .lst l, .lst [] => some l.isEmpty
  | d, e => eqD d e
def neE (d e : D) : Option Bool := (eqE d e).map (!·)
section
variable {X : Cx} {cl : Nat → Addr} {W : WX} {a b e : PySem.Expr} {f fa fb : EF} {pos p1 : Pos} {x : Str}
end
end DL
end

section
set_option Elab.async false
set_option linter.all false
set_option maxRecDepth 100000
set_option maxHeartbeats 4000000
/-! EQ: try with several clauses, some of them with a name. -/
namespace DL
open PySem PySem.Spec PyProof.Rows L2
abbrev CTS := Addr → Value → Option Addr → TS
/-- the ends of a suite whose name's slot is i: the name is gone behind it -/
def Ends.gone (Z : Ends) (i : Nat) : Ends := { nx := fun σ H => Z.nx (σ.set i none) H, rt := Z.rt, bk := fun σ H => Z.bk (σ.set i none) H, ct := fun σ H => Z.ct (σ.set i none) H }
/-- what clauses wish, one behind another -/
def wCl (K : PySem.W.Frag) (up : WX) (Z : Ends) : List (Value × Option Nat × CTS) → WX
  | [] => up
  | (c, o, ts) :: more => fun kl dd σ H => ∃ yes, PySem.W.exmOne K kl c = some yes ∧ (yes = false → wCl K up Z more kl dd σ H) ∧
      (yes = true → ∀ ea, H ea = none → match o with
        | none => ts ea kl dd Z σ H
        | some i => i < σ.length → ts ea kl dd (Ends.gone Z i) (σ.set i (some (.ref ea))) H)
/-- a clause's suite runs -/
def SuiteOk (X : Cx) (suite : List Stmt) (ts : CTS) : Prop := ∀ (ea : Addr) (eo : Obj) (kl : Value) (dd : Option Addr) (more : List (Addr × Obj)), Zc kl dd eo → (∃ fv, eo.data = .fields fv) → PSs (X.suite ea ((ea, eo) :: more)) suite (ts ea kl dd)
inductive ClOk (X : Cx) : List ExceptHandler → List (Value × Option Nat × CTS) → Prop
  | nil : ClOk X [] []
  | bare {y : Str} {c : Value} {ts : CTS} {st : Stmt} {sts : List Stmt} {p1 p2 : Pos} {more : List ExceptHandler} {l : List (Value × Option Nat × CTS)} (nm : Names X y c) (ok : SuiteOk X (st :: sts) ts) (rest : ClOk X more l) :
      ClOk X (.ExceptHandler (some (.Name y p1)) none (st :: sts) p2 :: more) ((c, none, ts) :: l)
  | named {y v : Str} {i : Nat} {c : Value} {ts : CTS} {st : Stmt} {sts : List Stmt} {p1 p2 : Pos} {more : List ExceptHandler} {l : List (Value × Option Nat × CTS)} (nm : Names X y c) (ok : SuiteOk X (st :: sts) ts) (hi : X.N[i]? = some v)
      (hv : X.env.kindOf v = some .local) (rest : ClOk X more l) : ClOk X (.ExceptHandler (some (.Name y p1)) (some v) (st :: sts) p2 :: more) ((c, some i, ts) :: l)
section
variable {X : Cx} {body : List Stmt} {first : ExceptHandler} {more : List ExceptHandler} {l : List (Value × Option Nat × CTS)} {pos : Pos} {tb : WX → TS} {up : WX}
theorem ps_try_cl (hst : X.stack = X.env :: X.outer) (hfr : X.env.frame = some X.env.locals) (hnd : X.N.Nodup) (tk : Takes X up)
    (hb : ∀ (W : WX) (ex : List (Addr × Obj)) (xw : Value → Shared → Prop), Takes (X.tr ex xw) W → PassesOwn (model X.prog X.w) X.A X.env xw → PSs (X.tr ex xw) body (tb W))
    (hc : ClOk X (first :: more) l) : PS X (.Try body (first :: more) [] [] pos) (fun Z σ H => tb (wCl X.K up Z l) Z σ H) := by
  refine ⟨fun pins s σ H Z I h => wpAny_Try_except ?_⟩
  have okX := I.ok
  have top : X.A.frames = some (X.env :: X.outer) := okX.frames.trans (by rw [hst])
  refine wpAny_mono ((hb (wCl X.K up Z l) (X.pn ++ pins) (fun e sA => wpAny (model X.prog X.w) X.A (noteFrame e X.env) (fun _ sB => wpAny (model X.prog X.w) X.A (setFlight e none)
    (fun _ sC => wpAny (model X.prog X.w) X.A (handleBy e X.env (first :: more)) (SP X pins Z) X.xe sC) X.xe sB) X.xe sA) (fun ev sv caught => ?_) PassesOwn.looking).run [] s σ H Z (I.toTry _) h) (fun fl sv done => ?_) fun _ _ z => z
  · obtain ⟨ea, bd, sj, pj, σj, Hj, kl, dd, rfl, Jt, nb, grow, air, fresh, osq, agq, wish⟩ := caught
    have J : Inv X pins σj Hj sj := Jt.ofTry okX
    have air2 : Sky bd (X.env :: X.outer) ea (Zc kl dd) X.env.locals sv.heap := hst ▸ air
    refine Sky.land Zc.steady top hfr air2 fun hp landed grow3 => ?_
    have JL : Inv X pins σj Hj { sv with heap := hp } := J.landed nb landed.1 (grow.trans grow3) osq agq
    obtain ⟨eo, fv, ge, ze, de⟩ := landed.there
    have offFrames : ea ∉ frs (X.env :: X.outer) := fun hm => by
      obtain ⟨_, eo', ge', nof⟩ := landed.2.2.1.mem hm
      rw [ge] at ge'
      cases ge'
      exact nof _ de
    have offL : ea ≠ X.env.locals := fun z => offFrames (List.mem_filterMap.mpr ⟨X.env, List.mem_cons_self, by rw [hfr, z]⟩)
    have offF : ea ∉ X.fs := fun hm => by
      obtain ⟨en, hen, q⟩ := List.mem_filterMap.mp hm
      exact offFrames (List.mem_filterMap.mpr ⟨en, List.mem_cons_of_mem _ hen, q⟩)
    have JS := JL.suite ge de fresh offL offF
    have through : ∀ {cs : List ExceptHandler} {k : List (Value × Option Nat × CTS)}, ClOk X cs k → wCl X.K up Z k kl dd σj Hj → wpAny (model X.prog X.w) X.A (handleBy (.ref ea) X.env cs) (SP X pins Z) X.xe { sv with heap := hp } := by
      intro cs k hk
      have looks : PySem.W.Looks (model X.prog X.w) hp (typeOf (.ref ea)) kl := fun A Q E s k q => wpAny_typeOf_ref (k _ _ ge) (by rw [ze.1]; exact q)
      have named : ∀ {y : Str} {c : Value} {q1 : Pos} {E2 R2 : Value → Shared → Prop}, Names X y c → R2 c { sv with heap := hp } → wpAny (model X.prog X.w) (X.A.mark (some (.ref ea))) (eval (.Name y q1) X.env) R2 E2 { sv with heap := hp } := by
        intro y c q1 E2 R2 nm hR
        obtain ⟨hg, hdb, hm | ⟨hm, hv, hn⟩⟩ := nm
        · exact ld_glob (X := X.suite ea ((ea, eo) :: (X.pn ++ pins))) JS hg hm hR hdb
        · exact ld_blt (X := X.suite ea ((ea, eo) :: (X.pn ++ pins))) JS hg hm hv hR hn hdb
      induction hk with
      | nil =>
        intro w
        refine wpAny_handleBy_nil ?_
        obtain ⟨_, _, _, eo2, fv2, TT, _, _, ge2, _, de2, slot1, _⟩ := id landed
        unfold PySem.passOn
        refine wpAny_bind (wpAny_field ge2 de2 slot1 ?_)
        rw [if_neg (show ¬ ((Value.ref TT == Value.none) = true) from by simp)]
        have leave : wpAny (model X.prog X.w) X.A (setFlight (.ref ea) X.env.frame) (fun _ sD => wpAny (model X.prog X.w) X.A (throw (.ref ea) : Sem Flow) (SP X pins Z) X.xe sD) X.xe { sv with heap := hp } := by
          rw [hfr]
          refine HandSPX.setFlight_upZ landed fun hq air4 grow4 => wpAny_throw (tk _ _ ⟨ea, bd, sj, pins, σj, Hj, kl, dd, rfl, J, nb, (grow.trans grow3).trans grow4, .inr (.inr (hst ▸ air4)), fresh, osq, agq, w⟩)
        first
          | exact wpAny_bind (wpAny_pure (wpAny_bind leave))
          | exact wpAny_bind leave
      | bare nm ok rest ih =>
        intro w
        obtain ⟨b, hx, no, yes⟩ := w
        have M1 := PySem.W.exm_one (M := model X.prog X.w) JL.kIn looks hx
        refine wpAny_handleBy_cons (codeAny_handlers_test ?_) (by intro z; cases z)
        refine named nm (M1.here ?_)
        cases b with
        | false => exact ih (no rfl)
        | true =>
          refine codeAny_handlers_suite (HandSPX.lands_againZ landed fun hq land4 grow4 => ?_)
          have J4 : Inv X pins σj Hj { sv with heap := hq } := J.landed nb land4.1 ((grow.trans grow3).trans grow4) osq agq
          obtain ⟨eo4, _, ge4, ze4, de4⟩ := land4.there
          refine wpAny_mono ((ok ea eo4 kl dd (X.pn ++ pins) ze4 ⟨_, de4⟩).run [] _ _ Hj _ (J4.suite ge4 de4 fresh offL offF) (yes rfl ea fresh)) (fun fl s6 fin => ?_) (fun _ _ z => False.elim z)
          cases fl with
          | ret u =>
            obtain ⟨v6, σ6, H6, J6, r6, q6⟩ := fin
            exact ⟨v6, σ6, H6, J6.unsuite okX, r6, q6⟩
          | next =>
            obtain ⟨σ6, H6, J6, q6⟩ := fin
            exact ⟨σ6, H6, J6.unsuite okX, q6⟩
          | brk =>
            obtain ⟨σ6, H6, J6, q6⟩ := fin
            exact ⟨σ6, H6, J6.unsuite okX, q6⟩
          | cont =>
            obtain ⟨σ6, H6, J6, q6⟩ := fin
            exact ⟨σ6, H6, J6.unsuite okX, q6⟩
      | named nm ok hi hv rest ih =>
        intro w
        obtain ⟨b, hx, no, yes⟩ := w
        have M1 := PySem.W.exm_one (M := model X.prog X.w) JL.kIn looks hx
        refine wpAny_handleBy_cons (codeAny_handlers_test ?_) (by intro z; cases z)
        refine named nm (M1.here ?_)
        cases b with
        | false => exact ih (no rfl)
        | true =>
          refine codeAny_handlers_suite_as (HandSPX.lands_againZ landed fun hq land4 grow4 => ?_)
          have J4 : Inv X pins σj Hj { sv with heap := hq } := J.landed nb land4.1 ((grow.trans grow3).trans grow4) osq agq
          obtain ⟨eo4, _, ge4, ze4, de4⟩ := land4.there
          refine store_ok (X := X.suite ea ((ea, eo4) :: (X.pn ++ pins))) (v := .ref ea) (J4.suite ge4 de4 fresh offL offF) hnd hi (.inl hv) rfl (fun s5 J5 => ?_) (.inr hv)
          refine wpAny_mono ((ok ea eo4 kl dd (X.pn ++ pins) ze4 ⟨_, de4⟩).run [] s5 _ Hj _ J5 (yes rfl ea fresh (by rw [J4.len]; exact (List.getElem?_eq_some_iff.mp hi).1))) (fun fl s6 fin => ?_) (fun _ _ z => False.elim z)
          cases fl with
          | ret u =>
            obtain ⟨v6, σ6, H6, J6, r6, q6⟩ := fin
            exact gone_ok (J6.unsuite okX) hnd hi hv fun s7 J7 => ⟨_, _, _, J7, r6, q6⟩
          | next =>
            obtain ⟨σ6, H6, J6, q6⟩ := fin
            exact gone_ok (J6.unsuite okX) hnd hi hv fun s7 J7 => ⟨_, _, J7, q6⟩
          | brk =>
            obtain ⟨σ6, H6, J6, q6⟩ := fin
            exact gone_ok (J6.unsuite okX) hnd hi hv fun s7 J7 => ⟨_, _, J7, q6⟩
          | cont =>
            obtain ⟨σ6, H6, J6, q6⟩ := fin
            exact gone_ok (J6.unsuite okX) hnd hi hv fun s7 J7 => ⟨_, _, J7, q6⟩
    exact through hc wish
  · cases fl with
    | next =>
      obtain ⟨σ2, H2, J2, q2⟩ := done
      exact wpAny_execs_nil ⟨σ2, H2, J2.ofTry okX, q2⟩
    | brk =>
      obtain ⟨σ2, H2, J2, q2⟩ := done
      exact ⟨σ2, H2, J2.ofTry okX, q2⟩
    | cont =>
      obtain ⟨σ2, H2, J2, q2⟩ := done
      exact ⟨σ2, H2, J2.ofTry okX, q2⟩
    | ret u =>
      obtain ⟨v2, σ2, H2, J2, r2, q2⟩ := done
      exact ⟨v2, σ2, H2, J2.ofTry okX, r2, q2⟩
end
end DL
end

section
set_option Elab.async false
set_option linter.all false
set_option maxRecDepth 100000
set_option maxHeartbeats 4000000
/-! ER: what a clause of _law_found returns, with the error's own attributes. -/
namespace DL
open PySem PySem.Spec PyProof.Rows L2
/-- what is returned: a text; a text and attributes; a text and the repr of an attribute that is a number, a truth value or None -/
inductive Clz where
  | str (z : Str) | tup (z : Str) (ns : List Str) | rep (z n : Str)
def Clz.attrs : Clz → List Str
  | .str _ => []
  | .tup _ ns => ns
  | .rep _ n => [n]
def flatR : D → Option Str
  | .int i => if i.natAbs.log2 < 1920 then some (toString i) else none
  | .bl b => some (if b = true then "True" else "False")
  | .non => some "None"
  | _ => none
def flatV : V → Option Str
  | .int i => if i.natAbs.log2 < 1920 then some (toString i) else none
  | .bl b => some (if b = true then "True" else "False")
  | .non => some "None"
  | _ => none
def Clz.den (fs : List (Str × D)) : Clz → Option D
  | .str z => some (.str z)
  | .tup z ns => match allSome (fun n => fs.lookup n) ns with
    | some ds => if ds.length ≤ 100 then some (.tup (.str z :: ds)) else none
    | none => none
  | .rep z n => match fs.lookup n with
    | some d => (match flatR d with
      | some t => some (.tup [.str z, .str t])
      | none => none)
    | none => none
/-- the error's class is one whose instances' attributes can be read -/
def XfAll (K : PySem.W.Frag) (C : Addr) (ns : List Str) : Prop := XfC K C ∧ ∀ n ∈ ns, PySem.W.findIn K (.ref C) n = some none
theorem XfAll.tail {K : PySem.W.Frag} {C : Addr} {n : Str} {ns : List Str} (h : XfAll K C (n :: ns)) : XfAll K C ns := ⟨h.1, fun m hm => h.2 m (List.mem_cons_of_mem _ hm)⟩
def wCls (K : PySem.W.Frag) (kl : Value) (dd : Option Addr) (H : Hp) (Q : VK) : Clz → Prop
  | .str z => Q (.str z) H
  | .tup z ns => ∃ C da fv vs, kl = .ref C ∧ XfAll K C ns ∧ dd = some da ∧ H da = some (.xd fv) ∧ allSome (fun n => fv.lookup n) ns = some vs ∧ vs.length ≤ 100 ∧ ∀ p, H p = none → Q (.ref p) (upd H p (.tup (.str z :: vs)))
  | .rep z n => ∃ C da fv v t, kl = .ref C ∧ XfAll K C [n] ∧ dd = some da ∧ H da = some (.xd fv) ∧ fv.lookup n = some v ∧ flatV v = some t ∧ ∀ p, H p = none → Q (.ref p) (upd H p (.tup [.str z, .str t]))
theorem call_repr_flat {X : Cx} : CallR X (.builtin "repr") (fun xs H Q => ∃ v t, xs = [v] ∧ flatV v = some t ∧ Q (.str t) H) := by
  intro pins s σ H xs us Q I r h
  obtain ⟨v, t, rfl, hf, q⟩ := h
  cases v with
  | int i =>
    obtain ⟨u, rfl, k, rfl⟩ := vals1 r
    have hf' : (if i.natAbs.log2 < 1920 then some ((toString i : String) : Str) else none) = some t := hf
    by_cases hz : i.natAbs.log2 < 1920
    · rw [if_pos hz] at hf'
      cases hf'
      exact PySem.P.repr_of_int hz ⟨.str _, H, I.tok _, ⟨_, rfl⟩, q⟩
    · rw [if_neg hz] at hf'
      cases hf'
  | bl b =>
    have hf' : some (if b = true then ("True" : Str) else "False") = some t := hf
    cases hf'
    obtain ⟨u, rfl, k⟩ := vals1 r
    obtain rfl : u = Value.bool b := k
    refine PySem.P.repr_of_bool ?_
    refine ⟨.str (if b = true then ("True" : Str) else "False"), H, I.tok _, ?_, q⟩
    cases b <;> exact ⟨_, rfl⟩
  | non =>
    have hf' : some ("None" : Str) = some t := hf
    cases hf'
    obtain ⟨u, rfl, k⟩ := vals1 r
    obtain rfl : u = Value.none := k
    refine PySem.P.repr_of_none ?_
    exact ⟨.str _, H, I.tok _, ⟨_, rfl⟩, q⟩
  | _ => cases hf
/-- e.n, .. -/
inductive AtL (v : Str) : List PySem.Expr → List Str → Prop
  | nil : AtL v [] []
  | cons {n : Str} {p1 p2 : Pos} {es : List PySem.Expr} {ns : List Str} (rest : AtL v es ns) : AtL v (.Attribute (.Name v p1) n p2 :: es) (n :: ns)
def tAts (i : Nat) (ea : Addr) (K : PySem.W.Frag) (kl : Value) (dd : Option Addr) (ns : List Str) : TA := fun σ H R => σ[i]? = some (some (.ref ea)) ∧ ∃ C da fv vs, kl = .ref C ∧ XfAll K C ns ∧ dd = some da ∧ H da = some (.xd fv) ∧ allSome (fun n => fv.lookup n) ns = some vs ∧ R vs H
section
variable {X : Cx} {i : Nat} {v : Str} {ea C : Addr} {eo : Obj} {kl : Value} {dd : Option Addr} {pn : List (Addr × Obj)}
theorem pe_at {n : Str} {p1 p2 : Pos} (hz : Zc kl dd eo) (hf : ∃ fv, eo.data = .fields fv) (hi : X.N[i]? = some v) (hv : Vis X.env.scope v) (hk : XfAll X.K C [n]) (hd : (v == ("__debug__" : Str)) = false) (hcd : (v == ("__classdict__" : Str)) = false) :
    PE (X.suite ea ((ea, eo) :: pn)) (.Attribute (.Name v p1) n p2) (tXf ea kl dd C n (tVar i)) := pe_xf (X := X) hk.1 (hk.2 n List.mem_cons_self) hz hf (pe_var (X := X.suite ea ((ea, eo) :: pn)) hi hv hd hcd)
theorem pa_ats (hz : Zc kl dd eo) (hf : ∃ fv, eo.data = .fields fv) (hi : X.N[i]? = some v) (hv : Vis X.env.scope v) (hd : (v == ("__debug__" : Str)) = false) (hcd : (v == ("__classdict__" : Str)) = false) :
    ∀ {es : List PySem.Expr} {ns : List Str}, AtL v es ns → PA (X.suite ea ((ea, eo) :: pn)) es (tAts i ea X.K kl dd ns)
  | _, _, .nil => PA.imp pa_nil fun σ H R h => by
    obtain ⟨_, C, da, fv, vs, _, _, _, _, e, q⟩ := h
    cases e
    exact q
  | _, _, .cons (n := n) (ns := ns) rest => by
    refine ⟨fun pos pins s σ H R I h => ?_⟩
    obtain ⟨h0, C, da, fv, vs, e1, e2, e3, e4, e5, q⟩ := h
    have hk : XfAll X.K C [n] := ⟨e2.1, fun m hm => e2.2 m (by
      have : m = n := by simpa using hm
      subst this
      exact List.mem_cons_self)⟩
    refine (pa_cons (pe_at (C := C) hz hf hi hv hk hd hcd) (pa_ats hz hf hi hv hd hcd rest)).run pos pins s σ H R I ?_
    unfold allSome at e5
    cases hv1 : fv.lookup n with
    | none => rw [hv1] at e5; cases e5
    | some x =>
      cases hv2 : allSome (fun n => fv.lookup n) ns with
      | none => rw [hv1, hv2] at e5; cases e5
      | some xs =>
        rw [hv1, hv2] at e5
        cases e5
        exact ⟨.ref ea, h0, rfl, e1, da, fv, x, e3, e4, hv1, h0, C, da, fv, xs, e1, e2.tail, e3, e4, hv2, q⟩
/-- the suite of a clause -/
def tsCls (i : Nat) (K : PySem.W.Frag) (c : Clz) : CTS := fun ea kl dd Z σ H => (match c with | .str _ => True | _ => σ[i]? = some (some (.ref ea))) ∧ wCls K kl dd H Z.rt c
theorem suite_str {z : Str} {j : Nat} {p2 p3 : Pos} : SuiteOk X [.Return (some (.Constant (.str z) j p2)) p3] (tsCls i X.K (.str z)) := fun ea eo kl dd more hz hf => PSs.imp (pss_one (ps_ret pe_str)) fun D σ H h => h.2
theorem suite_tup {z : Str} {j k : Nat} {p2 p3 p4 : Pos} {es : List PySem.Expr} {ns : List Str} (hi : X.N[i]? = some v) (hv : Vis X.env.scope v) (hd : (v == ("__debug__" : Str)) = false) (hcd : (v == ("__classdict__" : Str)) = false) (hat : AtL v es ns)
    (hs : starEach (.Constant (.str z) j p2 :: es) X.env = (false, eval (.Constant (.str z) j p2) X.env) :: starEach es X.env) : SuiteOk X [.Return (some (.Tuple (.Constant (.str z) j p2 :: es) k p3)) p4] (tsCls i X.K (.tup z ns)) := fun ea eo kl dd more hz hf => by
  refine PSs.imp (pss_one (ps_ret (pe_tup (pa_cons (X := X.suite ea ((ea, eo) :: more)) pe_str (pa_ats hz hf hi hv hd hcd hat) hs)))) fun D σ H h => ?_
  obtain ⟨h0, C, da, fv, vs, e1, e2, e3, e4, e5, e6, q⟩ := h
  exact ⟨h0, C, da, fv, vs, e1, e2, e3, e4, e5, le_line (by rw [List.length_cons]; omega), q⟩
theorem suite_rep {z n : Str} {j k : Nat} {p1 p2 p3 p4 p5 p6 p7 : Pos} (hi : X.N[i]? = some v) (hv : Vis X.env.scope v) (hd : (v == ("__debug__" : Str)) = false) (hcd : (v == ("__classdict__" : Str)) = false) (hg : Gl X "repr") (hm : X.mg "repr" = none)
    (hs : starEach [.Constant (.str z) j p2, .Call (.Name "repr" p5) [.Attribute (.Name v p1) n p6] [] p7] X.env = (false, eval (.Constant (.str z) j p2) X.env) :: starEach [.Call (.Name "repr" p5) [.Attribute (.Name v p1) n p6] [] p7] X.env := by rfl) :
    SuiteOk X [.Return (some (.Tuple [.Constant (.str z) j p2, .Call (.Name "repr" p5) [.Attribute (.Name v p1) n p6] [] p7] k p3)) p4] (tsCls i X.K (.rep z n)) := fun ea eo kl dd more hz hf => by
  refine ⟨fun pins s σ H D I h => ?_⟩
  obtain ⟨h0, C, da, fv, x, t, e1, e2, e3, e4, e5, e6, q⟩ := h
  refine (pss_one (ps_ret (pe_tup (pa_cons (X := X.suite ea ((ea, eo) :: more)) pe_str (pa_cons (pe_callB call_repr_flat hg hm (by rfl) (pa_cons (pe_at (C := C) hz hf hi hv e2 hd hcd) pa_nil) (by decide) (by decide)) pa_nil) hs)))).run pins s σ H D I ?_
  exact ⟨.ref ea, h0, rfl, e1, da, fv, x, e3, e4, e5, x, t, rfl, e6, le_line (by simp), q⟩
end
end DL
end

section
set_option Elab.async false
set_option linter.all false
set_option maxRecDepth 100000
set_option maxHeartbeats 4000000
/-! ES: _law_found with clauses that name the error. -/
namespace DL
open PySem PySem.Spec PyProof.Rows L2
def Clz.dn (fs : List (Str × D)) : Clz → Option D
  | .str z => some (.str z)
  | .tup _ [] => none
  | .tup z (n :: ns) => (Clz.tup z (n :: ns)).den fs
  | .rep z n => (Clz.rep z n).den fs
def wrapQ (w : Option Str) (Q : VK) : VK := fun v H => match w with
  | none => Q v H
  | some z => ∀ p, H p = none → Q (.ref p) (upd H p (.tup [.str z, v]))
def wFnd (K : PySem.W.Frag) (Q : VK) : List (Value × Clz) → Value → Option Addr → Hp → Prop
  | [], _, _, _ => False
  | (c, x) :: r, kl, dd, H => ∃ b, PySem.W.exmOne K kl c = some b ∧ (b = true → wCls K kl dd H Q x) ∧ (b = false → wFnd K Q r kl dd H)
def TCls (K : PySem.W.Frag) (w : Option Str) (hs : List (Value × Clz)) : (XK → Hp → VK → Prop) → Hp → VK → Prop := fun tl H Q => tl (fun kl dd H' => wFnd K Q hs kl dd H') H (wrapQ w Q)
def Clz.slot (i : Nat) : Clz → Option Nat
  | .str _ => none
  | _ => some i
/-- the clauses -/
inductive HdsC (X : Cx) (i : Nat) (v : Str) : List ExceptHandler → List (Value × Clz) → Prop
  | nil : HdsC X i v [] []
  | str {x z : Str} {c : Value} {j : Nat} {p1 p2 p3 p4 : Pos} {hds : List ExceptHandler} {l : List (Value × Clz)} (hc : Names X x c) (r : HdsC X i v hds l) :
      HdsC X i v (.ExceptHandler (some (.Name x p1)) none [.Return (some (.Constant (.str z) j p2)) p3] p4 :: hds) ((c, .str z) :: l)
  | tup {x z : Str} {c : Value} {j k : Nat} {p1 p2 p3 p4 p5 : Pos} {es : List PySem.Expr} {ns : List Str} {hds : List ExceptHandler} {l : List (Value × Clz)} (hc : Names X x c) (hat : AtL v es ns)
      (hse : starEach (.Constant (.str z) j p2 :: es) X.env = (false, eval (.Constant (.str z) j p2) X.env) :: starEach es X.env) (r : HdsC X i v hds l) :
      HdsC X i v (.ExceptHandler (some (.Name x p1)) (some v) [.Return (some (.Tuple (.Constant (.str z) j p2 :: es) k p3)) p4] p5 :: hds) ((c, .tup z ns) :: l)
  | rep {x z n : Str} {c : Value} {j k : Nat} {p1 p2 p3 p4 p5 p6 p7 p8 p9 : Pos} {hds : List ExceptHandler} {l : List (Value × Clz)} (hc : Names X x c) (hg : Gl X "repr") (hm : X.mg "repr" = none) (r : HdsC X i v hds l) :
      HdsC X i v (.ExceptHandler (some (.Name x p1)) (some v) [.Return (some (.Tuple [.Constant (.str z) j p2, .Call (.Name "repr" p5) [.Attribute (.Name v p8) n p6] [] p7] k p3)) p4] p9 :: hds) ((c, .rep z n) :: l)
theorem HdsC.ok {X : Cx} {i : Nat} {v : Str} {hds : List ExceptHandler} {l : List (Value × Clz)} (hi : X.N[i]? = some v) (hv : Vis X.env.scope v) (hl : X.env.kindOf v = some .local) (hd : (v == ("__debug__" : Str)) = false) (hcd : (v == ("__classdict__" : Str)) = false)
    (h : HdsC X i v hds l) : ClOk X hds (l.map fun p => (p.1, p.2.slot i, tsCls i X.K p.2)) := by
  induction h with
  | nil => exact .nil
  | str hc r ih => exact .bare hc suite_str ih
  | tup hc hat hse r ih => exact .named hc (suite_tup hi hv hd hcd hat hse) hi hl ih
  | rep hc hg hm r ih => exact .named hc (suite_rep hi hv hd hcd hg hm) hi hl ih
theorem wCl_of {K : PySem.W.Frag} {i : Nat} {up : WX} {Z : Ends} {kl : Value} {dd : Option Addr} {σ : L2.St} {H : Hp} : ∀ {l : List (Value × Clz)}, wFnd K Z.rt l kl dd H → wCl K up Z (l.map fun p => (p.1, p.2.slot i, tsCls i K p.2)) kl dd σ H
  | [], h => h.elim
  | (c, x) :: r, h => by
    obtain ⟨b, e1, e2, e3⟩ := h
    refine ⟨b, e1, fun hb => wCl_of (e3 hb), fun hb ea _ => ?_⟩
    cases x with
    | str z => exact ⟨trivial, e2 hb⟩
    | tup z ns => exact fun hl => ⟨List.getElem?_set_self hl, e2 hb⟩
    | rep z n => exact fun hl => ⟨List.getElem?_set_self hl, e2 hb⟩
theorem rpF_all {T : Th} {F : Hp} {al : Nat → Addr} {n : Nat} {vs : List (Str × V)} {fs : List (Str × D)} (r : RpF T F al n vs fs) : ∀ {ns : List Str} {ds : List D}, allSome (fun m => fs.lookup m) ns = some ds → ∃ us, allSome (fun m => vs.lookup m) ns = some us ∧ RpL T F al n us ds
  | [], ds, h => by cases h; exact ⟨[], rfl, .nil⟩
  | m :: ns, ds, h => by
    unfold allSome at h
    cases h1 : fs.lookup m with
    | none => rw [h1] at h; cases h
    | some d =>
      cases h2 : allSome (fun m => fs.lookup m) ns with
      | none => rw [h1, h2] at h; cases h
      | some r2 =>
        rw [h1, h2] at h
        cases h
        obtain ⟨v, e1, e2⟩ := r.lookup h1
        obtain ⟨us, e3, e4⟩ := rpF_all r h2
        exact ⟨v :: us, by unfold allSome; rw [e1, e3], .cons e2 e4⟩
theorem flat_rp {T : Th} {F : Hp} {al : Nat → Addr} {n : Nat} {v : V} {d : D} {t : Str} (r : Rp T F al n v d) (h : flatR d = some t) : flatV v = some t := by
  cases r <;> first | exact h | cases h
theorem w_cls {T : Th} {F H1 : Hp} {al : Nat → Addr} {mu : Store} {K : PySem.W.Frag} {C : Addr} {fs : List (Str × D)} {dx : Option Addr} {cl : Clz} {d : D} {Q : VK} (M : Mus T F al mu H1) (hx : cl.attrs = [] ∨ XfAll K C cl.attrs) (hr : ExR T F al mu.length H1 dx fs) (hd : cl.dn fs = some d)
    (q : ∀ v F' H', Ext T F al mu H1 F' al mu H' → Rp T F' al mu.length v d → Q v H') : wCls K (.ref C) dx H1 Q cl := by
  cases cl with
  | str z =>
    cases hd
    exact q _ _ _ (Ext.refl M) (.str z)
  | tup z ns =>
    cases ns with
    | nil => cases hd
    | cons n0 ns =>
    have hxa := hx.resolve_left fun h => by cases h
    have hd : (Clz.tup z (n0 :: ns)).den fs = some d := hd
    unfold Clz.den at hd
    dsimp only at hd
    cases ha : allSome (fun n => fs.lookup n) (n0 :: ns) with
    | none => rw [ha] at hd; cases hd
    | some ds =>
      rw [ha] at hd
      dsimp only at hd
      by_cases hz : ds.length ≤ 100
      · rw [if_pos hz] at hd
        cases hd
        rcases hr with rfl | ⟨da, vs, e1, e2, e3⟩
        · unfold allSome at ha
          cases ha
        · obtain ⟨us, e4, e5⟩ := rpF_all e3 ha
          refine ⟨C, da, vs, us, rfl, hxa, e1, e2, e4, by rw [RpL.len e5]; exact hz, fun p hp => ?_⟩
          exact q _ _ _ (Ext.laidF M (o := .tup (.str z :: us)) hp) (.tup upd_same ((Ext.laidF M hp).rpL (.cons (.str z) e5)))
      · rw [if_neg hz] at hd
        cases hd
  | rep z n =>
    have hxa := hx.resolve_left fun h => by cases h
    have hd : (Clz.rep z n).den fs = some d := hd
    unfold Clz.den at hd
    dsimp only at hd
    cases hn : fs.lookup n with
    | none => rw [hn] at hd; cases hd
    | some e =>
      rw [hn] at hd
      dsimp only at hd
      cases ht : flatR e with
      | none => rw [ht] at hd; cases hd
      | some t =>
        rw [ht] at hd
        cases hd
        rcases hr with rfl | ⟨da, vs, e1, e2, e3⟩
        · cases hn
        · obtain ⟨v, e4, e5⟩ := e3.lookup hn
          refine ⟨C, da, vs, v, t, rfl, hxa, e1, e2, e4, flat_rp e5 ht, fun p hp => ?_⟩
          exact q _ _ _ (Ext.laidF M (o := .tup [.str z, .str t]) hp) (.tup upd_same (.cons (.str z) (.cons (.str t) .nil)))
theorem w_fnd {T : Th} {F H1 : Hp} {al : Nat → Addr} {mu : Store} {K : PySem.W.Frag} {c : Nat} {fs : List (Str × D)} {dx : Option Addr} {cl : Clz} {d : D} {Q : VK} (M : Mus T F al mu H1) (hr : ExR T F al mu.length H1 dx fs) (hd : cl.dn fs = some d)
    (q : ∀ v F' H', Ext T F al mu H1 F' al mu H' → Rp T F' al mu.length v d → Q v H') : ∀ {hs : List (Nat × Clz)}, (∀ h ∈ hs.map (·.1), PySem.W.exmOne K (.ref (T.cls c)) (.ref (T.cls h)) = some (decide (c = h))) → (cl.attrs = [] ∨ XfAll K (T.cls c) cl.attrs) → hs.lookup c = some cl →
      wFnd K Q (hs.map fun p => (.ref (T.cls p.1), p.2)) (.ref (T.cls c)) dx H1
  | [], _, _, h => by cases h
  | (h, x) :: r, hm, hx, hl => by
    refine ⟨decide (c = h), hm h List.mem_cons_self, fun hb => ?_, fun hb => ?_⟩
    · have e := of_decide_eq_true hb
      subst e
      rw [List.lookup_cons, beq_self_eq_true] at hl
      cases hl
      exact w_cls M hx hr hd q
    · have e : ¬ c = h := of_decide_eq_false hb
      have e2 : (c == h) = false := by simp [e]
      rw [List.lookup_cons, e2] at hl
      exact w_fnd M hr hd q (fun k hk => hm k (List.mem_cons_of_mem _ hk)) hx hl
/-- the attributes that clauses read can be read -/
def XfT (K : PySem.W.Frag) (cl : Nat → Addr) (hs : List (Nat × Clz)) : Prop := ∀ c x, hs.lookup c = some x → x.attrs = [] ∨ XfAll K (cl c) x.attrs
/-- a def that tries the lambda that it gets -/
structure GtC (P : Program) (w : World) (K : PySem.W.Frag) (mg : Str → Option Value) (base : Heap) (cl : Nat → Addr) (cs : List Nat) (wr : Option Str) (hs : List (Nat × Clz)) (x : Str) : Prop where
  ex : ∃ (g : Addr) (a : Str) (pg : Arguments) (bg : List Stmt) (sg : Scope) (dV kV doc pm cdv ct oc : Value) (an od : Option Addr) (osl : Array (Option Value)) (Ng : List Str),
    mg x = some (.ref g) ∧ PySem.W.keepIn K (.ref g) = true ∧ K.lookup g = some ⟨oc, od, .func (PySem.W.fnOf x x pg bg sg dV kV doc pm an cdv ct), osl⟩ ∧ PySem.W.codeIn K cdv x = true ∧ L2.Binds K (PySem.W.fnOf x x pg bg sg dV kV doc pm an cdv ct) [a] [] ∧
    FnScope Ng [a] sg ∧ Ng[0]? = some a ∧ Vis sg a ∧ (a == ("__debug__" : Str)) = false ∧ (a == ("__classdict__" : Str)) = false ∧
    ∀ X : Cx, X.prog = P → X.w = w → X.K = K → X.mg = mg → X.base = base → ∀ q, LamX.GivesTo X Ng x sg g cdv bg a q (TCls X.K wr (hs.map fun p => (.ref (cl p.1), p.2)))
  m : ExM K cl cs (hs.map (·.1))
  xf : XfT K cl hs
section
variable {P : Program} {w : World} {K : PySem.W.Frag} {mg : Str → Option Value} {base : Heap} {cl : Nat → Addr}
end
end DL
end

section
set_option Elab.async false
set_option linter.all false
set_option maxRecDepth 100000
set_option maxHeartbeats 4000000
/-! ET: repr of numbers, truth values and None. -/
namespace DL
open PySem L2
section
variable {X : Cx} {cl : Nat → Addr} {W : WX} {a b e : PySem.Expr} {f fa fb : EF} {pos p1 : Pos} {x : Str}
end
theorem XfT.nil {K : PySem.W.Frag} {cl : Nat → Addr} : XfT K cl [] := fun _ _ h => by cases h
theorem XfT.cons {K : PySem.W.Frag} {cl : Nat → Addr} {c : Nat} {x : Clz} {r : List (Nat × Clz)} (h : x.attrs = [] ∨ XfAll K (cl c) x.attrs) (k : XfT K cl r) : XfT K cl ((c, x) :: r) := fun c' x' e => by
  rw [List.lookup_cons] at e
  split at e
  · rename_i hc
    cases e
    have : c' = c := by simpa using hc
    subst this
    exact h
  · exact k c' x' e
theorem xfAll1 {K : PySem.W.Frag} {C : Addr} {n : Str} (h1 : xfB K C = true) (h2 : decide (PySem.W.findIn K (.ref C) n = some none) = true) : XfAll K C [n] := ⟨xfB_ok h1, fun m hm => by
  have : m = n := by simpa using hm
  subst this
  exact of_decide_eq_true h2⟩
theorem xfAll2 {K : PySem.W.Frag} {C : Addr} {n m : Str} (h1 : xfB K C = true) (h2 : decide (PySem.W.findIn K (.ref C) n = some none) = true) (h3 : decide (PySem.W.findIn K (.ref C) m = some none) = true) : XfAll K C [n, m] := ⟨xfB_ok h1, fun u hu => by
  simp only [List.mem_cons, List.not_mem_nil, or_false] at hu
  rcases hu with rfl | rfl
  · exact of_decide_eq_true h2
  · exact of_decide_eq_true h3⟩
end DL
end

section
set_option Elab.async false
set_option linter.all false
set_option maxRecDepth 100000
set_option maxHeartbeats 4000000
/-! EU: zip of a list and a tuple. -/
namespace DL
open PySem PySem.Spec PyProof.Rows L2
section
variable {prog : Program} {w : World} {A : Around} {E : Value → Shared → Prop} {s : Shared}
variable {zo pi po ja jb la lb : Addr} {na nb : Nat} {us vs : Array Value} {u v p q : Value}
end
/-! ### as an iterator -/
section
variable {prog : Program} {w : World} {A : Around} {E : Value → Shared → Prop} {s : Shared}
end
end DL
end

section
set_option Elab.async false
set_option linter.all false
set_option maxRecDepth 100000
set_option maxHeartbeats 4000000
/-! EV: try as a statement, with clauses that return. -/
namespace DL
open PySem PySem.Spec PyProof.Rows L2
def oTryC (cs : List Nat) (hs : List (Nat × Clz)) : OutS → OutS
  | .ex c fs sl mu => if cs.contains c = true then (match hs.lookup c with
    | some cl => (match cl.dn fs with
      | some d => .rt d mu
      | none => .bad)
    | none => .ex c fs sl mu) else .bad
  | o => o
def sTryC (cs : List Nat) (hs : List (Nat × Clz)) (g : SF) : SF := fun sl mu => oTryC cs hs (g sl mu)
theorem wCl_up {K : PySem.W.Frag} {up : WX} {Z : Ends} {kl : Value} {dd : Option Addr} {σ : L2.St} {H : Hp} : ∀ {l : List (Value × Option Nat × CTS)}, (∀ p ∈ l, PySem.W.exmOne K kl p.1 = some false) → up kl dd σ H → wCl K up Z l kl dd σ H
  | [], _, h => h
  | (c, o, ts) :: r, hm, h => ⟨false, hm (c, o, ts) List.mem_cons_self, fun _ => wCl_up (fun p hp => hm p (List.mem_cons_of_mem _ hp)) h, fun h => by cases h⟩
theorem lookup_ne {β : Type} {c : Nat} : ∀ {hs : List (Nat × β)}, hs.lookup c = none → ∀ p ∈ hs, c ≠ p.1
  | [], _, p, h => by cases h
  | (h, x) :: r, hl, p, hp => by
    rw [List.lookup_cons] at hl
    cases e : (c == h) with
    | true => rw [e] at hl; cases hl
    | false =>
      rw [e] at hl
      rcases List.mem_cons.mp hp with rfl | hp
      · exact fun z => by
          have z : c = h := z
          rw [z, beq_self_eq_true] at e
          cases e
      · exact lookup_ne hl p hp
theorem ds_tryC {X : Cx} {cl : Nat → Addr} {W : WX} {n : En} {i : Nat} {v : Str} {body : List Stmt} {h₀ : ExceptHandler} {hds : List ExceptHandler} {pos : Pos} {cs : List Nat} {hs : List (Nat × Clz)} {g : SF} (hN : X.N.Nodup) (tk : Takes X W)
    (hb : ∀ (W' : WX) (ex : List (Addr × Obj)) (xw : Value → Shared → Prop), Takes (X.tr ex xw) W' → DSs (X.tr ex xw) cl W' n body g) (hi : X.N[i]? = some v) (hv : Vis X.env.scope v) (hl : X.env.scope.names.lookup v = some .local)
    (hh : HdsC X i v (h₀ :: hds) (hs.map fun p => (.ref (cl p.1), p.2))) (hex : ExM X.K cl cs (hs.map (·.1))) (hxf : XfT X.K cl hs) (hst : X.stack = X.env :: X.outer := by rfl) (hfr : X.env.frame = some X.env.locals := by rfl)
    (hd : (v == ("__debug__" : Str)) = false := by decide) (hcd : (v == ("__classdict__" : Str)) = false := by decide) : DS X cl W n (.Try body (h₀ :: hds) [] [] pos) (sTryC cs hs g) :=
  PS.imp (ps_try_cl (tb := fun W => tS (Cx.th X cl) W n g) hst hfr hN tk (fun W' ex xw tk' _ => hb W' ex xw tk') (hh.ok hi hv hl hd hcd)) fun Z σ H q => by
    obtain ⟨F, al, sl, mu, w, po⟩ := q
    refine ⟨F, al, sl, mu, w, ?_⟩
    unfold sTryC at po
    cases z : g sl mu with
    | ex c fs sl' mu' =>
      rw [z] at po
      unfold oTryC at po
      dsimp only at po
      intro dx σ' F' al' H' gr w' hR
      by_cases hc : cs.contains c = true
      · rw [if_pos hc] at po
        cases hy : hs.lookup c with
        | none =>
          rw [hy] at po
          dsimp only at po
          refine wCl_up (fun p hp => ?_) (po dx σ' F' al' H' gr w' hR)
          obtain ⟨q, hq, rfl⟩ := List.mem_map.mp hp
          obtain ⟨r, hr, rfl⟩ := List.mem_map.mp hq
          have := hex c (by simpa using hc) r.1 (List.mem_map.mpr ⟨r, hr, rfl⟩)
          rw [decide_eq_false (lookup_ne hy r hr)] at this
          exact this
        | some y =>
          rw [hy] at po
          dsimp only at po
          cases hdn : y.dn fs with
          | none => rw [hdn] at po; exact False.elim po
          | some d =>
            rw [hdn] at po
            exact wCl_of (w_fnd (T := Cx.th X cl) w'.w.toMus hR hdn (fun v F2 H2 x2 r => po v F2 al' H2 (gr.trans x2.gr) (w'.x.trans x2) r) (fun h hh => hex c (by simpa using hc) h hh) (hxf c y hy) hy)
      · rw [if_neg hc] at po
        exact False.elim po
    | nx sl' mu' => rw [z] at po; exact po
    | bk sl' mu' => rw [z] at po; exact po
    | ct sl' mu' => rw [z] at po; exact po
    | rt d mu' => rw [z] at po; exact po
    | bad => rw [z] at po; exact po
end DL
end

section
set_option Elab.async false
set_option linter.all false
set_option maxRecDepth 100000
set_option maxHeartbeats 4000000
/-! EW: len(dict(..)) of a list of pairs whose keys are ints, texts or flat tuples of them. -/
namespace PySem
open Sem (wp)
/-- a dict of n entries stands at d -/
def RawN (d : Addr) (n : Nat) (h : Heap) : Prop := (d == sysModules) = false ∧ n ≤ sizeLine ∧ ∃ o es ep, h.get? d = some o ∧ o.ExactDict ∧ o.data = .dict es ep ∧ es.size = n
theorem RawN.typeIs {d : Addr} {n : Nat} {s : Shared} (x : RawN d n s.heap) : s.TypeIs (.ref d) "dict" := let ⟨_, _, o, _, _, ho, hc, _⟩ := x; ⟨o, ho, hc.1⟩
theorem RawN.lt {d : Addr} {n : Nat} {h : Heap} (x : RawN d n h) : d < h.objs.size := let ⟨_, _, _, _, _, ho, _⟩ := x; Heap.lt_size ho
section
variable {prog : Program} {w : World} {A : Around} {E : Value → Shared → Prop} {s : Shared}
theorem meets_dict_lenN (d : Addr) :
    MeetsIn prog w (Builtin.«dict.__len__» ⟨[.ref d], []⟩) (fun _ R s => ∃ n, RawN d n s.heap ∧ R (.ok (.ret (.int n s.toks))) { s with toks := s.toks + 1 }) :=
  .of_wp fun A R s ⟨n, hm, h⟩ => by
    obtain ⟨hd, _, o, es, ep, ho, hc, hdat, hn⟩ := hm
    show wpAny _ _ (dictSize d >>= _) _ _ s
    unfold dictSize
    refine wpAny_bind (wpAny_bind (wpAny_dictEntries ho hdat (wpAny_pure ?_)))
    show wpAny _ _ (Builtin.Dict.pendingCount d >>= _) _ _ s
    refine wpAny_bind (wpAny_pendingCount_other hd ?_)
    refine wpAny_ret_mkInt ?_
    rw [Nat.add_zero, hn]; exact h
theorem wpAny_len_body_dictN {d : Addr} {n : Nat} {Q : Value → Shared → Prop} (hm : RawN d n s.heap)
    (h : Q (.int n (s.toks + 1)) { s with toks := s.toks + 1 + 1 }) : wpAny (model prog w) A (Builtin.«len» ⟨[.ref d], []⟩) (fun fin s' => ∃ r, fin = .done (.ret r) ∧ Q r s') E s := by
  have hfit : (n : Int) < 2 ^ 63 := by
    have := hm.2.1
    rw [sizeLine_eq] at this
    omega
  unfold Builtin.«len»
  refine wpAny_bind (m := oneArg "len" _) (wpAny_pure ?_)
  refine wpAny_bind (m := callSpecial? (.ref d) (Str.ofString "__len__")) (wpAny_callSpecial?_slot (name := Str.ofString "__len__") hm.typeIs F.slot_dict_len
    (call_meetsIn F.slot_dict_len hm.typeIs F.entry_dict_len (F.args_dict_len_1 _) (meets_dict_lenN d) ⟨n, hm, ?_⟩))
  show wpAny _ _ _ _ _ { s with toks := s.toks + 1 }
  refine wpAny_bind (wpAny_holding (wpAny_pure ?_))
  refine wpAny_bind (wpAny_letGo ?_)
  show wpAny _ _ (if ((n : Nat) : Int) < 0 then _ else _) _ _ _
  rw [if_neg (by omega)]
  show wpAny _ _ (if ((n : Nat) : Int) ≥ 2 ^ 63 then _ else _) _ _ _
  rw [if_neg (by omega)]
  exact wpAny_bind (wpAny_mkInt (wpAny_pure ⟨_, rfl, h⟩))
theorem call_len_dictN {d : Addr} {n : Nat} {Q : Value → Shared → Prop} (hm : RawN d n s.heap)
    (h : Q (.int n (s.toks + 1)) { s with toks := s.toks + 1 + 1 }) : wpAny (model prog w) A (call (.builtin "len") [.ref d]) Q E s :=
  Calls.call_function_entry kind_len plain_len entry_len (args_len1 _) (wpAny_len_body_dictN hm h)
end
/-- keys in the order in which they came -/
def addK {κ : Type} [DecidableEq κ] (acc : List κ) (k : κ) : List κ := if k ∈ acc then acc else acc ++ [k]
def distL {κ : Type} [DecidableEq κ] (ks : List κ) : List κ := ks.foldl addK []
theorem keys_merged {κ : Type} [DecidableEq κ] : ∀ (more acc : List (κ × Value)), (merged acc more).map (·.1) = (more.map (·.1)).foldl addK (acc.map (·.1))
  | [], acc => rfl
  | p :: more, acc => by
    show (merged (stored acc p.1 p.2) more).map (·.1) = (more.map (·.1)).foldl addK (addK (acc.map (·.1)) p.1)
    rw [keys_merged more, keys_stored]
    rfl
theorem len_merged {κ : Type} [DecidableEq κ] (kvs : List (κ × Value)) : (merged [] kvs).length = (distL (kvs.map (·.1))).length := by
  rw [← List.length_map (f := (·.1)), keys_merged]
  rfl
theorem addK_len {κ : Type} [DecidableEq κ] (acc : List κ) (k : κ) : (addK acc k).length ≤ acc.length + 1 := by
  unfold addK
  split
  · omega
  · rw [List.length_append]; exact Nat.le_refl _
theorem distL_len {κ : Type} [DecidableEq κ] (ks : List κ) : (distL ks).length ≤ ks.length := by
  have : ∀ (ks acc : List κ), (ks.foldl addK acc).length ≤ acc.length + ks.length := by
    intro ks
    induction ks with
    | nil => intro acc; exact Nat.le_refl _
    | cons k ks ih =>
      intro acc
      have h1 := ih (addK acc k)
      have h2 := addK_len acc k
      rw [List.foldl_cons, List.length_cons]
      omega
  have := this ks []
  rw [List.length_nil, Nat.zero_add] at this
  exact this
end PySem
namespace DL
open PySem PySem.Spec PyProof.Rows L2
section
variable {X : Cx}
def rLenN : List V → Hp → VK → Prop := fun xs H Q => ∃ (p : Addr) (n : Nat), xs = [.ref p] ∧ H p = some (.ext (RawN p n)) ∧ Q (.int ((n : Nat) : Int)) H
theorem call_lenN : CallR X (.builtin "len") rLenN := by
  intro pins s σ H xs us Q I r h
  obtain ⟨p, n, rfl, hp, q⟩ := h
  obtain ⟨u, rfl, rx⟩ := vals1 r
  obtain rfl : u = .ref p := rx
  have hr : RawN p n s.heap := (show ObjOk X.prog X.w H s.heap p (.ext (RawN p n)) from I.hok p _ hp).1
  exact call_len_dictN hr ⟨.int ((n : Nat) : Int), H, I.tok _, ⟨_, rfl⟩, q⟩
def rDictK (X : Cx) : List V → Hp → VK → Prop := fun xs H Q => ∃ (a : Addr) (ps : List Addr) (kvs : List (Key × V)), xs = [.ref a] ∧ SqL X.K H a (ps.map V.ref) ∧ Paired (fun p kv => SqT X.K H p [kV kv.1, kv.2]) ps kvs ∧
    ∀ p, H p = none → Q (.ref p) (upd H p (.ext (RawN p (distL (kvs.map (·.1))).length)))
theorem ext_ok {P : Program} {w : World} {H : Hp} {h : Heap} {p : Addr} {n : Nat} (r : RawN p n h) : ObjOk P w H h p (.ext (RawN p n)) := by
  obtain ⟨h1, h2, o, es, ep, ho, hc, hd, hn⟩ := id r
  exact ⟨r, ⟨o, ho⟩, fun g1 g2 q k => by
    obtain ⟨h1, h2, o, es, ep, ho, hc, hd, hn⟩ := q
    exact ⟨h1, h2, o, es, ep, k o ho, hc, hd, hn⟩⟩
theorem KV_keys : ∀ {kvs : List (Key × V)} {prs : List (Key × Value)}, KV kvs prs → prs.map (·.1) = kvs.map (·.1)
  | _, _, .nil => rfl
  | _, _, .cons h t => by rw [List.map_cons, List.map_cons, h.1, KV_keys t]
theorem call_dictN (hcalm : X.calm = true) : CallR X (.type "dict") (rDictK X) := by
  intro pins s σ H xs us Q I r q
  obtain ⟨a, ps, kvs, ex, hq, hp, q⟩ := q
  subst ex
  obtain ⟨u, eu, rx⟩ := vals1 r
  subst eu
  cases rx
  obtain ⟨its, rv, pl, hz⟩ := I.list hq
  have ei := refs_at rv
  subst ei
  rw [List.length_map] at hz
  obtain ⟨prs, rel, hl, hpr⟩ := pairs_of I hp
  obtain ⟨o, n, ho, hc, hd, hdat⟩ := pl
  refine L2.call_dict_pairs (prs := prs) (I.ok.hd hcalm) ho hc hd hdat (by simp [hl]) (by rw [hl]; exact hz) (fun j q' e => ?_) fun h' tk hd' k => ?_
  · obtain ⟨b, u, e1, e2, e3⟩ := hpr j q' e
    exact ⟨b, u, by simp [e1], e2, e3⟩
  · have hm : (s.heap.objs.size == sysModules) = false := beq_eq_false_iff_ne.mpr (Nat.ne_of_gt I.big)
    have hk : prs.map (·.1) = kvs.map (·.1) := KV_keys rel
    have hr : RawN s.heap.objs.size (distL (kvs.map (·.1))).length h' := by
      obtain ⟨o2, es, ep, g1, g2, g3, _, g5, _⟩ := hd'
      refine ⟨hm, ?_, o2, es, ep, g1, g2, g3, ?_⟩
      · have := distL_len (kvs.map (·.1))
        rw [List.length_map] at this
        have h2 := rel.length
        omega
      · rw [← Array.length_toList, g5.length, len_merged, hk]
    exact ⟨.ref s.heap.objs.size, upd H s.heap.objs.size _, I.laid (t' := tk) k (Nat.le_refl _) (ext_ok hr), rfl, q _ (I.hok.fresh (Nat.le_refl _))⟩
def rDictT (X : Cx) : List V → Hp → VK → Prop := fun xs H Q => ∃ (a : Addr) (ps : List Addr) (kvs : List (List Key × V)), xs = [.ref a] ∧ SqL X.K H a (ps.map V.ref) ∧ Paired (fun p kv => ∃ b, SqT X.K H p [.ref b, kv.2] ∧ H b = some (.tup (kv.1.map kV))) ps kvs ∧
    ∀ p, H p = none → Q (.ref p) (upd H p (.ext (RawN p (distL (kvs.map (·.1))).length)))
theorem pairsT_of {pins : List (Addr × Obj)} {σ : L2.St} {H : Hp} {s : Shared} (I : Inv X pins σ H s) : ∀ {ps : List Addr} {kvs : List (List Key × V)}, Paired (fun p kv => ∃ b, SqT X.K H p [.ref b, kv.2] ∧ H b = some (.tup (kv.1.map kV))) ps kvs →
    ∃ xs : List (List Key × Addr × Value), xs.length = ps.length ∧ xs.map (·.1) = kvs.map (·.1) ∧ (∀ x ∈ xs, (tupleKind (mixKind X.prog X.w)).is s.heap x.1 x.2.1) ∧ ∀ (j : Nat) (x : List Key × Addr × Value), xs[j]? = some x → ∃ b, ps[j]? = some b ∧ IsTup s.heap b #[.ref x.2.1, x.2.2]
  | _, _, .nil => ⟨[], rfl, rfl, (fun x h => by cases h), fun j q e => by simp at e⟩
  | _, _, .cons (a := p) (b := kv) h t => by
    obtain ⟨xs, h1, h2, h3, h4⟩ := pairsT_of I t
    obtain ⟨b, hs, hb⟩ := h
    obtain ⟨its, rv, ht, _⟩ := I.tuple hs
    obtain ⟨u, y, ei, ru, ry⟩ := vals2 rv
    subst ei
    obtain rfl : u = .ref b := ru
    refine ⟨(kv.1, b, y) :: xs, by rw [List.length_cons, List.length_cons, h1], by rw [List.map_cons, List.map_cons, h2], fun x hx => ?_, fun j q e => ?_⟩
    · rcases List.mem_cons.mp hx with rfl | hx
      · exact key_of I.hok hb
      · exact h3 x hx
    · cases j with
      | zero =>
        have e' : (kv.1, b, y) = q := Option.some.inj e
        subst e'
        exact ⟨p, rfl, ht⟩
      | succ j =>
        obtain ⟨c, e1, e2⟩ := h4 j q (by simpa using e)
        exact ⟨c, by simpa using e1, e2⟩
theorem call_dictTN (hcalm : X.calm = true) (hu : X.A.units + 2 < cLine) : CallR X (.type "dict") (rDictT X) := by
  intro pins s σ H xs us Q I r q
  obtain ⟨a, ps, kvs, ex, hq, hp, q⟩ := q
  subst ex
  obtain ⟨u, eu, rx⟩ := vals1 r
  subst eu
  cases rx
  obtain ⟨its, rv, pl, hz⟩ := I.list hq
  have ei := refs_at rv
  subst ei
  rw [List.length_map] at hz
  obtain ⟨xs, hl, hks, his, hpr⟩ := pairsT_of I hp
  obtain ⟨o, n, ho, hc, hd, hdat⟩ := pl
  have hlen : (xs.map fun x => (Value.ref x.2.1, x.2.2)).length = xs.length := by rw [List.length_map]
  refine PySem.call_dict_pairsH (knd := tupleKind (mixKind X.prog X.w)) (ps := xs) (PairArg.list a (ps.map Value.ref).toArray (fun j => ps.getD j 0) (xs.map fun x => (Value.ref x.2.1, x.2.2))) (I.ok.hd hcalm) ?_ ?_ ?_ ?_ ?_ fun h' tk hd' k => ?_
  · exact hu
  · refine ⟨⟨o, n, ho, hc, hd, hdat⟩, by rw [hlen, hl]; simp, fun j kk v e => ?_⟩
    rw [List.getElem?_map] at e
    obtain ⟨x, e1, e2⟩ := Option.map_eq_some_iff.mp e
    cases e2
    obtain ⟨b, g1, g2⟩ := hpr j x e1
    have hb : ps.getD j 0 = b := by rw [List.getD_eq_getElem?_getD, g1]; rfl
    refine ⟨by simp [g1], ?_⟩
    show PairAt s.heap (ps.getD j 0) _ _
    rw [hb]
    exact .inl g2
  · refine ⟨hlen.symm, fun i key v e => ?_⟩
    have e : (xs.map fun x => (Value.ref x.2.1, x.2.2))[i]? = some (key, v) := e
    rw [List.getElem?_map] at e
    obtain ⟨x, e1, e2⟩ := Option.map_eq_some_iff.mp e
    cases e2
    exact ⟨x.1, x.2.1, e1, rfl⟩
  · exact fun h' hk x hx => tupleKind_stays.stays (fun b o vs n e _ => hk b o (Nat.ne_of_lt (Heap.lt_size e)) (fun q => nomatch q) e) (his x hx)
  · rw [hlen, hl]; exact hz
  · have hm : (s.heap.objs.size == sysModules) = false := beq_eq_false_iff_ne.mpr (Nat.ne_of_gt I.big)
    have hr : RawN s.heap.objs.size (distL (kvs.map (·.1))).length h' := by
      obtain ⟨o2, es, ep, g1, g2, g3, g4, _, _⟩ := hd'
      refine ⟨hm, ?_, o2, es, ep, g1, g2, g3, ?_⟩
      · have := distL_len (kvs.map (·.1))
        rw [← hks, List.length_map] at this
        rw [← hks]
        omega
      · rw [← Array.length_toList, g4, List.length_map, ← pairsH_length, pairsH_storedAllH]
        show (merged [] (pairsH xs)).length = _
        rw [len_merged, ← hks]
        unfold pairsH
        rw [List.map_map]
        rfl
    exact ⟨.ref s.heap.objs.size, upd H s.heap.objs.size _, I.laid (t' := tk) (fun b o e => k b o (fun q => nomatch q) e) (Nat.le_refl _) (ext_ok hr), rfl, q _ (I.hok.fresh (Nat.le_refl _))⟩
end
/-! ### the rule -/
def fstK : D → Option D
  | .tup [k, _] => some k
  | _ => none
def unlikeP : D → Option D
  | .lst l => match allSome fstK l with
    | some ks => match allSome keyD ks with
      | some ks' => some (.int ((distL ks').length : Nat))
      | none => match allSome tkeyD ks with
        | some ks' => some (.int ((distL ks').length : Nat))
        | none => none
    | none => none
  | _ => none
section
variable {T : Th} {F H : Hp} {al : Nat → Addr} {n : Nat} {K : PySem.W.Frag}
theorem pairsK_rp (sub : ∀ a o, F a = some o → H a = some o) : ∀ {l : List D} {ks : List D} {ks' : List Key} {xs : List V}, RpL T F al n xs l → allSome fstK l = some ks → allSome keyD ks = some ks' →
    ∃ (ps : List Addr) (kvs : List (Key × V)), xs = ps.map V.ref ∧ kvs.map (·.1) = ks' ∧ Paired (fun p kv => SqT K H p [kV kv.1, kv.2]) ps kvs
  | [], ks, ks', xs, r, h1, h2 => by
    cases h1; cases h2; cases r
    exact ⟨[], [], rfl, rfl, .nil⟩
  | d :: l, ks, ks', xs, r, h1, h2 => by
    unfold allSome at h1
    split at h1
    · rename_i k kr e1 e2
      cases h1
      unfold allSome at h2
      split at h2
      · rename_i k' kr' e3 e4
        cases h2
        cases r with
        | cons r1 r2 =>
          obtain ⟨ps, kvs, i1, i2, i3⟩ := pairsK_rp sub r2 e2 e4
          cases d with
          | tup m =>
            match m, e1, r1 with
            | [x, y], e1, r1 =>
              cases e1
              cases r1 with
              | tup g1 g2 =>
                cases g2 with
                | cons q1 q2 =>
                  cases q2 with
                  | cons q3 q4 =>
                    cases q4
                    rename_i a _ _ v
                    have := keyD_rp q1 e3
                    subst this
                    exact ⟨_ :: ps, (k', _) :: kvs, by rw [List.map_cons, i1], by rw [List.map_cons, i2], .cons (SqT.of (sub _ _ g1)) i3⟩
          | _ => cases e1
      · cases h2
    · cases h1
theorem pairsT_rp (sub : ∀ a o, F a = some o → H a = some o) : ∀ {l : List D} {ks : List D} {ks' : List (List Key)} {xs : List V}, RpL T F al n xs l → allSome fstK l = some ks → allSome tkeyD ks = some ks' →
    ∃ (ps : List Addr) (kvs : List (List Key × V)), xs = ps.map V.ref ∧ kvs.map (·.1) = ks' ∧ Paired (fun p kv => ∃ b, SqT K H p [.ref b, kv.2] ∧ H b = some (.tup (kv.1.map kV))) ps kvs
  | [], ks, ks', xs, r, h1, h2 => by
    cases h1; cases h2; cases r
    exact ⟨[], [], rfl, rfl, .nil⟩
  | d :: l, ks, ks', xs, r, h1, h2 => by
    unfold allSome at h1
    split at h1
    · rename_i k kr e1 e2
      cases h1
      unfold allSome at h2
      split at h2
      · rename_i k' kr' e3 e4
        cases h2
        cases r with
        | cons r1 r2 =>
          obtain ⟨ps, kvs, i1, i2, i3⟩ := pairsT_rp sub r2 e2 e4
          cases d with
          | tup m =>
            match m, e1, r1 with
            | [x, y], e1, r1 =>
              cases e1
              cases r1 with
              | tup g1 g2 =>
                cases g2 with
                | cons q1 q2 =>
                  cases q2 with
                  | cons q3 q4 =>
                    cases q4
                    cases k with
                    | tup m =>
                      cases q1 with
                      | tup z1 z2 =>
                        have := keysD_rp z2 e3
                        subst this
                        exact ⟨_ :: ps, (k', _) :: kvs, by rw [List.map_cons, i1], by rw [List.map_cons, i2], .cons ⟨_, SqT.of (sub _ _ g1), sub _ _ z1⟩ i3⟩
                    | _ => cases e3
          | _ => cases e1
      · cases h2
    · cases h1
end
theorem de_lenDict {X : Cx} {cl : Nat → Addr} {W : WX} {e : PySem.Expr} {f : EF} {p1 p2 pos pos2 : Pos} (hc : X.calm = true) (hu : X.A.units + 2 < cLine) (hg : Gl X "len") (hm : X.mg "len" = none) (hg2 : Gl X "dict") (hm2 : X.mg "dict" = none) (h : DKk X cl W e f)
    (he : starEach [.Call (.Name "dict" p2) [e] [] pos2] X.env = (false, eval (.Call (.Name "dict" p2) [e] [] pos2) X.env) :: starEach [] X.env := by rfl) (hpl : (backTo pos (starEach [] X.env)).any (·.1) = false := by rfl)
    (he2 : starEach [e] X.env = (false, eval e X.env) :: starEach [] X.env := by rfl) (hpl2 : (backTo pos2 (starEach [] X.env)).any (·.1) = false := by rfl) :
    DE X cl W (.Call (.Name "len" p1) [.Call (.Name "dict" p2) [e] [] pos2] [] pos) (dOp1 unlikeP f) :=
  PE.imp (pe_callB call_lenN hg hm boot_len (pa_cons (pe_callTy (CallR.or (call_dictN hc) (call_dictTN hc hu)) hg2 hm2 (by decide +kernel) (pa_cons h pa_nil he2) (by decide) (by decide) he2 hpl2) pa_nil he) (by decide) (by decide) he hpl) fun σ H Q q =>
    tCB1 (r := fun xs H Q => (rDictK X xs H (fun v H2 => rLenN [v] H2 Q)) ∨ (rDictT X xs H (fun v H2 => rLenN [v] H2 Q))) (fun F al mu H m x d res t e Q k => by
      unfold unlikeP at e
      split at e
      · rename_i l
        obtain ⟨a, xs, rfl, h1, h2⟩ := t
        split at e
        · rename_i ks hks
          split at e
          · rename_i ks' hk
            cases e
            obtain ⟨ps, kvs, rfl, g2, g3⟩ := pairsK_rp (K := X.K) m.sub h2 hks hk
            refine .inl ⟨a, ps, kvs, rfl, SqL.of h1, g3, fun p hp => ⟨p, _, rfl, upd_same, ?_⟩⟩
            rw [g2]
            exact k _ F _ (Ext.laidH m hp) (.int _)
          · split at e
            · rename_i ks' hk
              cases e
              obtain ⟨ps, kvs, rfl, g2, g3⟩ := pairsT_rp (K := X.K) m.sub h2 hks hk
              refine .inr ⟨a, ps, kvs, rfl, SqL.of h1, g3, fun p hp => ⟨p, _, rfl, upd_same, ?_⟩⟩
              rw [g2]
              exact k _ F _ (Ext.laidH m hp) (.int _)
            · cases e
        · cases e
      · cases e) q
end DL
end

section
set_option Elab.async false
set_option linter.all false
/-! EX: room. -/
namespace DL
open PySem PySem.Spec PyProof.Rows L2
theorem u2 {k : Nat} {A : Around} (r : Room k A) : A.units + 2 < cLine := by have := r.un; omega
end DL
end

section
set_option Elab.async false
set_option linter.all false
set_option maxRecDepth 100000
set_option maxHeartbeats 4000000

namespace DL
open PySem PySem.Spec PyProof.Rows
open L2 hiding St
def top (i : Nat) : Stmt := PySem.Challenge.pw_watchwebs_k03_first_wrong_lines.main.body.getD i (.Pass ⟨0, 0, 0, 0⟩)
def inC (s : Stmt) (j : Nat) : Stmt := match s with
  | .ClassDef _ _ _ b .. => b.getD j (.Pass ⟨0, 0, 0, 0⟩)
  | s => s
abbrev s__law_pot : Stmt := (top 23)
abbrev s__law_draw : Stmt := (top 24)
abbrev s__law_pick : Stmt := (top 25)
abbrev s_is_number : Stmt := (top 5)
abbrev s_is_within : Stmt := (top 6)
abbrev s_is_listed : Stmt := (top 7)
abbrev s_have_no_twice : Stmt := (top 8)
abbrev s_is_name : Stmt := (top 14)
abbrev s_are_spots : Stmt := (top 15)
abbrev s_is_pair_below : Stmt := (top 16)
abbrev s_steps_away : Stmt := (top 17)
abbrev s_Web_init : Stmt := (inC (top 18) 0)
abbrev s__law_same : Stmt := (top 26)
abbrev s__law_within : Stmt := (top 27)
abbrev s__law_pairs : Stmt := (top 28)
abbrev s__law_word : Stmt := (top 30)
abbrev s__law_is_name : Stmt := (top 31)
abbrev s__law_names : Stmt := (top 29)
abbrev s__law_spec : Stmt := (top 32)
abbrev s__law_fault : Stmt := (top 33)
abbrev s_LineReader_init : Stmt := (inC (top 20) 0)
abbrev s_LineReader_takes : Stmt := (inC (top 20) 1)
abbrev s_read_web : Stmt := (top 21)
abbrev s__law_lines : Stmt := (top 34)
abbrev s__law_reader : Stmt := (top 35)
abbrev s__law_bent_line : Stmt := (top 36)
abbrev s__law_bent_text : Stmt := (top 37)
abbrev s__law_found_k03 : Stmt := (top 38)
abbrev s__law_due : Stmt := (top 39)
abbrev s_law_k03 : Stmt := (top 40)
def d__law_pot : He.DefD := ⟨("_law_pot", none), "_law_pot", "_law_pot", defArgs s__law_pot, defBody s__law_pot, defScope s__law_pot, [], []⟩
def d__law_draw : He.DefD := ⟨("_law_draw", none), "_law_draw", "_law_draw", defArgs s__law_draw, defBody s__law_draw, defScope s__law_draw, [], []⟩
def d__law_pick : He.DefD := ⟨("_law_pick", none), "_law_pick", "_law_pick", defArgs s__law_pick, defBody s__law_pick, defScope s__law_pick, [], []⟩
def d_is_number : He.DefD := ⟨("is_number", none), "is_number", "is_number", defArgs s_is_number, defBody s_is_number, defScope s_is_number, [], []⟩
def d_is_within : He.DefD := ⟨("is_within", none), "is_within", "is_within", defArgs s_is_within, defBody s_is_within, defScope s_is_within, [], []⟩
def d_is_listed : He.DefD := ⟨("is_listed", none), "is_listed", "is_listed", defArgs s_is_listed, defBody s_is_listed, defScope s_is_listed, [], []⟩
def d_have_no_twice : He.DefD := ⟨("have_no_twice", none), "have_no_twice", "have_no_twice", defArgs s_have_no_twice, defBody s_have_no_twice, defScope s_have_no_twice, [], []⟩
def d_is_name : He.DefD := ⟨("is_name", none), "is_name", "is_name", defArgs s_is_name, defBody s_is_name, defScope s_is_name, [], []⟩
def d_are_spots : He.DefD := ⟨("are_spots", none), "are_spots", "are_spots", defArgs s_are_spots, defBody s_are_spots, defScope s_are_spots, [], []⟩
def d_is_pair_below : He.DefD := ⟨("is_pair_below", none), "is_pair_below", "is_pair_below", defArgs s_is_pair_below, defBody s_is_pair_below, defScope s_is_pair_below, [], []⟩
def d_steps_away : He.DefD := ⟨("steps_away", none), "steps_away", "steps_away", defArgs s_steps_away, defBody s_steps_away, defScope s_steps_away, [], []⟩
def d_Web_init : He.DefD := ⟨("Web", some "__init__"), "__init__", "Web.__init__", defArgs s_Web_init, defBody s_Web_init, defScope s_Web_init, [], []⟩
def d__law_same : He.DefD := ⟨("_law_same", none), "_law_same", "_law_same", defArgs s__law_same, defBody s__law_same, defScope s__law_same, [], []⟩
def d__law_within : He.DefD := ⟨("_law_within", none), "_law_within", "_law_within", defArgs s__law_within, defBody s__law_within, defScope s__law_within, [], []⟩
def d__law_pairs : He.DefD := ⟨("_law_pairs", none), "_law_pairs", "_law_pairs", defArgs s__law_pairs, defBody s__law_pairs, defScope s__law_pairs, [], []⟩
def d__law_word : He.DefD := ⟨("_law_word", none), "_law_word", "_law_word", defArgs s__law_word, defBody s__law_word, defScope s__law_word, [], []⟩
def d__law_is_name : He.DefD := ⟨("_law_is_name", none), "_law_is_name", "_law_is_name", defArgs s__law_is_name, defBody s__law_is_name, defScope s__law_is_name, [], []⟩
def d__law_names : He.DefD := ⟨("_law_names", none), "_law_names", "_law_names", defArgs s__law_names, defBody s__law_names, defScope s__law_names, [], []⟩
def d__law_spec : He.DefD := ⟨("_law_spec", none), "_law_spec", "_law_spec", defArgs s__law_spec, defBody s__law_spec, defScope s__law_spec, [], []⟩
def d__law_fault : He.DefD := ⟨("_law_fault", none), "_law_fault", "_law_fault", defArgs s__law_fault, defBody s__law_fault, defScope s__law_fault, [], []⟩
def d_LineReader_init : He.DefD := ⟨("LineReader", some "__init__"), "__init__", "LineReader.__init__", defArgs s_LineReader_init, defBody s_LineReader_init, defScope s_LineReader_init, [], []⟩
def d_LineReader_takes : He.DefD := ⟨("LineReader", some "takes"), "takes", "LineReader.takes", defArgs s_LineReader_takes, defBody s_LineReader_takes, defScope s_LineReader_takes, [], []⟩
def d_read_web : He.DefD := ⟨("read_web", none), "read_web", "read_web", defArgs s_read_web, defBody s_read_web, defScope s_read_web, [], []⟩
def d__law_lines : He.DefD := ⟨("_law_lines", none), "_law_lines", "_law_lines", defArgs s__law_lines, defBody s__law_lines, defScope s__law_lines, [], []⟩
def d__law_reader : He.DefD := ⟨("_law_reader", none), "_law_reader", "_law_reader", defArgs s__law_reader, defBody s__law_reader, defScope s__law_reader, [], []⟩
def d__law_bent_line : He.DefD := ⟨("_law_bent_line", none), "_law_bent_line", "_law_bent_line", defArgs s__law_bent_line, defBody s__law_bent_line, defScope s__law_bent_line, [], []⟩
def d__law_bent_text : He.DefD := ⟨("_law_bent_text", none), "_law_bent_text", "_law_bent_text", defArgs s__law_bent_text, defBody s__law_bent_text, defScope s__law_bent_text, [], []⟩
def d__law_found_k03 : He.DefD := ⟨("_law_found", none), "_law_found", "_law_found", defArgs s__law_found_k03, defBody s__law_found_k03, defScope s__law_found_k03, [], []⟩
def d__law_due : He.DefD := ⟨("_law_due", none), "_law_due", "_law_due", defArgs s__law_due, defBody s__law_due, defScope s__law_due, [], []⟩
def d_law_k03 : He.DefD := ⟨("law", none), "law", "law", defArgs s_law_k03, defBody s_law_k03, defScope s_law_k03, [], []⟩
abbrev s_e_BadWeb : Stmt := inC (top 2) 0
def d_e_BadWeb : EDef := ⟨"BadWeb", "BadWeb.__init__", defArgs s_e_BadWeb, defBody s_e_BadWeb, defScope s_e_BadWeb, ["what"]⟩
abbrev s_e_BadText : Stmt := inC (top 3) 0
def d_e_BadText : EDef := ⟨"BadText", "BadText.__init__", defArgs s_e_BadText, defBody s_e_BadText, defScope s_e_BadText, ["line", "what"]⟩
def fn : List He.DefD := [d__law_pot, d__law_draw, d__law_pick, d_is_number, d_is_within, d_is_listed, d_have_no_twice, d_is_name, d_are_spots, d_is_pair_below, d_steps_away, d_Web_init, d__law_same, d__law_within, d__law_pairs, d__law_word, d__law_is_name, d__law_names, d__law_spec, d__law_fault, d_LineReader_init, d_LineReader_takes, d_read_web, d__law_lines, d__law_reader, d__law_bent_line, d__law_bent_text, d__law_found_k03, d__law_due, d_law_k03]
def es : List EDef := [d_e_BadWeb, d_e_BadText]
def fa : List He.Fa := [.glo "_law_pot",
  .glo "_law_draw",
  .glo "_law_pick",
  .glo "is_number",
  .glo "is_within",
  .glo "is_listed",
  .glo "have_no_twice",
  .glo "is_name",
  .glo "are_spots",
  .glo "is_pair_below",
  .glo "steps_away",
  .glo "_law_same",
  .glo "_law_within",
  .glo "_law_pairs",
  .glo "_law_word",
  .glo "_law_is_name",
  .glo "_law_names",
  .glo "_law_spec",
  .glo "_law_fault",
  .glo "read_web",
  .glo "_law_lines",
  .glo "_law_reader",
  .glo "_law_bent_line",
  .glo "_law_bent_text",
  .glo "_law_found",
  .glo "_law_due",
  .glo "law",
  .free "abs",
  .free "all",
  .free "bool",
  .free "dict",
  .free "enumerate",
  .free "int",
  .free "isinstance",
  .free "len",
  .free "list",
  .free "range",
  .free "sorted",
  .free "str",
  .free "tuple",
  .free "super",
  .int "LONGEST" 8,
  .int "MOST_SPOTS" 9,
  .str "SIGNS" "abcdefghijklmnopqrstuvwxyz",
  .glo "WORDS",
  .glo "Web",
  .cls "Web",
  .mkr "Web",
  .noat "Web" "away",
  .noat "Web" "ended",
  .noat "Web" "read_roads",
  .noat "Web" "read_spots",
  .noat "Web" "roads",
  .noat "Web" "spots",
  .glo "LineReader",
  .cls "LineReader",
  .mkr "LineReader",
  .noat "LineReader" "away",
  .noat "LineReader" "ended",
  .noat "LineReader" "read_roads",
  .noat "LineReader" "read_spots",
  .noat "LineReader" "roads",
  .noat "LineReader" "spots",
  .meth "LineReader" "takes"]
def clK (K : PySem.W.Frag) : Nat → Addr := fun c => if c = 0 then He.ga K "Web" else if c = 1 then He.ga K "LineReader" else if c = 1001 then He.ga K "BadWeb" else if c = 1002 then He.ga K "BadText" else 0
def tf : List He.Defn := []
def exT (K : PySem.W.Frag) (C : Addr) : Bool := !decide (C = 0) && (He.eqO (PySem.W.findIn K (.ref C) "__class__") (some (some (.builtin "object.__class__"))) && (He.eqO (PySem.W.specialIn K (.builtin "object.__class__") "__get__") (some (some (.builtin "getset_descriptor.__get__"))) &&
  (decide (PySem.W.takesIn K (.builtin "object.__class__") = some true) && (decide (PySem.W.mroIn K C (.type "object") = some true) && [Ty.int, .bool, .str, .list, .tuple, .dict].all fun t => decide (PySem.W.kitOne K (.ref C) (.type t.n) = some false)))))
theorem exT_ok {K : PySem.W.Frag} {C : Addr} (h : exT K C = true) (c : Cls K C) : C ≠ 0 ∧ ClsT K C := by
  unfold exT at h
  simp only [Bool.and_eq_true] at h
  obtain ⟨h0, h1, h2, h3, h4, h5⟩ := h
  refine ⟨by simpa using h0, c, He.eqO_ok h1, He.eqO_ok h2, of_decide_eq_true h3, of_decide_eq_true h4, fun t => of_decide_eq_true (List.all_eq_true.mp h5 t (by cases t <;> decide))⟩
def exL (K : PySem.W.Frag) : List Bool := [exT K (He.ga K "Web"),
  exT K (He.ga K "LineReader"),
  He.tupB K "WORDS" [.str "spot", .str "road", .str "over"],
  errB K d_e_BadWeb PySem.Challenge.pw_watchwebs_k03_first_wrong_lines.main.file,
  errB K d_e_BadText PySem.Challenge.pw_watchwebs_k03_first_wrong_lines.main.file,
  decide (PySem.W.exmOne K (.ref (He.ga K "BadWeb")) (.ref (He.ga K "BadText")) = some false),
  decide (PySem.W.exmOne K (.ref (He.ga K "BadWeb")) (.ref (He.ga K "BadWeb")) = some true),
  decide (PySem.W.exmOne K (.ref (He.ga K "BadText")) (.ref (He.ga K "BadText")) = some true),
  decide (PySem.W.exmOne K (.ref (He.ga K "BadText")) (.ref (He.ga K "BadWeb")) = some false),
  xfB K (He.ga K "BadText"),
  decide (PySem.W.findIn K (.ref (He.ga K "BadText")) "line" = some none),
  decide (PySem.W.findIn K (.ref (He.ga K "BadText")) "what" = some none),
  xfB K (He.ga K "BadWeb"),
  decide (PySem.W.findIn K (.ref (He.ga K "BadWeb")) "what" = some none)]
def ex (K : PySem.W.Frag) : Bool := (exL K).all id
theorem ex_at {K : PySem.W.Frag} (h : ex K = true) (i : Nat) {b : Bool} (e : (exL K)[i]? = some b) : b = true := List.all_eq_true.mp h b (List.mem_of_getElem? e)
abbrev R : PySem.W.OpenRow := PySem.W.OpenLaw.row PySem.Challenge.rw_watchwebs_k03_first_wrong_lines
abbrev hk : PySem.W.Hook := hookE 6 fa fn es tf ex
def ob (s : PySem.W.SharedT) : AlE := obsE 6 fa fn es tf ex (HandSHeadRun.getT s)
theorem ob_eq (s : PySem.W.SharedT) : ob s = hk.obs s.abs := obsE_eq (HandSHeadRun.getT_eq s)
def loose : List PySem.Str := (["WatchError", "BadWeb", "BadText", "is_number", "is_within", "is_listed", "have_no_twice", "WORDS", "SIGNS", "LONGEST", "MOST_SPOTS", "is_name", "are_spots", "is_pair_below", "steps_away", "Web", "LineReader", "read_web", "_law_pot", "_law_draw", "_law_pick", "_law_same", "_law_within", "_law_pairs", "_law_names", "_law_word", "_law_is_name", "_law_spec", "_law_fault", "_law_lines"] : List PySem.Str) ++ (["_law_reader", "_law_bent_line", "_law_bent_text", "_law_found", "_law_due"] : List PySem.Str)
set_option maxHeartbeats 0 in
theorem run (w : World) : HandSHeadRun.RunEq R (PySem.W.view R.prog [40]) hk ob 4000 loose w := by
  intro os
  kernel_rfl
end DL
end

section
set_option Elab.async false
set_option linter.all false
set_option maxRecDepth 100000
set_option maxHeartbeats 4000000
namespace DL
open PySem
def q__law_pot_1 : NF :=
  (dLc (dItQ (dSl (dVar 0) dNoP (dP (dC (.int 63))))) (.nm 1) [1] dYes (dOp1 absD (dLook (dVar 1))))
def g__law_pot : SF :=
  (sRet (dReg (dLst (dCons (dFrz q__law_pot_1) (dCons (dC (.int 0)) (dCons (dC (.int 20011)) (dCons (dC (.int 0)) dNil)))))))
def f__law_pot : FF := (dFun 2 g__law_pot)

def g__law_draw : SF :=
  (sSeq (sIf (dCmp ltD (dVar 1) (dC (.int 2))) (sRet (dC (.int 0))) sSkip)
  (sSeq (sIf (dCmp gtI (dIx (dVar 0) (dC (.int 3))) (dC (.int 0))) (sSeq (sAsg 3 (dOp2 modD (dOp1 intD (dLook (dIx (dVar 0) (dC (.int 3))))) (dVar 1)))
  (sSeq (sSetI (dVar 0) (dC (.int 3)) (dOp2 divD (dIx (dVar 0) (dC (.int 3))) (dVar 1)))
  (sRet (dVar 3)))) sSkip)
  (sSeq (sAsg 2 (dC (.int 0)))
  (sSeq (sIf (dCmp ltD (dIx (dVar 0) (dC (.int 1))) (dOp1 lenD (dLook (dIx (dVar 0) (dC (.int 0)))))) (sSeq (sAsg 2 (dIx (dIx (dVar 0) (dC (.int 0))) (dIx (dVar 0) (dC (.int 1)))))
  (sSeq (sSetI (dVar 0) (dC (.int 1)) (dOp2 addD (dIx (dVar 0) (dC (.int 1))) (dC (.int 1))))
  (sIf (dCmp geI (dVar 2) (dOp2 powD (dC (.int 10)) (dC (.int 18)))) (sSeq (sSetI (dVar 0) (dC (.int 3)) (dOp2 divD (dVar 2) (dVar 1)))
  (sRet (dOp2 modD (dOp1 intD (dLook (dVar 2))) (dVar 1)))) sSkip))) sSkip)
  (sSeq (sSetI (dVar 0) (dC (.int 2)) (dOp2 modD (dOp1 intD (dLook (dOp2 addD (dOp2 addD (dOp2 mulD (dIx (dVar 0) (dC (.int 2))) (dC (.int 48271))) (dVar 2)) (dC (.int 12345))))) (dC (.int 2147483647))))
  (sRet (dOp2 modD (dOp1 intD (dLook (dOp2 addD (dOp2 divD (dOp2 mulD (dIx (dVar 0) (dC (.int 2))) (dIx (dVar 0) (dC (.int 2)))) (dC (.int 64))) (dOp2 divD (dIx (dVar 0) (dC (.int 2))) (dC (.int 7)))))) (dVar 1))))))))
def f__law_draw : FF := (dFun 4 g__law_draw)

def g__law_pick : SF :=
  (sRet (dIx (dVar 1) (dCall f__law_draw (dCons (dVar 0) (dCons (dOp1 lenD (dLook (dVar 1))) dNil)))))
def f__law_pick : FF := (dFun 2 g__law_pick)

def g_is_number : SF :=
  (sRet (dB2v (dAnd (dIsi .int (dLook (dVar 0))) (dNot (dIsi .bool (dLook (dVar 0)))))))
def f_is_number : FF := (dFun 1 g_is_number)

def g_is_within : SF :=
  (sRet (dB2v (dAnd (dTst (dCall f_is_number (dCons (dVar 0) dNil))) (dChn leI leI (dVar 1) (dVar 0) (dVar 2)))))
def f_is_within : FF := (dFun 3 g_is_within)

def g_is_listed : SF :=
  (sRet (dB2v (dIsi2 .list .tuple (dLook (dVar 0)))))
def f_is_listed : FF := (dFun 1 g_is_listed)

def g_have_no_twice : SF :=
  (sRet (dB2v (dCmp eqD (dOp1 unlikeD (dVar 0)) (dOp1 lenD (dLook (dVar 0))))))
def f_have_no_twice : FF := (dFun 2 g_have_no_twice)

def g_is_name : SF :=
  (sSeq (sIf (dOr (dNot (dIsi .str (dLook (dVar 0)))) (dOr (dNot (dChn leI leI (dC (.int 1)) (dOp1 lenD (dLook (dVar 0))) (dC (.int 8)))) (dCmp neD (dM1 "str" stripD (dVar 0) (dC (.str "abcdefghijklmnopqrstuvwxyz"))) (dC (.str ""))))) (sRet (dC (.bl false))) sSkip)
  (sRet (dB2v (dIn true (dVar 0) (dC (.tup ((["spot", "road", "over"] : List Str).map D.str)))))))
def f_is_name : FF := (dFun 1 g_is_name)

def q_are_spots_1 : NF :=
  (dLc (dItQ (dVar 0)) (.nm 1) [1] dYes (dCall f_is_name (dCons (dVar 1) dNil)))
def g_are_spots : SF :=
  (sSeq (sIf (dOr (dNot (dTst (dCall f_is_listed (dCons (dVar 0) dNil)))) (dNot (dChn leI leI (dC (.int 1)) (dOp1 lenD (dLook (dVar 0))) (dC (.int 9))))) (sRet (dC (.bl false))) sSkip)
  (sRet (dB2v (dAnd (dTst (dOp1 allD (dLook (dFrz q_are_spots_1)))) (dTst (dCall f_have_no_twice (dCons (dVar 0) dNil)))))))
def f_are_spots : FF := (dFun 2 g_are_spots)

def g_is_pair_below : SF :=
  (sSeq (sIf (dOr (dNot (dIsi .tuple (dLook (dVar 0)))) (dOr (dCmp neD (dOp1 lenD (dLook (dVar 0))) (dC (.int 2))) (dNot (dTst (dCall f_is_within (dCons (dIx (dVar 0) (dC (.int 1))) (dCons (dC (.int 1)) (dCons (dOp2 subD (dVar 1) (dC (.int 1))) dNil)))))))) (sRet (dC (.bl false))) sSkip)
  (sRet (dCall f_is_within (dCons (dIx (dVar 0) (dC (.int 0))) (dCons (dC (.int 0)) (dCons (dOp2 subD (dIx (dVar 0) (dC (.int 1))) (dC (.int 1))) dNil))))))
def f_is_pair_below : FF := (dFun 2 g_is_pair_below)

def b_steps_away_1 : SF :=
  (sIf (dIn false (dIx (dVar 4) (dVar 5)) (dLook (dTup (dCons (dVar 6) (dCons (dVar 7) dNil))))) (sSeq (sAsg 8 (dOp2 subD (dOp2 addD (dVar 6) (dVar 7)) (dIx (dVar 4) (dVar 5))))
  (sIf (dIsN (dIx (dVar 3) (dVar 8))) (sSeq (sSetI (dVar 3) (dVar 8) (dOp2 addD (dIx (dVar 3) (dIx (dVar 4) (dVar 5))) (dC (.int 1))))
  (sExpr (dMut appD (dVar 4) (dCons (dVar 8) dNil)))) sSkip)) sSkip)
def b_steps_away_2 : SF :=
  (sSeq (sFor (dItQ (dVar 1)) (.tp [6, 7]) b_steps_away_1)
  (sAug 5 (fun i j => i + j) (dC (.int 1))))
def c_steps_away_1 : BF :=
  (dCmp ltD (dVar 5) (dOp1 lenD (dLook (dVar 4))))
def g_steps_away : SF :=
  (sSeq (sAsg 3 (dReg (dNw2 repD (dFrz (dLst (dCons (dC .non) dNil))) (dVar 0))))
  (sSeq (sSetI (dVar 3) (dVar 2) (dC (.int 0)))
  (sSeq (sAsg 4 (dReg (dLst (dCons (dVar 2) dNil))))
  (sSeq (sAsg 5 (dC (.int 0)))
  (sSeq (sWhl c_steps_away_1 b_steps_away_2 60)
  (sRet (dFz (dVar 3))))))))
def f_steps_away : FF := fGc (dFun 9 g_steps_away)

def q_Web_init_1 : NF :=
  (dLc (dItQ (dVar 2)) (.nm 4) [4] dYes (dCall f_is_pair_below (dCons (dVar 4) (dCons (dOp1 lenD (dLook (dVar 1))) dNil))))
def q_Web_init_2 : NF :=
  (dLc (dRg1 (dOp1 lenD (dLook (dVar 1)))) (.nm 3) [3] dYes (dCall f_steps_away (dCons (dOp1 lenD (dLook (dVar 1))) (dCons (dVar 2) (dCons (dVar 3) dNil)))))
def g_Web_init : SF :=
  (sSeq (sIf (dNot (dTst (dCall f_are_spots (dCons (dVar 1) dNil)))) (sRaise 1001 ["what"] (dCons (dC (.str "spots")) dNil)) sSkip)
  (sSeq (sIf (dOr (dNot (dTst (dCall f_is_listed (dCons (dVar 2) dNil)))) (dNot (dTst (dOp1 allD (dLook (dFrz q_Web_init_1)))))) (sRaise 1001 ["what"] (dCons (dC (.str "roads")) dNil)) sSkip)
  (sSeq (sIf (dNot (dTst (dCall f_have_no_twice (dCons (dVar 2) dNil)))) (sRaise 1001 ["what"] (dCons (dC (.str "roads")) dNil)) sSkip)
  (sSeq (sSetA "spots" (dVar 0) (dOp1 tupleD (dLook (dVar 1))))
  (sSeq (sSetA "roads" (dVar 0) (dOp1 tupleD (dLook (dFrz (dNw1 sortedD (dLook (dVar 2)))))))
  (sSetA "away" (dVar 0) (dFrz q_Web_init_2)))))))
def f_Web_init : FF := (dFun 5 g_Web_init)

def q__law_same_1 (fself : FF) : NF :=
  (dLc (dRg1 (dOp1 lenD (dLook (dVar 1)))) (.nm 2) [2] (dNot (dTst (dCall fself (dCons (dIx (dVar 0) (dVar 2)) (dCons (dIx (dVar 1) (dVar 2)) dNil))))) (dVar 2))
def g__law_same (fself : FF) : SF :=
  (sSeq (sIf (dOr (dIsi .tuple (dLook (dVar 1))) (dIsi .list (dLook (dVar 1)))) (sSeq (sIf (dOr (dCmp neD (dB2v (dIsi .tuple (dLook (dVar 1)))) (dB2v (dIsi .tuple (dLook (dVar 0))))) (dCmp neD (dB2v (dIsi .list (dLook (dVar 1)))) (dB2v (dIsi .list (dLook (dVar 0)))))) (sRet (dC (.bl false))) sSkip)
  (sSeq (sIf (dCmp neD (dOp1 lenD (dLook (dVar 0))) (dOp1 lenD (dLook (dVar 1)))) (sRet (dC (.bl false))) sSkip)
  (sRet (dB2v (dCmp eqD (dFrz (q__law_same_1 fself)) (dFrz (dLst dNil))))))) sSkip)
  (sSeq (sIf (dIsN (dVar 1)) (sRet (dB2v (dIsN (dVar 0)))) sSkip)
  (sSeq (sIf (dIsi .str (dLook (dVar 1))) (sRet (dB2v (dAnd (dIsi .str (dLook (dVar 0))) (dCmp eqD (dVar 0) (dVar 1))))) sSkip)
  (sRet (dB2v (dAnd (dIsi .int (dLook (dVar 0))) (dAnd (dCmp eqD (dB2v (dIsi .bool (dLook (dVar 0)))) (dB2v (dIsi .bool (dLook (dVar 1))))) (dCmp eqD (dVar 0) (dVar 1)))))))))
def f__law_same_at : Nat → FF
  | 0 => fun _ _ => .bad
  | n + 1 => (dFun 3 (g__law_same (f__law_same_at n)))
abbrev f__law_same : FF := f__law_same_at 6

def g__law_within : SF :=
  (sRet (dB2v (dAnd (dIsi .int (dLook (dVar 0))) (dAnd (dNot (dIsi .bool (dLook (dVar 0)))) (dChn leI leI (dVar 1) (dVar 0) (dVar 2))))))
def f__law_within : FF := (dFun 3 g__law_within)

def q__law_pairs_1 : NF :=
  (dLc (dRg1 (dVar 2)) (.nm 3) [3] dYes (dTup (dCons (dVar 3) (dCons (dVar 2) dNil))))
def b__law_pairs_1 : SF :=
  (sAsg 1 (dOp2 addD (dVar 1) (dFrz q__law_pairs_1)))
def g__law_pairs : SF :=
  (sSeq (sAsg 1 (dFrz (dLst dNil)))
  (sSeq (sFor (dRg1 (dVar 0)) (.nm 2) b__law_pairs_1)
  (sRet (dVar 1))))
def f__law_pairs : FF := (dFun 4 g__law_pairs)

def q__law_word_1 : NF :=
  (dLc (dRg1 (dVar 1)) (.nm 2) [2] dYes (dCall f__law_pick (dCons (dVar 0) (dCons (dC (.str "abcdefghijklmnopqrstuvwxyz")) dNil))))
def g__law_word : SF :=
  (sSeq (sIf (dCmp eqD (dCall f__law_draw (dCons (dVar 0) (dCons (dC (.int 6)) dNil))) (dC (.int 0))) (sRet (dCall f__law_pick (dCons (dVar 0) (dCons (dFrz (dLst (dCons (dC (.str "spot")) (dCons (dC (.str "road")) (dCons (dC (.str "over")) dNil))))) dNil)))) sSkip)
  (sSeq (sAsg 1 (dCall f__law_pick (dCons (dVar 0) (dCons (dFrz (dLst (dCons (dC (.int 1)) (dCons (dC (.int 2)) (dCons (dC (.int 3)) (dCons (dC (.int 5)) (dCons (dC (.int 8)) dNil))))))) dNil))))
  (sRet (dM1 "str" joinD (dC (.str "")) (dFrz q__law_word_1)))))
def f__law_word : FF := (dFun 3 g__law_word)

def q__law_is_name_1 : NF :=
  (dLc (dItS (dVar 0)) (.nm 1) [1] (dIn false (dVar 1) (dLook (dC (.str "abcdefghijklmnopqrstuvwxyz")))) (dVar 1))
def g__law_is_name : SF :=
  (sSeq (sIf (dOr (dNot (dIsi .str (dLook (dVar 0)))) (dOr (dNot (dChn leI leI (dC (.int 1)) (dOp1 lenD (dLook (dVar 0))) (dC (.int 8)))) (dIn false (dVar 0) (dLook (dTup (dCons (dC (.str "spot")) (dCons (dC (.str "road")) (dCons (dC (.str "over")) dNil)))))))) (sRet (dC (.bl false))) sSkip)
  (sRet (dB2v (dCmp eqD (dOp1 lenD (dLook (dFrz q__law_is_name_1))) (dOp1 lenD (dLook (dVar 0)))))))
def f__law_is_name : FF := (dFun 2 g__law_is_name)

def q__law_names_1 : NF :=
  (dLc (dItS (dC (.str "abcdefghijklmnopqrstuvwxyz"))) (.nm 6) [6] dYes (dOp2 addD (dVar 4) (dVar 6)))
def q__law_names_2 : NF :=
  (dLc (dItQ (dVar 5)) (.nm 7) [7] (dAnd (dIn true (dVar 7) (dLook (dVar 2))) (dTst (dCall f__law_is_name (dCons (dVar 7) dNil)))) (dVar 7))
def b__law_names_1 : SF :=
  (sSeq (sAsg 4 (dSl (dCall f__law_word (dCons (dVar 0) dNil)) dNoP (dP (dC (.int 7)))))
  (sSeq (sAsg 5 (dFrz q__law_names_1))
  (sExpr (dMut appD (dVar 2) (dCons (dIx (dFrz q__law_names_2) (dC (.int 0))) dNil)))))
def g__law_names : SF :=
  (sSeq (sAsg 2 (dReg (dLst dNil)))
  (sSeq (sFor (dRg1 (dVar 1)) (.nm 3) b__law_names_1)
  (sRet (dFz (dVar 2)))))
def f__law_names : FF := fGc (dFun 8 g__law_names)

def q__law_spec_1 : NF :=
  (dLc (dItQ (dCall f__law_pairs (dCons (dOp1 lenD (dLook (dVar 2))) dNil))) (.nm 4) [4] (dCmp eqD (dCall f__law_draw (dCons (dVar 0) (dCons (dVar 3) dNil))) (dC (.int 0))) (dVar 4))
def g__law_spec : SF :=
  (sSeq (sAsg 2 (dCall f__law_names (dCons (dVar 0) (dCons (dOp2 addD (dC (.int 1)) (dCall f__law_draw (dCons (dVar 0) (dCons (dVar 1) dNil)))) dNil))))
  (sSeq (sAsg 3 (dOp2 addD (dC (.int 1)) (dCall f__law_draw (dCons (dVar 0) (dCons (dC (.int 4)) dNil)))))
  (sRet (dFrz (dLst (dCons (dVar 2) (dCons (dFrz q__law_spec_1) dNil)))))))
def f__law_spec : FF := (dFun 5 g__law_spec)

def g__law_all : SF :=
  (sRet (dOp1 tupleD (dLook (dFrz (dLstRg (dOp1 lenD (dLook (dIx (dVar 0) (dC (.int 0))))))))))
def f__law_all : FF := (dFun 1 g__law_all)

def q__law_away_1 : NF :=
  (dLc (dItQ (dIx (dVar 0) (dC (.int 1)))) (.nm 7) [7] (dAnd (dIn false (dVar 6) (dLook (dVar 7))) (dIn false (dOp2 subD (dOp2 addD (dIx (dVar 7) (dC (.int 0))) (dIx (dVar 7) (dC (.int 1)))) (dVar 6)) (dLook (dVar 3)))) (dVar 7))
def q__law_away_2 : NF :=
  (dLc (dItQ (dCall f__law_all (dCons (dVar 0) dNil))) (.nm 6) [6] (dAnd (dIn true (dVar 6) (dLook (dVar 3))) (dCmp neD (dFrz q__law_away_1) (dFrz (dLst dNil)))) (dVar 6))
def b__law_away_1 : SF :=
  (sSeq (sAsg 5 (dFrz q__law_away_2))
  (sSeq (sIf (dCmp eqD (dVar 5) (dFrz (dLst dNil))) (sRet (dC .non)) sSkip)
  (sTg (.tp [3, 4]) (dTup (dCons (dOp2 addD (dVar 3) (dVar 5)) (dCons (dOp2 addD (dVar 4) (dC (.int 1))) dNil))))))
def c__law_away_1 : BF :=
  (dIn true (dVar 2) (dLook (dVar 3)))
def g__law_away : SF :=
  (sSeq (sTg (.tp [3, 4]) (dTup (dCons (dFrz (dLst (dCons (dVar 1) dNil))) (dCons (dC (.int 0)) dNil))))
  (sSeq (sWhl c__law_away_1 b__law_away_1 12)
  (sRet (dVar 4))))
def f__law_away : FF := (dFun 8 g__law_away)

def q__law_fault_1 : NF :=
  (dLc (dItQ (dVar 2)) (.nm 4) [4] (dNot (dTst (dCall f__law_is_name (dCons (dVar 4) dNil)))) (dVar 4))
def q__law_fault_2 : NF :=
  (dLc (dItQ (dVar 2)) (.nm 5) [5] dYes (dTup (dCons (dVar 5) (dCons (dC (.int 0)) dNil))))
def b__law_fault_1 : SF :=
  (sSeq (sIf (dOr (dNot (dIsi .tuple (dLook (dVar 1)))) (dOr (dCmp neD (dOp1 lenD (dLook (dVar 1))) (dC (.int 2))) (dNot (dTst (dCall f__law_within (dCons (dIx (dVar 1) (dC (.int 0))) (dCons (dC (.int 0)) (dCons (dOp2 subD (dOp1 lenD (dLook (dVar 2))) (dC (.int 1))) dNil)))))))) (sRet (dC (.str "roads"))) sSkip)
  (sIf (dNot (dTst (dCall f__law_within (dCons (dIx (dVar 1) (dC (.int 1))) (dCons (dOp2 addD (dIx (dVar 1) (dC (.int 0))) (dC (.int 1))) (dCons (dOp2 subD (dOp1 lenD (dLook (dVar 2))) (dC (.int 1))) dNil)))))) (sRet (dC (.str "roads"))) sSkip))
def q__law_fault_3 : NF :=
  (dLc (dItQ (dVar 3)) (.nm 1) [1] dYes (dTup (dCons (dVar 1) (dCons (dC (.int 0)) dNil))))
def g__law_fault : SF :=
  (sSeq (sTg (.ls [2, 3]) (dVar 0))
  (sSeq (sIf (dOr (dNot (dIsi2 .list .tuple (dLook (dVar 2)))) (dOr (dNot (dChn leI leI (dC (.int 1)) (dOp1 lenD (dLook (dVar 2))) (dC (.int 9)))) (dCmp neD (dFrz q__law_fault_1) (dFrz (dLst dNil))))) (sRet (dC (.str "spots"))) sSkip)
  (sSeq (sIf (dCmp ltD (dOp1 unlikeP (dLook (dFrz q__law_fault_2))) (dOp1 lenD (dLook (dVar 2)))) (sRet (dC (.str "spots"))) sSkip)
  (sSeq (sIf (dNot (dIsi2 .list .tuple (dLook (dVar 3)))) (sRet (dC (.str "roads"))) sSkip)
  (sSeq (sFor (dItQ (dVar 3)) (.nm 1) b__law_fault_1)
  (sRet (dIf (dCmp ltD (dOp1 unlikeP (dLook (dFrz q__law_fault_3))) (dOp1 lenD (dLook (dVar 3)))) (dC (.str "roads")) (dC .non))))))))
def f__law_fault : FF := (dFun 6 g__law_fault)

def g_LineReader_init : SF :=
  (sSeq (sSetA "read_spots" (dVar 0) (dReg (dLst dNil)))
  (sSeq (sSetA "read_roads" (dVar 0) (dReg (dLst dNil)))
  (sSetA "ended" (dVar 0) (dC (.bl false)))))
def f_LineReader_init : FF := (dFun 1 g_LineReader_init)

def q_LineReader_takes_1 : NF :=
  (dLc (dItQ (dSl (dVar 1) (dP (dC (.int 1))) dNoP)) (.nm 2) [2] dYes (dB2v (dIn false (dVar 2) (dLook (dOp1 (attrD "read_spots") (dLook (dVar 0)))))))
def g_LineReader_takes : SF :=
  (sSeq (sIf (dTst (dOp1 (attrD "ended") (dLook (dVar 0)))) (sRet (dC (.bl false))) sSkip)
  (sSeq (sIf (dCmp eqD (dIx (dVar 1) (dC (.int 0))) (dC (.str "spot"))) (sSeq (sExpr (dMut extD (dOp1 (attrD "read_spots") (dLook (dVar 0))) (dCons (dSl (dVar 1) (dP (dC (.int 1))) dNoP) dNil)))
  (sRet (dB2v (dAnd (dCmp eqD (dOp1 lenD (dLook (dVar 1))) (dC (.int 2))) (dAnd (dTst (dCall f_is_name (dCons (dIx (dVar 1) (dC (.int 1))) dNil))) (dCmp eqD (dOp1 lenD (dLook (dOp1 (attrD "read_roads") (dLook (dVar 0))))) (dC (.int 0)))))))) sSkip)
  (sSeq (sIf (dCmp eqD (dIx (dVar 1) (dC (.int 0))) (dC (.str "road"))) (sSeq (sExpr (dMut appD (dOp1 (attrD "read_roads") (dLook (dVar 0))) (dCons (dSl (dVar 1) (dP (dC (.int 1))) dNoP) dNil)))
  (sRet (dB2v (dAnd (dCmp eqD (dOp1 lenD (dLook (dVar 1))) (dC (.int 3))) (dTst (dOp1 allD (dLook (dFrz q_LineReader_takes_1)))))))) sSkip)
  (sSeq (sSetA "ended" (dVar 0) (dB2v (dCmp eqD (dVar 1) (dFrz (dLst (dCons (dC (.str "over")) dNil))))))
  (sRet (dB2v (dAnd (dTst (dOp1 (attrD "ended") (dLook (dVar 0)))) (dCmp gtI (dOp1 lenD (dLook (dOp1 (attrD "read_spots") (dLook (dVar 0))))) (dC (.int 0))))))))))
def f_LineReader_takes : FF := (dFun 3 g_LineReader_takes)

def b_read_web_1 : SF :=
  (sSeq (sAsg 7 (dM1 "str" splitD (dVar 6) (dC (.str " "))))
  (sIf (dCmp eqD (dVar 5) (dOp2 subD (dOp1 lenD (dLook (dVar 1))) (dC (.int 1)))) (sIf (dCmp neD (dVar 6) (dC (.str ""))) (sRaise 1002 ["line", "what"] (dCons (dVar 5) (dCons (dC (.str "feed")) dNil))) sSkip) (sIf (dIn false (dC (.str "")) (dLook (dVar 7))) (sRaise 1002 ["line", "what"] (dCons (dVar 5) (dCons (dC (.str "words")) dNil))) (sIf (dNot (dTst (dMeth 1 "takes" f_LineReader_takes (dVar 2) (dCons (dVar 7) dNil)))) (sRaise 1002 ["line", "what"] (dCons (dVar 5) (dCons (dC (.str "form")) dNil))) sSkip))))
def q_read_web_1 : NF :=
  (dLc (dItQ (dVar 8)) (.nm 9) [9] dYes (dM1 "list" indexD (dVar 3) (dVar 9)))
def q_read_web_2 : NF :=
  (dLc (dItQ (dFz (dOp1 (attrD "read_roads") (dLook (dVar 2))))) (.nm 8) [8] dYes (dOp1 tupleD (dLook (dFrz (dNw1 sortedD (dLook (dFrz q_read_web_1)))))))
def g_read_web : SF :=
  (sSeq (sIf (dNot (dIsi .str (dLook (dVar 0)))) (sRaise 1002 ["line", "what"] (dCons (dC (.int 0)) (dCons (dC (.str "text")) dNil))) sSkip)
  (sSeq (sAsg 1 (dM1 "str" splitD (dVar 0) (dC (.str "\n"))))
  (sSeq (sAsg 2 (dMake 1 f_LineReader_init dNil))
  (sSeq (sFor (dEnumQ (dVar 1)) (.tp [5, 6]) b_read_web_1)
  (sSeq (sIf (dNot (dTst (dOp1 (attrD "ended") (dLook (dVar 2))))) (sRaise 1002 ["line", "what"] (dCons (dOp2 subD (dOp1 lenD (dLook (dVar 1))) (dC (.int 1))) (dCons (dC (.str "missing")) dNil))) sSkip)
  (sSeq (sAsg 3 (dFz (dOp1 (attrD "read_spots") (dLook (dVar 2)))))
  (sSeq (sAsg 4 (dFrz q_read_web_2))
  (sRet (dFz (dMake 0 f_Web_init (dCons (dVar 3) (dCons (dVar 4) dNil))))))))))))
def f_read_web : FF := fGc (dFun 10 g_read_web)

def q__law_lines_1 : NF :=
  (dLc (dItQ (dIx (dVar 0) (dC (.int 0)))) (.nm 1) [1] dYes (dOp2 addD (dC (.str "spot ")) (dVar 1)))
def q__law_lines_2 : NF :=
  (dLc (dItQ (dFrz (dNw1 sortedD (dLook (dIx (dVar 0) (dC (.int 1))))))) (.tp [2, 3]) [2, 3] dYes (dOp2 addD (dOp2 addD (dOp2 addD (dC (.str "road ")) (dIx (dIx (dVar 0) (dC (.int 0))) (dVar 2))) (dC (.str " "))) (dIx (dIx (dVar 0) (dC (.int 0))) (dVar 3))))
def g__law_lines : SF :=
  (sRet (dOp2 addD (dOp2 addD (dFrz q__law_lines_1) (dFrz q__law_lines_2)) (dFrz (dLst (dCons (dC (.str "over")) dNil)))))
def f__law_lines : FF := (dFun 4 g__law_lines)

def q__law_reader_1 : NF :=
  (dLc (dItQ (dSl (dVar 7) (dP (dC (.int 1))) dNoP)) (.nm 11) [11] (dIn true (dVar 11) (dLook (dVar 2))) (dVar 11))
def b__law_reader_1 : SF :=
  (sSeq (sAsg 7 (dM1 "str" splitD (dVar 6) (dC (.str " "))))
  (sSeq (sIf (dIn false (dC (.str "")) (dLook (dVar 7))) (sRet (dTup (dCons (dC (.str "text")) (dCons (dVar 5) (dCons (dC (.str "words")) dNil))))) sSkip)
  (sSeq (sAsg 8 (dB2v (dAnd (dCmp eqD (dIx (dVar 7) (dC (.int 0))) (dC (.str "spot"))) (dAnd (dCmp eqD (dOp1 lenD (dLook (dVar 7))) (dC (.int 2))) (dAnd (dCmp eqD (dVar 3) (dFrz (dLst dNil))) (dTst (dCall f__law_is_name (dCons (dIx (dVar 7) (dC (.int 1))) dNil))))))))
  (sSeq (sAsg 8 (dB2v (dOr (dTst (dVar 8)) (dAnd (dCmp eqD (dIx (dVar 7) (dC (.int 0))) (dC (.str "road"))) (dAnd (dCmp eqD (dOp1 lenD (dLook (dVar 7))) (dC (.int 3))) (dCmp eqD (dFrz q__law_reader_1) (dFrz (dLst dNil))))))))
  (sSeq (sIf (dOr (dTst (dVar 4)) (dNot (dOr (dTst (dVar 8)) (dAnd (dCmp eqD (dVar 7) (dFrz (dLst (dCons (dC (.str "over")) dNil)))) (dCmp neD (dVar 2) (dFrz (dLst dNil))))))) (sRet (dTup (dCons (dC (.str "text")) (dCons (dVar 5) (dCons (dC (.str "form")) dNil))))) sSkip)
  (sSeq (sAsg 4 (dB2v (dCmp eqD (dVar 7) (dFrz (dLst (dCons (dC (.str "over")) dNil))))))
  (sSeq (sAsg 2 (dOp2 addD (dVar 2) (dIf (dCmp eqD (dIx (dVar 7) (dC (.int 0))) (dC (.str "spot"))) (dSl (dVar 7) (dP (dC (.int 1))) dNoP) (dFrz (dLst dNil)))))
  (sAsg 3 (dOp2 addD (dVar 3) (dIf (dCmp eqD (dIx (dVar 7) (dC (.int 0))) (dC (.str "road"))) (dFrz (dLst (dCons (dSl (dVar 7) (dP (dC (.int 1))) dNoP) dNil))) (dFrz (dLst dNil))))))))))))
def q__law_reader_2 : NF :=
  (dLc (dItQ (dVar 3)) (.ls [9, 10]) [9, 10] dYes (dOp1 tupleD (dLook (dFrz (dNw1 sortedD (dLook (dFrz (dLst (dCons (dM1 "list" indexD (dVar 2) (dVar 9)) (dCons (dM1 "list" indexD (dVar 2) (dVar 10)) dNil))))))))))
def g__law_reader : SF :=
  (sSeq (sTg (.tp [1, 2, 3, 4]) (dTup (dCons (dM1 "str" splitD (dVar 0) (dC (.str "\n"))) (dCons (dFrz (dLst dNil)) (dCons (dFrz (dLst dNil)) (dCons (dC (.bl false)) dNil))))))
  (sSeq (sFor (dEnumQ (dSl (dVar 1) dNoP (dP (dOp1 negD (dC (.int 1)))))) (.tp [5, 6]) b__law_reader_1)
  (sSeq (sIf (dCmp neD (dIx (dVar 1) (dOp1 negD (dC (.int 1)))) (dC (.str ""))) (sRet (dTup (dCons (dC (.str "text")) (dCons (dOp2 subD (dOp1 lenD (dLook (dVar 1))) (dC (.int 1))) (dCons (dC (.str "feed")) dNil))))) sSkip)
  (sSeq (sIf (dNot (dTst (dVar 4))) (sRet (dTup (dCons (dC (.str "text")) (dCons (dOp2 subD (dOp1 lenD (dLook (dVar 1))) (dC (.int 1))) (dCons (dC (.str "missing")) dNil))))) sSkip)
  (sRet (dTup (dCons (dC (.str "parts")) (dCons (dFrz (dLst (dCons (dOp1 tupleD (dLook (dVar 2))) (dCons (dFrz q__law_reader_2) dNil)))) dNil))))))))
def f__law_reader : FF := (dFun 12 g__law_reader)

def g__law_bent_line : SF :=
  (sSeq (sAsg 3 (dM1 "str" splitD (dVar 1) (dC (.str " "))))
  (sSeq (sPar 5 6 (dCall f__law_draw (dCons (dVar 0) (dCons (dOp1 lenD (dLook (dVar 3))) dNil))) (dCall f__law_draw (dCons (dVar 0) (dCons (dC (.int 8)) dNil))))
  (sSeq (sAsg 4 (dCall f__law_pick (dCons (dVar 0) (dCons (dOp2 addD (dVar 2) (dFrz (dLst (dCons (dC (.str "spot")) (dCons (dC (.str "road")) (dCons (dC (.str "over")) (dCons (dC (.str "x")) (dCons (dC (.str "0")) (dCons (dC (.str "X")) (dCons (dC (.str "")) dNil)))))))))) dNil))))
  (sSeq (sIf (dCmp ltD (dVar 6) (dC (.int 2))) (sAsg 3 (dOp2 addD (dOp2 addD (dSl (dVar 3) dNoP (dP (dVar 5))) (dFrz (dLst (dCons (dVar 4) dNil)))) (dSl (dVar 3) (dP (dOp2 addD (dVar 5) (dVar 6))) dNoP))) (sIf (dCmp eqD (dVar 6) (dC (.int 2))) (sAsg 3 (dOp2 addD (dSl (dVar 3) dNoP (dP (dVar 5))) (dSl (dVar 3) (dP (dOp2 addD (dVar 5) (dC (.int 1)))) dNoP))) (sIf (dCmp eqD (dVar 6) (dC (.int 3))) (sAsg 3 (dOp2 addD (dOp2 addD (dSl (dVar 3) dNoP (dP (dVar 5))) (dSl (dVar 3) (dP (dVar 5)) (dP (dOp2 addD (dVar 5) (dC (.int 1)))))) (dSl (dVar 3) (dP (dVar 5)) dNoP))) (sIf (dCmp eqD (dVar 6) (dC (.int 4))) (sAsg 3 (dOp2 addD (dVar 3) (dFrz (dLst (dCons (dCall f__law_pick (dCons (dVar 0) (dCons (dOp2 addD (dVar 3) (dFrz (dLst (dCons (dVar 4) dNil)))) dNil))) dNil))))) (sSeq (sAsg 7 (dCall f__law_draw (dCons (dVar 0) (dCons (dOp2 addD (dOp1 lenD (dLook (dVar 1))) (dC (.int 1))) dNil))))
  (sRet (dOp2 addD (dOp2 addD (dSl (dVar 1) dNoP (dP (dVar 7))) (dCall f__law_pick (dCons (dVar 0) (dCons (dFrz (dLst (dCons (dC (.str " ")) (dCons (dC (.str "a")) (dCons (dC (.str "\n")) (dCons (dC (.str "1")) (dCons (dC (.str "over")) (dCons (dC (.str "\nover\n")) dNil)))))))) dNil)))) (dSl (dVar 1) (dP (dVar 7)) dNoP))))))))
  (sRet (dM1 "str" joinD (dC (.str " ")) (dVar 3)))))))
def f__law_bent_line : FF := (dFun 8 g__law_bent_line)

def g__law_bent_text : SF :=
  (sSeq (sIf (dCmp eqD (dVar 1) (dFrz (dLst dNil))) (sRet (dFrz (dLst (dCons (dCall f__law_pick (dCons (dVar 0) (dCons (dFrz (dLst (dCons (dC (.str "")) (dCons (dC (.str "over")) (dCons (dC (.str "spot a")) dNil))))) dNil))) dNil)))) sSkip)
  (sSeq (sPar3 3 4 5 (dCall f__law_draw (dCons (dVar 0) (dCons (dOp1 lenD (dLook (dVar 1))) dNil))) (dCall f__law_draw (dCons (dVar 0) (dCons (dOp1 lenD (dLook (dVar 1))) dNil))) (dCall f__law_draw (dCons (dVar 0) (dCons (dC (.int 8)) dNil))))
  (sSeq (sIf (dCmp eqD (dVar 5) (dC (.int 0))) (sRet (dOp2 addD (dSl (dVar 1) dNoP (dP (dVar 3))) (dSl (dVar 1) (dP (dOp2 addD (dVar 3) (dC (.int 1)))) dNoP))) sSkip)
  (sSeq (sIf (dCmp eqD (dVar 5) (dC (.int 1))) (sRet (dOp2 addD (dOp2 addD (dSl (dVar 1) dNoP (dP (dVar 3))) (dFrz (dLst (dCons (dIx (dVar 1) (dVar 4)) dNil)))) (dSl (dVar 1) (dP (dVar 3)) dNoP))) sSkip)
  (sSeq (sIf (dCmp eqD (dVar 5) (dC (.int 2))) (sRet (dOp2 addD (dOp2 addD (dSl (dVar 1) dNoP (dP (dVar 3))) (dFrz (dLst (dCons (dCall f__law_pick (dCons (dVar 0) (dCons (dFrz (dLst (dCons (dC (.str "over")) (dCons (dC (.str "spot a")) (dCons (dC (.str "road a b")) (dCons (dOp2 addD (dOp2 addD (dOp2 addD (dC (.str "road ")) (dIx (dVar 2) (dC (.int 0)))) (dC (.str " "))) (dIx (dVar 2) (dOp1 negD (dC (.int 1))))) (dCons (dC (.str "spot")) (dCons (dC (.str "")) dNil)))))))) dNil))) dNil)))) (dSl (dVar 1) (dP (dVar 3)) dNoP))) sSkip)
  (sSeq (sIf (dCmp eqD (dVar 5) (dC (.int 3))) (sRet (dOp2 addD (dOp2 addD (dSl (dVar 1) dNoP (dP (dVar 3))) (dFrz (dLst (dCons (dIx (dVar 1) (dVar 4)) dNil)))) (dSl (dVar 1) (dP (dOp2 addD (dVar 3) (dC (.int 1)))) dNoP))) sSkip)
  (sRet (dOp2 addD (dOp2 addD (dSl (dVar 1) dNoP (dP (dVar 3))) (dFrz (dLst (dCons (dCall f__law_bent_line (dCons (dVar 0) (dCons (dIx (dVar 1) (dVar 3)) (dCons (dVar 2) dNil)))) dNil)))) (dSl (dVar 1) (dP (dOp2 addD (dVar 3) (dC (.int 1)))) dNoP)))))))))
def f__law_bent_text : FF := (dFun 6 g__law_bent_text)

def ecs__law_found_k03 : List Nat := [1001, 1002]
def fs__law_found_k03 : List (Nat × Clz) := [(1002, .tup "text" ["line", "what"]), (1001, .tup "web" ["what"])]

def g__law_found_k03 : SF :=
  (sSeq (sTryC ecs__law_found_k03 fs__law_found_k03 (sAsg 1 (dCall f_read_web (dCons (dVar 0) dNil))))
  (sRet (dTup (dCons (dC (.str "parts")) (dCons (dOp1 (attrD "spots") (dLook (dVar 1))) (dCons (dOp1 (attrD "roads") (dLook (dVar 1))) dNil))))))
def f__law_found_k03 : FF := (dFun 3 g__law_found_k03)

def g__law_due : SF :=
  (sSeq (sAsg 1 (dCall f__law_reader (dCons (dVar 0) dNil)))
  (sSeq (sIf (dCmp eqD (dIx (dVar 1) (dC (.int 0))) (dC (.str "parts"))) (sSeq (sAsg 2 (dCall f__law_fault (dCons (dIx (dVar 1) (dC (.int 1))) dNil)))
  (sRet (dIf (dIsN (dVar 2)) (dTup (dCons (dC (.str "parts")) (dCons (dIx (dIx (dVar 1) (dC (.int 1))) (dC (.int 0))) (dCons (dOp1 tupleD (dLook (dFrz (dNw1 sortedD (dLook (dIx (dIx (dVar 1) (dC (.int 1))) (dC (.int 1)))))))) dNil)))) (dTup (dCons (dC (.str "web")) (dCons (dVar 2) dNil)))))) sSkip)
  (sRet (dVar 1))))
def f__law_due : FF := (dFun 3 g__law_due)

def b_law_k03_1 : SF :=
  (sAsg 5 (dCall f__law_bent_text (dCons (dVar 1) (dCons (dVar 5) (dCons (dIx (dVar 4) (dC (.int 0))) dNil)))))
def q_law_k03_1 : NF :=
  (dLc (dItQ (dVar 5)) (.nm 8) [8] dYes (dOp2 addD (dVar 8) (dC (.str "\n"))))
def b_law_k03_2 : SF :=
  (sSeq (sAsg 4 (dCall f__law_spec (dCons (dVar 1) (dCons (dC (.int 5)) dNil))))
  (sSeq (sAsg 5 (dCall f__law_lines (dCons (dVar 4) dNil)))
  (sSeq (sFor (dRg1 (dCall f__law_draw (dCons (dVar 1) (dCons (dC (.int 4)) dNil)))) (.nm 6) b_law_k03_1)
  (sSeq (sAsg 7 (dM1 "str" joinD (dC (.str "")) (dFrz q_law_k03_1)))
  (sSeq (sIf (dCmp eqD (dCall f__law_draw (dCons (dVar 1) (dCons (dC (.int 6)) dNil))) (dC (.int 0))) (sAsg 7 (dSl (dVar 7) dNoP (dP (dCall f__law_draw (dCons (dVar 1) (dCons (dOp2 addD (dOp1 lenD (dLook (dVar 7))) (dC (.int 1))) dNil)))))) sSkip)
  (sIf (dNot (dTst (dCall f__law_same (dCons (dCall f__law_found_k03 (dCons (dVar 7) dNil)) (dCons (dCall f__law_due (dCons (dVar 7) dNil)) dNil))))) (sRet (dC (.bl false))) sSkip))))))
def q_law_k03_2 : NF :=
  (dLc (dItS (dSl (dC (.str "abcdefghij")) dNoP (dP (dOp2 addD (dC (.int 9)) (dCall f__law_draw (dCons (dVar 1) (dCons (dC (.int 2)) dNil))))))) (.nm 9) [9] dYes (dOp2 addD (dOp2 addD (dC (.str "spot n")) (dVar 9)) (dC (.str "\n"))))
def g_law_k03 : SF :=
  (sSeq (sAsg 1 (dCall f__law_pot (dCons (dVar 0) dNil)))
  (sSeq (sFor (dRg1 (dC (.int 6))) (.nm 2) b_law_k03_2)
  (sSeq (sAsg 3 (dOp2 addD (dM1 "str" joinD (dC (.str "")) (dFrz q_law_k03_2)) (dC (.str "over\n"))))
  (sSeq (sIf (dNot (dTst (dCall f__law_same (dCons (dCall f__law_found_k03 (dCons (dVar 3) dNil)) (dCons (dCall f__law_due (dCons (dVar 3) dNil)) dNil))))) (sRet (dC (.bl false))) sSkip)
  (sRet (dB2v (dCmp eqD (dCall f__law_found_k03 (dCons (dCall f__law_pick (dCons (dVar 1) (dCons (dFrz (dLst (dCons (dC .non) (dCons (dC (.int 7)) (dCons (dTup (dCons (dC (.str "over")) dNil)) (dCons (dFrz (dLst (dCons (dC (.str "over")) dNil))) (dCons (dC (.bl true)) (dCons dDct0 dNil)))))))) dNil))) dNil)) (dTup (dCons (dC (.str "text")) (dCons (dC (.int 0)) (dCons (dC (.str "text")) dNil)))))))))))
def f_law_k03 : FF := (dFun 10 g_law_k03)

def q_is_lot_below_1 : NF :=
  (dLc (dItQ (dVar 0)) (.nm 3) [3] dYes (dCall f_is_within (dCons (dVar 3) (dCons (dC (.int 0)) (dCons (dOp2 subD (dVar 1) (dC (.int 1))) dNil)))))
def q_is_lot_below_2 : NF :=
  (dLc (dRg1 (dOp2 subD (dOp1 lenD (dLook (dVar 0))) (dC (.int 1)))) (.nm 2) [2] dYes (dB2v (dCmp ltD (dIx (dVar 0) (dVar 2)) (dIx (dVar 0) (dOp2 addD (dVar 2) (dC (.int 1)))))))
def g_is_lot_below : SF :=
  (sSeq (sIf (dOr (dNot (dIsi .tuple (dLook (dVar 0)))) (dNot (dTst (dOp1 allD (dLook (dFrz q_is_lot_below_1)))))) (sRet (dC (.bl false))) sSkip)
  (sRet (dOp1 allD (dLook (dFrz q_is_lot_below_2)))))
def f_is_lot_below : FF := (dFun 4 g_is_lot_below)

def g_is_lot : SF :=
  (sRet (dCall f_is_lot_below (dCons (dVar 1) (dCons (dOp1 lenD (dLook (dOp1 (attrD "spots") (dLook (dVar 0))))) dNil))))
def f_is_lot : FF := (dFun 2 g_is_lot)

def g_check_watchers : SF :=
  (sIf (dNot (dTst (dCall f_is_lot (dCons (dVar 0) (dCons (dVar 1) dNil))))) (sRaise 1006 [] dNil) sSkip)
def f_check_watchers : FF := (dFun 2 g_check_watchers)

def g_is_fire_lot : SF :=
  (sRet (dB2v (dAnd (dTst (dCall f_is_lot (dCons (dVar 0) (dCons (dVar 2) dNil)))) (dCmp leI (dOp1 lenD (dLook (dVar 2))) (dOp1 (attrD "fires") (dLook (dVar 1)))))))
def f_is_fire_lot : FF := (dFun 3 g_is_fire_lot)

def q_told_by_1 : NF :=
  (dLc (dItQ (dVar 3)) (.nm 6) [6] (dNotN (dIx (dIx (dOp1 (attrD "away") (dLook (dVar 0))) (dVar 2)) (dVar 6))) (dIx (dIx (dOp1 (attrD "away") (dLook (dVar 0))) (dVar 2)) (dVar 6)))
def g_told_by : SF :=
  (sSeq (sAsg 4 (dFrz q_told_by_1))
  (sSeq (sAsg 5 (dIf (dCmp gtI (dOp1 lenD (dLook (dVar 4))) (dC (.int 0))) (dOp1 minLD (dLook (dVar 4))) (dC .non)))
  (sSeq (sIf (dCmp eqD (dOp1 (attrD "kind") (dLook (dVar 1))) (dC (.str "far"))) (sRet (dVar 5)) sSkip)
  (sRet (dB2v (dAnd (dNotN (dVar 5)) (dCmp leI (dVar 5) (dOp1 (attrD "reach") (dLook (dVar 1))))))))))
def f_told_by : FF := (dFun 7 g_told_by)

def q_report_of_1 : NF :=
  (dLc (dItQ (dVar 2)) (.nm 4) [4] dYes (dCall f_told_by (dCons (dVar 0) (dCons (dVar 1) (dCons (dVar 4) (dCons (dVar 3) dNil))))))
def g_report_of : SF :=
  (sRet (dOp1 tupleD (dLook (dFrz q_report_of_1))))
def f_report_of : FF := (dFun 5 g_report_of)

def g_can_be_told : SF :=
  (sSeq (sIf (dCmp eqD (dOp1 (attrD "kind") (dLook (dVar 0))) (dC (.str "near"))) (sRet (dB2v (dIsi .bool (dLook (dVar 1))))) sSkip)
  (sRet (dB2v (dOr (dIsN (dVar 1)) (dTst (dCall f_is_within (dCons (dVar 1) (dCons (dC (.int 0)) (dCons (dC (.int 8)) dNil)))))))))
def f_can_be_told : FF := (dFun 2 g_can_be_told)

def g_is_broken : SF :=
  (sRet (dB2v (dAnd (dIsi .str (dLook (dVar 0))) (dCmp eqD (dVar 0) (dC (.str "broken"))))))
def f_is_broken : FF := (dFun 1 g_is_broken)

def q_may_be_1 : NF :=
  (dLc (dItQ (dVar 2)) (.nm 5) [5] dYes (dB2v (dOr (dTst (dCall f_is_broken (dCons (dVar 5) dNil))) (dTst (dCall f_can_be_told (dCons (dVar 0) (dCons (dVar 5) dNil)))))))
def q_may_be_2 : NF :=
  (dLc (dItQ (dVar 2)) (.nm 5) [5] (dTst (dCall f_is_broken (dCons (dVar 5) dNil))) (dVar 5))
def q_may_be_3 : NF :=
  (dLc (dZip (dVar 2) (dVar 1)) (.tp [5, 6]) [5, 6] (dAnd (dNot (dTst (dCall f_is_broken (dCons (dVar 5) dNil)))) (dCmp neD (dVar 5) (dVar 6))) (dC (.bl true)))
def g_may_be : SF :=
  (sSeq (sIf (dOr (dNot (dIsi .tuple (dLook (dVar 2)))) (dCmp neD (dOp1 lenD (dLook (dVar 2))) (dOp1 lenD (dLook (dVar 1))))) (sRet (dC (.bl false))) sSkip)
  (sSeq (sIf (dNot (dTst (dOp1 allD (dLook (dFrz q_may_be_1))))) (sRet (dC (.bl false))) sSkip)
  (sSeq (sAsg 3 (dOp1 lenD (dLook (dFrz q_may_be_2))))
  (sSeq (sAsg 4 (dFrz q_may_be_3))
  (sRet (dB2v (dAnd (dCmp leI (dVar 3) (dOp1 (attrD "broken") (dLook (dVar 0)))) (dCmp leI (dOp1 lenD (dLook (dVar 4))) (dOp1 (attrD "lying") (dLook (dVar 0)))))))))))
def f_may_be : FF := (dFun 7 g_may_be)

def q__law_report_1 : NF :=
  (dLc (dItQ (dVar 3)) (.nm 7) [7] dYes (dCall f__law_away (dCons (dVar 0) (dCons (dVar 5) (dCons (dVar 7) dNil)))))
def q__law_report_2 : NF :=
  (dLc (dItQ (dVar 6)) (.nm 8) [8] (dNotN (dVar 8)) (dVar 8))
def b__law_report_1 : SF :=
  (sSeq (sAsg 6 (dFrz q__law_report_1))
  (sSeq (sAsg 6 (dFrz q__law_report_2))
  (sIf (dCmp eqD (dIx (dVar 1) (dC (.int 0))) (dC (.str "far"))) (sExpr (dMut appD (dVar 4) (dCons (dIf (dCmp neD (dVar 6) (dFrz (dLst dNil))) (dOp1 minLD (dLook (dVar 6))) (dC .non)) dNil))) (sExpr (dMut appD (dVar 4) (dCons (dB2v (dAnd (dCmp neD (dVar 6) (dFrz (dLst dNil))) (dCmp leI (dOp1 minLD (dLook (dVar 6))) (dIx (dVar 1) (dC (.int 1)))))) dNil))))))
def g__law_report : SF :=
  (sSeq (sAsg 4 (dReg (dLst dNil)))
  (sSeq (sFor (dItQ (dVar 2)) (.nm 5) b__law_report_1)
  (sRet (dOp1 tupleD (dLook (dVar 4))))))
def f__law_report : FF := fGc (dFun 9 g__law_report)

def b__law_may_1 : SF :=
  (sIf (dAnd (dIsi .str (dLook (dVar 5))) (dCmp eqD (dVar 5) (dC (.str "broken")))) (sAsg 3 (dOp2 addD (dVar 3) (dC (.int 1)))) (sIf (dOr (dAnd (dCmp eqD (dIx (dVar 0) (dC (.int 0))) (dC (.str "near"))) (dNot (dIsi .bool (dLook (dVar 5))))) (dAnd (dCmp eqD (dIx (dVar 0) (dC (.int 0))) (dC (.str "far"))) (dAnd (dNotN (dVar 5)) (dNot (dTst (dCall f__law_within (dCons (dVar 5) (dCons (dC (.int 0)) (dCons (dC (.int 8)) dNil))))))))) (sRet (dC (.bl false))) (sIf (dCmp neD (dVar 5) (dVar 6)) (sAsg 4 (dOp2 addD (dVar 4) (dC (.int 1)))) sSkip)))
def g__law_may : SF :=
  (sSeq (sIf (dOr (dNot (dIsi .tuple (dLook (dVar 2)))) (dCmp neD (dOp1 lenD (dLook (dVar 2))) (dOp1 lenD (dLook (dVar 1))))) (sRet (dC (.bl false))) sSkip)
  (sSeq (sTg (.tp [3, 4]) (dTup (dCons (dC (.int 0)) (dCons (dC (.int 0)) dNil))))
  (sSeq (sFor (dZip (dVar 2) (dVar 1)) (.tp [5, 6]) b__law_may_1)
  (sRet (dB2v (dAnd (dCmp leI (dVar 3) (dIx (dVar 0) (dC (.int 3)))) (dCmp leI (dVar 4) (dIx (dVar 0) (dC (.int 4))))))))))
def f__law_may : FF := (dFun 7 g__law_may)

def q_is_clash_1 : NF :=
  (dLc (dItQ (dSl (dVar 3) dNoP (dP (dC (.int 2))))) (.nm 4) [4] dYes (dCall f_is_fire_lot (dCons (dVar 0) (dCons (dVar 1) (dCons (dVar 4) dNil)))))
def q_is_clash_2 : NF :=
  (dLc (dItQ (dSl (dVar 3) dNoP (dP (dC (.int 2))))) (.nm 4) [4] dYes (dCall f_may_be (dCons (dVar 1) (dCons (dCall f_report_of (dCons (dVar 0) (dCons (dVar 1) (dCons (dVar 2) (dCons (dVar 4) dNil))))) (dCons (dIx (dVar 3) (dC (.int 2))) dNil)))))
def g_is_clash : SF :=
  (sSeq (sExpr (dCall f_check_watchers (dCons (dVar 0) (dCons (dVar 2) dNil))))
  (sSeq (sIf (dOr (dNot (dIsi .tuple (dLook (dVar 3)))) (dOr (dCmp neD (dOp1 lenD (dLook (dVar 3))) (dC (.int 3))) (dNot (dTst (dOp1 allD (dLook (dFrz q_is_clash_1))))))) (sRet (dC (.bl false))) sSkip)
  (sSeq (sIf (dNot (dCmp ltD (dIx (dVar 3) (dC (.int 0))) (dIx (dVar 3) (dC (.int 1))))) (sRet (dC (.bl false))) sSkip)
  (sRet (dOp1 allD (dLook (dFrz q_is_clash_2)))))))
def f_is_clash : FF := (dFun 5 g_is_clash)

def q__law_is_lot_1 : NF :=
  (dLc (dItQ (dVar 1)) (.nm 3) [3] (dNot (dTst (dCall f__law_within (dCons (dVar 3) (dCons (dC (.int 0)) (dCons (dOp2 subD (dVar 0) (dC (.int 1))) dNil)))))) (dVar 3))
def q__law_is_lot_2 : NF :=
  (dLc (dRg1 (dOp2 subD (dOp1 lenD (dLook (dVar 1))) (dC (.int 1)))) (.nm 2) [2] (dCmp geI (dIx (dVar 1) (dVar 2)) (dIx (dVar 1) (dOp2 addD (dVar 2) (dC (.int 1))))) (dVar 2))
def g__law_is_lot : SF :=
  (sSeq (sIf (dOr (dNot (dIsi .tuple (dLook (dVar 1)))) (dCmp neE (dFrz q__law_is_lot_1) (dFrz (dLst dNil)))) (sRet (dC (.bl false))) sSkip)
  (sRet (dB2v (dCmp eqE (dFrz q__law_is_lot_2) (dFrz (dLst dNil))))))
def f__law_is_lot : FF := (dFun 4 g__law_is_lot)

def b__law_right_k05_1 : SF :=
  (sIf (dOr (dNot (dTst (dCall f__law_is_lot (dCons (dOp1 lenD (dLook (dIx (dVar 0) (dC (.int 0))))) (dCons (dVar 4) dNil))))) (dCmp gtI (dOp1 lenD (dLook (dVar 4))) (dIx (dVar 1) (dC (.int 2))))) (sRet (dC (.bl false))) sSkip)
def q__law_right_k05_1 : NF :=
  (dLc (dItQ (dSl (dVar 3) dNoP (dP (dC (.int 2))))) (.nm 4) [4] (dNot (dTst (dCall f__law_may (dCons (dVar 1) (dCons (dCall f__law_report (dCons (dVar 0) (dCons (dVar 1) (dCons (dVar 2) (dCons (dVar 4) dNil))))) (dCons (dIx (dVar 3) (dC (.int 2))) dNil)))))) (dVar 4))
def g__law_right_k05 : SF :=
  (sSeq (sIf (dOr (dNot (dIsi .tuple (dLook (dVar 3)))) (dCmp neD (dOp1 lenD (dLook (dVar 3))) (dC (.int 3)))) (sRet (dC (.bl false))) sSkip)
  (sSeq (sFor (dItQ (dSl (dVar 3) dNoP (dP (dC (.int 2))))) (.nm 4) b__law_right_k05_1)
  (sSeq (sIf (dNot (dCmp ltD (dIx (dVar 3) (dC (.int 0))) (dIx (dVar 3) (dC (.int 1))))) (sRet (dC (.bl false))) sSkip)
  (sRet (dB2v (dCmp eqD (dFrz q__law_right_k05_1) (dFrz (dLst dNil))))))))
def f__law_right_k05 : FF := (dFun 5 g__law_right_k05)

end DL
end

section
set_option Elab.async false
set_option linter.all false
set_option maxRecDepth 100000
set_option maxHeartbeats 4000000
namespace DL
/-! M1: distances in webs, the search of steps_away, plain. -/
abbrev Rds := List (Nat × Nat)
def Adj (rs : Rds) (a b : Nat) : Prop := (a, b) ∈ rs ∨ (b, a) ∈ rs
theorem Adj.symm {rs : Rds} {a b : Nat} (h : Adj rs a b) : Adj rs b a := h.elim .inr .inl
/-- a way of so many roads -/
inductive Way (rs : Rds) (a : Nat) : Nat → Nat → Prop
  | nil : Way rs a a 0
  | snoc {b c n : Nat} : Way rs a b n → Adj rs b c → Way rs a c (n + 1)
/-- the least number of roads, or that there is no way -/
def IsD (rs : Rds) (a b : Nat) : Option Nat → Prop
  | some d => Way rs a b d ∧ ∀ n, Way rs a b n → d ≤ n
  | none => ∀ n, ¬ Way rs a b n
theorem IsD.uniq {rs : Rds} {a b : Nat} {o o' : Option Nat} (h : IsD rs a b o) (h' : IsD rs a b o') : o = o' := by
  cases o with
  | none =>
    cases o' with
    | none => rfl
    | some d => exact absurd h'.1 (h d)
  | some d =>
    cases o' with
    | none => exact absurd h.1 (h' d)
    | some e =>
      have h1 := h.2 e h'.1
      have h2 := h'.2 d h.1
      rw [Nat.le_antisymm h1 h2]
theorem Adj.congr {rs rs' : Rds} (h : ∀ q, q ∈ rs ↔ q ∈ rs') {a b : Nat} : Adj rs a b ↔ Adj rs' a b := by
  unfold Adj
  rw [h, h]
theorem Way.mono {rs rs' : Rds} (h : ∀ a b, Adj rs a b → Adj rs' a b) {a b n : Nat} (w : Way rs a b n) : Way rs' a b n := by
  induction w with
  | nil => exact .nil
  | snoc _ e ih => exact .snoc ih (h _ _ e)
theorem IsD.congr {rs rs' : Rds} (h : ∀ q, q ∈ rs ↔ q ∈ rs') {a b : Nat} {o : Option Nat} (d : IsD rs a b o) : IsD rs' a b o := by
  have f : ∀ {a b n}, Way rs a b n → Way rs' a b n := fun w => w.mono fun a b e => (Adj.congr h).mp e
  have g : ∀ {a b n}, Way rs' a b n → Way rs a b n := fun w => w.mono fun a b e => (Adj.congr h).mpr e
  cases o with
  | none => exact fun n w => d n (g w)
  | some k => exact ⟨f d.1, fun n w => d.2 n (g w)⟩
/-- the names of places changed -/
theorem Way.map {rs rs' : Rds} (σ : Nat → Nat) (h : ∀ a b, Adj rs a b → Adj rs' (σ a) (σ b)) {a b n : Nat} (w : Way rs a b n) : Way rs' (σ a) (σ b) n := by
  induction w with
  | nil => exact .nil
  | snoc _ e ih => exact .snoc ih (h _ _ e)

/-! ### the search -/
/-- distances found, places in a line -/
structure Srch where
  fv : List (Option Nat)
  lv : List Nat
def fnd (s : Srch) (x : Nat) : Option Nat := (s.fv[x]?).join
/-- one road, seen from the place c -/
def bf1 (c : Nat) (s : Srch) (q : Nat × Nat) : Srch :=
  if q.1 = c ∨ q.2 = c then
    match fnd s (q.1 + q.2 - c) with
    | none => ⟨s.fv.set (q.1 + q.2 - c) (some ((fnd s c).getD 0 + 1)), s.lv ++ [q.1 + q.2 - c]⟩
    | some _ => s
  else s
def bfAll (c : Nat) (rs : Rds) (s : Srch) : Srch := rs.foldl (bf1 c) s
def bfRun (rs : Rds) : Nat → Nat → Srch → Srch
  | 0, _, s => s
  | m + 1, at_, s => match s.lv[at_]? with
    | some c => bfRun rs m (at_ + 1) (bfAll c rs s)
    | none => s
def bf0 (n s : Nat) : Srch := ⟨(List.replicate n none).set s (some 0), [s]⟩
/-- the table's row of s -/
def stepsOf (n : Nat) (rs : Rds) (s : Nat) : List (Option Nat) := (bfRun rs 60 0 (bf0 n s)).fv

/-- what the search keeps: at_ is the place in the line, done the roads seen from there -/
structure BfI (n : Nat) (rs : Rds) (st at_ : Nat) (done : Rds) (s : Srch) : Prop where
  len : s.fv.length = n
  nd : s.lv.Nodup
  lt : ∀ x ∈ s.lv, x < n
  mem : ∀ x, x ∈ s.lv ↔ ∃ d, fnd s x = some d
  way : ∀ x d, fnd s x = some d → Way rs st x d
  start : fnd s st = some 0
  ord : ∀ (i j a b d e : Nat), i ≤ j → s.lv[i]? = some a → s.lv[j]? = some b → fnd s a = some d → fnd s b = some e → d ≤ e
  near : ∀ (j a b d e : Nat), s.lv[at_]? = some a → s.lv[j]? = some b → fnd s a = some d → fnd s b = some e → e ≤ d + 1
  old : ∀ (i a b d : Nat), i < at_ → s.lv[i]? = some a → fnd s a = some d → Adj rs a b → ∃ e, fnd s b = some e ∧ e ≤ d + 1
  cur : ∀ (a b d : Nat), s.lv[at_]? = some a → fnd s a = some d → ((a, b) ∈ done ∨ (b, a) ∈ done) → ∃ e, fnd s b = some e ∧ e ≤ d + 1

theorem fnd_set {s : Srch} {w v x : Nat} {l : List Nat} (hw : w < s.fv.length) : fnd ⟨s.fv.set w (some v), l⟩ x = if w = x then some v else fnd s x := by
  unfold fnd
  rw [List.getElem?_set]
  split
  · rename_i h
    subst h
    simp [hw]
  · rfl
theorem lv_get {l : List Nat} {w i a : Nat} (h : (l ++ [w])[i]? = some a) : (i < l.length ∧ l[i]? = some a) ∨ (i = l.length ∧ a = w) := by
  by_cases hi : i < l.length
  · rw [List.getElem?_append_left hi] at h
    exact .inl ⟨hi, h⟩
  · rw [List.getElem?_append_right (by omega)] at h
    have : i - l.length = 0 := by
      cases z : i - l.length with
      | zero => rfl
      | succ k => rw [z] at h; simp at h
    rw [this] at h
    simp at h
    exact .inr ⟨by omega, h.symm⟩
theorem BfI.le {n : Nat} {rs done : Rds} {st at_ : Nat} {s : Srch} (h : BfI n rs st at_ done s) : s.lv.length ≤ n := by
  have := h.nd.length_le_of_subset (l₂ := List.range n) fun x hx => List.mem_range.mpr (h.lt x hx)
  rwa [List.length_range] at this
/-- one road more is seen -/
theorem bf1_ok {n : Nat} {rs done : Rds} {st at_ : Nat} {s : Srch} {c : Nat} {q : Nat × Nat} (h : BfI n rs st at_ done s) (hc : s.lv[at_]? = some c) (hq : q ∈ rs) (h1 : q.1 < n) (h2 : q.2 < n) :
    BfI n rs st at_ (done ++ [q]) (bf1 c s q) ∧ ∃ t, (bf1 c s q).lv = s.lv ++ t := by
  obtain ⟨dc, hdc⟩ := (h.mem c).mp (List.mem_of_getElem? hc)
  unfold bf1
  by_cases hin : q.1 = c ∨ q.2 = c
  · rw [if_pos hin]
    obtain ⟨w, hw, hwn, had⟩ : ∃ w, q.1 + q.2 - c = w ∧ w < n ∧ Adj rs c w := by
      rcases hin with e | e
      · exact ⟨q.2, by omega, h2, .inl (by rw [← e]; exact hq)⟩
      · exact ⟨q.1, by omega, h1, .inr (by rw [← e]; exact hq)⟩
    have hother : ∀ b, (c, b) ∈ [q] ∨ (b, c) ∈ [q] → b = w ∨ b = c ∧ w = c := by
      intro b hb
      simp only [List.mem_singleton] at hb
      rcases hb with e | e
      · have e1 : q.1 = c := by rw [← e]
        have e2 : q.2 = b := by rw [← e]
        exact .inl (by omega)
      · have e1 : q.1 = b := by rw [← e]
        have e2 : q.2 = c := by rw [← e]
        exact .inl (by omega)
    rw [hw]
    cases hf : fnd s w with
    | some e =>
      refine ⟨{ h with cur := fun a b d ha hd hb => ?_ }, [], by simp⟩
      rw [hc] at ha
      cases ha
      rw [hdc] at hd
      cases hd
      have hb' : ((c, b) ∈ done ∨ (b, c) ∈ done) ∨ ((c, b) ∈ [q] ∨ (b, c) ∈ [q]) := by
        rcases hb with hb | hb <;> rcases List.mem_append.mp hb with hb | hb
        · exact .inl (.inl hb)
        · exact .inr (.inl hb)
        · exact .inl (.inr hb)
        · exact .inr (.inr hb)
      rcases hb' with hb | hb
      · exact h.cur c b dc hc hdc hb
      · obtain ⟨j, hj⟩ := List.getElem?_of_mem ((h.mem w).mpr ⟨e, hf⟩)
        have hle := h.near j c w dc e hc hj hdc hf
        rcases hother b hb with e1 | ⟨e1, e2⟩
        · subst e1; exact ⟨e, hf, hle⟩
        · subst e1; exact ⟨dc, hdc, Nat.le_succ _⟩
    | none =>
      dsimp only
      have hwl : w < s.fv.length := by rw [h.len]; exact hwn
      have hcw : w ≠ c := fun z => by rw [z, hdc] at hf; cases hf
      have hwm : w ∉ s.lv := fun hm => by
        obtain ⟨d, hd⟩ := (h.mem w).mp hm
        rw [hf] at hd; cases hd
      have hv : (fnd s c).getD 0 + 1 = dc + 1 := by rw [hdc]; rfl
      rw [hv]
      have hold : ∀ {x d}, fnd s x = some d → w ≠ x := fun {x d} hx z => by rw [z, hx] at hf; cases hf
      have hget : ∀ {i a d}, (s.lv ++ [w])[i]? = some a → fnd ⟨s.fv.set w (some (dc + 1)), s.lv ++ [w]⟩ a = some d → (i < s.lv.length ∧ s.lv[i]? = some a ∧ fnd s a = some d) ∨ (i = s.lv.length ∧ a = w ∧ d = dc + 1) := by
        intro i a d ha hd
        rw [fnd_set hwl] at hd
        rcases lv_get ha with ⟨hi, ha⟩ | ⟨hi, ha⟩
        · have : w ≠ a := fun z => hwm (by rw [z]; exact List.mem_of_getElem? ha)
          rw [if_neg this] at hd
          exact .inl ⟨hi, ha, hd⟩
        · subst ha
          rw [if_pos rfl] at hd
          cases hd
          exact .inr ⟨hi, rfl, rfl⟩
      have hatl : at_ < s.lv.length := (List.getElem?_eq_some_iff.mp hc).1
      refine ⟨⟨by rw [List.length_set]; exact h.len, ?_, fun x hx => ?_, fun x => ?_, fun x d hd => ?_, ?_, fun i j a b d e hij ha hb hd he => ?_, fun j a b d e ha hb hd he => ?_, fun i a b d hi ha hd hab => ?_, fun a b d ha hd hb => ?_⟩, [w], rfl⟩
      · rw [List.nodup_append]
        refine ⟨h.nd, by simp, fun x hx y hy => ?_⟩
        rw [List.mem_singleton] at hy
        subst hy
        exact fun z => hwm (z ▸ hx)
      · rcases List.mem_append.mp hx with hx | hx
        · exact h.lt x hx
        · rw [List.mem_singleton] at hx; subst hx; exact hwn
      · rw [fnd_set hwl, List.mem_append, List.mem_singleton]
        by_cases hx : w = x
        · subst hx; simp
        · rw [if_neg hx, h.mem x]
          constructor
          · rintro (z | z)
            · exact z
            · exact absurd z.symm hx
          · exact fun z => .inl z
      · rw [fnd_set hwl] at hd
        by_cases hx : w = x
        · subst hx
          rw [if_pos rfl] at hd
          cases hd
          exact .snoc (h.way c dc hdc) had
        · rw [if_neg hx] at hd
          exact h.way x d hd
      · rw [fnd_set hwl, if_neg (hold h.start)]
        exact h.start
      · rcases hget ha hd with ⟨i1, a1, d1⟩ | ⟨i1, a1, d1⟩
        · rcases hget hb he with ⟨j1, b1, e1⟩ | ⟨j1, b1, e1⟩
          · exact h.ord i j a b d e hij a1 b1 d1 e1
          · have := h.near i c a dc d hc a1 hdc d1
            omega
        · rcases hget hb he with ⟨j1, b1, e1⟩ | ⟨j1, b1, e1⟩
          · omega
          · omega
      · rcases hget ha hd with ⟨i1, a1, d1⟩ | ⟨i1, a1, d1⟩
        · rw [hc] at a1
          cases a1
          rw [hdc] at d1
          cases d1
          rcases hget hb he with ⟨j1, b1, e1⟩ | ⟨j1, b1, e1⟩
          · exact h.near j c b dc e hc b1 hdc e1
          · omega
        · omega
      · rcases hget ha hd with ⟨i1, a1, d1⟩ | ⟨i1, a1, d1⟩
        · obtain ⟨e, he, hle⟩ := h.old i a b d hi a1 d1 hab
          exact ⟨e, by rw [fnd_set hwl, if_neg (hold he)]; exact he, hle⟩
        · omega
      · rcases hget ha hd with ⟨i1, a1, d1⟩ | ⟨i1, a1, d1⟩
        · rw [hc] at a1
          cases a1
          rw [hdc] at d1
          cases d1
          have hb' : ((c, b) ∈ done ∨ (b, c) ∈ done) ∨ ((c, b) ∈ [q] ∨ (b, c) ∈ [q]) := by
            rcases hb with hb | hb <;> rcases List.mem_append.mp hb with hb | hb
            · exact .inl (.inl hb)
            · exact .inr (.inl hb)
            · exact .inl (.inr hb)
            · exact .inr (.inr hb)
          rcases hb' with hb | hb
          · obtain ⟨e, he, hle⟩ := h.cur c b dc hc hdc hb
            exact ⟨e, by rw [fnd_set hwl, if_neg (hold he)]; exact he, hle⟩
          · rcases hother b hb with e1 | ⟨e1, e2⟩
            · subst e1; exact ⟨dc + 1, by rw [fnd_set hwl, if_pos rfl], Nat.le_refl _⟩
            · exact absurd e2 hcw
        · omega
  · rw [if_neg hin]
    rw [not_or] at hin
    refine ⟨{ h with cur := fun a b d ha hd hb => ?_ }, [], by simp⟩
    rw [hc] at ha
    cases ha
    refine h.cur c b d hc hd ?_
    rcases hb with hb | hb <;> rcases List.mem_append.mp hb with hb | hb
    · exact .inl hb
    · rw [List.mem_singleton] at hb; exact absurd (by rw [← hb]) hin.1
    · exact .inr hb
    · rw [List.mem_singleton] at hb; exact absurd (by rw [← hb]) hin.2
/-- all roads, seen from there -/
theorem bfAll_ok {n : Nat} {rs : Rds} {st at_ : Nat} {c : Nat} (hr : ∀ q ∈ rs, q.1 < n ∧ q.2 < n) : ∀ (qs done : Rds) (s : Srch), (∀ q ∈ qs, q ∈ rs) → BfI n rs st at_ done s → s.lv[at_]? = some c → BfI n rs st at_ (done ++ qs) (bfAll c qs s) ∧ ∃ t, (bfAll c qs s).lv = s.lv ++ t
  | [], done, s, _, h, hc => ⟨by rw [List.append_nil]; exact h, [], by simp [bfAll]⟩
  | q :: qs, done, s, hq, h, hc => by
    have hm := hq q List.mem_cons_self
    obtain ⟨h1, t1, e1⟩ := bf1_ok h hc hm (hr q hm).1 (hr q hm).2
    have hc1 : (bf1 c s q).lv[at_]? = some c := by
      rw [e1, List.getElem?_append_left (List.getElem?_eq_some_iff.mp hc).1]
      exact hc
    obtain ⟨h2, t2, e2⟩ := bfAll_ok hr qs (done ++ [q]) (bf1 c s q) (fun x hx => hq x (List.mem_cons_of_mem _ hx)) h1 hc1
    rw [List.append_assoc] at h2
    exact ⟨h2, t1 ++ t2, by show (bfAll c qs (bf1 c s q)).lv = _; rw [e2, e1, List.append_assoc]⟩
theorem BfI.next {n : Nat} {rs : Rds} {st at_ : Nat} {s : Srch} (h : BfI n rs st at_ rs s) (hat : at_ < s.lv.length) : BfI n rs st (at_ + 1) [] s := by
  refine { h with near := fun j a b d e ha hb hd he => ?_, old := fun i a b d hi ha hd hab => ?_, cur := fun a b d _ _ hb => by simp at hb }
  · have hc : s.lv[at_]? = some s.lv[at_] := List.getElem?_eq_getElem hat
    obtain ⟨dc, hdc⟩ := (h.mem s.lv[at_]).mp (List.getElem_mem hat)
    have h1 := h.near j _ b dc e hc hb hdc he
    have h2 := h.ord at_ (at_ + 1) _ a dc d (Nat.le_succ _) hc ha hdc hd
    omega
  · by_cases e : i = at_
    · subst e
      exact h.cur a b d ha hd hab
    · exact h.old i a b d (by omega) ha hd hab
theorem bfRun_ok {n : Nat} {rs : Rds} {st : Nat} (hr : ∀ q ∈ rs, q.1 < n ∧ q.2 < n) : ∀ (m at_ : Nat) (s : Srch), BfI n rs st at_ [] s → at_ ≤ s.lv.length → n + 1 ≤ m + at_ → BfI n rs st (bfRun rs m at_ s).lv.length [] (bfRun rs m at_ s)
  | 0, at_, s, h, hat, hm => by have := h.le; omega
  | m + 1, at_, s, h, hat, hm => by
    unfold bfRun
    cases hc : s.lv[at_]? with
    | none =>
      rw [List.getElem?_eq_none_iff] at hc
      have : at_ = s.lv.length := by omega
      rw [this] at h
      exact h
    | some c =>
      have hlt := (List.getElem?_eq_some_iff.mp hc).1
      obtain ⟨h1, t, e⟩ := bfAll_ok hr rs [] s (fun _ h => h) h hc
      rw [List.nil_append] at h1
      have hlt1 : at_ < (bfAll c rs s).lv.length := by rw [e, List.length_append]; omega
      exact bfRun_ok hr m (at_ + 1) _ (h1.next hlt1) hlt1 (by omega)
theorem bf0_ok {n : Nat} {rs : Rds} {st : Nat} (hs : st < n) : BfI n rs st 0 [] (bf0 n st) := by
  have hf : ∀ x, fnd (bf0 n st) x = if st = x then some 0 else none := fun x => by
    unfold fnd bf0
    dsimp only
    rw [List.getElem?_set]
    split
    · simp [hs]
    · rw [List.getElem?_replicate]
      split <;> rfl
  have one : ∀ {i a : Nat}, (bf0 n st).lv[i]? = some a → i = 0 ∧ a = st := fun {i a} h => by
    unfold bf0 at h
    cases i with
    | zero => simp at h; exact ⟨rfl, h.symm⟩
    | succ i => simp at h
  refine ⟨by simp [bf0], by simp [bf0], fun x hx => ?_, fun x => ?_, fun x d hd => ?_, by rw [hf, if_pos rfl], fun i j a b d e _ ha hb hd he => ?_, fun j a b d e ha hb hd he => ?_, fun i a b d hi => absurd hi (Nat.not_lt_zero _), fun a b d _ _ hb => by simp at hb⟩
  · simp [bf0] at hx; subst hx; exact hs
  · rw [hf]
    simp only [bf0, List.mem_singleton]
    constructor
    · intro h; subst h; exact ⟨0, if_pos rfl⟩
    · rintro ⟨d, hd⟩
      split at hd
      · rename_i h; exact h.symm
      · cases hd
  · rw [hf] at hd
    split at hd
    · rename_i h; subst h; cases hd; exact .nil
    · cases hd
  · rw [(one ha).2] at hd
    rw [(one hb).2, hd] at he
    cases he
    exact Nat.le_refl _
  · rw [(one ha).2] at hd
    rw [(one hb).2, hd] at he
    cases he
    exact Nat.le_succ _
/-- each row of the table is right -/
theorem steps_isD {n : Nat} (hn : n ≤ 9) {rs : Rds} {st : Nat} (hs : st < n) (hr : ∀ q ∈ rs, q.1 < n ∧ q.2 < n) (b : Nat) : IsD rs st b ((stepsOf n rs st)[b]?).join := by
  have h := bfRun_ok hr 60 0 _ (bf0_ok (rs := rs) hs) (Nat.zero_le _) (by omega)
  have key : ∀ {b m : Nat}, Way rs st b m → ∃ d, fnd (bfRun rs 60 0 (bf0 n st)) b = some d ∧ d ≤ m := by
    intro b m w
    induction w with
    | nil => exact ⟨0, h.start, Nat.le_refl _⟩
    | @snoc b c m _ e ih =>
      obtain ⟨d, hd, hle⟩ := ih
      obtain ⟨i, hi⟩ := List.getElem?_of_mem ((h.mem b).mpr ⟨d, hd⟩)
      obtain ⟨e', he', hle'⟩ := h.old i b c d (List.getElem?_eq_some_iff.mp hi).1 hi hd e
      exact ⟨e', he', by omega⟩
  show IsD rs st b (fnd (bfRun rs 60 0 (bf0 n st)) b)
  cases hf : fnd (bfRun rs 60 0 (bf0 n st)) b with
  | none =>
    intro m w
    obtain ⟨d, hd, _⟩ := key w
    rw [hf] at hd
    cases hd
  | some d =>
    refine ⟨h.way b d hf, fun m w => ?_⟩
    obtain ⟨d', hd', hle⟩ := key w
    rw [hf] at hd'
    cases hd'
    exact hle
end DL
end

section
set_option Elab.async false
set_option linter.all false
set_option maxRecDepth 100000
set_option maxHeartbeats 4000000
namespace DL
/-! M2: lots of places, plain. -/
/-- ascending, below n -/
structure Asc (n : Nat) (l : List Nat) : Prop where
  pw : l.Pairwise (· < ·)
  lt : ∀ x ∈ l, x < n
def nxt (l : List Nat) : Nat := match l.getLast? with
  | some x => x + 1
  | none => 0
def exts (n : Nat) (l : List Nat) : List (List Nat) := (List.range' (nxt l) (n - nxt l)).map fun i => l ++ [i]
def layer (n : Nat) : Nat → List (List Nat)
  | 0 => [[]]
  | k + 1 => (layer n k).flatMap (exts n)
def lotsBy (n : Nat) : Nat → List (List Nat)
  | 0 => [[]]
  | k + 1 => lotsBy n k ++ layer n (k + 1)
theorem asc_nil (n : Nat) : Asc n [] := ⟨.nil, fun x h => by simp at h⟩
theorem nxt_le {l : List Nat} (h : l.Pairwise (· < ·)) {i : Nat} : nxt l ≤ i ↔ ∀ x ∈ l, x < i := by
  unfold nxt
  cases l.eq_nil_or_concat with
  | inl e => subst e; simp
  | inr e =>
    obtain ⟨m, a, rfl⟩ := e
    rw [List.concat_eq_append] at h ⊢
    rw [List.getLast?_concat]
    dsimp only
    rw [List.pairwise_append] at h
    constructor
    · intro hi x hx
      rcases List.mem_append.mp hx with hx | hx
      · have := h.2.2 x hx a (by simp)
        omega
      · rw [List.mem_singleton] at hx; omega
    · intro hx
      exact hx a (by simp)
theorem asc_snoc {n : Nat} {l : List Nat} {i : Nat} : Asc n (l ++ [i]) ↔ Asc n l ∧ nxt l ≤ i ∧ i < n := by
  constructor
  · rintro ⟨h1, h2⟩
    rw [List.pairwise_append] at h1
    refine ⟨⟨h1.1, fun x hx => h2 x (List.mem_append_left _ hx)⟩, (nxt_le h1.1).mpr fun x hx => h1.2.2 x hx i (by simp), h2 i (by simp)⟩
  · rintro ⟨⟨h1, h2⟩, h3, h4⟩
    refine ⟨?_, fun x hx => ?_⟩
    · rw [List.pairwise_append]
      refine ⟨h1, by simp, fun x hx y hy => ?_⟩
      rw [List.mem_singleton] at hy
      subst hy
      exact (nxt_le h1).mp h3 x hx
    · rcases List.mem_append.mp hx with hx | hx
      · exact h2 x hx
      · rw [List.mem_singleton] at hx; omega
theorem mem_exts {n : Nat} {l m : List Nat} : m ∈ exts n l ↔ ∃ i, m = l ++ [i] ∧ nxt l ≤ i ∧ i < n := by
  unfold exts
  rw [List.mem_map]
  constructor
  · rintro ⟨i, hi, rfl⟩
    rw [List.mem_range'_1] at hi
    exact ⟨i, rfl, hi.1, by omega⟩
  · rintro ⟨i, rfl, h1, h2⟩
    exact ⟨i, by rw [List.mem_range'_1]; omega, rfl⟩
theorem mem_layer {n : Nat} : ∀ {k : Nat} {l : List Nat}, l ∈ layer n k ↔ Asc n l ∧ l.length = k
  | 0, l => by
    unfold layer
    rw [List.mem_singleton]
    constructor
    · rintro rfl; exact ⟨asc_nil n, rfl⟩
    · rintro ⟨_, h⟩; exact List.length_eq_zero_iff.mp h
  | k + 1, l => by
    unfold layer
    rw [List.mem_flatMap]
    constructor
    · rintro ⟨m, hm, hl⟩
      obtain ⟨i, rfl, h1, h2⟩ := mem_exts.mp hl
      obtain ⟨h3, h4⟩ := mem_layer.mp hm
      exact ⟨asc_snoc.mpr ⟨h3, h1, h2⟩, by simp [h4]⟩
    · rintro ⟨h1, h2⟩
      cases l.eq_nil_or_concat with
      | inl e => subst e; simp at h2
      | inr e =>
        obtain ⟨m, a, rfl⟩ := e
        rw [List.concat_eq_append] at h1 h2 ⊢
        obtain ⟨h3, h4, h5⟩ := asc_snoc.mp h1
        exact ⟨m, mem_layer.mpr ⟨h3, by simpa using h2⟩, mem_exts.mpr ⟨a, rfl, h4, h5⟩⟩
theorem mem_lots {n : Nat} : ∀ {k : Nat} {l : List Nat}, l ∈ lotsBy n k ↔ Asc n l ∧ l.length ≤ k
  | 0, l => by
    unfold lotsBy
    rw [List.mem_singleton]
    constructor
    · rintro rfl; exact ⟨asc_nil n, Nat.le_refl _⟩
    · rintro ⟨_, h⟩; exact List.length_eq_zero_iff.mp (Nat.le_zero.mp h)
  | k + 1, l => by
    unfold lotsBy
    rw [List.mem_append, mem_lots, mem_layer]
    constructor
    · rintro (⟨h1, h2⟩ | ⟨h1, h2⟩)
      · exact ⟨h1, by omega⟩
      · exact ⟨h1, by omega⟩
    · rintro ⟨h1, h2⟩
      by_cases h : l.length ≤ k
      · exact .inl ⟨h1, h⟩
      · exact .inr ⟨h1, by omega⟩
theorem exts_nodup (n : Nat) (l : List Nat) : (exts n l).Nodup := by
  unfold exts
  rw [List.Nodup, List.pairwise_map]
  refine (List.nodup_range' (step := 1)).imp fun {a b} hab e => hab ?_
  have := List.append_cancel_left e
  simpa using this
theorem layer_nodup (n : Nat) : ∀ k, (layer n k).Nodup
  | 0 => by unfold layer; simp
  | k + 1 => by
    unfold layer
    rw [List.Nodup, List.pairwise_flatMap]
    refine ⟨fun l _ => exts_nodup n l, (layer_nodup n k).imp fun {a b} hab x hx y hy e => hab ?_⟩
    obtain ⟨i, rfl, _⟩ := mem_exts.mp hx
    obtain ⟨j, rfl, _⟩ := mem_exts.mp hy
    exact (List.append_inj' e rfl).1
theorem lots_nodup (n : Nat) : ∀ k, (lotsBy n k).Nodup
  | 0 => by unfold lotsBy; simp
  | k + 1 => by
    unfold lotsBy
    rw [List.nodup_append]
    refine ⟨lots_nodup n k, layer_nodup n _, fun a ha b hb e => ?_⟩
    subst e
    have h1 := (mem_lots.mp ha).2
    have h2 := (mem_layer.mp hb).2
    omega
/-- the lesser lots ahead -/
theorem lots_sizes (n : Nat) : ∀ k, (lotsBy n k).Pairwise fun a b => a.length ≤ b.length
  | 0 => by unfold lotsBy; simp
  | k + 1 => by
    unfold lotsBy
    rw [List.pairwise_append]
    refine ⟨lots_sizes n k, ?_, fun a ha b hb => ?_⟩
    · rw [List.pairwise_iff_forall_sublist]
      intro a b hab
      have h1 := mem_layer.mp (hab.subset (List.mem_cons_self))
      have h2 := mem_layer.mp (hab.subset (List.mem_cons_of_mem _ List.mem_cons_self))
      omega
    · have h1 := (mem_lots.mp ha).2
      have h2 := (mem_layer.mp hb).2
      omega
theorem asc_len {n : Nat} {l : List Nat} (h : Asc n l) : l.length ≤ n := by
  have nd : l.Nodup := h.pw.imp fun {a b} hab => Nat.ne_of_lt hab
  have := nd.length_le_of_subset (l₂ := List.range n) fun x hx => List.mem_range.mpr (h.lt x hx)
  rwa [List.length_range] at this
/-- an ascending list is told by its members -/
theorem asc_ext : ∀ {a b : List Nat}, a.Pairwise (· < ·) → b.Pairwise (· < ·) → (∀ x, x ∈ a ↔ x ∈ b) → a = b
  | [], [], _, _, _ => rfl
  | [], y :: b, _, _, h => absurd ((h y).mpr List.mem_cons_self) (by simp)
  | x :: a, [], _, _, h => absurd ((h x).mp List.mem_cons_self) (by simp)
  | x :: a, y :: b, ha, hb, h => by
    rw [List.pairwise_cons] at ha hb
    have hxy : x = y := by
      rcases List.mem_cons.mp ((h x).mp List.mem_cons_self) with e | e
      · exact e
      · rcases List.mem_cons.mp ((h y).mpr List.mem_cons_self) with e2 | e2
        · exact e2.symm
        · have := hb.1 x e
          have := ha.1 y e2
          omega
    subst hxy
    rw [asc_ext ha.2 hb.2 fun z => ?_]
    have := h z
    rw [List.mem_cons, List.mem_cons] at this
    constructor
    · intro hz
      rcases this.mp (.inr hz) with e | e
      · subst e; exact absurd (ha.1 z hz) (Nat.lt_irrefl _)
      · exact e
    · intro hz
      rcases this.mpr (.inr hz) with e | e
      · subst e; exact absurd (hb.1 z hz) (Nat.lt_irrefl _)
      · exact e
end DL
end

section
set_option Elab.async false
set_option linter.all false
set_option maxRecDepth 100000
set_option maxHeartbeats 4000000
namespace DL
open PySem
/-! the plain law of k02: draws -/
structure Pot where
  cells : List Int
  i : Int
  m : Int
  d : Int
def Pot.mo (p : Pot) : MO := .lst [.lst (p.cells.map .int), .int p.i, .int p.m, .int p.d]
def mus (p : Pot) (r : Store) : Store := some p.mo :: r
structure Pot.Ok (p : Pot) : Prop where
  i0 : 0 ≤ p.i
  len : p.cells.length ≤ 63
  pos : ∀ c ∈ p.cells, 0 ≤ c
  m0 : 0 ≤ p.m
  m1 : p.m < 2147483648
  d0 : 0 ≤ p.d
theorem draw_ok {p : Pot} (h : p.Ok) {many : Int} (h0 : 0 ≤ many) (h1 : many < 2147483648) (r : Store) :
    ∃ v p', f__law_draw [.obj 0, .int many] (mus p r) = .ok (.int v) (mus p' r) ∧ p'.Ok ∧ 0 ≤ v ∧ (v < many ∨ v = 0) := by
  by_cases c1 : many < 2
  · exact ⟨0, p, by simp [f__law_draw, g__law_draw, dFun, sSeq, snext, sIf, sbind, sAsg, sRet, sSkip, sExpr, sPar, sSetI, sSetA, sAug, sFor, sTg, dVar, dC, dNil, dCons, dBind, obind, dTup, dLst, dFrz, MO.d, dReg, dFz, dOp1, dOp2, dCmp, dB2v, dTst, dAnd, dOr, dNot, dIf, dCall, dIx, dLook, lookD, dIsi, dIsi2, dIsC, dIn, dChn, dMut, lstOf, putO, dM1, tyOk, dNw1, dNw2, dSl, dP, dNoP, dIsN, dItQ, dItS, dRg1, dRg2, dEnum, dLc, dYes, noex, Tg.run, gSets, List.length_map, List.length_cons, List.length_nil, List.map_cons, List.map_nil, ltD, c1], h, by omega, by omega⟩
  by_cases c2 : 0 < p.d
  · refine ⟨p.d % many, { p with d := p.d / many }, ?_, ⟨h.i0, h.len, h.pos, h.m0, h.m1, Int.ediv_nonneg h.d0 h0⟩, Int.emod_nonneg _ (by omega), .inl (Int.emod_lt_of_pos _ (by omega))⟩
    have e1 : (0 : Int) < many := by omega
    have e2 : many < 1152921504606846976 := by omega
    simp [f__law_draw, g__law_draw, dFun, sSeq, snext, sIf, sbind, sAsg, sRet, sSkip, sExpr, sPar, sSetI, sSetA, sAug, sFor, sTg, dVar, dC, dNil, dCons, dBind, obind, dTup, dLst, dFrz, MO.d, dReg, dFz, dOp1, dOp2, dCmp, dB2v, dTst, dAnd, dOr, dNot, dIf, dCall, dIx, dLook, lookD, dIsi, dIsi2, dIsC, dIn, dChn, dMut, lstOf, putO, dM1, tyOk, dNw1, dNw2, dSl, dP, dNoP, dIsN, dItQ, dItS, dRg1, dRg2, dEnum, dLc, dYes, noex, Tg.run, gSets, List.length_map, List.length_cons, List.length_nil, List.map_cons, List.map_nil, ltD, gtI, cmpI, c1, c2, mus, Pot.mo, ixD, L2.atI, L2.ixN, setD, intD, arI, e1, e2]
  by_cases c3 : p.i < p.cells.length
  · obtain ⟨j, ej⟩ : ∃ j : Nat, p.i = (j : Int) := ⟨p.i.toNat, by have := h.i0; omega⟩
    have hj : j < p.cells.length := by omega
    have hc : 0 ≤ p.cells[j] := h.pos _ (List.getElem_mem hj)
    have e1 : (0 : Int) < many := by omega
    have e2 : many < 1152921504606846976 := by omega
    by_cases c4 : (1000000000000000000 : Int) ≤ p.cells[j]
    · refine ⟨p.cells[j] % many, { p with i := p.i + 1, d := p.cells[j] / many }, ?_, ⟨by have := h.i0; show 0 ≤ p.i + 1; omega, h.len, h.pos, h.m0, h.m1, Int.ediv_nonneg hc h0⟩, Int.emod_nonneg _ (by omega), .inl (Int.emod_lt_of_pos _ (by omega))⟩
      simp [f__law_draw, g__law_draw, dFun, sSeq, snext, sIf, sbind, sAsg, sRet, sSkip, sExpr, sPar, sSetI, sSetA, sAug, sFor, sTg, dVar, dC, dNil, dCons, dBind, obind, dTup, dLst, dFrz, MO.d, dReg, dFz, dOp1, dOp2, dCmp, dB2v, dTst, dAnd, dOr, dNot, dIf, dCall, dIx, dLook, lookD, dIsi, dIsi2, dIsC, dIn, dChn, dMut, lstOf, putO, dM1, tyOk, dNw1, dNw2, dSl, dP, dNoP, dIsN, dItQ, dItS, dRg1, dRg2, dEnum, dLc, dYes, noex, Tg.run, gSets, List.length_map, List.length_cons, List.length_nil, List.map_cons, List.map_nil, ltD, gtI, geI, cmpI, c1, c2, c3, c4, mus, Pot.mo, ixD, L2.atI, L2.ixN, setD, intD, arI, e1, e2, lenD, addD, ej, hj]
    · have hm : 0 ≤ (p.m * 48271 + p.cells[j] + 12345) % 2147483647 := Int.emod_nonneg _ (by omega)
      have hm2 : (p.m * 48271 + p.cells[j] + 12345) % 2147483647 < 2147483647 := Int.emod_lt_of_pos _ (by omega)
      have m1 : -18446744073709551616 < p.m := by have := h.m0; omega
      have m2 : p.m < 18446744073709551616 := by have := h.m1; omega
      refine ⟨(((p.m * 48271 + p.cells[j] + 12345) % 2147483647) * ((p.m * 48271 + p.cells[j] + 12345) % 2147483647) / 64 + ((p.m * 48271 + p.cells[j] + 12345) % 2147483647) / 7) % many, { p with i := p.i + 1, m := (p.m * 48271 + p.cells[j] + 12345) % 2147483647 }, ?_, ⟨by have := h.i0; show 0 ≤ p.i + 1; omega, h.len, h.pos, hm, by show (p.m * 48271 + p.cells[j] + 12345) % 2147483647 < 2147483648; omega, h.d0⟩, Int.emod_nonneg _ (by omega), .inl (Int.emod_lt_of_pos _ (by omega))⟩
      have m3 : -18446744073709551616 < (p.m * 48271 + p.cells[j] + 12345) % 2147483647 := by omega
      have m4 : (p.m * 48271 + p.cells[j] + 12345) % 2147483647 < 18446744073709551616 := by omega
      simp [f__law_draw, g__law_draw, dFun, sSeq, snext, sIf, sbind, sAsg, sRet, sSkip, sExpr, sPar, sSetI, sSetA, sAug, sFor, sTg, dVar, dC, dNil, dCons, dBind, obind, dTup, dLst, dFrz, MO.d, dReg, dFz, dOp1, dOp2, dCmp, dB2v, dTst, dAnd, dOr, dNot, dIf, dCall, dIx, dLook, lookD, dIsi, dIsi2, dIsC, dIn, dChn, dMut, lstOf, putO, dM1, tyOk, dNw1, dNw2, dSl, dP, dNoP, dIsN, dItQ, dItS, dRg1, dRg2, dEnum, dLc, dYes, noex, Tg.run, gSets, List.length_map, List.length_cons, List.length_nil, List.map_cons, List.map_nil, ltD, gtI, geI, cmpI, c1, c2, c3, c4, mus, Pot.mo, ixD, L2.atI, L2.ixN, setD, intD, arI, e1, e2, lenD, addD, mulD, ej, hj, m1, m2, m3, m4]
  · have hm : 0 ≤ (p.m * 48271 + 0 + 12345) % 2147483647 := Int.emod_nonneg _ (by omega)
    have hm2 : (p.m * 48271 + 0 + 12345) % 2147483647 < 2147483647 := Int.emod_lt_of_pos _ (by omega)
    have m1 : -18446744073709551616 < p.m := by have := h.m0; omega
    have m2 : p.m < 18446744073709551616 := by have := h.m1; omega
    have e1 : (0 : Int) < many := by omega
    have e2 : many < 1152921504606846976 := by omega
    have m3 : -18446744073709551616 < (p.m * 48271 + 12345) % 2147483647 := by omega
    have m4 : (p.m * 48271 + 12345) % 2147483647 < 18446744073709551616 := by omega
    refine ⟨(((p.m * 48271 + 12345) % 2147483647) * ((p.m * 48271 + 12345) % 2147483647) / 64 + ((p.m * 48271 + 12345) % 2147483647) / 7) % many, { p with m := (p.m * 48271 + 12345) % 2147483647 }, ?_, ⟨h.i0, h.len, h.pos, by simpa using hm, by show (p.m * 48271 + 12345) % 2147483647 < 2147483648; omega, h.d0⟩, Int.emod_nonneg _ (by omega), .inl (Int.emod_lt_of_pos _ (by omega))⟩
    simp [f__law_draw, g__law_draw, dFun, sSeq, snext, sIf, sbind, sAsg, sRet, sSkip, sExpr, sPar, sSetI, sSetA, sAug, sFor, sTg, dVar, dC, dNil, dCons, dBind, obind, dTup, dLst, dFrz, MO.d, dReg, dFz, dOp1, dOp2, dCmp, dB2v, dTst, dAnd, dOr, dNot, dIf, dCall, dIx, dLook, lookD, dIsi, dIsi2, dIsC, dIn, dChn, dMut, lstOf, putO, dM1, tyOk, dNw1, dNw2, dSl, dP, dNoP, dIsN, dItQ, dItS, dRg1, dRg2, dEnum, dLc, dYes, noex, Tg.run, gSets, List.length_map, List.length_cons, List.length_nil, List.map_cons, List.map_nil, ltD, gtI, geI, cmpI, c1, c2, c3, mus, Pot.mo, ixD, L2.atI, L2.ixN, setD, intD, arI, e1, e2, lenD, addD, mulD, m1, m2, m3, m4]
end DL
end

section
set_option Elab.async false
set_option linter.all false
set_option maxRecDepth 100000
set_option maxHeartbeats 4000000
namespace DL
open PySem
/-! the plain law of k02: picks, words -/
theorem pick_lst {p : Pot} (h : p.Ok) {l : List D} (h0 : l ≠ []) (h1 : l.length < 2147483648) (r : Store) :
    ∃ d p', f__law_pick [.obj 0, .lst l] (mus p r) = .ok d (mus p' r) ∧ p'.Ok ∧ d ∈ l := by
  obtain ⟨v, p', e, ok, v0, v1⟩ := draw_ok h (many := (l.length : Int)) (by omega) (by omega) r
  have hl : 0 < l.length := List.length_pos_iff.mpr h0
  have hv : v < (l.length : Int) := by omega
  obtain ⟨j, ej⟩ : ∃ j : Nat, v = (j : Int) := ⟨v.toNat, by omega⟩
  subst ej
  have hj : j < l.length := by omega
  refine ⟨l[j], p', ?_, ok, List.getElem_mem hj⟩
  simp [f__law_pick, g__law_pick, dFun, sSeq, snext, sIf, sbind, sAsg, sRet, sSkip, sExpr, sPar, sSetI, sSetA, sAug, sFor, sTg, dVar, dC, dNil, dCons, dBind, obind, dTup, dLst, dFrz, MO.d, dReg, dFz, dOp1, dOp2, dCmp, dB2v, dTst, dAnd, dOr, dNot, dIf, dCall, dIx, dLook, lookD, dIsi, dIsi2, dIsC, dIn, dChn, dMut, lstOf, putO, dM1, tyOk, dNw1, dNw2, dSl, dP, dNoP, dIsN, dItQ, dItS, dRg1, dRg2, dEnum, dLc, dYes, noex, Tg.run, gSets, List.length_map, List.length_cons, List.length_nil, List.map_cons, List.map_nil, lenD, e, ixD, L2.atI, L2.ixN, hj]
theorem pick_str {p : Pot} (h : p.Ok) {z : Str} (h0 : z.length ≠ 0) (h1 : z.length ≤ 16000000) (r : Store) :
    ∃ c p', f__law_pick [.obj 0, .str z] (mus p r) = .ok (.str ⟨#[c]⟩) (mus p' r) ∧ p'.Ok ∧ c ∈ z.cps.toList := by
  obtain ⟨v, p', e, ok, v0, v1⟩ := draw_ok h (many := (z.length : Int)) (by omega) (by omega) r
  have hv : v < (z.length : Int) := by omega
  obtain ⟨j, ej⟩ : ∃ j : Nat, v = (j : Int) := ⟨v.toNat, by omega⟩
  subst ej
  have hj : j < z.length := by omega
  have hj' : j < z.cps.size := hj
  have hs : z.length = z.cps.size := rfl
  refine ⟨z.cps[j], p', ?_, ok, by simp⟩
  simp [f__law_pick, g__law_pick, dFun, sSeq, snext, sIf, sbind, sAsg, sRet, sSkip, sExpr, sPar, sSetI, sSetA, sAug, sFor, sTg, dVar, dC, dNil, dCons, dBind, obind, dTup, dLst, dFrz, MO.d, dReg, dFz, dOp1, dOp2, dCmp, dB2v, dTst, dAnd, dOr, dNot, dIf, dCall, dIx, dLook, lookD, dIsi, dIsi2, dIsC, dIn, dChn, dMut, lstOf, putO, dM1, tyOk, dNw1, dNw2, dSl, dP, dNoP, dIsN, dItQ, dItS, dRg1, dRg2, dEnum, dLc, dYes, noex, Tg.run, gSets, List.length_map, List.length_cons, List.length_nil, List.map_cons, List.map_nil, lenD, h1, e, ixD, L2.atI, L2.ixN]
  simp [hj']
def signs : Str := "abcdefghijklmnopqrstuvwxyz"
theorem signs_len : signs.length = 26 := by decide +kernel
def lettersD (cs : List Nat) : List D := cs.map fun c => .str ⟨#[c]⟩
theorem word_loop (r : Store) : ∀ (ds : List D) (acc : List Nat) (p : Pot) (sw : Sl), p.Ok → sw.length = 3 → sw[0]? = some (some (.val (.obj 0))) → (∀ c ∈ acc, c ∈ signs.cps.toList) →
    ∃ cs p', dLcL (.nm 2) sw dYes (dCall f__law_pick (dCons (dVar 0) (dCons (dC (.str signs)) dNil))) ds (lettersD acc) (mus p r) = .ok (.lst (lettersD cs)) (mus p' r) ∧ p'.Ok ∧ (∀ c ∈ cs, c ∈ signs.cps.toList) ∧ cs.length = acc.length + ds.length
  | [], acc, p, sw, h, hl, hs, ha => ⟨acc, p, rfl, h, ha, rfl⟩
  | d :: ds, acc, p, sw, h, hl, hs, ha => by
    obtain ⟨c, p1, e, ok, hc⟩ := pick_str h (z := signs) (by rw [signs_len]; decide) (by rw [signs_len]; decide) r
    obtain ⟨cs, p', e2, ok2, h2, h3⟩ := word_loop r ds (acc ++ [c]) p1 sw ok hl hs (fun x hx => by rcases List.mem_append.mp hx with hx | hx; exact ha x hx; rw [List.mem_singleton] at hx; subst hx; exact hc)
    refine ⟨cs, p', ?_, ok2, h2, by rw [h3]; simp; omega⟩
    have hs2 : (sw.set 2 (some (.val d)))[0]? = some (some (.val (.obj 0))) := by rw [List.getElem?_set_ne (by decide)]; exact hs
    rw [← e2]
    conv => lhs; unfold dLcL
    simp [Tg.run, dYes, noex, obind, dCall, dBind, dCons, dVar, dC, dNil, hs2, e, lettersD]
theorem joinL_nil : ∀ L : List (List Nat), TL.joinL [] L = L.flatten
  | [] => rfl
  | [p] => by simp [TL.joinL]
  | p :: q :: r => by
    have := joinL_nil (q :: r)
    simp only [TL.joinL, List.nil_append, this, List.flatten_cons]
theorem tl_join0 (ys : List Str) : TL.tl (Txt.join "" ys) = (ys.map TL.tl).flatten := by
  rw [TL.join_eq, TL.tl_join, show TL.tl ("" : Str) = [] from rfl, joinL_nil]
theorem join_signs (cs : List Nat) : Txt.join "" (cs.map fun c => (⟨#[c]⟩ : Str)) = ⟨cs.toArray⟩ := by
  apply TL.ext_tl
  rw [tl_join0, List.map_map, TL.tl_mk]
  induction cs with
  | nil => rfl
  | cons c cs ih =>
    rw [List.map_cons, List.flatten_cons, ih]
    rfl
theorem strsD_letters : ∀ cs : List Nat, strsD (lettersD cs) = some (cs.map fun c => (⟨#[c]⟩ : Str))
  | [] => rfl
  | c :: cs => by
    have := strsD_letters cs
    unfold lettersD at this ⊢
    rw [List.map_cons]
    unfold strsD
    rw [this]
    rfl
theorem letters_len (cs : List Nat) : ((cs.map fun c => (⟨#[c]⟩ : Str)).map (·.length)).sum = cs.length := by
  induction cs with
  | nil => rfl
  | cons c cs ih => rw [List.map_cons, List.map_cons, List.sum_cons, ih, List.length_cons]; show 1 + cs.length = _; omega
/-- letters, not none, up to eight -/
structure Word (x : Str) : Prop where
  let_ : ∀ c ∈ TL.tl x, c ∈ TL.tl signs
  pos : 1 ≤ x.length
  le : x.length ≤ 8
theorem word_q {p : Pot} (h : p.Ok) {n : Nat} (hn : n ≤ 100) (r : Store) : ∃ cs p', q__law_word_1 [some (.val (.obj 0)), some (.val (.int (n : Int))), none] (mus p r) = .ok (.lst (lettersD cs)) (mus p' r) ∧ p'.Ok ∧ (∀ c ∈ cs, c ∈ TL.tl signs) ∧ cs.length = n := by
  obtain ⟨cs, p', e, ok, h2, h3⟩ := word_loop r (rangeD 0 n) [] p (wipeS [some (.val (.obj 0)), some (.val (.int (n : Int))), none] [2]) h rfl rfl (fun _ h => by cases h)
  rw [rangeD_len, List.length_nil, Nat.zero_add] at h3
  refine ⟨cs, p', ?_, ok, h2, h3⟩
  have h1 : rgOk (n : Int) = true := rgOk_nat (by omega)
  have hs : sizeOk (rangeD 0 n) = true := by unfold sizeOk; rw [rangeD_len]; exact decide_eq_true (by omega)
  rw [← e]
  unfold q__law_word_1 dLc dRg1 dBind obind dVar
  simp only [List.getElem?_cons_succ, List.getElem?_cons_zero, h1, if_true, Int.toNat_natCast, hs]
  rfl
theorem word_ok {p : Pot} (h : p.Ok) (r : Store) : ∃ w p', f__law_word [.obj 0] (mus p r) = .ok (.str w) (mus p' r) ∧ p'.Ok ∧ Word w := by
  obtain ⟨v, p1, e, ok, v0, v1⟩ := draw_ok h (many := 6) (by decide) (by decide) r
  by_cases hv : v = 0
  · subst hv
    obtain ⟨d, p2, e2, ok2, hd⟩ := pick_lst ok (l := [.str "spot", .str "road", .str "over"]) (by simp) (by decide) r
    have : ∃ w : Str, d = .str w ∧ Word w := by
      simp only [List.mem_cons, List.not_mem_nil, or_false] at hd
      rcases hd with rfl | rfl | rfl
      · exact ⟨_, rfl, by decide +kernel, by decide +kernel, by decide +kernel⟩
      · exact ⟨_, rfl, by decide +kernel, by decide +kernel, by decide +kernel⟩
      · exact ⟨_, rfl, by decide +kernel, by decide +kernel, by decide +kernel⟩
    obtain ⟨w, rfl, hw⟩ := this
    exact ⟨w, p2, by simp [f__law_word, g__law_word, dFun, sSeq, snext, sIf, sbind, sAsg, sRet, sSkip, sExpr, sPar, sSetI, sSetA, sAug, sFor, sTg, dVar, dC, dNil, dCons, dBind, obind, dTup, dLst, dFrz, MO.d, dReg, dFz, dOp1, dOp2, dCmp, dB2v, dTst, dAnd, dOr, dNot, dIf, dCall, dIx, dLook, lookD, dIsi, dIsi2, dIsC, dIn, dChn, dMut, lstOf, putO, dM1, tyOk, dNw1, dNw2, dSl, dP, dNoP, dIsN, dItQ, dItS, dRg1, dRg2, dEnum, dLc, dYes, noex, Tg.run, gSets, List.length_map, List.length_cons, List.length_nil, List.map_cons, List.map_nil, e, eqD, toP, PyData.depth, PyData.eqv, e2], ok2, hw⟩
  · obtain ⟨d, p2, e2, ok2, hd⟩ := pick_lst ok (l := [.int 1, .int 2, .int 3, .int 5, .int 8]) (by simp) (by decide) r
    have : ∃ n : Nat, d = .int (n : Int) ∧ 1 ≤ n ∧ n ≤ 8 := by
      simp only [List.mem_cons, List.not_mem_nil, or_false] at hd
      rcases hd with rfl | rfl | rfl | rfl | rfl
      · exact ⟨1, rfl, by decide, by decide⟩
      · exact ⟨2, rfl, by decide, by decide⟩
      · exact ⟨3, rfl, by decide, by decide⟩
      · exact ⟨5, rfl, by decide, by decide⟩
      · exact ⟨8, rfl, by decide, by decide⟩
    obtain ⟨n, rfl, n1, n8⟩ := this
    obtain ⟨cs, p3, e3, ok3, h2, h3⟩ := word_q ok2 (n := n) (by omega) r
    refine ⟨⟨cs.toArray⟩, p3, ?_, ok3, ⟨h2, ?_, ?_⟩⟩
    · have hj : joinD (.str "") (.lst (lettersD cs)) = some (.str ⟨cs.toArray⟩) := by
        unfold joinD
        dsimp only
        rw [strsD_letters]
        dsimp only
        rw [letters_len, List.length_map, if_pos (by rw [show ("" : Str).length = 0 from rfl]; omega), join_signs]
      simp [f__law_word, g__law_word, dFun, sSeq, snext, sIf, sbind, sAsg, sRet, sSkip, sExpr, sPar, sSetI, sSetA, sAug, sFor, sTg, dVar, dC, dNil, dCons, dBind, obind, dTup, dLst, dFrz, MO.d, dReg, dFz, dOp1, dOp2, dCmp, dB2v, dTst, dAnd, dOr, dNot, dIf, dCall, dIx, dLook, lookD, dIsi, dIsi2, dIsC, dIn, dChn, dMut, lstOf, putO, dM1, tyOk, dNw1, dNw2, dSl, dP, dNoP, dIsN, dItQ, dItS, dRg1, dRg2, dEnum, dLc, dYes, noex, Tg.run, gSets, List.length_map, List.length_cons, List.length_nil, List.map_cons, List.map_nil, e, eqD, toP, PyData.depth, PyData.eqv, hv, e2, e3, hj]
    · show 1 ≤ cs.toArray.size
      simp; omega
    · show cs.toArray.size ≤ 8
      simp; omega
end DL
end

section
set_option Elab.async false
set_option linter.all false
set_option maxRecDepth 100000
set_option maxHeartbeats 4000000
namespace DL
open PySem
/-! the plain law of k02: names -/
/-- a comprehension that leaves the store as it is -/
theorem lcL_pure {g : Tg} {sw : Sl} {c : BF} {elt : EF} {mu : Store} (T : D → Option D) : ∀ (ds acc : List D), (∀ d ∈ ds, ∃ sl1, g.run d sw = some sl1 ∧ ((∃ y, T d = some y ∧ c sl1 mu = .ok true mu ∧ elt sl1 mu = .ok y mu) ∨ (T d = none ∧ c sl1 mu = .ok false mu))) →
    dLcL g sw c elt ds acc mu = .ok (.lst (acc ++ ds.filterMap T)) mu
  | [], acc, _ => by rw [List.filterMap_nil, List.append_nil]; rfl
  | d :: ds, acc, h => by
    obtain ⟨sl1, e1, h1⟩ := h d List.mem_cons_self
    have ih := fun acc => lcL_pure (g := g) (sw := sw) (c := c) (elt := elt) (mu := mu) T ds acc fun x hx => h x (List.mem_cons_of_mem _ hx)
    rcases h1 with ⟨y, t, e2, e3⟩ | ⟨t, e2⟩
    · rw [List.filterMap_cons_some t]
      unfold dLcL
      simp only [e1, e2, e3, noex, obind, if_true]
      rw [ih, List.append_assoc]
      rfl
    · rw [List.filterMap_cons_none t]
      unfold dLcL
      simp only [e1, e2, noex, obind, Bool.false_eq_true, if_false]
      exact ih acc
theorem lc_pure {src : LF} {g : Tg} {own : List Nat} {c : BF} {elt : EF} {sl : Sl} {mu : Store} {ds : List D} (T : D → Option D) (hs : src sl mu = .ok ds mu) (hz : ds.length ≤ 16000000)
    (h : ∀ d ∈ ds, ∃ sl1, g.run d (wipeS sl own) = some sl1 ∧ ((∃ y, T d = some y ∧ c sl1 mu = .ok true mu ∧ elt sl1 mu = .ok y mu) ∨ (T d = none ∧ c sl1 mu = .ok false mu))) :
    dLc src g own c elt sl mu = .ok (.lst (ds.filterMap T)) mu := by
  unfold dLc dBind obind
  rw [hs]
  have e : sizeOk ds = true := decide_eq_true hz
  simp only [e, if_true]
  rw [lcL_pure T ds [] h, List.nil_append]
/-- .. every one -/
theorem lc_all {src : LF} {g : Tg} {own : List Nat} {elt : EF} {sl : Sl} {mu : Store} {ds : List D} (T : D → D) (hs : src sl mu = .ok ds mu) (hz : ds.length ≤ 16000000)
    (h : ∀ d ∈ ds, ∃ sl1, g.run d (wipeS sl own) = some sl1 ∧ elt sl1 mu = .ok (T d) mu) : dLc src g own dYes elt sl mu = .ok (.lst (ds.map T)) mu := by
  have := lc_pure (src := src) (g := g) (own := own) (c := dYes) (elt := elt) (sl := sl) (mu := mu) (ds := ds) (fun d => some (T d)) hs hz fun d hd => by
    obtain ⟨sl1, e1, e2⟩ := h d hd
    exact ⟨sl1, e1, .inl ⟨_, rfl, rfl, e2⟩⟩
  rw [this]
  congr 2
  induction ds with
  | nil => rfl
  | cons d ds ih => simp
def resv : List Str := ["spot", "road", "over"]
theorem str_beq (a b : Str) : (a == b) = decide (b = a) := by
  rw [Bool.eq_iff_iff, beq_iff_eq, decide_eq_true_iff]
  exact eq_comm
theorem any_strs (x : Str) : ∀ ys : List Str, ((ys.map PyData.str).any fun y => PyData.eqv y (.str x)) = decide (x ∈ ys)
  | [] => rfl
  | y :: ys => by
    rw [List.map_cons, List.any_cons, any_strs x ys]
    show (y == x || decide (x ∈ ys)) = _
    rw [str_beq]
    simp
theorem depth_strs : ∀ ys : List Str, PyData.depthAll (ys.map PyData.str) = 0
  | [] => by simp [PyData.depthAll]
  | y :: ys => by
    rw [List.map_cons]
    simp [PyData.depthAll, PyData.depth, depth_strs ys]
theorem in_strs (x : Str) (ys : List Str) : inD (.str x) (.lst (ys.map D.str)) = some (decide (x ∈ ys)) := by
  unfold inD
  simp only [toP, toPL_strs, depth_strs, any_strs]
  rw [if_pos (by simp [PyData.depth])]
theorem in_strsT (x : Str) (ys : List Str) : inD (.str x) (.tup (ys.map D.str)) = some (decide (x ∈ ys)) := by
  unfold inD
  simp only [toP, toPL_strs, depth_strs, any_strs]
  rw [if_pos (by simp [PyData.depth])]
theorem in_resv (x : Str) : inD (.str x) (.tup [.str "spot", .str "road", .str "over"]) = some (decide (x ∈ resv)) := in_strsT x resv
theorem signs_in (c : Nat) : inD (.str ⟨#[c]⟩) (.str "abcdefghijklmnopqrstuvwxyz") = some (decide (c ∈ TL.tl signs)) := rfl
theorem q_law_is_name {x : Str} (h : Word x) (mu : Store) : q__law_is_name_1 [some (.val (.str x)), none] mu = .ok (.lst (signsD x)) mu := by
  have := lc_pure (src := dItS (dVar 0)) (g := .nm 1) (own := [1]) (c := dIn false (dVar 1) (dLook (dC (.str "abcdefghijklmnopqrstuvwxyz")))) (elt := dVar 1) (sl := [some (.val (.str x)), none]) (mu := mu) (ds := signsD x) some rfl
    (by unfold signsD; rw [List.length_map]; have := h.le; have e : x.length = x.cps.toList.length := by simp [Str.length]
        omega) (fun d hd => by
      unfold signsD at hd
      obtain ⟨c, hc, rfl⟩ := List.mem_map.mp hd
      refine ⟨_, rfl, .inl ⟨_, rfl, ?_, rfl⟩⟩
      have : decide (c ∈ TL.tl signs) = true := decide_eq_true (h.let_ c hc)
      have hm : c ∈ signs.cps := by simpa using h.let_ c hc
      simp [wipeS, dFun, sSeq, snext, sIf, sbind, sAsg, sRet, sSkip, sExpr, sPar, sSetI, sSetA, sAug, sFor, sTg, dVar, dC, dNil, dCons, dBind, obind, dTup, dLst, dFrz, MO.d, dReg, dFz, dOp1, dOp2, dCmp, dB2v, dTst, dAnd, dOr, dNot, dIf, dCall, dIx, dLook, lookD, dIsi, dIsi2, dIsC, dIn, dChn, dMut, lstOf, putO, dM1, tyOk, dNw1, dNw2, dSl, dP, dNoP, dIsN, dItQ, dItS, dRg1, dRg2, dEnum, dLc, dYes, noex, Tg.run, gSets, List.length_map, List.length_cons, List.length_nil, List.map_cons, List.map_nil, signs_in, hm])
  rw [List.filterMap_some] at this
  exact this
theorem law_is_name {x : Str} (h : Word x) (mu : Store) : f__law_is_name [.str x] mu = .ok (.bl (!decide (x ∈ resv))) mu := by
  have h1 : (1 : Int) ≤ (x.length : Int) := by have := h.pos; omega
  have h2 : (x.length : Int) ≤ 8 := by have := h.le; omega
  have h3 : x.length ≤ 16000000 := by have := h.le; omega
  have hl : ((signsD x).length : Int) = (x.length : Int) := by unfold signsD; simp [Str.length]
  by_cases hx : x ∈ resv
  · simp [f__law_is_name, g__law_is_name, dFun, sSeq, snext, sIf, sbind, sAsg, sRet, sSkip, sExpr, sPar, sSetI, sSetA, sAug, sFor, sTg, dVar, dC, dNil, dCons, dBind, obind, dTup, dLst, dFrz, MO.d, dReg, dFz, dOp1, dOp2, dCmp, dB2v, dTst, dAnd, dOr, dNot, dIf, dCall, dIx, dLook, lookD, dIsi, dIsi2, dIsC, dIn, dChn, dMut, lstOf, putO, dM1, tyOk, dNw1, dNw2, dSl, dP, dNoP, dIsN, dItQ, dItS, dRg1, dRg2, dEnum, dLc, dYes, noex, Tg.run, gSets, List.length_map, List.length_cons, List.length_nil, List.map_cons, List.map_nil, isiOk, isTy, lenD, leI, cmpI, h3, h1, h2, in_resv, hx]
  · simp [f__law_is_name, g__law_is_name, dFun, sSeq, snext, sIf, sbind, sAsg, sRet, sSkip, sExpr, sPar, sSetI, sSetA, sAug, sFor, sTg, dVar, dC, dNil, dCons, dBind, obind, dTup, dLst, dFrz, MO.d, dReg, dFz, dOp1, dOp2, dCmp, dB2v, dTst, dAnd, dOr, dNot, dIf, dCall, dIx, dLook, lookD, dIsi, dIsi2, dIsC, dIn, dChn, dMut, lstOf, putO, dM1, tyOk, dNw1, dNw2, dSl, dP, dNoP, dIsN, dItQ, dItS, dRg1, dRg2, dEnum, dLc, dYes, noex, Tg.run, gSets, List.length_map, List.length_cons, List.length_nil, List.map_cons, List.map_nil, isiOk, isTy, lenD, leI, cmpI, h3, h1, h2, in_resv, hx, q_law_is_name h, hl, eqD, toP, PyData.depth, PyData.eqv]
/-! names -/
structure Name (x : Str) : Prop extends Word x where
  free : x ∉ resv
/-- unlike names -/
structure Names (l : List Str) : Prop where
  all : ∀ x ∈ l, Name x
  nd : l.Nodup
  le : l.length ≤ 9
def sg (c : Nat) : Str := ⟨#[c]⟩
theorem signsD_eq (x : Str) : signsD x = (TL.tl x).map fun c => .str (sg c) := rfl
theorem tl_sg (x : Str) (c : Nat) : TL.tl (x ++ sg c) = TL.tl x ++ [c] := TL.tl_append x (sg c)
theorem len_sg (x : Str) (c : Nat) : (x ++ sg c).length = x.length + 1 := by rw [TL.len_tl, TL.len_tl, tl_sg, List.length_append]; rfl
def cands (w : Str) : List Str := (TL.tl signs).map fun c => w ++ sg c
theorem q_names_1 {w : Str} (h : w.length ≤ 7) (mu : Store) {a0 a1 a2 a3 a5 a6 a7 : Option SV} : q__law_names_1 [a0, a1, a2, a3, some (.val (.str w)), a5, a6, a7] mu = .ok (.lst ((cands w).map D.str)) mu := by
  have := lc_all (src := dItS (dC (.str "abcdefghijklmnopqrstuvwxyz"))) (g := .nm 6) (own := [6]) (elt := dOp2 addD (dVar 4) (dVar 6)) (sl := [a0, a1, a2, a3, some (.val (.str w)), a5, a6, a7]) (mu := mu) (ds := signsD signs)
    (fun d => match d with | .str s => .str (w ++ s) | d => d) rfl (by decide +kernel) (fun d hd => by
      rw [signsD_eq] at hd
      obtain ⟨c, hc, rfl⟩ := List.mem_map.mp hd
      refine ⟨_, rfl, ?_⟩
      have h1 : w.length + (sg c).length ≤ 16000000 := by show w.length + 1 ≤ _; omega
      simp [wipeS, dFun, sSeq, snext, sIf, sbind, sAsg, sRet, sSkip, sExpr, sPar, sSetI, sSetA, sAug, sFor, sTg, dVar, dC, dNil, dCons, dBind, obind, dTup, dLst, dFrz, MO.d, dReg, dFz, dOp1, dOp2, dCmp, dB2v, dTst, dAnd, dOr, dNot, dIf, dCall, dIx, dLook, lookD, dIsi, dIsi2, dIsC, dIn, dChn, dMut, lstOf, putO, dM1, tyOk, dNw1, dNw2, dSl, dP, dNoP, dIsN, dItQ, dItS, dRg1, dRg2, dEnum, dLc, dYes, noex, Tg.run, gSets, List.length_map, List.length_cons, List.length_nil, List.map_cons, List.map_nil, addD, h1])
  rw [show q__law_names_1 = dLc (dItS (dC (.str "abcdefghijklmnopqrstuvwxyz"))) (.nm 6) [6] dYes (dOp2 addD (dVar 4) (dVar 6)) from rfl, this]
  rw [signsD_eq, cands, List.map_map, List.map_map]
  rfl
theorem cand_word {w x : Str} (hl : ∀ c ∈ TL.tl w, c ∈ TL.tl signs) (h : w.length ≤ 7) (hx : x ∈ cands w) : Word x := by
  obtain ⟨c, hc, rfl⟩ := List.mem_map.mp hx
  refine ⟨fun d hd => ?_, by rw [len_sg]; omega, by rw [len_sg]; omega⟩
  rw [tl_sg] at hd
  rcases List.mem_append.mp hd with hd | hd
  · exact hl d hd
  · rw [List.mem_singleton] at hd; subst hd; exact hc
theorem filterMap_filter (P : Str → Bool) : ∀ l : List Str, (l.map D.str).filterMap (fun d => match d with
    | .str x => if P x = true then some (.str x) else none
    | _ => none) = (l.filter P).map D.str
  | [] => rfl
  | x :: l => by
    have ih := filterMap_filter P l
    cases h : P x
    · rw [List.filter_cons_of_neg (by rw [h]; decide), ← ih, List.map_cons, List.filterMap_cons_none (by simp [h])]
    · rw [List.filter_cons_of_pos h, List.map_cons, List.map_cons, ← ih, List.filterMap_cons_some (b := D.str x) (by simp [h])]
/-- those not yet found that are names -/
def fresh (w : Str) (found : List Str) : List Str := (cands w).filter fun x => !decide (x ∈ found) && !decide (x ∈ resv)
theorem q_names_2 {w : Str} (hl : ∀ c ∈ TL.tl w, c ∈ TL.tl signs) (h : w.length ≤ 7) {found : List Str} (p : Pot) (r : Store) {a0 a1 a3 a4 a6 a7 : Option SV} :
    q__law_names_2 [a0, a1, some (.val (.obj (r.length + 1))), a3, a4, some (.val (.lst ((cands w).map D.str))), a6, a7] (mus p (r ++ [some (.lst (found.map D.str))])) = .ok (.lst ((fresh w found).map D.str)) (mus p (r ++ [some (.lst (found.map D.str))])) := by
  have hlen : ((cands w).map D.str).length ≤ 16000000 := by unfold cands; rw [List.length_map, List.length_map]; decide +kernel
  have hget : (mus p (r ++ [some (.lst (found.map D.str))]))[r.length + 1]? = some (some (.lst (found.map D.str))) := by unfold mus; simp
  have := lc_pure (src := dItQ (dVar 5)) (g := .nm 7) (own := [7]) (c := dAnd (dIn true (dVar 7) (dLook (dVar 2))) (dTst (dCall f__law_is_name (dCons (dVar 7) dNil)))) (elt := dVar 7)
    (sl := [a0, a1, some (.val (.obj (r.length + 1))), a3, a4, some (.val (.lst ((cands w).map D.str))), a6, a7]) (mu := mus p (r ++ [some (.lst (found.map D.str))])) (ds := (cands w).map D.str)
    (fun d => match d with | .str x => if (!decide (x ∈ found) && !decide (x ∈ resv)) = true then some (.str x) else none | _ => none) rfl hlen (fun d hd => by
      obtain ⟨x, hx, rfl⟩ := List.mem_map.mp hd
      refine ⟨_, rfl, ?_⟩
      have hn := law_is_name (cand_word hl h hx) (mus p (r ++ [some (.lst (found.map D.str))]))
      by_cases h1 : x ∈ found
      · exact .inr ⟨by simp [h1], by simp [wipeS, dFun, sSeq, snext, sIf, sbind, sAsg, sRet, sSkip, sExpr, sPar, sSetI, sSetA, sAug, sFor, sTg, dVar, dC, dNil, dCons, dBind, obind, dTup, dLst, dFrz, MO.d, dReg, dFz, dOp1, dOp2, dCmp, dB2v, dTst, dAnd, dOr, dNot, dIf, dCall, dIx, dLook, lookD, dIsi, dIsi2, dIsC, dIn, dChn, dMut, lstOf, putO, dM1, tyOk, dNw1, dNw2, dSl, dP, dNoP, dIsN, dItQ, dItS, dRg1, dRg2, dEnum, dLc, dYes, noex, Tg.run, gSets, List.length_map, List.length_cons, List.length_nil, List.map_cons, List.map_nil, hget, in_strs, h1]⟩
      · by_cases h2 : x ∈ resv
        · exact .inr ⟨by simp [h2], by simp [wipeS, dFun, sSeq, snext, sIf, sbind, sAsg, sRet, sSkip, sExpr, sPar, sSetI, sSetA, sAug, sFor, sTg, dVar, dC, dNil, dCons, dBind, obind, dTup, dLst, dFrz, MO.d, dReg, dFz, dOp1, dOp2, dCmp, dB2v, dTst, dAnd, dOr, dNot, dIf, dCall, dIx, dLook, lookD, dIsi, dIsi2, dIsC, dIn, dChn, dMut, lstOf, putO, dM1, tyOk, dNw1, dNw2, dSl, dP, dNoP, dIsN, dItQ, dItS, dRg1, dRg2, dEnum, dLc, dYes, noex, Tg.run, gSets, List.length_map, List.length_cons, List.length_nil, List.map_cons, List.map_nil, hget, in_strs, h1, hn, h2]⟩
        · exact .inl ⟨.str x, by simp [h1, h2], by simp [wipeS, dFun, sSeq, snext, sIf, sbind, sAsg, sRet, sSkip, sExpr, sPar, sSetI, sSetA, sAug, sFor, sTg, dVar, dC, dNil, dCons, dBind, obind, dTup, dLst, dFrz, MO.d, dReg, dFz, dOp1, dOp2, dCmp, dB2v, dTst, dAnd, dOr, dNot, dIf, dCall, dIx, dLook, lookD, dIsi, dIsi2, dIsC, dIn, dChn, dMut, lstOf, putO, dM1, tyOk, dNw1, dNw2, dSl, dP, dNoP, dIsN, dItQ, dItS, dRg1, dRg2, dEnum, dLc, dYes, noex, Tg.run, gSets, List.length_map, List.length_cons, List.length_nil, List.map_cons, List.map_nil, hget, in_strs, h1, hn, h2], rfl⟩)
  rw [show q__law_names_2 = dLc (dItQ (dVar 5)) (.nm 7) [7] (dAnd (dIn true (dVar 7) (dLook (dVar 2))) (dTst (dCall f__law_is_name (dCons (dVar 7) dNil)))) (dVar 7) from rfl, this]
  congr 2
  exact filterMap_filter (fun x => !decide (x ∈ found) && !decide (x ∈ resv)) (cands w)
/-! there is always one -/
theorem cands_nodup (w : Str) : (cands w).Nodup := by
  have h : (TL.tl signs).Nodup := by decide +kernel
  unfold cands
  rw [List.Nodup, List.pairwise_map]
  refine h.imp fun {a b} hab e => hab ?_
  have := congrArg TL.tl e
  rw [tl_sg, tl_sg] at this
  have := List.append_cancel_left this
  exact List.head_eq_of_cons_eq this
theorem cands_len (w : Str) : (cands w).length = 26 := by unfold cands; rw [List.length_map]; decide +kernel
theorem fresh_ne {w : Str} {found : List Str} (h : found.length ≤ 9) : fresh w found ≠ [] := by
  intro e
  have sub : ∀ x ∈ cands w, x ∈ found ++ resv := by
    intro x hx
    have : x ∉ fresh w found := by rw [e]; simp
    unfold fresh at this
    rw [List.mem_filter] at this
    by_cases h1 : x ∈ found
    · exact List.mem_append_left _ h1
    · by_cases h2 : x ∈ resv
      · exact List.mem_append_right _ h2
      · exact absurd ⟨hx, by simp [h1, h2]⟩ this
  have := (cands_nodup w).length_le_of_subset sub
  rw [cands_len, List.length_append] at this
  have h3 : resv.length = 3 := rfl
  omega
theorem cut7 (w : Str) : TL.tl (L2.cutS w none (some 7)) = (TL.tl w).take 7 := by
  unfold L2.cutS
  rw [TL.tl_mk]
  have e : HT.sIx w.length w.length (some 7) = min 7 w.length := HT.sIx_nat _ _ 7
  rw [e, HT.sIx_none, List.drop_zero, Nat.sub_zero]
  have : w.length = (TL.tl w).length := TL.len_tl w
  rw [this]
  by_cases h : 7 ≤ (TL.tl w).length
  · rw [Nat.min_eq_left h]
  · rw [Nat.min_eq_right (by omega), List.take_of_length_le (Nat.le_refl _), List.take_of_length_le (by omega)]
/-- a turn -/
theorem names_turn {p : Pot} (h : p.Ok) {found : List Str} (hf : Names found) (hl : found.length ≤ 8) (r : Store) {a1 x3 x4 x5 : Option SV} : ∃ x p' y4 y5,
    b__law_names_1 [some (.val (.obj 0)), a1, some (.val (.obj (r.length + 1))), x3, x4, x5, none, none] (mus p (r ++ [some (.lst (found.map D.str))])) =
      .nx [some (.val (.obj 0)), a1, some (.val (.obj (r.length + 1))), x3, y4, y5, none, none] (mus p' (r ++ [some (.lst ((found ++ [x]).map D.str))])) ∧ p'.Ok ∧ Names (found ++ [x]) := by
  obtain ⟨w, p1, e1, ok, hw⟩ := word_ok h (r ++ [some (.lst (found.map D.str))])
  have hl7 : ∀ c ∈ TL.tl (L2.cutS w none (some 7)), c ∈ TL.tl signs := fun c hc => by
    rw [cut7] at hc
    exact hw.let_ c (List.mem_of_mem_take hc)
  have hlen : (L2.cutS w none (some 7)).length ≤ 7 := by
    rw [TL.len_tl, cut7]
    exact List.length_take_le 7 _
  have e2 := q_names_1 hlen (mus p1 (r ++ [some (.lst (found.map D.str))])) (a0 := some (.val (.obj 0))) (a1 := a1) (a2 := some (.val (.obj (r.length + 1)))) (a3 := x3) (a5 := x5) (a6 := none) (a7 := none)
  have e3 := q_names_2 hl7 hlen (found := found) p1 r (a0 := some (.val (.obj 0))) (a1 := a1) (a3 := x3) (a4 := some (.val (.str (L2.cutS w none (some 7))))) (a6 := none) (a7 := none)
  obtain ⟨x, l, e4⟩ : ∃ x l, fresh (L2.cutS w none (some 7)) found = x :: l := by
    cases q : fresh (L2.cutS w none (some 7)) found with
    | nil => exact absurd q (fresh_ne (by omega))
    | cons x l => exact ⟨x, l, rfl⟩
  have hx : x ∈ fresh (L2.cutS w none (some 7)) found := by rw [e4]; exact List.mem_cons_self
  unfold fresh at hx
  rw [List.mem_filter] at hx
  obtain ⟨hx1, hx2⟩ := hx
  have hx3 : x ∉ found ∧ x ∉ resv := by simpa using hx2
  rw [e4] at e3
  have hw16 : w.length ≤ 16000000 := by have := hw.le; omega
  have hget : (mus p1 (r ++ [some (.lst (found.map D.str))]))[r.length + 1]? = some (some (.lst (found.map D.str))) := by unfold mus; simp
  have hset : ∀ m : MO, (mus p1 (r ++ [some (.lst (found.map D.str))])).set (r.length + 1) (some m) = mus p1 (r ++ [some m]) := fun m => by unfold mus; simp
  have hf16 : found.length < 16000000 := by omega
  have hix : ixD (.lst (D.str x :: l.map D.str)) (.int 0) = some (.str x) := by simp [ixD, L2.atI, L2.ixN]
  refine ⟨x, p1, some (.val (.str (L2.cutS w none (some 7)))), some (.val (.lst ((cands (L2.cutS w none (some 7))).map D.str))), ?_, ok, ⟨fun y hy => ?_, ?_, by rw [List.length_append]; show found.length + 1 ≤ 9; omega⟩⟩
  · simp [b__law_names_1, dFun, sSeq, snext, sIf, sbind, sAsg, sRet, sSkip, sExpr, sPar, sSetI, sSetA, sAug, sFor, sTg, dVar, dC, dNil, dCons, dBind, obind, dTup, dLst, dFrz, MO.d, dReg, dFz, dOp1, dOp2, dCmp, dB2v, dTst, dAnd, dOr, dNot, dIf, dCall, dIx, dLook, lookD, dIsi, dIsi2, dIsC, dIn, dChn, dMut, lstOf, putO, dM1, tyOk, dNw1, dNw2, dSl, dP, dNoP, dIsN, dItQ, dItS, dRg1, dRg2, dEnum, dLc, dYes, noex, Tg.run, gSets, List.length_map, List.length_cons, List.length_nil, List.map_cons, List.map_nil, e1, sliceD, hw16, e2, e3, hget, appD, hf16, hset, hix]
  · rcases List.mem_append.mp hy with hy | hy
    · exact hf.all y hy
    · rw [List.mem_singleton] at hy
      subst hy
      exact { cand_word hl7 hlen hx1 with free := hx3.2 }
  · rw [List.nodup_append]
    refine ⟨hf.nd, by simp, fun a ha b hb => ?_⟩
    rw [List.mem_singleton] at hb
    subst hb
    exact fun e => hx3.1 (e ▸ ha)
theorem names_loop (r : Store) (a1 : Option SV) : ∀ (ds : List D) (found : List Str) (p : Pot) (x3 x4 x5 : Option SV), p.Ok → Names found → found.length + ds.length ≤ 9 → ∃ fs p' y3 y4 y5,
    sForL (.nm 3) b__law_names_1 ds [some (.val (.obj 0)), a1, some (.val (.obj (r.length + 1))), x3, x4, x5, none, none] (mus p (r ++ [some (.lst (found.map D.str))])) =
      .nx [some (.val (.obj 0)), a1, some (.val (.obj (r.length + 1))), y3, y4, y5, none, none] (mus p' (r ++ [some (.lst (fs.map D.str))])) ∧ p'.Ok ∧ Names fs ∧ fs.length = found.length + ds.length
  | [], found, p, x3, x4, x5, h, hf, hl => ⟨found, p, x3, x4, x5, rfl, h, hf, rfl⟩
  | d :: ds, found, p, x3, x4, x5, h, hf, hl => by
    rw [List.length_cons] at hl
    obtain ⟨x, p1, y4, y5, e, ok, hn⟩ := names_turn h hf (by omega) r (a1 := a1) (x3 := some (.val d)) (x4 := x4) (x5 := x5)
    obtain ⟨fs, p2, z3, z4, z5, e2, ok2, hn2, hl2⟩ := names_loop r a1 ds (found ++ [x]) p1 (some (.val d)) y4 y5 ok hn (by rw [List.length_append]; show found.length + 1 + ds.length ≤ 9; omega)
    refine ⟨fs, p2, z3, z4, z5, ?_, ok2, hn2, by rw [hl2]; simp; omega⟩
    rw [← e2]
    conv => lhs; unfold sForL
    simp only [Tg.run, List.set_cons_succ, List.set_cons_zero, e]
/-- names of the store that stays are closed -/
def Shut (r : Store) : Prop := r.all (clM (r.length + 1)) = true
theorem pot_clM (p : Pot) (n : Nat) : clM n (some p.mo) = true := by
  unfold Pot.mo clM
  have : ∀ l : List Int, clL n (l.map D.int) = true := fun l => by
    induction l with
    | nil => rfl
    | cons a l ih => rw [List.map_cons]; unfold clL; rw [ih]; rfl
  simp [clL, clD, this]
theorem gc_mus {α : Type} (cl : Nat → α → Bool) {p : Pot} {r r2 : Store} {a : α} (h : Shut r) (hc : cl (r.length + 1) a = true) : gcO cl (r.length + 1) (.ok a (mus p (r ++ r2))) = .ok a (mus p r) := by
  have e : (mus p (r ++ r2)).take (r.length + 1) = mus p r := by unfold mus; simp
  unfold gcO
  dsimp only
  rw [e, hc]
  have : (mus p r).all (clM (r.length + 1)) = true := by
    unfold mus
    rw [List.all_cons, pot_clM]
    exact h
  rw [this]
  rfl
theorem cl_strs (n : Nat) (l : List Str) : clL n (l.map D.str) = true := by
  induction l with
  | nil => rfl
  | cons a l ih => rw [List.map_cons]; unfold clL; rw [ih]; rfl
theorem names_ok {p : Pot} (h : p.Ok) {n : Nat} (hn : n ≤ 9) {r : Store} (hr : Shut r) : ∃ fs p', f__law_names [.obj 0, .int (n : Int)] (mus p r) = .ok (.lst (fs.map D.str)) (mus p' r) ∧ p'.Ok ∧ Names fs ∧ fs.length = n := by
  obtain ⟨fs, p', y3, y4, y5, e, ok, hf, hl⟩ := names_loop r (some (.val (.int (n : Int)))) (rangeD 0 n) [] p none none none h ⟨(fun _ h => by cases h), List.nodup_nil, (by decide)⟩ (by rw [rangeD_len]; show 0 + n ≤ 9; omega)
  rw [rangeD_len, List.length_nil, Nat.zero_add] at hl
  refine ⟨fs, p', ?_, ok, hf, hl⟩
  have h1 : rgOk (n : Int) = true := rgOk_nat (by omega)
  have hlen : (mus p r).length = r.length + 1 := by unfold mus; rfl
  have happ : mus p r ++ [some (.lst [])] = mus p (r ++ [some (.lst [])]) := rfl
  have hget : (mus p' (r ++ [some (.lst (fs.map D.str))]))[r.length + 1]? = some (some (.lst (fs.map D.str))) := by unfold mus; simp
  have hset : (mus p' (r ++ [some (.lst (fs.map D.str))])).set (r.length + 1) none = mus p' (r ++ [none]) := by unfold mus; simp
  have key : dFun 8 g__law_names [.obj 0, .int (n : Int)] (mus p r) = .ok (.lst (fs.map D.str)) (mus p' (r ++ [none])) := by
    simp [g__law_names, dFun, sSeq, snext, sIf, sbind, sAsg, sRet, sSkip, sExpr, sPar, sSetI, sSetA, sAug, sFor, sTg, dVar, dC, dNil, dCons, dBind, obind, dTup, dLst, dFrz, MO.d, dReg, dFz, dOp1, dOp2, dCmp, dB2v, dTst, dAnd, dOr, dNot, dIf, dCall, dIx, dLook, lookD, dIsi, dIsi2, dIsC, dIn, dChn, dMut, lstOf, putO, dM1, tyOk, dNw1, dNw2, dSl, dP, dNoP, dIsN, dItQ, dItS, dRg1, dRg2, dEnum, dLc, dYes, noex, Tg.run, gSets, List.length_map, List.length_cons, List.length_nil, List.map_cons, List.map_nil, hlen, happ, h1]
    simp at e
    simp [e, hget, hset]
  unfold f__law_names fGc
  rw [key, hlen]
  exact gc_mus clD hr (cl_strs _ _)
end DL
end

section
set_option Elab.async false
set_option linter.all false
set_option maxRecDepth 100000
set_option maxHeartbeats 4000000
namespace DL
open PySem
/-! the plain law of k02: pairs, specs -/
def pD (p : Nat × Nat) : D := .tup [.int (p.1 : Int), .int (p.2 : Int)]
theorem rangeD0 (n : Nat) : rangeD 0 n = (List.range n).map fun (i : Nat) => D.int (i : Int) := by
  unfold rangeD
  simp
def rowOf (j : Nat) : List (Nat × Nat) := (List.range j).map fun i => (i, j)
theorem q_pairs {j : Nat} (hj : j ≤ 1000) {a0 a1 a3 : Option SV} (mu : Store) : q__law_pairs_1 [a0, a1, some (.val (.int (j : Int))), a3] mu = .ok (.lst ((rowOf j).map pD)) mu := by
  have h1 : rgOk (j : Int) = true := rgOk_nat (by omega)
  have := lc_all (src := dRg1 (dVar 2)) (g := .nm 3) (own := [3]) (elt := dTup (dCons (dVar 3) (dCons (dVar 2) dNil))) (sl := [a0, a1, some (.val (.int (j : Int))), a3]) (mu := mu) (ds := rangeD 0 j)
    (fun d => .tup [d, .int (j : Int)]) (by simp [dRg1, dBind, obind, dVar, h1]) (by rw [rangeD_len]; omega) (fun d hd => ⟨_, rfl, by simp [wipeS, dFun, sSeq, snext, sIf, sbind, sAsg, sRet, sSkip, sExpr, sPar, sSetI, sSetA, sAug, sFor, sTg, dVar, dC, dNil, dCons, dBind, obind, dTup, dLst, dFrz, MO.d, dReg, dFz, dOp1, dOp2, dCmp, dB2v, dTst, dAnd, dOr, dNot, dIf, dCall, dIx, dLook, lookD, dIsi, dIsi2, dIsC, dIn, dChn, dMut, lstOf, putO, dM1, tyOk, dNw1, dNw2, dSl, dP, dNoP, dIsN, dItQ, dItS, dRg1, dRg2, dEnum, dLc, dYes, noex, Tg.run, gSets, List.length_map, List.length_cons, List.length_nil, List.map_cons, List.map_nil]⟩)
  rw [show q__law_pairs_1 = dLc (dRg1 (dVar 2)) (.nm 3) [3] dYes (dTup (dCons (dVar 3) (dCons (dVar 2) dNil))) from rfl, this, rangeD0, rowOf, List.map_map, List.map_map]
  rfl
theorem pairs_loop (a0 : Option SV) (mu : Store) : ∀ (js : List Nat) (acc : List D) (x2 : Option SV), (∀ j ∈ js, j ≤ 9) → acc.length + 9 * js.length ≤ 1000 → ∃ y2,
    sForL (.nm 2) b__law_pairs_1 (js.map fun (j : Nat) => D.int (j : Int)) [a0, some (.val (.lst acc)), x2, none] mu = .nx [a0, some (.val (.lst (acc ++ (js.flatMap rowOf).map pD))), y2, none] mu
  | [], acc, x2, _, _ => ⟨x2, by simp [sForL]⟩
  | j :: js, acc, x2, h, hl => by
    rw [List.length_cons] at hl
    have hj := h j List.mem_cons_self
    have hrow : ((rowOf j).map pD).length = j := by unfold rowOf; simp
    obtain ⟨y2, e⟩ := pairs_loop a0 mu js (acc ++ (rowOf j).map pD) (some (.val (.int (j : Int)))) (fun x hx => h x (List.mem_cons_of_mem _ hx)) (by rw [List.length_append, hrow]; omega)
    refine ⟨y2, ?_⟩
    rw [List.flatMap_cons, List.map_append, ← List.append_assoc, ← e]
    have hq := q_pairs (j := j) (by omega) (a0 := a0) (a1 := some (.val (.lst acc))) (a3 := none) mu
    have h16 : acc.length + ((rowOf j).map pD).length ≤ 16000000 := by omega
    conv => lhs; rw [List.map_cons]; unfold sForL
    have hb : b__law_pairs_1 [a0, some (.val (.lst acc)), some (.val (.int (j : Int))), none] mu = .nx [a0, some (.val (.lst (acc ++ (rowOf j).map pD))), some (.val (.int (j : Int))), none] mu := by
      rw [List.length_map] at h16
      simp [b__law_pairs_1, dFun, sSeq, snext, sIf, sbind, sAsg, sRet, sSkip, sExpr, sPar, sSetI, sSetA, sAug, sFor, sTg, dVar, dC, dNil, dCons, dBind, obind, dTup, dLst, dFrz, MO.d, dReg, dFz, dOp1, dOp2, dCmp, dB2v, dTst, dAnd, dOr, dNot, dIf, dCall, dIx, dLook, lookD, dIsi, dIsi2, dIsC, dIn, dChn, dMut, lstOf, putO, dM1, tyOk, dNw1, dNw2, dSl, dP, dNoP, dIsN, dItQ, dItS, dRg1, dRg2, dEnum, dLc, dYes, noex, Tg.run, gSets, List.length_map, List.length_cons, List.length_nil, List.map_cons, List.map_nil, hq, addD, h16]
    simp only [Tg.run, List.set_cons_succ, List.set_cons_zero, hb]
def pairs (n : Nat) : List (Nat × Nat) := (List.range n).flatMap rowOf
theorem pairs_ok {n : Nat} (hn : n ≤ 9) (mu : Store) : f__law_pairs [.int (n : Int)] mu = .ok (.lst ((pairs n).map pD)) mu := by
  obtain ⟨y2, e⟩ := pairs_loop (some (.val (.int (n : Int)))) mu (List.range n) [] none (fun j hj => by have := List.mem_range.mp hj; omega) (by rw [List.length_range]; show 0 + 9 * n ≤ 1000; omega)
  rw [← rangeD0] at e
  have h1 : rgOk (n : Int) = true := rgOk_nat (by omega)
  simp only [List.nil_append] at e
  simp [f__law_pairs, g__law_pairs, dFun, sSeq, snext, sIf, sbind, sAsg, sRet, sSkip, sExpr, sPar, sSetI, sSetA, sAug, sFor, sTg, dVar, dC, dNil, dCons, dBind, obind, dTup, dLst, dFrz, MO.d, dReg, dFz, dOp1, dOp2, dCmp, dB2v, dTst, dAnd, dOr, dNot, dIf, dCall, dIx, dLook, lookD, dIsi, dIsi2, dIsC, dIn, dChn, dMut, lstOf, putO, dM1, tyOk, dNw1, dNw2, dSl, dP, dNoP, dIsN, dItQ, dItS, dRg1, dRg2, dEnum, dLc, dYes, noex, Tg.run, gSets, List.length_map, List.length_cons, List.length_nil, List.map_cons, List.map_nil, h1, e, pairs]
theorem mem_pairs {n i j : Nat} : (i, j) ∈ pairs n ↔ i < j ∧ j < n := by
  unfold pairs rowOf
  simp only [List.mem_flatMap, List.mem_range, List.mem_map, Prod.mk.injEq]
  constructor
  · rintro ⟨k, hk, a, ha, rfl, rfl⟩
    exact ⟨ha, hk⟩
  · rintro ⟨h1, h2⟩
    exact ⟨j, h2, i, h1, rfl, rfl⟩
theorem pairs_nodup (n : Nat) : (pairs n).Nodup := by
  unfold pairs
  rw [List.Nodup, List.pairwise_flatMap]
  refine ⟨fun j hj => ?_, ?_⟩
  · unfold rowOf
    rw [List.pairwise_map]
    exact List.nodup_range.imp fun {a b} h e => h (congrArg Prod.fst e)
  · exact List.nodup_range.imp fun {a b} h x hx y hy e => by
      unfold rowOf at hx hy
      obtain ⟨i, _, rfl⟩ := List.mem_map.mp hx
      obtain ⟨k, _, rfl⟩ := List.mem_map.mp hy
      exact h (congrArg Prod.snd e)
theorem pairs_len {n : Nat} (h : n ≤ 9) : (pairs n).length ≤ 36 := by
  have : ∀ n : Fin 10, (pairs n.1).length ≤ 36 := by decide +kernel
  exact this ⟨n, by omega⟩
theorem spec_loop (r : Store) {th : Nat} (h1 : th ≤ 100) : ∀ (ps acc : List (Nat × Nat)) (p : Pot) (a1 a2 : Option SV), p.Ok → ∃ rs p',
    dLcL (.nm 4) [some (.val (.obj 0)), a1, a2, some (.val (.int (th : Int))), none] (dCmp eqD (dCall f__law_draw (dCons (dVar 0) (dCons (dVar 3) dNil))) (dC (.int 0))) (dVar 4) (ps.map pD) (acc.map pD) (mus p r) = .ok (.lst ((acc ++ rs).map pD)) (mus p' r) ∧ p'.Ok ∧ rs.Sublist ps
  | [], acc, p, a1, a2, h => ⟨[], p, by simp [dLcL], h, List.Sublist.slnil⟩
  | q :: ps, acc, p, a1, a2, h => by
    obtain ⟨v, p1, e, ok, v0, v1⟩ := draw_ok h (many := (th : Int)) (by omega) (by omega) r
    by_cases hv : v = 0
    · obtain ⟨rs, p2, e2, ok2, hs⟩ := spec_loop r h1 ps (acc ++ [q]) p1 a1 a2 ok
      refine ⟨q :: rs, p2, ?_, ok2, hs.cons₂ _⟩
      rw [show acc ++ q :: rs = acc ++ [q] ++ rs by simp, ← e2]
      conv => lhs; rw [List.map_cons]; unfold dLcL
      simp [dFun, sSeq, snext, sIf, sbind, sAsg, sRet, sSkip, sExpr, sPar, sSetI, sSetA, sAug, sFor, sTg, dVar, dC, dNil, dCons, dBind, obind, dTup, dLst, dFrz, MO.d, dReg, dFz, dOp1, dOp2, dCmp, dB2v, dTst, dAnd, dOr, dNot, dIf, dCall, dIx, dLook, lookD, dIsi, dIsi2, dIsC, dIn, dChn, dMut, lstOf, putO, dM1, tyOk, dNw1, dNw2, dSl, dP, dNoP, dIsN, dItQ, dItS, dRg1, dRg2, dEnum, dLc, dYes, noex, Tg.run, gSets, List.length_map, List.length_cons, List.length_nil, List.map_cons, List.map_nil, e, hv, eqD, toP, PyData.depth, PyData.eqv]
    · obtain ⟨rs, p2, e2, ok2, hs⟩ := spec_loop r h1 ps acc p1 a1 a2 ok
      refine ⟨rs, p2, ?_, ok2, hs.cons _⟩
      rw [← e2]
      conv => lhs; rw [List.map_cons]; unfold dLcL
      simp [dFun, sSeq, snext, sIf, sbind, sAsg, sRet, sSkip, sExpr, sPar, sSetI, sSetA, sAug, sFor, sTg, dVar, dC, dNil, dCons, dBind, obind, dTup, dLst, dFrz, MO.d, dReg, dFz, dOp1, dOp2, dCmp, dB2v, dTst, dAnd, dOr, dNot, dIf, dCall, dIx, dLook, lookD, dIsi, dIsi2, dIsC, dIn, dChn, dMut, lstOf, putO, dM1, tyOk, dNw1, dNw2, dSl, dP, dNoP, dIsN, dItQ, dItS, dRg1, dRg2, dEnum, dLc, dYes, noex, Tg.run, gSets, List.length_map, List.length_cons, List.length_nil, List.map_cons, List.map_nil, e, hv, eqD, toP, PyData.depth, PyData.eqv]
structure Spec (fs : List Str) (rs : List (Nat × Nat)) : Prop where
  names : Names fs
  ne : 1 ≤ fs.length
  sub : rs.Sublist (pairs fs.length)
def specD (fs : List Str) (rs : List (Nat × Nat)) : D := .lst [.lst (fs.map D.str), .lst (rs.map pD)]
theorem spec_ok {p : Pot} (h : p.Ok) {r : Store} (hr : Shut r) {most : Nat} (hm1 : 1 ≤ most) (hm9 : most ≤ 9) : ∃ fs rs p', f__law_spec [.obj 0, .int (most : Int)] (mus p r) = .ok (specD fs rs) (mus p' r) ∧ p'.Ok ∧ Spec fs rs ∧ fs.length ≤ most := by
  obtain ⟨v, p1, e1, ok1, v0, v1⟩ := draw_ok h (many := (most : Int)) (by omega) (by omega) r
  obtain ⟨n, hn⟩ : ∃ n : Nat, 1 + v = (n : Int) := ⟨(1 + v).toNat, by omega⟩
  obtain ⟨fs, p2, e2, ok2, hf, hl⟩ := names_ok ok1 (n := n) (by omega) hr
  obtain ⟨t, p3, e3, ok3, t0, t1⟩ := draw_ok ok2 (many := 4) (by decide) (by decide) r
  obtain ⟨th, hth⟩ : ∃ th : Nat, 1 + t = (th : Int) := ⟨(1 + t).toNat, by omega⟩
  obtain ⟨rs, p4, e4, ok4, hs⟩ := spec_loop r (th := th) (by omega) (pairs n) [] p3 (some (.val (.int (most : Int)))) (some (.val (.lst (fs.map D.str)))) ok3
  have hp := pairs_ok (n := n) (by omega) (mus p3 r)
  have hq : q__law_spec_1 [some (.val (.obj 0)), some (.val (.int (most : Int))), some (.val (.lst (fs.map D.str))), some (.val (.int (th : Int))), none] (mus p3 r) = .ok (.lst (rs.map pD)) (mus p4 r) := by
    rw [List.nil_append] at e4
    rw [← e4]
    have hz : sizeOk ((pairs n).map pD) = true := decide_eq_true (by rw [List.length_map]; have := pairs_len (n := n) (by omega); omega)
    have hlen : lenD (.lst (fs.map D.str)) = some (.int (n : Int)) := by simp [lenD, hl]
    unfold q__law_spec_1 dLc
    unfold dItQ
    simp [dBind, obind, dCall, dCons, dOp1, dLook, dVar, dNil, lookD, hlen, hp, hz, wipeS]
  refine ⟨fs, rs, p4, ?_, ok4, ⟨hf, by omega, by rw [hl]; exact hs⟩, by omega⟩
  simp [f__law_spec, g__law_spec, dFun, sSeq, snext, sIf, sbind, sAsg, sRet, sSkip, sExpr, sPar, sSetI, sSetA, sAug, sFor, sTg, dVar, dC, dNil, dCons, dBind, obind, dTup, dLst, dFrz, MO.d, dReg, dFz, dOp1, dOp2, dCmp, dB2v, dTst, dAnd, dOr, dNot, dIf, dCall, dIx, dLook, lookD, dIsi, dIsi2, dIsC, dIn, dChn, dMut, lstOf, putO, dM1, tyOk, dNw1, dNw2, dSl, dP, dNoP, dIsN, dItQ, dItS, dRg1, dRg2, dEnum, dLc, dYes, noex, Tg.run, gSets, List.length_map, List.length_cons, List.length_nil, List.map_cons, List.map_nil, e1, addD, hn, e2, e3, hth, hq, specD]
end DL
end

section
set_option Elab.async false
set_option linter.all false
set_option maxRecDepth 100000
set_option maxHeartbeats 4000000
namespace DL
open PySem
/-! the plain law of k02: the judges of webs -/
theorem takeWhile_all {α : Type} {p : α → Bool} : ∀ {l : List α}, (∀ a ∈ l, p a = true) → l.takeWhile p = l
  | [], _ => rfl
  | a :: l, h => by rw [List.takeWhile_cons, h a List.mem_cons_self, if_pos rfl, takeWhile_all fun b hb => h b (List.mem_cons_of_mem _ hb)]
theorem strip_word {x : Str} (h : Word x) : Txt.stripChars x signs = "" := by
  have hg : ∀ c ∈ TL.tl x, signs.cps.contains c = true := fun c hc => by
    have := h.let_ c hc
    simpa using this
  have lo : stripLo signs.cps.contains true x = x.length := by
    unfold stripLo
    rw [if_pos rfl, takeWhile_all hg, TL.len_tl]
  unfold Txt.stripChars Txt.stripBy
  have hs : stripSame signs.cps.contains true true x = false := by
    unfold stripSame
    rw [lo]
    have : (x.length == 0) = false := by have := h.pos; simp; omega
    rw [this]; rfl
  rw [hs, if_neg (by decide)]
  apply TL.ext_tl
  unfold stripped
  rw [lo, TL.tl_strSub, TL.len_tl, List.drop_length]
  simp
  rfl
theorem is_name_ok {x : Str} (h : Name x) (mu : Store) : f_is_name [.str x] mu = .ok (.bl true) mu := by
  have h1 : (1 : Int) ≤ (x.length : Int) := by have := h.pos; omega
  have h2 : (x.length : Int) ≤ 8 := by have := h.le; omega
  have h3 : x.length ≤ 16000000 := by have := h.le; omega
  have hs : stripD (.str x) (.str "abcdefghijklmnopqrstuvwxyz") = some (.str "") := by
    unfold stripD
    dsimp only
    rw [if_pos h3]
    exact congrArg (fun z => some (D.str z)) (strip_word h.toWord)
  have hf := h.free
  have hi : inD (.str x) (.tup [.str "spot", .str "road", .str "over"]) = some false := by rw [in_resv, decide_eq_false hf]
  have hn : neD (.str "") (.str "") = some false := by decide +kernel
  simp [f_is_name, g_is_name, dFun, sSeq, snext, sIf, sbind, sAsg, sRet, sSkip, sExpr, sPar, sSetI, sSetA, sAug, sFor, sTg, dVar, dC, dNil, dCons, dBind, obind, dTup, dLst, dFrz, MO.d, dReg, dFz, dOp1, dOp2, dCmp, dB2v, dTst, dAnd, dOr, dNot, dIf, dCall, dIx, dLook, lookD, dIsi, dIsi2, dIsC, dIn, dChn, dMut, lstOf, putO, dM1, tyOk, dNw1, dNw2, dSl, dP, dNoP, dIsN, dItQ, dItS, dRg1, dRg2, dEnum, dLc, dYes, noex, Tg.run, gSets, List.length_map, List.length_cons, List.length_nil, List.map_cons, List.map_nil, isiOk, isTy, lenD, leI, cmpI, h3, h1, h2, hs, hi, hn]
theorem bools_true : ∀ (l : List D), boolsD (l.map fun _ => D.bl true) = some (l.map fun _ => true)
  | [] => rfl
  | d :: l => by
    rw [List.map_cons]
    unfold boolsD
    rw [bools_true l]
    rfl
theorem all_true (l : List D) : allD (.lst (l.map fun _ => D.bl true)) = some (.bl true) := by
  unfold allD
  dsimp only
  rw [bools_true]
  simp
theorem kvs_nodup {α : Type} [DecidableEq α] {ks : List α} (h : ks.Nodup) : (kvsOf ks ks.length).length = ks.length := by
  unfold kvsOf
  rw [List.take_length]
  have key : ∀ (l : List α) (acc : List (α × L2.V)), l.Nodup → (∀ k ∈ l, ∀ kv ∈ acc, kv.1 ≠ k) → (l.foldl (fun acc k => L2.putK acc k (.bl true)) acc).length = acc.length + l.length := by
    intro l
    induction l with
    | nil => intro acc _ _; rfl
    | cons k l ih =>
      intro acc hn hd
      rw [List.nodup_cons] at hn
      have e : L2.putK acc k (.bl true) = acc ++ [(k, .bl true)] := by
        unfold L2.putK
        rw [if_neg]
        rw [Bool.not_eq_true, List.any_eq_false]
        intro kv hkv
        simpa using hd k List.mem_cons_self kv hkv
      rw [List.foldl_cons, e, ih (acc ++ [(k, L2.V.bl true)]) hn.2 fun k' hk' kv hkv => by
        rcases List.mem_append.mp hkv with hkv | hkv
        · exact hd k' (List.mem_cons_of_mem _ hk') kv hkv
        · rw [List.mem_singleton] at hkv
          subst hkv
          exact fun e => hn.1 (by rw [show k = k' from e]; exact hk')]
      simp only [List.length_append, List.length_cons, List.length_nil]
      omega
  have := key ks [] h (fun _ _ _ h => by cases h)
  rw [this]
  simp
theorem keys_strs : ∀ l : List Str, allSome keyD (l.map D.str) = some (l.map Sum.inr)
  | [] => rfl
  | x :: l => by
    rw [List.map_cons]
    unfold allSome
    rw [keys_strs l]
    rfl
theorem unlike_strs {l : List Str} (h : l.Nodup) : unlikeD (.lst (l.map D.str)) = some (.int (l.length : Nat)) := by
  have hn : (l.map (Sum.inr : Str → L2.Key)).Nodup := by
    rw [List.Nodup, List.pairwise_map]
    exact h.imp fun {a b} hab e => hab (Sum.inr.inj e)
  unfold unlikeD unlike
  dsimp only
  rw [keys_strs]
  dsimp only
  rw [kvs_nodup hn, List.length_map]
  rfl
def pK (p : Nat × Nat) : List L2.Key := [.inl (p.1 : Int), .inl (p.2 : Int)]
theorem keys_prs : ∀ l : List (Nat × Nat), allSome tkeyD (l.map pD) = some (l.map pK)
  | [] => rfl
  | x :: l => by
    rw [List.map_cons]
    unfold allSome
    rw [keys_prs l]
    rfl
theorem unlike_prs {l : List (Nat × Nat)} (h : l.Nodup) : unlikeD (.lst (l.map pD)) = some (.int (l.length : Nat)) := by
  have hn : (l.map pK).Nodup := by
    rw [List.Nodup, List.pairwise_map]
    refine h.imp fun {a b} hab e => hab ?_
    unfold pK at e
    simp only [List.cons.injEq, Sum.inl.injEq, and_true] at e
    exact Prod.ext (by exact_mod_cast e.1) (by exact_mod_cast e.2)
  unfold unlikeD unlike
  cases l with
  | nil => rfl
  | cons p l =>
    dsimp only
    have e : allSome keyD ((p :: l).map pD) = none := rfl
    rw [e, keys_prs]
    dsimp only
    rw [kvs_nodup hn, List.length_map]
    rfl
theorem no_twice_strs {l : List Str} (h : l.Nodup) (mu : Store) : f_have_no_twice [.lst (l.map D.str)] mu = .ok (.bl true) mu := by
  simp [f_have_no_twice, g_have_no_twice, dFun, sSeq, snext, sIf, sbind, sAsg, sRet, sSkip, sExpr, sPar, sSetI, sSetA, sAug, sFor, sTg, dVar, dC, dNil, dCons, dBind, obind, dTup, dLst, dFrz, MO.d, dReg, dFz, dOp1, dOp2, dCmp, dB2v, dTst, dAnd, dOr, dNot, dIf, dCall, dIx, dLook, lookD, dIsi, dIsi2, dIsC, dIn, dChn, dMut, lstOf, putO, dM1, tyOk, dNw1, dNw2, dSl, dP, dNoP, dIsN, dItQ, dItS, dRg1, dRg2, dEnum, dLc, dYes, noex, Tg.run, gSets, List.length_map, List.length_cons, List.length_nil, List.map_cons, List.map_nil, unlike_strs h, lenD, eqD, toP, PyData.depth, PyData.eqv]
theorem no_twice_prs {l : List (Nat × Nat)} (h : l.Nodup) (mu : Store) : f_have_no_twice [.lst (l.map pD)] mu = .ok (.bl true) mu := by
  simp [f_have_no_twice, g_have_no_twice, dFun, sSeq, snext, sIf, sbind, sAsg, sRet, sSkip, sExpr, sPar, sSetI, sSetA, sAug, sFor, sTg, dVar, dC, dNil, dCons, dBind, obind, dTup, dLst, dFrz, MO.d, dReg, dFz, dOp1, dOp2, dCmp, dB2v, dTst, dAnd, dOr, dNot, dIf, dCall, dIx, dLook, lookD, dIsi, dIsi2, dIsC, dIn, dChn, dMut, lstOf, putO, dM1, tyOk, dNw1, dNw2, dSl, dP, dNoP, dIsN, dItQ, dItS, dRg1, dRg2, dEnum, dLc, dYes, noex, Tg.run, gSets, List.length_map, List.length_cons, List.length_nil, List.map_cons, List.map_nil, unlike_prs h, lenD, eqD, toP, PyData.depth, PyData.eqv]
theorem q_are_spots {fs : List Str} (h : Names fs) (mu : Store) : q_are_spots_1 [some (.val (.lst (fs.map D.str))), none] mu = .ok (.lst (fs.map fun _ => D.bl true)) mu := by
  have := lc_all (src := dItQ (dVar 0)) (g := .nm 1) (own := [1]) (elt := dCall f_is_name (dCons (dVar 1) dNil)) (sl := [some (.val (.lst (fs.map D.str))), none]) (mu := mu) (ds := fs.map D.str)
    (fun _ => .bl true) rfl (by rw [List.length_map]; have := h.le; omega) (fun d hd => by
      obtain ⟨x, hx, rfl⟩ := List.mem_map.mp hd
      exact ⟨_, rfl, by simp [wipeS, dFun, sSeq, snext, sIf, sbind, sAsg, sRet, sSkip, sExpr, sPar, sSetI, sSetA, sAug, sFor, sTg, dVar, dC, dNil, dCons, dBind, obind, dTup, dLst, dFrz, MO.d, dReg, dFz, dOp1, dOp2, dCmp, dB2v, dTst, dAnd, dOr, dNot, dIf, dCall, dIx, dLook, lookD, dIsi, dIsi2, dIsC, dIn, dChn, dMut, lstOf, putO, dM1, tyOk, dNw1, dNw2, dSl, dP, dNoP, dIsN, dItQ, dItS, dRg1, dRg2, dEnum, dLc, dYes, noex, Tg.run, gSets, List.length_map, List.length_cons, List.length_nil, List.map_cons, List.map_nil, is_name_ok (h.all x hx)]⟩)
  rw [show q_are_spots_1 = dLc (dItQ (dVar 0)) (.nm 1) [1] dYes (dCall f_is_name (dCons (dVar 1) dNil)) from rfl, this, List.map_map]
  rfl
theorem are_spots_ok {fs : List Str} (h : Names fs) (h1 : 1 ≤ fs.length) (mu : Store) : f_are_spots [.lst (fs.map D.str)] mu = .ok (.bl true) mu := by
  have e1 : f_is_listed [.lst (fs.map D.str)] mu = .ok (.bl true) mu := by simp [f_is_listed, g_is_listed, dFun, sSeq, snext, sIf, sbind, sAsg, sRet, sSkip, sExpr, sPar, sSetI, sSetA, sAug, sFor, sTg, dVar, dC, dNil, dCons, dBind, obind, dTup, dLst, dFrz, MO.d, dReg, dFz, dOp1, dOp2, dCmp, dB2v, dTst, dAnd, dOr, dNot, dIf, dCall, dIx, dLook, lookD, dIsi, dIsi2, dIsC, dIn, dChn, dMut, lstOf, putO, dM1, tyOk, dNw1, dNw2, dSl, dP, dNoP, dIsN, dItQ, dItS, dRg1, dRg2, dEnum, dLc, dYes, noex, Tg.run, gSets, List.length_map, List.length_cons, List.length_nil, List.map_cons, List.map_nil, isiOk, isTy]
  have ha : allD (.lst (fs.map fun _ => D.bl true)) = some (.bl true) := by
    have := all_true (fs.map D.str)
    rw [List.map_map] at this
    exact this
  have h2 : (1 : Int) ≤ (fs.length : Int) := by omega
  have h3 : (fs.length : Int) ≤ 9 := by have := h.le; omega
  have hq := q_are_spots h mu
  have hn := no_twice_strs h.nd mu
  simp [f_are_spots, g_are_spots, dFun, sSeq, snext, sIf, sbind, sAsg, sRet, sSkip, sExpr, sPar, sSetI, sSetA, sAug, sFor, sTg, dVar, dC, dNil, dCons, dBind, obind, dTup, dLst, dFrz, MO.d, dReg, dFz, dOp1, dOp2, dCmp, dB2v, dTst, dAnd, dOr, dNot, dIf, dCall, dIx, dLook, lookD, dIsi, dIsi2, dIsC, dIn, dChn, dMut, lstOf, putO, dM1, tyOk, dNw1, dNw2, dSl, dP, dNoP, dIsN, dItQ, dItS, dRg1, dRg2, dEnum, dLc, dYes, noex, Tg.run, gSets, List.length_map, List.length_cons, List.length_nil, List.map_cons, List.map_nil, e1, lenD, leI, cmpI, h2, h3, hq, ha, hn]
theorem pair_ok {n i j : Nat} (h1 : i < j) (h2 : j < n) (h9 : n ≤ 9) (mu : Store) : f_is_pair_below [pD (i, j), .int (n : Int)] mu = .ok (.bl true) mu := by
  have w : ∀ a b c : Int, b ≤ a → a ≤ c → f_is_within [.int a, .int b, .int c] mu = .ok (.bl true) mu := fun a b c h1 h2 => by
    have e : f_is_number [.int a] mu = .ok (.bl true) mu := by simp [f_is_number, g_is_number, dFun, sSeq, snext, sIf, sbind, sAsg, sRet, sSkip, sExpr, sPar, sSetI, sSetA, sAug, sFor, sTg, dVar, dC, dNil, dCons, dBind, obind, dTup, dLst, dFrz, MO.d, dReg, dFz, dOp1, dOp2, dCmp, dB2v, dTst, dAnd, dOr, dNot, dIf, dCall, dIx, dLook, lookD, dIsi, dIsi2, dIsC, dIn, dChn, dMut, lstOf, putO, dM1, tyOk, dNw1, dNw2, dSl, dP, dNoP, dIsN, dItQ, dItS, dRg1, dRg2, dEnum, dLc, dYes, noex, Tg.run, gSets, List.length_map, List.length_cons, List.length_nil, List.map_cons, List.map_nil, isiOk, isTy]
    simp [f_is_within, g_is_within, dFun, sSeq, snext, sIf, sbind, sAsg, sRet, sSkip, sExpr, sPar, sSetI, sSetA, sAug, sFor, sTg, dVar, dC, dNil, dCons, dBind, obind, dTup, dLst, dFrz, MO.d, dReg, dFz, dOp1, dOp2, dCmp, dB2v, dTst, dAnd, dOr, dNot, dIf, dCall, dIx, dLook, lookD, dIsi, dIsi2, dIsC, dIn, dChn, dMut, lstOf, putO, dM1, tyOk, dNw1, dNw2, dSl, dP, dNoP, dIsN, dItQ, dItS, dRg1, dRg2, dEnum, dLc, dYes, noex, Tg.run, gSets, List.length_map, List.length_cons, List.length_nil, List.map_cons, List.map_nil, e, leI, cmpI, h1, h2]
  have w1 := w j 1 (n - 1) (by omega) (by omega)
  have w2 := w i 0 (j - 1) (by omega) (by omega)
  simp [f_is_pair_below, g_is_pair_below, dFun, sSeq, snext, sIf, sbind, sAsg, sRet, sSkip, sExpr, sPar, sSetI, sSetA, sAug, sFor, sTg, dVar, dC, dNil, dCons, dBind, obind, dTup, dLst, dFrz, MO.d, dReg, dFz, dOp1, dOp2, dCmp, dB2v, dTst, dAnd, dOr, dNot, dIf, dCall, dIx, dLook, lookD, dIsi, dIsi2, dIsC, dIn, dChn, dMut, lstOf, putO, dM1, tyOk, dNw1, dNw2, dSl, dP, dNoP, dIsN, dItQ, dItS, dRg1, dRg2, dEnum, dLc, dYes, noex, Tg.run, gSets, List.length_map, List.length_cons, List.length_nil, List.map_cons, List.map_nil, isiOk, isTy, lenD, neD, eqD, toP, PyData.depth, PyData.eqv, pD, ixD, L2.atI, L2.ixN, subD, w1, w2]
end DL
end

section
set_option Elab.async false
set_option linter.all false
set_option maxRecDepth 100000
set_option maxHeartbeats 4000000
namespace DL
open PySem
/-! the plain law of k02: steps away -/
def intsN (l : List Nat) : List D := l.map fun (i : Nat) => D.int (i : Int)
def st2 (mu : Store) (fv : List D) (lv : List Nat) : Store := mu ++ [some (.lst fv), some (.lst (intsN lv))]
theorem st2_0 (mu : Store) (fv : List D) (lv : List Nat) : (st2 mu fv lv)[mu.length]? = some (some (.lst fv)) := by unfold st2; simp
theorem st2_1 (mu : Store) (fv : List D) (lv : List Nat) : (st2 mu fv lv)[mu.length + 1]? = some (some (.lst (intsN lv))) := by
  unfold st2
  rw [List.getElem?_append_right (by omega)]
  simp
theorem st2_s0 (mu : Store) (fv fv' : List D) (lv : List Nat) : (st2 mu fv lv).set mu.length (some (.lst fv')) = st2 mu fv' lv := by unfold st2; simp
theorem st2_s1 (mu : Store) (fv : List D) (lv lv' : List Nat) : (st2 mu fv lv).set (mu.length + 1) (some (.lst (intsN lv'))) = st2 mu fv lv' := by
  unfold st2
  rw [List.set_append_right _ _ (by omega)]
  simp
theorem ix_nat {l : List D} {i : Nat} {d : D} (h : l[i]? = some d) : ixD (.lst l) (.int (i : Int)) = some d := by
  have hi : i < l.length := (List.getElem?_eq_some_iff.mp h).1
  unfold ixD L2.atI L2.ixN
  have h1 : (0 : Int) ≤ (i : Int) := by omega
  have h2 : (i : Int) < (l.length : Int) := by omega
  simp only [if_pos h1, if_pos h2, Int.toNat_natCast, Option.bind_some]
  exact h
theorem set_nat {l : List D} {i : Nat} {v : D} (h : i < l.length) : setD l (.int (i : Int)) v = some (l.set i v) := by
  unfold setD L2.ixN
  have h1 : (0 : Int) ≤ (i : Int) := by omega
  have h2 : (i : Int) < (l.length : Int) := by omega
  simp only [if_pos h1, if_pos h2, Int.toNat_natCast]
theorem intsN_get {l : List Nat} {i c : Nat} (h : l[i]? = some c) : (intsN l)[i]? = some (.int (c : Int)) := by unfold intsN; rw [List.getElem?_map, h]; rfl
theorem in_two (c a b : Int) : inD (.int c) (.tup [.int a, .int b]) = some (decide (a = c) || decide (b = c)) := by
  unfold inD
  simp [toP, toPL, PyData.depth, PyData.depthAll, PyData.eqv]
  rfl
def optD : Option Nat → D
  | none => .non
  | some n => .int (n : Int)
def fvD (l : List (Option Nat)) : List D := l.map optD
theorem fvD_get {l : List (Option Nat)} {i : Nat} {o : Option Nat} (h : l[i]? = some o) : (fvD l)[i]? = some (optD o) := by unfold fvD; rw [List.getElem?_map, h]; rfl
theorem fvD_set {l : List (Option Nat)} {i : Nat} {o : Option Nat} : (fvD l).set i (optD o) = fvD (l.set i o) := by unfold fvD; rw [List.map_set]
theorem fnd_get {s : Srch} {x : Nat} (hx : x < s.fv.length) : s.fv[x]? = some (fnd s x) := by
  unfold fnd
  rw [List.getElem?_eq_getElem hx]
  rfl
/-- one road -/
theorem bf_turn {n : Nat} (hn : n ≤ 9) (mu : Store) {rs done : Rds} {st at_ c : Nat} {s : Srch} (h : BfI n rs st at_ done s) (hat : s.lv[at_]? = some c) {a b : Nat} (ha : a < n) (hb : b < n) {a0 a1 a2 x8 : Option SV} : ∃ y8,
    b_steps_away_1 [a0, a1, a2, some (.val (.obj mu.length)), some (.val (.obj (mu.length + 1))), some (.val (.int (at_ : Int))), some (.val (.int (a : Int))), some (.val (.int (b : Int))), x8] (st2 mu (fvD s.fv) s.lv) =
      .nx [a0, a1, a2, some (.val (.obj mu.length)), some (.val (.obj (mu.length + 1))), some (.val (.int (at_ : Int))), some (.val (.int (a : Int))), some (.val (.int (b : Int))), y8] (st2 mu (fvD (bf1 c s (a, b)).fv) (bf1 c s (a, b)).lv) := by
  obtain ⟨dc, hdc⟩ := (h.mem c).mp (List.mem_of_getElem? hat)
  have hcn := h.lt c (List.mem_of_getElem? hat)
  have i1 := ix_nat (intsN_get hat)
  have g0 := st2_0 mu (fvD s.fv) s.lv
  have g1 := st2_1 mu (fvD s.fv) s.lv
  have s0 := fun fv' => st2_s0 mu (fvD s.fv) fv' s.lv
  unfold bf1
  by_cases hin : a = c ∨ b = c
  · rw [if_pos hin]
    obtain ⟨e, he, he', hec⟩ : ∃ e : Nat, (a : Int) + b - c = (e : Int) ∧ (a, b).1 + (a, b).2 - c = e ∧ e < n := by
      rcases hin with rfl | rfl
      · exact ⟨b, by omega, by simp, hb⟩
      · exact ⟨a, by omega, by simp, ha⟩
    have hd : (decide ((a : Int) = c) || decide ((b : Int) = c)) = true := by
      rcases hin with rfl | rfl <;> simp
    rw [he']
    have i2 := ix_nat (fvD_get (fnd_get (s := s) (x := e) (by rw [h.len]; exact hec)))
    cases hf : fnd s e with
    | none =>
      rw [hf] at i2
      have i3 := ix_nat (fvD_get (fnd_get (s := s) (x := c) (by rw [h.len]; exact hcn)))
      rw [hdc] at i3
      have hset := set_nat (l := fvD s.fv) (i := e) (v := .int ((dc : Int) + 1)) (by unfold fvD; rw [List.length_map, h.len]; exact hec)
      have hfv : (fvD s.fv).set e (.int ((dc : Int) + 1)) = fvD (s.fv.set e (some (dc + 1))) := by
        rw [← fvD_set]; rfl
      rw [hfv] at hset
      have hlv : s.lv.length < 16000000 := by have := h.le; omega
      have g2 := st2_1 mu (fvD (s.fv.set e (some (dc + 1)))) s.lv
      have s1 := st2_s1 mu (fvD (s.fv.set e (some (dc + 1)))) s.lv (s.lv ++ [e])
      have happ : intsN s.lv ++ [.int (e : Int)] = intsN (s.lv ++ [e]) := by unfold intsN; simp
      have hlen : (intsN s.lv).length = s.lv.length := by unfold intsN; simp
      refine ⟨some (.val (.int (e : Int))), ?_⟩
      simp [b_steps_away_1, dFun, sSeq, snext, sIf, sbind, sAsg, sRet, sSkip, sExpr, sPar, sSetI, sSetA, sAug, sFor, sTg, dVar, dC, dNil, dCons, dBind, obind, dTup, dLst, dFrz, MO.d, dReg, dFz, dOp1, dOp2, dCmp, dB2v, dTst, dAnd, dOr, dNot, dIf, dCall, dIx, dLook, lookD, dIsi, dIsi2, dIsC, dIn, dChn, dMut, lstOf, putO, dM1, tyOk, dNw1, dNw2, dSl, dP, dNoP, dIsN, dItQ, dItS, dRg1, dRg2, dEnum, dLc, dYes, noex, Tg.run, gSets, List.length_map, List.length_cons, List.length_nil, List.map_cons, List.map_nil, g1, g0, i1, in_two, hd, subD, addD, he, i2, isNon, i3, optD, hset, s0, g2, appD, hlen, hlv, happ, s1, hdc]
    | some k =>
      rw [hf] at i2
      exact ⟨some (.val (.int (e : Int))), by simp [b_steps_away_1, dFun, sSeq, snext, sIf, sbind, sAsg, sRet, sSkip, sExpr, sPar, sSetI, sSetA, sAug, sFor, sTg, dVar, dC, dNil, dCons, dBind, obind, dTup, dLst, dFrz, MO.d, dReg, dFz, dOp1, dOp2, dCmp, dB2v, dTst, dAnd, dOr, dNot, dIf, dCall, dIx, dLook, lookD, dIsi, dIsi2, dIsC, dIn, dChn, dMut, lstOf, putO, dM1, tyOk, dNw1, dNw2, dSl, dP, dNoP, dIsN, dItQ, dItS, dRg1, dRg2, dEnum, dLc, dYes, noex, Tg.run, gSets, List.length_map, List.length_cons, List.length_nil, List.map_cons, List.map_nil, g1, g0, i1, in_two, hd, subD, addD, he, i2, optD, isNon]⟩
  · rw [if_neg hin]
    have hd : (decide ((a : Int) = c) || decide ((b : Int) = c)) = false := by
      rw [not_or] at hin
      simp
      omega
    exact ⟨x8, by simp [b_steps_away_1, dFun, sSeq, snext, sIf, sbind, sAsg, sRet, sSkip, sExpr, sPar, sSetI, sSetA, sAug, sFor, sTg, dVar, dC, dNil, dCons, dBind, obind, dTup, dLst, dFrz, MO.d, dReg, dFz, dOp1, dOp2, dCmp, dB2v, dTst, dAnd, dOr, dNot, dIf, dCall, dIx, dLook, lookD, dIsi, dIsi2, dIsC, dIn, dChn, dMut, lstOf, putO, dM1, tyOk, dNw1, dNw2, dSl, dP, dNoP, dIsN, dItQ, dItS, dRg1, dRg2, dEnum, dLc, dYes, noex, Tg.run, gSets, List.length_map, List.length_cons, List.length_nil, List.map_cons, List.map_nil, g1, g0, i1, in_two, hd]⟩
theorem bf_for {n : Nat} (hn : n ≤ 9) (mu : Store) {rs : Rds} {st at_ c : Nat} {a0 a1 a2 : Option SV} (hr : ∀ q ∈ rs, q.1 < n ∧ q.2 < n) : ∀ (qs done : Rds) (s : Srch) (x6 x7 x8 : Option SV), (∀ q ∈ qs, q ∈ rs) → BfI n rs st at_ done s → s.lv[at_]? = some c → ∃ y6 y7 y8,
    sForL (.tp [6, 7]) b_steps_away_1 (qs.map pD) [a0, a1, a2, some (.val (.obj mu.length)), some (.val (.obj (mu.length + 1))), some (.val (.int (at_ : Int))), x6, x7, x8] (st2 mu (fvD s.fv) s.lv) =
      .nx [a0, a1, a2, some (.val (.obj mu.length)), some (.val (.obj (mu.length + 1))), some (.val (.int (at_ : Int))), y6, y7, y8] (st2 mu (fvD (bfAll c qs s).fv) (bfAll c qs s).lv)
  | [], done, s, x6, x7, x8, hq, h, hat => ⟨x6, x7, x8, rfl⟩
  | q :: qs, done, s, x6, x7, x8, hq, h, hat => by
    have hm := hq q List.mem_cons_self
    obtain ⟨z8, e1⟩ := bf_turn hn mu h hat (hr q hm).1 (hr q hm).2 (a0 := a0) (a1 := a1) (a2 := a2) (x8 := x8)
    obtain ⟨h1, t1, ht1⟩ := bf1_ok h hat hm (hr q hm).1 (hr q hm).2
    have hat1 : (bf1 c s q).lv[at_]? = some c := by
      rw [ht1, List.getElem?_append_left (List.getElem?_eq_some_iff.mp hat).1]
      exact hat
    obtain ⟨w6, w7, w8, e2⟩ := bf_for hn mu hr qs _ (bf1 c s q) (some (.val (.int (q.1 : Int)))) (some (.val (.int (q.2 : Int)))) z8 (fun x hx => hq x (List.mem_cons_of_mem _ hx)) h1 hat1
    refine ⟨w6, w7, w8, ?_⟩
    rw [show bfAll c (q :: qs) s = bfAll c qs (bf1 c s q) from rfl, ← e2]
    conv => lhs; rw [List.map_cons]; unfold sForL
    simp only [Tg.run, pD, gSets, List.set_cons_succ, List.set_cons_zero, e1]
theorem bf_while {n : Nat} (hn : n ≤ 9) (mu : Store) {rs : Rds} {st : Nat} (hr : ∀ q ∈ rs, q.1 < n ∧ q.2 < n) {a0 a2 : Option SV} : ∀ (m at_ : Nat) (s : Srch) (x6 x7 x8 : Option SV), BfI n rs st at_ [] s → at_ ≤ s.lv.length → n + 1 ≤ m + at_ → ∃ sl,
    sWhl c_steps_away_1 b_steps_away_2 m [a0, some (.val (.lst (rs.map pD))), a2, some (.val (.obj mu.length)), some (.val (.obj (mu.length + 1))), some (.val (.int (at_ : Int))), x6, x7, x8] (st2 mu (fvD s.fv) s.lv) =
      .nx sl (st2 mu (fvD (bfRun rs m at_ s).fv) (bfRun rs m at_ s).lv) ∧ sl[3]? = some (some (.val (.obj mu.length)))
  | 0, at_, s, x6, x7, x8, h, hat, hm => by have := h.le; omega
  | m + 1, at_, s, x6, x7, x8, h, hat, hm => by
    have g1 := st2_1 mu (fvD s.fv) s.lv
    have hlen : (intsN s.lv).length = s.lv.length := by unfold intsN; simp
    by_cases hlt : at_ < s.lv.length
    · have hc : s.lv[at_]? = some s.lv[at_] := List.getElem?_eq_getElem hlt
      obtain ⟨y6, y7, y8, e1⟩ := bf_for hn mu hr (at_ := at_) (c := s.lv[at_]) (a0 := a0) (a1 := some (.val (.lst (rs.map pD)))) (a2 := a2) rs [] s x6 x7 x8 (fun _ h => h) h hc
      obtain ⟨h1, t, ht⟩ := bfAll_ok hr rs [] s (fun _ h => h) h hc
      rw [List.nil_append] at h1
      have hlt1 : at_ < (bfAll s.lv[at_] rs s).lv.length := by rw [ht, List.length_append]; omega
      obtain ⟨sl, e2, hs⟩ := bf_while hn mu hr (a0 := a0) (a2 := a2) m (at_ + 1) _ y6 y7 y8 (h1.next hlt1) hlt1 (by omega)
      refine ⟨sl, ?_, hs⟩
      have eR : bfRun rs (m + 1) at_ s = bfRun rs m (at_ + 1) (bfAll s.lv[at_] rs s) := by
        conv => lhs; unfold bfRun
        rw [hc]
      rw [eR, ← e2]
      conv => lhs; unfold sWhl
      have hlt' : (at_ : Int) < (s.lv.length : Int) := by omega
      have hb : b_steps_away_2 [a0, some (.val (.lst (rs.map pD))), a2, some (.val (.obj mu.length)), some (.val (.obj (mu.length + 1))), some (.val (.int (at_ : Int))), x6, x7, x8] (st2 mu (fvD s.fv) s.lv) =
          .nx [a0, some (.val (.lst (rs.map pD))), a2, some (.val (.obj mu.length)), some (.val (.obj (mu.length + 1))), some (.val (.int ((at_ + 1 : Nat) : Int))), y6, y7, y8] (st2 mu (fvD (bfAll s.lv[at_] rs s).fv) (bfAll s.lv[at_] rs s).lv) := by
        simp [b_steps_away_2, dFun, sSeq, snext, sIf, sbind, sAsg, sRet, sSkip, sExpr, sPar, sSetI, sSetA, sAug, sFor, sTg, dVar, dC, dNil, dCons, dBind, obind, dTup, dLst, dFrz, MO.d, dReg, dFz, dOp1, dOp2, dCmp, dB2v, dTst, dAnd, dOr, dNot, dIf, dCall, dIx, dLook, lookD, dIsi, dIsi2, dIsC, dIn, dChn, dMut, lstOf, putO, dM1, tyOk, dNw1, dNw2, dSl, dP, dNoP, dIsN, dItQ, dItS, dRg1, dRg2, dEnum, dLc, dYes, noex, Tg.run, gSets, List.length_map, List.length_cons, List.length_nil, List.map_cons, List.map_nil, e1]
      simp [c_steps_away_1, dFun, sSeq, snext, sIf, sbind, sAsg, sRet, sSkip, sExpr, sPar, sSetI, sSetA, sAug, sFor, sTg, dVar, dC, dNil, dCons, dBind, obind, dTup, dLst, dFrz, MO.d, dReg, dFz, dOp1, dOp2, dCmp, dB2v, dTst, dAnd, dOr, dNot, dIf, dCall, dIx, dLook, lookD, dIsi, dIsi2, dIsC, dIn, dChn, dMut, lstOf, putO, dM1, tyOk, dNw1, dNw2, dSl, dP, dNoP, dIsN, dItQ, dItS, dRg1, dRg2, dEnum, dLc, dYes, noex, Tg.run, gSets, List.length_map, List.length_cons, List.length_nil, List.map_cons, List.map_nil, g1, lenD, hlen, ltD, hlt', hb]
    · have hlt' : ¬ (at_ : Int) < (s.lv.length : Int) := by omega
      refine ⟨[a0, some (.val (.lst (rs.map pD))), a2, some (.val (.obj mu.length)), some (.val (.obj (mu.length + 1))), some (.val (.int (at_ : Int))), x6, x7, x8], ?_, rfl⟩
      have eR : bfRun rs (m + 1) at_ s = s := by
        unfold bfRun
        rw [List.getElem?_eq_none (by omega)]
      rw [eR]
      unfold sWhl
      simp [c_steps_away_1, dFun, sSeq, snext, sIf, sbind, sAsg, sRet, sSkip, sExpr, sPar, sSetI, sSetA, sAug, sFor, sTg, dVar, dC, dNil, dCons, dBind, obind, dTup, dLst, dFrz, MO.d, dReg, dFz, dOp1, dOp2, dCmp, dB2v, dTst, dAnd, dOr, dNot, dIf, dCall, dIx, dLook, lookD, dIsi, dIsi2, dIsC, dIn, dChn, dMut, lstOf, putO, dM1, tyOk, dNw1, dNw2, dSl, dP, dNoP, dIsN, dItQ, dItS, dRg1, dRg2, dEnum, dLc, dYes, noex, Tg.run, gSets, List.length_map, List.length_cons, List.length_nil, List.map_cons, List.map_nil, g1, lenD, hlen, ltD, hlt']
theorem clL_fv {m : Nat} : ∀ l : List (Option Nat), clL m (fvD l) = true
  | [] => rfl
  | o :: l => by
    show (clD m (optD o) && clL m (fvD l)) = true
    rw [clL_fv l]
    cases o <;> rfl
/-- nothing in the store names what is beyond it -/
def Shut0 (mu : Store) : Prop := mu.all (clM mu.length) = true
theorem steps_ok {n : Nat} (hn : n ≤ 9) {rs : Rds} (hr : ∀ q ∈ rs, q.1 < n ∧ q.2 < n) {s : Nat} (hs : s < n) {mu : Store} (hmu : Shut0 mu) : f_steps_away [.int (n : Int), .lst (rs.map pD), .int (s : Int)] mu = .ok (.lst (fvD (stepsOf n rs s))) mu := by
  obtain ⟨sl, e, hsl⟩ := bf_while hn mu hr (a0 := some (.val (.int (n : Int)))) (a2 := some (.val (.int (s : Int)))) 60 0 _ none none none (bf0_ok (rs := rs) hs) (by simp [bf0]) (by omega)
  have r1 : rgOk (n : Int) = true := rgOk_nat (by omega)
  have hrep : repD (.lst [.non]) (.int (n : Int)) = some (.lst (List.replicate n D.non)) := by
    unfold repD
    have : rgOk (n : Int) = true ∧ [D.non].length * (n : Int).toNat ≤ 16000000 := ⟨r1, by simp; omega⟩
    dsimp only
    rw [if_pos this]
    simp
  have hf0 : fvD (bf0 n s).fv = (List.replicate n D.non).set s (.int 0) := by
    unfold bf0
    rw [← fvD_set]
    unfold fvD
    rw [List.map_replicate]
    rfl
  have g0 : (mu ++ [some (MO.lst (List.replicate n D.non))])[mu.length]? = some (some (.lst (List.replicate n D.non))) := by simp
  have s0 : (mu ++ [some (MO.lst (List.replicate n D.non))]).set mu.length (some (.lst ((List.replicate n D.non).set s (.int 0)))) = mu ++ [some (.lst ((List.replicate n D.non).set s (.int 0)))] := by simp
  have hset := set_nat (l := List.replicate n D.non) (i := s) (v := .int 0) (by simpa using hs)
  have happ : mu ++ [some (MO.lst ((List.replicate n D.non).set s (.int 0)))] ++ [some (.lst [.int (s : Int)])] = st2 mu (fvD (bf0 n s).fv) (bf0 n s).lv := by rw [hf0]; unfold st2 intsN bf0; simp
  have g1 := st2_0 mu (fvD (bfRun rs 60 0 (bf0 n s)).fv) (bfRun rs 60 0 (bf0 n s)).lv
  have key : dFun 9 g_steps_away [.int (n : Int), .lst (rs.map pD), .int (s : Int)] mu = .ok (.lst (fvD (stepsOf n rs s))) ((st2 mu (fvD (bfRun rs 60 0 (bf0 n s)).fv) (bfRun rs 60 0 (bf0 n s)).lv).set mu.length none) := by
    rw [show ((0 : Nat) : Int) = 0 from rfl] at e
    simp [g_steps_away, dFun, sSeq, snext, sIf, sbind, sAsg, sRet, sSkip, sExpr, sPar, sSetI, sSetA, sAug, sFor, sTg, dVar, dC, dNil, dCons, dBind, obind, dTup, dLst, dFrz, MO.d, dReg, dFz, dOp1, dOp2, dCmp, dB2v, dTst, dAnd, dOr, dNot, dIf, dCall, dIx, dLook, lookD, dIsi, dIsi2, dIsC, dIn, dChn, dMut, lstOf, putO, dM1, tyOk, dNw1, dNw2, dSl, dP, dNoP, dIsN, dItQ, dItS, dRg1, dRg2, dEnum, dLc, dYes, noex, Tg.run, gSets, List.length_map, List.length_cons, List.length_nil, List.map_cons, List.map_nil, hrep, g0, s0, hset, happ, e, hsl, g1, stepsOf]
  have ht : ((st2 mu (fvD (bfRun rs 60 0 (bf0 n s)).fv) (bfRun rs 60 0 (bf0 n s)).lv).set mu.length none).take mu.length = mu := by
    rw [List.take_set_of_le (Nat.le_refl _)]
    unfold st2
    simp
  unfold f_steps_away fGc
  rw [key]
  unfold gcO
  dsimp only
  rw [ht, show clD mu.length (.lst (fvD (stepsOf n rs s))) = clL mu.length (fvD (stepsOf n rs s)) from rfl, clL_fv]
  rw [show mu.all (clM mu.length) = true from hmu]
  rfl
end DL
end

section
set_option Elab.async false
set_option linter.all false
set_option maxRecDepth 100000
set_option maxHeartbeats 4000000
namespace DL
open PySem
/-! the plain law of k02: webs made -/
def pP (p : Nat × Nat) : PyData := .tuple [.int (p.1 : Int), .int (p.2 : Int)]
theorem toPL_prs : ∀ l : List (Nat × Nat), toPL (l.map pD) = some (l.map pP)
  | [] => rfl
  | p :: l => by
    rw [List.map_cons]
    unfold toPL
    rw [toPL_prs l]
    rfl
def srt (qs : List (Nat × Nat)) : List D := (qs.map pD).mergeSort sortLe
theorem sorted_prs (qs : List (Nat × Nat)) : sortedD (.lst (qs.map pD)) = some (.lst (srt qs)) := by
  unfold sortedD
  dsimp only
  rw [toPL_prs]
  dsimp only
  have h1 : alikeB (qs.map pP) = true := by
    unfold alikeB
    rw [List.all_eq_true]
    intro a ha
    rw [List.all_eq_true]
    intro b hb
    obtain ⟨x, _, rfl⟩ := List.mem_map.mp ha
    obtain ⟨y, _, rfl⟩ := List.mem_map.mp hb
    simp [pP, PySem.W.alike, PySem.W.alikeAll]
  have h2 : ((qs.map pP).all tupNE) = true := by
    rw [List.all_eq_true]
    intro a ha
    obtain ⟨x, _, rfl⟩ := List.mem_map.mp ha
    rfl
  have h3 : ((qs.map pP).all fun p => decide (p.depth ≤ 60)) = true := by
    rw [List.all_eq_true]
    intro a ha
    obtain ⟨x, _, rfl⟩ := List.mem_map.mp ha
    simp [pP, PyData.depth, PyData.depthAll]
  rw [h1, h2, h3]
  rfl
structure Web (fs : List Str) (qs : List (Nat × Nat)) : Prop where
  names : Names fs
  ne : 1 ≤ fs.length
  nd : qs.Nodup
  lt : ∀ q ∈ qs, q.1 < q.2 ∧ q.2 < fs.length
  few : qs.length ≤ 36
/-- the table of distances -/
def awD (n : Nat) (rs : Rds) : List D := (List.range n).map fun s => .lst (fvD (stepsOf n rs s))
def webF (fs : List Str) (qs : List (Nat × Nat)) : List (Str × D) := [("spots", .tup (fs.map D.str)), ("roads", .tup (srt qs)), ("away", .lst (awD fs.length qs))]
theorem srt_mem {qs : List (Nat × Nat)} {d : D} (h : d ∈ srt qs) : ∃ q ∈ qs, pD q = d := by
  unfold srt at h
  rw [List.mem_mergeSort] at h
  exact List.mem_map.mp h
theorem clL_of {m : Nat} : ∀ {l : List D}, (∀ d ∈ l, clD m d = true) → clL m l = true
  | [], _ => rfl
  | d :: l, h => by
    show (clD m d && clL m l) = true
    rw [h d List.mem_cons_self, clL_of fun x hx => h x (List.mem_cons_of_mem _ hx)]
    rfl
theorem cl_srt (m : Nat) (qs : List (Nat × Nat)) : clL m (srt qs) = true := clL_of fun d hd => by
  obtain ⟨q, _, rfl⟩ := srt_mem hd
  rfl
theorem cl_awD (m n : Nat) (rs : Rds) : clL m (awD n rs) = true := clL_of fun d hd => by
  obtain ⟨s, _, rfl⟩ := List.mem_map.mp hd
  exact clL_fv _
theorem cl_webF (m : Nat) (fs : List Str) (qs : List (Nat × Nat)) : clF m (webF fs qs) = true := by
  unfold webF
  simp only [clF, clD, cl_strs, cl_srt, cl_awD, Bool.and_self]
theorem q_init_1 {fs : List Str} {qs : List (Nat × Nat)} (h : Web fs qs) (mu : Store) {a0 a3 : Option SV} : q_Web_init_1 [a0, some (.val (.lst (fs.map D.str))), some (.val (.lst (qs.map pD))), a3, none] mu = .ok (.lst (qs.map fun _ => D.bl true)) mu := by
  have hl : lenD (.lst (fs.map D.str)) = some (.int (fs.length : Nat)) := by simp [lenD]
  have := lc_all (src := dItQ (dVar 2)) (g := .nm 4) (own := [4]) (elt := dCall f_is_pair_below (dCons (dVar 4) (dCons (dOp1 lenD (dLook (dVar 1))) dNil))) (sl := [a0, some (.val (.lst (fs.map D.str))), some (.val (.lst (qs.map pD))), a3, none]) (mu := mu) (ds := qs.map pD)
    (fun _ => .bl true) rfl (by rw [List.length_map]; have := h.few; omega) (fun d hd => by
      obtain ⟨q, hq, rfl⟩ := List.mem_map.mp hd
      obtain ⟨q1, q2⟩ := h.lt q hq
      have hp := pair_ok q1 q2 h.names.le mu
      exact ⟨_, rfl, by simp [wipeS, dFun, sSeq, snext, sIf, sbind, sAsg, sRet, sSkip, sExpr, sPar, sSetI, sSetA, sAug, sFor, sTg, dVar, dC, dNil, dCons, dBind, obind, dTup, dLst, dFrz, MO.d, dReg, dFz, dOp1, dOp2, dCmp, dB2v, dTst, dAnd, dOr, dNot, dIf, dCall, dIx, dLook, lookD, dIsi, dIsi2, dIsC, dIn, dChn, dMut, lstOf, putO, dM1, tyOk, dNw1, dNw2, dSl, dP, dNoP, dIsN, dItQ, dItS, dRg1, dRg2, dEnum, dLc, dYes, noex, Tg.run, gSets, List.length_map, List.length_cons, List.length_nil, List.map_cons, List.map_nil, hl, hp]⟩)
  rw [show q_Web_init_1 = dLc (dItQ (dVar 2)) (.nm 4) [4] dYes (dCall f_is_pair_below (dCons (dVar 4) (dCons (dOp1 lenD (dLook (dVar 1))) dNil))) from rfl, this, List.map_map]
  rfl
theorem q_init_2 {fs : List Str} {qs : List (Nat × Nat)} (h : Web fs qs) {mu : Store} (hmu : Shut0 mu) {a0 : Option SV} : q_Web_init_2 [a0, some (.val (.lst (fs.map D.str))), some (.val (.lst (qs.map pD))), none, none] mu = .ok (.lst (awD fs.length qs)) mu := by
  have hl : lenD (.lst (fs.map D.str)) = some (.int (fs.length : Nat)) := by simp [lenD]
  have hr : ∀ q ∈ qs, q.1 < fs.length ∧ q.2 < fs.length := fun q hq => by have := h.lt q hq; omega
  have r1 : rgOk (fs.length : Int) = true := rgOk_nat (by have := h.names.le; omega)
  have := lc_all (src := dRg1 (dOp1 lenD (dLook (dVar 1)))) (g := .nm 3) (own := [3]) (elt := dCall f_steps_away (dCons (dOp1 lenD (dLook (dVar 1))) (dCons (dVar 2) (dCons (dVar 3) dNil)))) (sl := [a0, some (.val (.lst (fs.map D.str))), some (.val (.lst (qs.map pD))), none, none]) (mu := mu) (ds := rangeD 0 fs.length)
      (fun d => match d with
        | .int i => .lst (fvD (stepsOf fs.length qs i.toNat))
        | d => d) (by simp [dFun, sSeq, snext, sIf, sbind, sAsg, sRet, sSkip, sExpr, sPar, sSetI, sSetA, sAug, sFor, sTg, dVar, dC, dNil, dCons, dBind, obind, dTup, dLst, dFrz, MO.d, dReg, dFz, dOp1, dOp2, dCmp, dB2v, dTst, dAnd, dOr, dNot, dIf, dCall, dIx, dLook, lookD, dIsi, dIsi2, dIsC, dIn, dChn, dMut, lstOf, putO, dM1, tyOk, dNw1, dNw2, dSl, dP, dNoP, dIsN, dItQ, dItS, dRg1, dRg2, dEnum, dLc, dYes, noex, Tg.run, gSets, List.length_map, List.length_cons, List.length_nil, List.map_cons, List.map_nil, hl, r1]) (by rw [rangeD_len]; have := h.names.le; omega) (fun d hd => by
      rw [rangeD0] at hd
      obtain ⟨s, hs, rfl⟩ := List.mem_map.mp hd
      have := steps_ok h.names.le hr (List.mem_range.mp hs) hmu
      exact ⟨_, rfl, by simp [wipeS, dFun, sSeq, snext, sIf, sbind, sAsg, sRet, sSkip, sExpr, sPar, sSetI, sSetA, sAug, sFor, sTg, dVar, dC, dNil, dCons, dBind, obind, dTup, dLst, dFrz, MO.d, dReg, dFz, dOp1, dOp2, dCmp, dB2v, dTst, dAnd, dOr, dNot, dIf, dCall, dIx, dLook, lookD, dIsi, dIsi2, dIsC, dIn, dChn, dMut, lstOf, putO, dM1, tyOk, dNw1, dNw2, dSl, dP, dNoP, dIsN, dItQ, dItS, dRg1, dRg2, dEnum, dLc, dYes, noex, Tg.run, gSets, List.length_map, List.length_cons, List.length_nil, List.map_cons, List.map_nil, hl, this]⟩)
  rw [show q_Web_init_2 = dLc (dRg1 (dOp1 lenD (dLook (dVar 1)))) (.nm 3) [3] dYes (dCall f_steps_away (dCons (dOp1 lenD (dLook (dVar 1))) (dCons (dVar 2) (dCons (dVar 3) dNil)))) from rfl, this]
  rw [rangeD0, List.map_map]
  rfl
def fldA (fs : List Str) : List (Str × D) := [("spots", .tup (fs.map D.str))]
def fldB (fs : List Str) (qs : List (Nat × Nat)) : List (Str × D) := [("spots", .tup (fs.map D.str)), ("roads", .tup (srt qs))]
theorem init_ok {fs : List Str} {qs : List (Nat × Nat)} (h : Web fs qs) {mu : Store} (hmu : mu.all (clM (mu.length + 1)) = true) : f_Web_init [.obj mu.length, .lst (fs.map D.str), .lst (qs.map pD)] (mu ++ [some (.ins 0 [])]) = .ok .non (mu ++ [some (.ins 0 (webF fs qs))]) := by
  have e1 := are_spots_ok h.names h.ne (mu ++ [some (.ins 0 [])])
  have e2 : f_is_listed [.lst (qs.map pD)] (mu ++ [some (.ins 0 [])]) = .ok (.bl true) (mu ++ [some (.ins 0 [])]) := by simp [f_is_listed, g_is_listed, dFun, sSeq, snext, sIf, sbind, sAsg, sRet, sSkip, sExpr, sPar, sSetI, sSetA, sAug, sFor, sTg, dVar, dC, dNil, dCons, dBind, obind, dTup, dLst, dFrz, MO.d, dReg, dFz, dOp1, dOp2, dCmp, dB2v, dTst, dAnd, dOr, dNot, dIf, dCall, dIx, dLook, lookD, dIsi, dIsi2, dIsC, dIn, dChn, dMut, lstOf, putO, dM1, tyOk, dNw1, dNw2, dSl, dP, dNoP, dIsN, dItQ, dItS, dRg1, dRg2, dEnum, dLc, dYes, noex, Tg.run, gSets, List.length_map, List.length_cons, List.length_nil, List.map_cons, List.map_nil, isiOk, isTy]
  have e3 := q_init_1 h (mu ++ [some (.ins 0 [])]) (a0 := some (.val (.obj mu.length))) (a3 := none)
  have ha : allD (.lst (qs.map fun _ => D.bl true)) = some (.bl true) := by
    have := all_true (qs.map pD)
    rw [List.map_map] at this
    exact this
  have e4 := no_twice_prs h.nd (mu ++ [some (.ins 0 [])])
  have i0 : insOf (mu ++ [some (.ins 0 [])]) (.obj mu.length) = some (0, []) := by unfold insOf; simp
  have i1 : insOf (mu ++ [some (.ins 0 (fldA fs))]) (.obj mu.length) = some (0, (fldA fs)) := by unfold insOf; simp
  have i2 : insOf (mu ++ [some (.ins 0 (fldB fs qs))]) (.obj mu.length) = some (0, (fldB fs qs)) := by unfold insOf; simp
  have s0 : ∀ m m' : MO, (mu ++ [some m]).set mu.length (some m') = mu ++ [some m'] := fun m m' => by simp
  have sh : Shut0 (mu ++ [some (.ins 0 (fldB fs qs))]) := by
    unfold Shut0
    rw [List.length_append, List.all_append]
    show (mu.all (clM (mu.length + 1)) && _) = true
    rw [hmu]
    simp [fldB, clM, clF, clD, cl_strs, cl_srt]
  have e5 := q_init_2 h sh (a0 := some (.val (.obj mu.length)))
  have p1 : putFD "spots" (.tup (fs.map D.str)) [] = (fldA fs) := rfl
  have p2 : putFD "roads" (.tup (srt qs)) (fldA fs) = (fldB fs qs) := rfl
  have p3 : putFD "away" (.lst (awD fs.length qs)) (fldB fs qs) = webF fs qs := rfl
  have l1 : (fldA fs).length < 1000 := by show 1 < 1000; decide
  have l2 : (fldB fs qs).length < 1000 := by show 2 < 1000; decide
  simp [f_Web_init, g_Web_init, dFun, sSeq, snext, sIf, sbind, sAsg, sRet, sSkip, sExpr, sPar, sSetI, sSetA, sAug, sFor, sTg, dVar, dC, dNil, dCons, dBind, obind, dTup, dLst, dFrz, MO.d, dReg, dFz, dOp1, dOp2, dCmp, dB2v, dTst, dAnd, dOr, dNot, dIf, dCall, dIx, dLook, lookD, dIsi, dIsi2, dIsC, dIn, dChn, dMut, lstOf, putO, dM1, tyOk, dNw1, dNw2, dSl, dP, dNoP, dIsN, dItQ, dItS, dRg1, dRg2, dEnum, dLc, dYes, noex, Tg.run, gSets, List.length_map, List.length_cons, List.length_nil, List.map_cons, List.map_nil, l1, l2, e1, e2, e3, ha, e4, tupleD, i0, p1, s0, sorted_prs, i1, p2, i2, e5, p3]
def webD (fs : List Str) (qs : List (Nat × Nat)) : D := .ins 0 (webF fs qs)
end DL
end

section
set_option Elab.async false
set_option linter.all false
set_option maxRecDepth 100000
set_option maxHeartbeats 4000000
namespace DL
open PySem
/-! Q1: tasks -/
/-- stores that name no object -/
abbrev Pl (mu : Store) : Prop := ∀ n, mu.all (clM n) = true
theorem pl_nil : Pl [] := fun _ => rfl
/-- what is left over of a call is dropped -/
theorem gc_of {p : FF} {ds : List D} {mu mu' : Store} {d : D} (h : p ds mu = .ok d mu') (ht : mu'.take mu.length = mu) (hp : Pl mu) (hd : ∀ n, clD n d = true) : fGc p ds mu = .ok d mu := by
  unfold fGc
  rw [h]
  unfold gcO
  dsimp only
  rw [ht, hp, hd]
  rfl
theorem take_app (a b : Store) : (a ++ b).take a.length = a := by simp
/-- a task's parts -/
structure Tk where
  far : Bool
  reach : Nat
  fires : Nat
  broken : Nat
  lying : Nat
structure Tk.Ok (t : Tk) : Prop where
  reach : t.reach ≤ 8
  fires0 : 1 ≤ t.fires
  fires : t.fires ≤ 3
  broken : t.broken ≤ 3
  lying : t.lying ≤ 3
def kindS (b : Bool) : Str := if b then "far" else "near"
def Tk.l (t : Tk) : List D := [.str (kindS t.far), .int (t.reach : Int), .int (t.fires : Int), .int (t.broken : Int), .int (t.lying : Int)]
def tkF (t : Tk) : List (Str × D) := [("kind", .str (kindS t.far)), ("reach", .int (t.reach : Int)), ("fires", .int (t.fires : Int)), ("broken", .int (t.broken : Int)), ("lying", .int (t.lying : Int))]
def tkD (t : Tk) : D := .ins 2 (tkF t)
theorem within_ok {i : Int} {lo hi : Int} (mu : Store) : f_is_within [.int i, .int lo, .int hi] mu = .ok (.bl (decide (lo ≤ i) && decide (i ≤ hi))) mu := by
  by_cases h1 : lo ≤ i <;> by_cases h2 : i ≤ hi <;> simp [f_is_within, g_is_within, f_is_number, g_is_number, dFun, sSeq, snext, sIf, sbind, sAsg, sRet, sSkip, sExpr, sPar, sSetI, sSetA, sAug, sFor, sTg, dVar, dC, dNil, dCons, dBind, obind, dTup, dLst, dFrz, MO.d, dReg, dFz, dOp1, dOp2, dCmp, dB2v, dTst, dAnd, dOr, dNot, dIf, dCall, dIx, dLook, lookD, dIsi, dIsi2, dIsC, dIn, dChn, dMut, lstOf, putO, dM1, tyOk, dNw1, dNw2, dSl, dP, dNoP, dIsN, dItQ, dItS, dRg1, dRg2, dEnum, dLc, dYes, noex, Tg.run, gSets, List.length_map, List.length_cons, List.length_nil, List.map_cons, List.map_nil, isiOk, isTy, leI, cmpI, h1, h2]
def tk2 (t : Tk) : List (Str × D) := [("kind", .str (kindS t.far)), ("reach", .int (t.reach : Int))]
def tk3 (t : Tk) : List (Str × D) := [("kind", .str (kindS t.far)), ("reach", .int (t.reach : Int)), ("fires", .int (t.fires : Int))]
def tk4 (t : Tk) : List (Str × D) := [("kind", .str (kindS t.far)), ("reach", .int (t.reach : Int)), ("fires", .int (t.fires : Int)), ("broken", .int (t.broken : Int))]
end DL
end

section
set_option Elab.async false
set_option linter.all false
set_option maxRecDepth 100000
set_option maxHeartbeats 4000000
namespace DL
open PySem
/-! Q2: lots -/
def lotD (l : List Nat) : D := .tup (intsN l)
theorem intsN_len (l : List Nat) : (intsN l).length = l.length := by unfold intsN; simp
theorem len_lotD (l : List Nat) : lenD (lotD l) = some (.int (l.length : Int)) := by
  show some (D.int ((intsN l).length : Nat)) = _
  rw [intsN_len]
theorem ev_rg1 {f : EF} {sl : Sl} {mu m1 : Store} {j : Int} (h : f sl mu = .ok (.int j) m1) (r : rgOk j = true) : dRg1 f sl mu = .ok (rangeD 0 j.toNat) m1 := by
  unfold dRg1 dBind obind
  rw [h]
  dsimp only
  rw [r, if_pos rfl]
end DL
end

section
set_option Elab.async false
set_option linter.all false
set_option maxRecDepth 100000
set_option maxHeartbeats 4000000
namespace DL
open PySem
/-! Q3: all lots in order; lots of watchers -/
def lotP (l : List Nat) : PyData := .tuple ((l.map fun (i : Nat) => (i : Int)).map PyData.int)
theorem toPL_intsN : ∀ l : List Nat, toPL (intsN l) = some ((l.map fun (i : Nat) => (i : Int)).map PyData.int)
  | [] => rfl
  | i :: l => by
    have ih := toPL_intsN l
    unfold intsN at ih ⊢
    rw [List.map_cons]
    unfold toPL
    rw [ih]
    rfl
def leL (a b : List Nat) : Bool := sortLe (lotD a) (lotD b)
def allLots (n k : Nat) : List (List Nat) := (lotsBy n k).mergeSort leL
theorem len_spots (fs : List Str) : lenD (.tup (fs.map D.str)) = some (.int (fs.length : Int)) := by simp [lenD]
theorem bools_map (l : List Bool) : boolsD (l.map D.bl) = some l := by
  induction l with
  | nil => rfl
  | cons b l ih =>
    rw [List.map_cons]
    unfold boolsD
    rw [ih]
    rfl
theorem all_map (l : List Bool) : allD (.lst (l.map D.bl)) = some (.bl (l.all id)) := by
  unfold allD
  dsimp only
  rw [bools_map]
  rfl
end DL
end

section
set_option Elab.async false
set_option linter.all false
set_option maxRecDepth 100000
set_option maxHeartbeats 4000000
namespace DL
open PySem
/-! Q4: watchers are checked; what one tells; reports; gaps of rows -/
@[simp] theorem lk_lst (mu : Store) (l : List D) : lookD mu (.lst l) = .lst l := rfl
@[simp] theorem lk_tup (mu : Store) (l : List D) : lookD mu (.tup l) = .tup l := rfl
@[simp] theorem lk_int (mu : Store) (i : Int) : lookD mu (.int i) = .int i := rfl
@[simp] theorem lk_str (mu : Store) (s : Str) : lookD mu (.str s) = .str s := rfl
@[simp] theorem lk_bl (mu : Store) (b : Bool) : lookD mu (.bl b) = .bl b := rfl
@[simp] theorem lk_non (mu : Store) : lookD mu .non = .non := rfl
@[simp] theorem lk_ins (mu : Store) (c : Nat) (fs : List (Str × D)) : lookD mu (.ins c fs) = .ins c fs := rfl
@[simp] theorem lk_lot (mu : Store) (l : List Nat) : lookD mu (lotD l) = lotD l := rfl
@[simp] theorem lk_web (mu : Store) (fs : List Str) (rs : List (Nat × Nat)) : lookD mu (webD fs rs) = webD fs rs := rfl
@[simp] theorem lk_tk (mu : Store) (t : Tk) : lookD mu (tkD t) = tkD t := rfl
@[simp] theorem nn_non : isNon .non = true := rfl
@[simp] theorem nn_int (i : Int) : isNon (.int i) = false := rfl
@[simp] theorem nn_tup (l : List D) : isNon (.tup l) = false := rfl
@[simp] theorem nn_bl (b : Bool) : isNon (.bl b) = false := rfl
@[simp] theorem at_spots (fs : List Str) (rs : List (Nat × Nat)) : attrD "spots" (webD fs rs) = some (.tup (fs.map D.str)) := rfl
@[simp] theorem at_away (fs : List Str) (rs : List (Nat × Nat)) : attrD "away" (webD fs rs) = some (.lst (awD fs.length rs)) := rfl
@[simp] theorem at_kind (t : Tk) : attrD "kind" (tkD t) = some (.str (kindS t.far)) := rfl
@[simp] theorem at_reach (t : Tk) : attrD "reach" (tkD t) = some (.int (t.reach : Int)) := rfl
@[simp] theorem at_fires (t : Tk) : attrD "fires" (tkD t) = some (.int (t.fires : Int)) := rfl
@[simp] theorem at_broken (t : Tk) : attrD "broken" (tkD t) = some (.int (t.broken : Int)) := rfl
@[simp] theorem at_lying (t : Tk) : attrD "lying" (tkD t) = some (.int (t.lying : Int)) := rfl
@[simp] theorem len_spotS (fs : List Str) : lenD (.tup (fs.map D.str)) = some (.int (fs.length : Int)) := len_spots fs
@[simp] theorem len_lotS (l : List Nat) : lenD (lotD l) = some (.int (l.length : Int)) := len_lotD l
/-- what a watcher tells -/
inductive Tv where
  | far (o : Option Nat)
  | near (b : Bool)
  deriving DecidableEq
def Tv.isFar : Tv → Bool
  | .far _ => true
  | .near _ => false
def distO (n : Nat) (rs : Rds) (i j : Nat) : Option Nat := ((stepsOf n rs i)[j]?).join
def nearO (n : Nat) (rs : Rds) (w : Nat) (l : List Nat) : Option Nat := (l.filterMap (distO n rs w)).min?
def toldT (n : Nat) (rs : Rds) (t : Tk) (w : Nat) (l : List Nat) : Tv := if t.far = true then .far (nearO n rs w l) else .near ((nearO n rs w l).any fun d => decide (d ≤ t.reach))
end DL
end

section
set_option Elab.async false
set_option linter.all false
set_option maxRecDepth 100000
set_option maxHeartbeats 4000000
namespace DL
open PySem
/-! Q5: reports, gaps of rows, pairs, the close pair, the gap -/
theorem sIx_nat {n i : Nat} {d : Nat} (h : i ≤ n) : HT.sIx n d (some (i : Int)) = i := by
  have : HT.sIx n d (some (i : Int)) = min i n := HT.sIx_nat _ _ i
  rw [this]
  omega
theorem cut_from {α : Type} {l : List α} {i : Nat} (h : i ≤ l.length) : cutG l (some (i : Int)) none = l.drop i := by
  unfold cutG
  rw [sIx_nat h]
  show (l.drop i).take (l.length - i) = _
  rw [List.take_of_length_le (by rw [List.length_drop]; exact Nat.le_refl _)]
theorem cut_to {α : Type} {l : List α} {i : Nat} (h : i ≤ l.length) : cutG l none (some (i : Int)) = l.take i := by
  unfold cutG
  rw [sIx_nat h]
  rfl
def repT (n : Nat) (rs : Rds) (t : Tk) (ws l : List Nat) : List Tv := ws.map fun w => toldT n rs t w l
/-- at how many places two rows are unlike -/
def gapN (a b : List Tv) : Nat := ((a.zip b).filter fun p => decide (p.1 ≠ p.2)).length
def AllK (f : Bool) (a : List Tv) : Prop := ∀ x ∈ a, x.isFar = f
/-- a list by draws of values that stand for typed ones -/
theorem lc_map {α : Type} {src : LF} {g : Tg} {own : List Nat} {c : BF} {elt : EF} {sl : Sl} {mu : Store} {ls : List α} (e : α → D) (T : α → Option D) (hs : src sl mu = .ok (ls.map e) mu) (hz : ls.length ≤ 16000000)
    (h : ∀ x ∈ ls, ∃ sl1, g.run (e x) (wipeS sl own) = some sl1 ∧ ((∃ y, T x = some y ∧ c sl1 mu = .ok true mu ∧ elt sl1 mu = .ok y mu) ∨ (T x = none ∧ c sl1 mu = .ok false mu))) :
    dLc src g own c elt sl mu = .ok (.lst (ls.filterMap T)) mu := by
  have key : ∀ (ls : List α) (acc : List D), (∀ x ∈ ls, ∃ sl1, g.run (e x) (wipeS sl own) = some sl1 ∧ ((∃ y, T x = some y ∧ c sl1 mu = .ok true mu ∧ elt sl1 mu = .ok y mu) ∨ (T x = none ∧ c sl1 mu = .ok false mu))) → dLcL g (wipeS sl own) c elt (ls.map e) acc mu = .ok (.lst (acc ++ ls.filterMap T)) mu := by
    intro ls
    induction ls with
    | nil => intro acc _; simp [dLcL]
    | cons x ls ih =>
      intro acc h
      obtain ⟨sl1, e1, e2⟩ := h x List.mem_cons_self
      have h' := fun y hy => h y (List.mem_cons_of_mem _ hy)
      rw [List.map_cons]
      unfold dLcL
      rw [e1]
      dsimp only
      rcases e2 with ⟨y, e2, e3, e4⟩ | ⟨e2, e3⟩
      · simp only [e3, e4, noex, obind, if_true]
        rw [ih _ h', List.filterMap_cons_some e2, List.append_assoc]
        rfl
      · simp only [e3, noex, obind]
        rw [if_neg (by simp), ih _ h', List.filterMap_cons_none e2]
  unfold dLc dBind obind
  rw [hs]
  have ez : sizeOk (ls.map e) = true := decide_eq_true (by rw [List.length_map]; exact hz)
  simp only [ez, if_true]
  rw [key ls [] h]
  rfl
theorem filterMap_all {α β : Type} (T : α → β) : ∀ l : List α, l.filterMap (fun x => some (T x)) = l.map T
  | [] => rfl
  | x :: l => by rw [List.filterMap_cons_some (f := fun x => some (T x)) (b := T x) rfl, filterMap_all T l]; rfl
theorem lc_mapA {α : Type} {src : LF} {g : Tg} {own : List Nat} {elt : EF} {sl : Sl} {mu : Store} {ls : List α} (e : α → D) (T : α → D) (hs : src sl mu = .ok (ls.map e) mu) (hz : ls.length ≤ 16000000)
    (h : ∀ x ∈ ls, ∃ sl1, g.run (e x) (wipeS sl own) = some sl1 ∧ elt sl1 mu = .ok (T x) mu) : dLc src g own dYes elt sl mu = .ok (.lst (ls.map T)) mu := by
  rw [lc_map e (fun x => some (T x)) hs hz fun x hx => by
    obtain ⟨sl1, e1, e2⟩ := h x hx
    exact ⟨sl1, e1, .inl ⟨_, rfl, rfl, e2⟩⟩]
  congr 2
  exact filterMap_all T ls
def boundN (t : Tk) : Nat := t.broken + 2 * t.lying
def prsL {α : Type} : List α → List (α × α)
  | [] => []
  | a :: l => l.map (fun b => (a, b)) ++ prsL l
end DL
end

section
set_option Elab.async false
set_option linter.all false
set_option maxRecDepth 100000
set_option maxHeartbeats 4000000
namespace DL
open PySem
/-! Q6: the close pair, few, fewest, the gap, clash -/
theorem prsL_mem {α : Type} : ∀ {l : List α} {p : α × α}, p ∈ prsL l → p.1 ∈ l ∧ p.2 ∈ l
  | [], _, h => by cases h
  | a :: l, p, h => by
    have h' : p ∈ l.map (fun b => (a, b)) ++ prsL l := h
    rw [List.mem_append] at h'
    rcases h' with h' | h'
    · obtain ⟨b, hb, rfl⟩ := List.mem_map.mp h'
      exact ⟨List.mem_cons_self, List.mem_cons_of_mem _ hb⟩
    · exact ⟨List.mem_cons_of_mem _ (prsL_mem h').1, List.mem_cons_of_mem _ (prsL_mem h').2⟩
/-- the lots of fires of a task, in order -/
def lotsT (n : Nat) (t : Tk) : List (List Nat) := allLots n (min t.fires n)
theorem lotsT_perm (n : Nat) (t : Tk) : (lotsT n t).Perm (lotsBy n (min t.fires n)) := List.mergeSort_perm _ _
theorem mem_lotsT {n : Nat} {t : Tk} {l : List Nat} : l ∈ lotsT n t ↔ Asc n l ∧ l.length ≤ min t.fires n := by
  rw [(lotsT_perm n t).mem_iff, mem_lots]
/-- rows of two lots are too near to one another -/
def nearP (n : Nat) (rs : Rds) (t : Tk) (ws : List Nat) (p : List Nat × List Nat) : Bool := decide (gapN (repT n rs t ws p.1) (repT n rs t ws p.2) ≤ boundN t)
def closeP (n : Nat) (rs : Rds) (t : Tk) (ws : List Nat) : Option (List Nat × List Nat) := (prsL (lotsT n t)).find? (nearP n rs t ws)
def fewT (n : Nat) (rs : Rds) (t : Tk) : Option (List Nat) := (lotsBy n n).find? fun ws => (closeP n rs t ws).isNone
def fewN (n : Nat) (rs : Rds) (t : Tk) : Option Nat := (fewT n rs t).map List.length
def gapsT (n : Nat) (rs : Rds) (t : Tk) (ws : List Nat) : List Nat := (prsL (lotsT n t)).map fun p => gapN (repT n rs t ws p.1) (repT n rs t ws p.2)
def gapT (n : Nat) (rs : Rds) (t : Tk) (ws : List Nat) : Option Nat := (gapsT n rs t ws).min?
end DL
end

section
set_option Elab.async false
set_option linter.all false
set_option maxRecDepth 100000
set_option maxHeartbeats 4000000
namespace DL
open PySem
/-! Q7: clash, bears, spare -/
def spareT (n : Nat) (rs : Rds) (t : Tk) (ws : List Nat) : List Nat := ws.filter fun w => (closeP n rs t (ws.erase w)).isNone
end DL
end

section
set_option Elab.async false
set_option linter.all false
set_option maxRecDepth 100000
set_option maxHeartbeats 4000000
namespace DL
open PySem
/-! M3: gaps, clashes, fewest watchers: plain -/
/-! ### pairs and gaps -/
theorem gap_count (ws : List Nat) (f g : Nat → Tv) : gapN (ws.map f) (ws.map g) = ws.countP fun w => decide (f w ≠ g w) := by
  unfold gapN
  induction ws with
  | nil => rfl
  | cons w ws ih =>
    rw [List.map_cons, List.map_cons, List.zip_cons_cons, List.filter_cons, List.countP_cons]
    split
    · rename_i h
      rw [List.length_cons, ih]
    · rename_i h
      rw [ih]
      rfl
def gp (n : Nat) (rs : Rds) (t : Tk) (ws a b : List Nat) : Nat := gapN (repT n rs t ws a) (repT n rs t ws b)
theorem gp_count (n : Nat) (rs : Rds) (t : Tk) (ws a b : List Nat) : gp n rs t ws a b = ws.countP fun w => decide (toldT n rs t w a ≠ toldT n rs t w b) := gap_count ws _ _
theorem gp_comm (n : Nat) (rs : Rds) (t : Tk) (ws a b : List Nat) : gp n rs t ws a b = gp n rs t ws b a := by
  rw [gp_count, gp_count]
  congr 1
  funext w
  exact decide_eq_decide.mpr ⟨fun h e => h e.symm, fun h e => h e.symm⟩
theorem prsL_ne {α : Type} : ∀ {l : List α}, l.Nodup → ∀ {p : α × α}, p ∈ prsL l → p.1 ≠ p.2
  | [], _, _, h => by cases h
  | a :: l, hn, p, h => by
    have h' : p ∈ l.map (fun b => (a, b)) ++ prsL l := h
    rw [List.nodup_cons] at hn
    rw [List.mem_append] at h'
    rcases h' with h' | h'
    · obtain ⟨b, hb, rfl⟩ := List.mem_map.mp h'
      intro e
      have e' : a = b := e
      exact hn.1 (e' ▸ hb)
    · exact prsL_ne hn.2 h'
theorem prsL_or {α : Type} : ∀ {l : List α} {a b : α}, a ∈ l → b ∈ l → a ≠ b → (a, b) ∈ prsL l ∨ (b, a) ∈ prsL l
  | [], _, _, h, _, _ => by simp at h
  | x :: l, a, b, ha, hb, hn => by
    show (a, b) ∈ l.map (fun b => (x, b)) ++ prsL l ∨ (b, a) ∈ l.map (fun b => (x, b)) ++ prsL l
    rw [List.mem_append, List.mem_append]
    rcases List.mem_cons.mp ha with e | ha'
    · subst e
      rcases List.mem_cons.mp hb with e | hb'
      · exact absurd e.symm hn
      · exact .inl (.inl (List.mem_map.mpr ⟨b, hb', rfl⟩))
    · rcases List.mem_cons.mp hb with e | hb'
      · subst e
        exact .inr (.inl (List.mem_map.mpr ⟨a, ha', rfl⟩))
      · rcases prsL_or ha' hb' hn with h | h
        · exact .inl (.inr h)
        · exact .inr (.inr h)
/-- a lot of fires of a task -/
def FL (n k : Nat) (l : List Nat) : Prop := Asc n l ∧ l.length ≤ k
theorem mem_FL {n : Nat} {t : Tk} {l : List Nat} : l ∈ lotsT n t ↔ FL n t.fires l := by
  rw [mem_lotsT]
  constructor
  · exact fun h => ⟨h.1, by have := h.2; omega⟩
  · exact fun h => ⟨h.1, by have := h.2; have := asc_len h.1; omega⟩
theorem lotsT_nodup (n : Nat) (t : Tk) : (lotsT n t).Nodup := (lotsT_perm n t).nodup_iff.mpr (lots_nodup _ _)
/-- all unlike lots are farther apart than g -/
def Over (n : Nat) (rs : Rds) (t : Tk) (ws : List Nat) (g : Nat) : Prop := ∀ a b, FL n t.fires a → FL n t.fires b → a ≠ b → g < gp n rs t ws a b
theorem over_iff {n : Nat} {rs : Rds} {t : Tk} {ws : List Nat} {g : Nat} : Over n rs t ws g ↔ ∀ x ∈ gapsT n rs t ws, g < x := by
  constructor
  · intro h x hx
    obtain ⟨p, hp, rfl⟩ := List.mem_map.mp hx
    obtain ⟨m1, m2⟩ := prsL_mem hp
    exact h p.1 p.2 (mem_FL.mp m1) (mem_FL.mp m2) (prsL_ne (lotsT_nodup n t) hp)
  · intro h a b ha hb hn
    rcases prsL_or (mem_FL.mpr ha) (mem_FL.mpr hb) hn with hp | hp
    · exact h _ (List.mem_map.mpr ⟨(a, b), hp, rfl⟩)
    · rw [gp_comm]
      exact h _ (List.mem_map.mpr ⟨(b, a), hp, rfl⟩)
theorem close_iff {n : Nat} {rs : Rds} {t : Tk} {ws : List Nat} : (closeP n rs t ws).isNone = true ↔ Over n rs t ws (boundN t) := by
  rw [over_iff, Option.isNone_iff_eq_none]
  unfold closeP
  rw [List.find?_eq_none]
  constructor
  · intro h x hx
    obtain ⟨p, hp, rfl⟩ := List.mem_map.mp hx
    have := h p hp
    unfold nearP at this
    rw [decide_eq_true_iff] at this
    omega
  · intro h p hp
    have := h _ (List.mem_map.mpr ⟨p, hp, rfl⟩)
    unfold nearP
    rw [decide_eq_true_iff]
    omega
theorem gap_over {n : Nat} {rs : Rds} {t : Tk} {ws : List Nat} {m : Nat} (h : gapT n rs t ws = some m) {g : Nat} : Over n rs t ws g ↔ g < m := by
  unfold gapT at h
  rw [List.min?_eq_some_iff] at h
  rw [over_iff]
  exact ⟨fun k => k m h.1, fun k x hx => Nat.lt_of_lt_of_le k (h.2 x hx)⟩
theorem gap_some {n : Nat} (hn : 1 ≤ n) (rs : Rds) {t : Tk} (ht : 1 ≤ t.fires) (ws : List Nat) : ∃ m, gapT n rs t ws = some m := by
  cases h : gapT n rs t ws with
  | some m => exact ⟨m, rfl⟩
  | none =>
    exfalso
    unfold gapT at h
    rw [List.min?_eq_none_iff] at h
    have h0 : FL n t.fires [] := ⟨asc_nil n, Nat.zero_le _⟩
    have h1 : FL n t.fires [0] := ⟨⟨List.pairwise_singleton _ _, fun x hx => by
      have : x = 0 := by simpa using hx
      omega⟩, by show 1 ≤ _; exact ht⟩
    rcases prsL_or (mem_FL.mpr h0) (mem_FL.mpr h1) (by simp) with hp | hp
    · have : gp n rs t ws [] [0] ∈ gapsT n rs t ws := List.mem_map.mpr ⟨_, hp, rfl⟩
      rw [h] at this
      simp at this
    · have : gp n rs t ws [0] [] ∈ gapsT n rs t ws := List.mem_map.mpr ⟨_, hp, rfl⟩
      rw [h] at this
      simp at this
theorem gap_eq_of {n : Nat} (hn : 1 ≤ n) {rs rs' : Rds} {t : Tk} (ht : 1 ≤ t.fires) {ws ws' : List Nat} (h : ∀ g, Over n rs t ws g ↔ Over n rs' t ws' g) : gapT n rs t ws = gapT n rs' t ws' := by
  obtain ⟨m, hm⟩ := gap_some hn rs ht ws
  obtain ⟨m', hm'⟩ := gap_some hn rs' ht ws'
  have key : ∀ g, g < m ↔ g < m' := fun g => by rw [← gap_over hm, ← gap_over hm', h]
  have h1 := key m
  have h2 := key m'
  rw [hm, hm']
  congr 1
  omega
/-! ### fewest -/
theorem few_some {n : Nat} {rs : Rds} {t : Tk} {m : Nat} : fewN n rs t = some m ↔ (∃ ws, Asc n ws ∧ ws.length = m ∧ Over n rs t ws (boundN t)) ∧ ∀ ws, Asc n ws → Over n rs t ws (boundN t) → m ≤ ws.length := by
  have fwd : ∀ m, fewN n rs t = some m → (∃ ws, Asc n ws ∧ ws.length = m ∧ Over n rs t ws (boundN t)) ∧ ∀ ws, Asc n ws → Over n rs t ws (boundN t) → m ≤ ws.length := by
    intro m h
    obtain ⟨ws, h1, rfl⟩ := Option.map_eq_some_iff.mp h
    unfold fewT at h1
    rw [List.find?_eq_some_iff_append] at h1
    obtain ⟨h2, as, bs, h3, h4⟩ := h1
    have hm : ws ∈ lotsBy n n := by rw [h3]; simp
    refine ⟨⟨ws, (mem_lots.mp hm).1, rfl, close_iff.mp h2⟩, fun vs hv hvo => ?_⟩
    have hvm : vs ∈ lotsBy n n := mem_lots.mpr ⟨hv, asc_len hv⟩
    rw [h3, List.mem_append, List.mem_cons] at hvm
    rcases hvm with h | rfl | h
    · have := h4 vs h
      rw [close_iff.mpr hvo] at this
      simp at this
    · exact Nat.le_refl _
    · have hp := lots_sizes n n
      rw [h3, List.pairwise_append, List.pairwise_cons] at hp
      exact hp.2.1.1 vs h
  refine ⟨fwd m, fun ⟨⟨ws, h1, h2, h3⟩, h4⟩ => ?_⟩
  cases h : fewN n rs t with
  | none =>
    exfalso
    unfold fewN at h
    rw [Option.map_eq_none_iff] at h
    unfold fewT at h
    rw [List.find?_eq_none] at h
    exact h ws (mem_lots.mpr ⟨h1, asc_len h1⟩) (close_iff.mpr h3)
  | some k =>
    obtain ⟨⟨vs, g1, g2, g3⟩, g4⟩ := fwd k h
    have a := h4 vs g1 g3
    have b := g4 ws h1 h3
    congr 1
    omega
theorem few_none {n : Nat} {rs : Rds} {t : Tk} : fewN n rs t = none ↔ ∀ ws, Asc n ws → ¬ Over n rs t ws (boundN t) := by
  unfold fewN
  rw [Option.map_eq_none_iff]
  unfold fewT
  rw [List.find?_eq_none]
  exact ⟨fun h ws hw ho => h ws (mem_lots.mpr ⟨hw, asc_len hw⟩) (close_iff.mpr ho), fun h ws hw ho => h ws (mem_lots.mp hw).1 (close_iff.mp ho)⟩
/-! ### harder tasks -/
structure Harder (t u : Tk) : Prop where
  far : u.far = t.far
  reach : u.reach = t.reach
  fires : t.fires ≤ u.fires
  bound : boundN t ≤ boundN u
theorem told_eq {n : Nat} {rs : Rds} {t u : Tk} (h1 : u.far = t.far) (h2 : u.reach = t.reach) (w : Nat) (l : List Nat) : toldT n rs u w l = toldT n rs t w l := by
  unfold toldT
  rw [h1, h2]
theorem gp_eq {n : Nat} {rs : Rds} {t u : Tk} (h1 : u.far = t.far) (h2 : u.reach = t.reach) (ws a b : List Nat) : gp n rs u ws a b = gp n rs t ws a b := by
  rw [gp_count, gp_count]
  congr 1
  funext w
  rw [told_eq h1 h2, told_eq h1 h2]
theorem Harder.over {t u : Tk} (h : Harder t u) {n : Nat} {rs : Rds} {ws : List Nat} (o : Over n rs u ws (boundN u)) : Over n rs t ws (boundN t) := fun a b ha hb hn => by
  have := o a b ⟨ha.1, Nat.le_trans ha.2 h.fires⟩ ⟨hb.1, Nat.le_trans hb.2 h.fires⟩ hn
  rw [gp_eq h.far h.reach] at this
  exact Nat.lt_of_le_of_lt h.bound this
theorem Harder.few {t u : Tk} (h : Harder t u) {n : Nat} {rs : Rds} {m : Nat} (e : fewN n rs u = some m) : ∃ k, fewN n rs t = some k ∧ k ≤ m := by
  obtain ⟨⟨ws, g1, g2, g3⟩, _⟩ := few_some.mp e
  cases e2 : fewN n rs t with
  | none => exact absurd (h.over g3) (few_none.mp e2 ws g1)
  | some k => exact ⟨k, rfl, by rw [← g2]; exact (few_some.mp e2).2 ws g1 (h.over g3)⟩
/-! ### watchers more and less -/
structure Ren (n : Nat) (rs rs' : Rds) (σ τ : Nat → Nat) : Prop where
  n9 : n ≤ 9
  lt : ∀ a, a < n → σ a < n
  lt' : ∀ a, a < n → τ a < n
  st : ∀ a, a < n → σ (τ a) = a
  ts : ∀ a, a < n → τ (σ a) = a
  r : ∀ q ∈ rs, q.1 < n ∧ q.2 < n
  r' : ∀ q ∈ rs', q.1 < n ∧ q.2 < n
  adj : ∀ a b, a < n → b < n → (Adj rs a b ↔ Adj rs' (σ a) (σ b))
theorem Ren.symm {n : Nat} {rs rs' : Rds} {σ τ : Nat → Nat} (h : Ren n rs rs' σ τ) : Ren n rs' rs τ σ := ⟨h.n9, h.lt', h.lt, h.ts, h.st, h.r', h.r, fun a b ha hb => by
  rw [h.adj _ _ (h.lt' a ha) (h.lt' b hb), h.st a ha, h.st b hb]⟩
theorem adj_lt {n : Nat} {rs : Rds} (h : ∀ q ∈ rs, q.1 < n ∧ q.2 < n) {a b : Nat} (e : Adj rs a b) : a < n ∧ b < n := by
  rcases e with e | e
  · exact h _ e
  · have := h _ e; exact ⟨this.2, this.1⟩
theorem Ren.way {n : Nat} {rs rs' : Rds} {σ τ : Nat → Nat} (h : Ren n rs rs' σ τ) {a b k : Nat} (w : Way rs a b k) : Way rs' (σ a) (σ b) k := w.map σ fun x y e => by
  obtain ⟨hx, hy⟩ := adj_lt h.r e
  exact (h.adj x y hx hy).mp e
theorem Ren.dist {n : Nat} {rs rs' : Rds} {σ τ : Nat → Nat} (h : Ren n rs rs' σ τ) {a b : Nat} (ha : a < n) (hb : b < n) : distO n rs' (σ a) (σ b) = distO n rs a b := by
  have d1 := steps_isD h.n9 ha h.r b
  have d2 := steps_isD h.n9 (h.lt a ha) h.r' (σ b)
  refine IsD.uniq d2 ?_
  show IsD rs' (σ a) (σ b) (distO n rs a b)
  have d1' : IsD rs a b (distO n rs a b) := d1
  cases e : distO n rs a b with
  | none =>
    rw [e] at d1'
    intro k w
    have w' := h.symm.way w
    rw [h.ts a ha, h.ts b hb] at w'
    exact d1' k w'
  | some d =>
    rw [e] at d1'
    refine ⟨h.way d1'.1, fun k w => ?_⟩
    have w' := h.symm.way w
    rw [h.ts a ha, h.ts b hb] at w'
    exact d1'.2 k w'
theorem min_perm {l m : List Nat} (h : l.Perm m) : l.min? = m.min? := by
  cases e : m.min? with
  | none =>
    rw [List.min?_eq_none_iff] at e ⊢
    subst e
    exact h.eq_nil
  | some a =>
    rw [List.min?_eq_some_iff] at e ⊢
    exact ⟨h.mem_iff.mpr e.1, fun b hb => e.2 b (h.mem_iff.mp hb)⟩
theorem filterMap_on {α β : Type} {f g : α → Option β} : ∀ {l : List α}, (∀ x ∈ l, f x = g x) → l.filterMap f = l.filterMap g
  | [], _ => rfl
  | a :: l, h => by
    rw [List.filterMap_cons, List.filterMap_cons, h a List.mem_cons_self, filterMap_on fun x hx => h x (List.mem_cons_of_mem _ hx)]
theorem Ren.near {n : Nat} {rs rs' : Rds} {σ τ : Nat → Nat} (h : Ren n rs rs' σ τ) {w : Nat} (hw : w < n) {l l' : List Nat} (hl : ∀ x ∈ l, x < n) (hp : l'.Perm (l.map σ)) : nearO n rs' (σ w) l' = nearO n rs w l := by
  unfold nearO
  rw [min_perm (hp.filterMap _), List.filterMap_map]
  congr 1
  refine filterMap_on fun x hx => ?_
  exact h.dist hw (hl x hx)
theorem Ren.told {n : Nat} {rs rs' : Rds} {σ τ : Nat → Nat} (h : Ren n rs rs' σ τ) (t : Tk) {w : Nat} (hw : w < n) {l l' : List Nat} (hl : ∀ x ∈ l, x < n) (hp : l'.Perm (l.map σ)) : toldT n rs' t (σ w) l' = toldT n rs t w l := by
  unfold toldT
  rw [h.near hw hl hp]
theorem Ren.gp {n : Nat} {rs rs' : Rds} {σ τ : Nat → Nat} (h : Ren n rs rs' σ τ) (t : Tk) {ws ws' a a' b b' : List Nat} (hw : ∀ x ∈ ws, x < n) (hws : ws'.Perm (ws.map σ)) (ha : ∀ x ∈ a, x < n) (hpa : a'.Perm (a.map σ)) (hb : ∀ x ∈ b, x < n) (hpb : b'.Perm (b.map σ)) :
    gp n rs' t ws' a' b' = gp n rs t ws a b := by
  rw [gp_count, gp_count, hws.countP_eq, List.countP_map]
  apply List.countP_congr
  intro w hw2
  show decide _ = true ↔ decide _ = true
  rw [h.told t (hw w hw2) ha hpa, h.told t (hw w hw2) hb hpb]
/-- numbers in order -/
def sortN (l : List Nat) : List Nat := l.mergeSort fun a b => decide (a ≤ b)
theorem sortN_perm (l : List Nat) : (sortN l).Perm l := List.mergeSort_perm _ _
theorem sortN_le (l : List Nat) : (sortN l).Pairwise (· ≤ ·) := (List.pairwise_mergeSort (le := fun a b : Nat => decide (a ≤ b)) (fun a b c h1 h2 => by
  rw [decide_eq_true_iff] at *
  omega) (fun a b => by
  rw [Bool.or_eq_true, decide_eq_true_iff, decide_eq_true_iff]
  omega) l).imp fun h => of_decide_eq_true h
theorem sortN_asc {n : Nat} {l : List Nat} (hn : l.Nodup) (hl : ∀ x ∈ l, x < n) : Asc n (sortN l) := by
  have h1 := sortN_le l
  have h2 : (sortN l).Nodup := (sortN_perm l).nodup_iff.mpr hn
  exact ⟨h1.imp₂ (fun _ _ h h' => Nat.lt_of_le_of_ne h h') h2, fun x hx => hl x ((sortN_perm l).mem_iff.mp hx)⟩
theorem asc_nodup {n : Nat} {l : List Nat} (h : Asc n l) : l.Nodup := h.pw.imp fun h => Nat.ne_of_lt h
theorem nodup_map_on {α β : Type} {f : α → β} : ∀ {l : List α}, (∀ x ∈ l, ∀ y ∈ l, f x = f y → x = y) → l.Nodup → (l.map f).Nodup
  | [], _, _ => .nil
  | a :: l, h, hn => by
    rw [List.nodup_cons] at hn
    rw [List.map_cons, List.nodup_cons]
    refine ⟨fun hm => ?_, nodup_map_on (fun x hx y hy => h x (List.mem_cons_of_mem _ hx) y (List.mem_cons_of_mem _ hy)) hn.2⟩
    obtain ⟨b, hb, e⟩ := List.mem_map.mp hm
    have := h b (List.mem_cons_of_mem _ hb) a List.mem_cons_self e
    exact hn.1 (this ▸ hb)
theorem Ren.inj {n : Nat} {rs rs' : Rds} {σ τ : Nat → Nat} (h : Ren n rs rs' σ τ) {a b : Nat} (ha : a < n) (hb : b < n) (e : σ a = σ b) : a = b := by
  rw [← h.ts a ha, ← h.ts b hb, e]
theorem Ren.asc {n : Nat} {rs rs' : Rds} {σ τ : Nat → Nat} (h : Ren n rs rs' σ τ) {l : List Nat} (hl : Asc n l) : Asc n (sortN (l.map σ)) := sortN_asc (nodup_map_on (fun x hx y hy e => h.inj (hl.lt x hx) (hl.lt y hy) e) (asc_nodup hl)) fun x hx => by
  obtain ⟨y, hy, rfl⟩ := List.mem_map.mp hx
  exact h.lt y (hl.lt y hy)
theorem Ren.fl {n : Nat} {rs rs' : Rds} {σ τ : Nat → Nat} (h : Ren n rs rs' σ τ) {k : Nat} {l : List Nat} (hl : FL n k l) : FL n k (sortN (l.map σ)) := ⟨h.asc hl.1, by
  rw [(sortN_perm _).length_eq, List.length_map]
  exact hl.2⟩
theorem Ren.back {n : Nat} {rs rs' : Rds} {σ τ : Nat → Nat} (h : Ren n rs rs' σ τ) {l : List Nat} (hl : ∀ x ∈ l, x < n) : l.Perm ((sortN (l.map τ)).map σ) := by
  have h1 : ((sortN (l.map τ)).map σ).Perm ((l.map τ).map σ) := (sortN_perm _).map σ
  have h2 : (l.map τ).map σ = l := by
    rw [List.map_map]
    conv => rhs; rw [← List.map_id l]
    apply List.map_congr_left
    intro x hx
    exact h.st x (hl x hx)
  rw [h2] at h1
  exact h1.symm
theorem Ren.over1 {n : Nat} {rs rs' : Rds} {σ τ : Nat → Nat} (h : Ren n rs rs' σ τ) (t : Tk) {ws ws' : List Nat} (hw : ∀ x ∈ ws, x < n) (hws : ws'.Perm (ws.map σ)) {g : Nat} (o : Over n rs t ws g) : Over n rs' t ws' g := fun a b ha hb hn => by
  have fa := h.symm.fl ha
  have fb := h.symm.fl hb
  have e := h.gp t hw hws fa.1.lt (h.back ha.1.lt) fb.1.lt (h.back hb.1.lt)
  rw [e]
  refine o _ _ fa fb fun hab => hn ?_
  refine asc_ext ha.1.pw hb.1.pw fun x => ?_
  rw [(h.back ha.1.lt).mem_iff, hab, ← (h.back hb.1.lt).mem_iff]
theorem Ren.perm' {n : Nat} {rs rs' : Rds} {σ τ : Nat → Nat} (h : Ren n rs rs' σ τ) {ws ws' : List Nat} (hw : ∀ x ∈ ws, x < n) (hws : ws'.Perm (ws.map σ)) : ws.Perm (ws'.map τ) := by
  have h1 := hws.map τ
  rw [List.map_map] at h1
  have h2 : ws.map (τ ∘ σ) = ws := by
    conv => rhs; rw [← List.map_id ws]
    apply List.map_congr_left
    intro x hx
    exact h.ts x (hw x hx)
  rw [h2] at h1
  exact h1.symm
theorem Ren.lt'' {n : Nat} {rs rs' : Rds} {σ τ : Nat → Nat} (h : Ren n rs rs' σ τ) {ws ws' : List Nat} (hw : ∀ x ∈ ws, x < n) (hws : ws'.Perm (ws.map σ)) : ∀ x ∈ ws', x < n := fun x hx => by
  rw [hws.mem_iff] at hx
  obtain ⟨y, hy, rfl⟩ := List.mem_map.mp hx
  exact h.lt y (hw y hy)
theorem Ren.over {n : Nat} {rs rs' : Rds} {σ τ : Nat → Nat} (h : Ren n rs rs' σ τ) (t : Tk) {ws ws' : List Nat} (hw : ∀ x ∈ ws, x < n) (hws : ws'.Perm (ws.map σ)) {g : Nat} : Over n rs t ws g ↔ Over n rs' t ws' g :=
  ⟨h.over1 t hw hws, h.symm.over1 t (h.lt'' hw hws) (h.perm' hw hws)⟩
theorem Ren.gap {n : Nat} (hn : 1 ≤ n) {rs rs' : Rds} {σ τ : Nat → Nat} (h : Ren n rs rs' σ τ) {t : Tk} (ht : 1 ≤ t.fires) {ws ws' : List Nat} (hw : ∀ x ∈ ws, x < n) (hws : ws'.Perm (ws.map σ)) : gapT n rs' t ws' = gapT n rs t ws :=
  (gap_eq_of hn ht fun _ => h.over t hw hws).symm
theorem Ren.few1 {n : Nat} {rs rs' : Rds} {σ τ : Nat → Nat} (h : Ren n rs rs' σ τ) (t : Tk) {m : Nat} (e : fewN n rs t = some m) : ∃ k, fewN n rs' t = some k ∧ k ≤ m := by
  obtain ⟨⟨ws, g1, g2, g3⟩, _⟩ := few_some.mp e
  have o := h.over1 t g1.lt (sortN_perm (ws.map σ)) g3
  have ha := h.asc g1
  have hl : (sortN (ws.map σ)).length = m := by rw [(sortN_perm _).length_eq, List.length_map, g2]
  cases e2 : fewN n rs' t with
  | none => exact absurd o (few_none.mp e2 _ ha)
  | some k => exact ⟨k, rfl, by rw [← hl]; exact (few_some.mp e2).2 _ ha o⟩
theorem Ren.few {n : Nat} {rs rs' : Rds} {σ τ : Nat → Nat} (h : Ren n rs rs' σ τ) (t : Tk) : fewN n rs' t = fewN n rs t := by
  cases e : fewN n rs t with
  | none =>
    cases e' : fewN n rs' t with
    | none => rfl
    | some k =>
      obtain ⟨m, h1, _⟩ := h.symm.few1 t e'
      rw [e] at h1
      cases h1
  | some m =>
    obtain ⟨k, h1, h2⟩ := h.few1 t e
    obtain ⟨m', h3, h4⟩ := h.symm.few1 t h1
    rw [e] at h3
    have : m = m' := Option.some.inj h3
    rw [h1]
    congr 1
    omega
theorem Ren.spare {n : Nat} {rs rs' : Rds} {σ τ : Nat → Nat} (h : Ren n rs rs' σ τ) (t : Tk) {ws ws' : List Nat} (hw : Asc n ws) (hw' : Asc n ws') (hws : ws'.Perm (ws.map σ)) : sortN ((spareT n rs' t ws').map τ) = spareT n rs t ws := by
  have hs' : ∀ x ∈ spareT n rs' t ws', x ∈ ws' := fun x hx => (List.mem_filter.mp hx).1
  have key : ∀ w ∈ ws, (closeP n rs t (ws.erase w)).isNone = (closeP n rs' t (ws'.erase (σ w))).isNone := fun w hwm => by
    have hp : (ws'.erase (σ w)).Perm ((ws.erase w).map σ) := by
      have h1 : (ws.map σ).Perm (σ w :: (ws.erase w).map σ) := by
        have := (List.perm_cons_erase hwm).map σ
        rwa [List.map_cons] at this
      have h2 := (hws.trans h1).erase (σ w)
      rwa [List.erase_cons_head] at h2
    rw [Bool.eq_iff_iff, close_iff, close_iff]
    exact h.over t (fun x hx => hw.lt x (List.mem_of_mem_erase hx)) hp
  have ha : Asc n (sortN ((spareT n rs' t ws').map τ)) := sortN_asc (nodup_map_on (fun x hx y hy e => h.symm.inj (hw'.lt x (hs' x hx)) (hw'.lt y (hs' y hy)) e) ((asc_nodup hw').filter _)) fun x hx => by
    obtain ⟨y, hy, rfl⟩ := List.mem_map.mp hx
    exact h.lt' y (hw'.lt y (hs' y hy))
  refine asc_ext ha.pw (hw.pw.filter _) fun x => ?_
  rw [(sortN_perm _).mem_iff]
  constructor
  · intro hx
    obtain ⟨y, hy, rfl⟩ := List.mem_map.mp hx
    obtain ⟨hy1, hy2⟩ := List.mem_filter.mp hy
    have hm := hws.mem_iff.mp hy1
    obtain ⟨w, hwm, rfl⟩ := List.mem_map.mp hm
    rw [h.ts w (hw.lt w hwm)]
    exact List.mem_filter.mpr ⟨hwm, by rw [key w hwm]; exact hy2⟩
  · intro hx
    obtain ⟨h1, h2⟩ := List.mem_filter.mp hx
    refine List.mem_map.mpr ⟨σ x, List.mem_filter.mpr ⟨hws.mem_iff.mpr (List.mem_map.mpr ⟨x, h1, rfl⟩), ?_⟩, h.ts x (hw.lt x h1)⟩
    rw [← key x h1]
    exact h2
/-! ### what is borne -/
end DL
end

section
set_option Elab.async false
set_option linter.all false
set_option maxRecDepth 100000
set_option maxHeartbeats 4000000
namespace DL
open PySem
/-! Q8: helpers of laws: pots, orders, sorted numbers, lots -/
theorem seq_nx {s t : SF} {sl sl' : Sl} {mu mu' : Store} (h : s sl mu = .nx sl' mu') : sSeq s t sl mu = t sl' mu' := by
  unfold sSeq
  rw [h]
  rfl
theorem frz_lst {f : NF} {l : List D} {sl : Sl} {mu m1 : Store} (h : f sl mu = .ok (.lst l) m1) : dFrz f sl mu = .ok (.lst l) m1 := by
  unfold dFrz dBind obind
  rw [h]
  rfl
theorem mus_all {p : Pot} {r : Store} (hr : ∀ n, r.all (clM n) = true) : ∀ n, (mus p r).all (clM n) = true := fun n => by
  unfold mus
  rw [List.all_cons, pot_clM, hr]
  rfl
theorem eq_ints (i j : Int) : eqD (.int i) (.int j) = some (decide (i = j)) := by
  unfold eqD
  simp [toP, PyData.depth, PyData.eqv]
  rfl
theorem ne_bl (b : Bool) : neD (.bl b) (.bl b) = some false := by cases b <;> decide +kernel
theorem eq_bl (b : Bool) : eqD (.bl b) (.bl b) = some true := by cases b <;> decide +kernel
theorem same_int {n : Nat} {x : Int} {mu : Store} : f__law_same_at (n + 1) [.int x, .int x] mu = .ok (.bl true) mu := by
  have e : eqD (.int x) (.int x) = some true := by rw [eq_ints, decide_eq_true rfl]
  unfold f__law_same_at dFun g__law_same
  simp only [List.map_cons, List.map_nil, List.length_cons, List.length_nil, List.replicate, List.cons_append, List.nil_append, sSeq, sIf, sRet, sbind, snext, sSkip, dOr, dAnd, dIsi, dB2v, dCmp, dBind, obind, dLook, dVar, List.getElem?_cons_succ, List.getElem?_cons_zero, lookD, isiOk, isTy, if_true, Bool.false_eq_true, if_false, dIsN, isNon, eq_bl, e]
theorem cut_ints (ns : List Int) : cutG (ns.map D.int) none (some 63) = (ns.take 63).map D.int := by
  unfold cutG
  have e : HT.sIx (ns.map D.int).length (ns.map D.int).length (some 63) = min 63 (ns.map D.int).length := HT.sIx_nat _ _ 63
  rw [e, HT.sIx_none, List.drop_zero, Nat.sub_zero, List.length_map, ← List.map_take]
  by_cases h : 63 ≤ ns.length
  · rw [Nat.min_eq_left h]
  · rw [Nat.min_eq_right (by omega), List.take_of_length_le (Nat.le_refl _), List.take_of_length_le (by omega)]
theorem pot_ok (ns : List Int) : ∃ p, f__law_pot [.frl (ns.map D.int)] [] = .ok (.obj 0) (mus p []) ∧ p.Ok := by
  refine ⟨⟨(ns.take 63).map fun i => if i < 0 then -i else i, 0, 20011, 0⟩, ?_, ⟨Int.le_refl 0, by rw [List.length_map, List.length_take]; omega, fun c hc => by
    obtain ⟨i, _, rfl⟩ := List.mem_map.mp hc
    split <;> omega, by show (0 : Int) ≤ 20011; decide, by show (20011 : Int) < 2147483648; decide, Int.le_refl 0⟩⟩
  have hq : q__law_pot_1 [some (.val (.frl (ns.map D.int))), none] [] = .ok (.lst (((ns.take 63).map fun i => if i < 0 then -i else i).map D.int)) [] := by
    have := lc_all (src := dItQ (dSl (dVar 0) dNoP (dP (dC (.int 63))))) (g := .nm 1) (own := [1]) (elt := dOp1 absD (dLook (dVar 1))) (sl := [some (.val (.frl (ns.map D.int))), none]) (mu := []) (ds := (ns.take 63).map D.int) (fun d => match d with
      | .int i => .int (if i < 0 then -i else i)
      | d => d) (by
        rw [← cut_ints]
        rfl) (by rw [List.length_map, List.length_take]; omega) (fun d hd => by
        obtain ⟨i, _, rfl⟩ := List.mem_map.mp hd
        exact ⟨_, rfl, rfl⟩)
    rw [show q__law_pot_1 = dLc (dItQ (dSl (dVar 0) dNoP (dP (dC (.int 63))))) (.nm 1) [1] dYes (dOp1 absD (dLook (dVar 1))) from rfl, this, List.map_map, List.map_map]
    rfl
  unfold f__law_pot dFun g__law_pot
  simp only [List.map_cons, List.map_nil, List.length_cons, List.length_nil, List.replicate, List.cons_append, List.nil_append, sRet, sbind, dReg, dLst, dCons, dNil, dBind, obind, dFrz, hq, MO.d, dC]
  rfl
theorem int_le (a b : Nat) : sortLe (.int (a : Int)) (.int (b : Int)) = decide (a ≤ b) := by
  show (!(decide ((b : Int) < (a : Int)) || (!decide ((a : Int) < (b : Int)) && false))) = _
  by_cases h : b < a
  · rw [decide_eq_true (by omega : (b : Int) < (a : Int)), decide_eq_false (by omega : ¬ a ≤ b)]
    rfl
  · rw [decide_eq_false (by omega : ¬ (b : Int) < (a : Int)), decide_eq_true (by omega : a ≤ b), Bool.and_false]
    rfl
theorem sorted_nat (l : List Nat) : sortedD (.lst (intsN l)) = some (.lst (intsN (sortN l))) := by
  have hq : (l.map fun (i : Nat) => (i : Int)).map PyData.int = l.map fun (i : Nat) => PyData.int (i : Int) := by rw [List.map_map]; rfl
  have h1 : alikeB (l.map fun (i : Nat) => PyData.int (i : Int)) = true := by
    unfold alikeB
    rw [List.all_eq_true]
    intro p hp
    rw [List.all_eq_true]
    intro q hq
    obtain ⟨a, _, rfl⟩ := List.mem_map.mp hp
    obtain ⟨b, _, rfl⟩ := List.mem_map.mp hq
    rfl
  have h2 : (l.map fun (i : Nat) => PyData.int (i : Int)).all notNT = true := by
    rw [List.all_eq_true]
    intro p hp
    obtain ⟨a, _, rfl⟩ := List.mem_map.mp hp
    rfl
  have h3 : (l.map fun (i : Nat) => PyData.int (i : Int)).all (fun p => decide (p.depth ≤ 60)) = true := by
    rw [List.all_eq_true]
    intro p hp
    obtain ⟨a, _, rfl⟩ := List.mem_map.mp hp
    rfl
  unfold sortedD
  dsimp only
  rw [toPL_intsN, hq]
  dsimp only
  simp only [h1, h2, h3, Bool.or_true, Bool.true_or, Bool.and_self, if_true]
  congr 2
  unfold sortN intsN
  rw [List.map_mergeSort (r := fun a b : Nat => decide (a ≤ b)) (s := sortLe) (f := fun (i : Nat) => D.int (i : Int)) (fun a _ b _ => (int_le a b).symm)]
end DL
end

section
set_option Elab.async false
set_option linter.all false
set_option maxRecDepth 100000
set_option maxHeartbeats 4000000
namespace DL
open PySem
/-! Q9: helpers of the law k11: all places, all lots, another order -/
theorem spec_ix0 (fs : List Str) (rs : List (Nat × Nat)) : ixD (specD fs rs) (.int 0) = some (.lst (fs.map D.str)) := by simp [specD, ixD, L2.atI, L2.ixN]
theorem spec_ix1 (fs : List Str) (rs : List (Nat × Nat)) : ixD (specD fs rs) (.int 1) = some (.lst (rs.map pD)) := by simp [specD, ixD, L2.atI, L2.ixN]
@[simp] theorem lk_spec (mu : Store) (fs : List Str) (rs : List (Nat × Nat)) : lookD mu (specD fs rs) = specD fs rs := rfl
/-- an order of all places -/
structure Ord (n : Nat) (os : List Nat) : Prop where
  perm : os.Perm (List.range n)
theorem Ord.len {n : Nat} {os : List Nat} (h : Ord n os) : os.length = n := by rw [h.perm.length_eq, List.length_range]
theorem Ord.mem {n : Nat} {os : List Nat} (h : Ord n os) {a : Nat} : a ∈ os ↔ a < n := by rw [h.perm.mem_iff, List.mem_range]
theorem Ord.nd {n : Nat} {os : List Nat} (h : Ord n os) : os.Nodup := h.perm.nodup_iff.mpr List.nodup_range
def sg1 (os : List Nat) (a : Nat) : Nat := os.idxOf a
def ta1 (os : List Nat) (i : Nat) : Nat := os[i]?.getD 0
theorem Ord.lt {n : Nat} {os : List Nat} (h : Ord n os) {a : Nat} (ha : a < n) : sg1 os a < n := by
  have := List.idxOf_lt_length_of_mem (h.mem.mpr ha)
  rwa [h.len] at this
theorem Ord.get {n : Nat} {os : List Nat} (h : Ord n os) {i : Nat} (hi : i < n) : os[i]? = some (ta1 os i) := by
  have : i < os.length := by rw [h.len]; exact hi
  unfold ta1
  rw [List.getElem?_eq_getElem this]
  rfl
theorem Ord.lt' {n : Nat} {os : List Nat} (h : Ord n os) {i : Nat} (hi : i < n) : ta1 os i < n := h.mem.mp (List.mem_of_getElem? (h.get hi))
theorem Ord.st {n : Nat} {os : List Nat} (h : Ord n os) {i : Nat} (hi : i < n) : sg1 os (ta1 os i) = i := by
  have hl : i < os.length := by rw [h.len]; exact hi
  have e := h.get hi
  rw [List.getElem?_eq_getElem hl] at e
  have e' : ta1 os i = os[i] := (Option.some.inj e).symm
  unfold sg1
  rw [e']
  exact h.nd.idxOf_getElem i hl
theorem Ord.ts {n : Nat} {os : List Nat} (h : Ord n os) {a : Nat} (ha : a < n) : ta1 os (sg1 os a) = a := by
  have hm := h.mem.mpr ha
  have hl := List.idxOf_lt_length_of_mem hm
  unfold ta1 sg1
  rw [List.getElem?_eq_getElem hl]
  exact List.getElem_idxOf hl
/-- a road in the other order -/
def rd2 (os : List Nat) (q : Nat × Nat) : Nat × Nat := (min (sg1 os q.1) (sg1 os q.2), max (sg1 os q.1) (sg1 os q.2))
theorem Ord.inj {n : Nat} {os : List Nat} (h : Ord n os) {a b : Nat} (ha : a < n) (hb : b < n) (e : sg1 os a = sg1 os b) : a = b := by
  rw [← h.ts ha, ← h.ts hb, e]
theorem Spec.lt {fs : List Str} {rs : List (Nat × Nat)} (h : Spec fs rs) : ∀ q ∈ rs, q.1 < q.2 ∧ q.2 < fs.length := fun q hq => mem_pairs.mp (h.sub.subset hq)
theorem Spec.web {fs : List Str} {rs : List (Nat × Nat)} (h : Spec fs rs) : Web fs rs := ⟨h.names, h.ne, (pairs_nodup _).sublist h.sub, h.lt, by
  have := h.sub.length_le
  have := pairs_len h.names.le
  omega⟩
end DL
end

section
set_option Elab.async false
set_option linter.all false
set_option maxRecDepth 100000
set_option maxHeartbeats 4000000
namespace DL
open PySem
/-! R1: parts of the law k11 -/
end DL
end

section
set_option Elab.async false
set_option linter.all false
set_option maxRecDepth 100000
set_option maxHeartbeats 4000000
namespace DL
open PySem
/-! S1: the law's own distances -/
/-- the roads from k to a place that was reached -/
def toR (rs : Rds) (k : Nat) (re : List Nat) : Rds := rs.filter fun p => (decide (p.1 = k) || decide (p.2 = k)) && decide (p.1 + p.2 - k ∈ re)
def moreR (n : Nat) (rs : Rds) (re : List Nat) : List Nat := (List.range n).filter fun k => decide (k ∉ re) && !decide (toR rs k re = [])
theorem lc_filter {α : Type} {src : LF} {g : Tg} {own : List Nat} {c : BF} {elt : EF} {sl : Sl} {mu : Store} {ls : List α} (e : α → D) (P : α → Bool) (hs : src sl mu = .ok (ls.map e) mu) (hz : ls.length ≤ 16000000)
    (h : ∀ x ∈ ls, ∃ sl1, g.run (e x) (wipeS sl own) = some sl1 ∧ c sl1 mu = .ok (P x) mu ∧ (P x = true → elt sl1 mu = .ok (e x) mu)) : dLc src g own c elt sl mu = .ok (.lst ((ls.filter P).map e)) mu := by
  rw [lc_map e (fun x => if P x = true then some (e x) else none) hs hz fun x hx => by
    obtain ⟨sl1, e1, e2, e3⟩ := h x hx
    refine ⟨sl1, e1, ?_⟩
    by_cases hp : P x = true
    · exact .inl ⟨_, if_pos hp, by rw [e2, hp], e3 hp⟩
    · exact .inr ⟨if_neg hp, by rw [e2]; simp at hp; rw [hp]⟩]
  congr 2
  clear h hs hz
  induction ls with
  | nil => rfl
  | cons x l ih =>
    by_cases hp : P x = true
    · rw [List.filterMap_cons_some (f := fun x => if P x = true then some (e x) else none) (b := e x) (if_pos hp), ih, List.filter_cons_of_pos hp]
      rfl
    · rw [List.filterMap_cons_none (f := fun x => if P x = true then some (e x) else none) (if_neg hp), ih, List.filter_cons_of_neg hp]
/-- what was reached in so many steps -/
structure Rch (n : Nat) (rs : Rds) (a : Nat) (re : List Nat) (m : Nat) : Prop where
  mem : ∀ x, x ∈ re ↔ x < n ∧ ∃ k, k ≤ m ∧ Way rs a x k
  nd : re.Nodup
  len : m < re.length
theorem toR_iff {rs : Rds} {k : Nat} {re : List Nat} : toR rs k re ≠ [] ↔ ∃ y ∈ re, Adj rs y k := by
  unfold toR
  rw [Ne, List.filter_eq_nil_iff]
  constructor
  · intro h
    obtain ⟨p, hp⟩ := Classical.not_forall.mp h
    rw [Classical.not_imp] at hp
    obtain ⟨h1, h2⟩ := hp
    have h2 := Classical.not_not.mp h2
    rw [Bool.and_eq_true, Bool.or_eq_true, decide_eq_true_iff, decide_eq_true_iff, decide_eq_true_iff] at h2
    obtain ⟨h3, h4⟩ := h2
    refine ⟨_, h4, ?_⟩
    rcases h3 with h3 | h3
    · rw [← h3, Nat.add_sub_cancel_left]
      exact .inr h1
    · rw [← h3, Nat.add_sub_cancel]
      exact .inl h1
  · rintro ⟨y, hy, e | e⟩ h
    · apply h _ e
      rw [Bool.and_eq_true, Bool.or_eq_true, decide_eq_true_iff, decide_eq_true_iff, decide_eq_true_iff]
      exact ⟨.inr rfl, by show y + k - k ∈ re; rw [Nat.add_sub_cancel]; exact hy⟩
    · apply h _ e
      rw [Bool.and_eq_true, Bool.or_eq_true, decide_eq_true_iff, decide_eq_true_iff, decide_eq_true_iff]
      exact ⟨.inl rfl, by show k + y - k ∈ re; rw [Nat.add_sub_cancel_left]; exact hy⟩
theorem more_iff {n : Nat} {rs : Rds} {re : List Nat} {x : Nat} : x ∈ moreR n rs re ↔ x < n ∧ x ∉ re ∧ ∃ y ∈ re, Adj rs y x := by
  unfold moreR
  rw [List.mem_filter, List.mem_range, Bool.and_eq_true, decide_eq_true_iff, ← toR_iff]
  simp
theorem way_lt {n : Nat} {rs : Rds} (hr : ∀ q ∈ rs, q.1 < n ∧ q.2 < n) {a x k : Nat} (ha : a < n) (w : Way rs a x k) : x < n := by
  cases w with
  | nil => exact ha
  | snoc _ e => exact (adj_lt hr e).2
theorem Rch.next {n : Nat} {rs : Rds} (hr : ∀ q ∈ rs, q.1 < n ∧ q.2 < n) {a : Nat} (ha : a < n) {re : List Nat} {m : Nat} (h : Rch n rs a re m) (hm : moreR n rs re ≠ []) : Rch n rs a (re ++ moreR n rs re) (m + 1) := by
  refine ⟨fun x => ?_, ?_, ?_⟩
  · rw [List.mem_append, more_iff, h.mem]
    constructor
    · rintro (⟨h1, k, h2, w⟩ | ⟨h1, _, y, hy, e⟩)
      · exact ⟨h1, k, by omega, w⟩
      · obtain ⟨_, k, h2, w⟩ := (h.mem y).mp hy
        exact ⟨h1, k + 1, by omega, w.snoc e⟩
    · rintro ⟨h1, k, h2, w⟩
      by_cases hk : ∃ k, k ≤ m ∧ Way rs a x k
      · exact .inl ⟨h1, hk⟩
      · refine .inr ⟨h1, fun hx => hk hx.2, ?_⟩
        cases w with
        | nil => exact absurd ⟨0, Nat.zero_le _, .nil⟩ hk
        | @snoc b c j w e =>
          exact ⟨b, (h.mem b).mpr ⟨way_lt hr ha w, j, by omega, w⟩, e⟩
  · rw [List.nodup_append]
    refine ⟨h.nd, List.Pairwise.filter _ List.nodup_range, fun x hx y hy => ?_⟩
    rw [more_iff] at hy
    exact fun e => hy.2.1 (e ▸ hx)
  · rw [List.length_append]
    have := h.len
    have : 0 < (moreR n rs re).length := List.length_pos_iff.mpr hm
    omega
theorem nodup_le : ∀ {n : Nat} {l : List Nat}, l.Nodup → (∀ x ∈ l, x < n) → l.length ≤ n
  | 0, [], _, _ => Nat.le_refl _
  | 0, a :: l, _, h => absurd (h a List.mem_cons_self) (Nat.not_lt_zero _)
  | n + 1, l, hn, h => by
    have h1 := nodup_le (n := n) (hn.erase n) fun x hx => by
      have h2 := h x (List.mem_of_mem_erase hx)
      have h3 : x ≠ n := fun e => by
        subst e
        exact hn.not_mem_erase hx
      omega
    have h4 := List.length_erase (a := n) (l := l)
    split at h4 <;> omega
theorem Rch.le {n : Nat} {rs : Rds} {a : Nat} {re : List Nat} {m : Nat} (h : Rch n rs a re m) : re.length ≤ n := nodup_le h.nd fun x hx => ((h.mem x).mp hx).1
end DL
end

section
set_option Elab.async false
set_option linter.all false
set_option maxRecDepth 100000
set_option maxHeartbeats 4000000
namespace DL
open PySem
/-! S2: the law's own distances, reports, lots of fires -/
end DL
end

section
set_option Elab.async false
set_option linter.all false
set_option maxRecDepth 100000
set_option maxHeartbeats 4000000
namespace DL
open PySem
/-! S3: the law's own reports and lots of fires -/
end DL
end

section
set_option Elab.async false
set_option linter.all false
set_option maxRecDepth 100000
set_option maxHeartbeats 4000000
namespace DL
open PySem
/-! S4: the law's own lots of fires -/
def toks (l : List Nat) : List (Int ⊕ List Nat) := PySem.W.keyToks (lotP l)
end DL
end

section
set_option Elab.async false
set_option linter.all false
set_option maxRecDepth 100000
set_option maxHeartbeats 4000000
namespace DL
open PySem
/-! S5: rows that may be told -/
theorem eq_strs (x y : Str) : eqD (.str x) (.str y) = some (decide (y = x)) := by
  have hb : ∀ a b : Str, (a == b) = decide (b = a) := fun a b => by
    rw [Bool.eq_iff_iff, beq_iff_eq, decide_eq_true_iff]
    exact eq_comm
  unfold eqD
  simp [toP, PyData.depth, PyData.eqv, hb]
/-- a closed value -/
def Val : D → Bool
  | .obj _ => false
  | .frl _ => false
  | .ins _ _ => false
  | _ => true
def valT : D → Tv
  | .bl b => .near b
  | .int i => .far (some i.toNat)
  | _ => .far none
structure RowOk (row : D) : Prop where
  v : Val row = true
  items : ∀ l, row = .tup l → l.length ≤ 1000 ∧ ∀ d ∈ l, Val d = true
theorem ne_lens (a b : Nat) : neD (.int (a : Int)) (.int (b : Int)) = some (!decide (a = b)) := by
  unfold neD
  rw [eq_ints]
  show some (!decide _) = _
  congr 2
  rw [decide_eq_decide]
  omega
end DL
end

section
set_option Elab.async false
set_option linter.all false
set_option maxRecDepth 100000
set_option maxHeartbeats 4000000
namespace DL
open PySem
/-! S6: the law's own judge of rows; rows that are drawn -/
theorem law_within_int (i lo hi : Int) (mu : Store) : f__law_within [.int i, .int lo, .int hi] mu = .ok (.bl (decide (lo ≤ i) && decide (i ≤ hi))) mu := by
  by_cases h1 : lo ≤ i <;> by_cases h2 : i ≤ hi <;> simp [f__law_within, g__law_within, dFun, sSeq, snext, sIf, sbind, sAsg, sRet, sSkip, sExpr, sPar, sSetI, sSetA, sAug, sFor, sTg, dVar, dC, dNil, dCons, dBind, obind, dTup, dLst, dFrz, MO.d, dReg, dFz, dOp1, dOp2, dCmp, dB2v, dTst, dAnd, dOr, dNot, dIf, dCall, dIx, dLook, lookD, dIsi, dIsi2, dIsC, dIn, dChn, dMut, lstOf, putO, dM1, tyOk, dNw1, dNw2, dSl, dP, dNoP, dIsN, dItQ, dItS, dRg1, dRg2, dEnum, dLc, dYes, noex, Tg.run, gSets, List.length_map, List.length_cons, List.length_nil, List.map_cons, List.map_nil, isiOk, isTy, leI, cmpI, h1, h2]
end DL
end

section
set_option Elab.async false
set_option linter.all false
set_option maxRecDepth 100000
set_option maxHeartbeats 4000000
namespace DL
open PySem
/-! S7: rows that are drawn, and others -/
/-- a thing in a row that is drawn -/
inductive Itm : D → Prop
  | non : Itm .non
  | bl (b : Bool) : Itm (.bl b)
  | int (i : Int) (h : i.natAbs ≤ 1000) : Itm (.int i)
  | str (x : Str) (h : x.length ≤ 100) : Itm (.str x)
theorem Itm.val {d : D} (h : Itm d) : Val d = true := by cases h <;> rfl
theorem Itm.toP {d : D} (h : Itm d) : ∃ p, toP d = some p := by cases h <;> exact ⟨_, rfl⟩
end DL
end

section
set_option Elab.async false
set_option linter.all false
set_option maxRecDepth 100000
set_option maxHeartbeats 4000000
namespace DL
open PySem
/-! S8: distances are few; other values in the place of a row's -/
end DL
end

section
set_option Elab.async false
set_option linter.all false
set_option maxRecDepth 100000
set_option maxHeartbeats 4000000
namespace DL
open PySem
/-! S9: reports told and refused -/
section
variable {fs : List Str} (rs : Rds) {d : D}
end
/-! the same, of the same kinds -/
theorem q_same {f : FF} {l : List D} {mu : Store} (hl : l.length ≤ 1000) (h : ∀ d ∈ l, f [d, d] mu = .ok (.bl true) mu) :
    q__law_same_1 f [some (.val (.tup l)), some (.val (.tup l)), none] mu = .ok (.lst []) mu := by
  have r1 : rgOk (l.length : Int) = true := rgOk_nat (by omega)
  have := lc_pure (src := dRg1 (dOp1 lenD (dLook (dVar 1)))) (g := .nm 2) (own := [2]) (c := dNot (dTst (dCall f (dCons (dIx (dVar 0) (dVar 2)) (dCons (dIx (dVar 1) (dVar 2)) dNil))))) (elt := dVar 2) (sl := [some (.val (.tup l)), some (.val (.tup l)), none]) (mu := mu) (ds := rangeD 0 l.length) (fun _ => none)
    (ev_rg1 rfl r1) (by rw [rangeD_len]; omega) (fun d hd => by
      rw [rangeD0] at hd
      obtain ⟨i, hi, rfl⟩ := List.mem_map.mp hd
      have hi' := List.mem_range.mp hi
      have e : ixD (.tup l) (.int (i : Int)) = some l[i] := ix_nat (l := l) (List.getElem?_eq_getElem hi')
      have e2 := h l[i] (List.getElem_mem hi')
      generalize l[i] = x at e e2
      exact ⟨_, rfl, .inr ⟨rfl, by simp [wipeS, dFun, sSeq, snext, sIf, sbind, sAsg, sRet, sSkip, sExpr, sPar, sSetI, sSetA, sAug, sFor, sTg, dVar, dC, dNil, dCons, dBind, obind, dTup, dLst, dFrz, MO.d, dReg, dFz, dOp1, dOp2, dCmp, dB2v, dTst, dAnd, dOr, dNot, dIf, dCall, dIx, dLook, dIsi, dIsi2, dIsC, dIn, dChn, dMut, lstOf, putO, dM1, tyOk, dNw1, dNw2, dSl, dP, dNoP, dIsN, dItQ, dItS, dRg1, dRg2, dEnum, dLc, dYes, noex, Tg.run, gSets, List.length_map, List.length_cons, List.length_nil, List.map_cons, List.map_nil, e, e2]⟩⟩)
  rw [show q__law_same_1 f = dLc (dRg1 (dOp1 lenD (dLook (dVar 1)))) (.nm 2) [2] (dNot (dTst (dCall f (dCons (dIx (dVar 0) (dVar 2)) (dCons (dIx (dVar 1) (dVar 2)) dNil))))) (dVar 2) from rfl, this]
  simp
theorem same_tup {n : Nat} {l : List D} {mu : Store} (hl : l.length ≤ 1000) (h : ∀ d ∈ l, f__law_same_at n [d, d] mu = .ok (.bl true) mu) : f__law_same_at (n + 1) [.tup l, .tup l] mu = .ok (.bl true) mu := by
  have hq := q_same hl h
  have n1 : lenD (.tup l) = some (.int (l.length : Int)) := rfl
  have n2 := ne_lens l.length l.length
  rw [decide_eq_true rfl] at n2
  have b1 := ne_bl true
  have b2 := ne_bl false
  have e0 : eqD (.lst []) (.lst []) = some true := by decide +kernel
  show dFun 3 (g__law_same (f__law_same_at n)) [.tup l, .tup l] mu = .ok (.bl true) mu
  generalize f__law_same_at n = f at hq ⊢
  simp [g__law_same, dFun, sSeq, snext, sIf, sbind, sAsg, sRet, sSkip, sExpr, sPar, sSetI, sSetA, sAug, sFor, sTg, dVar, dC, dNil, dCons, dBind, obind, dTup, dLst, dFrz, MO.d, dReg, dFz, dOp1, dOp2, dCmp, dB2v, dTst, dAnd, dOr, dNot, dIf, dCall, dIx, dLook, dIsi, dIsi2, dIsC, dIn, dChn, dMut, lstOf, putO, dM1, tyOk, dNw1, dNw2, dSl, dP, dNoP, dIsN, dItQ, dItS, dRg1, dRg2, dEnum, dLc, dYes, noex, Tg.run, gSets, List.length_map, List.length_cons, List.length_nil, List.map_cons, List.map_nil, isiOk, isTy, n1, n2, b1, b2, hq, e0]
end DL
end

section
set_option Elab.async false
set_option linter.all false
set_option maxRecDepth 100000
set_option maxHeartbeats 4000000
namespace DL
open PySem
/-! U1: the law's own gaps of rows -/
end DL
end

section
set_option Elab.async false
set_option linter.all false
set_option maxRecDepth 100000
set_option maxHeartbeats 4000000
namespace DL
open PySem
/-! U2: two for, evaluated -/
end DL
end

section
set_option Elab.async false
set_option linter.all false
set_option maxRecDepth 100000
set_option maxHeartbeats 4000000
namespace DL
open PySem
/-! U3: whether a thing is a lot, by the program and by the law -/
end DL
end

section
set_option Elab.async false
set_option linter.all false
set_option maxRecDepth 100000
set_option maxHeartbeats 4000000
namespace DL
open PySem
/-! U4: whether a thing is a lot, by the law -/
theorem toPL_of : ∀ {l : List D}, (∀ d ∈ l, ∃ p, toP d = some p) → ∃ ps, toPL l = some ps ∧ ps.length = l.length
  | [], _ => ⟨[], rfl, rfl⟩
  | d :: l, h => by
    obtain ⟨p, e1⟩ := h d List.mem_cons_self
    obtain ⟨ps, e2, e3⟩ := toPL_of fun x hx => h x (List.mem_cons_of_mem _ hx)
    exact ⟨p :: ps, by unfold toPL; rw [e1, e2], by simp [e3]⟩
theorem eq_nil {l : List D} (h : ∀ d ∈ l, ∃ p, toP d = some p) : eqD (.lst l) (.lst []) = some l.isEmpty := by
  obtain ⟨ps, e1, e2⟩ := toPL_of h
  unfold eqD DL.toP
  rw [e1]
  have h0 : toPL [] = some [] := rfl
  rw [h0]
  dsimp only [Option.map_some]
  have hd : (PyData.list ([] : List PyData)).depth = 1 := rfl
  rw [hd, if_pos (by omega)]
  cases l with
  | nil =>
    cases ps with
    | nil => rfl
    | cons _ _ => simp at e2
  | cons a l =>
    cases ps with
    | nil => simp at e2
    | cons _ _ => simp [PyData.eqv, PyData.eqvAll]
theorem ne_nil {l : List D} (h : ∀ d ∈ l, ∃ p, toP d = some p) : neD (.lst l) (.lst []) = some (!l.isEmpty) := by
  unfold neD
  rw [eq_nil h]
  rfl
end DL
end

section
set_option Elab.async false
set_option linter.all false
set_option maxRecDepth 100000
set_option maxHeartbeats 4000000
namespace DL
open PySem
/-! U5: fire lots of any kind -/
end DL
end

section
set_option Elab.async false
set_option linter.all false
set_option maxRecDepth 100000
set_option maxHeartbeats 4000000
namespace DL
open PySem
/-! U6: the program's fire lots of any kind -/
section
variable {fs : List Str} (rs : Rds)
end
end DL
end

section
set_option Elab.async false
set_option linter.all false
set_option maxRecDepth 100000
set_option maxHeartbeats 4000000
namespace DL
open PySem
/-! U7: a clash of any kind -/
section
variable {fs : List Str} (rs : Rds)
end
end DL
end

section
set_option Elab.async false
set_option linter.all false
set_option maxRecDepth 100000
set_option maxHeartbeats 4000000
namespace DL
open PySem
/-! U8: f_is_clash on three things of any kind -/
section
variable {fs : List Str} (rs : Rds)
end
end DL
end

section
set_option Elab.async false
set_option linter.all false
set_option maxRecDepth 100000
set_option maxHeartbeats 4000000
namespace DL
open PySem
/-! U9: f_is_clash on what is no triple -/
section
variable {fs : List Str} (rs : Rds)
end
end DL
end

section
set_option Elab.async false
set_option linter.all false
set_option maxRecDepth 100000
set_option maxHeartbeats 4000000
namespace DL
open PySem
/-! V1: the list of f__law_right_k05 -/
end DL
end

section
set_option Elab.async false
set_option linter.all false
set_option maxRecDepth 100000
set_option maxHeartbeats 4000000
namespace DL
open PySem
/-! V2: one turn of f__law_right_k05 -/
end DL
end

section
set_option Elab.async false
set_option linter.all false
set_option maxRecDepth 100000
set_option maxHeartbeats 4000000
namespace DL
open PySem
/-! V3: the loop of f__law_right_k05 -/
end DL
end

section
set_option Elab.async false
set_option linter.all false
set_option maxRecDepth 100000
set_option maxHeartbeats 4000000
namespace DL
open PySem
/-! V4: f__law_right_k05 on three things -/
end DL
end

section
set_option Elab.async false
set_option linter.all false
set_option maxRecDepth 100000
set_option maxHeartbeats 4000000
namespace DL
open PySem
/-! V5: f__law_right_k05 on two lots to burn and any row -/
end DL
end

section
set_option Elab.async false
set_option linter.all false
set_option maxRecDepth 100000
set_option maxHeartbeats 4000000
namespace DL
open PySem
/-! E1: statements one by one -/
theorem asg_ok {i : Nat} {f : EF} {sl : Sl} {mu mu' : Store} {d : D} (h : f sl mu = .ok d mu') : sAsg i f sl mu = .nx (sl.set i (some (.val d))) mu' := by
  unfold sAsg
  rw [h]
  rfl
theorem if_t {c : BF} {f g : EF} {sl : Sl} {mu m1 : Store} (h : c sl mu = .ok true m1) : dIf c f g sl mu = f sl m1 := by
  unfold dIf dBind
  rw [h]
  rfl
theorem if_f {c : BF} {f g : EF} {sl : Sl} {mu m1 : Store} (h : c sl mu = .ok false m1) : dIf c f g sl mu = g sl m1 := by
  unfold dIf dBind
  rw [h]
  rfl
theorem sif_t {c : BF} {f g : SF} {sl : Sl} {mu m1 : Store} (h : c sl mu = .ok true m1) : sIf c f g sl mu = f sl m1 := by
  unfold sIf
  rw [h]
  rfl
theorem sif_f {c : BF} {f g : SF} {sl : Sl} {mu m1 : Store} (h : c sl mu = .ok false m1) : sIf c f g sl mu = g sl m1 := by
  unfold sIf
  rw [h]
  rfl
theorem for_src {src : LF} {tgt : Tg} {body : SF} {sl : Sl} {mu m1 : Store} {ds : List D} (h : src sl mu = .ok ds m1) : sFor src tgt body sl mu = sForL tgt body ds sl m1 := by
  unfold sFor
  rw [h]
  rfl
theorem ret_ok {f : EF} {sl : Sl} {mu m1 : Store} {d : D} (h : f sl mu = .ok d m1) : sRet f sl mu = .rt d m1 := by
  unfold sRet
  rw [h]
  rfl
theorem seq_rt {s t : SF} {sl : Sl} {mu mu' : Store} {d : D} (h : s sl mu = .rt d mu') : sSeq s t sl mu = .rt d mu' := by
  unfold sSeq
  rw [h]
  rfl
theorem seq_ex {s t : SF} {sl sl' : Sl} {mu mu' : Store} {c : Nat} {fs : List (Str × D)} (h : s sl mu = .ex c fs sl' mu') : sSeq s t sl mu = .ex c fs sl' mu' := by
  unfold sSeq
  rw [h]
  rfl
theorem fun_rt {n : Nat} {g : SF} {args : List D} {mu mu' : Store} {d : D} (h : g (args.map (fun d => some (SV.val d)) ++ List.replicate (n - args.length) none) mu = .rt d mu') : dFun n g args mu = .ok d mu' := by
  unfold dFun
  rw [h]
theorem fun_ex {n : Nat} {g : SF} {args : List D} {sl' : Sl} {mu mu' : Store} {c : Nat} {fs : List (Str × D)} (h : g (args.map (fun d => some (SV.val d)) ++ List.replicate (n - args.length) none) mu = .ex c fs sl' mu') : dFun n g args mu = .ex c fs mu' := by
  unfold dFun
  rw [h]
theorem call2 {f : FF} {a b : EF} {sl : Sl} {mu m1 m2 : Store} {x y : D} (ha : a sl mu = .ok x m1) (hb : b sl m1 = .ok y m2) : dCall f (dCons a (dCons b dNil)) sl mu = f [x, y] m2 := by
  unfold dCall dCons dNil dBind
  rw [ha]
  dsimp only [obind]
  rw [hb]
end DL
end

section
set_option Elab.async false
set_option linter.all false
set_option maxRecDepth 100000
set_option maxHeartbeats 4000000
namespace DL
open PySem
/-! W1: things of any kind, bent anywhere -/
mutual
/-- of bounded size -/
def pl (b : Nat) : D → Bool
  | .non => true
  | .bl _ => true
  | .int i => decide (i.natAbs ≤ 1000 + b)
  | .str x => decide (x.length ≤ 100 + b)
  | .lst l => decide (l.length ≤ 100 + b) && plL b l
  | .tup l => decide (l.length ≤ 100 + b) && plL b l
  | .dct l => l.isEmpty
  | .ins _ _ => false
  | .obj _ => false
  | .frl _ => false
def plL (b : Nat) : List D → Bool
  | [] => true
  | d :: l => pl b d && plL b l
end
mutual
theorem pl_mono {b c : Nat} (h : b ≤ c) : ∀ {d : D}, pl b d = true → pl c d = true
  | .non, _ => rfl
  | .bl _, _ => rfl
  | .int i, e => by
    unfold pl at e ⊢
    have := of_decide_eq_true e
    exact decide_eq_true (by omega)
  | .str x, e => by
    unfold pl at e ⊢
    have := of_decide_eq_true e
    exact decide_eq_true (by omega)
  | .lst l, e => by
    unfold pl at e ⊢
    rw [Bool.and_eq_true] at e ⊢
    have := of_decide_eq_true e.1
    exact ⟨decide_eq_true (by omega), plL_mono h e.2⟩
  | .tup l, e => by
    unfold pl at e ⊢
    rw [Bool.and_eq_true] at e ⊢
    have := of_decide_eq_true e.1
    exact ⟨decide_eq_true (by omega), plL_mono h e.2⟩
  | .dct l, e => e
  | .ins _ _, e => by cases e
  | .obj _, e => by cases e
  | .frl _, e => by cases e
theorem plL_mono {b c : Nat} (h : b ≤ c) : ∀ {l : List D}, plL b l = true → plL c l = true
  | [], _ => rfl
  | d :: l, e => by
    unfold plL at e ⊢
    rw [Bool.and_eq_true] at e ⊢
    exact ⟨pl_mono h e.1, plL_mono h e.2⟩
end
end DL
end

section
set_option Elab.async false
set_option linter.all false
set_option maxRecDepth 100000
set_option maxHeartbeats 4000000
namespace DL
open PySem
/-! W2: bent anywhere -/
end DL
end

section
set_option Elab.async false
set_option linter.all false
set_option maxRecDepth 100000
set_option maxHeartbeats 4000000
namespace DL
open PySem
/-! W3: the law's own close pairs -/
section
variable {fs : List Str} {rs : Rds}
end
end DL
end

section
set_option Elab.async false
set_option linter.all false
set_option maxRecDepth 100000
set_option maxHeartbeats 4000000
namespace DL
open PySem
/-! W4: the order of lots; a mixed row may be told with both -/
end DL
end

section
set_option Elab.async false
set_option linter.all false
set_option maxRecDepth 100000
set_option maxHeartbeats 4000000
namespace DL
open PySem
/-! W5: the program's and the law's look at a clash agree on things of any kind -/
section
variable {fs : List Str} {rs : Rds}
end
end DL
end

section
set_option Elab.async false
set_option linter.all false
set_option maxRecDepth 100000
set_option maxHeartbeats 4000000
namespace DL
open PySem
/-! W6: the law k05: an inner turn -/
theorem pl_mus9 (p : Pot) {r : Store} (hr : Pl r) : Pl (mus p r) := mus_all hr
def sl5 (a0 x2 : Option SV) (rows : D) (x4 x5 x6 x7 x8 x9 : Option SV) (fs : List Str) (rs : Rds) (t : Tk) (ws : List Nat) (x15 : Option SV) (told : D) (x17 x18 : Option SV) : Sl :=
  [a0, some (.val (.obj 0)), x2, some (.val rows), x4, x5, x6, x7, x8, x9, some (.val (specD fs rs)), some (.val (.lst t.l)), some (.val (webD fs rs)), some (.val (tkD t)), some (.val (lotD ws)), x15, some (.val told), x17, x18, none, none, none, none, none]
section
variable {a0 x2 x4 x5 x6 x7 x8 x9 x15 x17 x18 : Option SV} {fs : List Str} {rs : Rds} {t : Tk} {r : Store} {ws : List Nat} {told : D}
end
end DL
end

section
set_option Elab.async false
set_option linter.all false
set_option maxRecDepth 100000
set_option maxHeartbeats 4000000
namespace DL
open PySem
/-! W7: the law k05: gaps, what is borne, what is spared, by the law's own lists -/
section
variable {a0 x2 x4 x5 x6 x7 x8 x9 x15 x17 x18 : Option SV} {fs : List Str} {rs : Rds} {t : Tk} {r : Store} {ws : List Nat} {told : D}
end
end DL
end

section
set_option Elab.async false
set_option linter.all false
set_option maxRecDepth 100000
set_option maxHeartbeats 4000000
namespace DL
open PySem
/-! W8: the law k05: what is refused -/
section
variable {a0 x2 x4 x5 x6 x7 x8 x9 x15 x17 x18 : Option SV} {fs : List Str} {rs : Rds} {t : Tk} {r : Store} {ws : List Nat} {told rows : D}
end
end DL
end

section
set_option Elab.async false
set_option linter.all false
set_option maxRecDepth 100000
set_option maxHeartbeats 4000000
namespace DL
open PySem
/-! W9: the law k05: the whole -/
section
variable {a0 x2 x3 x4 x5 x6 x7 x8 x9 x10 x11 x12 x13 x14 x15 x16 x17 x18 : Option SV} {fs : List Str} {rs : Rds} {t : Tk} {r : Store} {ws : List Nat} {told rows : D}
end
end DL
end

section
set_option Elab.async false
set_option linter.all false
set_option maxRecDepth 100000
set_option maxHeartbeats 4000000
namespace DL
open PySem
/-! X1: helpers, whether lots are close, more watchers -/
section
variable {fs : List Str} {rs : Rds} {t : Tk}
end
end DL
end

section
set_option Elab.async false
set_option linter.all false
set_option maxRecDepth 100000
set_option maxHeartbeats 4000000
namespace DL
open PySem
/-! X2: a bar of any kind, by the program -/
section
variable {fs : List Str} {rs : Rds} {t : Tk}
def S1 (fs : List Str) (rs : Rds) (t : Tk) (many : Nat) (ws : List Nat) (d : D) (x5 x6 x7 x8 x9 : Option SV) : Sl := [some (.val (webD fs rs)), some (.val (tkD t)), some (.val (.int (many : Int))), some (.val (lotD ws)), some (.val d), x5, x6, x7, x8, x9]
section
variable {many : Nat} {ws l m : List Nat} {w : Str} {a b : D} {r : List D} {x5 x6 x7 x8 x9 : Option SV} {mu : Store} {c : Nat}
theorem ifa_rt {c : BF} {f : EF} {g : SF} {sl : Sl} {mu m1 m2 : Store} {d : D} (h : c sl mu = .ok true m1) (k : f sl m1 = .ok d m2) : sSeq (sIf c (sRet f) sSkip) g sl mu = .rt d m2 := seq_rt ((sif_t h).trans (ret_ok k))
theorem ifa_nx {c : BF} {f : EF} {g : SF} {sl : Sl} {mu m1 : Store} (h : c sl mu = .ok false m1) : sSeq (sIf c (sRet f) sSkip) g sl mu = g sl m1 := seq_nx ((sif_f h).trans rfl)
end
end
end DL
end

section
set_option Elab.async false
set_option linter.all false
set_option maxRecDepth 100000
set_option maxHeartbeats 4000000
namespace DL
open PySem
/-! Y1: names: the two judges on any string -/
def nameB (x : Str) : Bool := decide (1 ≤ x.length) && decide (x.length ≤ 8) && (TL.tl x).all (fun c => decide (c ∈ TL.tl signs)) && !decide (x ∈ resv)
theorem tw_all {α : Type} {p : α → Bool} : ∀ {l : List α}, l.length ≤ (l.takeWhile p).length → ∀ a ∈ l, p a = true
  | [], _, a, h => by cases h
  | b :: l, h, a, ha => by
    rw [List.takeWhile_cons] at h
    by_cases hb : p b = true
    · rw [if_pos hb, List.length_cons, List.length_cons] at h
      rcases List.mem_cons.mp ha with rfl | ha
      · exact hb
      · exact tw_all (by omega) a ha
    · rw [if_neg hb, List.length_cons, List.length_nil] at h
      omega
theorem drop_tw {α : Type} (p : α → Bool) : ∀ l : List α, l.drop (l.takeWhile p).length = [] ∨ ∃ a r, l.drop (l.takeWhile p).length = a :: r ∧ p a = false
  | [] => .inl rfl
  | b :: l => by
    rw [List.takeWhile_cons]
    by_cases hb : p b = true
    · rw [if_pos hb, List.length_cons, List.drop_succ_cons]
      exact drop_tw p l
    · rw [if_neg hb]
      exact .inr ⟨b, l, rfl, by simpa using hb⟩
theorem strip_iff {x : Str} : Txt.stripChars x signs = "" ↔ ∀ c ∈ TL.tl x, c ∈ TL.tl signs := by
  constructor
  · intro h
    unfold Txt.stripChars at h
    rw [show Txt.stripBy signs.cps.contains true true x = W.stripped signs.cps.contains true true x from W.stripBy_eq x signs.cps.contains true true] at h
    have h2 := congrArg TL.tl h
    unfold W.stripped at h2
    dsimp only at h2
    rw [if_pos rfl, if_pos rfl, TL.tl_strSub] at h2
    have h2 : (List.take (x.length - ((List.drop ((TL.tl x).takeWhile signs.cps.contains).length (TL.tl x)).reverse.takeWhile signs.cps.contains).length - ((TL.tl x).takeWhile signs.cps.contains).length) (List.drop ((TL.tl x).takeWhile signs.cps.contains).length (TL.tl x))) = [] := h2
    rcases drop_tw signs.cps.contains (TL.tl x) with hd | ⟨a, r, hd, ha⟩
    · have hl : (TL.tl x).length ≤ ((TL.tl x).takeWhile signs.cps.contains).length := by
        have := congrArg List.length hd
        rw [List.length_drop, List.length_nil] at this
        omega
      intro c hc
      have := tw_all hl c hc
      simpa [TL.tl] using this
    · exfalso
      have hlen := congrArg List.length hd
      rw [List.length_drop, List.length_cons] at hlen
      rw [hd] at h2
      have hlt : ((a :: r).reverse.takeWhile signs.cps.contains).length < (a :: r).length := by
        refine Nat.lt_of_not_le fun hge => ?_
        have := tw_all (p := signs.cps.contains) (l := (a :: r).reverse) (by rw [List.length_reverse]; exact hge) a (by simp)
        rw [ha] at this
        cases this
      rw [List.length_cons] at hlt
      have h3 := congrArg List.length h2
      rw [List.length_take, List.length_cons, List.length_nil, TL.len_tl] at h3
      omega
  · intro h
    by_cases hp : 0 < x.length
    · have hg : ∀ c ∈ TL.tl x, signs.cps.contains c = true := fun c hc => by
        have := h c hc
        simpa using this
      have lo : stripLo signs.cps.contains true x = x.length := by
        unfold stripLo
        rw [if_pos rfl, takeWhile_all hg, TL.len_tl]
      unfold Txt.stripChars Txt.stripBy
      have hs : stripSame signs.cps.contains true true x = false := by
        unfold stripSame
        rw [lo]
        have : (x.length == 0) = false := by simp; omega
        rw [this]; rfl
      rw [hs, if_neg (by decide)]
      apply TL.ext_tl
      unfold stripped
      rw [lo, TL.tl_strSub, TL.len_tl, List.drop_length]
      simp
      rfl
    · have : x = "" := by
        apply TL.ext_tl
        have h0 : (TL.tl x).length = 0 := by rw [← TL.len_tl]; omega
        rw [List.length_eq_zero_iff.mp h0]
        rfl
      rw [this]
      rfl
theorem ne_strs (a b : Str) : neD (.str a) (.str b) = some (!decide (a = b)) := by
  unfold neD
  rw [eq_strs]
  show some (!decide (b = a)) = _
  congr 2
  exact decide_eq_decide.mpr ⟨Eq.symm, Eq.symm⟩
theorem le1_len (x : Str) : leI (.int 1) (.int (x.length : Int)) = some (decide (1 ≤ x.length)) := by
  show some (decide _) = some (decide _)
  congr 1
  exact decide_eq_decide.mpr (by omega)
theorem le8_len (x : Str) : leI (.int (x.length : Int)) (.int 8) = some (decide (x.length ≤ 8)) := by
  show some (decide _) = some (decide _)
  congr 1
  exact decide_eq_decide.mpr (by omega)
theorem is_name_any {x : Str} (hz : x.length ≤ 16000000) (mu : Store) : f_is_name [.str x] mu = .ok (.bl (nameB x)) mu := by
  have c1 := le1_len x
  have c2 := le8_len x
  have c0 : lenD (.str x) = some (.int (x.length : Int)) := if_pos hz
  have hi : inD (.str x) (.tup [.str "spot", .str "road", .str "over"]) = some (decide (x ∈ resv)) := in_resv x
  have hs : stripD (.str x) (.str "abcdefghijklmnopqrstuvwxyz") = some (.str (Txt.stripChars x signs)) := by
    unfold stripD
    dsimp only
    rw [if_pos hz]
    rfl
  have hn := ne_strs (Txt.stripChars x signs) ""
  have hall : decide (Txt.stripChars x signs = "") = (TL.tl x).all (fun c => decide (c ∈ TL.tl signs)) := by
    rw [Bool.eq_iff_iff, decide_eq_true_iff, strip_iff, List.all_eq_true]
    exact ⟨fun h c hc => decide_eq_true (h c hc), fun h c hc => of_decide_eq_true (h c hc)⟩
  rw [hall] at hn
  unfold nameB
  have hk : lookD mu (.str x) = .str x := rfl
  have ht : isiOk (.str x) = true := rfl
  have ht2 : isTy .str (.str x) = true := rfl
  generalize (TL.tl x).all (fun c => decide (c ∈ TL.tl signs)) = q2 at hn ⊢
  generalize decide (1 ≤ x.length) = p1 at c1 ⊢
  generalize decide (x.length ≤ 8) = p2 at c2 ⊢
  generalize Txt.stripChars x signs = z at hs hn
  generalize decide (x ∈ resv) = q3 at hi ⊢
  generalize (x.length : Int) = n at c0 c1 c2
  cases p1 with
  | false => simp [f_is_name, g_is_name, dFun, sSeq, snext, sIf, sbind, sAsg, sRet, sSkip, sExpr, sPar, sSetI, sSetA, sAug, sFor, sTg, dVar, dC, dNil, dCons, dBind, obind, dTup, dLst, dFrz, MO.d, dReg, dFz, dOp1, dOp2, dCmp, dB2v, dTst, dAnd, dOr, dNot, dIf, dCall, dIx, dLook, dIsi, dIsi2, dIsC, dIn, dChn, dMut, lstOf, putO, dM1, tyOk, dNw1, dNw2, dSl, dP, dNoP, dIsN, dItQ, dItS, dRg1, dRg2, dEnum, dLc, dYes, noex, Tg.run, gSets, List.length_map, List.length_cons, List.length_nil, List.map_cons, List.map_nil, hk, ht, ht2, c0, c1, c2]
  | true =>
    cases p2 with
    | false => simp [f_is_name, g_is_name, dFun, sSeq, snext, sIf, sbind, sAsg, sRet, sSkip, sExpr, sPar, sSetI, sSetA, sAug, sFor, sTg, dVar, dC, dNil, dCons, dBind, obind, dTup, dLst, dFrz, MO.d, dReg, dFz, dOp1, dOp2, dCmp, dB2v, dTst, dAnd, dOr, dNot, dIf, dCall, dIx, dLook, dIsi, dIsi2, dIsC, dIn, dChn, dMut, lstOf, putO, dM1, tyOk, dNw1, dNw2, dSl, dP, dNoP, dIsN, dItQ, dItS, dRg1, dRg2, dEnum, dLc, dYes, noex, Tg.run, gSets, List.length_map, List.length_cons, List.length_nil, List.map_cons, List.map_nil, hk, ht, ht2, c0, c1, c2]
    | true =>
      cases q2 with
      | false => simp [f_is_name, g_is_name, dFun, sSeq, snext, sIf, sbind, sAsg, sRet, sSkip, sExpr, sPar, sSetI, sSetA, sAug, sFor, sTg, dVar, dC, dNil, dCons, dBind, obind, dTup, dLst, dFrz, MO.d, dReg, dFz, dOp1, dOp2, dCmp, dB2v, dTst, dAnd, dOr, dNot, dIf, dCall, dIx, dLook, dIsi, dIsi2, dIsC, dIn, dChn, dMut, lstOf, putO, dM1, tyOk, dNw1, dNw2, dSl, dP, dNoP, dIsN, dItQ, dItS, dRg1, dRg2, dEnum, dLc, dYes, noex, Tg.run, gSets, List.length_map, List.length_cons, List.length_nil, List.map_cons, List.map_nil, hk, ht, ht2, c0, c1, c2, hs, hn]
      | true => simp [f_is_name, g_is_name, dFun, sSeq, snext, sIf, sbind, sAsg, sRet, sSkip, sExpr, sPar, sSetI, sSetA, sAug, sFor, sTg, dVar, dC, dNil, dCons, dBind, obind, dTup, dLst, dFrz, MO.d, dReg, dFz, dOp1, dOp2, dCmp, dB2v, dTst, dAnd, dOr, dNot, dIf, dCall, dIx, dLook, dIsi, dIsi2, dIsC, dIn, dChn, dMut, lstOf, putO, dM1, tyOk, dNw1, dNw2, dSl, dP, dNoP, dIsN, dItQ, dItS, dRg1, dRg2, dEnum, dLc, dYes, noex, Tg.run, gSets, List.length_map, List.length_cons, List.length_nil, List.map_cons, List.map_nil, hk, ht, ht2, c0, c1, c2, hs, hn, hi]
theorem filter_len {α : Type} (p : α → Bool) : ∀ l : List α, (l.filter p).length = l.length ↔ l.all p = true
  | [] => by simp
  | a :: l => by
    have ih := filter_len p l
    have hle := List.length_filter_le p l
    by_cases h : p a = true
    · rw [List.filter_cons_of_pos h, List.length_cons, List.length_cons, List.all_cons, h, Bool.true_and, ← ih]
      omega
    · rw [List.filter_cons_of_neg h, List.length_cons, List.all_cons, show p a = false by simpa using h, Bool.false_and]
      constructor
      · intro e; omega
      · intro e; cases e
theorem law_name_any {x : Str} (hz : x.length ≤ 16000000) (mu : Store) : f__law_is_name [.str x] mu = .ok (.bl (nameB x)) mu := by
  have c1 := le1_len x
  have c2 := le8_len x
  have c0 : lenD (.str x) = some (.int (x.length : Int)) := if_pos hz
  have hi : inD (.str x) (.tup [.str "spot", .str "road", .str "over"]) = some (decide (x ∈ resv)) := in_resv x
  have hk : lookD mu (.str x) = .str x := rfl
  have ht : isiOk (.str x) = true := rfl
  have ht2 : isTy .str (.str x) = true := rfl
  have hkt : lookD mu (.tup [.str "spot", .str "road", .str "over"]) = .tup [.str "spot", .str "road", .str "over"] := rfl
  unfold nameB
  by_cases h1 : (decide (1 ≤ x.length) && decide (x.length ≤ 8)) = true
  · have hle : x.length ≤ 8 := by
      rw [Bool.and_eq_true] at h1
      exact of_decide_eq_true h1.2
    have hq : q__law_is_name_1 [some (.val (.str x)), none] mu = .ok (.lst (((TL.tl x).filter fun c => decide (c ∈ TL.tl signs)).map fun c => D.str (sg c))) mu :=
      lc_filter (src := dItS (dVar 0)) (g := .nm 1) (own := [1]) (c := dIn false (dVar 1) (dLook (dC (.str "abcdefghijklmnopqrstuvwxyz")))) (elt := dVar 1) (sl := [some (.val (.str x)), none]) (mu := mu) (ls := TL.tl x) (fun c => D.str (sg c)) (fun c => decide (c ∈ TL.tl signs)) rfl (by rw [← TL.len_tl]; omega) (fun c hc => by
        refine ⟨_, rfl, ?_, fun _ => rfl⟩
        have e := signs_in c
        have e : inD (.str (sg c)) (.str "abcdefghijklmnopqrstuvwxyz") = some (decide (c ∈ TL.tl signs)) := e
        have hkk : lookD mu (.str "abcdefghijklmnopqrstuvwxyz") = .str "abcdefghijklmnopqrstuvwxyz" := rfl
        generalize decide (c ∈ TL.tl signs) = q at e ⊢
        generalize D.str "abcdefghijklmnopqrstuvwxyz" = z at e hkk ⊢
        simp [wipeS, dFun, sSeq, snext, sIf, sbind, sAsg, sRet, sSkip, sExpr, sPar, sSetI, sSetA, sAug, sFor, sTg, dVar, dC, dNil, dCons, dBind, obind, dTup, dLst, dFrz, MO.d, dReg, dFz, dOp1, dOp2, dCmp, dB2v, dTst, dAnd, dOr, dNot, dIf, dCall, dIx, dLook, dIsi, dIsi2, dIsC, dIn, dChn, dMut, lstOf, putO, dM1, tyOk, dNw1, dNw2, dSl, dP, dNoP, dIsN, dItQ, dItS, dRg1, dRg2, dEnum, dLc, dYes, noex, Tg.run, gSets, List.length_map, List.length_cons, List.length_nil, List.map_cons, List.map_nil, hkk, e])
    have hl1 : lenD (.str x) = some (.int ((TL.tl x).length : Int)) := by rw [← TL.len_tl]; exact if_pos hz
    have hfl := filter_len (fun c => decide (c ∈ TL.tl signs)) (TL.tl x)
    have hl2 : lenD (.lst (((TL.tl x).filter fun c => decide (c ∈ TL.tl signs)).map fun c => D.str (sg c))) = some (.int (((TL.tl x).filter fun c => decide (c ∈ TL.tl signs)).length : Int)) := by
      show some (D.int ((List.map _ _).length : Int)) = _
      rw [List.length_map]
    have he := eq_ints ((((TL.tl x).filter fun c => decide (c ∈ TL.tl signs)).length : Nat) : Int) (((TL.tl x).length : Nat) : Int)
    have hd : decide (((((TL.tl x).filter fun c => decide (c ∈ TL.tl signs)).length : Nat) : Int) = (((TL.tl x).length : Nat) : Int)) = (TL.tl x).all (fun c => decide (c ∈ TL.tl signs)) := by
      rw [Bool.eq_iff_iff, decide_eq_true_iff, ← hfl]
      omega
    rw [hd] at he
    rw [h1]
    rw [Bool.and_eq_true] at h1
    rw [h1.1] at c1
    rw [h1.2] at c2
    have hkl : ∀ l, lookD mu (.lst l) = .lst l := fun _ => rfl
    rw [hl1] at c0
    have c0 := Option.some.inj c0
    rw [← c0] at c1 c2
    generalize (TL.tl x).all (fun c => decide (c ∈ TL.tl signs)) = q2 at he ⊢
    generalize ((((TL.tl x).filter fun c => decide (c ∈ TL.tl signs)).length : Nat) : Int) = n1 at hl2 he
    generalize (((TL.tl x).filter fun c => decide (c ∈ TL.tl signs)).map fun c => D.str (sg c)) = ls at hq hl2
    generalize (((TL.tl x).length : Nat) : Int) = n2 at hl1 he c1 c2
    generalize decide (x ∈ resv) = q3 at hi ⊢
    clear c0
    generalize D.str x = d at *
    cases q3 with
    | true => simp [f__law_is_name, g__law_is_name, dFun, sSeq, snext, sIf, sbind, sAsg, sRet, sSkip, sExpr, sPar, sSetI, sSetA, sAug, sFor, sTg, dVar, dC, dNil, dCons, dBind, obind, dTup, dLst, dFrz, MO.d, dReg, dFz, dOp1, dOp2, dCmp, dB2v, dTst, dAnd, dOr, dNot, dIf, dCall, dIx, dLook, dIsi, dIsi2, dIsC, dIn, dChn, dMut, lstOf, putO, dM1, tyOk, dNw1, dNw2, dSl, dP, dNoP, dIsN, dItQ, dItS, dRg1, dRg2, dEnum, dLc, dYes, noex, Tg.run, gSets, List.length_map, List.length_cons, List.length_nil, List.map_cons, List.map_nil, hk, ht, ht2, hl1, c1, c2, hi, hkt]
    | false => simp [f__law_is_name, g__law_is_name, dFun, sSeq, snext, sIf, sbind, sAsg, sRet, sSkip, sExpr, sPar, sSetI, sSetA, sAug, sFor, sTg, dVar, dC, dNil, dCons, dBind, obind, dTup, dLst, dFrz, MO.d, dReg, dFz, dOp1, dOp2, dCmp, dB2v, dTst, dAnd, dOr, dNot, dIf, dCall, dIx, dLook, dIsi, dIsi2, dIsC, dIn, dChn, dMut, lstOf, putO, dM1, tyOk, dNw1, dNw2, dSl, dP, dNoP, dIsN, dItQ, dItS, dRg1, dRg2, dEnum, dLc, dYes, noex, Tg.run, gSets, List.length_map, List.length_cons, List.length_nil, List.map_cons, List.map_nil, hk, ht, ht2, c1, c2, hi, hq, hkt, hkl, hl1, hl2, he]
  · have h1 : (decide (1 ≤ x.length) && decide (x.length ≤ 8)) = false := by simpa using h1
    rw [h1]
    generalize decide (1 ≤ x.length) = p1 at c1 h1
    generalize decide (x.length ≤ 8) = p2 at c2 h1
    generalize (x.length : Int) = n at c0 c1 c2
    generalize D.str x = d at *
    cases p1 with
    | false => simp [f__law_is_name, g__law_is_name, dFun, sSeq, snext, sIf, sbind, sAsg, sRet, sSkip, sExpr, sPar, sSetI, sSetA, sAug, sFor, sTg, dVar, dC, dNil, dCons, dBind, obind, dTup, dLst, dFrz, MO.d, dReg, dFz, dOp1, dOp2, dCmp, dB2v, dTst, dAnd, dOr, dNot, dIf, dCall, dIx, dLook, dIsi, dIsi2, dIsC, dIn, dChn, dMut, lstOf, putO, dM1, tyOk, dNw1, dNw2, dSl, dP, dNoP, dIsN, dItQ, dItS, dRg1, dRg2, dEnum, dLc, dYes, noex, Tg.run, gSets, List.length_map, List.length_cons, List.length_nil, List.map_cons, List.map_nil, hk, ht, ht2, c0, c1, c2]
    | true =>
      cases p2 with
      | false => simp [f__law_is_name, g__law_is_name, dFun, sSeq, snext, sIf, sbind, sAsg, sRet, sSkip, sExpr, sPar, sSetI, sSetA, sAug, sFor, sTg, dVar, dC, dNil, dCons, dBind, obind, dTup, dLst, dFrz, MO.d, dReg, dFz, dOp1, dOp2, dCmp, dB2v, dTst, dAnd, dOr, dNot, dIf, dCall, dIx, dLook, dIsi, dIsi2, dIsC, dIn, dChn, dMut, lstOf, putO, dM1, tyOk, dNw1, dNw2, dSl, dP, dNoP, dIsN, dItQ, dItS, dRg1, dRg2, dEnum, dLc, dYes, noex, Tg.run, gSets, List.length_map, List.length_cons, List.length_nil, List.map_cons, List.map_nil, hk, ht, ht2, c0, c1, c2]
      | true => cases h1
end DL
end

section
set_option Elab.async false
set_option linter.all false
set_option maxRecDepth 100000
set_option maxHeartbeats 4000000
namespace DL
open PySem
/-! Y2: what is wrong with the parts of a web, by the program and by the law -/
theorem addK_fold {κ : Type} [DecidableEq κ] : ∀ (ks acc : List κ), acc.Nodup → ((ks.foldl addK acc).length ≤ acc.length + ks.length ∧ ((ks.foldl addK acc).length = acc.length + ks.length ↔ (acc ++ ks).Nodup))
  | [], acc, h => by
    rw [List.append_nil]
    exact ⟨Nat.le_refl _, fun _ => h, fun _ => rfl⟩
  | k :: ks, acc, h => by
    rw [List.foldl_cons, List.length_cons]
    by_cases hk : k ∈ acc
    · rw [show addK acc k = acc from if_pos hk]
      obtain ⟨h1, h2⟩ := addK_fold ks acc h
      refine ⟨by omega, fun e => by omega, fun hn => ?_⟩
      exfalso
      rw [List.nodup_append] at hn
      exact hn.2.2 k hk k List.mem_cons_self rfl
    · rw [show addK acc k = acc ++ [k] from if_neg hk]
      have hn : (acc ++ [k]).Nodup := by
        rw [List.nodup_append]
        refine ⟨h, by simp, fun a ha b hb e => ?_⟩
        have : b = k := by simpa using hb
        rw [e, this] at ha
        exact hk ha
      obtain ⟨h1, h2⟩ := addK_fold ks (acc ++ [k]) hn
      rw [List.length_append, List.length_singleton] at h1 h2
      rw [List.append_assoc, List.singleton_append] at h2
      refine ⟨by omega, ?_⟩
      rw [← h2]
      omega
theorem distL_iff {κ : Type} [DecidableEq κ] (ks : List κ) : (distL ks).length = ks.length ↔ ks.Nodup := by
  have := (addK_fold ks [] List.nodup_nil).2
  rw [List.length_nil, Nat.zero_add, List.nil_append] at this
  exact this
theorem distL_le {κ : Type} [DecidableEq κ] (ks : List κ) : (distL ks).length ≤ ks.length := by
  have := (addK_fold ks [] List.nodup_nil).1
  rw [List.length_nil, Nat.zero_add] at this
  exact this
theorem putK_keys {κ : Type} [DecidableEq κ] (kvs : List (κ × L2.V)) (k : κ) (v : L2.V) : (L2.putK kvs k v).map (·.1) = addK (kvs.map (·.1)) k := by
  unfold L2.putK addK
  by_cases h : (kvs.any fun kv => decide (kv.1 = k)) = true
  · have hk : k ∈ kvs.map (·.1) := by
      obtain ⟨kv, h1, h2⟩ := List.any_eq_true.mp h
      exact List.mem_map.mpr ⟨kv, h1, of_decide_eq_true h2⟩
    rw [if_pos h, if_pos hk, List.map_map]
    refine List.map_congr_left fun kv _ => ?_
    show (if kv.1 = k then (kv.1, v) else kv).1 = kv.1
    split <;> rfl
  · have hk : k ∉ kvs.map (·.1) := fun hm => by
      obtain ⟨kv, h1, h2⟩ := List.mem_map.mp hm
      exact h (List.any_eq_true.mpr ⟨kv, h1, decide_eq_true h2⟩)
    rw [if_neg h, if_neg hk, List.map_append]
    rfl
theorem kvs_dist {κ : Type} [DecidableEq κ] (ks : List κ) : (kvsOf ks ks.length).length = (distL ks).length := by
  have key : ∀ (l : List κ) (acc : List (κ × L2.V)), (l.foldl (fun acc k => L2.putK acc k (.bl true)) acc).map (·.1) = l.foldl addK (acc.map (·.1)) := by
    intro l
    induction l with
    | nil => intro acc; rfl
    | cons k l ih =>
      intro acc
      rw [List.foldl_cons, List.foldl_cons, ih, putK_keys]
  unfold kvsOf
  rw [List.take_length, ← List.length_map (f := (·.1)), key]
  rfl
theorem nodup_inr {l : List Str} : (l.map (Sum.inr : Str → L2.Key)).Nodup ↔ l.Nodup := by
  rw [List.Nodup, List.pairwise_map]
  exact ⟨fun h => h.imp fun {a b} hab e => hab (by rw [e]), fun h => h.imp fun {a b} hab e => hab (Sum.inr.inj e)⟩
theorem pK_inj {a b : Nat × Nat} (e : pK a = pK b) : a = b := by
  unfold pK at e
  simp only [List.cons.injEq, Sum.inl.injEq, and_true] at e
  exact Prod.ext (by exact_mod_cast e.1) (by exact_mod_cast e.2)
theorem nodup_pK {l : List (Nat × Nat)} : (l.map pK).Nodup ↔ l.Nodup := by
  rw [List.Nodup, List.pairwise_map]
  exact ⟨fun h => h.imp fun {a b} hab e => hab (by rw [e]), fun h => h.imp fun {a b} hab e => hab (pK_inj e)⟩
/-! ### twice -/
theorem unlike_strsA (l : List Str) : unlikeD (.lst (l.map D.str)) = some (.int ((distL (l.map (Sum.inr : Str → L2.Key))).length : Nat)) := by
  unfold unlikeD unlike
  dsimp only
  rw [keys_strs]
  dsimp only
  rw [kvs_dist]
  rfl
theorem unlike_prsA (l : List (Nat × Nat)) : unlikeD (.lst (l.map pD)) = some (.int ((distL (l.map pK)).length : Nat)) := by
  unfold unlikeD unlike
  cases l with
  | nil => rfl
  | cons p l =>
    dsimp only
    have e : allSome keyD ((p :: l).map pD) = none := rfl
    rw [e, keys_prs]
    dsimp only
    rw [kvs_dist]
    rfl
theorem no_twice_strsA (l : List Str) (mu : Store) : f_have_no_twice [.lst (l.map D.str)] mu = .ok (.bl (decide l.Nodup)) mu := by
  have h1 := unlike_strsA l
  have h2 : lenD (.lst (l.map D.str)) = some (.int (l.length : Int)) := by
    show some (D.int ((l.map D.str).length : Int)) = _
    rw [List.length_map]
  have h3 := eq_ints (((distL (l.map (Sum.inr : Str → L2.Key))).length : Nat) : Int) (l.length : Int)
  have hd : decide ((((distL (l.map (Sum.inr : Str → L2.Key))).length : Nat) : Int) = (l.length : Int)) = decide l.Nodup := by
    apply decide_eq_decide.mpr
    have := distL_iff (l.map (Sum.inr : Str → L2.Key))
    rw [List.length_map, nodup_inr] at this
    rw [← this]
    omega
  rw [hd] at h3
  have hk : lookD mu (.lst (l.map D.str)) = .lst (l.map D.str) := rfl
  generalize (((distL (l.map (Sum.inr : Str → L2.Key))).length : Nat) : Int) = n at h1 h3
  generalize decide l.Nodup = q at h3 ⊢
  generalize D.lst (l.map D.str) = d at *
  simp [f_have_no_twice, g_have_no_twice, dFun, sSeq, snext, sIf, sbind, sAsg, sRet, sSkip, sExpr, sPar, sSetI, sSetA, sAug, sFor, sTg, dVar, dC, dNil, dCons, dBind, obind, dTup, dLst, dFrz, MO.d, dReg, dFz, dOp1, dOp2, dCmp, dB2v, dTst, dAnd, dOr, dNot, dIf, dCall, dIx, dLook, dIsi, dIsi2, dIsC, dIn, dChn, dMut, lstOf, putO, dM1, tyOk, dNw1, dNw2, dSl, dP, dNoP, dIsN, dItQ, dItS, dRg1, dRg2, dEnum, dLc, dYes, noex, Tg.run, gSets, List.length_map, List.length_cons, List.length_nil, List.map_cons, List.map_nil, h1, hk, h2, h3]
theorem no_twice_prsA (l : List (Nat × Nat)) (mu : Store) : f_have_no_twice [.lst (l.map pD)] mu = .ok (.bl (decide l.Nodup)) mu := by
  have h1 := unlike_prsA l
  have h2 : lenD (.lst (l.map pD)) = some (.int (l.length : Int)) := by
    show some (D.int ((l.map pD).length : Int)) = _
    rw [List.length_map]
  have h3 := eq_ints (((distL (l.map pK)).length : Nat) : Int) (l.length : Int)
  have hd : decide ((((distL (l.map pK)).length : Nat) : Int) = (l.length : Int)) = decide l.Nodup := by
    apply decide_eq_decide.mpr
    have := distL_iff (l.map pK)
    rw [List.length_map, nodup_pK] at this
    rw [← this]
    omega
  rw [hd] at h3
  have hk : lookD mu (.lst (l.map pD)) = .lst (l.map pD) := rfl
  generalize (((distL (l.map pK)).length : Nat) : Int) = n at h1 h3
  generalize decide l.Nodup = q at h3 ⊢
  generalize D.lst (l.map pD) = d at *
  simp [f_have_no_twice, g_have_no_twice, dFun, sSeq, snext, sIf, sbind, sAsg, sRet, sSkip, sExpr, sPar, sSetI, sSetA, sAug, sFor, sTg, dVar, dC, dNil, dCons, dBind, obind, dTup, dLst, dFrz, MO.d, dReg, dFz, dOp1, dOp2, dCmp, dB2v, dTst, dAnd, dOr, dNot, dIf, dCall, dIx, dLook, dIsi, dIsi2, dIsC, dIn, dChn, dMut, lstOf, putO, dM1, tyOk, dNw1, dNw2, dSl, dP, dNoP, dIsN, dItQ, dItS, dRg1, dRg2, dEnum, dLc, dYes, noex, Tg.run, gSets, List.length_map, List.length_cons, List.length_nil, List.map_cons, List.map_nil, h1, hk, h2, h3]
theorem fst_strs : ∀ l : List Str, allSome fstK (l.map fun x => D.tup [.str x, .int 0]) = some (l.map D.str)
  | [] => rfl
  | x :: l => by
    rw [List.map_cons]
    unfold allSome
    rw [fst_strs l]
    rfl
theorem fst_prs : ∀ l : List (Nat × Nat), allSome fstK (l.map fun x => D.tup [pD x, .int 0]) = some (l.map pD)
  | [] => rfl
  | x :: l => by
    rw [List.map_cons]
    unfold allSome
    rw [fst_prs l]
    rfl
theorem unlikeP_strs (l : List Str) : unlikeP (.lst (l.map fun x => D.tup [.str x, .int 0])) = some (.int ((distL (l.map (Sum.inr : Str → L2.Key))).length : Nat)) := by
  unfold unlikeP
  dsimp only
  rw [fst_strs]
  dsimp only
  rw [keys_strs]
theorem unlikeP_prs (l : List (Nat × Nat)) : unlikeP (.lst (l.map fun x => D.tup [pD x, .int 0])) = some (.int ((distL (l.map pK)).length : Nat)) := by
  unfold unlikeP
  dsimp only
  rw [fst_prs]
  cases l with
  | nil => rfl
  | cons p l =>
    dsimp only
    have e : allSome keyD ((p :: l).map pD) = none := rfl
    rw [e, keys_prs]
/-! ### faults -/
def faultT (fs : List Str) (qs : List (Nat × Nat)) : Option Str :=
  if fs.length ≤ 9 ∧ fs.Nodup then (if (∀ q ∈ qs, q.1 < q.2) ∧ qs.Nodup then none else some "roads") else some "spots"
theorem faultT_web {fs : List Str} {qs : List (Nat × Nat)} (hf : ∀ x ∈ fs, nameB x = true) (h1 : 1 ≤ fs.length) (hq : ∀ q ∈ qs, q.1 ≤ q.2 ∧ q.2 < fs.length) (h : faultT fs qs = none) : Web fs qs := by
  unfold faultT at h
  by_cases ha : fs.length ≤ 9 ∧ fs.Nodup
  · rw [if_pos ha] at h
    by_cases hb : (∀ q ∈ qs, q.1 < q.2) ∧ qs.Nodup
    · refine ⟨⟨fun x hx => ?_, ha.2, ha.1⟩, h1, hb.2, fun q hq' => ⟨hb.1 q hq', (hq q hq').2⟩, ?_⟩
      · have hn := hf x hx
        unfold nameB at hn
        simp only [Bool.and_eq_true, decide_eq_true_iff, List.all_eq_true, Bool.not_eq_true', decide_eq_false_iff_not] at hn
        exact ⟨⟨fun c hc => hn.1.2 c hc, by omega, by omega⟩, hn.2⟩
      · have := hb.2.length_le_of_subset (l₂ := pairs fs.length) fun q hq' => mem_pairs.mpr ⟨hb.1 q hq', (hq q hq').2⟩
        have h2 := pairs_len ha.1
        omega
    · rw [if_neg hb] at h
      cases h
  · rw [if_neg ha] at h
    cases h
end DL
end

section
set_option Elab.async false
set_option linter.all false
set_option maxRecDepth 100000
set_option maxHeartbeats 4000000
namespace DL
open PySem
/-! Y3: a web's making refused, and what the law says of the parts -/
section
variable {fs : List Str} {qs : List (Nat × Nat)}
theorem le1_n (n : Nat) : leI (.int 1) (.int (n : Int)) = some (decide (1 ≤ n)) := by
  show some (decide _) = some (decide _)
  congr 1
  exact decide_eq_decide.mpr (by omega)
theorem le9_n (n : Nat) : leI (.int (n : Int)) (.int 9) = some (decide (n ≤ 9)) := by
  show some (decide _) = some (decide _)
  congr 1
  exact decide_eq_decide.mpr (by omega)
theorem nb_len {x : Str} (h : nameB x = true) : 1 ≤ x.length ∧ x.length ≤ 8 := by
  unfold nameB at h
  simp only [Bool.and_eq_true, decide_eq_true_iff] at h
  exact h.1.1
theorem lenL {α : Type} (e : α → D) (l : List α) : lenD (.lst (l.map e)) = some (.int (l.length : Int)) := by
  show some (D.int ((l.map e).length : Int)) = _
  rw [List.length_map]
theorem lenT {α : Type} (e : α → D) (l : List α) : lenD (.tup (l.map e)) = some (.int (l.length : Int)) := by
  show some (D.int ((l.map e).length : Int)) = _
  rw [List.length_map]
theorem are_spotsA (hf : ∀ x ∈ fs, nameB x = true) (h1 : 1 ≤ fs.length) (hz : fs.length ≤ 100000) (mu : Store) : f_are_spots [.lst (fs.map D.str)] mu = .ok (.bl (decide (fs.length ≤ 9 ∧ fs.Nodup))) mu := by
  have e1 : f_is_listed [.lst (fs.map D.str)] mu = .ok (.bl true) mu := by simp [f_is_listed, g_is_listed, dFun, sSeq, snext, sIf, sbind, sAsg, sRet, sSkip, sExpr, sPar, sSetI, sSetA, sAug, sFor, sTg, dVar, dC, dNil, dCons, dBind, obind, dTup, dLst, dFrz, MO.d, dReg, dFz, dOp1, dOp2, dCmp, dB2v, dTst, dAnd, dOr, dNot, dIf, dCall, dIx, dLook, lookD, dIsi, dIsi2, dIsC, dIn, dChn, dMut, lstOf, putO, dM1, tyOk, dNw1, dNw2, dSl, dP, dNoP, dIsN, dItQ, dItS, dRg1, dRg2, dEnum, dLc, dYes, noex, Tg.run, gSets, List.length_map, List.length_cons, List.length_nil, List.map_cons, List.map_nil, isiOk, isTy]
  have hq : q_are_spots_1 [some (.val (.lst (fs.map D.str))), none] mu = .ok (.lst (fs.map fun _ => D.bl true)) mu :=
    lc_mapA (src := dItQ (dVar 0)) (g := .nm 1) (own := [1]) (elt := dCall f_is_name (dCons (dVar 1) dNil)) (sl := [some (.val (.lst (fs.map D.str))), none]) (mu := mu) (ls := fs) D.str (fun _ => .bl true) rfl (by omega) (fun x hx => by
      have e := is_name_any (x := x) (by have := nb_len (hf x hx); omega) mu
      rw [hf x hx] at e
      exact ⟨_, rfl, by simp [wipeS, dFun, sSeq, snext, sIf, sbind, sAsg, sRet, sSkip, sExpr, sPar, sSetI, sSetA, sAug, sFor, sTg, dVar, dC, dNil, dCons, dBind, obind, dTup, dLst, dFrz, MO.d, dReg, dFz, dOp1, dOp2, dCmp, dB2v, dTst, dAnd, dOr, dNot, dIf, dCall, dIx, dLook, dIsi, dIsi2, dIsC, dIn, dChn, dMut, lstOf, putO, dM1, tyOk, dNw1, dNw2, dSl, dP, dNoP, dIsN, dItQ, dItS, dRg1, dRg2, dEnum, dLc, dYes, noex, Tg.run, gSets, List.length_map, List.length_cons, List.length_nil, List.map_cons, List.map_nil, e]⟩)
  have ha : allD (.lst (fs.map fun _ => D.bl true)) = some (.bl true) := by
    have := all_true (fs.map D.str)
    rw [List.map_map] at this
    exact this
  have hk : ∀ l, lookD mu (.lst l) = .lst l := fun _ => rfl
  have hl := lenL D.str fs
  have l1 := le1_n fs.length
  rw [decide_eq_true h1] at l1
  have l9 := le9_n fs.length
  have hn := no_twice_strsA fs mu
  by_cases hc : fs.length ≤ 9
  · rw [decide_eq_true hc] at l9
    have : decide (fs.length ≤ 9 ∧ fs.Nodup) = decide fs.Nodup := decide_eq_decide.mpr ⟨fun h => h.2, fun h => ⟨hc, h⟩⟩
    rw [this]
    generalize decide fs.Nodup = q at hn ⊢
    generalize (fs.map fun _ => D.bl true) = r at hq ha
    generalize fs.map D.str = l at *
    simp [f_are_spots, g_are_spots, dFun, sSeq, snext, sIf, sbind, sAsg, sRet, sSkip, sExpr, sPar, sSetI, sSetA, sAug, sFor, sTg, dVar, dC, dNil, dCons, dBind, obind, dTup, dLst, dFrz, MO.d, dReg, dFz, dOp1, dOp2, dCmp, dB2v, dTst, dAnd, dOr, dNot, dIf, dCall, dIx, dLook, dIsi, dIsi2, dIsC, dIn, dChn, dMut, lstOf, putO, dM1, tyOk, dNw1, dNw2, dSl, dP, dNoP, dIsN, dItQ, dItS, dRg1, dRg2, dEnum, dLc, dYes, noex, Tg.run, gSets, List.length_map, List.length_cons, List.length_nil, List.map_cons, List.map_nil, e1, hk, hl, l1, l9, hq, ha, hn]
  · rw [decide_eq_false hc] at l9
    rw [decide_eq_false (fun h => hc h.1)]
    generalize fs.map D.str = l at *
    simp [f_are_spots, g_are_spots, dFun, sSeq, snext, sIf, sbind, sAsg, sRet, sSkip, sExpr, sPar, sSetI, sSetA, sAug, sFor, sTg, dVar, dC, dNil, dCons, dBind, obind, dTup, dLst, dFrz, MO.d, dReg, dFz, dOp1, dOp2, dCmp, dB2v, dTst, dAnd, dOr, dNot, dIf, dCall, dIx, dLook, dIsi, dIsi2, dIsC, dIn, dChn, dMut, lstOf, putO, dM1, tyOk, dNw1, dNw2, dSl, dP, dNoP, dIsN, dItQ, dItS, dRg1, dRg2, dEnum, dLc, dYes, noex, Tg.run, gSets, List.length_map, List.length_cons, List.length_nil, List.map_cons, List.map_nil, e1, hk, hl, l1, l9]
theorem pair_belowA {n i j : Nat} (h1 : i ≤ j) (h2 : j < n) (mu : Store) : f_is_pair_below [pD (i, j), .int (n : Int)] mu = .ok (.bl (decide (i < j))) mu := by
  have w1 := within_ok (i := (j : Int)) (lo := 1) (hi := (n : Int) - 1) mu
  have w2 := within_ok (i := (i : Int)) (lo := 0) (hi := (j : Int) - 1) mu
  have hl : lenD (pD (i, j)) = some (.int 2) := rfl
  have i0 : ixD (pD (i, j)) (.int 0) = some (.int (i : Int)) := rfl
  have i1 : ixD (pD (i, j)) (.int 1) = some (.int (j : Int)) := rfl
  have hk : lookD mu (pD (i, j)) = pD (i, j) := rfl
  have t1 : isiOk (pD (i, j)) = true := rfl
  have t2 : isTy .tuple (pD (i, j)) = true := rfl
  have n2 : neD (.int 2) (.int 2) = some false := by decide +kernel
  have s1 : subD (.int (n : Int)) (.int 1) = some (.int ((n : Int) - 1)) := rfl
  have s2 : subD (.int (j : Int)) (.int 1) = some (.int ((j : Int) - 1)) := rfl
  generalize pD (i, j) = p at *
  by_cases hj : 1 ≤ j
  · rw [decide_eq_true (by omega), decide_eq_true (by omega)] at w1
    have hd : (decide ((0 : Int) ≤ (i : Int)) && decide ((i : Int) ≤ (j : Int) - 1)) = decide (i < j) := by
      rw [decide_eq_true (by omega), Bool.true_and]
      exact decide_eq_decide.mpr (by omega)
    rw [hd] at w2
    generalize decide (i < j) = q at w2 ⊢
    simp [f_is_pair_below, g_is_pair_below, dFun, sSeq, snext, sIf, sbind, sAsg, sRet, sSkip, sExpr, sPar, sSetI, sSetA, sAug, sFor, sTg, dVar, dC, dNil, dCons, dBind, obind, dTup, dLst, dFrz, MO.d, dReg, dFz, dOp1, dOp2, dCmp, dB2v, dTst, dAnd, dOr, dNot, dIf, dCall, dIx, dLook, dIsi, dIsi2, dIsC, dIn, dChn, dMut, lstOf, putO, dM1, tyOk, dNw1, dNw2, dSl, dP, dNoP, dIsN, dItQ, dItS, dRg1, dRg2, dEnum, dLc, dYes, noex, Tg.run, gSets, List.length_map, List.length_cons, List.length_nil, List.map_cons, List.map_nil, hl, i0, i1, hk, t1, t2, n2, s1, s2, w1, w2]
  · rw [decide_eq_false (by omega), Bool.false_and] at w1
    rw [decide_eq_false (by omega)]
    simp [f_is_pair_below, g_is_pair_below, dFun, sSeq, snext, sIf, sbind, sAsg, sRet, sSkip, sExpr, sPar, sSetI, sSetA, sAug, sFor, sTg, dVar, dC, dNil, dCons, dBind, obind, dTup, dLst, dFrz, MO.d, dReg, dFz, dOp1, dOp2, dCmp, dB2v, dTst, dAnd, dOr, dNot, dIf, dCall, dIx, dLook, dIsi, dIsi2, dIsC, dIn, dChn, dMut, lstOf, putO, dM1, tyOk, dNw1, dNw2, dSl, dP, dNoP, dIsN, dItQ, dItS, dRg1, dRg2, dEnum, dLc, dYes, noex, Tg.run, gSets, List.length_map, List.length_cons, List.length_nil, List.map_cons, List.map_nil, hl, i0, i1, hk, t1, t2, n2, s1, s2, w1]
theorem bools_mapF {α : Type} (f : α → Bool) : ∀ l : List α, boolsD (l.map fun x => D.bl (f x)) = some (l.map f)
  | [] => rfl
  | x :: l => by
    rw [List.map_cons, List.map_cons]
    unfold boolsD
    rw [bools_mapF f l]
    rfl
theorem all_mapB {α : Type} (f : α → Bool) (l : List α) : allD (.lst (l.map fun x => D.bl (f x))) = some (.bl (l.all f)) := by
  unfold allD
  dsimp only
  rw [bools_mapF]
  simp
theorem all_lt : qs.all (fun q => decide (q.1 < q.2)) = decide (∀ q ∈ qs, q.1 < q.2) := by
  rw [Bool.eq_iff_iff, decide_eq_true_iff, List.all_eq_true]
  exact ⟨fun h q hq => of_decide_eq_true (h q hq), fun h q hq => decide_eq_true (h q hq)⟩
theorem init_bad (hf : ∀ x ∈ fs, nameB x = true) (h1 : 1 ≤ fs.length) (hz : fs.length ≤ 100000) (hq : ∀ q ∈ qs, q.1 ≤ q.2 ∧ q.2 < fs.length) (hy : qs.length ≤ 100000) {w : Str} (h : faultT fs qs = some w) (o : D) (mu : Store) :
    f_Web_init [o, .lst (fs.map D.str), .lst (qs.map pD)] mu = .ex 1001 [("what", .str w)] mu := by
  have e1 := are_spotsA hf h1 hz mu
  unfold faultT at h
  by_cases ha : fs.length ≤ 9 ∧ fs.Nodup
  · rw [if_pos ha] at h
    rw [decide_eq_true ha] at e1
    have e2 : f_is_listed [.lst (qs.map pD)] mu = .ok (.bl true) mu := by simp [f_is_listed, g_is_listed, dFun, sSeq, snext, sIf, sbind, sAsg, sRet, sSkip, sExpr, sPar, sSetI, sSetA, sAug, sFor, sTg, dVar, dC, dNil, dCons, dBind, obind, dTup, dLst, dFrz, MO.d, dReg, dFz, dOp1, dOp2, dCmp, dB2v, dTst, dAnd, dOr, dNot, dIf, dCall, dIx, dLook, lookD, dIsi, dIsi2, dIsC, dIn, dChn, dMut, lstOf, putO, dM1, tyOk, dNw1, dNw2, dSl, dP, dNoP, dIsN, dItQ, dItS, dRg1, dRg2, dEnum, dLc, dYes, noex, Tg.run, gSets, List.length_map, List.length_cons, List.length_nil, List.map_cons, List.map_nil, isiOk, isTy]
    have hl := lenL D.str fs
    have hk : ∀ l, lookD mu (.lst l) = .lst l := fun _ => rfl
    have e3 : q_Web_init_1 [some (.val o), some (.val (.lst (fs.map D.str))), some (.val (.lst (qs.map pD))), none, none] mu = .ok (.lst (qs.map fun q => D.bl (decide (q.1 < q.2)))) mu :=
      lc_mapA (src := dItQ (dVar 2)) (g := .nm 4) (own := [4]) (elt := dCall f_is_pair_below (dCons (dVar 4) (dCons (dOp1 lenD (dLook (dVar 1))) dNil))) (sl := [some (.val o), some (.val (.lst (fs.map D.str))), some (.val (.lst (qs.map pD))), none, none]) (mu := mu) (ls := qs) pD (fun q => D.bl (decide (q.1 < q.2))) rfl (by omega) (fun q hq' => by
        have e := pair_belowA (hq q hq').1 (hq q hq').2 mu
        have e : f_is_pair_below [pD q, .int (fs.length : Int)] mu = .ok (.bl (decide (q.1 < q.2))) mu := e
        generalize decide (q.1 < q.2) = b at e ⊢
        generalize fs.map D.str = l at *
        exact ⟨_, rfl, by simp [wipeS, dFun, sSeq, snext, sIf, sbind, sAsg, sRet, sSkip, sExpr, sPar, sSetI, sSetA, sAug, sFor, sTg, dVar, dC, dNil, dCons, dBind, obind, dTup, dLst, dFrz, MO.d, dReg, dFz, dOp1, dOp2, dCmp, dB2v, dTst, dAnd, dOr, dNot, dIf, dCall, dIx, dLook, dIsi, dIsi2, dIsC, dIn, dChn, dMut, lstOf, putO, dM1, tyOk, dNw1, dNw2, dSl, dP, dNoP, dIsN, dItQ, dItS, dRg1, dRg2, dEnum, dLc, dYes, noex, Tg.run, gSets, List.length_map, List.length_cons, List.length_nil, List.map_cons, List.map_nil, hk, hl, e]⟩)
    have e4 := all_mapB (fun q : Nat × Nat => decide (q.1 < q.2)) qs
    rw [all_lt] at e4
    have e5 := no_twice_prsA qs mu
    by_cases hb : ∀ q ∈ qs, q.1 < q.2
    · rw [decide_eq_true hb] at e4
      have hn : ¬ qs.Nodup := fun hn => by rw [if_pos ⟨hb, hn⟩] at h; cases h
      rw [if_neg (fun z => hn z.2)] at h
      cases h
      rw [decide_eq_false hn] at e5
      generalize (qs.map fun q => D.bl (decide (q.1 < q.2))) = r at e3 e4
      generalize fs.map D.str = l at *
      generalize qs.map pD = l2 at *
      simp [f_Web_init, g_Web_init, sRaise, dFun, sSeq, snext, sIf, sbind, sAsg, sRet, sSkip, sExpr, sPar, sSetI, sSetA, sAug, sFor, sTg, dVar, dC, dNil, dCons, dBind, obind, dTup, dLst, dFrz, MO.d, dReg, dFz, dOp1, dOp2, dCmp, dB2v, dTst, dAnd, dOr, dNot, dIf, dCall, dIx, dLook, dIsi, dIsi2, dIsC, dIn, dChn, dMut, lstOf, putO, dM1, tyOk, dNw1, dNw2, dSl, dP, dNoP, dIsN, dItQ, dItS, dRg1, dRg2, dEnum, dLc, dYes, noex, Tg.run, gSets, List.length_map, List.length_cons, List.length_nil, List.map_cons, List.map_nil, hk, e1, e2, e3, e4, e5]
    · rw [if_neg (fun z => hb z.1)] at h
      cases h
      rw [decide_eq_false hb] at e4
      generalize (qs.map fun q => D.bl (decide (q.1 < q.2))) = r at e3 e4
      generalize fs.map D.str = l at *
      generalize qs.map pD = l2 at *
      simp [f_Web_init, g_Web_init, sRaise, dFun, sSeq, snext, sIf, sbind, sAsg, sRet, sSkip, sExpr, sPar, sSetI, sSetA, sAug, sFor, sTg, dVar, dC, dNil, dCons, dBind, obind, dTup, dLst, dFrz, MO.d, dReg, dFz, dOp1, dOp2, dCmp, dB2v, dTst, dAnd, dOr, dNot, dIf, dCall, dIx, dLook, dIsi, dIsi2, dIsC, dIn, dChn, dMut, lstOf, putO, dM1, tyOk, dNw1, dNw2, dSl, dP, dNoP, dIsN, dItQ, dItS, dRg1, dRg2, dEnum, dLc, dYes, noex, Tg.run, gSets, List.length_map, List.length_cons, List.length_nil, List.map_cons, List.map_nil, hk, e1, e2, e3, e4]
  · rw [if_neg ha] at h
    cases h
    rw [decide_eq_false ha] at e1
    generalize fs.map D.str = l at *
    simp [f_Web_init, g_Web_init, sRaise, dFun, sSeq, snext, sIf, sbind, sAsg, sRet, sSkip, sExpr, sPar, sSetI, sSetA, sAug, sFor, sTg, dVar, dC, dNil, dCons, dBind, obind, dTup, dLst, dFrz, MO.d, dReg, dFz, dOp1, dOp2, dCmp, dB2v, dTst, dAnd, dOr, dNot, dIf, dCall, dIx, dLook, dIsi, dIsi2, dIsC, dIn, dChn, dMut, lstOf, putO, dM1, tyOk, dNw1, dNw2, dSl, dP, dNoP, dIsN, dItQ, dItS, dRg1, dRg2, dEnum, dLc, dYes, noex, Tg.run, gSets, List.length_map, List.length_cons, List.length_nil, List.map_cons, List.map_nil, e1]
end
end DL
end

section
set_option Elab.async false
set_option linter.all false
set_option maxRecDepth 100000
set_option maxHeartbeats 4000000
namespace DL
open PySem
/-! Y4: what the law says of the parts of a web -/
def lf0 : SF :=
  (sTg (.ls [2, 3]) (dVar 0))
def lf1 : SF :=
  (sIf (dOr (dNot (dIsi2 .list .tuple (dLook (dVar 2)))) (dOr (dNot (dChn leI leI (dC (.int 1)) (dOp1 lenD (dLook (dVar 2))) (dC (.int 9)))) (dCmp neD (dFrz q__law_fault_1) (dFrz (dLst dNil))))) (sRet (dC (.str "spots"))) sSkip)
def lf2 : SF :=
  (sIf (dCmp ltD (dOp1 unlikeP (dLook (dFrz q__law_fault_2))) (dOp1 lenD (dLook (dVar 2)))) (sRet (dC (.str "spots"))) sSkip)
def lf3 : SF :=
  (sIf (dNot (dIsi2 .list .tuple (dLook (dVar 3)))) (sRet (dC (.str "roads"))) sSkip)
def lf4 : SF :=
  (sFor (dItQ (dVar 3)) (.nm 1) b__law_fault_1)
def lf5 : SF :=
  (sRet (dIf (dCmp ltD (dOp1 unlikeP (dLook (dFrz q__law_fault_3))) (dOp1 lenD (dLook (dVar 3)))) (dC (.str "roads")) (dC .non)))
theorem lf_eq : g__law_fault = (sSeq lf0 (sSeq lf1 (sSeq lf2 (sSeq lf3 (sSeq lf4 lf5))))) := rfl
def optSD : Option Str → D
  | none => .non
  | some w => .str w
def LFs (fs : List Str) (qs : List (Nat × Nat)) (x1 x4 x5 : Option SV) : Sl := [some (.val (.lst [.tup (fs.map D.str), .lst (qs.map pD)])), x1, some (.val (.tup (fs.map D.str))), some (.val (.lst (qs.map pD))), x4, x5]
section
variable {fs : List Str} {qs : List (Nat × Nat)}
theorem lt_nats (a b : Nat) : ltD (.int (a : Int)) (.int (b : Int)) = some (decide (a < b)) := by
  show some (decide _) = some (decide _)
  congr 1
  exact decide_eq_decide.mpr (by omega)
theorem lf_turn {q : Nat × Nat} (hz : fs.length ≤ 100000) (hq : q.1 ≤ q.2 ∧ q.2 < fs.length) {x4 x5 : Option SV} (mu : Store) :
    b__law_fault_1 (LFs fs qs (some (.val (pD q))) x4 x5) mu = if q.1 < q.2 then .nx (LFs fs qs (some (.val (pD q))) x4 x5) mu else .rt (.str "roads") mu := by
  have w1 := law_within_int (q.1 : Int) 0 ((fs.length : Int) - 1) mu
  have w2 := law_within_int (q.2 : Int) ((q.1 : Int) + 1) ((fs.length : Int) - 1) mu
  rw [decide_eq_true (by omega), decide_eq_true (by omega)] at w1
  have hl : lenD (pD q) = some (.int 2) := rfl
  have i0 : ixD (pD q) (.int 0) = some (.int (q.1 : Int)) := rfl
  have i1 : ixD (pD q) (.int 1) = some (.int (q.2 : Int)) := rfl
  have hk : lookD mu (pD q) = pD q := rfl
  have t1 : isiOk (pD q) = true := rfl
  have t2 : isTy .tuple (pD q) = true := rfl
  have n2 : neD (.int 2) (.int 2) = some false := by decide +kernel
  have hkt : ∀ l, lookD mu (.tup l) = .tup l := fun _ => rfl
  have hlt := lenT D.str fs
  have s1 : subD (.int (fs.length : Int)) (.int 1) = some (.int ((fs.length : Int) - 1)) := rfl
  have a1 : addD (.int (q.1 : Int)) (.int 1) = some (.int ((q.1 : Int) + 1)) := rfl
  by_cases hlt2 : q.1 < q.2
  · rw [decide_eq_true (by omega), decide_eq_true (by omega)] at w2
    rw [if_pos hlt2]
    unfold LFs
    generalize fs.map D.str = l at *
    generalize pD q = p at *
    simp [b__law_fault_1, dFun, sSeq, snext, sIf, sbind, sAsg, sRet, sSkip, sExpr, sPar, sSetI, sSetA, sAug, sFor, sTg, dVar, dC, dNil, dCons, dBind, obind, dTup, dLst, dFrz, MO.d, dReg, dFz, dOp1, dOp2, dCmp, dB2v, dTst, dAnd, dOr, dNot, dIf, dCall, dIx, dLook, dIsi, dIsi2, dIsC, dIn, dChn, dMut, lstOf, putO, dM1, tyOk, dNw1, dNw2, dSl, dP, dNoP, dIsN, dItQ, dItS, dRg1, dRg2, dEnum, dLc, dYes, noex, Tg.run, gSets, List.length_map, List.length_cons, List.length_nil, List.map_cons, List.map_nil, hl, i0, i1, hk, t1, t2, n2, hkt, hlt, s1, a1, w1, w2]
  · rw [decide_eq_false (by omega), Bool.false_and] at w2
    rw [if_neg hlt2]
    unfold LFs
    generalize fs.map D.str = l at *
    generalize pD q = p at *
    simp [b__law_fault_1, dFun, sSeq, snext, sIf, sbind, sAsg, sRet, sSkip, sExpr, sPar, sSetI, sSetA, sAug, sFor, sTg, dVar, dC, dNil, dCons, dBind, obind, dTup, dLst, dFrz, MO.d, dReg, dFz, dOp1, dOp2, dCmp, dB2v, dTst, dAnd, dOr, dNot, dIf, dCall, dIx, dLook, dIsi, dIsi2, dIsC, dIn, dChn, dMut, lstOf, putO, dM1, tyOk, dNw1, dNw2, dSl, dP, dNoP, dIsN, dItQ, dItS, dRg1, dRg2, dEnum, dLc, dYes, noex, Tg.run, gSets, List.length_map, List.length_cons, List.length_nil, List.map_cons, List.map_nil, hl, i0, i1, hk, t1, t2, n2, hkt, hlt, s1, a1, w1, w2]
theorem lf_loop (hz : fs.length ≤ 100000) {x4 x5 : Option SV} (mu : Store) : ∀ (ps : List (Nat × Nat)) (x1 : Option SV), (∀ q ∈ ps, q.1 ≤ q.2 ∧ q.2 < fs.length) →
    ((∀ q ∈ ps, q.1 < q.2) → ∃ y1, sForL (.nm 1) b__law_fault_1 (ps.map pD) (LFs fs qs x1 x4 x5) mu = .nx (LFs fs qs y1 x4 x5) mu) ∧ (¬ (∀ q ∈ ps, q.1 < q.2) → sForL (.nm 1) b__law_fault_1 (ps.map pD) (LFs fs qs x1 x4 x5) mu = .rt (.str "roads") mu)
  | [], x1, _ => ⟨fun _ => ⟨x1, rfl⟩, fun h => absurd (fun q hq => by cases hq) h⟩
  | q :: ps, x1, h => by
    have ih := lf_loop hz (x4 := x4) (x5 := x5) mu ps (some (.val (pD q))) (fun p hp => h p (List.mem_cons_of_mem _ hp))
    have e := lf_turn (qs := qs) (x4 := x4) (x5 := x5) hz (h q List.mem_cons_self) mu
    have step : sForL (.nm 1) b__law_fault_1 ((q :: ps).map pD) (LFs fs qs x1 x4 x5) mu = if q.1 < q.2 then sForL (.nm 1) b__law_fault_1 (ps.map pD) (LFs fs qs (some (.val (pD q))) x4 x5) mu else .rt (.str "roads") mu := by
      rw [List.map_cons]
      conv => lhs; unfold sForL
      rw [show (Tg.nm 1).run (pD q) (LFs fs qs x1 x4 x5) = some (LFs fs qs (some (.val (pD q))) x4 x5) from rfl]
      dsimp only
      rw [e]
      by_cases hq : q.1 < q.2
      · rw [if_pos hq, if_pos hq]
      · rw [if_neg hq, if_neg hq]
    rw [step]
    by_cases hq : q.1 < q.2
    · rw [if_pos hq]
      refine ⟨fun hall => ih.1 fun p hp => hall p (List.mem_cons_of_mem _ hp), fun hno => ih.2 fun hall => hno fun p hp => ?_⟩
      rcases List.mem_cons.mp hp with rfl | hp
      · exact hq
      · exact hall p hp
    · rw [if_neg hq]
      exact ⟨fun hall => absurd (hall q List.mem_cons_self) hq, fun _ => rfl⟩
theorem law_faultA (hf : ∀ x ∈ fs, nameB x = true) (h1 : 1 ≤ fs.length) (hz : fs.length ≤ 100000) (hq : ∀ q ∈ qs, q.1 ≤ q.2 ∧ q.2 < fs.length) (hy : qs.length ≤ 100000) (mu : Store) :
    f__law_fault [.lst [.tup (fs.map D.str), .lst (qs.map pD)]] mu = .ok (optSD (faultT fs qs)) mu := by
  refine fun_rt (n := 6) (g := g__law_fault) ?_
  show g__law_fault [some (.val (.lst [.tup (fs.map D.str), .lst (qs.map pD)])), none, none, none, none, none] mu = _
  rw [lf_eq]
  have s0 : lf0 [some (.val (.lst [.tup (fs.map D.str), .lst (qs.map pD)])), none, none, none, none, none] mu = .nx (LFs fs qs none none none) mu := by
    unfold LFs
    generalize fs.map D.str = l
    generalize qs.map pD = l2
    simp [lf0, sTg, dFun, sSeq, snext, sIf, sbind, sAsg, sRet, sSkip, sExpr, sPar, sSetI, sSetA, sAug, sFor, sTg, dVar, dC, dNil, dCons, dBind, obind, dTup, dLst, dFrz, MO.d, dReg, dFz, dOp1, dOp2, dCmp, dB2v, dTst, dAnd, dOr, dNot, dIf, dCall, dIx, dLook, dIsi, dIsi2, dIsC, dIn, dChn, dMut, lstOf, putO, dM1, tyOk, dNw1, dNw2, dSl, dP, dNoP, dIsN, dItQ, dItS, dRg1, dRg2, dEnum, dLc, dYes, noex, Tg.run, gSets, List.length_map, List.length_cons, List.length_nil, List.map_cons, List.map_nil]
  refine (seq_nx s0).trans ?_
  have hkt : ∀ l, lookD mu (.tup l) = .tup l := fun _ => rfl
  have hkl : ∀ l, lookD mu (.lst l) = .lst l := fun _ => rfl
  have t1 : isiOk (.tup (fs.map D.str)) = true := rfl
  have t2 : isTy .tuple (.tup (fs.map D.str)) = true := rfl
  have t3 : isTy .list (.tup (fs.map D.str)) = false := rfl
  have hl := lenT D.str fs
  have l1 := le1_n fs.length
  rw [decide_eq_true h1] at l1
  have l9 := le9_n fs.length
  have e1 : q__law_fault_1 (LFs fs qs none none none) mu = .ok (.lst []) mu := by
    have := lc_map (src := dItQ (dVar 2)) (g := .nm 4) (own := [4]) (c := dNot (dTst (dCall f__law_is_name (dCons (dVar 4) dNil)))) (elt := dVar 4) (sl := LFs fs qs none none none) (mu := mu) (ls := fs) D.str (fun _ => none) rfl (by omega) (fun x hx => by
      have e := law_name_any (x := x) (by have := nb_len (hf x hx); omega) mu
      rw [hf x hx] at e
      refine ⟨_, rfl, .inr ⟨rfl, ?_⟩⟩
      unfold LFs
      generalize fs.map D.str = l at *
      simp [wipeS, dFun, sSeq, snext, sIf, sbind, sAsg, sRet, sSkip, sExpr, sPar, sSetI, sSetA, sAug, sFor, sTg, dVar, dC, dNil, dCons, dBind, obind, dTup, dLst, dFrz, MO.d, dReg, dFz, dOp1, dOp2, dCmp, dB2v, dTst, dAnd, dOr, dNot, dIf, dCall, dIx, dLook, dIsi, dIsi2, dIsC, dIn, dChn, dMut, lstOf, putO, dM1, tyOk, dNw1, dNw2, dSl, dP, dNoP, dIsN, dItQ, dItS, dRg1, dRg2, dEnum, dLc, dYes, noex, Tg.run, gSets, List.length_map, List.length_cons, List.length_nil, List.map_cons, List.map_nil, e])
    have hnone : ∀ l : List Str, l.filterMap (fun _ => (none : Option D)) = [] := fun l => by
      induction l with
      | nil => rfl
      | cons a l ih => exact ih
    rw [hnone] at this
    exact this
  have n0 : neD (.lst []) (.lst []) = some false := by decide +kernel
  unfold faultT
  by_cases h9 : fs.length ≤ 9
  · rw [decide_eq_true h9] at l9
    refine (ifa_nx (m1 := mu) ?_).trans ?_
    · generalize q__law_fault_1 = Q at e1 ⊢
      unfold LFs at e1 ⊢
      generalize fs.map D.str = l at *
      simp [dFun, sSeq, snext, sIf, sbind, sAsg, sRet, sSkip, sExpr, sPar, sSetI, sSetA, sAug, sFor, sTg, dVar, dC, dNil, dCons, dBind, obind, dTup, dLst, dFrz, MO.d, dReg, dFz, dOp1, dOp2, dCmp, dB2v, dTst, dAnd, dOr, dNot, dIf, dCall, dIx, dLook, dIsi, dIsi2, dIsC, dIn, dChn, dMut, lstOf, putO, dM1, tyOk, dNw1, dNw2, dSl, dP, dNoP, dIsN, dItQ, dItS, dRg1, dRg2, dEnum, dLc, dYes, noex, Tg.run, gSets, List.length_map, List.length_cons, List.length_nil, List.map_cons, List.map_nil, hkt, t1, t2, t3, hl, l1, l9, e1, n0]
    have e2 : q__law_fault_2 (LFs fs qs none none none) mu = .ok (.lst (fs.map fun x => D.tup [.str x, .int 0])) mu :=
      lc_mapA (src := dItQ (dVar 2)) (g := .nm 5) (own := [5]) (elt := dTup (dCons (dVar 5) (dCons (dC (.int 0)) dNil))) (sl := LFs fs qs none none none) (mu := mu) (ls := fs) D.str (fun x => D.tup [.str x, .int 0]) rfl (by omega) (fun x hx => ⟨_, rfl, rfl⟩)
    have u2 := unlikeP_strs fs
    have lt2 := lt_nats (distL (fs.map (Sum.inr : Str → L2.Key))).length fs.length
    have d2 : decide ((distL (fs.map (Sum.inr : Str → L2.Key))).length < fs.length) = !decide fs.Nodup := by
      have h1 := distL_iff (fs.map (Sum.inr : Str → L2.Key))
      have h2 := distL_le (fs.map (Sum.inr : Str → L2.Key))
      rw [List.length_map] at h1 h2
      rw [nodup_inr] at h1
      by_cases hn : fs.Nodup
      · rw [decide_eq_true hn, h1.mpr hn]
        exact decide_eq_false (Nat.lt_irrefl _)
      · rw [decide_eq_false hn]
        refine decide_eq_true (Nat.lt_of_le_of_ne h2 fun e => hn (h1.mp e))
    rw [d2] at lt2
    have c2 : (dCmp ltD (dOp1 unlikeP (dLook (dFrz q__law_fault_2))) (dOp1 lenD (dLook (dVar 2)))) (LFs fs qs none none none) mu = .ok (!decide fs.Nodup) mu := by
      generalize (!decide fs.Nodup) = b at lt2 ⊢
      generalize ((distL (fs.map (Sum.inr : Str → L2.Key))).length : Int) = n1 at u2 lt2
      generalize (fs.map fun x => D.tup [.str x, .int 0]) = r at e2 u2
      generalize q__law_fault_2 = Q at e2 ⊢
      unfold LFs at e2 ⊢
      generalize fs.map D.str = l at *
      simp [dFun, sSeq, snext, sIf, sbind, sAsg, sRet, sSkip, sExpr, sPar, sSetI, sSetA, sAug, sFor, sTg, dVar, dC, dNil, dCons, dBind, obind, dTup, dLst, dFrz, MO.d, dReg, dFz, dOp1, dOp2, dCmp, dB2v, dTst, dAnd, dOr, dNot, dIf, dCall, dIx, dLook, dIsi, dIsi2, dIsC, dIn, dChn, dMut, lstOf, putO, dM1, tyOk, dNw1, dNw2, dSl, dP, dNoP, dIsN, dItQ, dItS, dRg1, dRg2, dEnum, dLc, dYes, noex, Tg.run, gSets, List.length_map, List.length_cons, List.length_nil, List.map_cons, List.map_nil, hkt, hkl, e2, u2, hl, lt2]
    by_cases hn : fs.Nodup
    · rw [decide_eq_true hn] at c2
      rw [if_pos ⟨h9, hn⟩]
      refine (ifa_nx c2).trans ((ifa_nx (m1 := mu) ?_).trans ?_)
      · have t4 : isiOk (.lst (qs.map pD)) = true := rfl
        have t5 : isTy .list (.lst (qs.map pD)) = true := rfl
        unfold LFs
        generalize fs.map D.str = l at *
        generalize qs.map pD = l2 at *
        simp [dFun, sSeq, snext, sIf, sbind, sAsg, sRet, sSkip, sExpr, sPar, sSetI, sSetA, sAug, sFor, sTg, dVar, dC, dNil, dCons, dBind, obind, dTup, dLst, dFrz, MO.d, dReg, dFz, dOp1, dOp2, dCmp, dB2v, dTst, dAnd, dOr, dNot, dIf, dCall, dIx, dLook, dIsi, dIsi2, dIsC, dIn, dChn, dMut, lstOf, putO, dM1, tyOk, dNw1, dNw2, dSl, dP, dNoP, dIsN, dItQ, dItS, dRg1, dRg2, dEnum, dLc, dYes, noex, Tg.run, gSets, List.length_map, List.length_cons, List.length_nil, List.map_cons, List.map_nil, hkl, t4, t5]
      have hlp := lf_loop (qs := qs) hz (x4 := none) (x5 := none) mu qs none hq
      have hsrc : dItQ (dVar 3) (LFs fs qs none none none) mu = .ok (qs.map pD) mu := rfl
      by_cases hall : ∀ q ∈ qs, q.1 < q.2
      · obtain ⟨y1, e3⟩ := hlp.1 hall
        refine (seq_nx ((for_src hsrc).trans e3)).trans (ret_ok ?_)
        have e4 : q__law_fault_3 (LFs fs qs y1 none none) mu = .ok (.lst (qs.map fun x => D.tup [pD x, .int 0])) mu :=
          lc_mapA (src := dItQ (dVar 3)) (g := .nm 1) (own := [1]) (elt := dTup (dCons (dVar 1) (dCons (dC (.int 0)) dNil))) (sl := LFs fs qs y1 none none) (mu := mu) (ls := qs) pD (fun x => D.tup [pD x, .int 0]) rfl (by omega) (fun x hx => ⟨_, rfl, rfl⟩)
        have u3 := unlikeP_prs qs
        have lt3 := lt_nats (distL (qs.map pK)).length qs.length
        have d3 : decide ((distL (qs.map pK)).length < qs.length) = !decide qs.Nodup := by
          have h1 := distL_iff (qs.map pK)
          have h2 := distL_le (qs.map pK)
          rw [List.length_map] at h1 h2
          rw [nodup_pK] at h1
          by_cases hn : qs.Nodup
          · rw [decide_eq_true hn, h1.mpr hn]
            exact decide_eq_false (Nat.lt_irrefl _)
          · rw [decide_eq_false hn]
            refine decide_eq_true (Nat.lt_of_le_of_ne h2 fun e => hn (h1.mp e))
        rw [d3] at lt3
        have hl3 := lenL pD qs
        have c3 : (dCmp ltD (dOp1 unlikeP (dLook (dFrz q__law_fault_3))) (dOp1 lenD (dLook (dVar 3)))) (LFs fs qs y1 none none) mu = .ok (!decide qs.Nodup) mu := by
          generalize (!decide qs.Nodup) = b at lt3 ⊢
          generalize ((distL (qs.map pK)).length : Int) = n1 at u3 lt3
          generalize (qs.map fun x => D.tup [pD x, .int 0]) = r at e4 u3
          generalize q__law_fault_3 = Q at e4 ⊢
          unfold LFs at e4 ⊢
          generalize qs.map pD = l2 at *
          simp [dFun, sSeq, snext, sIf, sbind, sAsg, sRet, sSkip, sExpr, sPar, sSetI, sSetA, sAug, sFor, sTg, dVar, dC, dNil, dCons, dBind, obind, dTup, dLst, dFrz, MO.d, dReg, dFz, dOp1, dOp2, dCmp, dB2v, dTst, dAnd, dOr, dNot, dIf, dCall, dIx, dLook, dIsi, dIsi2, dIsC, dIn, dChn, dMut, lstOf, putO, dM1, tyOk, dNw1, dNw2, dSl, dP, dNoP, dIsN, dItQ, dItS, dRg1, dRg2, dEnum, dLc, dYes, noex, Tg.run, gSets, List.length_map, List.length_cons, List.length_nil, List.map_cons, List.map_nil, hkl, e4, u3, hl3, lt3]
        by_cases hnq : qs.Nodup
        · rw [decide_eq_true hnq] at c3
          rw [if_pos ⟨hall, hnq⟩]
          exact (if_f c3).trans rfl
        · rw [decide_eq_false hnq] at c3
          rw [if_neg (fun z => hnq z.2)]
          exact (if_t c3).trans rfl
      · rw [if_neg (fun z => hall z.1)]
        exact seq_rt ((for_src hsrc).trans (hlp.2 hall))
    · rw [decide_eq_false hn] at c2
      rw [if_neg (fun z => hn z.2)]
      exact ifa_rt c2 rfl
  · rw [decide_eq_false h9] at l9
    rw [if_neg (fun z => h9 z.1)]
    refine ifa_rt (m1 := mu) ?_ rfl
    generalize q__law_fault_1 = Q at e1 ⊢
    unfold LFs at e1 ⊢
    generalize fs.map D.str = l at *
    simp [dFun, sSeq, snext, sIf, sbind, sAsg, sRet, sSkip, sExpr, sPar, sSetI, sSetA, sAug, sFor, sTg, dVar, dC, dNil, dCons, dBind, obind, dTup, dLst, dFrz, MO.d, dReg, dFz, dOp1, dOp2, dCmp, dB2v, dTst, dAnd, dOr, dNot, dIf, dCall, dIx, dLook, dIsi, dIsi2, dIsC, dIn, dChn, dMut, lstOf, putO, dM1, tyOk, dNw1, dNw2, dSl, dP, dNoP, dIsN, dItQ, dItS, dRg1, dRg2, dEnum, dLc, dYes, noex, Tg.run, gSets, List.length_map, List.length_cons, List.length_nil, List.map_cons, List.map_nil, hkt, t1, t2, t3, hl, l1, l9]
end
end DL
end

section
set_option Elab.async false
set_option linter.all false
set_option maxRecDepth 100000
set_option maxHeartbeats 4000000
namespace DL
open PySem
/-! Y5: the reader of lines, on any line -/
def rdF (L : Nat) (e : Bool) : List (Str × D) := [("read_spots", .obj (L + 1)), ("read_roads", .obj (L + 2)), ("ended", .bl e)]
def RS (mu : Store) (sp : List Str) (rd : List D) (e : Bool) : Store := mu ++ [some (.ins 1 (rdF mu.length e)), some (.lst (sp.map D.str)), some (.lst rd)]
section
variable (mu : Store) (sp : List Str) (rd : List D) (e : Bool)
theorem rs0 : (RS mu sp rd e)[mu.length]? = some (some (.ins 1 (rdF mu.length e))) := by unfold RS; simp
theorem rs1 : (RS mu sp rd e)[mu.length + 1]? = some (some (.lst (sp.map D.str))) := by
  unfold RS
  rw [List.getElem?_append_right (by omega)]
  simp
theorem rs2 : (RS mu sp rd e)[mu.length + 2]? = some (some (.lst rd)) := by
  unfold RS
  rw [List.getElem?_append_right (by omega)]
  simp
theorem rs0s (e' : Bool) : (RS mu sp rd e).set mu.length (some (.ins 1 (rdF mu.length e'))) = RS mu sp rd e' := by unfold RS; simp
theorem rs1s (sp' : List Str) : (RS mu sp rd e).set (mu.length + 1) (some (.lst (sp'.map D.str))) = RS mu sp' rd e := by
  unfold RS
  rw [List.set_append_right _ _ (by omega)]
  simp
theorem rs2s (rd' : List D) : (RS mu sp rd e).set (mu.length + 2) (some (.lst rd')) = RS mu sp rd' e := by
  unfold RS
  rw [List.set_append_right _ _ (by omega)]
  simp
end
theorem rd_spots (L : Nat) (e : Bool) : (rdF L e).lookup ("read_spots" : Str) = some (D.obj (L + 1)) := rfl
theorem rd_roads (L : Nat) (e : Bool) : (rdF L e).lookup ("read_roads" : Str) = some (D.obj (L + 2)) := rfl
theorem rd_ended (L : Nat) (e : Bool) : (rdF L e).lookup ("ended" : Str) = some (D.bl e) := rfl
theorem rd_takes (L : Nat) (e : Bool) : (rdF L e).lookup ("takes" : Str) = none := rfl
theorem rd_put (L : Nat) (e e' : Bool) : putFD "ended" (.bl e') (rdF L e) = rdF L e' := rfl
theorem rd_len (L : Nat) (e : Bool) : (rdF L e).length < 1000 := by show 3 < 1000; decide
theorem cut1 {α : Type} (a : α) (l : List α) : cutG (a :: l) (some 1) none = l := by
  unfold cutG
  have e1 : HT.sIx (a :: l).length 0 (some 1) = 1 := by
    rw [show (some (1 : Int)) = some ((1 : Nat) : Int) from rfl, HT.sIx_nat]
    simp
  rw [e1, HT.sIx_none]
  simp
theorem eqv_strs : ∀ a b : List Str, PyData.eqvAll (a.map PyData.str) (b.map PyData.str) = decide (a = b)
  | [], [] => rfl
  | [], b :: l => rfl
  | a :: l, [] => rfl
  | a :: l, b :: m => by
    have ih := eqv_strs l m
    rw [List.map_cons, List.map_cons]
    unfold PyData.eqvAll
    rw [ih]
    show ((a == b) && decide (l = m)) = _
    rw [str_beq]
    by_cases h : b = a
    · subst h
      simp
    · rw [decide_eq_false h, Bool.false_and]
      exact (decide_eq_false (fun e => h (by injection e with h1 _; exact h1.symm))).symm
theorem eq_strsL (a b : List Str) : eqD (.lst (a.map D.str)) (.lst (b.map D.str)) = some (decide (a = b)) := by
  unfold eqD toP
  rw [toPL_strs, toPL_strs]
  dsimp only [Option.map_some]
  have h1 : (PyData.list (a.map PyData.str)).depth = 1 := by simp [PyData.depth, depth_strs]
  rw [h1, if_pos (by omega)]
  show some (PyData.eqvAll _ _) = _
  rw [eqv_strs]
inductive Ln where
  | bad
  | spot (w : Str)
  | road (a b : Str)
  | over
/-- what a line's words are to a reader -/
def lnOf (sp : List Str) (rd : List (Str × Str)) (e : Bool) (ws : List Str) : Ln :=
  if e = true then .bad else match ws with
  | [x] => if x = "over" ∧ sp ≠ [] then .over else .bad
  | [x, w] => if x = "spot" ∧ nameB w = true ∧ rd = [] then .spot w else .bad
  | [x, a, b] => if x = "road" ∧ a ∈ sp ∧ b ∈ sp then .road a b else .bad
  | _ => .bad
def rowS (p : Str × Str) : D := .lst [.str p.1, .str p.2]
section
variable {mu : Store} {sp : List Str} {rd : List D}
theorem hd_ix (x : Str) (rest : List Str) : ixD (.lst ((x :: rest).map D.str)) (.int 0) = some (.str x) := ix_nat (l := (x :: rest).map D.str) (i := 0) rfl
theorem tl_sl (x : Str) (rest : List Str) : sliceD (.lst ((x :: rest).map D.str)) (some 1) none = some (.lst (rest.map D.str)) := congrArg (fun l => some (D.lst l)) (cut1 _ _)
theorem len_cons2 (x : Str) (rest : List Str) : lenD (.lst ((x :: rest).map D.str)) = some (.int ((rest.length : Int) + 1)) := by
  rw [lenL, List.length_cons]
  rfl
theorem takes_ended (ws : List Str) : f_LineReader_takes [.obj mu.length, .lst (ws.map D.str)] (RS mu sp rd true) = .ok (.bl false) (RS mu sp rd true) := by
  have g0 := rs0 mu sp rd true
  generalize ws.map D.str = l
  simp [f_LineReader_takes, g_LineReader_takes, dFun, sSeq, snext, sIf, sbind, sAsg, sRet, sSkip, sExpr, sPar, sSetI, sSetA, sAug, sFor, sTg, dVar, dC, dNil, dCons, dBind, obind, dTup, dLst, dFrz, MO.d, dReg, dFz, dOp1, dOp2, dCmp, dB2v, dTst, dAnd, dOr, dNot, dIf, dCall, dIx, dLook, lookD, dIsi, dIsi2, dIsC, dIn, dChn, dMut, lstOf, putO, dM1, tyOk, dNw1, dNw2, dSl, dP, dNoP, dIsN, dItQ, dItS, dRg1, dRg2, dEnum, dLc, dYes, noex, Tg.run, gSets, List.length_map, List.length_cons, List.length_nil, List.map_cons, List.map_nil, g0, attrD, rd_ended]
theorem takes_spotA (rest : List Str) (hl : sp.length + rest.length ≤ 1000000) (hz : ∀ w ∈ rest, w.length ≤ 1000000) : f_LineReader_takes [.obj mu.length, .lst ((("spot" : Str) :: rest).map D.str)] (RS mu sp rd false) = .ok (.bl (decide (rest.length = 1) && (nameB (rest.headD "") && rd.isEmpty))) (RS mu (sp ++ rest) rd false) := by
  have g0 := rs0 mu sp rd false
  have g1 := rs1 mu sp rd false
  have k0 := rs0 mu (sp ++ rest) rd false
  have k2 := rs2 mu (sp ++ rest) rd false
  have s1 := rs1s mu sp rd false (sp ++ rest)
  rw [List.map_append] at s1
  have hi := hd_ix "spot" rest
  have hc := tl_sl "spot" rest
  have hn := len_cons2 "spot" rest
  have h16 : sp.length + (rest.map D.str).length ≤ 16000000 := by
    rw [List.length_map]
    omega
  have e1 := eq_ints ((rest.length : Int) + 1) 2
  have hq : decide ((rest.length : Int) + 1 = 2) = decide (rest.length = 1) := decide_eq_decide.mpr (by omega)
  rw [hq] at e1
  have hrl : lenD (.lst rd) = some (.int (rd.length : Int)) := rfl
  have e2 := eq_ints (rd.length : Int) 0
  have hq2 : decide ((rd.length : Int) = 0) = rd.isEmpty := by
    cases rd with
    | nil => rfl
    | cons a l =>
      refine decide_eq_false ?_
      rw [List.length_cons]
      omega
  rw [hq2] at e2
  by_cases h1 : rest.length = 1
  · obtain ⟨w, hw⟩ := List.length_eq_one_iff.mp h1
    have hi1 : ixD (.lst ((("spot" : Str) :: rest).map D.str)) (.int 1) = some (.str w) := ix_nat (l := (("spot" : Str) :: rest).map D.str) (i := 1) (by rw [hw]; rfl)
    have hnm := is_name_any (x := w) (by have := hz w (by rw [hw]; simp); omega) (RS mu (sp ++ rest) rd false)
    have hd : rest.headD "" = w := by rw [hw]; rfl
    rw [hd]
    rw [decide_eq_true h1] at e1 ⊢
    generalize rd.isEmpty = q2 at e2 ⊢
    generalize nameB w = q1 at hnm ⊢
    generalize (rest.length : Int) + 1 = n1 at hn e1
    generalize (rd.length : Int) = n2 at hrl e2
    generalize RS mu (sp ++ rest) rd false = S2 at *
    generalize rest.map D.str = lr at *
    generalize (("spot" : Str) :: rest).map D.str = lw at *
    cases q1 <;> simp [f_LineReader_takes, g_LineReader_takes, dFun, sSeq, snext, sIf, sbind, sAsg, sRet, sSkip, sExpr, sPar, sSetI, sSetA, sAug, sFor, sTg, dVar, dC, dNil, dCons, dBind, obind, dTup, dLst, dFrz, MO.d, dReg, dFz, dOp1, dOp2, dCmp, dB2v, dTst, dAnd, dOr, dNot, dIf, dCall, dIx, dLook, lookD, dIsi, dIsi2, dIsC, dIn, dChn, dMut, lstOf, putO, dM1, tyOk, dNw1, dNw2, dSl, dP, dNoP, dIsN, dItQ, dItS, dRg1, dRg2, dEnum, dLc, dYes, noex, Tg.run, gSets, List.length_map, List.length_cons, List.length_nil, List.map_cons, List.map_nil, g0, g1, k0, k2, attrD, rd_ended, rd_spots, rd_roads, hi, hi1, eq_strs, hc, extD, h16, s1, hnm, hn, hrl, e1, e2]
  · rw [decide_eq_false h1] at e1 ⊢
    generalize (rest.length : Int) + 1 = n1 at hn e1
    generalize RS mu (sp ++ rest) rd false = S2 at *
    generalize rest.map D.str = lr at *
    generalize (("spot" : Str) :: rest).map D.str = lw at *
    simp [f_LineReader_takes, g_LineReader_takes, dFun, sSeq, snext, sIf, sbind, sAsg, sRet, sSkip, sExpr, sPar, sSetI, sSetA, sAug, sFor, sTg, dVar, dC, dNil, dCons, dBind, obind, dTup, dLst, dFrz, MO.d, dReg, dFz, dOp1, dOp2, dCmp, dB2v, dTst, dAnd, dOr, dNot, dIf, dCall, dIx, dLook, lookD, dIsi, dIsi2, dIsC, dIn, dChn, dMut, lstOf, putO, dM1, tyOk, dNw1, dNw2, dSl, dP, dNoP, dIsN, dItQ, dItS, dRg1, dRg2, dEnum, dLc, dYes, noex, Tg.run, gSets, List.length_map, List.length_cons, List.length_nil, List.map_cons, List.map_nil, g0, g1, k0, k2, attrD, rd_ended, rd_spots, rd_roads, hi, eq_strs, hc, extD, h16, s1, hn, e1]
theorem takes_roadA (rest : List Str) (hl : rd.length ≤ 1000000) (hz : rest.length ≤ 1000000) : f_LineReader_takes [.obj mu.length, .lst ((("road" : Str) :: rest).map D.str)] (RS mu sp rd false) = .ok (.bl (decide (rest.length = 2) && rest.all (fun w => decide (w ∈ sp)))) (RS mu sp (rd ++ [D.lst (rest.map D.str)]) false) := by
  have g0 := rs0 mu sp rd false
  have g2 := rs2 mu sp rd false
  have k0 := rs0 mu sp (rd ++ [D.lst (rest.map D.str)]) false
  have k1 := rs1 mu sp (rd ++ [D.lst (rest.map D.str)]) false
  have s2 := rs2s mu sp rd false (rd ++ [D.lst (rest.map D.str)])
  have hi := hd_ix "road" rest
  have hc := tl_sl "road" rest
  have hn := len_cons2 "road" rest
  have h16 : rd.length < 16000000 := by omega
  have hsr : ¬ ("spot" : Str) = "road" := by decide +kernel
  have e1 := eq_ints ((rest.length : Int) + 1) 3
  have hq0 : decide ((rest.length : Int) + 1 = 3) = decide (rest.length = 2) := decide_eq_decide.mpr (by omega)
  rw [hq0] at e1
  have hq : q_LineReader_takes_1 [some (.val (.obj mu.length)), some (.val (.lst ((("road" : Str) :: rest).map D.str))), none] (RS mu sp (rd ++ [D.lst (rest.map D.str)]) false) = .ok (.lst (rest.map fun w => D.bl (decide (w ∈ sp)))) (RS mu sp (rd ++ [D.lst (rest.map D.str)]) false) :=
    lc_mapA (src := dItQ (dSl (dVar 1) (dP (dC (.int 1))) dNoP)) (g := .nm 2) (own := [2]) (elt := dB2v (dIn false (dVar 2) (dLook (dOp1 (attrD "read_spots") (dLook (dVar 0)))))) (sl := [some (.val (.obj mu.length)), some (.val (.lst ((("road" : Str) :: rest).map D.str))), none]) (mu := RS mu sp (rd ++ [D.lst (rest.map D.str)]) false) (ls := rest) D.str (fun w => D.bl (decide (w ∈ sp))) (by
        generalize RS mu sp (rd ++ [D.lst (rest.map D.str)]) false = S2 at *
        generalize (("road" : Str) :: rest).map D.str = lw at *
        simp [dFun, sSeq, snext, sIf, sbind, sAsg, sRet, sSkip, sExpr, sPar, sSetI, sSetA, sAug, sFor, sTg, dVar, dC, dNil, dCons, dBind, obind, dTup, dLst, dFrz, MO.d, dReg, dFz, dOp1, dOp2, dCmp, dB2v, dTst, dAnd, dOr, dNot, dIf, dCall, dIx, dLook, lookD, dIsi, dIsi2, dIsC, dIn, dChn, dMut, lstOf, putO, dM1, tyOk, dNw1, dNw2, dSl, dP, dNoP, dIsN, dItQ, dItS, dRg1, dRg2, dEnum, dLc, dYes, noex, Tg.run, gSets, List.length_map, List.length_cons, List.length_nil, List.map_cons, List.map_nil, hc]) (by omega) (fun w hw => by
        have hin := in_strs w sp
        refine ⟨_, rfl, ?_⟩
        generalize decide (w ∈ sp) = q at hin ⊢
        generalize RS mu sp (rd ++ [D.lst (rest.map D.str)]) false = S2 at *
        generalize (("road" : Str) :: rest).map D.str = lw at *
        simp [wipeS, dFun, sSeq, snext, sIf, sbind, sAsg, sRet, sSkip, sExpr, sPar, sSetI, sSetA, sAug, sFor, sTg, dVar, dC, dNil, dCons, dBind, obind, dTup, dLst, dFrz, MO.d, dReg, dFz, dOp1, dOp2, dCmp, dB2v, dTst, dAnd, dOr, dNot, dIf, dCall, dIx, dLook, lookD, dIsi, dIsi2, dIsC, dIn, dChn, dMut, lstOf, putO, dM1, tyOk, dNw1, dNw2, dSl, dP, dNoP, dIsN, dItQ, dItS, dRg1, dRg2, dEnum, dLc, dYes, noex, Tg.run, gSets, List.length_map, List.length_cons, List.length_nil, List.map_cons, List.map_nil, k0, attrD, rd_spots, k1, hin])
  have ha := all_mapB (fun w => decide (w ∈ sp)) rest
  by_cases h2 : rest.length = 2
  · rw [decide_eq_true h2] at e1 ⊢
    generalize rest.all (fun w => decide (w ∈ sp)) = q at ha ⊢
    generalize (rest.map fun w => D.bl (decide (w ∈ sp))) = r at hq ha
    generalize (rest.length : Int) + 1 = n1 at hn e1
    generalize hS : RS mu sp (rd ++ [D.lst (rest.map D.str)]) false = S2 at *
    generalize rest.map D.str = lr at *
    generalize (("road" : Str) :: rest).map D.str = lw at *
    simp [f_LineReader_takes, g_LineReader_takes, dFun, sSeq, snext, sIf, sbind, sAsg, sRet, sSkip, sExpr, sPar, sSetI, sSetA, sAug, sFor, sTg, dVar, dC, dNil, dCons, dBind, obind, dTup, dLst, dFrz, MO.d, dReg, dFz, dOp1, dOp2, dCmp, dB2v, dTst, dAnd, dOr, dNot, dIf, dCall, dIx, dLook, lookD, dIsi, dIsi2, dIsC, dIn, dChn, dMut, lstOf, putO, dM1, tyOk, dNw1, dNw2, dSl, dP, dNoP, dIsN, dItQ, dItS, dRg1, dRg2, dEnum, dLc, dYes, noex, Tg.run, gSets, List.length_map, List.length_cons, List.length_nil, List.map_cons, List.map_nil, g0, g2, attrD, rd_ended, rd_spots, rd_roads, hi, eq_strs, hsr, hc, appD, h16, s2, hn, e1, hq, ha]
  · rw [decide_eq_false h2] at e1 ⊢
    generalize (rest.length : Int) + 1 = n1 at hn e1
    generalize hS : RS mu sp (rd ++ [D.lst (rest.map D.str)]) false = S2 at *
    generalize rest.map D.str = lr at *
    generalize (("road" : Str) :: rest).map D.str = lw at *
    simp [f_LineReader_takes, g_LineReader_takes, dFun, sSeq, snext, sIf, sbind, sAsg, sRet, sSkip, sExpr, sPar, sSetI, sSetA, sAug, sFor, sTg, dVar, dC, dNil, dCons, dBind, obind, dTup, dLst, dFrz, MO.d, dReg, dFz, dOp1, dOp2, dCmp, dB2v, dTst, dAnd, dOr, dNot, dIf, dCall, dIx, dLook, lookD, dIsi, dIsi2, dIsC, dIn, dChn, dMut, lstOf, putO, dM1, tyOk, dNw1, dNw2, dSl, dP, dNoP, dIsN, dItQ, dItS, dRg1, dRg2, dEnum, dLc, dYes, noex, Tg.run, gSets, List.length_map, List.length_cons, List.length_nil, List.map_cons, List.map_nil, g0, g2, attrD, rd_ended, rd_spots, rd_roads, hi, eq_strs, hsr, hc, appD, h16, s2, hn, e1]
theorem takes_otherA {x : Str} (rest : List Str) (h1 : x ≠ "spot") (h2 : x ≠ "road") : f_LineReader_takes [.obj mu.length, .lst ((x :: rest).map D.str)] (RS mu sp rd false) = .ok (.bl (decide (x :: rest = [("over" : Str)]) && !sp.isEmpty)) (RS mu sp rd (decide (x :: rest = [("over" : Str)]))) := by
  have g0 := rs0 mu sp rd false
  have k0 := rs0 mu sp rd (decide (x :: rest = [("over" : Str)]))
  have k1 := rs1 mu sp rd (decide (x :: rest = [("over" : Str)]))
  have s0 := rs0s mu sp rd false (decide (x :: rest = [("over" : Str)]))
  have hi := hd_ix x rest
  have e1 := eq_strsL (x :: rest) [("over" : Str)]
  have e1 : eqD (.lst ((x :: rest).map D.str)) (.lst [.str "over"]) = some (decide (x :: rest = [("over" : Str)])) := e1
  have hl := lenL D.str sp
  have hg : gtI (.int (sp.length : Int)) (.int 0) = some (!sp.isEmpty) := by
    cases sp with
    | nil => rfl
    | cons a l =>
      show some (decide _) = some true
      rw [decide_eq_true]
      rw [List.length_cons]
      omega
  generalize (!sp.isEmpty) = q2 at hg ⊢
  generalize (sp.length : Int) = n at hl hg
  generalize decide (x :: rest = [("over" : Str)]) = q1 at *
  generalize RS mu sp rd q1 = S2 at *
  generalize (x :: rest).map D.str = lw at *
  have h1' : ¬ ("spot" : Str) = x := fun e => h1 e.symm
  have h2' : ¬ ("road" : Str) = x := fun e => h2 e.symm
  cases q1 <;> simp [f_LineReader_takes, g_LineReader_takes, dFun, sSeq, snext, sIf, sbind, sAsg, sRet, sSkip, sExpr, sPar, sSetI, sSetA, sAug, sFor, sTg, dVar, dC, dNil, dCons, dBind, obind, dTup, dLst, dFrz, MO.d, dReg, dFz, dOp1, dOp2, dCmp, dB2v, dTst, dAnd, dOr, dNot, dIf, dCall, dIx, dLook, lookD, dIsi, dIsi2, dIsC, dIn, dChn, dMut, lstOf, putO, dM1, tyOk, dNw1, dNw2, dSl, dP, dNoP, dIsN, dItQ, dItS, dRg1, dRg2, dEnum, dLc, dYes, noex, Tg.run, gSets, List.length_map, List.length_cons, List.length_nil, List.map_cons, List.map_nil, g0, attrD, rd_ended, rd_spots, rd_roads, hi, eq_strs, h1', h2', e1, insOf, rd_put, rd_len, s0, k0, k1, hl, hg]
end
end DL
end

section
set_option Elab.async false
set_option linter.all false
set_option maxRecDepth 100000
set_option maxHeartbeats 4000000
namespace DL
open PySem
/-! Y6: a text read, by the program -/
inductive RdR where
  | text (at_ : Nat) (what : Str)
  | fin (sp : List Str) (rd : List (Str × Str)) (e : Bool)
/-- all lines but the last -/
def readI : List Str → Nat → List Str → List (Str × Str) → Bool → RdR
  | [], _, sp, rd, e => .fin sp rd e
  | l :: ls, k, sp, rd, e => if ("" : Str) ∈ Txt.split l " " then .text k "words" else match lnOf sp rd e (Txt.split l " ") with
    | .bad => .text k "form"
    | .spot w => readI ls (k + 1) (sp ++ [w]) rd false
    | .road a b => readI ls (k + 1) sp (rd ++ [(a, b)]) false
    | .over => readI ls (k + 1) sp rd true
section
variable {mu : Store}
def AfterT (mu : Store) (sp : List Str) (rd : List (Str × Str)) (b : Bool) (S : Store) : Ln → Prop
  | .bad => b = false ∧ ∃ k : Store, k.length = 3 ∧ S = mu ++ k
  | .spot w => b = true ∧ S = RS mu (sp ++ [w]) (rd.map rowS) false
  | .road x y => b = true ∧ S = RS mu sp ((rd ++ [(x, y)]).map rowS) false
  | .over => b = true ∧ S = RS mu sp (rd.map rowS) true
theorem rs_bad (mu : Store) (sp : List Str) (rd : List D) (e : Bool) : ∃ k : Store, k.length = 3 ∧ RS mu sp rd e = mu ++ k := ⟨_, rfl, rfl⟩
theorem lnOf_nil (sp : List Str) (rd : List (Str × Str)) : ∀ {ws : List Str} {x : Str} {rest : List Str}, ws = x :: rest → x ≠ "over" → x ≠ "spot" → x ≠ "road" → lnOf sp rd false ws = .bad
  | _, x, [], rfl, h1, h2, h3 => by unfold lnOf; simp [h1]
  | _, x, [a], rfl, h1, h2, h3 => by unfold lnOf; simp [h2]
  | _, x, [a, b], rfl, h1, h2, h3 => by unfold lnOf; simp [h3]
  | _, x, a :: b :: c :: r, rfl, h1, h2, h3 => by unfold lnOf; simp
theorem takes_any (sp : List Str) (rd : List (Str × Str)) (e : Bool) (ws : List Str) (hne : ws ≠ []) (h1 : sp.length + ws.length ≤ 1000000) (h2 : rd.length ≤ 1000000) (hz : ∀ w ∈ ws, w.length ≤ 1000000) :
    ∃ S b, f_LineReader_takes [.obj mu.length, .lst (ws.map D.str)] (RS mu sp (rd.map rowS) e) = .ok (.bl b) S ∧ AfterT mu sp rd b S (lnOf sp rd e ws) := by
  cases e with
  | true => exact ⟨_, false, takes_ended ws, rfl, rs_bad _ _ _ _⟩
  | false =>
    cases ws with
    | nil => exact absurd rfl hne
    | cons x rest =>
      rw [List.length_cons] at h1
      have hso : ¬ ("spot" : Str) = "over" := by decide +kernel
      have hsr : ¬ ("spot" : Str) = "road" := by decide +kernel
      have hro : ¬ ("road" : Str) = "over" := by decide +kernel
      have hrs : ¬ ("road" : Str) = "spot" := by decide +kernel
      have hos : ¬ ("over" : Str) = "spot" := by decide +kernel
      have hor : ¬ ("over" : Str) = "road" := by decide +kernel
      by_cases hx : x = "spot"
      · subst hx
        have e1 := takes_spotA (mu := mu) (sp := sp) (rd := rd.map rowS) rest (by omega) (fun w hw => hz w (List.mem_cons_of_mem _ hw))
        refine ⟨_, _, e1, ?_⟩
        match rest with
        | [] =>
          have : lnOf sp rd false [("spot" : Str)] = .bad := by unfold lnOf; simp [hso]
          rw [this]
          exact ⟨rfl, rs_bad _ _ _ _⟩
        | [w] =>
          by_cases hw : nameB w = true ∧ rd = []
          · have : lnOf sp rd false [("spot" : Str), w] = .spot w := by unfold lnOf; simp [hw]
            rw [this]
            obtain ⟨a, rfl⟩ := hw
            exact ⟨by show (true && (nameB w && true)) = true; rw [a]; rfl, rfl⟩
          · have : lnOf sp rd false [("spot" : Str), w] = .bad := by unfold lnOf; simp only [Bool.false_eq_true, if_false]; rw [if_neg (fun z => hw z.2)]
            rw [this]
            refine ⟨?_, rs_bad _ _ _ _⟩
            show (true && (nameB w && (rd.map rowS).isEmpty)) = false
            cases hn : nameB w with
            | false => rfl
            | true =>
              cases rd with
              | nil => exact absurd ⟨hn, rfl⟩ hw
              | cons p rd => rfl
        | w :: w2 :: r =>
          have : lnOf sp rd false (("spot" : Str) :: w :: w2 :: r) = .bad := by
            cases r with
            | nil => unfold lnOf; simp [hsr]
            | cons a r => rfl
          rw [this]
          refine ⟨?_, rs_bad _ _ _ _⟩
          have : decide ((w :: w2 :: r).length = 1) = false := decide_eq_false (by simp)
          rw [this]
          rfl
      by_cases hx2 : x = "road"
      · subst hx2
        have e1 := takes_roadA (mu := mu) (sp := sp) (rd := rd.map rowS) rest (by rw [List.length_map]; exact h2) (by omega)
        refine ⟨_, _, e1, ?_⟩
        match rest with
        | [] =>
          have : lnOf sp rd false [("road" : Str)] = .bad := by unfold lnOf; simp [hro]
          rw [this]
          exact ⟨rfl, rs_bad _ _ _ _⟩
        | [w] =>
          have : lnOf sp rd false [("road" : Str), w] = .bad := by unfold lnOf; simp [hrs]
          rw [this]
          exact ⟨rfl, rs_bad _ _ _ _⟩
        | [a, b] =>
          by_cases hw : a ∈ sp ∧ b ∈ sp
          · have : lnOf sp rd false [("road" : Str), a, b] = .road a b := by unfold lnOf; simp [hw]
            rw [this]
            refine ⟨by simp [hw], ?_⟩
            rw [List.map_append]
            rfl
          · have : lnOf sp rd false [("road" : Str), a, b] = .bad := by unfold lnOf; simp only [Bool.false_eq_true, if_false]; rw [if_neg (fun z => hw z.2)]
            rw [this]
            refine ⟨?_, rs_bad _ _ _ _⟩
            by_cases ha : a ∈ sp
            · have hb : b ∉ sp := fun hb => hw ⟨ha, hb⟩
              simp [hb]
            · simp [ha]
        | a :: b :: c :: r =>
          have : lnOf sp rd false (("road" : Str) :: a :: b :: c :: r) = .bad := rfl
          rw [this]
          refine ⟨?_, rs_bad _ _ _ _⟩
          have : decide ((a :: b :: c :: r).length = 2) = false := decide_eq_false (by simp)
          rw [this]
          rfl
      · have e1 := takes_otherA (mu := mu) (sp := sp) (rd := rd.map rowS) rest hx hx2
        refine ⟨_, _, e1, ?_⟩
        by_cases ho : x :: rest = [("over" : Str)] ∧ sp ≠ []
        · have : lnOf sp rd false (x :: rest) = .over := by rw [ho.1]; unfold lnOf; simp [ho.2]
          rw [this, decide_eq_true ho.1]
          refine ⟨?_, rfl⟩
          cases sp with
          | nil => exact absurd rfl ho.2
          | cons a l => rfl
        · have : lnOf sp rd false (x :: rest) = .bad := by
            by_cases hxo : x = "over"
            · subst hxo
              match rest with
              | [] =>
                have : sp = [] := Classical.byContradiction fun hs => ho ⟨rfl, hs⟩
                unfold lnOf
                simp [this]
              | [a] => unfold lnOf; simp [hos]
              | [a, b] => unfold lnOf; simp [hor]
              | a :: b :: c :: r => rfl
            · exact lnOf_nil sp rd rfl hxo hx hx2
          rw [this]
          refine ⟨?_, rs_bad _ _ _ _⟩
          by_cases hq : x :: rest = [("over" : Str)]
          · have : sp = [] := Classical.byContradiction fun hs => ho ⟨hq, hs⟩
            rw [this]
            simp
          · rw [decide_eq_false hq]
            rfl
end
end DL
end

section
set_option Elab.async false
set_option linter.all false
set_option maxRecDepth 100000
set_option maxHeartbeats 4000000
namespace DL
open PySem
/-! Y7: a text's lines, one behind another, by the program -/
theorem split_facts (x : Str) (y : Str) : Txt.split x y ≠ [] ∧ (Txt.split x y).length ≤ x.length + 2 ∧ ∀ w ∈ Txt.split x y, w.length ≤ x.length :=
  ⟨fun h => by have := PyProof.Rows.split_pos x y; rw [h] at this; exact absurd this (by decide), PyProof.Rows.split_le x y, fun w hw => PyProof.Rows.part_short hw⟩
def rwS (t : Option SV) (ls : List D) (L : Nat) (x5 x6 x7 : Option SV) : Sl := [t, some (.val (.lst ls)), some (.val (.obj L)), none, none, x5, x6, x7, none, none]
theorem rs_has (mu : Store) (sp : List Str) (rd : List D) (e : Bool) : hasC 1 "takes" (lookD (RS mu sp rd e) (.obj mu.length)) = true := by
  have h0 := rs0 mu sp rd e
  simp only [lookD, h0, MO.d, hasC, rd_takes]
  rfl
section
variable {mu : Store} {t : Option SV} {lns : List D}
theorem rd_turnA {k : Nat} (hk : k + 1 < lns.length) {x : Str} (hx : x.length ≤ 100000) (sp : List Str) (rd : List (Str × Str)) (e : Bool) (h1 : sp.length ≤ 400000) (h2 : rd.length ≤ 400000) (rest : List D) (x5 x6 x7 : Option SV) :
    (("" : Str) ∈ Txt.split x " " → ∃ sl' q, q.length = 3 ∧ sForL (.tp [5, 6]) b_read_web_1 (.tup [.int (k : Int), .str x] :: rest) (rwS t lns mu.length x5 x6 x7) (RS mu sp (rd.map rowS) e) = .ex 1002 [("line", .int (k : Int)), ("what", .str "words")] sl' (mu ++ q)) ∧
    (¬ ("" : Str) ∈ Txt.split x " " → ∃ S b, AfterT mu sp rd b S (lnOf sp rd e (Txt.split x " ")) ∧ 
      (b = false → ∃ sl', sForL (.tp [5, 6]) b_read_web_1 (.tup [.int (k : Int), .str x] :: rest) (rwS t lns mu.length x5 x6 x7) (RS mu sp (rd.map rowS) e) = .ex 1002 [("line", .int (k : Int)), ("what", .str "form")] sl' S) ∧
      (b = true → sForL (.tp [5, 6]) b_read_web_1 (.tup [.int (k : Int), .str x] :: rest) (rwS t lns mu.length x5 x6 x7) (RS mu sp (rd.map rowS) e) = sForL (.tp [5, 6]) b_read_web_1 rest (rwS t lns mu.length (some (.val (.int (k : Int)))) (some (.val (.str x))) (some (.val (.lst ((Txt.split x " ").map D.str))))) S)) := by
  obtain ⟨f1, f2, f3⟩ := split_facts x " "
  have hsp : splitD (.str x) (.str " ") = some (.lst ((Txt.split x " ").map D.str)) := by
    unfold splitD
    dsimp only
    rw [if_pos ⟨by decide +kernel, by omega⟩]
  have hlast : eqD (.int (k : Int)) (.int ((lns.length : Int) - 1)) = some false := by
    rw [eq_ints, decide_eq_false (by omega)]
  have hll : lenD (.lst lns) = some (.int (lns.length : Int)) := rfl
  have hs1 : subD (.int (lns.length : Int)) (.int 1) = some (.int ((lns.length : Int) - 1)) := rfl
  have hin := in_strs "" (Txt.split x " ")
  have hrun : (Tg.tp [5, 6]).run (.tup [.int (k : Int), .str x]) (rwS t lns mu.length x5 x6 x7) = some (rwS t lns mu.length (some (.val (.int (k : Int)))) (some (.val (.str x))) x7) := rfl
  have hkk : ∀ S l, lookD S (.lst l) = .lst l := fun _ _ => rfl
  have hty : ("str" = "str") := rfl
  refine ⟨fun hw => ?_, fun hw => ?_⟩
  · rw [decide_eq_true hw] at hin
    obtain ⟨q, hq, eq⟩ := rs_bad mu sp (rd.map rowS) e
    refine ⟨rwS t lns mu.length (some (.val (.int (k : Int)))) (some (.val (.str x))) (some (.val (.lst ((Txt.split x " ").map D.str)))), q, hq, ?_⟩
    rw [← eq]
    conv => lhs; unfold sForL
    rw [hrun]
    dsimp only
    have hb : b_read_web_1 (rwS t lns mu.length (some (.val (.int (k : Int)))) (some (.val (.str x))) x7) (RS mu sp (rd.map rowS) e) = .ex 1002 [("line", .int (k : Int)), ("what", .str "words")] (rwS t lns mu.length (some (.val (.int (k : Int)))) (some (.val (.str x))) (some (.val (.lst ((Txt.split x " ").map D.str))))) (RS mu sp (rd.map rowS) e) := by
      generalize RS mu sp (rd.map rowS) e = S
      generalize (Txt.split x " ").map D.str = lw at *
      unfold rwS
      simp [b_read_web_1, sRaise, dFun, sSeq, snext, sIf, sbind, sAsg, sRet, sSkip, sExpr, sPar, sSetI, sSetA, sAug, sFor, sTg, dVar, dC, dNil, dCons, dBind, obind, dTup, dLst, dFrz, MO.d, dReg, dFz, dOp1, dOp2, dCmp, dB2v, dTst, dAnd, dOr, dNot, dIf, dCall, dIx, dLook, dIsi, dIsi2, dIsC, dIn, dChn, dMut, lstOf, putO, dM1, tyOk, dNw1, dNw2, dSl, dP, dNoP, dIsN, dItQ, dItS, dRg1, dRg2, dEnum, dLc, dYes, noex, Tg.run, gSets, List.length_map, List.length_cons, List.length_nil, List.map_cons, List.map_nil, hkk, hsp, hll, hs1, hlast, hin]
    rw [hb]
  · rw [decide_eq_false hw] at hin
    obtain ⟨S, b, e1, e2⟩ := takes_any (mu := mu) sp rd e (Txt.split x " ") f1 (by omega) (by omega) (fun w hw => by have := f3 w hw; omega)
    refine ⟨S, b, e2, fun hb => ?_, fun hb => ?_⟩
    · subst hb
      refine ⟨rwS t lns mu.length (some (.val (.int (k : Int)))) (some (.val (.str x))) (some (.val (.lst ((Txt.split x " ").map D.str)))), ?_⟩
      conv => lhs; unfold sForL
      rw [hrun]
      dsimp only
      have hc := rs_has mu sp (rd.map rowS) e
      have hb : b_read_web_1 (rwS t lns mu.length (some (.val (.int (k : Int)))) (some (.val (.str x))) x7) (RS mu sp (rd.map rowS) e) = .ex 1002 [("line", .int (k : Int)), ("what", .str "form")] (rwS t lns mu.length (some (.val (.int (k : Int)))) (some (.val (.str x))) (some (.val (.lst ((Txt.split x " ").map D.str))))) S := by
        generalize RS mu sp (rd.map rowS) e = S0 at *
        generalize (Txt.split x " ").map D.str = lw at *
        unfold rwS
        simp [b_read_web_1, sRaise, dMeth, dFun, sSeq, snext, sIf, sbind, sAsg, sRet, sSkip, sExpr, sPar, sSetI, sSetA, sAug, sFor, sTg, dVar, dC, dNil, dCons, dBind, obind, dTup, dLst, dFrz, MO.d, dReg, dFz, dOp1, dOp2, dCmp, dB2v, dTst, dAnd, dOr, dNot, dIf, dCall, dIx, dLook, dIsi, dIsi2, dIsC, dIn, dChn, dMut, lstOf, putO, dM1, tyOk, dNw1, dNw2, dSl, dP, dNoP, dIsN, dItQ, dItS, dRg1, dRg2, dEnum, dLc, dYes, noex, Tg.run, gSets, List.length_map, List.length_cons, List.length_nil, List.map_cons, List.map_nil, hkk, hsp, hll, hs1, hlast, hin, hc, e1]
      rw [hb]
    · subst hb
      conv => lhs; unfold sForL
      rw [hrun]
      dsimp only
      have hc := rs_has mu sp (rd.map rowS) e
      have hb : b_read_web_1 (rwS t lns mu.length (some (.val (.int (k : Int)))) (some (.val (.str x))) x7) (RS mu sp (rd.map rowS) e) = .nx (rwS t lns mu.length (some (.val (.int (k : Int)))) (some (.val (.str x))) (some (.val (.lst ((Txt.split x " ").map D.str))))) S := by
        generalize RS mu sp (rd.map rowS) e = S0 at *
        generalize (Txt.split x " ").map D.str = lw at *
        unfold rwS
        simp [b_read_web_1, sRaise, dMeth, dFun, sSeq, snext, sIf, sbind, sAsg, sRet, sSkip, sExpr, sPar, sSetI, sSetA, sAug, sFor, sTg, dVar, dC, dNil, dCons, dBind, obind, dTup, dLst, dFrz, MO.d, dReg, dFz, dOp1, dOp2, dCmp, dB2v, dTst, dAnd, dOr, dNot, dIf, dCall, dIx, dLook, dIsi, dIsi2, dIsC, dIn, dChn, dMut, lstOf, putO, dM1, tyOk, dNw1, dNw2, dSl, dP, dNoP, dIsN, dItQ, dItS, dRg1, dRg2, dEnum, dLc, dYes, noex, Tg.run, gSets, List.length_map, List.length_cons, List.length_nil, List.map_cons, List.map_nil, hkk, hsp, hll, hs1, hlast, hin, hc, e1]
      rw [hb]
def LoopOk (mu : Store) (t : Option SV) (lns : List D) (rest : List D) (o : OutS) : RdR → Prop
  | .text k w => ∃ sl' q, q.length = 3 ∧ o = .ex 1002 [("line", .int (k : Int)), ("what", .str w)] sl' (mu ++ q)
  | .fin sp rd e => ∃ y5 y6 y7, o = sForL (.tp [5, 6]) b_read_web_1 rest (rwS t lns mu.length y5 y6 y7) (RS mu sp (rd.map rowS) e)
theorem rd_loopA (rest : List D) : ∀ (ls : List Str) (k : Nat) (sp : List Str) (rd : List (Str × Str)) (e : Bool) (x5 x6 x7 : Option SV), (∀ l ∈ ls, l.length ≤ 100000) → k + ls.length < lns.length → sp.length + ls.length ≤ 400000 → rd.length + ls.length ≤ 400000 →
    LoopOk mu t lns rest (sForL (.tp [5, 6]) b_read_web_1 (numD k (ls.map D.str) ++ rest) (rwS t lns mu.length x5 x6 x7) (RS mu sp (rd.map rowS) e)) (readI ls k sp rd e)
  | [], k, sp, rd, e, x5, x6, x7, _, _, _, _ => ⟨x5, x6, x7, rfl⟩
  | l :: ls, k, sp, rd, e, x5, x6, x7, hl, hk, h1, h2 => by
    rw [List.length_cons] at hk h1 h2
    have ht := rd_turnA (mu := mu) (t := t) (lns := lns) (k := k) (by omega) (hl l List.mem_cons_self) sp rd e (by omega) (by omega) (numD (k + 1) (ls.map D.str) ++ rest) x5 x6 x7
    have hl' := fun z hz => hl z (List.mem_cons_of_mem _ hz)
    rw [show numD k ((l :: ls).map D.str) ++ rest = .tup [.int (k : Int), .str l] :: (numD (k + 1) (ls.map D.str) ++ rest) from rfl]
    unfold readI
    by_cases hw : ("" : Str) ∈ Txt.split l " "
    · rw [if_pos hw]
      exact ht.1 hw
    · rw [if_neg hw]
      obtain ⟨S, b, h3, h4, h5⟩ := ht.2 hw
      cases hn : lnOf sp rd e (Txt.split l " ") with
      | bad =>
        rw [hn] at h3
        obtain ⟨hb, q, hq, rfl⟩ := h3
        obtain ⟨sl', e1⟩ := h4 hb
        exact ⟨sl', q, hq, e1⟩
      | spot w =>
        rw [hn] at h3
        obtain ⟨hb, rfl⟩ := h3
        rw [h5 hb]
        exact rd_loopA rest ls (k + 1) (sp ++ [w]) rd false _ _ _ hl' (by omega) (by rw [List.length_append, List.length_singleton]; omega) (by omega)
      | road a c =>
        rw [hn] at h3
        obtain ⟨hb, rfl⟩ := h3
        rw [h5 hb]
        exact rd_loopA rest ls (k + 1) sp (rd ++ [(a, c)]) false _ _ _ hl' (by omega) (by omega) (by rw [List.length_append, List.length_singleton]; omega)
      | over =>
        rw [hn] at h3
        obtain ⟨hb, rfl⟩ := h3
        rw [h5 hb]
        exact rd_loopA rest ls (k + 1) sp rd true _ _ _ hl' (by omega) (by omega) (by omega)
/-- the last line -/
theorem rd_lastA {k : Nat} (hk : k + 1 = lns.length) {x : Str} (hx : x.length ≤ 100000) (S : Store) (L : Nat) (x5 x6 x7 : Option SV) :
    (x ≠ "" → ∃ sl', sForL (.tp [5, 6]) b_read_web_1 [.tup [.int (k : Int), .str x]] (rwS t lns L x5 x6 x7) S = .ex 1002 [("line", .int (k : Int)), ("what", .str "feed")] sl' S) ∧
    (x = "" → ∃ y5 y6 y7, sForL (.tp [5, 6]) b_read_web_1 [.tup [.int (k : Int), .str x]] (rwS t lns L x5 x6 x7) S = .nx (rwS t lns L y5 y6 y7) S) := by
  have hsp : splitD (.str x) (.str " ") = some (.lst ((Txt.split x " ").map D.str)) := by
    unfold splitD
    dsimp only
    rw [if_pos ⟨by decide +kernel, by omega⟩]
  have hlast : eqD (.int (k : Int)) (.int ((lns.length : Int) - 1)) = some true := by
    rw [eq_ints, decide_eq_true (by omega)]
  have hll : lenD (.lst lns) = some (.int (lns.length : Int)) := rfl
  have hs1 : subD (.int (lns.length : Int)) (.int 1) = some (.int ((lns.length : Int) - 1)) := rfl
  have hrun : (Tg.tp [5, 6]).run (.tup [.int (k : Int), .str x]) (rwS t lns L x5 x6 x7) = some (rwS t lns L (some (.val (.int (k : Int)))) (some (.val (.str x))) x7) := rfl
  have hkk : ∀ S l, lookD S (.lst l) = .lst l := fun _ _ => rfl
  have hne := ne_strs x ""
  refine ⟨fun h => ?_, fun h => ?_⟩
  · rw [decide_eq_false h] at hne
    refine ⟨rwS t lns L (some (.val (.int (k : Int)))) (some (.val (.str x))) (some (.val (.lst ((Txt.split x " ").map D.str)))), ?_⟩
    conv => lhs; unfold sForL
    rw [hrun]
    dsimp only
    have hb : b_read_web_1 (rwS t lns L (some (.val (.int (k : Int)))) (some (.val (.str x))) x7) S = .ex 1002 [("line", .int (k : Int)), ("what", .str "feed")] (rwS t lns L (some (.val (.int (k : Int)))) (some (.val (.str x))) (some (.val (.lst ((Txt.split x " ").map D.str))))) S := by
      generalize (Txt.split x " ").map D.str = lw at *
      unfold rwS
      simp [b_read_web_1, sRaise, dFun, sSeq, snext, sIf, sbind, sAsg, sRet, sSkip, sExpr, sPar, sSetI, sSetA, sAug, sFor, sTg, dVar, dC, dNil, dCons, dBind, obind, dTup, dLst, dFrz, MO.d, dReg, dFz, dOp1, dOp2, dCmp, dB2v, dTst, dAnd, dOr, dNot, dIf, dCall, dIx, dLook, dIsi, dIsi2, dIsC, dIn, dChn, dMut, lstOf, putO, dM1, tyOk, dNw1, dNw2, dSl, dP, dNoP, dIsN, dItQ, dItS, dRg1, dRg2, dEnum, dLc, dYes, noex, Tg.run, gSets, List.length_map, List.length_cons, List.length_nil, List.map_cons, List.map_nil, hkk, hsp, hll, hs1, hlast, hne]
    rw [hb]
  · rw [decide_eq_true h] at hne
    refine ⟨some (.val (.int (k : Int))), some (.val (.str x)), some (.val (.lst ((Txt.split x " ").map D.str))), ?_⟩
    conv => lhs; unfold sForL
    rw [hrun]
    dsimp only
    have hb : b_read_web_1 (rwS t lns L (some (.val (.int (k : Int)))) (some (.val (.str x))) x7) S = .nx (rwS t lns L (some (.val (.int (k : Int)))) (some (.val (.str x))) (some (.val (.lst ((Txt.split x " ").map D.str))))) S := by
      generalize (Txt.split x " ").map D.str = lw at *
      unfold rwS
      simp [b_read_web_1, sRaise, dFun, sSeq, snext, sIf, sbind, sAsg, sRet, sSkip, sExpr, sPar, sSetI, sSetA, sAug, sFor, sTg, dVar, dC, dNil, dCons, dBind, obind, dTup, dLst, dFrz, MO.d, dReg, dFz, dOp1, dOp2, dCmp, dB2v, dTst, dAnd, dOr, dNot, dIf, dCall, dIx, dLook, dIsi, dIsi2, dIsC, dIn, dChn, dMut, lstOf, putO, dM1, tyOk, dNw1, dNw2, dSl, dP, dNoP, dIsN, dItQ, dItS, dRg1, dRg2, dEnum, dLc, dYes, noex, Tg.run, gSets, List.length_map, List.length_cons, List.length_nil, List.map_cons, List.map_nil, hkk, hsp, hll, hs1, hlast, hne]
    rw [hb]
    rfl
end
end DL
end

section
set_option Elab.async false
set_option linter.all false
set_option maxRecDepth 100000
set_option maxHeartbeats 4000000
namespace DL
open PySem
/-! Y8: a web read of any text, by the program -/
def ord (q : Nat × Nat) : Nat × Nat := if q.1 ≤ q.2 then q else (q.2, q.1)
theorem ord_le (q : Nat × Nat) : (ord q).1 ≤ (ord q).2 := by
  unfold ord
  split
  · assumption
  · show q.2 ≤ q.1; omega
theorem ord_lt {q : Nat × Nat} {n : Nat} (h1 : q.1 < n) (h2 : q.2 < n) : (ord q).2 < n := by
  unfold ord
  split
  · exact h2
  · exact h1
theorem sortN_two (i j : Nat) : sortN [i, j] = [(ord (i, j)).1, (ord (i, j)).2] := by
  unfold sortN ord
  by_cases h : i ≤ j
  · simp [List.mergeSort, List.MergeSort.Internal.splitInTwo, h]
  · simp [List.mergeSort, List.MergeSort.Internal.splitInTwo, h]
theorem nameB_word {x : Str} (h : nameB x = true) : Word x := by
  unfold nameB at h
  simp only [Bool.and_eq_true, decide_eq_true_iff, List.all_eq_true] at h
  exact ⟨fun c hc => h.1.2 c hc, by omega, by omega⟩
theorem strOk_word {x : Str} (h : Word x) : PyData.strOk x = true := by
  have hs : ∀ c ∈ TL.tl signs, c < 0x110000 := by decide +kernel
  unfold PyData.strOk
  rw [Array.all_eq_true_iff_forall_mem]
  intro c hc
  exact decide_eq_true (hs c (h.let_ c (by simpa using hc)))
def idxS (x : Str) : List Str → Nat
  | [] => 0
  | a :: l => if a = x then 0 else idxS x l + 1
theorem idxS_lt {x : Str} : ∀ {l : List Str}, x ∈ l → idxS x l < l.length
  | [], h => by cases h
  | a :: l, h => by
    unfold idxS
    rw [List.length_cons]
    by_cases e : a = x
    · rw [if_pos e]; omega
    · rw [if_neg e]
      have := idxS_lt (l := l) ((List.mem_cons.mp h).resolve_left fun z => e z.symm)
      omega
theorem findIdx_strs (x : Str) : ∀ {l : List Str}, x ∈ l → (l.map PyData.str).findIdx? (fun z => PyData.eqv z (.str x)) = some (idxS x l)
  | [], h => by cases h
  | a :: l, h => by
    rw [List.map_cons, List.findIdx?_cons]
    unfold idxS
    have hb : PyData.eqv (.str a) (.str x) = decide (a = x) := by
      show (a == x) = _
      rw [str_beq]
      exact decide_eq_decide.mpr ⟨Eq.symm, Eq.symm⟩
    rw [hb]
    by_cases e : a = x
    · rw [decide_eq_true e, if_pos rfl, if_pos e]
    · rw [decide_eq_false e, if_neg (by decide), if_neg e, findIdx_strs x ((List.mem_cons.mp h).resolve_left fun z => e z.symm)]
      rfl
theorem index_any {sp : List Str} (hf : ∀ x ∈ sp, nameB x = true) {x : Str} (h : x ∈ sp) : indexD (.lst (sp.map D.str)) (.str x) = some (.int (idxS x sp : Int)) := by
  have hsh : SeqAt.shaped (.list (sp.map PyData.str)) = true ∧ SeqAt.shaped (.str x) = true := by
    have key : ∀ l : List Str, (∀ x ∈ l, Word x) → PyData.canLayAll0 (l.map PyData.str) = true := fun l => by
      induction l with
      | nil => intro _; simp [PyData.canLayAll0]
      | cons a l ih =>
        intro hl
        rw [List.map_cons]
        simp [PyData.canLayAll0, PyData.canLay0, ih fun x hx => hl x (List.mem_cons_of_mem _ hx), strOk_word (hl a List.mem_cons_self)]
    have key := key sp fun x hx => nameB_word (hf x hx)
    refine ⟨?_, ?_⟩
    · unfold SeqAt.shaped
      rw [Bool.and_eq_true]
      refine ⟨?_, decide_eq_true ?_⟩
      · simp [PyData.canLay0, key]
      · simp [PyData.depth, depth_strs]
    · unfold SeqAt.shaped
      simp [PyData.canLay0, PyData.depth, strOk_word (nameB_word (hf x h))]
  unfold indexD
  dsimp only
  rw [toPL_strs]
  have hp : toP (.str x) = some (.str x) := rfl
  rw [hp]
  dsimp only
  rw [hsh.1, hsh.2, findIdx_strs x h]
  rfl
def prT (sp : List Str) (p : Str × Str) : Nat × Nat := ord (idxS p.1 sp, idxS p.2 sp)
theorem prT_ok {sp : List Str} {p : Str × Str} (h : p.1 ∈ sp ∧ p.2 ∈ sp) : (prT sp p).1 ≤ (prT sp p).2 ∧ (prT sp p).2 < sp.length := ⟨ord_le _, ord_lt (idxS_lt h.1) (idxS_lt h.2)⟩
theorem sorted_prT (sp : List Str) (p : Str × Str) : sortedD (.lst [.int (idxS p.1 sp : Int), .int (idxS p.2 sp : Int)]) = some (.lst [.int ((prT sp p).1 : Int), .int ((prT sp p).2 : Int)]) := by
  have := sorted_nat [idxS p.1 sp, idxS p.2 sp]
  rw [sortN_two] at this
  exact this
def RZ (mu : Store) (rd : Option MO) : Store := mu ++ [some (.ins 1 (rdF mu.length true)), none, rd]
section
variable {mu : Store} {sp : List Str} {rd : List (Str × Str)}
theorem q_rowA (hf : ∀ x ∈ sp, nameB x = true) {p : Str × Str} (h : p.1 ∈ sp ∧ p.2 ∈ sp) (S : Store) {a0 a1 a2 a4 a5 a6 a7 : Option SV} :
    q_read_web_1 [a0, a1, a2, some (.val (.lst (sp.map D.str))), a4, a5, a6, a7, some (.val (rowS p)), none] S = .ok (.lst [.int (idxS p.1 sp : Int), .int (idxS p.2 sp : Int)]) S :=
  lc_mapA (src := dItQ (dVar 8)) (g := .nm 9) (own := [9]) (elt := dM1 "list" indexD (dVar 3) (dVar 9)) (sl := [a0, a1, a2, some (.val (.lst (sp.map D.str))), a4, a5, a6, a7, some (.val (rowS p)), none]) (mu := S) (ls := [p.1, p.2]) D.str (fun x => D.int (idxS x sp : Int)) rfl (by show 2 ≤ 16000000; decide) (fun x hx => by
    have hm : x ∈ sp := by
      simp only [List.mem_cons, List.not_mem_nil, or_false] at hx
      rcases hx with rfl | rfl
      · exact h.1
      · exact h.2
    have e := index_any hf hm
    refine ⟨_, rfl, ?_⟩
    have hk : lookD S (.lst (sp.map D.str)) = .lst (sp.map D.str) := rfl
    generalize (idxS x sp : Int) = i at e ⊢
    generalize sp.map D.str = l at *
    simp [wipeS, dFun, sSeq, snext, sIf, sbind, sAsg, sRet, sSkip, sExpr, sPar, sSetI, sSetA, sAug, sFor, sTg, dVar, dC, dNil, dCons, dBind, obind, dTup, dLst, dFrz, MO.d, dReg, dFz, dOp1, dOp2, dCmp, dB2v, dTst, dAnd, dOr, dNot, dIf, dCall, dIx, dLook, dIsi, dIsi2, dIsC, dIn, dChn, dMut, lstOf, putO, dM1, tyOk, dNw1, dNw2, dSl, dP, dNoP, dIsN, dItQ, dItS, dRg1, dRg2, dEnum, dLc, dYes, noex, Tg.run, gSets, List.length_map, List.length_cons, List.length_nil, List.map_cons, List.map_nil, hk, e])
theorem q_rowsA (hf : ∀ x ∈ sp, nameB x = true) (hr : ∀ p ∈ rd, p.1 ∈ sp ∧ p.2 ∈ sp) (hl : rd.length ≤ 1000000) {a0 a1 a4 a5 a6 a7 : Option SV} :
    q_read_web_2 [a0, a1, some (.val (.obj mu.length)), some (.val (.lst (sp.map D.str))), a4, a5, a6, a7, none, none] (RZ mu (some (.lst (rd.map rowS)))) = .ok (.lst ((rd.map (prT sp)).map pD)) (RZ mu none) := by
  have g0 : (RZ mu (some (.lst (rd.map rowS))))[mu.length]? = some (some (.ins 1 (rdF mu.length true))) := by unfold RZ; simp
  have g2 : (RZ mu (some (.lst (rd.map rowS))))[mu.length + 2]? = some (some (.lst (rd.map rowS))) := by
    unfold RZ
    rw [List.getElem?_append_right (by omega)]
    simp
  have s2 : (RZ mu (some (.lst (rd.map rowS)))).set (mu.length + 2) none = RZ mu none := by
    unfold RZ
    rw [List.set_append_right _ _ (by omega)]
    simp
  have hsrc : dItQ (dFz (dOp1 (attrD "read_roads") (dLook (dVar 2)))) [a0, a1, some (.val (.obj mu.length)), some (.val (.lst (sp.map D.str))), a4, a5, a6, a7, none, none] (RZ mu (some (.lst (rd.map rowS)))) = .ok (rd.map rowS) (RZ mu none) := by
    simp only [dItQ, dFz, dOp1, dBind, obind, dLook, dVar, List.getElem?_cons_succ, List.getElem?_cons_zero, lookD, g0, MO.d, attrD, rd_roads, g2, s2]
  have key : ∀ (ws : List (Str × Str)) (acc : List D), (∀ p ∈ ws, p.1 ∈ sp ∧ p.2 ∈ sp) → dLcL (.nm 8) [a0, a1, some (.val (.obj mu.length)), some (.val (.lst (sp.map D.str))), a4, a5, a6, a7, none, none] dYes (dOp1 tupleD (dLook (dFrz (dNw1 sortedD (dLook (dFrz q_read_web_1)))))) (ws.map rowS) acc (RZ mu none) = .ok (.lst (acc ++ (ws.map (prT sp)).map pD)) (RZ mu none) := by
    intro ws
    induction ws with
    | nil => intro acc _; simp [dLcL]
    | cons w ws ih =>
      intro acc hw
      have hq := q_rowA hf (hw w List.mem_cons_self) (RZ mu none) (a0 := a0) (a1 := a1) (a2 := some (.val (.obj mu.length))) (a4 := a4) (a5 := a5) (a6 := a6) (a7 := a7)
      have hs := sorted_prT sp w
      have helt : dOp1 tupleD (dLook (dFrz (dNw1 sortedD (dLook (dFrz q_read_web_1))))) [a0, a1, some (.val (.obj mu.length)), some (.val (.lst (sp.map D.str))), a4, a5, a6, a7, some (.val (rowS w)), none] (RZ mu none) = .ok (pD (prT sp w)) (RZ mu none) := by
        simp only [dOp1, dBind, obind, dLook, dFrz, dNw1, hq, MO.d, lookD, hs, tupleD]
        rfl
      have e1 := ih (acc ++ [pD (prT sp w)]) fun x hx => hw x (List.mem_cons_of_mem _ hx)
      rw [List.map_cons]
      conv => lhs; unfold dLcL
      simp only [Tg.run, List.set_cons_succ, List.set_cons_zero, dYes, noex, obind, if_true, helt]
      rw [e1]
      simp
  unfold q_read_web_2 dLc
  unfold dBind obind
  rw [hsrc]
  dsimp only
  rw [if_pos (show sizeOk (rd.map rowS) = true from decide_eq_true (by rw [List.length_map]; omega))]
  have := key rd [] hr
  rw [List.nil_append] at this
  exact this
theorem rz_shut (h : Pl mu) : (RZ mu none).all (clM ((RZ mu none).length + 1)) = true := by
  unfold RZ
  rw [List.all_append, h, List.length_append]
  simp only [List.length_cons, List.length_nil, List.all_cons, List.all_nil, clM, rdF, clF, clD, Bool.true_and, Bool.and_true]
  simp
theorem lr_init (mu : Store) : f_LineReader_init [.obj mu.length] (mu ++ [some (.ins 1 [])]) = .ok .non (RS mu [] [] false) := by
  have i0 : insOf (mu ++ [some (MO.ins 1 []), some (.lst [])]) (.obj mu.length) = some (1, []) := by unfold insOf; simp
  have i1 : insOf (mu ++ [some (MO.ins 1 (putFD "read_spots" (.obj (mu.length + 1)) [])), some (.lst []), some (.lst [])]) (.obj mu.length) = some (1, putFD "read_spots" (.obj (mu.length + 1)) []) := by unfold insOf; simp
  have i2 : insOf (mu ++ [some (MO.ins 1 (putFD "read_roads" (.obj (mu.length + 2)) (putFD "read_spots" (.obj (mu.length + 1)) []))), some (.lst []), some (.lst [])]) (.obj mu.length) = some (1, putFD "read_roads" (.obj (mu.length + 2)) (putFD "read_spots" (.obj (mu.length + 1)) [])) := by unfold insOf; simp
  have p3 : putFD "ended" (.bl false) (putFD "read_roads" (.obj (mu.length + 2)) (putFD "read_spots" (.obj (mu.length + 1)) [])) = rdF mu.length false := rfl
  have l1 : (putFD "read_spots" (.obj (mu.length + 1)) []).length < 1000 := by show 1 < 1000; decide
  have l2 : (putFD "read_roads" (.obj (mu.length + 2)) (putFD "read_spots" (.obj (mu.length + 1)) [])).length < 1000 := by show 2 < 1000; decide
  simp [f_LineReader_init, g_LineReader_init, dFun, sSeq, snext, sIf, sbind, sAsg, sRet, sSkip, sExpr, sPar, sSetI, sSetA, sAug, sFor, sTg, dVar, dC, dNil, dCons, dBind, obind, dTup, dLst, dFrz, MO.d, dReg, dFz, dOp1, dOp2, dCmp, dB2v, dTst, dAnd, dOr, dNot, dIf, dCall, dIx, dLook, lookD, dIsi, dIsi2, dIsC, dIn, dChn, dMut, lstOf, putO, dM1, tyOk, dNw1, dNw2, dSl, dP, dNoP, dIsN, dItQ, dItS, dRg1, dRg2, dEnum, dLc, dYes, noex, Tg.run, gSets, List.length_map, List.length_cons, List.length_nil, List.map_cons, List.map_nil, i0, i1, i2, p3, l1, l2, RS]
end
/-- what the reader holds behind all lines but the last -/
theorem readI_inv : ∀ (ls : List Str) (k : Nat) (sp : List Str) (rd : List (Str × Str)) (e : Bool) {sp' : List Str} {rd' : List (Str × Str)} {e' : Bool}, readI ls k sp rd e = .fin sp' rd' e' →
    (∀ x ∈ sp, nameB x = true) → (∀ p ∈ rd, p.1 ∈ sp ∧ p.2 ∈ sp) → (e = true → sp ≠ []) → (∀ x ∈ sp', nameB x = true) ∧ (∀ p ∈ rd', p.1 ∈ sp' ∧ p.2 ∈ sp') ∧ (e' = true → sp' ≠ []) ∧ sp'.length ≤ sp.length + ls.length ∧ rd'.length ≤ rd.length + ls.length
  | [], k, sp, rd, e, sp', rd', e', h, h1, h2, h3 => by
    cases h
    exact ⟨h1, h2, h3, by simp, by simp⟩
  | l :: ls, k, sp, rd, e, sp', rd', e', h, h1, h2, h3 => by
    unfold readI at h
    rw [List.length_cons]
    by_cases hw : ("" : Str) ∈ Txt.split l " "
    · rw [if_pos hw] at h; cases h
    · rw [if_neg hw] at h
      have hcase : ∀ ws, (∀ w, lnOf sp rd e ws = .spot w → nameB w = true) ∧ (∀ a b, lnOf sp rd e ws = .road a b → a ∈ sp ∧ b ∈ sp) ∧ (lnOf sp rd e ws = .over → sp ≠ []) := by
        intro ws
        unfold lnOf
        by_cases he : e = true
        · rw [if_pos he]
          exact ⟨fun w h => (by cases h), fun a b h => (by cases h), fun h => (by cases h)⟩
        · rw [if_neg he]
          match ws with
          | [] => exact ⟨fun w h => (by cases h), fun a b h => (by cases h), fun h => (by cases h)⟩
          | [x] =>
            dsimp only
            by_cases hc : x = "over" ∧ sp ≠ []
            · rw [if_pos hc]
              exact ⟨fun w h => (by cases h), fun a b h => (by cases h), fun _ => hc.2⟩
            · rw [if_neg hc]
              exact ⟨fun w h => (by cases h), fun a b h => (by cases h), fun h => (by cases h)⟩
          | [x, w] =>
            dsimp only
            by_cases hc : x = "spot" ∧ nameB w = true ∧ rd = []
            · rw [if_pos hc]
              exact ⟨fun w' h => (by cases h; exact hc.2.1), fun a b h => (by cases h), fun h => (by cases h)⟩
            · rw [if_neg hc]
              exact ⟨fun w h => (by cases h), fun a b h => (by cases h), fun h => (by cases h)⟩
          | [x, a, b] =>
            dsimp only
            by_cases hc : x = "road" ∧ a ∈ sp ∧ b ∈ sp
            · rw [if_pos hc]
              exact ⟨fun w' h => (by cases h), fun a' b' h => (by cases h; exact hc.2), fun h => (by cases h)⟩
            · rw [if_neg hc]
              exact ⟨fun w h => (by cases h), fun a b h => (by cases h), fun h => (by cases h)⟩
          | _ :: _ :: _ :: _ :: _ => exact ⟨fun w h => (by cases h), fun a b h => (by cases h), fun h => (by cases h)⟩
      obtain ⟨c1, c2, c3⟩ := hcase (Txt.split l " ")
      cases hn : lnOf sp rd e (Txt.split l " ") with
      | bad => rw [hn] at h; cases h
      | spot w =>
        rw [hn] at h
        have := readI_inv ls (k + 1) (sp ++ [w]) rd false h (fun x hx => by
          rcases List.mem_append.mp hx with hx | hx
          · exact h1 x hx
          · rw [List.mem_singleton] at hx; rw [hx]; exact c1 w hn) (fun p hp => ⟨List.mem_append_left _ (h2 p hp).1, List.mem_append_left _ (h2 p hp).2⟩) (fun z => by cases z)
        rw [List.length_append, List.length_singleton] at this
        exact ⟨this.1, this.2.1, this.2.2.1, by have := this.2.2.2.1; omega, by have := this.2.2.2.2; omega⟩
      | road a b =>
        rw [hn] at h
        have := readI_inv ls (k + 1) sp (rd ++ [(a, b)]) false h h1 (fun p hp => by
          rcases List.mem_append.mp hp with hp | hp
          · exact h2 p hp
          · rw [List.mem_singleton] at hp; rw [hp]; exact c2 a b hn) (fun z => by cases z)
        rw [List.length_append, List.length_singleton] at this
        exact ⟨this.1, this.2.1, this.2.2.1, by have := this.2.2.2.1; omega, by have := this.2.2.2.2; omega⟩
      | over =>
        rw [hn] at h
        have := readI_inv ls (k + 1) sp rd true h h1 h2 (fun _ => c3 hn)
        exact ⟨this.1, this.2.1, this.2.2.1, by have := this.2.2.2.1; omega, by have := this.2.2.2.2; omega⟩
/-- what a text is -/
def readT (text : Str) : RdR := match readI (Txt.split text "\n").dropLast 0 [] [] false with
  | .text k w => .text k w
  | .fin sp rd e => if (Txt.split text "\n").getLastD "" ≠ "" then .text ((Txt.split text "\n").length - 1) "feed" else if e = true then .fin sp rd true else .text ((Txt.split text "\n").length - 1) "missing"
def readO (text : Str) (mu : Store) : Out D := match readT text with
  | .text k w => .ex 1002 [("line", .int (k : Int)), ("what", .str w)] mu
  | .fin sp rd _ => match faultT sp (rd.map (prT sp)) with
    | some w => .ex 1001 [("what", .str w)] mu
    | none => .ok (webD sp (rd.map (prT sp))) mu
end DL
end

section
set_option Elab.async false
set_option linter.all false
set_option maxRecDepth 100000
set_option maxHeartbeats 4000000
namespace DL
open PySem
/-! Y9: read_web of any text -/
def rw0 : SF :=
  (sIf (dNot (dIsi .str (dLook (dVar 0)))) (sRaise 1002 ["line", "what"] (dCons (dC (.int 0)) (dCons (dC (.str "text")) dNil))) sSkip)
def rw1 : SF :=
  (sAsg 1 (dM1 "str" splitD (dVar 0) (dC (.str "\n"))))
def rw2 : SF :=
  (sAsg 2 (dMake 1 f_LineReader_init dNil))
def rw3 : SF :=
  (sFor (dEnumQ (dVar 1)) (.tp [5, 6]) b_read_web_1)
def rw4 : SF :=
  (sIf (dNot (dTst (dOp1 (attrD "ended") (dLook (dVar 2))))) (sRaise 1002 ["line", "what"] (dCons (dOp2 subD (dOp1 lenD (dLook (dVar 1))) (dC (.int 1))) (dCons (dC (.str "missing")) dNil))) sSkip)
def rw5 : SF :=
  (sAsg 3 (dFz (dOp1 (attrD "read_spots") (dLook (dVar 2)))))
def rw6 : SF :=
  (sAsg 4 (dFrz q_read_web_2))
def rw7 : SF :=
  (sRet (dFz (dMake 0 f_Web_init (dCons (dVar 3) (dCons (dVar 4) dNil)))))
theorem rw_eq : g_read_web = (sSeq rw0 (sSeq rw1 (sSeq rw2 (sSeq rw3 (sSeq rw4 (sSeq rw5 (sSeq rw6 rw7))))))) := rfl
theorem look_ins {S : Store} {k c : Nat} {fs : List (Str × D)} (g : S[k]? = some (some (.ins c fs))) : lookD S (.obj k) = .ins c fs := by
  unfold lookD
  simp [g]
  rfl
theorem num_app : ∀ (a b : List D) (k : Nat), numD k (a ++ b) = numD k a ++ numD (k + a.length) b
  | [], b, k => rfl
  | x :: a, b, k => by
    simp only [List.cons_append, numD, num_app a b, List.length_cons]
    rw [show k + 1 + a.length = k + (a.length + 1) by omega]
theorem gc_exA {p : FF} {ds : List D} {mu mu' : Store} {c : Nat} {fs : List (Str × D)} (h : p ds mu = .ex c fs mu') (ht : mu'.take mu.length = mu) (hp : Pl mu) (hd : clF mu.length fs = true) : fGc p ds mu = .ex c fs mu := by
  unfold fGc
  rw [h]
  unfold gcO
  dsimp only
  rw [ht, hp, hd]
  rfl
theorem last_app : ∀ (l : List Str), l ≠ [] → l = l.dropLast ++ [l.getLastD ""]
  | [], h => absurd rfl h
  | [a], _ => rfl
  | a :: b :: l, _ => by
    have := last_app (b :: l) (by simp)
    show a :: b :: l = a :: ((b :: l).dropLast ++ [(b :: l).getLastD ""])
    rw [← this]
theorem split_last (text sep : Str) : Txt.split text sep = (Txt.split text sep).dropLast ++ [(Txt.split text sep).getLastD ""] := last_app _ (split_facts text sep).1
theorem read_any {text : Str} (hz : text.length ≤ 90000) {mu : Store} (hmu : Pl mu) : f_read_web [.str text] mu = readO text mu := by
  obtain ⟨f1, f2, f3⟩ := split_facts text "\n"
  have hsp : splitD (.str text) (.str "\n") = some (.lst ((Txt.split text "\n").map D.str)) := by
    unfold splitD
    dsimp only
    rw [if_pos ⟨by decide +kernel, by omega⟩]
  have hlast := split_last text "\n"
  have hdl : ((Txt.split text "\n").dropLast).length + 1 = (Txt.split text "\n").length := by
    have := congrArg List.length hlast
    rw [List.length_append, List.length_singleton] at this
    exact this.symm
  have hbd : ∀ l ∈ (Txt.split text "\n").dropLast, l.length ≤ 100000 := fun l hl => by
    have := f3 l (List.dropLast_subset _ hl)
    omega
  have hlb : ((Txt.split text "\n").getLastD "").length ≤ 100000 := by
    have hm : (Txt.split text "\n").getLastD "" ∈ Txt.split text "\n" := by
      rw [hlast]
      simp
    have := f3 _ hm
    omega
  unfold readO readT
  generalize hls : Txt.split text "\n" = ls at *
  generalize hin : ls.dropLast = ini at *
  generalize hla : ls.getLastD "" = last at *
  have hlen : (ls.map D.str).length = ini.length + 1 := by rw [List.length_map, hdl]
  have hk1 : ls.length - 1 = ini.length := by omega
  rw [hk1]
  have hnum : numD 0 (ls.map D.str) = numD 0 (ini.map D.str) ++ [.tup [.int (ini.length : Int), .str last]] := by
    rw [hlast, List.map_append, num_app, List.length_map, Nat.zero_add]
    rfl
  have hloop := rd_loopA (mu := mu) (t := some (.val (.str text))) (lns := ls.map D.str) [.tup [.int (ini.length : Int), .str last]] ini 0 [] [] false none none none hbd (by rw [hlen]; omega) (by simp; omega) (by simp; omega)
  have hlst := fun S y5 y6 y7 => rd_lastA (t := some (.val (.str text))) (lns := ls.map D.str) (k := ini.length) hlen.symm hlb S mu.length y5 y6 y7
  rw [← hnum] at hloop
  have hsrc : ∀ S, dEnumQ (dVar 1) (rwS (some (.val (.str text))) (ls.map D.str) mu.length none none none) S = .ok (numD 0 (ls.map D.str)) S := fun S => rfl
  have hgo : ∀ o, dFun 10 g_read_web [.str text] mu = o → f_read_web [.str text] mu = gcO clD mu.length o := fun o h => by
    unfold f_read_web fGc
    rw [h]
  have start : ∀ o, sSeq rw3 (sSeq rw4 (sSeq rw5 (sSeq rw6 rw7))) (rwS (some (.val (.str text))) (ls.map D.str) mu.length none none none) (RS mu [] [] false) = o → g_read_web [some (.val (.str text)), none, none, none, none, none, none, none, none, none] mu = o := fun o h => by
    rw [rw_eq, ← h]
    have s0 : rw0 [some (.val (.str text)), none, none, none, none, none, none, none, none, none] mu = .nx [some (.val (.str text)), none, none, none, none, none, none, none, none, none] mu := rfl
    have s1 : rw1 [some (.val (.str text)), none, none, none, none, none, none, none, none, none] mu = .nx [some (.val (.str text)), some (.val (.lst (ls.map D.str))), none, none, none, none, none, none, none, none] mu := by
      generalize ls.map D.str = l at *
      simp [rw1, dFun, sSeq, snext, sIf, sbind, sAsg, sRet, sSkip, sExpr, sPar, sSetI, sSetA, sAug, sFor, sTg, dVar, dC, dNil, dCons, dBind, obind, dTup, dLst, dFrz, MO.d, dReg, dFz, dOp1, dOp2, dCmp, dB2v, dTst, dAnd, dOr, dNot, dIf, dCall, dIx, dLook, dIsi, dIsi2, dIsC, dIn, dChn, dMut, lstOf, putO, dM1, tyOk, dNw1, dNw2, dSl, dP, dNoP, dIsN, dItQ, dItS, dRg1, dRg2, dEnum, dLc, dYes, noex, Tg.run, gSets, List.length_map, List.length_cons, List.length_nil, List.map_cons, List.map_nil, hsp]
    have s2 : rw2 [some (.val (.str text)), some (.val (.lst (ls.map D.str))), none, none, none, none, none, none, none, none] mu = .nx (rwS (some (.val (.str text))) (ls.map D.str) mu.length none none none) (RS mu [] [] false) := by
      have := lr_init mu
      unfold rwS
      generalize ls.map D.str = l at *
      simp [rw2, dMake, dFun, sSeq, snext, sIf, sbind, sAsg, sRet, sSkip, sExpr, sPar, sSetI, sSetA, sAug, sFor, sTg, dVar, dC, dNil, dCons, dBind, obind, dTup, dLst, dFrz, MO.d, dReg, dFz, dOp1, dOp2, dCmp, dB2v, dTst, dAnd, dOr, dNot, dIf, dCall, dIx, dLook, dIsi, dIsi2, dIsC, dIn, dChn, dMut, lstOf, putO, dM1, tyOk, dNw1, dNw2, dSl, dP, dNoP, dIsN, dItQ, dItS, dRg1, dRg2, dEnum, dLc, dYes, noex, Tg.run, gSets, List.length_map, List.length_cons, List.length_nil, List.map_cons, List.map_nil, this]
    exact (seq_nx s0).trans ((seq_nx s1).trans (seq_nx s2))
  have hte : ∀ q : Store, (mu ++ q).take mu.length = mu := fun q => take_app mu q
  have hex : ∀ c fs sl' q, clF mu.length fs = true → sSeq rw3 (sSeq rw4 (sSeq rw5 (sSeq rw6 rw7))) (rwS (some (.val (.str text))) (ls.map D.str) mu.length none none none) (RS mu [] [] false) = .ex c fs sl' (mu ++ q) → f_read_web [.str text] mu = .ex c fs mu := fun c fs sl' q hc h =>
    gc_exA (fun_ex (n := 10) (g := g_read_web) (start _ h)) (hte q) hmu hc
  cases hri : readI ini 0 [] [] false with
  | text k w =>
    rw [hri] at hloop
    obtain ⟨sl', q, _, e1⟩ := hloop
    exact hex 1002 _ sl' q rfl (seq_ex ((for_src (hsrc _)).trans e1))
  | fin sp rd e =>
    rw [hri] at hloop
    obtain ⟨y5, y6, y7, e1⟩ := hloop
    obtain ⟨i1, i2, i3, i4, i5⟩ := readI_inv ini 0 [] [] false hri (fun x hx => by cases hx) (fun p hp => by cases hp) (fun z => by cases z)
    rw [List.length_nil, Nat.zero_add] at i4 i5
    obtain ⟨l1, l2⟩ := hlst (RS mu sp (rd.map rowS) e) y5 y6 y7
    obtain ⟨qb, _, hqb⟩ := rs_bad mu sp (rd.map rowS) e
    dsimp only
    by_cases hne : last ≠ ""
    · rw [if_pos hne]
      obtain ⟨sl', e2⟩ := l1 hne
      rw [hqb] at e2
      refine hex 1002 _ sl' qb rfl (seq_ex ((for_src (hsrc _)).trans (e1.trans ?_)))
      rw [hqb]
      exact e2
    · rw [if_neg hne]
      obtain ⟨z5, z6, z7, e2⟩ := l2 (Classical.not_not.mp hne)
      have s3 : rw3 (rwS (some (.val (.str text))) (ls.map D.str) mu.length none none none) (RS mu [] [] false) = .nx (rwS (some (.val (.str text))) (ls.map D.str) mu.length z5 z6 z7) (RS mu sp (rd.map rowS) e) := (for_src (hsrc _)).trans (e1.trans e2)
      have g0 := rs0 mu sp (rd.map rowS) e
      have g1 := rs1 mu sp (rd.map rowS) e
      cases e with
      | false =>
        rw [if_neg (by decide)]
        refine hex 1002 [("line", .int (ini.length : Int)), ("what", .str "missing")] (rwS (some (.val (.str text))) (ls.map D.str) mu.length z5 z6 z7) qb rfl ((seq_nx s3).trans (seq_ex ?_))
        rw [← hqb]
        have hll : lenD (.lst (ls.map D.str)) = some (.int ((ini.length : Int) + 1)) := by
          show some (D.int ((ls.map D.str).length : Int)) = _
          rw [hlen]
          rfl
        have hs1 : subD (.int ((ini.length : Int) + 1)) (.int 1) = some (.int (ini.length : Int)) := by
          show some (D.int _) = _
          congr 2
          omega
        generalize RS mu sp (rd.map rowS) false = S at *
        have hkk : ∀ S l, lookD S (.lst l) = .lst l := fun _ _ => rfl
        have hk0 : lookD S (.obj mu.length) = .ins 1 (rdF mu.length false) := look_ins g0
        unfold rwS
        generalize ls.map D.str = l at *
        simp [rw4, sRaise, dFun, sSeq, snext, sIf, sbind, sAsg, sRet, sSkip, sExpr, sPar, sSetI, sSetA, sAug, sFor, sTg, dVar, dC, dNil, dCons, dBind, obind, dTup, dLst, dFrz, MO.d, dReg, dFz, dOp1, dOp2, dCmp, dB2v, dTst, dAnd, dOr, dNot, dIf, dCall, dIx, dLook, dIsi, dIsi2, dIsC, dIn, dChn, dMut, lstOf, putO, dM1, tyOk, dNw1, dNw2, dSl, dP, dNoP, dIsN, dItQ, dItS, dRg1, dRg2, dEnum, dLc, dYes, noex, Tg.run, gSets, List.length_map, List.length_cons, List.length_nil, List.map_cons, List.map_nil, hk0, attrD, rd_ended, hkk, hll, hs1]
      | true =>
        rw [if_pos rfl]
        dsimp only
        have hsp0 := i3 rfl
        have hsp1 : 1 ≤ sp.length := List.length_pos_iff.mpr hsp0
        have hprs : ∀ q ∈ rd.map (prT sp), q.1 ≤ q.2 ∧ q.2 < sp.length := fun q hq => by
          obtain ⟨p, hp, rfl⟩ := List.mem_map.mp hq
          exact prT_ok (i2 p hp)
        have s4 : rw4 (rwS (some (.val (.str text))) (ls.map D.str) mu.length z5 z6 z7) (RS mu sp (rd.map rowS) true) = .nx (rwS (some (.val (.str text))) (ls.map D.str) mu.length z5 z6 z7) (RS mu sp (rd.map rowS) true) := by
          generalize RS mu sp (rd.map rowS) true = S at *
          have hk0 : lookD S (.obj mu.length) = .ins 1 (rdF mu.length true) := look_ins g0
          unfold rwS
          generalize ls.map D.str = l at *
          simp [rw4, dFun, sSeq, snext, sIf, sbind, sAsg, sRet, sSkip, sExpr, sPar, sSetI, sSetA, sAug, sFor, sTg, dVar, dC, dNil, dCons, dBind, obind, dTup, dLst, dFrz, MO.d, dReg, dFz, dOp1, dOp2, dCmp, dB2v, dTst, dAnd, dOr, dNot, dIf, dCall, dIx, dLook, dIsi, dIsi2, dIsC, dIn, dChn, dMut, lstOf, putO, dM1, tyOk, dNw1, dNw2, dSl, dP, dNoP, dIsN, dItQ, dItS, dRg1, dRg2, dEnum, dLc, dYes, noex, Tg.run, gSets, List.length_map, List.length_cons, List.length_nil, List.map_cons, List.map_nil, hk0, attrD, rd_ended]
        have sz : (RS mu sp (rd.map rowS) true).set (mu.length + 1) none = RZ mu (some (.lst (rd.map rowS))) := by
          unfold RS RZ
          rw [List.set_append_right _ _ (by omega)]
          simp
        have s5 : rw5 (rwS (some (.val (.str text))) (ls.map D.str) mu.length z5 z6 z7) (RS mu sp (rd.map rowS) true) = .nx [some (.val (.str text)), some (.val (.lst (ls.map D.str))), some (.val (.obj mu.length)), some (.val (.lst (sp.map D.str))), none, z5, z6, z7, none, none] (RZ mu (some (.lst (rd.map rowS)))) := by
          generalize RS mu sp (rd.map rowS) true = S at *
          have hk0 : lookD S (.obj mu.length) = .ins 1 (rdF mu.length true) := look_ins g0
          unfold rwS
          generalize ls.map D.str = l at *
          generalize sp.map D.str = l2 at *
          simp [rw5, dFun, sSeq, snext, sIf, sbind, sAsg, sRet, sSkip, sExpr, sPar, sSetI, sSetA, sAug, sFor, sTg, dVar, dC, dNil, dCons, dBind, obind, dTup, dLst, dFrz, MO.d, dReg, dFz, dOp1, dOp2, dCmp, dB2v, dTst, dAnd, dOr, dNot, dIf, dCall, dIx, dLook, dIsi, dIsi2, dIsC, dIn, dChn, dMut, lstOf, putO, dM1, tyOk, dNw1, dNw2, dSl, dP, dNoP, dIsN, dItQ, dItS, dRg1, dRg2, dEnum, dLc, dYes, noex, Tg.run, gSets, List.length_map, List.length_cons, List.length_nil, List.map_cons, List.map_nil, hk0, attrD, rd_spots, g1, sz]
        have s6 : rw6 [some (.val (.str text)), some (.val (.lst (ls.map D.str))), some (.val (.obj mu.length)), some (.val (.lst (sp.map D.str))), none, z5, z6, z7, none, none] (RZ mu (some (.lst (rd.map rowS)))) = .nx [some (.val (.str text)), some (.val (.lst (ls.map D.str))), some (.val (.obj mu.length)), some (.val (.lst (sp.map D.str))), some (.val (.lst ((rd.map (prT sp)).map pD))), z5, z6, z7, none, none] (RZ mu none) :=
          asg_ok (sl := [some (.val (.str text)), some (.val (.lst (ls.map D.str))), some (.val (.obj mu.length)), some (.val (.lst (sp.map D.str))), none, z5, z6, z7, none, none]) (frz_lst (q_rowsA i1 i2 (by omega)))
        have upto : ∀ o, rw7 [some (.val (.str text)), some (.val (.lst (ls.map D.str))), some (.val (.obj mu.length)), some (.val (.lst (sp.map D.str))), some (.val (.lst ((rd.map (prT sp)).map pD))), z5, z6, z7, none, none] (RZ mu none) = o → sSeq rw3 (sSeq rw4 (sSeq rw5 (sSeq rw6 rw7))) (rwS (some (.val (.str text))) (ls.map D.str) mu.length none none none) (RS mu [] [] false) = o := fun o h =>
          (seq_nx s3).trans ((seq_nx s4).trans ((seq_nx s5).trans ((seq_nx s6).trans h)))
        cases hft : faultT sp (rd.map (prT sp)) with
        | some w =>
          dsimp only
          have e7 := init_bad i1 hsp1 (by omega) hprs (by rw [List.length_map]; omega) hft (.obj (RZ mu none).length) (RZ mu none ++ [some (.ins 0 [])])
          refine hex 1001 _ _ ([some (.ins 1 (rdF mu.length true)), none, none] ++ [some (.ins 0 [])]) rfl (upto (.ex 1001 [("what", .str w)] [some (.val (.str text)), some (.val (.lst (ls.map D.str))), some (.val (.obj mu.length)), some (.val (.lst (sp.map D.str))), some (.val (.lst ((rd.map (prT sp)).map pD))), z5, z6, z7, none, none] _) ?_)
          have hz2 : mu ++ ([some (MO.ins 1 (rdF mu.length true)), none, none] ++ [some (.ins 0 [])]) = RZ mu none ++ [some (.ins 0 [])] := by unfold RZ; simp
          rw [hz2]
          generalize RZ mu none = S at *
          generalize ls.map D.str = l at *
          generalize sp.map D.str = l2 at *
          generalize (rd.map (prT sp)).map pD = l3 at *
          simp [rw7, dMake, dFun, sSeq, snext, sIf, sbind, sAsg, sRet, sSkip, sExpr, sPar, sSetI, sSetA, sAug, sFor, sTg, dVar, dC, dNil, dCons, dBind, obind, dTup, dLst, dFrz, MO.d, dReg, dFz, dOp1, dOp2, dCmp, dB2v, dTst, dAnd, dOr, dNot, dIf, dCall, dIx, dLook, dIsi, dIsi2, dIsC, dIn, dChn, dMut, lstOf, putO, dM1, tyOk, dNw1, dNw2, dSl, dP, dNoP, dIsN, dItQ, dItS, dRg1, dRg2, dEnum, dLc, dYes, noex, Tg.run, gSets, List.length_map, List.length_cons, List.length_nil, List.map_cons, List.map_nil, e7]
        | none =>
          dsimp only
          have hweb := faultT_web i1 hsp1 hprs hft
          have e7 := init_ok hweb (mu := RZ mu none) (rz_shut hmu)
          have gz : (RZ mu none ++ [some (MO.ins 0 (webF sp (rd.map (prT sp))))])[(RZ mu none).length]? = some (some (.ins 0 (webF sp (rd.map (prT sp))))) := by simp
          have tz : (RZ mu none ++ [some (MO.ins 0 (webF sp (rd.map (prT sp))))]).set (RZ mu none).length none = RZ mu none ++ [none] := by simp
          have key : dFun 10 g_read_web [.str text] mu = .ok (webD sp (rd.map (prT sp))) (mu ++ ([some (.ins 1 (rdF mu.length true)), none, none] ++ [none])) := by
            refine fun_rt (n := 10) (g := g_read_web) (start _ (upto _ ?_))
            have hz2 : mu ++ ([some (MO.ins 1 (rdF mu.length true)), none, none] ++ [none]) = RZ mu none ++ [none] := by unfold RZ; simp
            rw [hz2]
            unfold webD
            generalize RZ mu none = S at *
            generalize ls.map D.str = l at *
            generalize sp.map D.str = l2 at *
            generalize (rd.map (prT sp)).map pD = l3 at *
            generalize webF sp (rd.map (prT sp)) = wf at *
            simp [rw7, dMake, dFun, sSeq, snext, sIf, sbind, sAsg, sRet, sSkip, sExpr, sPar, sSetI, sSetA, sAug, sFor, sTg, dVar, dC, dNil, dCons, dBind, obind, dTup, dLst, dFrz, MO.d, dReg, dFz, dOp1, dOp2, dCmp, dB2v, dTst, dAnd, dOr, dNot, dIf, dCall, dIx, dLook, dIsi, dIsi2, dIsC, dIn, dChn, dMut, lstOf, putO, dM1, tyOk, dNw1, dNw2, dSl, dP, dNoP, dIsN, dItQ, dItS, dRg1, dRg2, dEnum, dLc, dYes, noex, Tg.run, gSets, List.length_map, List.length_cons, List.length_nil, List.map_cons, List.map_nil, e7, gz, tz]
          exact gc_of key (hte _) hmu fun n => cl_webF n sp (rd.map (prT sp))
end DL
end

section
set_option Elab.async false
set_option linter.all false
set_option maxRecDepth 100000
set_option maxHeartbeats 4000000
namespace DL
open PySem
/-! Y10: one line, by the law's reader -/
def lr0 : SF :=
  (sAsg 7 (dM1 "str" splitD (dVar 6) (dC (.str " "))))
def lr1 : SF :=
  (sIf (dIn false (dC (.str "")) (dLook (dVar 7))) (sRet (dTup (dCons (dC (.str "text")) (dCons (dVar 5) (dCons (dC (.str "words")) dNil))))) sSkip)
def lr2 : SF :=
  (sAsg 8 (dB2v (dAnd (dCmp eqD (dIx (dVar 7) (dC (.int 0))) (dC (.str "spot"))) (dAnd (dCmp eqD (dOp1 lenD (dLook (dVar 7))) (dC (.int 2))) (dAnd (dCmp eqD (dVar 3) (dFrz (dLst dNil))) (dTst (dCall f__law_is_name (dCons (dIx (dVar 7) (dC (.int 1))) dNil))))))))
def lr3 : SF :=
  (sAsg 8 (dB2v (dOr (dTst (dVar 8)) (dAnd (dCmp eqD (dIx (dVar 7) (dC (.int 0))) (dC (.str "road"))) (dAnd (dCmp eqD (dOp1 lenD (dLook (dVar 7))) (dC (.int 3))) (dCmp eqD (dFrz q__law_reader_1) (dFrz (dLst dNil))))))))
def lr4 : SF :=
  (sIf (dOr (dTst (dVar 4)) (dNot (dOr (dTst (dVar 8)) (dAnd (dCmp eqD (dVar 7) (dFrz (dLst (dCons (dC (.str "over")) dNil)))) (dCmp neD (dVar 2) (dFrz (dLst dNil))))))) (sRet (dTup (dCons (dC (.str "text")) (dCons (dVar 5) (dCons (dC (.str "form")) dNil))))) sSkip)
def lr5 : SF :=
  (sAsg 4 (dB2v (dCmp eqD (dVar 7) (dFrz (dLst (dCons (dC (.str "over")) dNil))))))
def lr6 : SF :=
  (sAsg 2 (dOp2 addD (dVar 2) (dIf (dCmp eqD (dIx (dVar 7) (dC (.int 0))) (dC (.str "spot"))) (dSl (dVar 7) (dP (dC (.int 1))) dNoP) (dFrz (dLst dNil)))))
def lr7 : SF :=
  (sAsg 3 (dOp2 addD (dVar 3) (dIf (dCmp eqD (dIx (dVar 7) (dC (.int 0))) (dC (.str "road"))) (dFrz (dLst (dCons (dSl (dVar 7) (dP (dC (.int 1))) dNoP) dNil))) (dFrz (dLst dNil)))))
theorem lr_eq : b__law_reader_1 = (sSeq lr0 (sSeq lr1 (sSeq lr2 (sSeq lr3 (sSeq lr4 (sSeq lr5 (sSeq lr6 lr7))))))) := rfl
def isSp (rd : List (Str × Str)) : List Str → Bool
  | [x, w] => decide (x = "spot") && (rd.isEmpty && nameB w)
  | _ => false
def isRo (sp : List Str) : List Str → Bool
  | [x, a, b] => decide (x = "road") && (decide (a ∈ sp) && decide (b ∈ sp))
  | _ => false
def isOv (sp : List Str) (ws : List Str) : Bool := decide (ws = [("over" : Str)]) && !sp.isEmpty
def LnIs (sp : List Str) (rd : List (Str × Str)) (ws : List Str) : Ln → Prop
  | .bad => isSp rd ws = false ∧ isRo sp ws = false ∧ isOv sp ws = false
  | .spot w => ws = [("spot" : Str), w] ∧ isSp rd ws = true ∧ w.length ≤ 8
  | .road a b => ws = [("road" : Str), a, b] ∧ isRo sp ws = true
  | .over => ws = [("over" : Str)] ∧ isOv sp ws = true
theorem ln_is (sp : List Str) (rd : List (Str × Str)) (ws : List Str) : LnIs sp rd ws (lnOf sp rd false ws) := by
  unfold lnOf
  simp only [Bool.false_eq_true, if_false]
  match ws with
  | [] => exact ⟨rfl, rfl, rfl⟩
  | [x] =>
    dsimp only
    by_cases hc : x = "over" ∧ sp ≠ []
    · rw [if_pos hc]
      obtain ⟨rfl, h2⟩ := hc
      refine ⟨rfl, ?_⟩
      cases sp with
      | nil => exact absurd rfl h2
      | cons a l => rfl
    · rw [if_neg hc]
      refine ⟨rfl, rfl, ?_⟩
      unfold isOv
      by_cases hx : x = "over"
      · have : sp = [] := Classical.byContradiction fun h => hc ⟨hx, h⟩
        rw [this]
        simp
      · rw [decide_eq_false (fun e => hx (by injection e))]
        rfl
  | [x, w] =>
    dsimp only
    have ho : isOv sp [x, w] = false := by
      unfold isOv
      rw [decide_eq_false (fun e => by injection e with _ e; cases e)]
      rfl
    by_cases hc : x = "spot" ∧ nameB w = true ∧ rd = []
    · rw [if_pos hc]
      obtain ⟨rfl, h2, rfl⟩ := hc
      refine ⟨rfl, ?_, (nb_len h2).2⟩
      show (decide (("spot" : Str) = "spot") && (true && nameB w)) = true
      rw [h2, decide_eq_true rfl]
      rfl
    · rw [if_neg hc]
      refine ⟨?_, rfl, ho⟩
      show (decide (x = "spot") && (rd.isEmpty && nameB w)) = false
      by_cases hx : x = "spot"
      · rw [decide_eq_true hx, Bool.true_and]
        cases rd with
        | nil =>
          cases hn : nameB w with
          | false => rfl
          | true => exact absurd ⟨hx, hn, rfl⟩ hc
        | cons p rd => rfl
      · rw [decide_eq_false hx, Bool.false_and]
  | [x, a, b] =>
    dsimp only
    have ho : isOv sp [x, a, b] = false := by
      unfold isOv
      rw [decide_eq_false (fun e => by injection e with _ e; cases e)]
      rfl
    by_cases hc : x = "road" ∧ a ∈ sp ∧ b ∈ sp
    · rw [if_pos hc]
      obtain ⟨rfl, h2, h3⟩ := hc
      refine ⟨rfl, ?_⟩
      show (decide (("road" : Str) = "road") && (decide (a ∈ sp) && decide (b ∈ sp))) = true
      rw [decide_eq_true rfl, decide_eq_true h2, decide_eq_true h3]
      rfl
    · rw [if_neg hc]
      refine ⟨rfl, ?_, ho⟩
      show (decide (x = "road") && (decide (a ∈ sp) && decide (b ∈ sp))) = false
      by_cases hx : x = "road"
      · by_cases ha : a ∈ sp
        · have hb : b ∉ sp := fun hb => hc ⟨hx, ha, hb⟩
          rw [decide_eq_false hb, Bool.and_false, Bool.and_false]
        · rw [decide_eq_false ha, Bool.false_and, Bool.and_false]
      · rw [decide_eq_false hx, Bool.false_and]
  | a :: b :: c :: d :: l =>
    refine ⟨rfl, rfl, ?_⟩
    unfold isOv
    rw [decide_eq_false (fun e => by injection e with _ e; cases e)]
    rfl
def LR (t : Option SV) (lns : List D) (sp : List Str) (rd : List (Str × Str)) (e : Bool) (x5 x6 x7 x8 : Option SV) : Sl := [t, some (.val (.lst lns)), some (.val (.lst (sp.map D.str))), some (.val (.lst (rd.map rowS))), some (.val (.bl e)), x5, x6, x7, x8, none, none, none]
section
variable {t : Option SV} {lns : List D} {sp : List Str} {rd : List (Str × Str)} {e : Bool} {x5 x6 x8 : Option SV} {x : Str} {rest : List Str} {mu : Store}
theorem rd_nil : eqD (.lst (rd.map rowS)) (.lst []) = some rd.isEmpty := by
  rw [eq_nil fun d hd => by
    obtain ⟨p, _, rfl⟩ := List.mem_map.mp hd
    exact ⟨_, rfl⟩]
  cases rd <;> rfl
theorem sp_nil : neD (.lst (sp.map D.str)) (.lst []) = some (!sp.isEmpty) := by
  rw [ne_nil fun d hd => by
    obtain ⟨p, _, rfl⟩ := List.mem_map.mp hd
    exact ⟨_, rfl⟩]
  cases sp <;> rfl
theorem lr2_ok (hz : ∀ w ∈ rest, w.length ≤ 1000000) : lr2 (LR t lns sp rd e x5 x6 (some (.val (.lst ((x :: rest).map D.str)))) x8) mu = .nx (LR t lns sp rd e x5 x6 (some (.val (.lst ((x :: rest).map D.str)))) (some (.val (.bl (isSp rd (x :: rest)))))) mu := by
  have h0 := hd_ix x rest
  have hl := len_cons2 x rest
  have e0 := eq_strs x "spot"
  have e1 := eq_ints ((rest.length : Int) + 1) 2
  have e2 := rd_nil (rd := rd)
  have hk : ∀ l, lookD mu (.lst l) = .lst l := fun _ => rfl
  by_cases hx : "spot" = x
  · rw [decide_eq_true hx] at e0
    by_cases h1 : rest.length = 1
    · obtain ⟨w, rfl⟩ := List.length_eq_one_iff.mp h1
      have h3 : ixD (.lst ((x :: [w]).map D.str)) (.int 1) = some (.str w) := ix_nat (l := (x :: [w]).map D.str) (i := 1) rfl
      have e3 := law_name_any (x := w) (by have := hz w List.mem_cons_self; omega) mu
      rw [decide_eq_true (by show (1 : Int) + 1 = 2; omega)] at e1
      have hv : isSp rd [x, w] = (rd.isEmpty && nameB w) := by
        show (decide (x = "spot") && _) = _
        rw [decide_eq_true hx.symm, Bool.true_and]
      rw [hv]
      unfold LR
      generalize rd.isEmpty = q1 at *
      generalize nameB w = q2 at *
      generalize (([w] : List Str).length : Int) + 1 = n at *
      generalize (x :: [w]).map D.str = lw at *
      generalize rd.map rowS = lr at *
      cases q1 <;> simp [lr2, dFun, sSeq, snext, sIf, sbind, sAsg, sRet, sSkip, sExpr, sPar, sSetI, sSetA, sAug, sFor, sTg, dVar, dC, dNil, dCons, dBind, obind, dTup, dLst, dFrz, MO.d, dReg, dFz, dOp1, dOp2, dCmp, dB2v, dTst, dAnd, dOr, dNot, dIf, dCall, dIx, dLook, dIsi, dIsi2, dIsC, dIn, dChn, dMut, lstOf, putO, dM1, tyOk, dNw1, dNw2, dSl, dP, dNoP, dIsN, dItQ, dItS, dRg1, dRg2, dEnum, dLc, dYes, noex, Tg.run, gSets, List.length_map, List.length_cons, List.length_nil, List.map_cons, List.map_nil, h0, e0, hk, hl, e1, e2, h3, e3]
    · rw [decide_eq_false (by omega)] at e1
      have hv : isSp rd (x :: rest) = false := by
        match rest with
        | [] => rfl
        | [w] => exact absurd rfl h1
        | _ :: _ :: _ => rfl
      rw [hv]
      unfold LR
      generalize (rest.length : Int) + 1 = n at *
      generalize (x :: rest).map D.str = lw at *
      simp [lr2, dFun, sSeq, snext, sIf, sbind, sAsg, sRet, sSkip, sExpr, sPar, sSetI, sSetA, sAug, sFor, sTg, dVar, dC, dNil, dCons, dBind, obind, dTup, dLst, dFrz, MO.d, dReg, dFz, dOp1, dOp2, dCmp, dB2v, dTst, dAnd, dOr, dNot, dIf, dCall, dIx, dLook, dIsi, dIsi2, dIsC, dIn, dChn, dMut, lstOf, putO, dM1, tyOk, dNw1, dNw2, dSl, dP, dNoP, dIsN, dItQ, dItS, dRg1, dRg2, dEnum, dLc, dYes, noex, Tg.run, gSets, List.length_map, List.length_cons, List.length_nil, List.map_cons, List.map_nil, h0, e0, hk, hl, e1]
  · rw [decide_eq_false hx] at e0
    have hv : isSp rd (x :: rest) = false := by
      match rest with
      | [] => rfl
      | [w] =>
        show (decide (x = "spot") && _) = false
        rw [decide_eq_false (fun z => hx z.symm), Bool.false_and]
      | _ :: _ :: _ => rfl
    rw [hv]
    unfold LR
    generalize (x :: rest).map D.str = lw at *
    simp [lr2, dFun, sSeq, snext, sIf, sbind, sAsg, sRet, sSkip, sExpr, sPar, sSetI, sSetA, sAug, sFor, sTg, dVar, dC, dNil, dCons, dBind, obind, dTup, dLst, dFrz, MO.d, dReg, dFz, dOp1, dOp2, dCmp, dB2v, dTst, dAnd, dOr, dNot, dIf, dCall, dIx, dLook, dIsi, dIsi2, dIsC, dIn, dChn, dMut, lstOf, putO, dM1, tyOk, dNw1, dNw2, dSl, dP, dNoP, dIsN, dItQ, dItS, dRg1, dRg2, dEnum, dLc, dYes, noex, Tg.run, gSets, List.length_map, List.length_cons, List.length_nil, List.map_cons, List.map_nil, h0, e0]
theorem lr3_ok (q : Bool) (hz : rest.length ≤ 1000000) : lr3 (LR t lns sp rd e x5 x6 (some (.val (.lst ((x :: rest).map D.str)))) (some (.val (.bl q)))) mu = .nx (LR t lns sp rd e x5 x6 (some (.val (.lst ((x :: rest).map D.str)))) (some (.val (.bl (q || isRo sp (x :: rest)))))) mu := by
  have h0 := hd_ix x rest
  have hl := len_cons2 x rest
  have e0 := eq_strs x "road"
  have e1 := eq_ints ((rest.length : Int) + 1) 3
  have hk : ∀ l, lookD mu (.lst l) = .lst l := fun _ => rfl
  have hc := tl_sl x rest
  cases q with
  | true =>
    unfold LR
    generalize (x :: rest).map D.str = lw at *
    simp [lr3, dFun, sSeq, snext, sIf, sbind, sAsg, sRet, sSkip, sExpr, sPar, sSetI, sSetA, sAug, sFor, sTg, dVar, dC, dNil, dCons, dBind, obind, dTup, dLst, dFrz, MO.d, dReg, dFz, dOp1, dOp2, dCmp, dB2v, dTst, dAnd, dOr, dNot, dIf, dCall, dIx, dLook, dIsi, dIsi2, dIsC, dIn, dChn, dMut, lstOf, putO, dM1, tyOk, dNw1, dNw2, dSl, dP, dNoP, dIsN, dItQ, dItS, dRg1, dRg2, dEnum, dLc, dYes, noex, Tg.run, gSets, List.length_map, List.length_cons, List.length_nil, List.map_cons, List.map_nil]
  | false =>
    rw [Bool.false_or]
    by_cases hx : "road" = x
    · rw [decide_eq_true hx] at e0
      by_cases h1 : rest.length = 2
      · have hq : q__law_reader_1 (LR t lns sp rd e x5 x6 (some (.val (.lst ((x :: rest).map D.str)))) (some (.val (.bl false)))) mu = .ok (.lst ((rest.filter fun w => !decide (w ∈ sp)).map D.str)) mu :=
          lc_filter (src := dItQ (dSl (dVar 7) (dP (dC (.int 1))) dNoP)) (g := .nm 11) (own := [11]) (c := dIn true (dVar 11) (dLook (dVar 2))) (elt := dVar 11) (sl := LR t lns sp rd e x5 x6 (some (.val (.lst ((x :: rest).map D.str)))) (some (.val (.bl false)))) (mu := mu) (ls := rest) D.str (fun w => !decide (w ∈ sp)) (by
            unfold LR
            generalize (x :: rest).map D.str = lw at *
            simp [dFun, sSeq, snext, sIf, sbind, sAsg, sRet, sSkip, sExpr, sPar, sSetI, sSetA, sAug, sFor, sTg, dVar, dC, dNil, dCons, dBind, obind, dTup, dLst, dFrz, MO.d, dReg, dFz, dOp1, dOp2, dCmp, dB2v, dTst, dAnd, dOr, dNot, dIf, dCall, dIx, dLook, dIsi, dIsi2, dIsC, dIn, dChn, dMut, lstOf, putO, dM1, tyOk, dNw1, dNw2, dSl, dP, dNoP, dIsN, dItQ, dItS, dRg1, dRg2, dEnum, dLc, dYes, noex, Tg.run, gSets, List.length_map, List.length_cons, List.length_nil, List.map_cons, List.map_nil, hc]) (by omega) (fun w hw => by
            have hin := in_strs w sp
            refine ⟨_, rfl, ?_, fun _ => rfl⟩
            unfold LR
            generalize decide (w ∈ sp) = b at *
            generalize (x :: rest).map D.str = lw at *
            generalize sp.map D.str = ls at *
            simp [wipeS, dFun, sSeq, snext, sIf, sbind, sAsg, sRet, sSkip, sExpr, sPar, sSetI, sSetA, sAug, sFor, sTg, dVar, dC, dNil, dCons, dBind, obind, dTup, dLst, dFrz, MO.d, dReg, dFz, dOp1, dOp2, dCmp, dB2v, dTst, dAnd, dOr, dNot, dIf, dCall, dIx, dLook, dIsi, dIsi2, dIsC, dIn, dChn, dMut, lstOf, putO, dM1, tyOk, dNw1, dNw2, dSl, dP, dNoP, dIsN, dItQ, dItS, dRg1, dRg2, dEnum, dLc, dYes, noex, Tg.run, gSets, List.length_map, List.length_cons, List.length_nil, List.map_cons, List.map_nil, hk, hin])
        rw [decide_eq_true (by omega)] at e1
        obtain ⟨a, b, rfl⟩ : ∃ a b, rest = [a, b] := by
          match rest, h1 with
          | [a, b], _ => exact ⟨a, b, rfl⟩
        have e2 : eqD (.lst ((([a, b] : List Str).filter fun w => !decide (w ∈ sp)).map D.str)) (.lst []) = some (decide (a ∈ sp) && decide (b ∈ sp)) := by
          rw [eq_nil fun d hd => by
            obtain ⟨p, _, rfl⟩ := List.mem_map.mp hd
            exact ⟨_, rfl⟩]
          by_cases ha : a ∈ sp <;> by_cases hb : b ∈ sp <;> simp [ha, hb]
        have hv : isRo sp [x, a, b] = (decide (a ∈ sp) && decide (b ∈ sp)) := by
          show (decide (x = "road") && _) = _
          rw [decide_eq_true hx.symm, Bool.true_and]
        rw [hv]
        generalize (decide (a ∈ sp) && decide (b ∈ sp)) = q1 at *
        generalize (([a, b] : List Str).filter fun w => !decide (w ∈ sp)).map D.str = lf at *
        unfold lr3
        generalize q__law_reader_1 = Q at hq ⊢
        unfold LR at hq ⊢
        generalize (([a, b] : List Str).length : Int) + 1 = n at *
        generalize (x :: [a, b]).map D.str = lw at *
        simp [dFun, sSeq, snext, sIf, sbind, sAsg, sRet, sSkip, sExpr, sPar, sSetI, sSetA, sAug, sFor, sTg, dVar, dC, dNil, dCons, dBind, obind, dTup, dLst, dFrz, MO.d, dReg, dFz, dOp1, dOp2, dCmp, dB2v, dTst, dAnd, dOr, dNot, dIf, dCall, dIx, dLook, dIsi, dIsi2, dIsC, dIn, dChn, dMut, lstOf, putO, dM1, tyOk, dNw1, dNw2, dSl, dP, dNoP, dIsN, dItQ, dItS, dRg1, dRg2, dEnum, dLc, dYes, noex, Tg.run, gSets, List.length_map, List.length_cons, List.length_nil, List.map_cons, List.map_nil, h0, e0, hk, hl, e1, hq, e2]
      · rw [decide_eq_false (by omega)] at e1
        have hv : isRo sp (x :: rest) = false := by
          match rest with
          | [] => rfl
          | [w] => rfl
          | [a, b] => exact absurd rfl h1
          | _ :: _ :: _ :: _ => rfl
        rw [hv]
        unfold LR
        generalize (rest.length : Int) + 1 = n at *
        generalize (x :: rest).map D.str = lw at *
        simp [lr3, dFun, sSeq, snext, sIf, sbind, sAsg, sRet, sSkip, sExpr, sPar, sSetI, sSetA, sAug, sFor, sTg, dVar, dC, dNil, dCons, dBind, obind, dTup, dLst, dFrz, MO.d, dReg, dFz, dOp1, dOp2, dCmp, dB2v, dTst, dAnd, dOr, dNot, dIf, dCall, dIx, dLook, dIsi, dIsi2, dIsC, dIn, dChn, dMut, lstOf, putO, dM1, tyOk, dNw1, dNw2, dSl, dP, dNoP, dIsN, dItQ, dItS, dRg1, dRg2, dEnum, dLc, dYes, noex, Tg.run, gSets, List.length_map, List.length_cons, List.length_nil, List.map_cons, List.map_nil, h0, e0, hk, hl, e1]
    · rw [decide_eq_false hx] at e0
      have hv : isRo sp (x :: rest) = false := by
        match rest with
        | [] => rfl
        | [w] => rfl
        | [a, b] =>
          show (decide (x = "road") && _) = false
          rw [decide_eq_false (fun z => hx z.symm), Bool.false_and]
        | _ :: _ :: _ :: _ => rfl
      rw [hv]
      unfold LR
      generalize (x :: rest).map D.str = lw at *
      simp [lr3, dFun, sSeq, snext, sIf, sbind, sAsg, sRet, sSkip, sExpr, sPar, sSetI, sSetA, sAug, sFor, sTg, dVar, dC, dNil, dCons, dBind, obind, dTup, dLst, dFrz, MO.d, dReg, dFz, dOp1, dOp2, dCmp, dB2v, dTst, dAnd, dOr, dNot, dIf, dCall, dIx, dLook, dIsi, dIsi2, dIsC, dIn, dChn, dMut, lstOf, putO, dM1, tyOk, dNw1, dNw2, dSl, dP, dNoP, dIsN, dItQ, dItS, dRg1, dRg2, dEnum, dLc, dYes, noex, Tg.run, gSets, List.length_map, List.length_cons, List.length_nil, List.map_cons, List.map_nil, h0, e0]
theorem lr1_ok {k : Nat} (ws : List Str) : (("" : Str) ∈ ws → lr1 (LR t lns sp rd e (some (.val (.int (k : Int)))) x6 (some (.val (.lst (ws.map D.str)))) x8) mu = .rt (.tup [.str "text", .int (k : Int), .str "words"]) mu) ∧
    (¬ ("" : Str) ∈ ws → lr1 (LR t lns sp rd e (some (.val (.int (k : Int)))) x6 (some (.val (.lst (ws.map D.str)))) x8) mu = .nx (LR t lns sp rd e (some (.val (.int (k : Int)))) x6 (some (.val (.lst (ws.map D.str)))) x8) mu) := by
  have hin := in_strs "" ws
  have hk : ∀ l, lookD mu (.lst l) = .lst l := fun _ => rfl
  refine ⟨fun h => ?_, fun h => ?_⟩
  · rw [decide_eq_true h] at hin
    unfold LR
    generalize ws.map D.str = lw at *
    simp [lr1, dFun, sSeq, snext, sIf, sbind, sAsg, sRet, sSkip, sExpr, sPar, sSetI, sSetA, sAug, sFor, sTg, dVar, dC, dNil, dCons, dBind, obind, dTup, dLst, dFrz, MO.d, dReg, dFz, dOp1, dOp2, dCmp, dB2v, dTst, dAnd, dOr, dNot, dIf, dCall, dIx, dLook, dIsi, dIsi2, dIsC, dIn, dChn, dMut, lstOf, putO, dM1, tyOk, dNw1, dNw2, dSl, dP, dNoP, dIsN, dItQ, dItS, dRg1, dRg2, dEnum, dLc, dYes, noex, Tg.run, gSets, List.length_map, List.length_cons, List.length_nil, List.map_cons, List.map_nil, hk, hin]
  · rw [decide_eq_false h] at hin
    unfold LR
    generalize ws.map D.str = lw at *
    simp [lr1, dFun, sSeq, snext, sIf, sbind, sAsg, sRet, sSkip, sExpr, sPar, sSetI, sSetA, sAug, sFor, sTg, dVar, dC, dNil, dCons, dBind, obind, dTup, dLst, dFrz, MO.d, dReg, dFz, dOp1, dOp2, dCmp, dB2v, dTst, dAnd, dOr, dNot, dIf, dCall, dIx, dLook, dIsi, dIsi2, dIsC, dIn, dChn, dMut, lstOf, putO, dM1, tyOk, dNw1, dNw2, dSl, dP, dNoP, dIsN, dItQ, dItS, dRg1, dRg2, dEnum, dLc, dYes, noex, Tg.run, gSets, List.length_map, List.length_cons, List.length_nil, List.map_cons, List.map_nil, hk, hin]
theorem lr4_ok {k : Nat} (ws : List Str) (q : Bool) : lr4 (LR t lns sp rd e (some (.val (.int (k : Int)))) x6 (some (.val (.lst (ws.map D.str)))) (some (.val (.bl q)))) mu = if (e || !(q || isOv sp ws)) = true then .rt (.tup [.str "text", .int (k : Int), .str "form"]) mu else .nx (LR t lns sp rd e (some (.val (.int (k : Int)))) x6 (some (.val (.lst (ws.map D.str)))) (some (.val (.bl q)))) mu := by
  have e1 : eqD (.lst (ws.map D.str)) (.lst [.str "over"]) = some (decide (ws = [("over" : Str)])) := eq_strsL ws [("over" : Str)]
  have e2 := sp_nil (sp := sp)
  unfold isOv LR
  generalize decide (ws = [("over" : Str)]) = q1 at *
  generalize (!sp.isEmpty) = q2 at *
  generalize sp.map D.str = ls at *
  generalize ws.map D.str = lw at *
  cases e with
  | true => simp [lr4, dFun, sSeq, snext, sIf, sbind, sAsg, sRet, sSkip, sExpr, sPar, sSetI, sSetA, sAug, sFor, sTg, dVar, dC, dNil, dCons, dBind, obind, dTup, dLst, dFrz, MO.d, dReg, dFz, dOp1, dOp2, dCmp, dB2v, dTst, dAnd, dOr, dNot, dIf, dCall, dIx, dLook, dIsi, dIsi2, dIsC, dIn, dChn, dMut, lstOf, putO, dM1, tyOk, dNw1, dNw2, dSl, dP, dNoP, dIsN, dItQ, dItS, dRg1, dRg2, dEnum, dLc, dYes, noex, Tg.run, gSets, List.length_map, List.length_cons, List.length_nil, List.map_cons, List.map_nil]
  | false =>
    cases q with
    | true => simp [lr4, dFun, sSeq, snext, sIf, sbind, sAsg, sRet, sSkip, sExpr, sPar, sSetI, sSetA, sAug, sFor, sTg, dVar, dC, dNil, dCons, dBind, obind, dTup, dLst, dFrz, MO.d, dReg, dFz, dOp1, dOp2, dCmp, dB2v, dTst, dAnd, dOr, dNot, dIf, dCall, dIx, dLook, dIsi, dIsi2, dIsC, dIn, dChn, dMut, lstOf, putO, dM1, tyOk, dNw1, dNw2, dSl, dP, dNoP, dIsN, dItQ, dItS, dRg1, dRg2, dEnum, dLc, dYes, noex, Tg.run, gSets, List.length_map, List.length_cons, List.length_nil, List.map_cons, List.map_nil]
    | false =>
      cases q1 with
      | false => simp [lr4, dFun, sSeq, snext, sIf, sbind, sAsg, sRet, sSkip, sExpr, sPar, sSetI, sSetA, sAug, sFor, sTg, dVar, dC, dNil, dCons, dBind, obind, dTup, dLst, dFrz, MO.d, dReg, dFz, dOp1, dOp2, dCmp, dB2v, dTst, dAnd, dOr, dNot, dIf, dCall, dIx, dLook, dIsi, dIsi2, dIsC, dIn, dChn, dMut, lstOf, putO, dM1, tyOk, dNw1, dNw2, dSl, dP, dNoP, dIsN, dItQ, dItS, dRg1, dRg2, dEnum, dLc, dYes, noex, Tg.run, gSets, List.length_map, List.length_cons, List.length_nil, List.map_cons, List.map_nil, e1]
      | true => cases q2 <;> simp [lr4, dFun, sSeq, snext, sIf, sbind, sAsg, sRet, sSkip, sExpr, sPar, sSetI, sSetA, sAug, sFor, sTg, dVar, dC, dNil, dCons, dBind, obind, dTup, dLst, dFrz, MO.d, dReg, dFz, dOp1, dOp2, dCmp, dB2v, dTst, dAnd, dOr, dNot, dIf, dCall, dIx, dLook, dIsi, dIsi2, dIsC, dIn, dChn, dMut, lstOf, putO, dM1, tyOk, dNw1, dNw2, dSl, dP, dNoP, dIsN, dItQ, dItS, dRg1, dRg2, dEnum, dLc, dYes, noex, Tg.run, gSets, List.length_map, List.length_cons, List.length_nil, List.map_cons, List.map_nil, e1, e2]
theorem lr_end (hs : sp.length ≤ 1000000) (hr : rd.length ≤ 1000000) (ws : List Str) (q : Option SV) : ∀ l : Ln, LnIs sp rd ws l → l ≠ .bad → sSeq lr5 (sSeq lr6 lr7) (LR t lns sp rd false x5 x6 (some (.val (.lst (ws.map D.str)))) q) mu =
    match l with
    | .bad => .bad
    | .spot w => .nx (LR t lns (sp ++ [w]) rd false x5 x6 (some (.val (.lst (ws.map D.str)))) q) mu
    | .road a b => .nx (LR t lns sp (rd ++ [(a, b)]) false x5 x6 (some (.val (.lst (ws.map D.str)))) q) mu
    | .over => .nx (LR t lns sp rd true x5 x6 (some (.val (.lst (ws.map D.str)))) q) mu
  | .bad, _, h => absurd rfl h
  | .spot w, h, _ => by
    obtain ⟨rfl, _, _⟩ := h
    have e1 : eqD (.lst (([("spot" : Str), w] : List Str).map D.str)) (.lst [.str "over"]) = some false := by
      have := eq_strsL [("spot" : Str), w] [("over" : Str)]
      rw [decide_eq_false (fun e => by injection e with _ e; cases e)] at this
      exact this
    have h0 := hd_ix "spot" [w]
    have hc := tl_sl "spot" [w]
    have s1 : eqD (.str "spot") (.str "spot") = some true := by rw [eq_strs]; rfl
    have s2 : eqD (.str "spot") (.str "road") = some false := by rw [eq_strs]; decide +kernel
    have a1 : addD (.lst (sp.map D.str)) (.lst (([w] : List Str).map D.str)) = some (.lst ((sp ++ [w]).map D.str)) := by
      show (if _ then _ else _) = _
      rw [if_pos (by simp; omega), List.map_append]
    have a2 : addD (.lst (rd.map rowS)) (.lst []) = some (.lst (rd.map rowS)) := by
      show (if _ then _ else _) = _
      rw [if_pos (by simp; omega), List.append_nil]
    dsimp only
    unfold LR
    generalize (sp ++ [w]).map D.str = ls2 at *
    generalize ([w] : List Str).map D.str = lw1 at *
    generalize ([("spot" : Str), w] : List Str).map D.str = lw at *
    generalize sp.map D.str = ls at *
    generalize rd.map rowS = lr at *
    simp [lr5, lr6, lr7, dFun, sSeq, snext, sIf, sbind, sAsg, sRet, sSkip, sExpr, sPar, sSetI, sSetA, sAug, sFor, sTg, dVar, dC, dNil, dCons, dBind, obind, dTup, dLst, dFrz, MO.d, dReg, dFz, dOp1, dOp2, dCmp, dB2v, dTst, dAnd, dOr, dNot, dIf, dCall, dIx, dLook, dIsi, dIsi2, dIsC, dIn, dChn, dMut, lstOf, putO, dM1, tyOk, dNw1, dNw2, dSl, dP, dNoP, dIsN, dItQ, dItS, dRg1, dRg2, dEnum, dLc, dYes, noex, Tg.run, gSets, List.length_map, List.length_cons, List.length_nil, List.map_cons, List.map_nil, e1, h0, hc, s1, s2, a1, a2]
  | .road a b, h, _ => by
    obtain ⟨rfl, _⟩ := h
    have e1 : eqD (.lst (([("road" : Str), a, b] : List Str).map D.str)) (.lst [.str "over"]) = some false := by
      have := eq_strsL [("road" : Str), a, b] [("over" : Str)]
      rw [decide_eq_false (fun e => by injection e with _ e; cases e)] at this
      exact this
    have h0 := hd_ix "road" [a, b]
    have hc := tl_sl "road" [a, b]
    have s1 : eqD (.str "road") (.str "road") = some true := by rw [eq_strs]; rfl
    have s2 : eqD (.str "road") (.str "spot") = some false := by rw [eq_strs]; decide +kernel
    have a1 : addD (.lst (sp.map D.str)) (.lst []) = some (.lst (sp.map D.str)) := by
      show (if _ then _ else _) = _
      rw [if_pos (by simp; omega), List.append_nil]
    have a2 : addD (.lst (rd.map rowS)) (.lst [.lst (([a, b] : List Str).map D.str)]) = some (.lst ((rd ++ [(a, b)]).map rowS)) := by
      show (if _ then _ else _) = _
      rw [if_pos (by simp; omega), List.map_append]
      rfl
    dsimp only
    unfold LR
    generalize (rd ++ [(a, b)]).map rowS = lr2' at *
    generalize ([a, b] : List Str).map D.str = lw1 at *
    generalize ([("road" : Str), a, b] : List Str).map D.str = lw at *
    generalize sp.map D.str = ls at *
    generalize rd.map rowS = lr at *
    simp [lr5, lr6, lr7, dFun, sSeq, snext, sIf, sbind, sAsg, sRet, sSkip, sExpr, sPar, sSetI, sSetA, sAug, sFor, sTg, dVar, dC, dNil, dCons, dBind, obind, dTup, dLst, dFrz, MO.d, dReg, dFz, dOp1, dOp2, dCmp, dB2v, dTst, dAnd, dOr, dNot, dIf, dCall, dIx, dLook, dIsi, dIsi2, dIsC, dIn, dChn, dMut, lstOf, putO, dM1, tyOk, dNw1, dNw2, dSl, dP, dNoP, dIsN, dItQ, dItS, dRg1, dRg2, dEnum, dLc, dYes, noex, Tg.run, gSets, List.length_map, List.length_cons, List.length_nil, List.map_cons, List.map_nil, e1, h0, hc, s1, s2, a1, a2]
  | .over, h, _ => by
    obtain ⟨rfl, _⟩ := h
    have e1 : eqD (.lst (([("over" : Str)] : List Str).map D.str)) (.lst [.str "over"]) = some true := by
      have := eq_strsL [("over" : Str)] [("over" : Str)]
      rw [decide_eq_true rfl] at this
      exact this
    have h0 := hd_ix "over" []
    have s1 : eqD (.str "over") (.str "spot") = some false := by rw [eq_strs]; decide +kernel
    have s2 : eqD (.str "over") (.str "road") = some false := by rw [eq_strs]; decide +kernel
    have a1 : addD (.lst (sp.map D.str)) (.lst []) = some (.lst (sp.map D.str)) := by
      show (if _ then _ else _) = _
      rw [if_pos (by simp; omega), List.append_nil]
    have a2 : addD (.lst (rd.map rowS)) (.lst []) = some (.lst (rd.map rowS)) := by
      show (if _ then _ else _) = _
      rw [if_pos (by simp; omega), List.append_nil]
    dsimp only
    unfold LR
    generalize ([("over" : Str)] : List Str).map D.str = lw at *
    generalize sp.map D.str = ls at *
    generalize rd.map rowS = lr at *
    simp [lr5, lr6, lr7, dFun, sSeq, snext, sIf, sbind, sAsg, sRet, sSkip, sExpr, sPar, sSetI, sSetA, sAug, sFor, sTg, dVar, dC, dNil, dCons, dBind, obind, dTup, dLst, dFrz, MO.d, dReg, dFz, dOp1, dOp2, dCmp, dB2v, dTst, dAnd, dOr, dNot, dIf, dCall, dIx, dLook, dIsi, dIsi2, dIsC, dIn, dChn, dMut, lstOf, putO, dM1, tyOk, dNw1, dNw2, dSl, dP, dNoP, dIsN, dItQ, dItS, dRg1, dRg2, dEnum, dLc, dYes, noex, Tg.run, gSets, List.length_map, List.length_cons, List.length_nil, List.map_cons, List.map_nil, e1, h0, s1, s2, a1, a2]
end
end DL
end

section
set_option Elab.async false
set_option linter.all false
set_option maxRecDepth 100000
set_option maxHeartbeats 4000000
namespace DL
open PySem
/-! Y11: a text read by the law's reader -/
def lg0 : SF :=
  (sTg (.tp [1, 2, 3, 4]) (dTup (dCons (dM1 "str" splitD (dVar 0) (dC (.str "\n"))) (dCons (dFrz (dLst dNil)) (dCons (dFrz (dLst dNil)) (dCons (dC (.bl false)) dNil))))))
def lg1 : SF :=
  (sFor (dEnumQ (dSl (dVar 1) dNoP (dP (dOp1 negD (dC (.int 1)))))) (.tp [5, 6]) b__law_reader_1)
def lg2 : SF :=
  (sIf (dCmp neD (dIx (dVar 1) (dOp1 negD (dC (.int 1)))) (dC (.str ""))) (sRet (dTup (dCons (dC (.str "text")) (dCons (dOp2 subD (dOp1 lenD (dLook (dVar 1))) (dC (.int 1))) (dCons (dC (.str "feed")) dNil))))) sSkip)
def lg3 : SF :=
  (sIf (dNot (dTst (dVar 4))) (sRet (dTup (dCons (dC (.str "text")) (dCons (dOp2 subD (dOp1 lenD (dLook (dVar 1))) (dC (.int 1))) (dCons (dC (.str "missing")) dNil))))) sSkip)
def lg4 : SF :=
  (sRet (dTup (dCons (dC (.str "parts")) (dCons (dFrz (dLst (dCons (dOp1 tupleD (dLook (dVar 2))) (dCons (dFrz q__law_reader_2) dNil)))) dNil))))
theorem lg_eq : g__law_reader = (sSeq lg0 (sSeq lg1 (sSeq lg2 (sSeq lg3 lg4)))) := rfl
theorem cut_last {α : Type} (l : List α) (a : α) : cutG (l ++ [a]) none (some (-1)) = l := by
  unfold cutG
  have e1 : HT.sIx (l ++ [a]).length (l ++ [a]).length (some (-1)) = l.length := by
    show (if (-1 : Int) < 0 then ((-1 : Int) + ((l ++ [a]).length : Int)).toNat else min (-1 : Int).toNat (l ++ [a]).length) = _
    rw [if_pos (by decide), List.length_append, List.length_singleton]
    omega
  rw [e1, HT.sIx_none]
  simp
theorem ix_last {l : List D} {a : D} : ixD (.lst (l ++ [a])) (.int (-1)) = some a := by
  show L2.atI (l ++ [a]) (-1) = some a
  unfold L2.atI L2.ixN
  rw [if_neg (by decide), if_pos (by rw [List.length_append, List.length_singleton]; omega)]
  have : ((-1 : Int) + ((l ++ [a]).length : Int)).toNat = l.length := by
    rw [List.length_append, List.length_singleton]
    omega
  rw [this]
  simp
section
variable {mu : Store} {t : Option SV} {lns : List D}
def LawOk (mu : Store) (t : Option SV) (lns : List D) (o : OutS) : RdR → Prop
  | .text k w => o = .rt (.tup [.str "text", .int (k : Int), .str w]) mu
  | .fin sp rd e => ∃ y5 y6 y7 y8, o = .nx (LR t lns sp rd e y5 y6 y7 y8) mu
theorem lr_loop : ∀ (ls : List Str) (k : Nat) (sp : List Str) (rd : List (Str × Str)) (e : Bool) (x5 x6 x7 x8 : Option SV), (∀ l ∈ ls, l.length ≤ 100000) → sp.length + ls.length ≤ 400000 → rd.length + ls.length ≤ 400000 →
    LawOk mu t lns (sForL (.tp [5, 6]) b__law_reader_1 (numD k (ls.map D.str)) (LR t lns sp rd e x5 x6 x7 x8) mu) (readI ls k sp rd e)
  | [], k, sp, rd, e, x5, x6, x7, x8, _, _, _ => ⟨x5, x6, x7, x8, rfl⟩
  | l :: ls, k, sp, rd, e, x5, x6, x7, x8, hl, h1, h2 => by
    rw [List.length_cons] at h1 h2
    have hx := hl l List.mem_cons_self
    have hl' := fun z hz => hl z (List.mem_cons_of_mem _ hz)
    obtain ⟨f1, f2, f3⟩ := split_facts l " "
    have hsp : splitD (.str l) (.str " ") = some (.lst ((Txt.split l " ").map D.str)) := by
      unfold splitD
      dsimp only
      rw [if_pos ⟨by decide +kernel, by omega⟩]
    rw [show numD k ((l :: ls).map D.str) = .tup [.int (k : Int), .str l] :: numD (k + 1) (ls.map D.str) from rfl]
    unfold readI
    generalize Txt.split l " " = ws at *
    have hrun : (Tg.tp [5, 6]).run (.tup [.int (k : Int), .str l]) (LR t lns sp rd e x5 x6 x7 x8) = some (LR t lns sp rd e (some (.val (.int (k : Int)))) (some (.val (.str l))) x7 x8) := rfl
    have s0 : lr0 (LR t lns sp rd e (some (.val (.int (k : Int)))) (some (.val (.str l))) x7 x8) mu = .nx (LR t lns sp rd e (some (.val (.int (k : Int)))) (some (.val (.str l))) (some (.val (.lst (ws.map D.str)))) x8) mu := by
      unfold LR
      generalize ws.map D.str = lw at *
      simp [lr0, dFun, sSeq, snext, sIf, sbind, sAsg, sRet, sSkip, sExpr, sPar, sSetI, sSetA, sAug, sFor, sTg, dVar, dC, dNil, dCons, dBind, obind, dTup, dLst, dFrz, MO.d, dReg, dFz, dOp1, dOp2, dCmp, dB2v, dTst, dAnd, dOr, dNot, dIf, dCall, dIx, dLook, dIsi, dIsi2, dIsC, dIn, dChn, dMut, lstOf, putO, dM1, tyOk, dNw1, dNw2, dSl, dP, dNoP, dIsN, dItQ, dItS, dRg1, dRg2, dEnum, dLc, dYes, noex, Tg.run, gSets, List.length_map, List.length_cons, List.length_nil, List.map_cons, List.map_nil, hsp]
    have step : ∀ o, b__law_reader_1 (LR t lns sp rd e (some (.val (.int (k : Int)))) (some (.val (.str l))) x7 x8) mu = o → sForL (.tp [5, 6]) b__law_reader_1 (.tup [.int (k : Int), .str l] :: numD (k + 1) (ls.map D.str)) (LR t lns sp rd e x5 x6 x7 x8) mu = (match o with
      | .nx sl' mu' => sForL (.tp [5, 6]) b__law_reader_1 (numD (k + 1) (ls.map D.str)) sl' mu'
      | .ct sl' mu' => sForL (.tp [5, 6]) b__law_reader_1 (numD (k + 1) (ls.map D.str)) sl' mu'
      | .bk sl' mu' => .nx sl' mu'
      | .rt d mu' => .rt d mu'
      | .ex c fs sl' mu' => .ex c fs sl' mu'
      | .bad => .bad) := fun o h => by
      conv => lhs; unfold sForL
      rw [hrun]
      dsimp only
      rw [h]
      cases o <;> rfl
    by_cases hw : ("" : Str) ∈ ws
    · rw [if_pos hw]
      rw [step (.rt (.tup [.str "text", .int (k : Int), .str "words"]) mu) (by
        rw [lr_eq]
        exact (seq_nx s0).trans (seq_rt ((lr1_ok ws).1 hw)))]
      rfl
    · rw [if_neg hw]
      obtain ⟨x, rest, rfl⟩ : ∃ x rest, ws = x :: rest := by
        cases ws with
        | nil => exact absurd rfl f1
        | cons x rest => exact ⟨x, rest, rfl⟩
      rw [List.length_cons] at f2
      have s1 := (lr1_ok (t := t) (lns := lns) (sp := sp) (rd := rd) (e := e) (x6 := some (.val (.str l))) (x8 := x8) (mu := mu) (k := k) (x :: rest)).2 hw
      have s2 := lr2_ok (t := t) (lns := lns) (sp := sp) (rd := rd) (e := e) (x5 := some (.val (.int (k : Int)))) (x6 := some (.val (.str l))) (x8 := x8) (mu := mu) (x := x) (rest := rest) (fun w hw => by have := f3 w (List.mem_cons_of_mem _ hw); omega)
      have s3 := lr3_ok (t := t) (lns := lns) (sp := sp) (rd := rd) (e := e) (x5 := some (.val (.int (k : Int)))) (x6 := some (.val (.str l))) (mu := mu) (x := x) (rest := rest) (isSp rd (x :: rest)) (by omega)
      have s4 := lr4_ok (t := t) (lns := lns) (sp := sp) (rd := rd) (e := e) (x6 := some (.val (.str l))) (mu := mu) (k := k) (x :: rest) (isSp rd (x :: rest) || isRo sp (x :: rest))
      have body : ∀ o, sSeq lr4 (sSeq lr5 (sSeq lr6 lr7)) (LR t lns sp rd e (some (.val (.int (k : Int)))) (some (.val (.str l))) (some (.val (.lst ((x :: rest).map D.str)))) (some (.val (.bl (isSp rd (x :: rest) || isRo sp (x :: rest)))))) mu = o → b__law_reader_1 (LR t lns sp rd e (some (.val (.int (k : Int)))) (some (.val (.str l))) x7 x8) mu = o := fun o h => by
        rw [lr_eq]
        exact (seq_nx s0).trans ((seq_nx s1).trans ((seq_nx s2).trans ((seq_nx s3).trans h)))
      cases e with
      | true =>
        rw [show lnOf sp rd true (x :: rest) = .bad from rfl]
        rw [Bool.true_or, if_pos rfl] at s4
        rw [step _ (body _ (seq_rt s4))]
        rfl
      | false =>
        have hli := ln_is sp rd (x :: rest)
        cases hn : lnOf sp rd false (x :: rest) with
        | bad =>
          rw [hn] at hli
          obtain ⟨b1, b2, b3⟩ := hli
          rw [b1, b2, b3, if_pos (show (false || !(false || false || false)) = true from rfl)] at s4
          rw [step (.rt (.tup [.str "text", .int (k : Int), .str "form"]) mu) (body _ (by rw [b1, b2]; exact seq_rt s4))]
          rfl
        | spot w =>
          rw [hn] at hli
          obtain ⟨hws, b1, _⟩ := id hli
          rw [b1, Bool.true_or, Bool.true_or, if_neg (by decide)] at s4
          have s5 := lr_end (t := t) (lns := lns) (x5 := some (.val (.int (k : Int)))) (x6 := some (.val (.str l))) (mu := mu) (by omega) (by omega) (x :: rest) (some (.val (.bl true))) (.spot w) hli (by intro z; cases z)
          rw [step (.nx (LR t lns (sp ++ [w]) rd false (some (.val (.int (k : Int)))) (some (.val (.str l))) (some (.val (.lst ((x :: rest).map D.str)))) (some (.val (.bl true)))) mu) (body _ (by rw [b1, Bool.true_or]; exact (seq_nx s4).trans s5))]
          exact lr_loop ls (k + 1) (sp ++ [w]) rd false _ _ _ _ hl' (by rw [List.length_append, List.length_singleton]; omega) (by omega)
        | road a b =>
          rw [hn] at hli
          obtain ⟨hws, b1⟩ := id hli
          rw [b1, Bool.or_true, Bool.true_or, if_neg (by decide)] at s4
          have s5 := lr_end (t := t) (lns := lns) (x5 := some (.val (.int (k : Int)))) (x6 := some (.val (.str l))) (mu := mu) (by omega) (by omega) (x :: rest) (some (.val (.bl true))) (.road a b) hli (by intro z; cases z)
          rw [step (.nx (LR t lns sp (rd ++ [(a, b)]) false (some (.val (.int (k : Int)))) (some (.val (.str l))) (some (.val (.lst ((x :: rest).map D.str)))) (some (.val (.bl true)))) mu) (body _ (by rw [b1, Bool.or_true]; exact (seq_nx s4).trans s5))]
          exact lr_loop ls (k + 1) sp (rd ++ [(a, b)]) false _ _ _ _ hl' (by omega) (by rw [List.length_append, List.length_singleton]; omega)
        | over =>
          rw [hn] at hli
          obtain ⟨hws, b1⟩ := id hli
          rw [b1, Bool.or_true, if_neg (by decide)] at s4
          have s5 := lr_end (t := t) (lns := lns) (x5 := some (.val (.int (k : Int)))) (x6 := some (.val (.str l))) (mu := mu) (by omega) (by omega) (x :: rest) (some (.val (.bl (isSp rd (x :: rest) || isRo sp (x :: rest))))) .over hli (by intro z; cases z)
          rw [step _ (body _ ((seq_nx s4).trans s5))]
          exact lr_loop ls (k + 1) sp rd true _ _ _ _ hl' (by omega) (by omega)
def dueR (text : Str) : D := match readT text with
  | .text k w => .tup [.str "text", .int (k : Int), .str w]
  | .fin sp rd _ => .tup [.str "parts", .lst [.tup (sp.map D.str), .lst ((rd.map (prT sp)).map pD)]]
theorem lq2_ok {sp : List Str} {rd : List (Str × Str)} {e : Bool} {x5 x6 x7 x8 : Option SV} (hf : ∀ x ∈ sp, nameB x = true) (hr : ∀ p ∈ rd, p.1 ∈ sp ∧ p.2 ∈ sp) (hl : rd.length ≤ 1000000) :
    q__law_reader_2 (LR t lns sp rd e x5 x6 x7 x8) mu = .ok (.lst ((rd.map (prT sp)).map pD)) mu := by
  have := lc_mapA (src := dItQ (dVar 3)) (g := .ls [9, 10]) (own := [9, 10]) (elt := dOp1 tupleD (dLook (dFrz (dNw1 sortedD (dLook (dFrz (dLst (dCons (dM1 "list" indexD (dVar 2) (dVar 9)) (dCons (dM1 "list" indexD (dVar 2) (dVar 10)) dNil))))))))) (sl := LR t lns sp rd e x5 x6 x7 x8) (mu := mu) (ls := rd) rowS (fun p => pD (prT sp p)) rfl (by omega) (fun p hp => by
    have i1 := index_any hf (hr p hp).1
    have i2 := index_any hf (hr p hp).2
    have hs := sorted_prT sp p
    have hk : ∀ l, lookD mu (.lst l) = .lst l := fun _ => rfl
    have ht : tupleD (.lst [.int ((prT sp p).1 : Int), .int ((prT sp p).2 : Int)]) = some (pD (prT sp p)) := rfl
    refine ⟨_, rfl, ?_⟩
    unfold LR
    generalize pD (prT sp p) = r at *
    generalize ((prT sp p).1 : Int) = a at *
    generalize ((prT sp p).2 : Int) = b at *
    generalize (idxS p.1 sp : Int) = i at *
    generalize (idxS p.2 sp : Int) = j at *
    generalize sp.map D.str = ls at *
    simp [wipeS, dFun, sSeq, snext, sIf, sbind, sAsg, sRet, sSkip, sExpr, sPar, sSetI, sSetA, sAug, sFor, sTg, dVar, dC, dNil, dCons, dBind, obind, dTup, dLst, dFrz, MO.d, dReg, dFz, dOp1, dOp2, dCmp, dB2v, dTst, dAnd, dOr, dNot, dIf, dCall, dIx, dLook, dIsi, dIsi2, dIsC, dIn, dChn, dMut, lstOf, putO, dM1, tyOk, dNw1, dNw2, dSl, dP, dNoP, dIsN, dItQ, dItS, dRg1, dRg2, dEnum, dLc, dYes, noex, Tg.run, gSets, List.length_map, List.length_cons, List.length_nil, List.map_cons, List.map_nil, hk, i1, i2, hs, ht])
  rw [List.map_map]
  exact this
theorem law_reader_any {text : Str} (hz : text.length ≤ 90000) (mu : Store) : f__law_reader [.str text] mu = .ok (dueR text) mu := by
  obtain ⟨f1, f2, f3⟩ := split_facts text "\n"
  have hsp : splitD (.str text) (.str "\n") = some (.lst ((Txt.split text "\n").map D.str)) := by
    unfold splitD
    dsimp only
    rw [if_pos ⟨by decide +kernel, by omega⟩]
  have hlast := split_last text "\n"
  have hdl : ((Txt.split text "\n").dropLast).length + 1 = (Txt.split text "\n").length := by
    have := congrArg List.length hlast
    rw [List.length_append, List.length_singleton] at this
    exact this.symm
  have hbd : ∀ l ∈ (Txt.split text "\n").dropLast, l.length ≤ 100000 := fun l hl => by
    have := f3 l (List.dropLast_subset _ hl)
    omega
  unfold dueR readT
  generalize hls : Txt.split text "\n" = ls at *
  generalize hin : ls.dropLast = ini at *
  generalize hla : ls.getLastD "" = last at *
  have hk1 : ls.length - 1 = ini.length := by omega
  rw [hk1]
  refine fun_rt (n := 12) (g := g__law_reader) ?_
  show g__law_reader [some (.val (.str text)), none, none, none, none, none, none, none, none, none, none, none] mu = _
  rw [lg_eq]
  have hmap : ls.map D.str = ini.map D.str ++ [.str last] := by rw [hlast, List.map_append]; rfl
  have hll : lenD (.lst (ls.map D.str)) = some (.int ((ini.length : Int) + 1)) := by
    rw [lenL, ← hdl]
    rfl
  have hs1 : subD (.int ((ini.length : Int) + 1)) (.int 1) = some (.int (ini.length : Int)) := by
    show some (D.int _) = _
    congr 2
    omega
  have hng : negD (.int 1) = some (.int (-1)) := rfl
  have hkk : ∀ l, lookD mu (.lst l) = .lst l := fun _ => rfl
  have s0 : lg0 [some (.val (.str text)), none, none, none, none, none, none, none, none, none, none, none] mu = .nx (LR (some (.val (.str text))) (ls.map D.str) [] [] false none none none none) mu := by
    unfold LR
    generalize ls.map D.str = l at *
    simp [lg0, sTg, dFun, sSeq, snext, sIf, sbind, sAsg, sRet, sSkip, sExpr, sPar, sSetI, sSetA, sAug, sFor, sTg, dVar, dC, dNil, dCons, dBind, obind, dTup, dLst, dFrz, MO.d, dReg, dFz, dOp1, dOp2, dCmp, dB2v, dTst, dAnd, dOr, dNot, dIf, dCall, dIx, dLook, dIsi, dIsi2, dIsC, dIn, dChn, dMut, lstOf, putO, dM1, tyOk, dNw1, dNw2, dSl, dP, dNoP, dIsN, dItQ, dItS, dRg1, dRg2, dEnum, dLc, dYes, noex, Tg.run, gSets, List.length_map, List.length_cons, List.length_nil, List.map_cons, List.map_nil, hsp]
  have hcut : sliceD (.lst (ls.map D.str)) none (some (-1)) = some (.lst (ini.map D.str)) := by
    rw [hmap]
    exact congrArg (fun l => some (D.lst l)) (cut_last _ _)
  have hsrc : dEnumQ (dSl (dVar 1) dNoP (dP (dOp1 negD (dC (.int 1))))) (LR (some (.val (.str text))) (ls.map D.str) [] [] false none none none none) mu = .ok (numD 0 (ini.map D.str)) mu := by
    unfold LR dEnumQ
    generalize ls.map D.str = l at *
    simp [dFun, sSeq, snext, sIf, sbind, sAsg, sRet, sSkip, sExpr, sPar, sSetI, sSetA, sAug, sFor, sTg, dVar, dC, dNil, dCons, dBind, obind, dTup, dLst, dFrz, MO.d, dReg, dFz, dOp1, dOp2, dCmp, dB2v, dTst, dAnd, dOr, dNot, dIf, dCall, dIx, dLook, dIsi, dIsi2, dIsC, dIn, dChn, dMut, lstOf, putO, dM1, tyOk, dNw1, dNw2, dSl, dP, dNoP, dIsN, dItQ, dItS, dRg1, dRg2, dEnum, dLc, dYes, noex, Tg.run, gSets, List.length_map, List.length_cons, List.length_nil, List.map_cons, List.map_nil, hng, hkk, hcut]
  have hloop := lr_loop (mu := mu) (t := some (.val (.str text))) (lns := ls.map D.str) ini 0 [] [] false none none none none hbd (by simp; omega) (by simp; omega)
  refine (seq_nx s0).trans ?_
  cases hri : readI ini 0 [] [] false with
  | text k w =>
    rw [hri] at hloop
    exact seq_rt ((for_src hsrc).trans hloop)
  | fin sp rd e =>
    rw [hri] at hloop
    obtain ⟨y5, y6, y7, y8, e1⟩ := hloop
    obtain ⟨i1, i2, i3, i4, i5⟩ := readI_inv ini 0 [] [] false hri (fun x hx => by cases hx) (fun p hp => by cases hp) (fun z => by cases z)
    rw [List.length_nil, Nat.zero_add] at i4 i5
    refine (seq_nx ((for_src hsrc).trans e1)).trans ?_
    have hix : ixD (.lst (ls.map D.str)) (.int (-1)) = some (.str last) := by
      rw [hmap]
      exact ix_last
    have hne := ne_strs last ""
    have c2 : (dCmp neD (dIx (dVar 1) (dOp1 negD (dC (.int 1)))) (dC (.str ""))) (LR (some (.val (.str text))) (ls.map D.str) sp rd e y5 y6 y7 y8) mu = .ok (!decide (last = "")) mu := by
      unfold LR
      generalize (!decide (last = "")) = q at *
      generalize ls.map D.str = l at *
      simp [dFun, sSeq, snext, sIf, sbind, sAsg, sRet, sSkip, sExpr, sPar, sSetI, sSetA, sAug, sFor, sTg, dVar, dC, dNil, dCons, dBind, obind, dTup, dLst, dFrz, MO.d, dReg, dFz, dOp1, dOp2, dCmp, dB2v, dTst, dAnd, dOr, dNot, dIf, dCall, dIx, dLook, dIsi, dIsi2, dIsC, dIn, dChn, dMut, lstOf, putO, dM1, tyOk, dNw1, dNw2, dSl, dP, dNoP, dIsN, dItQ, dItS, dRg1, dRg2, dEnum, dLc, dYes, noex, Tg.run, gSets, List.length_map, List.length_cons, List.length_nil, List.map_cons, List.map_nil, hng, hkk, hix, hne]
    dsimp only
    by_cases hla2 : last ≠ ""
    · rw [if_pos hla2]
      rw [decide_eq_false hla2] at c2
      refine ifa_rt c2 ?_
      unfold LR
      generalize ls.map D.str = l at *
      simp [dFun, sSeq, snext, sIf, sbind, sAsg, sRet, sSkip, sExpr, sPar, sSetI, sSetA, sAug, sFor, sTg, dVar, dC, dNil, dCons, dBind, obind, dTup, dLst, dFrz, MO.d, dReg, dFz, dOp1, dOp2, dCmp, dB2v, dTst, dAnd, dOr, dNot, dIf, dCall, dIx, dLook, dIsi, dIsi2, dIsC, dIn, dChn, dMut, lstOf, putO, dM1, tyOk, dNw1, dNw2, dSl, dP, dNoP, dIsN, dItQ, dItS, dRg1, dRg2, dEnum, dLc, dYes, noex, Tg.run, gSets, List.length_map, List.length_cons, List.length_nil, List.map_cons, List.map_nil, hkk, hll, hs1]
    · rw [if_neg hla2]
      rw [decide_eq_true (Classical.not_not.mp hla2)] at c2
      refine (ifa_nx c2).trans ?_
      cases e with
      | false =>
        rw [if_neg (by decide)]
        refine ifa_rt (m1 := mu) rfl ?_
        unfold LR
        generalize ls.map D.str = l at *
        simp [dFun, sSeq, snext, sIf, sbind, sAsg, sRet, sSkip, sExpr, sPar, sSetI, sSetA, sAug, sFor, sTg, dVar, dC, dNil, dCons, dBind, obind, dTup, dLst, dFrz, MO.d, dReg, dFz, dOp1, dOp2, dCmp, dB2v, dTst, dAnd, dOr, dNot, dIf, dCall, dIx, dLook, dIsi, dIsi2, dIsC, dIn, dChn, dMut, lstOf, putO, dM1, tyOk, dNw1, dNw2, dSl, dP, dNoP, dIsN, dItQ, dItS, dRg1, dRg2, dEnum, dLc, dYes, noex, Tg.run, gSets, List.length_map, List.length_cons, List.length_nil, List.map_cons, List.map_nil, hkk, hll, hs1]
      | true =>
        rw [if_pos rfl]
        refine (ifa_nx (m1 := mu) rfl).trans (ret_ok ?_)
        have hq := lq2_ok (mu := mu) (t := some (.val (.str text))) (lns := ls.map D.str) (e := true) (x5 := y5) (x6 := y6) (x7 := y7) (x8 := y8) i1 i2 (by omega)
        have htu : tupleD (.lst (sp.map D.str)) = some (.tup (sp.map D.str)) := rfl
        show _ = Out.ok (D.tup [.str "parts", .lst [.tup (sp.map D.str), .lst ((rd.map (prT sp)).map pD)]]) mu
        generalize q__law_reader_2 = Q at hq ⊢
        unfold LR at hq ⊢
        generalize (rd.map (prT sp)).map pD = r at *
        generalize ls.map D.str = l at *
        generalize sp.map D.str = l2 at *
        generalize D.tup l2 = tp2 at *
        simp [dFun, sSeq, snext, sIf, sbind, sAsg, sRet, sSkip, sExpr, sPar, sSetI, sSetA, sAug, sFor, sTg, dVar, dC, dNil, dCons, dBind, obind, dTup, dLst, dFrz, MO.d, dReg, dFz, dOp1, dOp2, dCmp, dB2v, dTst, dAnd, dOr, dNot, dIf, dCall, dIx, dLook, dIsi, dIsi2, dIsC, dIn, dChn, dMut, lstOf, putO, dM1, tyOk, dNw1, dNw2, dSl, dP, dNoP, dIsN, dItQ, dItS, dRg1, dRg2, dEnum, dLc, dYes, noex, Tg.run, gSets, List.length_map, List.length_cons, List.length_nil, List.map_cons, List.map_nil, hkk, htu, hq]
end
end DL
end

section
set_option Elab.async false
set_option linter.all false
set_option maxRecDepth 100000
set_option maxHeartbeats 4000000
namespace DL
open PySem
/-! Y12: what is told of a text, and what is due -/
def dueD (text : Str) : D := match readT text with
  | .text k w => .tup [.str "text", .int (k : Int), .str w]
  | .fin sp rd _ => match faultT sp (rd.map (prT sp)) with
    | none => .tup [.str "parts", .tup (sp.map D.str), .tup (srt (rd.map (prT sp)))]
    | some w => .tup [.str "web", .str w]
/-- the facts of what was read -/
theorem readT_fin {text : Str} (hz : text.length ≤ 90000) {sp : List Str} {rd : List (Str × Str)} {e : Bool} (h : readT text = .fin sp rd e) : (∀ x ∈ sp, nameB x = true) ∧ (∀ p ∈ rd, p.1 ∈ sp ∧ p.2 ∈ sp) ∧ 1 ≤ sp.length ∧ sp.length ≤ 100000 ∧ rd.length ≤ 100000 := by
  obtain ⟨f1, f2, f3⟩ := split_facts text "\n"
  unfold readT at h
  cases hri : readI (Txt.split text "\n").dropLast 0 [] [] false with
  | text k w => rw [hri] at h; cases h
  | fin sp' rd' e' =>
    rw [hri] at h
    dsimp only at h
    obtain ⟨i1, i2, i3, i4, i5⟩ := readI_inv _ 0 [] [] false hri (fun x hx => by cases hx) (fun p hp => by cases hp) (fun z => by cases z)
    rw [List.length_nil, Nat.zero_add, List.length_dropLast] at i4 i5
    split at h
    · cases h
    · split at h
      · rename_i he
        cases h
        exact ⟨i1, i2, List.length_pos_iff.mpr (i3 he), by omega, by omega⟩
      · cases h
theorem law_due_any {text : Str} (hz : text.length ≤ 90000) (mu : Store) : f__law_due [.str text] mu = .ok (dueD text) mu := by
  have e1 := law_reader_any hz mu
  unfold dueR at e1
  unfold dueD
  cases hr : readT text with
  | text k w =>
    rw [hr] at e1
    dsimp only at e1 ⊢
    have h0 : ixD (.tup [.str "text", .int (k : Int), .str w]) (.int 0) = some (.str "text") := ix_nat (l := [.str "text", .int (k : Int), .str w]) (i := 0) rfl
    have hk : lookD mu (.tup [.str "text", .int (k : Int), .str w]) = .tup [.str "text", .int (k : Int), .str w] := rfl
    have hq : eqD (.str "text") (.str "parts") = some false := by rw [eq_strs]; decide +kernel
    generalize D.tup [.str "text", .int (k : Int), .str w] = d at *
    simp [f__law_due, g__law_due, dFun, sSeq, snext, sIf, sbind, sAsg, sRet, sSkip, sExpr, sPar, sSetI, sSetA, sAug, sFor, sTg, dVar, dC, dNil, dCons, dBind, obind, dTup, dLst, dFrz, MO.d, dReg, dFz, dOp1, dOp2, dCmp, dB2v, dTst, dAnd, dOr, dNot, dIf, dCall, dIx, dLook, dIsi, dIsi2, dIsC, dIn, dChn, dMut, lstOf, putO, dM1, tyOk, dNw1, dNw2, dSl, dP, dNoP, dIsN, dItQ, dItS, dRg1, dRg2, dEnum, dLc, dYes, noex, Tg.run, gSets, List.length_map, List.length_cons, List.length_nil, List.map_cons, List.map_nil, e1, h0, hk, hq]
  | fin sp rd e =>
    rw [hr] at e1
    obtain ⟨i1, i2, i3, i4, i5⟩ := readT_fin hz hr
    have hprs : ∀ q ∈ rd.map (prT sp), q.1 ≤ q.2 ∧ q.2 < sp.length := fun q hq => by
      obtain ⟨p, hp, rfl⟩ := List.mem_map.mp hq
      exact prT_ok (i2 p hp)
    have e2 := law_faultA i1 i3 i4 hprs (by rw [List.length_map]; exact i5) mu
    have hs := sorted_prs (rd.map (prT sp))
    dsimp only at e1 ⊢
    have hq : eqD (.str "parts") (.str "parts") = some true := by rw [eq_strs]; rfl
    have h0 : ixD (.tup [.str "parts", .lst [.tup (sp.map D.str), .lst ((rd.map (prT sp)).map pD)]]) (.int 0) = some (.str "parts") := ix_nat (l := [.str "parts", .lst [.tup (sp.map D.str), .lst ((rd.map (prT sp)).map pD)]]) (i := 0) rfl
    have h1 : ixD (.tup [.str "parts", .lst [.tup (sp.map D.str), .lst ((rd.map (prT sp)).map pD)]]) (.int 1) = some (.lst [.tup (sp.map D.str), .lst ((rd.map (prT sp)).map pD)]) := ix_nat (l := [.str "parts", .lst [.tup (sp.map D.str), .lst ((rd.map (prT sp)).map pD)]]) (i := 1) rfl
    have h2 : ixD (.lst [.tup (sp.map D.str), .lst ((rd.map (prT sp)).map pD)]) (.int 0) = some (.tup (sp.map D.str)) := ix_nat (l := [.tup (sp.map D.str), .lst ((rd.map (prT sp)).map pD)]) (i := 0) rfl
    have h3 : ixD (.lst [.tup (sp.map D.str), .lst ((rd.map (prT sp)).map pD)]) (.int 1) = some (.lst ((rd.map (prT sp)).map pD)) := ix_nat (l := [.tup (sp.map D.str), .lst ((rd.map (prT sp)).map pD)]) (i := 1) rfl
    have ht : tupleD (.lst (srt (rd.map (prT sp)))) = some (.tup (srt (rd.map (prT sp)))) := rfl
    have hkt : ∀ l, lookD mu (.tup l) = .tup l := fun _ => rfl
    have hkl : ∀ l, lookD mu (.lst l) = .lst l := fun _ => rfl
    generalize srt (rd.map (prT sp)) = sr at *
    generalize hl3 : (rd.map (prT sp)).map pD = l3 at *
    generalize hl2 : sp.map D.str = l2 at *
    cases hft : faultT sp (rd.map (prT sp)) with
    | none =>
      rw [hft] at e2
      unfold optSD at e2
      simp [f__law_due, g__law_due, dFun, sSeq, snext, sIf, sbind, sAsg, sRet, sSkip, sExpr, sPar, sSetI, sSetA, sAug, sFor, sTg, dVar, dC, dNil, dCons, dBind, obind, dTup, dLst, dFrz, MO.d, dReg, dFz, dOp1, dOp2, dCmp, dB2v, dTst, dAnd, dOr, dNot, dIf, dCall, dIx, dLook, dIsi, dIsi2, dIsC, dIn, dChn, dMut, lstOf, putO, dM1, tyOk, dNw1, dNw2, dSl, dP, dNoP, dIsN, dItQ, dItS, dRg1, dRg2, dEnum, dLc, dYes, noex, Tg.run, gSets, List.length_map, List.length_cons, List.length_nil, List.map_cons, List.map_nil, e1, h0, h1, h2, h3, hkt, hkl, hq, e2, hs, ht, dIsN, isNon]
    | some w =>
      rw [hft] at e2
      unfold optSD at e2
      simp [f__law_due, g__law_due, dFun, sSeq, snext, sIf, sbind, sAsg, sRet, sSkip, sExpr, sPar, sSetI, sSetA, sAug, sFor, sTg, dVar, dC, dNil, dCons, dBind, obind, dTup, dLst, dFrz, MO.d, dReg, dFz, dOp1, dOp2, dCmp, dB2v, dTst, dAnd, dOr, dNot, dIf, dCall, dIx, dLook, dIsi, dIsi2, dIsC, dIn, dChn, dMut, lstOf, putO, dM1, tyOk, dNw1, dNw2, dSl, dP, dNoP, dIsN, dItQ, dItS, dRg1, dRg2, dEnum, dLc, dYes, noex, Tg.run, gSets, List.length_map, List.length_cons, List.length_nil, List.map_cons, List.map_nil, e1, h0, h1, h2, h3, hkt, hkl, hq, e2, dIsN, isNon]
theorem law_found_any {text : Str} (hz : text.length ≤ 90000) {mu : Store} (hp : Pl mu) : f__law_found_k03 [.str text] mu = .ok (dueD text) mu := by
  have e1 := read_any hz hp
  unfold readO at e1
  unfold dueD
  have c1 : ecs__law_found_k03.contains 1001 = true := by decide
  have c2 : ecs__law_found_k03.contains 1002 = true := by decide
  have l1 : fs__law_found_k03.lookup 1001 = some (Clz.tup "web" ["what"]) := rfl
  have l2 : fs__law_found_k03.lookup 1002 = some (Clz.tup "text" ["line", "what"]) := rfl
  cases hr : readT text with
  | text k w =>
    rw [hr] at e1
    dsimp only at e1 ⊢
    have hd : (Clz.tup "text" ["line", "what"]).dn [("line", .int (k : Int)), ("what", .str w)] = some (.tup [.str "text", .int (k : Int), .str w]) := rfl
    refine fun_rt (n := 3) (g := g__law_found_k03) (seq_rt ?_)
    show oTryC ecs__law_found_k03 fs__law_found_k03 (sAsg 1 (dCall f_read_web (dCons (dVar 0) dNil)) [some (.val (.str text)), none, none] mu) = _
    have : sAsg 1 (dCall f_read_web (dCons (dVar 0) dNil)) [some (.val (.str text)), none, none] mu = .ex 1002 [("line", .int (k : Int)), ("what", .str w)] [some (.val (.str text)), none, none] mu := by
      simp [dFun, sSeq, snext, sIf, sbind, sAsg, sRet, sSkip, sExpr, sPar, sSetI, sSetA, sAug, sFor, sTg, dVar, dC, dNil, dCons, dBind, obind, dTup, dLst, dFrz, MO.d, dReg, dFz, dOp1, dOp2, dCmp, dB2v, dTst, dAnd, dOr, dNot, dIf, dCall, dIx, dLook, dIsi, dIsi2, dIsC, dIn, dChn, dMut, lstOf, putO, dM1, tyOk, dNw1, dNw2, dSl, dP, dNoP, dIsN, dItQ, dItS, dRg1, dRg2, dEnum, dLc, dYes, noex, Tg.run, gSets, List.length_map, List.length_cons, List.length_nil, List.map_cons, List.map_nil, e1]
    rw [this]
    unfold oTryC
    dsimp only
    rw [c2, if_pos rfl, l2]
    dsimp only
    rw [hd]
  | fin sp rd e =>
    rw [hr] at e1
    dsimp only at e1 ⊢
    cases hft : faultT sp (rd.map (prT sp)) with
    | none =>
      rw [hft] at e1
      dsimp only at e1 ⊢
      have a1 : attrD "spots" (webD sp (rd.map (prT sp))) = some (.tup (sp.map D.str)) := rfl
      have a2 : attrD "roads" (webD sp (rd.map (prT sp))) = some (.tup (srt (rd.map (prT sp)))) := rfl
      have hk : lookD mu (webD sp (rd.map (prT sp))) = webD sp (rd.map (prT sp)) := rfl
      refine fun_rt (n := 3) (g := g__law_found_k03) ((seq_nx (sl' := [some (.val (.str text)), some (.val (webD sp (rd.map (prT sp)))), none]) (mu' := mu) ?_).trans (ret_ok ?_))
      · show oTryC ecs__law_found_k03 fs__law_found_k03 (sAsg 1 (dCall f_read_web (dCons (dVar 0) dNil)) [some (.val (.str text)), none, none] mu) = _
        have : sAsg 1 (dCall f_read_web (dCons (dVar 0) dNil)) [some (.val (.str text)), none, none] mu = .nx [some (.val (.str text)), some (.val (webD sp (rd.map (prT sp)))), none] mu := by
          generalize webD sp (rd.map (prT sp)) = wd at *
          simp [dFun, sSeq, snext, sIf, sbind, sAsg, sRet, sSkip, sExpr, sPar, sSetI, sSetA, sAug, sFor, sTg, dVar, dC, dNil, dCons, dBind, obind, dTup, dLst, dFrz, MO.d, dReg, dFz, dOp1, dOp2, dCmp, dB2v, dTst, dAnd, dOr, dNot, dIf, dCall, dIx, dLook, dIsi, dIsi2, dIsC, dIn, dChn, dMut, lstOf, putO, dM1, tyOk, dNw1, dNw2, dSl, dP, dNoP, dIsN, dItQ, dItS, dRg1, dRg2, dEnum, dLc, dYes, noex, Tg.run, gSets, List.length_map, List.length_cons, List.length_nil, List.map_cons, List.map_nil, e1]
        rw [this]
        rfl
      · generalize webD sp (rd.map (prT sp)) = wd at *
        generalize D.tup (sp.map D.str) = t1 at *
        generalize D.tup (srt (rd.map (prT sp))) = t2 at *
        simp [dFun, sSeq, snext, sIf, sbind, sAsg, sRet, sSkip, sExpr, sPar, sSetI, sSetA, sAug, sFor, sTg, dVar, dC, dNil, dCons, dBind, obind, dTup, dLst, dFrz, MO.d, dReg, dFz, dOp1, dOp2, dCmp, dB2v, dTst, dAnd, dOr, dNot, dIf, dCall, dIx, dLook, dIsi, dIsi2, dIsC, dIn, dChn, dMut, lstOf, putO, dM1, tyOk, dNw1, dNw2, dSl, dP, dNoP, dIsN, dItQ, dItS, dRg1, dRg2, dEnum, dLc, dYes, noex, Tg.run, gSets, List.length_map, List.length_cons, List.length_nil, List.map_cons, List.map_nil, hk, a1, a2]
    | some w =>
      rw [hft] at e1
      dsimp only at e1 ⊢
      have hd : (Clz.tup "web" ["what"]).dn [("what", .str w)] = some (.tup [.str "web", .str w]) := rfl
      refine fun_rt (n := 3) (g := g__law_found_k03) (seq_rt ?_)
      show oTryC ecs__law_found_k03 fs__law_found_k03 (sAsg 1 (dCall f_read_web (dCons (dVar 0) dNil)) [some (.val (.str text)), none, none] mu) = _
      have : sAsg 1 (dCall f_read_web (dCons (dVar 0) dNil)) [some (.val (.str text)), none, none] mu = .ex 1001 [("what", .str w)] [some (.val (.str text)), none, none] mu := by
        simp [dFun, sSeq, snext, sIf, sbind, sAsg, sRet, sSkip, sExpr, sPar, sSetI, sSetA, sAug, sFor, sTg, dVar, dC, dNil, dCons, dBind, obind, dTup, dLst, dFrz, MO.d, dReg, dFz, dOp1, dOp2, dCmp, dB2v, dTst, dAnd, dOr, dNot, dIf, dCall, dIx, dLook, dIsi, dIsi2, dIsC, dIn, dChn, dMut, lstOf, putO, dM1, tyOk, dNw1, dNw2, dSl, dP, dNoP, dIsN, dItQ, dItS, dRg1, dRg2, dEnum, dLc, dYes, noex, Tg.run, gSets, List.length_map, List.length_cons, List.length_nil, List.map_cons, List.map_nil, e1]
      rw [this]
      unfold oTryC
      dsimp only
      rw [c1, if_pos rfl, l1]
      dsimp only
      rw [hd]
theorem found_odd {d : D} (h1 : isiOk d = true) (h2 : isTy .str d = false) (h3 : ∀ mu, lookD mu d = d) {mu : Store} (hp : Pl mu) : f__law_found_k03 [d] mu = .ok (.tup [.str "text", .int 0, .str "text"]) mu := by
  have e1 : f_read_web [d] mu = .ex 1002 [("line", .int 0), ("what", .str "text")] mu := by
    refine gc_exA (p := dFun 10 g_read_web) (mu' := mu) ?_ List.take_length hp rfl
    have hk := h3 mu
    refine fun_ex (n := 10) (g := g_read_web) (sl' := [some (.val d), none, none, none, none, none, none, none, none, none]) ?_
    rw [rw_eq]
    refine seq_ex ?_
    simp [rw0, sRaise, dFun, sSeq, snext, sIf, sbind, sAsg, sRet, sSkip, sExpr, sPar, sSetI, sSetA, sAug, sFor, sTg, dVar, dC, dNil, dCons, dBind, obind, dTup, dLst, dFrz, MO.d, dReg, dFz, dOp1, dOp2, dCmp, dB2v, dTst, dAnd, dOr, dNot, dIf, dCall, dIx, dLook, dIsi, dIsi2, dIsC, dIn, dChn, dMut, lstOf, putO, dM1, tyOk, dNw1, dNw2, dSl, dP, dNoP, dIsN, dItQ, dItS, dRg1, dRg2, dEnum, dLc, dYes, noex, Tg.run, gSets, List.length_map, List.length_cons, List.length_nil, List.map_cons, List.map_nil, h1, h2, hk]
  have c2 : ecs__law_found_k03.contains 1002 = true := by decide
  have l2 : fs__law_found_k03.lookup 1002 = some (Clz.tup "text" ["line", "what"]) := rfl
  have hd : (Clz.tup "text" ["line", "what"]).dn [("line", .int 0), ("what", .str "text")] = some (.tup [.str "text", .int 0, .str "text"]) := rfl
  refine fun_rt (n := 3) (g := g__law_found_k03) (seq_rt ?_)
  show oTryC ecs__law_found_k03 fs__law_found_k03 (sAsg 1 (dCall f_read_web (dCons (dVar 0) dNil)) [some (.val d), none, none] mu) = _
  have : sAsg 1 (dCall f_read_web (dCons (dVar 0) dNil)) [some (.val d), none, none] mu = .ex 1002 [("line", .int 0), ("what", .str "text")] [some (.val d), none, none] mu := by
    simp [dFun, sSeq, snext, sIf, sbind, sAsg, sRet, sSkip, sExpr, sPar, sSetI, sSetA, sAug, sFor, sTg, dVar, dC, dNil, dCons, dBind, obind, dTup, dLst, dFrz, MO.d, dReg, dFz, dOp1, dOp2, dCmp, dB2v, dTst, dAnd, dOr, dNot, dIf, dCall, dIx, dLook, dIsi, dIsi2, dIsC, dIn, dChn, dMut, lstOf, putO, dM1, tyOk, dNw1, dNw2, dSl, dP, dNoP, dIsN, dItQ, dItS, dRg1, dRg2, dEnum, dLc, dYes, noex, Tg.run, gSets, List.length_map, List.length_cons, List.length_nil, List.map_cons, List.map_nil, e1]
  rw [this]
  unfold oTryC
  dsimp only
  rw [c2, if_pos rfl, l2]
  dsimp only
  rw [hd]
theorem same_str3 {n : Nat} {x : Str} {mu : Store} : f__law_same_at (n + 1) [.str x, .str x] mu = .ok (.bl true) mu := by
  have h : eqD (.str x) (.str x) = some true := by rw [eq_strs, decide_eq_true rfl]
  simp [f__law_same_at, g__law_same, dFun, sSeq, snext, sIf, sbind, sAsg, sRet, sSkip, sExpr, sPar, sSetI, sSetA, sAug, sFor, sTg, dVar, dC, dNil, dCons, dBind, obind, dTup, dLst, dFrz, MO.d, dReg, dFz, dOp1, dOp2, dCmp, dB2v, dTst, dAnd, dOr, dNot, dIf, dCall, dIx, dLook, dIsi, dIsi2, dIsC, dIn, dChn, dMut, lstOf, putO, dM1, tyOk, dNw1, dNw2, dSl, dP, dNoP, dIsN, dItQ, dItS, dRg1, dRg2, dEnum, dLc, dYes, noex, Tg.run, gSets, List.length_map, List.length_cons, List.length_nil, List.map_cons, List.map_nil, isiOk, isTy, dIsN, isNon, lookD, h]
theorem same_due {text : Str} (hz : text.length ≤ 90000) (mu : Store) : f__law_same [dueD text, dueD text] mu = .ok (.bl true) mu := by
  unfold dueD
  cases hr : readT text with
  | text k w =>
    refine same_tup (n := 5) (by simp) fun d hd => ?_
    simp only [List.mem_cons, List.not_mem_nil, or_false] at hd
    rcases hd with rfl | rfl | rfl
    · exact same_str3 (n := 4)
    · exact same_int (n := 4)
    · exact same_str3 (n := 4)
  | fin sp rd e =>
    dsimp only
    obtain ⟨i1, i2, i3, i4, i5⟩ := readT_fin hz hr
    cases hft : faultT sp (rd.map (prT sp)) with
    | some w =>
      refine same_tup (n := 5) (by simp) fun d hd => ?_
      simp only [List.mem_cons, List.not_mem_nil, or_false] at hd
      rcases hd with rfl | rfl
      · exact same_str3 (n := 4)
      · exact same_str3 (n := 4)
    | none =>
      have hw := faultT_web i1 i3 (fun q hq => by
        obtain ⟨p, hp, rfl⟩ := List.mem_map.mp hq
        exact prT_ok (i2 p hp)) hft
      have h9 := hw.names.le
      have hfew := hw.few
      refine same_tup (n := 5) (by simp) fun d hd => ?_
      simp only [List.mem_cons, List.not_mem_nil, or_false] at hd
      rcases hd with rfl | rfl | rfl
      · exact same_str3 (n := 4)
      · refine same_tup (n := 4) (by rw [List.length_map]; omega) fun d hd => ?_
        obtain ⟨x, _, rfl⟩ := List.mem_map.mp hd
        exact same_str3 (n := 3)
      · refine same_tup (n := 4) (by unfold srt; rw [List.length_mergeSort, List.length_map]; omega) fun d hd => ?_
        obtain ⟨q, _, rfl⟩ := srt_mem hd
        refine same_tup (n := 3) (by simp) fun d hd => ?_
        simp only [List.mem_cons, List.not_mem_nil, or_false] at hd
        rcases hd with rfl | rfl
        · exact same_int (n := 2)
        · exact same_int (n := 2)
end DL
end

section
set_option Elab.async false
set_option linter.all false
set_option maxRecDepth 100000
set_option maxHeartbeats 4000000
namespace DL
open PySem
/-! Y13: a line bent -/
def SW (ws : List Str) : Nat := (ws.map (·.length)).sum
theorem SW_app (a b : List Str) : SW (a ++ b) = SW a + SW b := by unfold SW; simp
theorem SW_drop : ∀ (l : List Str) (k : Nat), SW (l.drop k) ≤ SW l
  | [], k => by simp
  | a :: l, 0 => Nat.le_refl _
  | a :: l, k + 1 => by
    rw [List.drop_succ_cons]
    have := SW_drop l k
    have e : SW (a :: l) = a.length + SW l := rfl
    omega
theorem SW_take : ∀ (l : List Str) (k : Nat), SW (l.take k) ≤ SW l
  | [], k => by simp
  | a :: l, 0 => Nat.zero_le _
  | a :: l, k + 1 => by
    rw [List.take_succ_cons]
    have := SW_take l k
    have e : SW (a :: l) = a.length + SW l := rfl
    have e2 : SW (a :: l.take k) = a.length + SW (l.take k) := rfl
    omega
theorem SW_mem {l : List Str} {w : Str} (h : w ∈ l) : w.length ≤ SW l := by
  induction l with
  | nil => cases h
  | cons a l ih =>
    have e : SW (a :: l) = a.length + SW l := rfl
    rcases List.mem_cons.mp h with rfl | h
    · omega
    · have := ih h
      omega
theorem SW_cut (l : List Str) (lo hi : Option Int) : SW (cutG l lo hi) ≤ SW l := by
  unfold cutG
  exact Nat.le_trans (SW_take _ _) (SW_drop _ _)
theorem len_cut (l : List Str) (lo hi : Option Int) : (cutG l lo hi).length ≤ l.length := by
  unfold cutG
  rw [List.length_take, List.length_drop]
  omega
theorem join_len (sep : Str) (parts : List Str) : (Txt.join sep parts).length = SW parts + (parts.length - 1) * sep.length := size_glued sep parts
theorem split_sum (x : Str) : SW (Txt.split x " ") + ((Txt.split x " ").length - 1) = x.length := by
  have h1 : (" " : Str).length = 1 := by decide +kernel
  unfold Txt.split
  split
  · show x.length + 0 + 0 = x.length; rfl
  · split
    · show x.length + 0 + 0 = x.length; rfl
    · have e := StrLaws.glued_between_self x " " (x.length + 1)
      have e2 := congrArg Str.length e
      rw [size_glued, h1, Nat.mul_one] at e2
      rw [h1]
      exact e2
theorem sl_map (ws : List Str) (lo hi : Option Int) : sliceD (.lst (ws.map D.str)) lo hi = some (.lst ((cutG ws lo hi).map D.str)) := by
  show some (D.lst (cutG (ws.map D.str) lo hi)) = _
  unfold cutG
  rw [List.map_take, List.map_drop, List.length_map]
theorem add_strs {a b : List Str} (h : a.length + b.length ≤ 16000000) : addD (.lst (a.map D.str)) (.lst (b.map D.str)) = some (.lst ((a ++ b).map D.str)) := by
  show (if _ then _ else _) = _
  rw [if_pos (by rw [List.length_map, List.length_map]; exact h), List.map_append]
theorem strsD_map : ∀ l : List Str, strsD (l.map D.str) = some l
  | [] => rfl
  | x :: l => by
    rw [List.map_cons]
    unfold strsD
    rw [strsD_map l]
    rfl
theorem join_ok {sep : Str} {ws : List Str} (h : SW ws + ws.length * sep.length ≤ 16777216) : joinD (.str sep) (.lst (ws.map D.str)) = some (.str (Txt.join sep ws)) := by
  unfold joinD
  dsimp only
  rw [strsD_map]
  dsimp only
  exact if_pos h
theorem eq_int2 (i j : Int) : eqD (.int i) (.int j) = some (decide (i = j)) := eq_ints i j
theorem lt_int (i j : Int) : ltD (.int i) (.int j) = some (decide (i < j)) := rfl
def bl0 : SF :=
  (sAsg 3 (dM1 "str" splitD (dVar 1) (dC (.str " "))))
def bl1 : SF :=
  (sPar 5 6 (dCall f__law_draw (dCons (dVar 0) (dCons (dOp1 lenD (dLook (dVar 3))) dNil))) (dCall f__law_draw (dCons (dVar 0) (dCons (dC (.int 8)) dNil))))
def bl2 : SF :=
  (sAsg 4 (dCall f__law_pick (dCons (dVar 0) (dCons (dOp2 addD (dVar 2) (dFrz (dLst (dCons (dC (.str "spot")) (dCons (dC (.str "road")) (dCons (dC (.str "over")) (dCons (dC (.str "x")) (dCons (dC (.str "0")) (dCons (dC (.str "X")) (dCons (dC (.str "")) dNil)))))))))) dNil))))
def bl3 : SF :=
  (sIf (dCmp ltD (dVar 6) (dC (.int 2))) (sAsg 3 (dOp2 addD (dOp2 addD (dSl (dVar 3) dNoP (dP (dVar 5))) (dFrz (dLst (dCons (dVar 4) dNil)))) (dSl (dVar 3) (dP (dOp2 addD (dVar 5) (dVar 6))) dNoP))) (sIf (dCmp eqD (dVar 6) (dC (.int 2))) (sAsg 3 (dOp2 addD (dSl (dVar 3) dNoP (dP (dVar 5))) (dSl (dVar 3) (dP (dOp2 addD (dVar 5) (dC (.int 1)))) dNoP))) (sIf (dCmp eqD (dVar 6) (dC (.int 3))) (sAsg 3 (dOp2 addD (dOp2 addD (dSl (dVar 3) dNoP (dP (dVar 5))) (dSl (dVar 3) (dP (dVar 5)) (dP (dOp2 addD (dVar 5) (dC (.int 1)))))) (dSl (dVar 3) (dP (dVar 5)) dNoP))) (sIf (dCmp eqD (dVar 6) (dC (.int 4))) (sAsg 3 (dOp2 addD (dVar 3) (dFrz (dLst (dCons (dCall f__law_pick (dCons (dVar 0) (dCons (dOp2 addD (dVar 3) (dFrz (dLst (dCons (dVar 4) dNil)))) dNil))) dNil))))) (sSeq (sAsg 7 (dCall f__law_draw (dCons (dVar 0) (dCons (dOp2 addD (dOp1 lenD (dLook (dVar 1))) (dC (.int 1))) dNil))))
  (sRet (dOp2 addD (dOp2 addD (dSl (dVar 1) dNoP (dP (dVar 7))) (dCall f__law_pick (dCons (dVar 0) (dCons (dFrz (dLst (dCons (dC (.str " ")) (dCons (dC (.str "a")) (dCons (dC (.str "\n")) (dCons (dC (.str "1")) (dCons (dC (.str "over")) (dCons (dC (.str "\nover\n")) dNil)))))))) dNil)))) (dSl (dVar 1) (dP (dVar 7)) dNoP))))))))
def bl4 : SF :=
  (sRet (dM1 "str" joinD (dC (.str " ")) (dVar 3)))
theorem bl_eq : g__law_bent_line = (sSeq bl0 (sSeq bl1 (sSeq bl2 (sSeq bl3 bl4)))) := rfl
def BLs (line : Str) (names ws : List Str) (m : Str) (a w : Int) : Sl := [some (.val (.obj 0)), some (.val (.str line)), some (.val (.lst (names.map D.str))), some (.val (.lst (ws.map D.str))), some (.val (.str m)), some (.val (.int a)), some (.val (.int w)), none]
section
variable {names ws : List Str} {line m : Str} {a w : Int} {r : Store}
/-- words exchanged -/
theorem bl_words {p : Pot} (ok : p.Ok) (hm : m.length ≤ 8) (hw8 : w < 5) (hw0 : 0 ≤ w) (hne : ws ≠ []) (hz : ws.length ≤ 1000000) : ∃ ws' p', bl3 (BLs line names ws m a w) (mus p r) = .nx (BLs line names ws' m a w) (mus p' r) ∧ p'.Ok ∧ SW ws' ≤ 3 * SW ws + 8 ∧ ws'.length ≤ 3 * ws.length + 1 := by
  have l1 := lt_int w 2
  have q2 := eq_int2 w 2
  have q3 := eq_int2 w 3
  have q4 := eq_int2 w 4
  have hk : ∀ mu l, lookD mu (.lst l) = .lst l := fun _ _ => rfl
  by_cases c1 : w < 2
  · rw [decide_eq_true c1] at l1
    have t1 := sl_map ws none (some a)
    have t2 := sl_map ws (some (a + w)) none
    have n1 := len_cut ws none (some a)
    have n2 := len_cut ws (some (a + w)) none
    have s1 := SW_cut ws none (some a)
    have s2 := SW_cut ws (some (a + w)) none
    generalize cutG ws none (some a) = u1 at *
    generalize cutG ws (some (a + w)) none = u2 at *
    have a1 : addD (.lst (u1.map D.str)) (.lst [.str m]) = some (.lst ((u1 ++ [m]).map D.str)) := add_strs (a := u1) (b := [m]) (by rw [List.length_singleton]; omega)
    have a2 := add_strs (a := u1 ++ [m]) (b := u2) (by rw [List.length_append, List.length_singleton]; omega)
    have a3 : addD (.int a) (.int w) = some (.int (a + w)) := rfl
    refine ⟨u1 ++ [m] ++ u2, p, ?_, ok, ?_, ?_⟩
    · unfold BLs
      generalize (u1 ++ [m] ++ u2).map D.str = l4 at *
      generalize (u1 ++ [m]).map D.str = l3 at *
      generalize u1.map D.str = l1' at *
      generalize u2.map D.str = l2' at *
      generalize ws.map D.str = lw at *
      simp [bl3, dFun, sSeq, snext, sIf, sbind, sAsg, sRet, sSkip, sExpr, sPar, sSetI, sSetA, sAug, sFor, sTg, dVar, dC, dNil, dCons, dBind, obind, dTup, dLst, dFrz, MO.d, dReg, dFz, dOp1, dOp2, dCmp, dB2v, dTst, dAnd, dOr, dNot, dIf, dCall, dIx, dLook, dIsi, dIsi2, dIsC, dIn, dChn, dMut, lstOf, putO, dM1, tyOk, dNw1, dNw2, dSl, dP, dNoP, dIsN, dItQ, dItS, dRg1, dRg2, dEnum, dLc, dYes, noex, Tg.run, gSets, List.length_map, List.length_cons, List.length_nil, List.map_cons, List.map_nil, l1, hk, t1, t2, a1, a2, a3]
    · rw [SW_app, SW_app]
      have : SW [m] = m.length := by show m.length + 0 = _; rfl
      omega
    · rw [List.length_append, List.length_append, List.length_singleton]
      omega
  rw [decide_eq_false c1] at l1
  by_cases c2 : w = 2
  · rw [decide_eq_true c2] at q2
    have t1 := sl_map ws none (some a)
    have t2 := sl_map ws (some (a + 1)) none
    have n1 := len_cut ws none (some a)
    have n2 := len_cut ws (some (a + 1)) none
    have s1 := SW_cut ws none (some a)
    have s2 := SW_cut ws (some (a + 1)) none
    generalize cutG ws none (some a) = u1 at *
    generalize cutG ws (some (a + 1)) none = u2 at *
    have a2 := add_strs (a := u1) (b := u2) (by omega)
    have a3 : addD (.int a) (.int 1) = some (.int (a + 1)) := rfl
    refine ⟨u1 ++ u2, p, ?_, ok, ?_, ?_⟩
    · unfold BLs
      generalize (u1 ++ u2).map D.str = l4 at *
      generalize u1.map D.str = l1' at *
      generalize u2.map D.str = l2' at *
      generalize ws.map D.str = lw at *
      simp [bl3, dFun, sSeq, snext, sIf, sbind, sAsg, sRet, sSkip, sExpr, sPar, sSetI, sSetA, sAug, sFor, sTg, dVar, dC, dNil, dCons, dBind, obind, dTup, dLst, dFrz, MO.d, dReg, dFz, dOp1, dOp2, dCmp, dB2v, dTst, dAnd, dOr, dNot, dIf, dCall, dIx, dLook, dIsi, dIsi2, dIsC, dIn, dChn, dMut, lstOf, putO, dM1, tyOk, dNw1, dNw2, dSl, dP, dNoP, dIsN, dItQ, dItS, dRg1, dRg2, dEnum, dLc, dYes, noex, Tg.run, gSets, List.length_map, List.length_cons, List.length_nil, List.map_cons, List.map_nil, l1, q2, hk, t1, t2, a2, a3]
    · rw [SW_app]
      omega
    · rw [List.length_append]
      omega
  rw [decide_eq_false c2] at q2
  by_cases c3 : w = 3
  · rw [decide_eq_true c3] at q3
    have t1 := sl_map ws none (some a)
    have t2 := sl_map ws (some a) (some (a + 1))
    have t3 := sl_map ws (some a) none
    have n1 := len_cut ws none (some a)
    have n2 := len_cut ws (some a) (some (a + 1))
    have n3 := len_cut ws (some a) none
    have s1 := SW_cut ws none (some a)
    have s2 := SW_cut ws (some a) (some (a + 1))
    have s3 := SW_cut ws (some a) none
    generalize cutG ws none (some a) = u1 at *
    generalize cutG ws (some a) (some (a + 1)) = u2 at *
    generalize cutG ws (some a) none = u3 at *
    have a1 := add_strs (a := u1) (b := u2) (by omega)
    have a2 := add_strs (a := u1 ++ u2) (b := u3) (by rw [List.length_append]; omega)
    have a3 : addD (.int a) (.int 1) = some (.int (a + 1)) := rfl
    refine ⟨u1 ++ u2 ++ u3, p, ?_, ok, ?_, ?_⟩
    · unfold BLs
      generalize (u1 ++ u2 ++ u3).map D.str = l5 at *
      generalize (u1 ++ u2).map D.str = l4 at *
      generalize u1.map D.str = l1' at *
      generalize u2.map D.str = l2' at *
      generalize u3.map D.str = l3' at *
      generalize ws.map D.str = lw at *
      simp [bl3, dFun, sSeq, snext, sIf, sbind, sAsg, sRet, sSkip, sExpr, sPar, sSetI, sSetA, sAug, sFor, sTg, dVar, dC, dNil, dCons, dBind, obind, dTup, dLst, dFrz, MO.d, dReg, dFz, dOp1, dOp2, dCmp, dB2v, dTst, dAnd, dOr, dNot, dIf, dCall, dIx, dLook, dIsi, dIsi2, dIsC, dIn, dChn, dMut, lstOf, putO, dM1, tyOk, dNw1, dNw2, dSl, dP, dNoP, dIsN, dItQ, dItS, dRg1, dRg2, dEnum, dLc, dYes, noex, Tg.run, gSets, List.length_map, List.length_cons, List.length_nil, List.map_cons, List.map_nil, l1, q2, q3, hk, t1, t2, t3, a1, a2, a3]
    · rw [SW_app, SW_app]
      omega
    · rw [List.length_append, List.length_append]
      omega
  rw [decide_eq_false c3] at q3
  have c4 : w = 4 := by omega
  rw [decide_eq_true c4] at q4
  have a1 : addD (.lst (ws.map D.str)) (.lst [.str m]) = some (.lst ((ws ++ [m]).map D.str)) := add_strs (a := ws) (b := [m]) (by rw [List.length_singleton]; omega)
  obtain ⟨d, p', e, ok', hd⟩ := pick_lst ok (l := (ws ++ [m]).map D.str) (by simp) (by rw [List.length_map, List.length_append, List.length_singleton]; omega) r
  obtain ⟨x, hx, rfl⟩ := List.mem_map.mp hd
  have hxl : x.length ≤ SW ws + 8 := by
    rcases List.mem_append.mp hx with hx | hx
    · have := SW_mem hx
      omega
    · rw [List.mem_singleton] at hx
      rw [hx]
      omega
  have a2 : addD (.lst (ws.map D.str)) (.lst [.str x]) = some (.lst ((ws ++ [x]).map D.str)) := add_strs (a := ws) (b := [x]) (by rw [List.length_singleton]; omega)
  refine ⟨ws ++ [x], p', ?_, ok', ?_, ?_⟩
  · unfold BLs
    generalize (ws ++ [x]).map D.str = l4 at *
    generalize (ws ++ [m]).map D.str = l3 at *
    generalize ws.map D.str = lw at *
    simp [bl3, dFun, sSeq, snext, sIf, sbind, sAsg, sRet, sSkip, sExpr, sPar, sSetI, sSetA, sAug, sFor, sTg, dVar, dC, dNil, dCons, dBind, obind, dTup, dLst, dFrz, MO.d, dReg, dFz, dOp1, dOp2, dCmp, dB2v, dTst, dAnd, dOr, dNot, dIf, dCall, dIx, dLook, dIsi, dIsi2, dIsC, dIn, dChn, dMut, lstOf, putO, dM1, tyOk, dNw1, dNw2, dSl, dP, dNoP, dIsN, dItQ, dItS, dRg1, dRg2, dEnum, dLc, dYes, noex, Tg.run, gSets, List.length_map, List.length_cons, List.length_nil, List.map_cons, List.map_nil, l1, q2, q3, q4, a1, e, a2]
  · rw [SW_app]
    have : SW [x] = x.length := by show x.length + 0 = _; rfl
    omega
  · rw [List.length_append, List.length_singleton]
    omega
theorem add_str2 {a b : Str} (h : a.length + b.length ≤ 16000000) : addD (.str a) (.str b) = some (.str (a ++ b)) := if_pos h
theorem slS (z : Str) (hz : z.length ≤ 16000000) (lo hi : Option Int) : sliceD (.str z) lo hi = some (.str (L2.cutS z lo hi)) := if_pos hz
theorem cutS_len (z : Str) (lo hi : Option Int) : (L2.cutS z lo hi).length ≤ z.length := by
  unfold L2.cutS
  rw [TL.len_tl, TL.len_tl z]
  show (((z.cps.toList.drop _).take _).toArray).toList.length ≤ z.cps.toList.length
  rw [List.toList_toArray, List.length_take, List.length_drop]
  omega
theorem app_len (x y : Str) : (x ++ y).length = x.length + y.length := by rw [TL.len_tl, TL.len_tl, TL.len_tl, TL.tl_append, List.length_append]
def insW : List Str := [" ", "a", "\n", "1", "over", "\nover\n"]
theorem insW_len : ∀ x ∈ insW, x.length ≤ 6 := by decide +kernel
theorem bl_insert {p : Pot} (ok : p.Ok) (hw : 5 ≤ w) (hz : line.length ≤ 1000000) : ∃ l' p', bl3 (BLs line names ws m a w) (mus p r) = .rt (.str l') (mus p' r) ∧ p'.Ok ∧ l'.length ≤ 2 * line.length + 6 := by
  have l1 := lt_int w 2
  have q2 := eq_int2 w 2
  have q3 := eq_int2 w 3
  have q4 := eq_int2 w 4
  rw [decide_eq_false (by omega)] at l1 q2 q3 q4
  obtain ⟨v, p1, e1, ok1, v0, v1⟩ := draw_ok ok (many := (line.length : Int) + 1) (by omega) (by omega) r
  obtain ⟨d, p2, e2, ok2, hd⟩ := pick_lst ok1 (l := insW.map D.str) (by simp [insW]) (by simp [insW]) r
  obtain ⟨x, hx, rfl⟩ := List.mem_map.mp hd
  have hx6 := insW_len x hx
  have e2 : f__law_pick [.obj 0, .lst [.str " ", .str "a", .str "\n", .str "1", .str "over", .str "\nover\n"]] (mus p1 r) = .ok (.str x) (mus p2 r) := e2
  have t1 := slS line (by omega) none (some v)
  have t2 := slS line (by omega) (some v) none
  have n1 := cutS_len line none (some v)
  have n2 := cutS_len line (some v) none
  have hl : lenD (.str line) = some (.int (line.length : Int)) := if_pos (by omega)
  have a0 : addD (.int (line.length : Int)) (.int 1) = some (.int ((line.length : Int) + 1)) := rfl
  have hk : ∀ mu z, lookD mu (.str z) = .str z := fun _ _ => rfl
  generalize L2.cutS line none (some v) = u1 at *
  generalize L2.cutS line (some v) none = u2 at *
  have a1 := add_str2 (a := u1) (b := x) (by omega)
  have a2 := add_str2 (a := u1 ++ x) (b := u2) (by rw [app_len]; omega)
  refine ⟨u1 ++ x ++ u2, p2, ?_, ok2, ?_⟩
  · unfold BLs
    generalize (line.length : Int) + 1 = n at *
    generalize (line.length : Int) = n0 at *
    generalize u1 ++ x ++ u2 = z3 at *
    generalize u1 ++ x = z2 at *
    generalize ws.map D.str = lw at *
    simp [bl3, dFun, sSeq, snext, sIf, sbind, sAsg, sRet, sSkip, sExpr, sPar, sSetI, sSetA, sAug, sFor, sTg, dVar, dC, dNil, dCons, dBind, obind, dTup, dLst, dFrz, MO.d, dReg, dFz, dOp1, dOp2, dCmp, dB2v, dTst, dAnd, dOr, dNot, dIf, dCall, dIx, dLook, dIsi, dIsi2, dIsC, dIn, dChn, dMut, lstOf, putO, dM1, tyOk, dNw1, dNw2, dSl, dP, dNoP, dIsN, dItQ, dItS, dRg1, dRg2, dEnum, dLc, dYes, noex, Tg.run, gSets, List.length_map, List.length_cons, List.length_nil, List.map_cons, List.map_nil, l1, q2, q3, q4, hk, hl, a0, e1, t1, t2, e2, a1, a2]
  · rw [app_len, app_len]
    omega
def moreW : List Str := ["spot", "road", "over", "x", "0", "X", ""]
theorem moreW_len : ∀ x ∈ moreW, x.length ≤ 8 := by decide +kernel
theorem bent_line_ok {p : Pot} (ok : p.Ok) (hn : ∀ x ∈ names, x.length ≤ 8) (hnl : names.length ≤ 1000) (hz : line.length ≤ 200000) : ∃ l' p', f__law_bent_line [.obj 0, .str line, .lst (names.map D.str)] (mus p r) = .ok (.str l') (mus p' r) ∧ p'.Ok ∧ l'.length ≤ 3 * line.length + 12 := by
  obtain ⟨f1, f2, f3⟩ := split_facts line " "
  have hss := split_sum line
  have hsp : splitD (.str line) (.str " ") = some (.lst ((Txt.split line " ").map D.str)) := by
    unfold splitD
    dsimp only
    rw [if_pos ⟨by decide +kernel, by omega⟩]
  generalize Txt.split line " " = ws0 at *
  have hws1 : 1 ≤ ws0.length := List.length_pos_iff.mpr f1
  obtain ⟨a, p1, e1, ok1, a0, a1⟩ := draw_ok ok (many := (ws0.length : Int)) (by omega) (by omega) r
  obtain ⟨w, p2, e2, ok2, w0, w1⟩ := draw_ok ok1 (many := 8) (by decide) (by decide) r
  obtain ⟨d, p3, e3, ok3, hd⟩ := pick_lst ok2 (l := (names ++ moreW).map D.str) (by simp [moreW]) (by rw [List.length_map, List.length_append]; show _ + 7 < _; omega) r
  obtain ⟨m, hm, rfl⟩ := List.mem_map.mp hd
  have hm8 : m.length ≤ 8 := by
    rcases List.mem_append.mp hm with h | h
    · exact hn m h
    · exact moreW_len m h
  have hadd : addD (.lst (names.map D.str)) (.lst [.str "spot", .str "road", .str "over", .str "x", .str "0", .str "X", .str ""]) = some (.lst ((names ++ moreW).map D.str)) := add_strs (a := names) (b := moreW) (by show _ + 7 ≤ _; omega)
  have hl := lenL D.str ws0
  have hk : ∀ mu l, lookD mu (.lst l) = .lst l := fun _ _ => rfl
  have start : ∀ o, sSeq bl3 bl4 (BLs line names ws0 m a w) (mus p3 r) = o → g__law_bent_line [some (.val (.obj 0)), some (.val (.str line)), some (.val (.lst (names.map D.str))), none, none, none, none, none] (mus p r) = o := fun o h => by
    rw [bl_eq]
    refine (seq_nx (sl' := [some (.val (.obj 0)), some (.val (.str line)), some (.val (.lst (names.map D.str))), some (.val (.lst (ws0.map D.str))), none, none, none, none]) (mu' := mus p r) ?_).trans ((seq_nx (sl' := [some (.val (.obj 0)), some (.val (.str line)), some (.val (.lst (names.map D.str))), some (.val (.lst (ws0.map D.str))), none, some (.val (.int a)), some (.val (.int w)), none]) (mu' := mus p2 r) ?_).trans ((seq_nx (sl' := BLs line names ws0 m a w) (mu' := mus p3 r) ?_).trans h))
    · generalize ws0.map D.str = lw at *
      generalize names.map D.str = ln at *
      simp [bl0, dFun, sSeq, snext, sIf, sbind, sAsg, sRet, sSkip, sExpr, sPar, sSetI, sSetA, sAug, sFor, sTg, dVar, dC, dNil, dCons, dBind, obind, dTup, dLst, dFrz, MO.d, dReg, dFz, dOp1, dOp2, dCmp, dB2v, dTst, dAnd, dOr, dNot, dIf, dCall, dIx, dLook, dIsi, dIsi2, dIsC, dIn, dChn, dMut, lstOf, putO, dM1, tyOk, dNw1, dNw2, dSl, dP, dNoP, dIsN, dItQ, dItS, dRg1, dRg2, dEnum, dLc, dYes, noex, Tg.run, gSets, List.length_map, List.length_cons, List.length_nil, List.map_cons, List.map_nil, hsp]
    · generalize (ws0.length : Int) = n at *
      generalize ws0.map D.str = lw at *
      generalize names.map D.str = ln at *
      simp [bl1, sPar, dFun, sSeq, snext, sIf, sbind, sAsg, sRet, sSkip, sExpr, sPar, sSetI, sSetA, sAug, sFor, sTg, dVar, dC, dNil, dCons, dBind, obind, dTup, dLst, dFrz, MO.d, dReg, dFz, dOp1, dOp2, dCmp, dB2v, dTst, dAnd, dOr, dNot, dIf, dCall, dIx, dLook, dIsi, dIsi2, dIsC, dIn, dChn, dMut, lstOf, putO, dM1, tyOk, dNw1, dNw2, dSl, dP, dNoP, dIsN, dItQ, dItS, dRg1, dRg2, dEnum, dLc, dYes, noex, Tg.run, gSets, List.length_map, List.length_cons, List.length_nil, List.map_cons, List.map_nil, hk, hl, e1, e2]
    · unfold BLs
      generalize (names ++ moreW).map D.str = lm at *
      generalize ws0.map D.str = lw at *
      generalize names.map D.str = ln at *
      simp [bl2, dFun, sSeq, snext, sIf, sbind, sAsg, sRet, sSkip, sExpr, sPar, sSetI, sSetA, sAug, sFor, sTg, dVar, dC, dNil, dCons, dBind, obind, dTup, dLst, dFrz, MO.d, dReg, dFz, dOp1, dOp2, dCmp, dB2v, dTst, dAnd, dOr, dNot, dIf, dCall, dIx, dLook, dIsi, dIsi2, dIsC, dIn, dChn, dMut, lstOf, putO, dM1, tyOk, dNw1, dNw2, dSl, dP, dNoP, dIsN, dItQ, dItS, dRg1, dRg2, dEnum, dLc, dYes, noex, Tg.run, gSets, List.length_map, List.length_cons, List.length_nil, List.map_cons, List.map_nil, hadd, e3]
  by_cases h5 : w < 5
  · obtain ⟨ws', p4, e4, ok4, b1, b2⟩ := bl_words (names := names) (ws := ws0) (line := line) (m := m) (a := a) (w := w) (r := r) ok3 hm8 h5 w0 f1 (by omega)
    have h1 : (" " : Str).length = 1 := by decide +kernel
    have ej := join_ok (sep := " ") (ws := ws') (by rw [h1]; omega)
    have jl := join_len " " ws'
    rw [h1] at jl
    refine ⟨Txt.join " " ws', p4, fun_rt (n := 8) (g := g__law_bent_line) (start _ ((seq_nx e4).trans ?_)), ok4, by omega⟩
    unfold BLs
    generalize ws'.map D.str = lw at *
    generalize names.map D.str = ln at *
    simp [bl4, dFun, sSeq, snext, sIf, sbind, sAsg, sRet, sSkip, sExpr, sPar, sSetI, sSetA, sAug, sFor, sTg, dVar, dC, dNil, dCons, dBind, obind, dTup, dLst, dFrz, MO.d, dReg, dFz, dOp1, dOp2, dCmp, dB2v, dTst, dAnd, dOr, dNot, dIf, dCall, dIx, dLook, dIsi, dIsi2, dIsC, dIn, dChn, dMut, lstOf, putO, dM1, tyOk, dNw1, dNw2, dSl, dP, dNoP, dIsN, dItQ, dItS, dRg1, dRg2, dEnum, dLc, dYes, noex, Tg.run, gSets, List.length_map, List.length_cons, List.length_nil, List.map_cons, List.map_nil, ej]
  · obtain ⟨l', p4, e4, ok4, b1⟩ := bl_insert (names := names) (ws := ws0) (line := line) (m := m) (a := a) (w := w) (r := r) ok3 (by omega) (by omega)
    exact ⟨l', p4, fun_rt (n := 8) (g := g__law_bent_line) (start _ (seq_rt e4)), ok4, by omega⟩
end
end DL
end

section
set_option Elab.async false
set_option linter.all false
set_option maxRecDepth 100000
set_option maxHeartbeats 4000000
namespace DL
open PySem
/-! Y14: lines bent, the lines of a spec -/
def bt0 : SF :=
  (sIf (dCmp eqD (dVar 1) (dFrz (dLst dNil))) (sRet (dFrz (dLst (dCons (dCall f__law_pick (dCons (dVar 0) (dCons (dFrz (dLst (dCons (dC (.str "")) (dCons (dC (.str "over")) (dCons (dC (.str "spot a")) dNil))))) dNil))) dNil)))) sSkip)
def bt1 : SF :=
  (sPar3 3 4 5 (dCall f__law_draw (dCons (dVar 0) (dCons (dOp1 lenD (dLook (dVar 1))) dNil))) (dCall f__law_draw (dCons (dVar 0) (dCons (dOp1 lenD (dLook (dVar 1))) dNil))) (dCall f__law_draw (dCons (dVar 0) (dCons (dC (.int 8)) dNil))))
def bt2 : SF :=
  (sIf (dCmp eqD (dVar 5) (dC (.int 0))) (sRet (dOp2 addD (dSl (dVar 1) dNoP (dP (dVar 3))) (dSl (dVar 1) (dP (dOp2 addD (dVar 3) (dC (.int 1)))) dNoP))) sSkip)
def bt3 : SF :=
  (sIf (dCmp eqD (dVar 5) (dC (.int 1))) (sRet (dOp2 addD (dOp2 addD (dSl (dVar 1) dNoP (dP (dVar 3))) (dFrz (dLst (dCons (dIx (dVar 1) (dVar 4)) dNil)))) (dSl (dVar 1) (dP (dVar 3)) dNoP))) sSkip)
def bt4 : SF :=
  (sIf (dCmp eqD (dVar 5) (dC (.int 2))) (sRet (dOp2 addD (dOp2 addD (dSl (dVar 1) dNoP (dP (dVar 3))) (dFrz (dLst (dCons (dCall f__law_pick (dCons (dVar 0) (dCons (dFrz (dLst (dCons (dC (.str "over")) (dCons (dC (.str "spot a")) (dCons (dC (.str "road a b")) (dCons (dOp2 addD (dOp2 addD (dOp2 addD (dC (.str "road ")) (dIx (dVar 2) (dC (.int 0)))) (dC (.str " "))) (dIx (dVar 2) (dOp1 negD (dC (.int 1))))) (dCons (dC (.str "spot")) (dCons (dC (.str "")) dNil)))))))) dNil))) dNil)))) (dSl (dVar 1) (dP (dVar 3)) dNoP))) sSkip)
def bt5 : SF :=
  (sIf (dCmp eqD (dVar 5) (dC (.int 3))) (sRet (dOp2 addD (dOp2 addD (dSl (dVar 1) dNoP (dP (dVar 3))) (dFrz (dLst (dCons (dIx (dVar 1) (dVar 4)) dNil)))) (dSl (dVar 1) (dP (dOp2 addD (dVar 3) (dC (.int 1)))) dNoP))) sSkip)
def bt6 : SF :=
  (sRet (dOp2 addD (dOp2 addD (dSl (dVar 1) dNoP (dP (dVar 3))) (dFrz (dLst (dCons (dCall f__law_bent_line (dCons (dVar 0) (dCons (dIx (dVar 1) (dVar 3)) (dCons (dVar 2) dNil)))) dNil)))) (dSl (dVar 1) (dP (dOp2 addD (dVar 3) (dC (.int 1)))) dNoP)))
theorem bt_eq : g__law_bent_text = (sSeq bt0 (sSeq bt1 (sSeq bt2 (sSeq bt3 (sSeq bt4 (sSeq bt5 bt6)))))) := rfl
def BTs (names ls : List Str) (a o w : Int) : Sl := [some (.val (.obj 0)), some (.val (.lst (ls.map D.str))), some (.val (.lst (names.map D.str))), some (.val (.int a)), some (.val (.int o)), some (.val (.int w))]
section
variable {names ls : List Str} {r : Store} {B : Nat}
theorem take_drop_ok {l : List Str} {a : Nat} (h : a ≤ l.length) : sliceD (.lst (l.map D.str)) none (some (a : Int)) = some (.lst ((l.take a).map D.str)) ∧ sliceD (.lst (l.map D.str)) (some (a : Int)) none = some (.lst ((l.drop a).map D.str)) := by
  refine ⟨?_, ?_⟩
  · rw [sl_map, cut_to h]
  · rw [sl_map, cut_from h]
theorem bent_text_ok {p : Pot} (ok : p.Ok) (hn : ∀ x ∈ names, x.length ≤ 8) (hnl : names.length ≤ 1000) (hne : names ≠ []) (hz : ls.length ≤ 1000) (hB : ∀ x ∈ ls, x.length ≤ B) (hB1 : 22 ≤ B) (hB2 : B ≤ 200000) :
    ∃ (ls' : List Str) (p' : Pot), f__law_bent_text [.obj 0, .lst (ls.map D.str), .lst (names.map D.str)] (mus p r) = .ok (.lst (ls'.map D.str)) (mus p' r) ∧ p'.Ok ∧ ls'.length ≤ ls.length + 1 ∧ ∀ x ∈ ls', x.length ≤ 3 * B + 12 := by
  have enil : eqD (.lst (ls.map D.str)) (.lst []) = some (decide (ls = [])) := eq_strsL ls []
  have go : ∀ {o : D} {mu' : Store}, g__law_bent_text [some (.val (.obj 0)), some (.val (.lst (ls.map D.str))), some (.val (.lst (names.map D.str))), none, none, none] (mus p r) = .rt o mu' → f__law_bent_text [.obj 0, .lst (ls.map D.str), .lst (names.map D.str)] (mus p r) = .ok o mu' := fun h => fun_rt (n := 6) (g := g__law_bent_text) h
  by_cases h0 : ls = []
  · rw [decide_eq_true h0] at enil
    obtain ⟨d, p1, e1, ok1, hd⟩ := pick_lst ok (l := (["", "over", "spot a"] : List Str).map D.str) (by simp) (by simp) r
    obtain ⟨x, hx, rfl⟩ := List.mem_map.mp hd
    have e1 : f__law_pick [.obj 0, .lst [.str "", .str "over", .str "spot a"]] (mus p r) = .ok (.str x) (mus p1 r) := e1
    have hx6 : x.length ≤ 22 := by
      have : ∀ y ∈ (["", "over", "spot a"] : List Str), y.length ≤ 22 := by decide +kernel
      exact this x hx
    refine ⟨[x], p1, go ?_, ok1, by simp, fun y hy => by rw [List.mem_singleton] at hy; rw [hy]; omega⟩
    rw [bt_eq]
    refine seq_rt ?_
    generalize ls.map D.str = l1 at *
    generalize names.map D.str = l2 at *
    simp [bt0, dFun, sSeq, snext, sIf, sbind, sAsg, sRet, sSkip, sExpr, sPar, sSetI, sSetA, sAug, sFor, sTg, dVar, dC, dNil, dCons, dBind, obind, dTup, dLst, dFrz, MO.d, dReg, dFz, dOp1, dOp2, dCmp, dB2v, dTst, dAnd, dOr, dNot, dIf, dCall, dIx, dLook, dIsi, dIsi2, dIsC, dIn, dChn, dMut, lstOf, putO, dM1, tyOk, dNw1, dNw2, dSl, dP, dNoP, dIsN, dItQ, dItS, dRg1, dRg2, dEnum, dLc, dYes, noex, Tg.run, gSets, List.length_map, List.length_cons, List.length_nil, List.map_cons, List.map_nil, enil, e1]
  · rw [decide_eq_false h0] at enil
    have hl1 : 1 ≤ ls.length := List.length_pos_iff.mpr h0
    obtain ⟨a', p1, e1, ok1, a0, a1⟩ := draw_ok ok (many := (ls.length : Int)) (by omega) (by omega) r
    obtain ⟨o', p2, e2, ok2, o0, o1⟩ := draw_ok ok1 (many := (ls.length : Int)) (by omega) (by omega) r
    obtain ⟨w, p3, e3, ok3, w0, w1⟩ := draw_ok ok2 (many := 8) (by decide) (by decide) r
    obtain ⟨a, ha⟩ : ∃ n : Nat, a' = (n : Int) := ⟨a'.toNat, by omega⟩
    obtain ⟨o, ho⟩ : ∃ n : Nat, o' = (n : Int) := ⟨o'.toNat, by omega⟩
    subst ha ho
    have han : a < ls.length := by omega
    have hon : o < ls.length := by omega
    have hl := lenL D.str ls
    have hk : ∀ mu l, lookD mu (.lst l) = .lst l := fun _ _ => rfl
    have start : ∀ {o2 : OutS}, sSeq bt2 (sSeq bt3 (sSeq bt4 (sSeq bt5 bt6))) (BTs names ls (a : Int) (o : Int) w) (mus p3 r) = o2 → g__law_bent_text [some (.val (.obj 0)), some (.val (.lst (ls.map D.str))), some (.val (.lst (names.map D.str))), none, none, none] (mus p r) = o2 := fun h => by
      rw [bt_eq]
      refine (seq_nx (sl' := [some (.val (.obj 0)), some (.val (.lst (ls.map D.str))), some (.val (.lst (names.map D.str))), none, none, none]) (mu' := mus p r) ?_).trans ((seq_nx (sl' := BTs names ls (a : Int) (o : Int) w) (mu' := mus p3 r) ?_).trans h)
      · generalize ls.map D.str = l1 at *
        generalize names.map D.str = l2 at *
        simp [bt0, dFun, sSeq, snext, sIf, sbind, sAsg, sRet, sSkip, sExpr, sPar, sSetI, sSetA, sAug, sFor, sTg, dVar, dC, dNil, dCons, dBind, obind, dTup, dLst, dFrz, MO.d, dReg, dFz, dOp1, dOp2, dCmp, dB2v, dTst, dAnd, dOr, dNot, dIf, dCall, dIx, dLook, dIsi, dIsi2, dIsC, dIn, dChn, dMut, lstOf, putO, dM1, tyOk, dNw1, dNw2, dSl, dP, dNoP, dIsN, dItQ, dItS, dRg1, dRg2, dEnum, dLc, dYes, noex, Tg.run, gSets, List.length_map, List.length_cons, List.length_nil, List.map_cons, List.map_nil, enil]
      · unfold BTs
        generalize (ls.length : Int) = n at *
        generalize ls.map D.str = l1 at *
        generalize names.map D.str = l2 at *
        simp [bt1, sPar3, dFun, sSeq, snext, sIf, sbind, sAsg, sRet, sSkip, sExpr, sPar, sSetI, sSetA, sAug, sFor, sTg, dVar, dC, dNil, dCons, dBind, obind, dTup, dLst, dFrz, MO.d, dReg, dFz, dOp1, dOp2, dCmp, dB2v, dTst, dAnd, dOr, dNot, dIf, dCall, dIx, dLook, dIsi, dIsi2, dIsC, dIn, dChn, dMut, lstOf, putO, dM1, tyOk, dNw1, dNw2, dSl, dP, dNoP, dIsN, dItQ, dItS, dRg1, dRg2, dEnum, dLc, dYes, noex, Tg.run, gSets, List.length_map, List.length_cons, List.length_nil, List.map_cons, List.map_nil, hk, hl, e1, e2, e3]
    have hpick : ∃ x, ls[o]? = some x ∧ x ∈ ls := ⟨ls[o], List.getElem?_eq_getElem hon, List.getElem_mem hon⟩
    obtain ⟨xo, hxo, hxom⟩ := hpick
    have hxa : ∃ x, ls[a]? = some x ∧ x ∈ ls := ⟨ls[a], List.getElem?_eq_getElem han, List.getElem_mem han⟩
    obtain ⟨xa, hxa, hxam⟩ := hxa
    have io : ixD (.lst (ls.map D.str)) (.int (o : Int)) = some (.str xo) := ix_nat (by rw [List.getElem?_map, hxo]; rfl)
    have ia : ixD (.lst (ls.map D.str)) (.int (a : Int)) = some (.str xa) := ix_nat (by rw [List.getElem?_map, hxa]; rfl)
    obtain ⟨t1, t2⟩ := take_drop_ok (l := ls) (a := a) (by omega)
    obtain ⟨_, t3⟩ := take_drop_ok (l := ls) (a := a + 1) (by omega)
    have aa : addD (.int (a : Int)) (.int 1) = some (.int ((a + 1 : Nat) : Int)) := rfl
    have b1 : ∀ x ∈ ls.take a, x.length ≤ B := fun x hx => hB x (List.mem_of_mem_take hx)
    have b2 : ∀ x ∈ ls.drop a, x.length ≤ B := fun x hx => hB x (List.mem_of_mem_drop hx)
    have b3 : ∀ x ∈ ls.drop (a + 1), x.length ≤ B := fun x hx => hB x (List.mem_of_mem_drop hx)
    have n1 : (ls.take a).length = a := by rw [List.length_take]; omega
    have n2 : (ls.drop a).length = ls.length - a := List.length_drop
    have n3 : (ls.drop (a + 1)).length = ls.length - (a + 1) := List.length_drop
    generalize ls.take a = u1 at *
    generalize ls.drop a = u2 at *
    generalize ls.drop (a + 1) = u3 at *
    have q0 := eq_int2 w 0
    have q1 := eq_int2 w 1
    have q2 := eq_int2 w 2
    have q3 := eq_int2 w 3
    have three : ∀ (x : Str) (u : List Str), u.length ≤ 1000 → addD (.lst (u1.map D.str)) (.lst [.str x]) = some (.lst ((u1 ++ [x]).map D.str)) ∧ addD (.lst ((u1 ++ [x]).map D.str)) (.lst (u.map D.str)) = some (.lst ((u1 ++ [x] ++ u).map D.str)) := fun x u hu =>
      ⟨add_strs (a := u1) (b := [x]) (by rw [List.length_singleton]; omega), add_strs (a := u1 ++ [x]) (b := u) (by rw [List.length_append, List.length_singleton]; omega)⟩
    have bound : ∀ (x : Str) (u : List Str), x.length ≤ 3 * B + 12 → (∀ y ∈ u, y.length ≤ B) → ∀ y ∈ u1 ++ [x] ++ u, y.length ≤ 3 * B + 12 := fun x u hx hu y hy => by
      rcases List.mem_append.mp hy with hy | hy
      · rcases List.mem_append.mp hy with hy | hy
        · have := b1 y hy; omega
        · rw [List.mem_singleton] at hy; rw [hy]; exact hx
      · have := hu y hy; omega
    have lens : ∀ (x : Str) (u : List Str), u.length ≤ ls.length - a → (u1 ++ [x] ++ u).length ≤ ls.length + 1 := fun x u hu => by
      rw [List.length_append, List.length_append, List.length_singleton]
      omega
    by_cases c0 : w = 0
    · rw [decide_eq_true c0] at q0
      have ad := add_strs (a := u1) (b := u3) (by omega)
      refine ⟨u1 ++ u3, p3, go (start (seq_rt ?_)), ok3, by rw [List.length_append]; omega, fun y hy => ?_⟩
      · unfold BTs
        generalize ((a + 1 : Nat) : Int) = a1' at *
        generalize (u1 ++ u3).map D.str = l4 at *
        generalize u1.map D.str = l5 at *
        generalize u3.map D.str = l6 at *
        generalize ls.map D.str = l1 at *
        generalize names.map D.str = l2 at *
        simp [bt2, dFun, sSeq, snext, sIf, sbind, sAsg, sRet, sSkip, sExpr, sPar, sSetI, sSetA, sAug, sFor, sTg, dVar, dC, dNil, dCons, dBind, obind, dTup, dLst, dFrz, MO.d, dReg, dFz, dOp1, dOp2, dCmp, dB2v, dTst, dAnd, dOr, dNot, dIf, dCall, dIx, dLook, dIsi, dIsi2, dIsC, dIn, dChn, dMut, lstOf, putO, dM1, tyOk, dNw1, dNw2, dSl, dP, dNoP, dIsN, dItQ, dItS, dRg1, dRg2, dEnum, dLc, dYes, noex, Tg.run, gSets, List.length_map, List.length_cons, List.length_nil, List.map_cons, List.map_nil, hk, q0, t1, aa, t3, ad]
      · rcases List.mem_append.mp hy with hy | hy
        · have := b1 y hy; omega
        · have := b3 y hy; omega
    rw [decide_eq_false c0] at q0
    have p2' : bt2 (BTs names ls (a : Int) (o : Int) w) (mus p3 r) = .nx (BTs names ls (a : Int) (o : Int) w) (mus p3 r) := by
      unfold BTs
      simp [bt2, dFun, sSeq, snext, sIf, sbind, sAsg, sRet, sSkip, sExpr, sPar, sSetI, sSetA, sAug, sFor, sTg, dVar, dC, dNil, dCons, dBind, obind, dTup, dLst, dFrz, MO.d, dReg, dFz, dOp1, dOp2, dCmp, dB2v, dTst, dAnd, dOr, dNot, dIf, dCall, dIx, dLook, dIsi, dIsi2, dIsC, dIn, dChn, dMut, lstOf, putO, dM1, tyOk, dNw1, dNw2, dSl, dP, dNoP, dIsN, dItQ, dItS, dRg1, dRg2, dEnum, dLc, dYes, noex, Tg.run, gSets, List.length_map, List.length_cons, List.length_nil, List.map_cons, List.map_nil, q0]
    by_cases c1 : w = 1
    · rw [decide_eq_true c1] at q1
      obtain ⟨d1, d2⟩ := three xo u2 (by omega)
      refine ⟨u1 ++ [xo] ++ u2, p3, go (start ((seq_nx p2').trans (seq_rt ?_))), ok3, lens xo u2 (by omega), bound xo u2 (by have := hB xo hxom; omega) b2⟩
      unfold BTs
      generalize (u1 ++ [xo] ++ u2).map D.str = l4 at *
      generalize (u1 ++ [xo]).map D.str = l7 at *
      generalize u1.map D.str = l5 at *
      generalize u2.map D.str = l6 at *
      generalize ls.map D.str = l1 at *
      generalize names.map D.str = l2 at *
      simp [bt3, dFun, sSeq, snext, sIf, sbind, sAsg, sRet, sSkip, sExpr, sPar, sSetI, sSetA, sAug, sFor, sTg, dVar, dC, dNil, dCons, dBind, obind, dTup, dLst, dFrz, MO.d, dReg, dFz, dOp1, dOp2, dCmp, dB2v, dTst, dAnd, dOr, dNot, dIf, dCall, dIx, dLook, dIsi, dIsi2, dIsC, dIn, dChn, dMut, lstOf, putO, dM1, tyOk, dNw1, dNw2, dSl, dP, dNoP, dIsN, dItQ, dItS, dRg1, dRg2, dEnum, dLc, dYes, noex, Tg.run, gSets, List.length_map, List.length_cons, List.length_nil, List.map_cons, List.map_nil, hk, q1, t1, t2, io, d1, d2]
    rw [decide_eq_false c1] at q1
    have p3' : bt3 (BTs names ls (a : Int) (o : Int) w) (mus p3 r) = .nx (BTs names ls (a : Int) (o : Int) w) (mus p3 r) := by
      unfold BTs
      simp [bt3, dFun, sSeq, snext, sIf, sbind, sAsg, sRet, sSkip, sExpr, sPar, sSetI, sSetA, sAug, sFor, sTg, dVar, dC, dNil, dCons, dBind, obind, dTup, dLst, dFrz, MO.d, dReg, dFz, dOp1, dOp2, dCmp, dB2v, dTst, dAnd, dOr, dNot, dIf, dCall, dIx, dLook, dIsi, dIsi2, dIsC, dIn, dChn, dMut, lstOf, putO, dM1, tyOk, dNw1, dNw2, dSl, dP, dNoP, dIsN, dItQ, dItS, dRg1, dRg2, dEnum, dLc, dYes, noex, Tg.run, gSets, List.length_map, List.length_cons, List.length_nil, List.map_cons, List.map_nil, q1]
    by_cases c2 : w = 2
    · rw [decide_eq_true c2] at q2
      obtain ⟨n0, nr, hn0⟩ : ∃ n0 nr, names = n0 :: nr := by
        cases names with
        | nil => exact absurd rfl hne
        | cons a l => exact ⟨a, l, rfl⟩
      have hlst := last_app names hne
      have hnl8 : (names.getLastD "").length ≤ 8 := hn _ (by rw [hlst]; simp)
      generalize names.getLastD "" = nz at *
      have i0 : ixD (.lst (names.map D.str)) (.int 0) = some (.str n0) := ix_nat (l := names.map D.str) (i := 0) (by rw [hn0]; rfl)
      have iz : ixD (.lst (names.map D.str)) (.int (-1)) = some (.str nz) := by
        rw [hlst, List.map_append]
        exact ix_last
      have h08 : n0.length ≤ 8 := hn n0 (by rw [hn0]; simp)
      have r5 : ("road " : Str).length = 5 := by decide +kernel
      have s1 : (" " : Str).length = 1 := by decide +kernel
      have ad1 := add_str2 (a := "road ") (b := n0) (by rw [r5]; omega)
      have ad2 := add_str2 (a := "road " ++ n0) (b := " ") (by rw [app_len, r5, s1]; omega)
      have ad3 := add_str2 (a := "road " ++ n0 ++ " ") (b := nz) (by rw [app_len, app_len, r5, s1]; omega)
      have hrd : ("road " ++ n0 ++ " " ++ nz : Str).length ≤ 22 := by
        rw [app_len, app_len, app_len, r5, s1]
        omega
      generalize ("road " ++ n0 ++ " " ++ nz : Str) = rd at *
      generalize ("road " ++ n0 ++ " " : Str) = rd2 at *
      generalize ("road " ++ n0 : Str) = rd1 at *
      obtain ⟨d, p4, e4, ok4, hd⟩ := pick_lst ok3 (l := (["over", "spot a", "road a b", rd, "spot", ""] : List Str).map D.str) (by simp) (by simp) r
      obtain ⟨x, hx, rfl⟩ := List.mem_map.mp hd
      have e4 : f__law_pick [.obj 0, .lst [.str "over", .str "spot a", .str "road a b", .str rd, .str "spot", .str ""]] (mus p3 r) = .ok (.str x) (mus p4 r) := e4
      have hx22 : x.length ≤ 22 := by
        simp only [List.mem_cons, List.not_mem_nil, or_false] at hx
        rcases hx with rfl | rfl | rfl | rfl | rfl | rfl
        · decide +kernel
        · decide +kernel
        · decide +kernel
        · exact hrd
        · decide +kernel
        · decide +kernel
      obtain ⟨d1, d2⟩ := three x u2 (by omega)
      have ng : negD (.int 1) = some (.int (-1)) := rfl
      refine ⟨u1 ++ [x] ++ u2, p4, go (start ((seq_nx p2').trans ((seq_nx p3').trans (seq_rt ?_)))), ok4, lens x u2 (by omega), bound x u2 (by omega) b2⟩
      unfold BTs
      generalize (u1 ++ [x] ++ u2).map D.str = l4 at *
      generalize (u1 ++ [x]).map D.str = l7 at *
      generalize u1.map D.str = l5 at *
      generalize u2.map D.str = l6 at *
      generalize ls.map D.str = l1 at *
      generalize names.map D.str = l2 at *
      simp [bt4, dFun, sSeq, snext, sIf, sbind, sAsg, sRet, sSkip, sExpr, sPar, sSetI, sSetA, sAug, sFor, sTg, dVar, dC, dNil, dCons, dBind, obind, dTup, dLst, dFrz, MO.d, dReg, dFz, dOp1, dOp2, dCmp, dB2v, dTst, dAnd, dOr, dNot, dIf, dCall, dIx, dLook, dIsi, dIsi2, dIsC, dIn, dChn, dMut, lstOf, putO, dM1, tyOk, dNw1, dNw2, dSl, dP, dNoP, dIsN, dItQ, dItS, dRg1, dRg2, dEnum, dLc, dYes, noex, Tg.run, gSets, List.length_map, List.length_cons, List.length_nil, List.map_cons, List.map_nil, hk, q2, t1, t2, ng, i0, iz, ad1, ad2, ad3, e4, d1, d2]
    rw [decide_eq_false c2] at q2
    have p4' : bt4 (BTs names ls (a : Int) (o : Int) w) (mus p3 r) = .nx (BTs names ls (a : Int) (o : Int) w) (mus p3 r) := by
      unfold BTs
      simp [bt4, dFun, sSeq, snext, sIf, sbind, sAsg, sRet, sSkip, sExpr, sPar, sSetI, sSetA, sAug, sFor, sTg, dVar, dC, dNil, dCons, dBind, obind, dTup, dLst, dFrz, MO.d, dReg, dFz, dOp1, dOp2, dCmp, dB2v, dTst, dAnd, dOr, dNot, dIf, dCall, dIx, dLook, dIsi, dIsi2, dIsC, dIn, dChn, dMut, lstOf, putO, dM1, tyOk, dNw1, dNw2, dSl, dP, dNoP, dIsN, dItQ, dItS, dRg1, dRg2, dEnum, dLc, dYes, noex, Tg.run, gSets, List.length_map, List.length_cons, List.length_nil, List.map_cons, List.map_nil, q2]
    by_cases c3 : w = 3
    · rw [decide_eq_true c3] at q3
      obtain ⟨d1, d2⟩ := three xo u3 (by omega)
      refine ⟨u1 ++ [xo] ++ u3, p3, go (start ((seq_nx p2').trans ((seq_nx p3').trans ((seq_nx p4').trans (seq_rt ?_))))), ok3, lens xo u3 (by omega), bound xo u3 (by have := hB xo hxom; omega) b3⟩
      unfold BTs
      generalize ((a + 1 : Nat) : Int) = a1' at *
      generalize (u1 ++ [xo] ++ u3).map D.str = l4 at *
      generalize (u1 ++ [xo]).map D.str = l7 at *
      generalize u1.map D.str = l5 at *
      generalize u3.map D.str = l6 at *
      generalize ls.map D.str = l1 at *
      generalize names.map D.str = l2 at *
      simp [bt5, dFun, sSeq, snext, sIf, sbind, sAsg, sRet, sSkip, sExpr, sPar, sSetI, sSetA, sAug, sFor, sTg, dVar, dC, dNil, dCons, dBind, obind, dTup, dLst, dFrz, MO.d, dReg, dFz, dOp1, dOp2, dCmp, dB2v, dTst, dAnd, dOr, dNot, dIf, dCall, dIx, dLook, dIsi, dIsi2, dIsC, dIn, dChn, dMut, lstOf, putO, dM1, tyOk, dNw1, dNw2, dSl, dP, dNoP, dIsN, dItQ, dItS, dRg1, dRg2, dEnum, dLc, dYes, noex, Tg.run, gSets, List.length_map, List.length_cons, List.length_nil, List.map_cons, List.map_nil, hk, q3, t1, aa, t3, io, d1, d2]
    rw [decide_eq_false c3] at q3
    have p5' : bt5 (BTs names ls (a : Int) (o : Int) w) (mus p3 r) = .nx (BTs names ls (a : Int) (o : Int) w) (mus p3 r) := by
      unfold BTs
      simp [bt5, dFun, sSeq, snext, sIf, sbind, sAsg, sRet, sSkip, sExpr, sPar, sSetI, sSetA, sAug, sFor, sTg, dVar, dC, dNil, dCons, dBind, obind, dTup, dLst, dFrz, MO.d, dReg, dFz, dOp1, dOp2, dCmp, dB2v, dTst, dAnd, dOr, dNot, dIf, dCall, dIx, dLook, dIsi, dIsi2, dIsC, dIn, dChn, dMut, lstOf, putO, dM1, tyOk, dNw1, dNw2, dSl, dP, dNoP, dIsN, dItQ, dItS, dRg1, dRg2, dEnum, dLc, dYes, noex, Tg.run, gSets, List.length_map, List.length_cons, List.length_nil, List.map_cons, List.map_nil, q3]
    have hxaB := hB xa hxam
    obtain ⟨l', p4, e4, ok4, hl'⟩ := bent_line_ok (names := names) (line := xa) (r := r) ok3 hn hnl (by omega)
    obtain ⟨d1, d2⟩ := three l' u3 (by omega)
    refine ⟨u1 ++ [l'] ++ u3, p4, go (start ((seq_nx p2').trans ((seq_nx p3').trans ((seq_nx p4').trans ((seq_nx p5').trans ?_))))), ok4, lens l' u3 (by omega), bound l' u3 (by omega) b3⟩
    unfold BTs
    generalize ((a + 1 : Nat) : Int) = a1' at *
    generalize (u1 ++ [l'] ++ u3).map D.str = l4 at *
    generalize (u1 ++ [l']).map D.str = l7 at *
    generalize u1.map D.str = l5 at *
    generalize u3.map D.str = l6 at *
    generalize ls.map D.str = l1 at *
    generalize names.map D.str = l2 at *
    simp [bt6, dFun, sSeq, snext, sIf, sbind, sAsg, sRet, sSkip, sExpr, sPar, sSetI, sSetA, sAug, sFor, sTg, dVar, dC, dNil, dCons, dBind, obind, dTup, dLst, dFrz, MO.d, dReg, dFz, dOp1, dOp2, dCmp, dB2v, dTst, dAnd, dOr, dNot, dIf, dCall, dIx, dLook, dIsi, dIsi2, dIsC, dIn, dChn, dMut, lstOf, putO, dM1, tyOk, dNw1, dNw2, dSl, dP, dNoP, dIsN, dItQ, dItS, dRg1, dRg2, dEnum, dLc, dYes, noex, Tg.run, gSets, List.length_map, List.length_cons, List.length_nil, List.map_cons, List.map_nil, hk, t1, aa, t3, ia, e4, d1, d2]
end
end DL
end

section
set_option Elab.async false
set_option linter.all false
set_option maxRecDepth 100000
set_option maxHeartbeats 4000000
namespace DL
open PySem
/-! Y15: the law k03: a drawn text -/
def y30 : SF :=
  (sAsg 4 (dCall f__law_spec (dCons (dVar 1) (dCons (dC (.int 5)) dNil))))
def y31 : SF :=
  (sAsg 5 (dCall f__law_lines (dCons (dVar 4) dNil)))
def y32 : SF :=
  (sFor (dRg1 (dCall f__law_draw (dCons (dVar 1) (dCons (dC (.int 4)) dNil)))) (.nm 6) b_law_k03_1)
def y33 : SF :=
  (sAsg 7 (dM1 "str" joinD (dC (.str "")) (dFrz q_law_k03_1)))
def y34 : SF :=
  (sIf (dCmp eqD (dCall f__law_draw (dCons (dVar 1) (dCons (dC (.int 6)) dNil))) (dC (.int 0))) (sAsg 7 (dSl (dVar 7) dNoP (dP (dCall f__law_draw (dCons (dVar 1) (dCons (dOp2 addD (dOp1 lenD (dLook (dVar 7))) (dC (.int 1))) dNil)))))) sSkip)
def y35 : SF :=
  (sIf (dNot (dTst (dCall f__law_same (dCons (dCall f__law_found_k03 (dCons (dVar 7) dNil)) (dCons (dCall f__law_due (dCons (dVar 7) dNil)) dNil))))) (sRet (dC (.bl false))) sSkip)
theorem y3_eq : b_law_k03_2 = (sSeq y30 (sSeq y31 (sSeq y32 (sSeq y33 (sSeq y34 y35))))) := rfl
theorem as_prs {rs : List (Nat × Nat)} : ∀ {l : List D}, (∀ d ∈ l, ∃ q ∈ rs, pD q = d) → ∃ qs : List (Nat × Nat), l = qs.map pD ∧ ∀ q ∈ qs, q ∈ rs
  | [], _ => ⟨[], rfl, fun q h => by cases h⟩
  | d :: l, h => by
    obtain ⟨q, hq, rfl⟩ := h d List.mem_cons_self
    obtain ⟨qs, rfl, h2⟩ := as_prs fun x hx => h x (List.mem_cons_of_mem _ hx)
    refine ⟨q :: qs, rfl, fun p hp => ?_⟩
    rcases List.mem_cons.mp hp with rfl | hp
    · exact hq
    · exact h2 p hp
section
variable {fs : List Str} {rs : Rds}
theorem law_lines_ok (hs : Spec fs rs) (mu : Store) : ∃ ls : List Str, f__law_lines [specD fs rs] mu = .ok (.lst (ls.map D.str)) mu ∧ ls.length ≤ 46 ∧ ∀ x ∈ ls, x.length ≤ 22 := by
  have hw := hs.web
  have h9 := hs.names.le
  have hfew := hw.few
  have h0 := spec_ix0 fs rs
  have h1 := spec_ix1 fs rs
  have hso := sorted_prs rs
  obtain ⟨qs, hqs, hqm⟩ := as_prs (rs := rs) (l := srt rs) fun d hd => srt_mem hd
  have hql : qs.length = rs.length := by
    have := congrArg List.length hqs
    rw [List.length_map] at this
    unfold srt at this
    rw [List.length_mergeSort, List.length_map] at this
    exact this.symm
  rw [hqs] at hso
  have hk : ∀ l, lookD mu (.lst l) = .lst l := fun _ => rfl
  have hks : lookD mu (specD fs rs) = specD fs rs := rfl
  have r5 : ("road " : Str).length = 5 := by decide +kernel
  have p5 : ("spot " : Str).length = 5 := by decide +kernel
  have s1 : (" " : Str).length = 1 := by decide +kernel
  have e1 : q__law_lines_1 [some (.val (specD fs rs)), none, none, none] mu = .ok (.lst ((fs.map fun x : Str => ("spot " : Str) ++ x).map D.str)) mu := by
    rw [List.map_map]
    exact lc_mapA (src := dItQ (dIx (dVar 0) (dC (.int 0)))) (g := .nm 1) (own := [1]) (elt := dOp2 addD (dC (.str "spot ")) (dVar 1)) (sl := [some (.val (specD fs rs)), none, none, none]) (mu := mu) (ls := fs) D.str (fun x : Str => .str (("spot " : Str) ++ x)) (by
      generalize specD fs rs = sd at *
      generalize fs.map D.str = l at *
      simp [dFun, sSeq, snext, sIf, sbind, sAsg, sRet, sSkip, sExpr, sPar, sSetI, sSetA, sAug, sFor, sTg, dVar, dC, dNil, dCons, dBind, obind, dTup, dLst, dFrz, MO.d, dReg, dFz, dOp1, dOp2, dCmp, dB2v, dTst, dAnd, dOr, dNot, dIf, dCall, dIx, dLook, dIsi, dIsi2, dIsC, dIn, dChn, dMut, lstOf, putO, dM1, tyOk, dNw1, dNw2, dSl, dP, dNoP, dIsN, dItQ, dItS, dRg1, dRg2, dEnum, dLc, dYes, noex, Tg.run, gSets, List.length_map, List.length_cons, List.length_nil, List.map_cons, List.map_nil, hks, h0]) (by omega) (fun x hx => by
      have := (hs.names.all x hx).le
      have ad := add_str2 (a := "spot ") (b := x) (by rw [p5]; omega)
      refine ⟨_, rfl, ?_⟩
      simp [wipeS, dFun, sSeq, snext, sIf, sbind, sAsg, sRet, sSkip, sExpr, sPar, sSetI, sSetA, sAug, sFor, sTg, dVar, dC, dNil, dCons, dBind, obind, dTup, dLst, dFrz, MO.d, dReg, dFz, dOp1, dOp2, dCmp, dB2v, dTst, dAnd, dOr, dNot, dIf, dCall, dIx, dLook, dIsi, dIsi2, dIsC, dIn, dChn, dMut, lstOf, putO, dM1, tyOk, dNw1, dNw2, dSl, dP, dNoP, dIsN, dItQ, dItS, dRg1, dRg2, dEnum, dLc, dYes, noex, Tg.run, gSets, List.length_map, List.length_cons, List.length_nil, List.map_cons, List.map_nil, ad])
  let rdT : Nat × Nat → Str := fun q => "road " ++ fs.getD q.1 "" ++ " " ++ fs.getD q.2 ""
  have hnm : ∀ i, i < fs.length → fs.getD i "" ∈ fs ∧ ixD (.lst (fs.map D.str)) (.int (i : Int)) = some (.str (fs.getD i "")) := fun i hi => by
    have hg : fs[i]? = some (fs.getD i "") := by
      rw [List.getD_eq_getElem?_getD, List.getElem?_eq_getElem hi]
      rfl
    exact ⟨List.mem_of_getElem? hg, ix_nat (by rw [List.getElem?_map, hg]; rfl)⟩
  have e2 : q__law_lines_2 [some (.val (specD fs rs)), none, none, none] mu = .ok (.lst ((qs.map rdT).map D.str)) mu := by
    rw [List.map_map]
    exact lc_mapA (src := dItQ (dFrz (dNw1 sortedD (dLook (dIx (dVar 0) (dC (.int 1))))))) (g := .tp [2, 3]) (own := [2, 3]) (elt := dOp2 addD (dOp2 addD (dOp2 addD (dC (.str "road ")) (dIx (dIx (dVar 0) (dC (.int 0))) (dVar 2))) (dC (.str " "))) (dIx (dIx (dVar 0) (dC (.int 0))) (dVar 3))) (sl := [some (.val (specD fs rs)), none, none, none]) (mu := mu) (ls := qs) pD (fun q => .str (rdT q)) (by
      generalize specD fs rs = sd at *
      generalize rs.map pD = l at *
      simp [dFun, sSeq, snext, sIf, sbind, sAsg, sRet, sSkip, sExpr, sPar, sSetI, sSetA, sAug, sFor, sTg, dVar, dC, dNil, dCons, dBind, obind, dTup, dLst, dFrz, MO.d, dReg, dFz, dOp1, dOp2, dCmp, dB2v, dTst, dAnd, dOr, dNot, dIf, dCall, dIx, dLook, dIsi, dIsi2, dIsC, dIn, dChn, dMut, lstOf, putO, dM1, tyOk, dNw1, dNw2, dSl, dP, dNoP, dIsN, dItQ, dItS, dRg1, dRg2, dEnum, dLc, dYes, noex, Tg.run, gSets, List.length_map, List.length_cons, List.length_nil, List.map_cons, List.map_nil, hks, h1, hk, hso]) (by omega) (fun q hq => by
      have hlt := hw.lt q (hqm q hq)
      obtain ⟨m1, i1⟩ := hnm q.1 (by omega)
      obtain ⟨m2, i2⟩ := hnm q.2 (by omega)
      have l1 := (hs.names.all _ m1).le
      have l2 := (hs.names.all _ m2).le
      have ad1 := add_str2 (a := "road ") (b := fs.getD q.1 "") (by rw [r5]; omega)
      have ad2 := add_str2 (a := "road " ++ fs.getD q.1 "") (b := " ") (by rw [app_len, r5, s1]; omega)
      have ad3 := add_str2 (a := "road " ++ fs.getD q.1 "" ++ " ") (b := fs.getD q.2 "") (by rw [app_len, app_len, r5, s1]; omega)
      refine ⟨_, rfl, ?_⟩
      show _ = Out.ok (D.str ("road " ++ fs.getD q.1 "" ++ " " ++ fs.getD q.2 "")) mu
      generalize ("road " ++ fs.getD q.1 "" ++ " " ++ fs.getD q.2 "" : Str) = z3 at *
      generalize ("road " ++ fs.getD q.1 "" ++ " " : Str) = z2 at *
      generalize ("road " ++ fs.getD q.1 "" : Str) = z1 at *
      generalize fs.getD q.1 "" = w1 at *
      generalize fs.getD q.2 "" = w2 at *
      generalize specD fs rs = sd at *
      generalize fs.map D.str = l at *
      simp [wipeS, dFun, sSeq, snext, sIf, sbind, sAsg, sRet, sSkip, sExpr, sPar, sSetI, sSetA, sAug, sFor, sTg, dVar, dC, dNil, dCons, dBind, obind, dTup, dLst, dFrz, MO.d, dReg, dFz, dOp1, dOp2, dCmp, dB2v, dTst, dAnd, dOr, dNot, dIf, dCall, dIx, dLook, dIsi, dIsi2, dIsC, dIn, dChn, dMut, lstOf, putO, dM1, tyOk, dNw1, dNw2, dSl, dP, dNoP, dIsN, dItQ, dItS, dRg1, dRg2, dEnum, dLc, dYes, noex, Tg.run, gSets, List.length_map, List.length_cons, List.length_nil, List.map_cons, List.map_nil, hks, h0, hk, i1, i2, ad1, ad2, ad3])
  have a1 := add_strs (a := fs.map fun x : Str => ("spot " : Str) ++ x) (b := qs.map rdT) (by rw [List.length_map, List.length_map]; omega)
  have a2 : addD (.lst (((fs.map fun x : Str => ("spot " : Str) ++ x) ++ qs.map rdT).map D.str)) (.lst [.str "over"]) = some (.lst (((fs.map fun x : Str => ("spot " : Str) ++ x) ++ qs.map rdT ++ [("over" : Str)]).map D.str)) := add_strs (a := (fs.map fun x : Str => ("spot " : Str) ++ x) ++ qs.map rdT) (b := [("over" : Str)]) (by rw [List.length_append, List.length_map, List.length_map]; show _ + 1 ≤ _; omega)
  refine ⟨(fs.map fun x : Str => ("spot " : Str) ++ x) ++ qs.map rdT ++ [("over" : Str)], ?_, ?_, ?_⟩
  · generalize ((fs.map fun x : Str => ("spot " : Str) ++ x) ++ qs.map rdT ++ [("over" : Str)]).map D.str = l5 at *
    generalize ((fs.map fun x : Str => ("spot " : Str) ++ x) ++ qs.map rdT).map D.str = l4 at *
    generalize (fs.map fun x : Str => ("spot " : Str) ++ x).map D.str = l3 at *
    generalize (qs.map rdT).map D.str = l2 at *
    generalize specD fs rs = sd at *
    simp [f__law_lines, g__law_lines, dFun, sSeq, snext, sIf, sbind, sAsg, sRet, sSkip, sExpr, sPar, sSetI, sSetA, sAug, sFor, sTg, dVar, dC, dNil, dCons, dBind, obind, dTup, dLst, dFrz, MO.d, dReg, dFz, dOp1, dOp2, dCmp, dB2v, dTst, dAnd, dOr, dNot, dIf, dCall, dIx, dLook, dIsi, dIsi2, dIsC, dIn, dChn, dMut, lstOf, putO, dM1, tyOk, dNw1, dNw2, dSl, dP, dNoP, dIsN, dItQ, dItS, dRg1, dRg2, dEnum, dLc, dYes, noex, Tg.run, gSets, List.length_map, List.length_cons, List.length_nil, List.map_cons, List.map_nil, e1, e2, a1, a2]
  · rw [List.length_append, List.length_append, List.length_map, List.length_map, List.length_singleton]
    omega
  · intro x hx
    rcases List.mem_append.mp hx with hx | hx
    · rcases List.mem_append.mp hx with hx | hx
      · obtain ⟨y, hy, rfl⟩ := List.mem_map.mp hx
        have := (hs.names.all y hy).le
        rw [app_len, p5]
        omega
      · obtain ⟨q, hq, rfl⟩ := List.mem_map.mp hx
        have hlt := hw.lt q (hqm q hq)
        have l1 := (hs.names.all _ (hnm q.1 (by omega)).1).le
        have l2 := (hs.names.all _ (hnm q.2 (by omega)).1).le
        show ("road " ++ fs.getD q.1 "" ++ " " ++ fs.getD q.2 "" : Str).length ≤ 22
        rw [app_len, app_len, app_len, r5, s1]
        omega
    · rw [List.mem_singleton] at hx
      rw [hx]
      decide +kernel
end
def Bk : Nat → Nat → Nat
  | B, 0 => B
  | B, k + 1 => Bk (3 * B + 12) k
theorem Bk_ge : ∀ k B, B ≤ Bk B k
  | 0, B => Nat.le_refl _
  | k + 1, B => by
    have := Bk_ge k (3 * B + 12)
    show B ≤ Bk (3 * B + 12) k
    omega
def sl3 (a0 x2 x3 x4 x5 x6 x7 : Option SV) : Sl := [a0, some (.val (.obj 0)), x2, x3, x4, x5, x6, x7, none, none]
section
variable {fs : List Str} {rs : Rds} {a0 x2 x3 x4 x5 x6 x7 : Option SV} {r : Store}
theorem bend3 (hs : Spec fs rs) : ∀ (ds : List D) (B : Nat) (ls : List Str) {p : Pot} (x6 : Option SV), p.Ok → 22 ≤ B → Bk B ds.length ≤ 200000 → ls.length + ds.length ≤ 1000 → (∀ x ∈ ls, x.length ≤ B) →
    ∃ (ls' : List Str) (p' : Pot) (y6 : Option SV), sForL (.nm 6) b_law_k03_1 ds (sl3 a0 x2 x3 (some (.val (specD fs rs))) (some (.val (.lst (ls.map D.str)))) x6 x7) (mus p r) = .nx (sl3 a0 x2 x3 (some (.val (specD fs rs))) (some (.val (.lst (ls'.map D.str)))) y6 x7) (mus p' r) ∧ p'.Ok ∧ ls'.length ≤ ls.length + ds.length ∧ ∀ x ∈ ls', x.length ≤ Bk B ds.length
  | [], B, ls, p, x6, ok, _, _, _, h => ⟨ls, p, x6, rfl, ok, Nat.le_refl _, h⟩
  | d :: ds, B, ls, p, x6, ok, h22, hB, hz, h => by
    rw [List.length_cons] at hB hz
    have hB : Bk (3 * B + 12) ds.length ≤ 200000 := hB
    have hge := Bk_ge ds.length (3 * B + 12)
    have hne : fs ≠ [] := fun e => by have := hs.ne; rw [e] at this; exact absurd this (by decide)
    have h9 := hs.names.le
    obtain ⟨l1, p1, e1, ok1, n1, b1⟩ := bent_text_ok (names := fs) (ls := ls) (r := r) (B := B) ok (fun x hx => (hs.names.all x hx).le) (by omega) hne (by omega) h h22 (by omega)
    obtain ⟨l2, p2, y6, e2, ok2, n2, b2⟩ := bend3 hs ds (3 * B + 12) l1 (some (.val d)) ok1 (by omega) hB (by omega) b1
    refine ⟨l2, p2, y6, ?_, ok2, by rw [List.length_cons]; omega, b2⟩
    rw [← e2]
    have h0 := spec_ix0 fs rs
    conv => lhs; unfold sForL
    rw [show (Tg.nm 6).run d (sl3 a0 x2 x3 (some (.val (specD fs rs))) (some (.val (.lst (ls.map D.str)))) x6 x7) = some (sl3 a0 x2 x3 (some (.val (specD fs rs))) (some (.val (.lst (ls.map D.str)))) (some (.val d)) x7) from rfl]
    dsimp only
    have hb : b_law_k03_1 (sl3 a0 x2 x3 (some (.val (specD fs rs))) (some (.val (.lst (ls.map D.str)))) (some (.val d)) x7) (mus p r) = .nx (sl3 a0 x2 x3 (some (.val (specD fs rs))) (some (.val (.lst (l1.map D.str)))) (some (.val d)) x7) (mus p1 r) := by
      have hks : ∀ mu, lookD mu (specD fs rs) = specD fs rs := fun _ => rfl
      unfold sl3
      generalize l1.map D.str = l3 at *
      generalize ls.map D.str = l4 at *
      generalize fs.map D.str = l5 at *
      generalize specD fs rs = sd at *
      simp [b_law_k03_1, dFun, sSeq, snext, sIf, sbind, sAsg, sRet, sSkip, sExpr, sPar, sSetI, sSetA, sAug, sFor, sTg, dVar, dC, dNil, dCons, dBind, obind, dTup, dLst, dFrz, MO.d, dReg, dFz, dOp1, dOp2, dCmp, dB2v, dTst, dAnd, dOr, dNot, dIf, dCall, dIx, dLook, dIsi, dIsi2, dIsC, dIn, dChn, dMut, lstOf, putO, dM1, tyOk, dNw1, dNw2, dSl, dP, dNoP, dIsN, dItQ, dItS, dRg1, dRg2, dEnum, dLc, dYes, noex, Tg.run, gSets, List.length_map, List.length_cons, List.length_nil, List.map_cons, List.map_nil, hks, h0, e1]
    rw [hb]
theorem SW_le {C : Nat} : ∀ {l : List Str}, (∀ x ∈ l, x.length ≤ C) → SW l ≤ l.length * C
  | [], _ => Nat.zero_le _
  | a :: l, h => by
    have h1 := h a List.mem_cons_self
    have h2 := SW_le (C := C) (l := l) fun x hx => h x (List.mem_cons_of_mem _ hx)
    have e : SW (a :: l) = a.length + SW l := rfl
    rw [e, List.length_cons, Nat.succ_mul]
    omega
theorem turn3 {p : Pot} (ok : p.Ok) (hr : Pl r) : ∃ p' y4 y5 y6 y7, b_law_k03_2 (sl3 a0 x2 x3 x4 x5 x6 x7) (mus p r) = .nx (sl3 a0 x2 x3 y4 y5 y6 y7) (mus p' r) ∧ p'.Ok := by
  obtain ⟨fs, rs, p1, e1, ok1, hs, _⟩ := spec_ok ok (r := r) (hr _) (most := 5) (by decide) (by decide)
  have e1 : f__law_spec [.obj 0, .int 5] (mus p r) = .ok (specD fs rs) (mus p1 r) := e1
  obtain ⟨ls, e2, n2, b2⟩ := law_lines_ok hs (mus p1 r)
  obtain ⟨v, p2, e3, ok2, v0, v1⟩ := draw_ok ok1 (many := 4) (by decide) (by decide) r
  obtain ⟨n, hv⟩ : ∃ n : Nat, v = (n : Int) := ⟨v.toNat, by omega⟩
  subst hv
  have hn3 : n ≤ 3 := by omega
  have hz : (rangeD 0 n).length = n := by rw [rangeD_len]
  have hbk : Bk 22 n ≤ 750 := by
    match n, hn3 with
    | 0, _ => decide
    | 1, _ => decide
    | 2, _ => decide
    | 3, _ => decide
  obtain ⟨l2, p3, y6, e4, ok3, n4, b4⟩ := bend3 (a0 := a0) (x2 := x2) (x3 := x3) (x7 := x7) (r := r) hs (rangeD 0 n) 22 ls x6 ok2 (Nat.le_refl _) (by rw [hz]; omega) (by rw [hz]; omega) b2
  rw [hz] at n4 b4
  have hnl : ("\n" : Str).length = 1 := by decide +kernel
  have h0l : ("" : Str).length = 0 := by decide +kernel
  have e5 : ∀ mu, q_law_k03_1 (sl3 a0 x2 x3 (some (.val (specD fs rs))) (some (.val (.lst (l2.map D.str)))) y6 x7) mu = .ok (.lst ((l2.map fun x : Str => x ++ ("\n" : Str)).map D.str)) mu := fun mu => by
    rw [List.map_map]
    exact lc_mapA (src := dItQ (dVar 5)) (g := .nm 8) (own := [8]) (elt := dOp2 addD (dVar 8) (dC (.str "\n"))) (sl := sl3 a0 x2 x3 (some (.val (specD fs rs))) (some (.val (.lst (l2.map D.str)))) y6 x7) (mu := mu) (ls := l2) D.str (fun x : Str => .str (x ++ ("\n" : Str))) rfl (by omega) (fun x hx => by
      have := b4 x hx
      have ad := add_str2 (a := x) (b := "\n") (by rw [hnl]; omega)
      refine ⟨_, rfl, ?_⟩
      unfold sl3
      generalize l2.map D.str = l at *
      generalize specD fs rs = sd at *
      simp [wipeS, dFun, sSeq, snext, sIf, sbind, sAsg, sRet, sSkip, sExpr, sPar, sSetI, sSetA, sAug, sFor, sTg, dVar, dC, dNil, dCons, dBind, obind, dTup, dLst, dFrz, MO.d, dReg, dFz, dOp1, dOp2, dCmp, dB2v, dTst, dAnd, dOr, dNot, dIf, dCall, dIx, dLook, dIsi, dIsi2, dIsC, dIn, dChn, dMut, lstOf, putO, dM1, tyOk, dNw1, dNw2, dSl, dP, dNoP, dIsN, dItQ, dItS, dRg1, dRg2, dEnum, dLc, dYes, noex, Tg.run, gSets, List.length_map, List.length_cons, List.length_nil, List.map_cons, List.map_nil, ad])
  have hb5 : ∀ x ∈ l2.map fun x : Str => x ++ ("\n" : Str), x.length ≤ 751 := fun x hx => by
    obtain ⟨y, hy, rfl⟩ := List.mem_map.mp hx
    have := b4 y hy
    rw [app_len, hnl]
    omega
  have hsw := SW_le hb5
  rw [List.length_map] at hsw
  have hll : l2.length ≤ 49 := by omega
  have hsw2 : SW (l2.map fun x : Str => x ++ ("\n" : Str)) ≤ 49 * 751 := Nat.le_trans hsw (Nat.mul_le_mul_right _ hll)
  have ej := join_ok (sep := "") (ws := l2.map fun x : Str => x ++ ("\n" : Str)) (by rw [h0l]; omega)
  have jl := join_len "" (l2.map fun x : Str => x ++ ("\n" : Str))
  rw [h0l, Nat.mul_zero, Nat.add_zero] at jl
  generalize Txt.join "" (l2.map fun x : Str => x ++ ("\n" : Str)) = t1 at *
  have ht1 : t1.length ≤ 40000 := by omega
  obtain ⟨v6, p4, e6, ok4, _, _⟩ := draw_ok ok3 (many := 6) (by decide) (by decide) r
  have s0 : y30 (sl3 a0 x2 x3 x4 x5 x6 x7) (mus p r) = .nx (sl3 a0 x2 x3 (some (.val (specD fs rs))) x5 x6 x7) (mus p1 r) := by
    unfold sl3
    generalize specD fs rs = sd at *
    simp [y30, dFun, sSeq, snext, sIf, sbind, sAsg, sRet, sSkip, sExpr, sPar, sSetI, sSetA, sAug, sFor, sTg, dVar, dC, dNil, dCons, dBind, obind, dTup, dLst, dFrz, MO.d, dReg, dFz, dOp1, dOp2, dCmp, dB2v, dTst, dAnd, dOr, dNot, dIf, dCall, dIx, dLook, dIsi, dIsi2, dIsC, dIn, dChn, dMut, lstOf, putO, dM1, tyOk, dNw1, dNw2, dSl, dP, dNoP, dIsN, dItQ, dItS, dRg1, dRg2, dEnum, dLc, dYes, noex, Tg.run, gSets, List.length_map, List.length_cons, List.length_nil, List.map_cons, List.map_nil, e1]
  have s1 : y31 (sl3 a0 x2 x3 (some (.val (specD fs rs))) x5 x6 x7) (mus p1 r) = .nx (sl3 a0 x2 x3 (some (.val (specD fs rs))) (some (.val (.lst (ls.map D.str)))) x6 x7) (mus p1 r) := by
    unfold sl3
    generalize ls.map D.str = l at *
    generalize specD fs rs = sd at *
    simp [y31, dFun, sSeq, snext, sIf, sbind, sAsg, sRet, sSkip, sExpr, sPar, sSetI, sSetA, sAug, sFor, sTg, dVar, dC, dNil, dCons, dBind, obind, dTup, dLst, dFrz, MO.d, dReg, dFz, dOp1, dOp2, dCmp, dB2v, dTst, dAnd, dOr, dNot, dIf, dCall, dIx, dLook, dIsi, dIsi2, dIsC, dIn, dChn, dMut, lstOf, putO, dM1, tyOk, dNw1, dNw2, dSl, dP, dNoP, dIsN, dItQ, dItS, dRg1, dRg2, dEnum, dLc, dYes, noex, Tg.run, gSets, List.length_map, List.length_cons, List.length_nil, List.map_cons, List.map_nil, e2]
  have hsrc : dRg1 (dCall f__law_draw (dCons (dVar 1) (dCons (dC (.int 4)) dNil))) (sl3 a0 x2 x3 (some (.val (specD fs rs))) (some (.val (.lst (ls.map D.str)))) x6 x7) (mus p1 r) = .ok (rangeD 0 n) (mus p2 r) := by
    have e3' : dCall f__law_draw (dCons (dVar 1) (dCons (dC (.int 4)) dNil)) (sl3 a0 x2 x3 (some (.val (specD fs rs))) (some (.val (.lst (ls.map D.str)))) x6 x7) (mus p1 r) = .ok (.int (n : Int)) (mus p2 r) := (call2 rfl rfl).trans e3
    unfold dRg1 dBind obind
    rw [e3']
    dsimp only
    rw [if_pos (rgOk_nat (by omega)), Int.toNat_natCast]
  have s3 : y33 (sl3 a0 x2 x3 (some (.val (specD fs rs))) (some (.val (.lst (l2.map D.str)))) y6 x7) (mus p3 r) = .nx (sl3 a0 x2 x3 (some (.val (specD fs rs))) (some (.val (.lst (l2.map D.str)))) y6 (some (.val (.str t1)))) (mus p3 r) := by
    have e5 := e5 (mus p3 r)
    unfold y33
    generalize q_law_k03_1 = Q at e5 ⊢
    unfold sl3 at e5 ⊢
    generalize (l2.map fun x : Str => x ++ ("\n" : Str)).map D.str = l3 at *
    generalize l2.map D.str = l at *
    generalize specD fs rs = sd at *
    simp [dFun, sSeq, snext, sIf, sbind, sAsg, sRet, sSkip, sExpr, sPar, sSetI, sSetA, sAug, sFor, sTg, dVar, dC, dNil, dCons, dBind, obind, dTup, dLst, dFrz, MO.d, dReg, dFz, dOp1, dOp2, dCmp, dB2v, dTst, dAnd, dOr, dNot, dIf, dCall, dIx, dLook, dIsi, dIsi2, dIsC, dIn, dChn, dMut, lstOf, putO, dM1, tyOk, dNw1, dNw2, dSl, dP, dNoP, dIsN, dItQ, dItS, dRg1, dRg2, dEnum, dLc, dYes, noex, Tg.run, gSets, List.length_map, List.length_cons, List.length_nil, List.map_cons, List.map_nil, e5, ej]
  have s4 : ∃ t2 p5, y34 (sl3 a0 x2 x3 (some (.val (specD fs rs))) (some (.val (.lst (l2.map D.str)))) y6 (some (.val (.str t1)))) (mus p3 r) = .nx (sl3 a0 x2 x3 (some (.val (specD fs rs))) (some (.val (.lst (l2.map D.str)))) y6 (some (.val (.str t2)))) (mus p5 r) ∧ p5.Ok ∧ t2.length ≤ 40000 := by
    have q := eq_int2 v6 0
    by_cases h6 : v6 = 0
    · rw [decide_eq_true h6] at q
      obtain ⟨v7, p5, e7, ok5, _, _⟩ := draw_ok ok4 (many := (t1.length : Int) + 1) (by omega) (by omega) r
      have hl : lenD (.str t1) = some (.int (t1.length : Int)) := if_pos (by omega)
      have ad : addD (.int (t1.length : Int)) (.int 1) = some (.int ((t1.length : Int) + 1)) := rfl
      have hk : ∀ mu, lookD mu (.str t1) = .str t1 := fun _ => rfl
      have sc := slS t1 (by omega) none (some v7)
      have sl := cutS_len t1 none (some v7)
      refine ⟨L2.cutS t1 none (some v7), p5, ?_, ok5, by omega⟩
      unfold sl3
      generalize L2.cutS t1 none (some v7) = t2 at *
      generalize (t1.length : Int) + 1 = n1 at *
      generalize (t1.length : Int) = n2 at *
      generalize l2.map D.str = l at *
      generalize specD fs rs = sd at *
      simp [y34, dFun, sSeq, snext, sIf, sbind, sAsg, sRet, sSkip, sExpr, sPar, sSetI, sSetA, sAug, sFor, sTg, dVar, dC, dNil, dCons, dBind, obind, dTup, dLst, dFrz, MO.d, dReg, dFz, dOp1, dOp2, dCmp, dB2v, dTst, dAnd, dOr, dNot, dIf, dCall, dIx, dLook, dIsi, dIsi2, dIsC, dIn, dChn, dMut, lstOf, putO, dM1, tyOk, dNw1, dNw2, dSl, dP, dNoP, dIsN, dItQ, dItS, dRg1, dRg2, dEnum, dLc, dYes, noex, Tg.run, gSets, List.length_map, List.length_cons, List.length_nil, List.map_cons, List.map_nil, e6, q, hk, hl, ad, e7, sc]
    · rw [decide_eq_false h6] at q
      refine ⟨t1, p4, ?_, ok4, ht1⟩
      unfold sl3
      generalize l2.map D.str = l at *
      generalize specD fs rs = sd at *
      simp [y34, dFun, sSeq, snext, sIf, sbind, sAsg, sRet, sSkip, sExpr, sPar, sSetI, sSetA, sAug, sFor, sTg, dVar, dC, dNil, dCons, dBind, obind, dTup, dLst, dFrz, MO.d, dReg, dFz, dOp1, dOp2, dCmp, dB2v, dTst, dAnd, dOr, dNot, dIf, dCall, dIx, dLook, dIsi, dIsi2, dIsC, dIn, dChn, dMut, lstOf, putO, dM1, tyOk, dNw1, dNw2, dSl, dP, dNoP, dIsN, dItQ, dItS, dRg1, dRg2, dEnum, dLc, dYes, noex, Tg.run, gSets, List.length_map, List.length_cons, List.length_nil, List.map_cons, List.map_nil, e6, q]
  obtain ⟨t2, p5, s4, ok5, ht2⟩ := s4
  have f1 := law_found_any (text := t2) (by omega) (pl_mus9 p5 hr)
  have f2 := law_due_any (text := t2) (by omega) (mus p5 r)
  have f3 := same_due (text := t2) (by omega) (mus p5 r)
  have s5 : y35 (sl3 a0 x2 x3 (some (.val (specD fs rs))) (some (.val (.lst (l2.map D.str)))) y6 (some (.val (.str t2)))) (mus p5 r) = .nx (sl3 a0 x2 x3 (some (.val (specD fs rs))) (some (.val (.lst (l2.map D.str)))) y6 (some (.val (.str t2)))) (mus p5 r) := by
    unfold sl3
    generalize dueD t2 = dd at *
    generalize l2.map D.str = l at *
    generalize specD fs rs = sd at *
    simp [y35, dFun, sSeq, snext, sIf, sbind, sAsg, sRet, sSkip, sExpr, sPar, sSetI, sSetA, sAug, sFor, sTg, dVar, dC, dNil, dCons, dBind, obind, dTup, dLst, dFrz, MO.d, dReg, dFz, dOp1, dOp2, dCmp, dB2v, dTst, dAnd, dOr, dNot, dIf, dCall, dIx, dLook, dIsi, dIsi2, dIsC, dIn, dChn, dMut, lstOf, putO, dM1, tyOk, dNw1, dNw2, dSl, dP, dNoP, dIsN, dItQ, dItS, dRg1, dRg2, dEnum, dLc, dYes, noex, Tg.run, gSets, List.length_map, List.length_cons, List.length_nil, List.map_cons, List.map_nil, f1, f2, f3]
  refine ⟨p5, some (.val (specD fs rs)), some (.val (.lst (l2.map D.str))), y6, some (.val (.str t2)), ?_, ok5⟩
  rw [y3_eq]
  exact (seq_nx s0).trans ((seq_nx s1).trans ((seq_nx ((for_src hsrc).trans e4)).trans ((seq_nx s3).trans ((seq_nx s4).trans s5))))
end
end DL
end

section
set_option Elab.async false
set_option linter.all false
set_option maxRecDepth 100000
set_option maxHeartbeats 4000000
namespace DL
open PySem
/-! Y16: the law k03: the whole -/
def z30 : SF :=
  (sAsg 1 (dCall f__law_pot (dCons (dVar 0) dNil)))
def z31 : SF :=
  (sFor (dRg1 (dC (.int 6))) (.nm 2) b_law_k03_2)
def z32 : SF :=
  (sAsg 3 (dOp2 addD (dM1 "str" joinD (dC (.str "")) (dFrz q_law_k03_2)) (dC (.str "over\n"))))
def z33 : SF :=
  (sIf (dNot (dTst (dCall f__law_same (dCons (dCall f__law_found_k03 (dCons (dVar 3) dNil)) (dCons (dCall f__law_due (dCons (dVar 3) dNil)) dNil))))) (sRet (dC (.bl false))) sSkip)
def z34 : SF :=
  (sRet (dB2v (dCmp eqD (dCall f__law_found_k03 (dCons (dCall f__law_pick (dCons (dVar 1) (dCons (dFrz (dLst (dCons (dC .non) (dCons (dC (.int 7)) (dCons (dTup (dCons (dC (.str "over")) dNil)) (dCons (dFrz (dLst (dCons (dC (.str "over")) dNil))) (dCons (dC (.bl true)) (dCons dDct0 dNil)))))))) dNil))) dNil)) (dTup (dCons (dC (.str "text")) (dCons (dC (.int 0)) (dCons (dC (.str "text")) dNil)))))))
theorem z3_eq : g_law_k03 = (sSeq z30 (sSeq z31 (sSeq z32 (sSeq z33 z34)))) := rfl
theorem lc_src {src : LF} {g : Tg} {own : List Nat} {c : BF} {elt : EF} {sl : Sl} {mu m1 : Store} {ds : List D} (h : src sl mu = .ok ds m1) : dLc src g own c elt sl mu = dLc (fun _ m => .ok ds m) g own c elt sl m1 := by
  unfold dLc dBind obind
  rw [h]
theorem loop3 {a0 x3 : Option SV} {r : Store} (hr : Pl r) : ∀ (ds : List D) {p : Pot} (x2 x4 x5 x6 x7 : Option SV), p.Ok → ∃ p' y2 y4 y5 y6 y7, sForL (.nm 2) b_law_k03_2 ds (sl3 a0 x2 x3 x4 x5 x6 x7) (mus p r) = .nx (sl3 a0 y2 x3 y4 y5 y6 y7) (mus p' r) ∧ p'.Ok
  | [], p, x2, x4, x5, x6, x7, ok => ⟨p, x2, x4, x5, x6, x7, rfl, ok⟩
  | d :: ds, p, x2, x4, x5, x6, x7, ok => by
    obtain ⟨p1, y4, y5, y6, y7, e1, ok1⟩ := turn3 (a0 := a0) (x2 := some (.val d)) (x3 := x3) (x4 := x4) (x5 := x5) (x6 := x6) (x7 := x7) ok hr
    obtain ⟨p2, z2, z4, z5, z6, z7, e2, ok2⟩ := loop3 (a0 := a0) (x3 := x3) hr ds (some (.val d)) y4 y5 y6 y7 ok1
    refine ⟨p2, z2, z4, z5, z6, z7, ?_, ok2⟩
    rw [← e2]
    conv => lhs; unfold sForL
    rw [show (Tg.nm 2).run d (sl3 a0 x2 x3 x4 x5 x6 x7) = some (sl3 a0 (some (.val d)) x3 x4 x5 x6 x7) from rfl]
    dsimp only
    rw [e1]
def odd3 : List D := [.non, .int 7, .tup [.str "over"], .lst [.str "over"], .bl true, .dct []]
theorem odd3_ok {d : D} (h : d ∈ odd3) : isiOk d = true ∧ isTy .str d = false ∧ ∀ mu, lookD mu d = d := by
  simp only [odd3, List.mem_cons, List.not_mem_nil, or_false] at h
  rcases h with rfl | rfl | rfl | rfl | rfl | rfl <;> exact ⟨rfl, rfl, fun _ => rfl⟩
theorem law_true : ∀ ns : List Int, ns.length ≤ 63 → ∃ mu, f_law_k03 [.frl (ns.map D.int)] [] = .ok (.bl true) mu := fun ns _ => by
  obtain ⟨p0, e0, ok0⟩ := pot_ok ns
  generalize hA : (some (SV.val (D.frl (ns.map D.int)))) = A
  obtain ⟨p1, y2, y4, y5, y6, y7, e1, ok1⟩ := loop3 (a0 := A) (x3 := none) (r := []) pl_nil [.int 0, .int 1, .int 2, .int 3, .int 4, .int 5] none none none none none ok0
  obtain ⟨v, p2, e2, ok2, v0, v1⟩ := draw_ok ok1 (many := 2) (by decide) (by decide) []
  have hnl : ("\n" : Str).length = 1 := by decide +kernel
  have h0l : ("" : Str).length = 0 := by decide +kernel
  have s6 : ("spot n" : Str).length = 6 := by decide +kernel
  have o5 : ("over\n" : Str).length = 5 := by decide +kernel
  have a10 : ("abcdefghij" : Str).length = 10 := by decide +kernel
  have sc := slS "abcdefghij" (by rw [a10]; decide) none (some (9 + v))
  have cl := cutS_len "abcdefghij" none (some (9 + v))
  rw [a10] at cl
  generalize L2.cutS "abcdefghij" none (some (9 + v)) = cut at *
  have g1 : ∀ c : Nat, (sg c).length = 1 := fun _ => rfl
  have eq : q_law_k03_2 (sl3 A y2 none y4 y5 y6 y7) (mus p1 []) = .ok (.lst (((TL.tl cut).map fun c => "spot n" ++ sg c ++ "\n").map D.str)) (mus p2 []) := by
    have hsrc : dItS (dSl (dC (.str "abcdefghij")) dNoP (dP (dOp2 addD (dC (.int 9)) (dCall f__law_draw (dCons (dVar 1) (dCons (dC (.int 2)) dNil)))))) (sl3 A y2 none y4 y5 y6 y7) (mus p1 []) = .ok ((TL.tl cut).map fun c => D.str (sg c)) (mus p2 []) := by
      have ad : addD (.int 9) (.int v) = some (.int (9 + v)) := rfl
      have hk : ∀ mu, lookD mu (.str "abcdefghij") = .str "abcdefghij" := fun _ => rfl
      have hsg := signsD_eq cut
      unfold sl3
      rw [← hsg]
      generalize D.str "abcdefghij" = ab at *
      simp [dItS, dFun, sSeq, snext, sIf, sbind, sAsg, sRet, sSkip, sExpr, sPar, sSetI, sSetA, sAug, sFor, sTg, dVar, dC, dNil, dCons, dBind, obind, dTup, dLst, dFrz, MO.d, dReg, dFz, dOp1, dOp2, dCmp, dB2v, dTst, dAnd, dOr, dNot, dIf, dCall, dIx, dLook, dIsi, dIsi2, dIsC, dIn, dChn, dMut, lstOf, putO, dM1, tyOk, dNw1, dNw2, dSl, dP, dNoP, dIsN, dItQ, dItS, dRg1, dRg2, dEnum, dLc, dYes, noex, Tg.run, gSets, List.length_map, List.length_cons, List.length_nil, List.map_cons, List.map_nil, e2, ad, hk, sc]
    refine (lc_src hsrc).trans ?_
    rw [List.map_map]
    exact lc_mapA (src := fun _ m => .ok ((TL.tl cut).map fun c => D.str (sg c)) m) (g := .nm 9) (own := [9]) (elt := dOp2 addD (dOp2 addD (dC (.str "spot n")) (dVar 9)) (dC (.str "\n"))) (sl := sl3 A y2 none y4 y5 y6 y7) (mu := mus p2 []) (ls := TL.tl cut) (fun c => D.str (sg c)) (fun c => .str ("spot n" ++ sg c ++ "\n")) rfl (by rw [← TL.len_tl]; omega) (fun c hc => by
      have ad1 := add_str2 (a := "spot n") (b := sg c) (by rw [s6, g1]; decide)
      have ad2 := add_str2 (a := "spot n" ++ sg c) (b := "\n") (by rw [app_len, s6, g1, hnl]; decide)
      refine ⟨_, rfl, ?_⟩
      unfold sl3
      generalize ("spot n" ++ sg c ++ "\n" : Str) = z2 at *
      generalize ("spot n" ++ sg c : Str) = z1 at *
      simp [wipeS, dFun, sSeq, snext, sIf, sbind, sAsg, sRet, sSkip, sExpr, sPar, sSetI, sSetA, sAug, sFor, sTg, dVar, dC, dNil, dCons, dBind, obind, dTup, dLst, dFrz, MO.d, dReg, dFz, dOp1, dOp2, dCmp, dB2v, dTst, dAnd, dOr, dNot, dIf, dCall, dIx, dLook, dIsi, dIsi2, dIsC, dIn, dChn, dMut, lstOf, putO, dM1, tyOk, dNw1, dNw2, dSl, dP, dNoP, dIsN, dItQ, dItS, dRg1, dRg2, dEnum, dLc, dYes, noex, Tg.run, gSets, List.length_map, List.length_cons, List.length_nil, List.map_cons, List.map_nil, ad1, ad2])
  have hb : ∀ x ∈ (TL.tl cut).map fun c => "spot n" ++ sg c ++ "\n", x.length ≤ 8 := fun x hx => by
    obtain ⟨c, _, rfl⟩ := List.mem_map.mp hx
    rw [app_len, app_len, s6, g1, hnl]
    decide
  have hsw := SW_le hb
  rw [List.length_map, ← TL.len_tl] at hsw
  have hsw2 : SW ((TL.tl cut).map fun c => "spot n" ++ sg c ++ "\n") ≤ 80 := by omega
  have ej := join_ok (sep := "") (ws := (TL.tl cut).map fun c => "spot n" ++ sg c ++ "\n") (by rw [h0l]; omega)
  have jl := join_len "" ((TL.tl cut).map fun c => "spot n" ++ sg c ++ "\n")
  rw [h0l, Nat.mul_zero, Nat.add_zero] at jl
  generalize Txt.join "" ((TL.tl cut).map fun c => "spot n" ++ sg c ++ "\n") = t1 at *
  have ad := add_str2 (a := t1) (b := "over\n") (by rw [o5]; omega)
  have hgl : (t1 ++ "over\n" : Str).length ≤ 90000 := by rw [app_len, o5]; omega
  have f1 := law_found_any hgl (pl_mus9 p2 pl_nil)
  have f2 := law_due_any hgl (mus p2 [])
  have f3 := same_due hgl (mus p2 [])
  generalize (t1 ++ "over\n" : Str) = great at *
  obtain ⟨odd, p3, e3, ok3, ho⟩ := pick_lst ok2 (l := odd3) (by simp [odd3]) (by simp [odd3]) []
  have e3 : f__law_pick [.obj 0, .lst [.non, .int 7, .tup [.str "over"], .lst [.str "over"], .bl true, .dct []]] (mus p2 []) = .ok odd (mus p3 []) := e3
  obtain ⟨o1, o2, o3⟩ := odd3_ok ho
  have e4 := found_odd o1 o2 o3 (pl_mus9 p3 pl_nil)
  have e5 : eqD (.tup [.str "text", .int 0, .str "text"]) (.tup [.str "text", .int 0, .str "text"]) = some true := by decide +kernel
  refine ⟨mus p3 [], fun_rt (n := 10) (g := g_law_k03) ?_⟩
  show g_law_k03 [some (.val (.frl (ns.map D.int))), none, none, none, none, none, none, none, none, none] [] = _
  rw [z3_eq]
  refine (seq_nx (sl' := sl3 A none none none none none none) (mu' := mus p0 []) ?_).trans ?_
  · subst hA
    unfold sl3
    generalize D.frl (ns.map D.int) = d0 at e0
    simp [z30, dFun, sSeq, snext, sIf, sbind, sAsg, sRet, sSkip, sExpr, sPar, sSetI, sSetA, sAug, sFor, sTg, dVar, dC, dNil, dCons, dBind, obind, dTup, dLst, dFrz, MO.d, dReg, dFz, dOp1, dOp2, dCmp, dB2v, dTst, dAnd, dOr, dNot, dIf, dCall, dIx, dLook, dIsi, dIsi2, dIsC, dIn, dChn, dMut, lstOf, putO, dM1, tyOk, dNw1, dNw2, dSl, dP, dNoP, dIsN, dItQ, dItS, dRg1, dRg2, dEnum, dLc, dYes, noex, Tg.run, gSets, List.length_map, List.length_cons, List.length_nil, List.map_cons, List.map_nil, e0]
  have hsrc : dRg1 (dC (.int 6)) (sl3 A none none none none none none) (mus p0 []) = .ok [.int 0, .int 1, .int 2, .int 3, .int 4, .int 5] (mus p0 []) := rfl
  refine (seq_nx ((for_src hsrc).trans e1)).trans ?_
  refine (seq_nx (sl' := sl3 A y2 (some (.val (.str great))) y4 y5 y6 y7) (mu' := mus p2 []) ?_).trans ?_
  · unfold z32
    generalize q_law_k03_2 = Q at eq ⊢
    unfold sl3 at eq ⊢
    generalize ((TL.tl cut).map fun c => "spot n" ++ sg c ++ "\n").map D.str = l3 at *
    simp [dFun, sSeq, snext, sIf, sbind, sAsg, sRet, sSkip, sExpr, sPar, sSetI, sSetA, sAug, sFor, sTg, dVar, dC, dNil, dCons, dBind, obind, dTup, dLst, dFrz, MO.d, dReg, dFz, dOp1, dOp2, dCmp, dB2v, dTst, dAnd, dOr, dNot, dIf, dCall, dIx, dLook, dIsi, dIsi2, dIsC, dIn, dChn, dMut, lstOf, putO, dM1, tyOk, dNw1, dNw2, dSl, dP, dNoP, dIsN, dItQ, dItS, dRg1, dRg2, dEnum, dLc, dYes, noex, Tg.run, gSets, List.length_map, List.length_cons, List.length_nil, List.map_cons, List.map_nil, eq, ej, ad]
  refine (seq_nx (sl' := sl3 A y2 (some (.val (.str great))) y4 y5 y6 y7) (mu' := mus p2 []) ?_).trans ?_
  · unfold sl3
    generalize dueD great = dd at *
    simp [z33, dFun, sSeq, snext, sIf, sbind, sAsg, sRet, sSkip, sExpr, sPar, sSetI, sSetA, sAug, sFor, sTg, dVar, dC, dNil, dCons, dBind, obind, dTup, dLst, dFrz, MO.d, dReg, dFz, dOp1, dOp2, dCmp, dB2v, dTst, dAnd, dOr, dNot, dIf, dCall, dIx, dLook, dIsi, dIsi2, dIsC, dIn, dChn, dMut, lstOf, putO, dM1, tyOk, dNw1, dNw2, dSl, dP, dNoP, dIsN, dItQ, dItS, dRg1, dRg2, dEnum, dLc, dYes, noex, Tg.run, gSets, List.length_map, List.length_cons, List.length_nil, List.map_cons, List.map_nil, f1, f2, f3]
  · unfold sl3
    simp [z34, dDct0, dFun, sSeq, snext, sIf, sbind, sAsg, sRet, sSkip, sExpr, sPar, sSetI, sSetA, sAug, sFor, sTg, dVar, dC, dNil, dCons, dBind, obind, dTup, dLst, dFrz, MO.d, dReg, dFz, dOp1, dOp2, dCmp, dB2v, dTst, dAnd, dOr, dNot, dIf, dCall, dIx, dLook, dIsi, dIsi2, dIsC, dIn, dChn, dMut, lstOf, putO, dM1, tyOk, dNw1, dNw2, dSl, dP, dNoP, dIsN, dItQ, dItS, dRg1, dRg2, dEnum, dLc, dYes, noex, Tg.run, gSets, List.length_map, List.length_cons, List.length_nil, List.map_cons, List.map_nil, e3, e4, e5]
end DL
end

section
set_option Elab.async false
set_option linter.all false
set_option maxRecDepth 100000
set_option maxHeartbeats 4000000
namespace DL
open PySem PySem.Spec PyProof.Rows
open L2 hiding St
theorem gf_bad {P : Program} {w : World} {K : PySem.W.Frag} {mg : Str → Option Value} {base : Heap} {cl : Nat → Addr} {x : Str} {params : Arguments} {body : List Stmt} {scope : Scope} {f : Addr} {fd : FuncData} {ps : List Str} {k : Nat} (F : FunD K x x params body scope [] [] f fd) (hm : mg x = some (.ref f)) (hbd : L2.Binds K fd ps []) :
    Gf P w K mg base cl k x ps.length (fun _ _ => .bad) := ⟨f, fd, ps, ⟨fun vs H Q E ⟨_, _, _, _, _, _, _, po⟩ => False.elim po, fun _ _ _ _ _ _ _ _ _ _ _ _ _ ⟨_, _, _, _, _, _, _, po⟩ => False.elim po⟩, hm, F.kp, hbd⟩
structure Fc (K : PySem.W.Frag) (mg : Str → Option Value) (cl : Nat → Addr) (wa : Str → Addr) : Prop where
  hC : ∀ c, Lv cl c → ClsT K (cl c)
  n_abs : mg "abs" = none
  n_all : mg "all" = none
  n_bool : mg "bool" = none
  n_dict : mg "dict" = none
  n_enumerate : mg "enumerate" = none
  n_int : mg "int" = none
  n_isinstance : mg "isinstance" = none
  n_len : mg "len" = none
  n_list : mg "list" = none
  n_range : mg "range" = none
  n_sorted : mg "sorted" = none
  n_str : mg "str" = none
  n_tuple : mg "tuple" = none
  at_away : ∀ c, Lv cl c → NoAttr K (cl c) "away"
  at_ended : ∀ c, Lv cl c → NoAttr K (cl c) "ended"
  at_read_roads : ∀ c, Lv cl c → NoAttr K (cl c) "read_roads"
  at_read_spots : ∀ c, Lv cl c → NoAttr K (cl c) "read_spots"
  at_roads : ∀ c, Lv cl c → NoAttr K (cl c) "roads"
  at_spots : ∀ c, Lv cl c → NoAttr K (cl c) "spots"
  g_LONGEST : ∃ u, mg "LONGEST" = some u ∧ RelV (.int 8) u
  g_MOST_SPOTS : ∃ u, mg "MOST_SPOTS" = some u ∧ RelV (.int 9) u
  g_SIGNS : ∃ u, mg "SIGNS" = some u ∧ RelV (.str "abcdefghijklmnopqrstuvwxyz") u
  m_WORDS : mg "WORDS" = some (.ref (wa "WORDS"))
  q_WORDS : ∀ H, SqT K H (wa "WORDS") ((["spot", "road", "over"] : List Str).map V.str)
  x_BadText : mg "BadText" = some (.ref (cl 1002))
  x_BadWeb : mg "BadWeb" = some (.ref (cl 1001))
  exm__law_found_k03 : ExM K cl ecs__law_found_k03 [1002, 1001]
  xf__law_found_k03 : XfT K cl fs__law_found_k03
section
variable {P : Program} {w : World} {K : PySem.W.Frag} {mg : Str → Option Value} {base : Heap} {cl : Nat → Addr} {wa : Str → Addr}

theorem sc__law_pot : FnScope (["script", "cell"] : List Str) (["script"] : List Str) (defScope s__law_pot) := ⟨rfl, rfl, rfl, by decide +kernel, rfl, by decide +kernel, by decide +kernel⟩
theorem ok__law_pot {f : Addr} {fd : FuncData} (fc : Fc K mg cl wa) (F : FunD K "_law_pot" "_law_pot" (defArgs s__law_pot) (defBody s__law_pot) (defScope s__law_pot) [] [] f fd) (hm : mg "_law_pot" = some (.ref f)) : Gf P w K mg base cl 1 "_law_pot" 1 f__law_pot :=
  have S := sc__law_pot
  (gf_of (k := 0) (N := ["script", "cell"]) (ps := ["script"]) (g := g__law_pot) F S hm (F.bindsN fun _ _ _ _ _ _ us hl => match us, hl with | [_], _ => rfl) fun cdv A outer s H E n hr =>
    (dss_one (ds_ret (de_reg (dn_lst (da_cons (de_frz (dn_lc (by rfl) S.nd (di_seq (de_sl (de_var (pv 0)) do_none (do_some de_int))) (blkOk_by (own := [("cell", 1)]) (by first | (show blkC ["script", "cell"] (defScope s__law_pot) _ _ = true; decide +kernel) | rfl | with_unfolding_all rfl)) (fun _ _ _ _ _ => (dg_name (i := 1) S.nd rfl (by first | exact .inl rfl | exact .inr rfl))) (fun _ _ _ _ _ => dts_nil) (fun _ _ _ _ _ => (de_abs (by rfl) fc.n_abs (dk_look (de_var (pv 1))))) (by decide))) (da_cons de_int (da_cons de_int (da_cons de_int da_nil)))) (len_cons (len_cons (len_cons (len_cons len_nil)))))))))

theorem sc__law_draw : FnScope (["pot", "many", "cell", "found"] : List Str) (["pot", "many"] : List Str) (defScope s__law_draw) := ⟨rfl, rfl, rfl, by decide +kernel, rfl, by decide +kernel, by decide +kernel⟩
theorem ok__law_draw {f : Addr} {fd : FuncData} (fc : Fc K mg cl wa) (F : FunD K "_law_draw" "_law_draw" (defArgs s__law_draw) (defBody s__law_draw) (defScope s__law_draw) [] [] f fd) (hm : mg "_law_draw" = some (.ref f)) : Gf P w K mg base cl 1 "_law_draw" 2 f__law_draw :=
  have S := sc__law_draw
  (gf_of (k := 0) (N := ["pot", "many", "cell", "found"]) (ps := ["pot", "many"]) (g := g__law_draw) F S hm (F.bindsN fun _ _ _ _ _ _ us hl => match us, hl with | [_, _], _ => rfl) fun cdv A outer s H E n hr =>
    (dss_cons (ds_if (dt_lt (u0 hr) (de_var (pv 1)) de_int) (dss_one (ds_ret de_int)) dss_nil)
    (dss_cons (ds_if (dt_gt (de_ix (de_var (pv 0)) de_int fun _ _ => rfl) de_int) (dss_cons (ds_asg (i := 3) S.nd rfl (by first | exact .inl rfl | exact .inr rfl) (de_mod (de_int1 (by rfl) fc.n_int (dk_look (de_ix (de_var (pv 0)) de_int fun _ _ => rfl))) (de_var (pv 1))))
    (dss_cons (ds_setI (de_div (de_ix (de_var (pv 0)) de_int fun _ _ => rfl) (de_var (pv 1))) (de_var (pv 0)) de_int)
    (dss_one (ds_ret (de_var (pv 3)))))) dss_nil)
    (dss_cons (ds_asg (i := 2) S.nd rfl (by first | exact .inl rfl | exact .inr rfl) de_int)
    (dss_cons (ds_if (dt_lt (u0 hr) (de_ix (de_var (pv 0)) de_int fun _ _ => rfl) (de_len (by rfl) fc.n_len (dk_look (de_ix (de_var (pv 0)) de_int fun _ _ => rfl)))) (dss_cons (ds_asg (i := 2) S.nd rfl (by first | exact .inl rfl | exact .inr rfl) (de_ix (de_ix (de_var (pv 0)) de_int fun _ _ => rfl) (de_ix (de_var (pv 0)) de_int fun _ _ => rfl) fun _ _ => rfl))
    (dss_cons (ds_setI (de_add (de_ix (de_var (pv 0)) de_int fun _ _ => rfl) de_int) (de_var (pv 0)) de_int)
    (dss_one (ds_if (dt_ge (de_var (pv 2)) (de_pow de_int de_int)) (dss_cons (ds_setI (de_div (de_var (pv 2)) (de_var (pv 1))) (de_var (pv 0)) de_int)
    (dss_one (ds_ret (de_mod (de_int1 (by rfl) fc.n_int (dk_look (de_var (pv 2)))) (de_var (pv 1)))))) dss_nil)))) dss_nil)
    (dss_cons (ds_setI (de_mod (de_int1 (by rfl) fc.n_int (dk_look (de_add (de_add (de_mul (de_ix (de_var (pv 0)) de_int fun _ _ => rfl) de_int) (de_var (pv 2))) de_int))) de_int) (de_var (pv 0)) de_int)
    (dss_one (ds_ret (de_mod (de_int1 (by rfl) fc.n_int (dk_look (de_add (de_div (de_mul (de_ix (de_var (pv 0)) de_int fun _ _ => rfl) (de_ix (de_var (pv 0)) de_int fun _ _ => rfl)) de_int) (de_div (de_ix (de_var (pv 0)) de_int fun _ _ => rfl) de_int)))) (de_var (pv 1)))))))))))

theorem sc__law_pick : FnScope (["pot", "row"] : List Str) (["pot", "row"] : List Str) (defScope s__law_pick) := ⟨rfl, rfl, rfl, by decide +kernel, rfl, by decide +kernel, by decide +kernel⟩
theorem ok__law_pick {f : Addr} {fd : FuncData} (fc : Fc K mg cl wa) (F : FunD K "_law_pick" "_law_pick" (defArgs s__law_pick) (defBody s__law_pick) (defScope s__law_pick) [] [] f fd) (hm : mg "_law_pick" = some (.ref f)) (h__law_draw : Gf P w K mg base cl 1 "_law_draw" 2 f__law_draw) : Gf P w K mg base cl 2 "_law_pick" 2 f__law_pick :=
  have S := sc__law_pick
  (gf_of (k := 1) (N := ["pot", "row"]) (ps := ["pot", "row"]) (g := g__law_pick) F S hm (F.bindsN fun _ _ _ _ _ _ us hl => match us, hl with | [_, _], _ => rfl) fun cdv A outer s H E n hr =>
    (dss_one (ds_ret (de_ix (de_var (pv 1)) (de_call (h__law_draw.mono (by decide)) hr (by rfl) (takes_of rfl rfl rfl rfl) (da_cons (de_var (pv 0)) (da_cons (de_len (by rfl) fc.n_len (dk_look (de_var (pv 1)))) da_nil)) (len_cons (len_cons len_nil))) fun _ _ => rfl))))

theorem sc_is_number : FnScope (["value"] : List Str) (["value"] : List Str) (defScope s_is_number) := ⟨rfl, rfl, rfl, by decide +kernel, rfl, by decide +kernel, by decide +kernel⟩
theorem ok_is_number {f : Addr} {fd : FuncData} (fc : Fc K mg cl wa) (F : FunD K "is_number" "is_number" (defArgs s_is_number) (defBody s_is_number) (defScope s_is_number) [] [] f fd) (hm : mg "is_number" = some (.ref f)) : Gf P w K mg base cl 1 "is_number" 1 f_is_number :=
  have S := sc_is_number
  (gf_of (k := 0) (N := ["value"]) (ps := ["value"]) (g := g_is_number) F S hm (F.bindsN fun _ _ _ _ _ _ us hl => match us, hl with | [_], _ => rfl) fun cdv A outer s H E n hr =>
    (dss_one (ds_ret (de_and (de_isi (y := .int) fc.hC (by rfl) fc.n_isinstance (dk_look (de_var (pv 0))) (pe_bltn (by rfl) fc.n_int (by decide +kernel) rfl)) (de_one (de_not (de_isi (y := .bool) fc.hC (by rfl) fc.n_isinstance (dk_look (de_var (pv 0))) (pe_bltn (by rfl) fc.n_bool (by decide +kernel) rfl))))))))

theorem sc_is_within : FnScope (["value", "least", "most"] : List Str) (["value", "least", "most"] : List Str) (defScope s_is_within) := ⟨rfl, rfl, rfl, by decide +kernel, rfl, by decide +kernel, by decide +kernel⟩
theorem ok_is_within {f : Addr} {fd : FuncData} (fc : Fc K mg cl wa) (F : FunD K "is_within" "is_within" (defArgs s_is_within) (defBody s_is_within) (defScope s_is_within) [] [] f fd) (hm : mg "is_within" = some (.ref f)) (h_is_number : Gf P w K mg base cl 1 "is_number" 1 f_is_number) : Gf P w K mg base cl 2 "is_within" 3 f_is_within :=
  have S := sc_is_within
  (gf_of (k := 1) (N := ["value", "least", "most"]) (ps := ["value", "least", "most"]) (g := g_is_within) F S hm (F.bindsN fun _ _ _ _ _ _ us hl => match us, hl with | [_, _, _], _ => rfl) fun cdv A outer s H E n hr =>
    (dss_one (ds_ret (de_and (de_tst (de_call (h_is_number.mono (by decide)) hr (by rfl) (takes_of rfl rfl rfl rfl) (da_cons (de_var (pv 0)) da_nil) (len_cons len_nil))) (de_one (de_chain op_le op_le pur_int pur_int (de_var (pv 1)) (de_var (pv 0)) (de_var (pv 2)) fun ha hb hc => pe_chain op_le op_le ha hb hc))))))

theorem sc_is_listed : FnScope (["value"] : List Str) (["value"] : List Str) (defScope s_is_listed) := ⟨rfl, rfl, rfl, by decide +kernel, rfl, by decide +kernel, by decide +kernel⟩
theorem ok_is_listed {f : Addr} {fd : FuncData} (fc : Fc K mg cl wa) (F : FunD K "is_listed" "is_listed" (defArgs s_is_listed) (defBody s_is_listed) (defScope s_is_listed) [] [] f fd) (hm : mg "is_listed" = some (.ref f)) : Gf P w K mg base cl 1 "is_listed" 1 f_is_listed :=
  have S := sc_is_listed
  (gf_of (k := 0) (N := ["value"]) (ps := ["value"]) (g := g_is_listed) F S hm (F.bindsN fun _ _ _ _ _ _ us hl => match us, hl with | [_], _ => rfl) fun cdv A outer s H E n hr =>
    (dss_one (ds_ret (de_isi2 (y := .list) (z := .tuple) fc.hC (by rfl) fc.n_isinstance (dk_look (de_var (pv 0))) (pe_bltn (by rfl) fc.n_list (by decide +kernel) rfl) (pe_bltn (by rfl) fc.n_tuple (by decide +kernel) rfl)))))

theorem sc_have_no_twice : FnScope (["rows", "row"] : List Str) (["rows"] : List Str) (defScope s_have_no_twice) := ⟨rfl, rfl, rfl, by decide +kernel, rfl, by decide +kernel, by decide +kernel⟩
theorem ok_have_no_twice {f : Addr} {fd : FuncData} (fc : Fc K mg cl wa) (F : FunD K "have_no_twice" "have_no_twice" (defArgs s_have_no_twice) (defBody s_have_no_twice) (defScope s_have_no_twice) [] [] f fd) (hm : mg "have_no_twice" = some (.ref f)) : Gf P w K mg base cl 1 "have_no_twice" 1 f_have_no_twice :=
  have S := sc_have_no_twice
  (gf_of (k := 0) (N := ["rows", "row"]) (ps := ["rows"]) (g := g_have_no_twice) F S hm (F.bindsN fun _ _ _ _ _ _ us hl => match us, hl with | [_], _ => rfl) fun cdv A outer s H E n hr =>
    (dss_one (ds_ret (de_eq (u64 hr) (de_unlike (by rfl) (u1 hr) (by rfl) fc.n_len (de_var (pv 0))) (de_len (by rfl) fc.n_len (dk_look (de_var (pv 0))))))))

theorem sc_is_name : FnScope (["value"] : List Str) (["value"] : List Str) (defScope s_is_name) := ⟨rfl, rfl, rfl, by decide +kernel, rfl, by decide +kernel, by decide +kernel⟩
theorem ok_is_name {f : Addr} {fd : FuncData} (fc : Fc K mg cl wa) (F : FunD K "is_name" "is_name" (defArgs s_is_name) (defBody s_is_name) (defScope s_is_name) [] [] f fd) (hm : mg "is_name" = some (.ref f)) : Gf P w K mg base cl 1 "is_name" 1 f_is_name :=
  have S := sc_is_name
  (gf_of (k := 0) (N := ["value"]) (ps := ["value"]) (g := g_is_name) F S hm (F.bindsN fun _ _ _ _ _ _ us hl => match us, hl with | [_], _ => rfl) fun cdv A outer s H E n hr =>
    (dss_cons (ds_if (dt_w (dw_or (dt_not (dt_cmp (de_isi (y := .str) fc.hC (by rfl) fc.n_isinstance (dk_look (de_var (pv 0))) (pe_bltn (by rfl) fc.n_str (by decide +kernel) rfl)))) (dw_or (dt_not (dt_chain op_le op_le pur_int pur_int de_int (de_len (by rfl) fc.n_len (dk_look (de_var (pv 0)))) (de_c (pe_gv (by rfl) fc.g_LONGEST) fun _ _ _ => .int 8))) (dw_or1 (dt_ne (u64 hr) (de_strip (de_var (pv 0)) (de_c (pe_gv (by rfl) fc.g_SIGNS) fun _ _ _ => .str "abcdefghijklmnopqrstuvwxyz")) de_str))))) (dss_one (ds_ret de_bl)) dss_nil)
    (dss_one (ds_ret (de_ninK (u65 hr) (de_var (pv 0)) (pe_glob (by rfl) fc.m_WORDS rfl) fc.q_WORDS)))))

theorem sc_are_spots : FnScope (["value", "name"] : List Str) (["value"] : List Str) (defScope s_are_spots) := ⟨rfl, rfl, rfl, by decide +kernel, rfl, by decide +kernel, by decide +kernel⟩
theorem ok_are_spots {f : Addr} {fd : FuncData} (fc : Fc K mg cl wa) (F : FunD K "are_spots" "are_spots" (defArgs s_are_spots) (defBody s_are_spots) (defScope s_are_spots) [] [] f fd) (hm : mg "are_spots" = some (.ref f)) (h_is_listed : Gf P w K mg base cl 1 "is_listed" 1 f_is_listed) (h_is_name : Gf P w K mg base cl 1 "is_name" 1 f_is_name) (h_have_no_twice : Gf P w K mg base cl 1 "have_no_twice" 1 f_have_no_twice) : Gf P w K mg base cl 2 "are_spots" 1 f_are_spots :=
  have S := sc_are_spots
  (gf_of (k := 1) (N := ["value", "name"]) (ps := ["value"]) (g := g_are_spots) F S hm (F.bindsN fun _ _ _ _ _ _ us hl => match us, hl with | [_], _ => rfl) fun cdv A outer s H E n hr =>
    (dss_cons (ds_if (dt_w (dw_or (dt_not (dt_val (de_call (h_is_listed.mono (by decide)) hr (by rfl) (takes_of rfl rfl rfl rfl) (da_cons (de_var (pv 0)) da_nil) (len_cons len_nil)))) (dw_or1 (dt_not (dt_chain op_le op_le pur_int pur_int de_int (de_len (by rfl) fc.n_len (dk_look (de_var (pv 0)))) (de_c (pe_gv (by rfl) fc.g_MOST_SPOTS) fun _ _ _ => .int 9)))))) (dss_one (ds_ret de_bl)) dss_nil)
    (dss_one (ds_ret (de_and (de_tst (de_all (by rfl) (by rfl) fc.n_all (dk_look (de_frz (dn_lc (by rfl) S.nd (di_seq (de_var (pv 0))) (blkOk_by (own := [("name", 1)]) (by first | (show blkC ["value", "name"] (defScope s_are_spots) _ _ = true; decide +kernel) | rfl | with_unfolding_all rfl)) (fun _ _ _ _ _ => (dg_name (i := 1) S.nd rfl (by first | exact .inl rfl | exact .inr rfl))) (fun _ _ _ _ _ => dts_nil) (fun _ _ _ _ _ => (de_call (h_is_name.mono (by decide)) hr (by rfl) tk0 (da_cons (de_var (pv 1)) da_nil) (len_cons len_nil))) (by decide)))))) (de_one (de_tst (de_call (h_have_no_twice.mono (by decide)) hr (by rfl) (takes_of rfl rfl rfl rfl) (da_cons (de_var (pv 0)) da_nil) (len_cons len_nil)))))))))

theorem sc_is_pair_below : FnScope (["value", "many"] : List Str) (["value", "many"] : List Str) (defScope s_is_pair_below) := ⟨rfl, rfl, rfl, by decide +kernel, rfl, by decide +kernel, by decide +kernel⟩
theorem ok_is_pair_below {f : Addr} {fd : FuncData} (fc : Fc K mg cl wa) (F : FunD K "is_pair_below" "is_pair_below" (defArgs s_is_pair_below) (defBody s_is_pair_below) (defScope s_is_pair_below) [] [] f fd) (hm : mg "is_pair_below" = some (.ref f)) (h_is_within : Gf P w K mg base cl 2 "is_within" 3 f_is_within) : Gf P w K mg base cl 3 "is_pair_below" 2 f_is_pair_below :=
  have S := sc_is_pair_below
  (gf_of (k := 2) (N := ["value", "many"]) (ps := ["value", "many"]) (g := g_is_pair_below) F S hm (F.bindsN fun _ _ _ _ _ _ us hl => match us, hl with | [_, _], _ => rfl) fun cdv A outer s H E n hr =>
    (dss_cons (ds_if (dt_w (dw_or (dt_not (dt_cmp (de_isi (y := .tuple) fc.hC (by rfl) fc.n_isinstance (dk_look (de_var (pv 0))) (pe_bltn (by rfl) fc.n_tuple (by decide +kernel) rfl)))) (dw_or (dt_ne (u64 hr) (de_len (by rfl) fc.n_len (dk_look (de_var (pv 0)))) de_int) (dw_or1 (dt_not (dt_val (de_call (h_is_within.mono (by decide)) hr (by rfl) (takes_of rfl rfl rfl rfl) (da_cons (de_ix (de_var (pv 0)) de_int fun _ _ => rfl) (da_cons de_int (da_cons (de_sub (de_var (pv 1)) de_int) da_nil))) (len_cons (len_cons (len_cons len_nil)))))))))) (dss_one (ds_ret de_bl)) dss_nil)
    (dss_one (ds_ret (de_call (h_is_within.mono (by decide)) hr (by rfl) (takes_of rfl rfl rfl rfl) (da_cons (de_ix (de_var (pv 0)) de_int fun _ _ => rfl) (da_cons de_int (da_cons (de_sub (de_ix (de_var (pv 0)) de_int fun _ _ => rfl) de_int) da_nil))) (len_cons (len_cons (len_cons len_nil))))))))

theorem sc_steps_away : FnScope (["many", "roads", "start", "found", "line", "at", "one", "other", "later"] : List Str) (["many", "roads", "start"] : List Str) (defScope s_steps_away) := ⟨rfl, rfl, rfl, by decide +kernel, rfl, by decide +kernel, by decide +kernel⟩
theorem ok_steps_away {f : Addr} {fd : FuncData} (fc : Fc K mg cl wa) (F : FunD K "steps_away" "steps_away" (defArgs s_steps_away) (defBody s_steps_away) (defScope s_steps_away) [] [] f fd) (hm : mg "steps_away" = some (.ref f)) : Gf P w K mg base cl 1 "steps_away" 3 f_steps_away :=
  have S := sc_steps_away
  Gf.gc (gf_of (k := 0) (N := ["many", "roads", "start", "found", "line", "at", "one", "other", "later"]) (ps := ["many", "roads", "start"]) (g := g_steps_away) F S hm (F.bindsN fun _ _ _ _ _ _ us hl => match us, hl with | [_, _, _], _ => rfl) fun cdv A outer s H E n hr =>
    (dss_cons (ds_asg (i := 3) S.nd rfl (by first | exact .inl rfl | exact .inr rfl) (de_reg (dn_rep (de_frz (dn_lst (da_cons de_non da_nil) (len_cons len_nil))) (de_var (pv 0)))))
    (dss_cons (ds_setI de_int (de_var (pv 3)) (de_var (pv 2)))
    (dss_cons (ds_asg (i := 4) S.nd rfl (by first | exact .inl rfl | exact .inr rfl) (de_reg (dn_lst (da_cons (de_var (pv 2)) da_nil) (len_cons len_nil))))
    (dss_cons (ds_asg (i := 5) S.nd rfl (by first | exact .inl rfl | exact .inr rfl) de_int)
    (dss_cons (ds_while (m := 60) (passes_of rfl) (dt_lt (u0 hr) (de_var (pv 5)) (de_len (by rfl) fc.n_len (dk_look (de_var (pv 4))))) (dss_cons (ds_for (passes_of rfl) rfl (di_seq (de_var (pv 1))) (dg_tup rfl (dgs_cons (i := 6) S.nd rfl (by first | exact .inl rfl | exact .inr rfl) (dgs_cons (i := 7) S.nd rfl (by first | exact .inl rfl | exact .inr rfl) dgs_nil))) (dss_one (ds_if (dt_in (u65 hr) (de_ix (de_var (pv 4)) (de_var (pv 5)) fun _ _ => rfl) (dk_look (de_tup (da_cons (de_var (pv 6)) (da_cons (de_var (pv 7)) da_nil)) (len_cons (len_cons len_nil)))) rfl) (dss_cons (ds_asg (i := 8) S.nd rfl (by first | exact .inl rfl | exact .inr rfl) (de_sub (de_add (de_var (pv 6)) (de_var (pv 7))) (de_ix (de_var (pv 4)) (de_var (pv 5)) fun _ _ => rfl)))
    (dss_one (ds_if (dt_isN (de_ix (de_var (pv 3)) (de_var (pv 8)) fun _ _ => rfl)) (dss_cons (ds_setI (de_add (de_ix (de_var (pv 3)) (de_ix (de_var (pv 4)) (de_var (pv 5)) fun _ _ => rfl) fun _ _ => rfl) de_int) (de_var (pv 3)) (de_var (pv 8)))
    (dss_one (ds_expr (de_append (de_var (pv 4)) (da_cons (de_var (pv 8)) da_nil))))) dss_nil))) dss_nil)))
    (dss_one (ds_inc (i := 5) S.nd rfl (by first | exact .inl rfl | exact .inr rfl) de_int))))
    (dss_one (ds_ret (de_fz (de_var (pv 3)))))))))))

theorem sc_Web_init : FnScope (["self", "spots", "roads", "start", "pair"] : List Str) (["self", "spots", "roads"] : List Str) (defScope s_Web_init) := ⟨rfl, rfl, rfl, by decide +kernel, rfl, by decide +kernel, by decide +kernel⟩
theorem ok_Web_init {f : Addr} {fd : FuncData} (fc : Fc K mg cl wa) (F : FunD K "__init__" "Web.__init__" (defArgs s_Web_init) (defBody s_Web_init) (defScope s_Web_init) [] [] f fd) (M : Mk K (cl 0) f) (h0 : Lv cl 0) (hm : mg "Web" = some (.ref (cl 0))) (h_are_spots : Gf P w K mg base cl 2 "are_spots" 1 f_are_spots) (h_is_listed : Gf P w K mg base cl 1 "is_listed" 1 f_is_listed) (h_is_pair_below : Gf P w K mg base cl 3 "is_pair_below" 2 f_is_pair_below) (h_have_no_twice : Gf P w K mg base cl 1 "have_no_twice" 1 f_have_no_twice) (h_steps_away : Gf P w K mg base cl 1 "steps_away" 3 f_steps_away) (e_BadWeb : Ge P w K mg base cl "BadWeb" 1001 ["what"]) : Gi P w K mg base cl 4 "Web" 0 3 f_Web_init :=
  have S := sc_Web_init
  ⟨f, fd, ["self", "spots", "roads"], fn_body (k := 3) (N := ["self", "spots", "roads", "start", "pair"]) (ps := ["self", "spots", "roads"]) (g := g_Web_init) F S fun cdv A outer s H E n hr =>
    (dss_cons (ds_if (dt_not (dt_val (de_call (h_are_spots.mono (by decide)) hr (by rfl) (takes_of rfl rfl rfl rfl) (da_cons (de_var (pv 1)) da_nil) (len_cons len_nil)))) (dss_one (ds_raise (k := 2) e_BadWeb rfl (takes_of rfl rfl rfl rfl) hr (by rfl) (da_cons de_str da_nil))) dss_nil)
    (dss_cons (ds_if (dt_w (dw_or (dt_not (dt_val (de_call (h_is_listed.mono (by decide)) hr (by rfl) (takes_of rfl rfl rfl rfl) (da_cons (de_var (pv 2)) da_nil) (len_cons len_nil)))) (dw_or1 (dt_not (dt_val (de_all (by rfl) (by rfl) fc.n_all (dk_look (de_frz (dn_lc (by rfl) S.nd (di_seq (de_var (pv 2))) (blkOk_by (own := [("pair", 4)]) (by first | (show blkC ["self", "spots", "roads", "start", "pair"] (defScope s_Web_init) _ _ = true; decide +kernel) | rfl | with_unfolding_all rfl)) (fun _ _ _ _ _ => (dg_name (i := 4) S.nd rfl (by first | exact .inl rfl | exact .inr rfl))) (fun _ _ _ _ _ => dts_nil) (fun _ _ _ _ _ => (de_call (h_is_pair_below.mono (by decide)) hr (by rfl) tk0 (da_cons (de_var (pv 4)) (da_cons (de_len (by rfl) fc.n_len (dk_look (de_var (pv 1)))) da_nil)) (len_cons (len_cons len_nil)))) (by decide)))))))))) (dss_one (ds_raise (k := 2) e_BadWeb rfl (takes_of rfl rfl rfl rfl) hr (by rfl) (da_cons de_str da_nil))) dss_nil)
    (dss_cons (ds_if (dt_not (dt_val (de_call (h_have_no_twice.mono (by decide)) hr (by rfl) (takes_of rfl rfl rfl rfl) (da_cons (de_var (pv 2)) da_nil) (len_cons len_nil)))) (dss_one (ds_raise (k := 2) e_BadWeb rfl (takes_of rfl rfl rfl rfl) hr (by rfl) (da_cons de_str da_nil))) dss_nil)
    (dss_cons (ds_setA fc.hC fc.at_spots (de_var (pv 0)) (de_tuple (by rfl) fc.n_tuple (dk_look (de_var (pv 1)))))
    (dss_cons (ds_setA fc.hC fc.at_roads (de_var (pv 0)) (de_tuple (by rfl) fc.n_tuple (dk_look (de_frz (dn_sorted (u64 hr) (by rfl) fc.n_sorted (dk_look (de_var (pv 2))))))))
    (dss_one (ds_setA fc.hC fc.at_away (de_var (pv 0)) (de_frz (dn_lc (by rfl) S.nd (di_range1 (by rfl) fc.n_range (da_cons (de_len (by rfl) fc.n_len (dk_look (de_var (pv 1)))) da_nil) rfl) (blkOk_by (own := [("start", 3)]) (by first | (show blkC ["self", "spots", "roads", "start", "pair"] (defScope s_Web_init) _ _ = true; decide +kernel) | rfl | with_unfolding_all rfl)) (fun _ _ _ _ _ => (dg_name (i := 3) S.nd rfl (by first | exact .inl rfl | exact .inr rfl))) (fun _ _ _ _ _ => dts_nil) (fun _ _ _ _ _ => (de_call (h_steps_away.mono (by decide)) hr (by rfl) tk0 (da_cons (de_len (by rfl) fc.n_len (dk_look (de_var (pv 1)))) (da_cons (de_var (pv 2)) (da_cons (de_var (pv 3)) da_nil))) (len_cons (len_cons (len_cons len_nil))))) (by decide)))))))))), ⟨M, h0⟩, hm, F.bindsN fun _ _ _ _ _ _ us hl => match us, hl with | [_, _, _], _ => rfl⟩

theorem sc__law_same : FnScope (["found", "due", "k"] : List Str) (["found", "due"] : List Str) (defScope s__law_same) := ⟨rfl, rfl, rfl, by decide +kernel, rfl, by decide +kernel, by decide +kernel⟩
theorem ok__law_same_at {f : Addr} {fd : FuncData} (fc : Fc K mg cl wa) (F : FunD K "_law_same" "_law_same" (defArgs s__law_same) (defBody s__law_same) (defScope s__law_same) [] [] f fd) (hm : mg "_law_same" = some (.ref f)) : ∀ r : Nat, Gf P w K mg base cl (0 + r) "_law_same" 2 (f__law_same_at r)
  | 0 => gf_bad F hm (ps := ["found", "due"]) (F.bindsN fun _ _ _ _ _ _ us hl => match us, hl with | [_, _], _ => rfl)
  | r + 1 =>
  have S := sc__law_same
  have hself := ok__law_same_at fc F hm r
  (gf_of (k := 0 + r) (N := ["found", "due", "k"]) (ps := ["found", "due"]) (g := g__law_same (f__law_same_at r)) F S hm (F.bindsN fun _ _ _ _ _ _ us hl => match us, hl with | [_, _], _ => rfl) fun cdv A outer s H E n hr =>
    (dss_cons (ds_if (dt_w (dw_or (dt_cmp (de_isi (y := .tuple) fc.hC (by rfl) fc.n_isinstance (dk_look (de_var (pv 1))) (pe_bltn (by rfl) fc.n_tuple (by decide +kernel) rfl))) (dw_or1 (dt_cmp (de_isi (y := .list) fc.hC (by rfl) fc.n_isinstance (dk_look (de_var (pv 1))) (pe_bltn (by rfl) fc.n_list (by decide +kernel) rfl)))))) (dss_cons (ds_if (dt_w (dw_or (dt_ne (u64 hr) (de_isi (y := .tuple) fc.hC (by rfl) fc.n_isinstance (dk_look (de_var (pv 1))) (pe_bltn (by rfl) fc.n_tuple (by decide +kernel) rfl)) (de_isi (y := .tuple) fc.hC (by rfl) fc.n_isinstance (dk_look (de_var (pv 0))) (pe_bltn (by rfl) fc.n_tuple (by decide +kernel) rfl))) (dw_or1 (dt_ne (u64 hr) (de_isi (y := .list) fc.hC (by rfl) fc.n_isinstance (dk_look (de_var (pv 1))) (pe_bltn (by rfl) fc.n_list (by decide +kernel) rfl)) (de_isi (y := .list) fc.hC (by rfl) fc.n_isinstance (dk_look (de_var (pv 0))) (pe_bltn (by rfl) fc.n_list (by decide +kernel) rfl)))))) (dss_one (ds_ret de_bl)) dss_nil)
    (dss_cons (ds_if (dt_ne (u64 hr) (de_len (by rfl) fc.n_len (dk_look (de_var (pv 0)))) (de_len (by rfl) fc.n_len (dk_look (de_var (pv 1))))) (dss_one (ds_ret de_bl)) dss_nil)
    (dss_one (ds_ret (de_eq (u64 hr) (de_frz (dn_lc (by rfl) S.nd (di_range1 (by rfl) fc.n_range (da_cons (de_len (by rfl) fc.n_len (dk_look (de_var (pv 1)))) da_nil) rfl) (blkOk_by (own := [("k", 2)]) (by first | (show blkC ["found", "due", "k"] (defScope s__law_same) _ _ = true; decide +kernel) | rfl | with_unfolding_all rfl)) (fun _ _ _ _ _ => (dg_name (i := 2) S.nd rfl (by first | exact .inl rfl | exact .inr rfl))) (fun _ _ _ _ _ => (dts_one (dt_not (dt_val (de_call (hself.mono (by omega)) hr (by rfl) tk0 (da_cons (de_ix (de_var (pv 0)) (de_var (pv 2)) fun _ _ => rfl) (da_cons (de_ix (de_var (pv 1)) (de_var (pv 2)) fun _ _ => rfl) da_nil)) (len_cons (len_cons len_nil))))))) (fun _ _ _ _ _ => (de_var (pv 2))) (by decide))) (de_frz (dn_lst da_nil len_nil))))))) dss_nil)
    (dss_cons (ds_if (dt_isN (de_var (pv 1))) (dss_one (ds_ret (de_isN (de_var (pv 0))))) dss_nil)
    (dss_cons (ds_if (dt_cmp (de_isi (y := .str) fc.hC (by rfl) fc.n_isinstance (dk_look (de_var (pv 1))) (pe_bltn (by rfl) fc.n_str (by decide +kernel) rfl))) (dss_one (ds_ret (de_and (de_isi (y := .str) fc.hC (by rfl) fc.n_isinstance (dk_look (de_var (pv 0))) (pe_bltn (by rfl) fc.n_str (by decide +kernel) rfl)) (de_one (de_eq (u64 hr) (de_var (pv 0)) (de_var (pv 1))))))) dss_nil)
    (dss_one (ds_ret (de_and (de_isi (y := .int) fc.hC (by rfl) fc.n_isinstance (dk_look (de_var (pv 0))) (pe_bltn (by rfl) fc.n_int (by decide +kernel) rfl)) (de_and (de_eq (u64 hr) (de_isi (y := .bool) fc.hC (by rfl) fc.n_isinstance (dk_look (de_var (pv 0))) (pe_bltn (by rfl) fc.n_bool (by decide +kernel) rfl)) (de_isi (y := .bool) fc.hC (by rfl) fc.n_isinstance (dk_look (de_var (pv 1))) (pe_bltn (by rfl) fc.n_bool (by decide +kernel) rfl))) (de_one (de_eq (u64 hr) (de_var (pv 0)) (de_var (pv 1))))))))))))
theorem ok__law_same {f : Addr} {fd : FuncData} (fc : Fc K mg cl wa) (F : FunD K "_law_same" "_law_same" (defArgs s__law_same) (defBody s__law_same) (defScope s__law_same) [] [] f fd) (hm : mg "_law_same" = some (.ref f)) : Gf P w K mg base cl 7 "_law_same" 2 f__law_same := (ok__law_same_at fc F hm 6).mono (by decide)

theorem sc__law_within : FnScope (["thing", "low", "high"] : List Str) (["thing", "low", "high"] : List Str) (defScope s__law_within) := ⟨rfl, rfl, rfl, by decide +kernel, rfl, by decide +kernel, by decide +kernel⟩
theorem ok__law_within {f : Addr} {fd : FuncData} (fc : Fc K mg cl wa) (F : FunD K "_law_within" "_law_within" (defArgs s__law_within) (defBody s__law_within) (defScope s__law_within) [] [] f fd) (hm : mg "_law_within" = some (.ref f)) : Gf P w K mg base cl 1 "_law_within" 3 f__law_within :=
  have S := sc__law_within
  (gf_of (k := 0) (N := ["thing", "low", "high"]) (ps := ["thing", "low", "high"]) (g := g__law_within) F S hm (F.bindsN fun _ _ _ _ _ _ us hl => match us, hl with | [_, _, _], _ => rfl) fun cdv A outer s H E n hr =>
    (dss_one (ds_ret (de_and (de_isi (y := .int) fc.hC (by rfl) fc.n_isinstance (dk_look (de_var (pv 0))) (pe_bltn (by rfl) fc.n_int (by decide +kernel) rfl)) (de_and (de_not (de_isi (y := .bool) fc.hC (by rfl) fc.n_isinstance (dk_look (de_var (pv 0))) (pe_bltn (by rfl) fc.n_bool (by decide +kernel) rfl))) (de_one (de_chain op_le op_le pur_int pur_int (de_var (pv 1)) (de_var (pv 0)) (de_var (pv 2)) fun ha hb hc => pe_chain op_le op_le ha hb hc)))))))

theorem sc__law_pairs : FnScope (["many", "found", "j", "i"] : List Str) (["many"] : List Str) (defScope s__law_pairs) := ⟨rfl, rfl, rfl, by decide +kernel, rfl, by decide +kernel, by decide +kernel⟩
theorem ok__law_pairs {f : Addr} {fd : FuncData} (fc : Fc K mg cl wa) (F : FunD K "_law_pairs" "_law_pairs" (defArgs s__law_pairs) (defBody s__law_pairs) (defScope s__law_pairs) [] [] f fd) (hm : mg "_law_pairs" = some (.ref f)) : Gf P w K mg base cl 1 "_law_pairs" 1 f__law_pairs :=
  have S := sc__law_pairs
  (gf_of (k := 0) (N := ["many", "found", "j", "i"]) (ps := ["many"]) (g := g__law_pairs) F S hm (F.bindsN fun _ _ _ _ _ _ us hl => match us, hl with | [_], _ => rfl) fun cdv A outer s H E n hr =>
    (dss_cons (ds_asg (i := 1) S.nd rfl (by first | exact .inl rfl | exact .inr rfl) (de_frz (dn_lst da_nil len_nil)))
    (dss_cons (ds_for (passes_of rfl) rfl (di_range1 (by rfl) fc.n_range (da_cons (de_var (pv 0)) da_nil) rfl) (dg_name (i := 2) S.nd rfl (by first | exact .inl rfl | exact .inr rfl)) (dss_one (ds_asg (i := 1) S.nd rfl (by first | exact .inl rfl | exact .inr rfl) (de_add (de_var (pv 1)) (de_frz (dn_lc (by rfl) S.nd (di_range1 (by rfl) fc.n_range (da_cons (de_var (pv 2)) da_nil) rfl) (blkOk_by (own := [("i", 3)]) (by first | (show blkC ["many", "found", "j", "i"] (defScope s__law_pairs) _ _ = true; decide +kernel) | rfl | with_unfolding_all rfl)) (fun _ _ _ _ _ => (dg_name (i := 3) S.nd rfl (by first | exact .inl rfl | exact .inr rfl))) (fun _ _ _ _ _ => dts_nil) (fun _ _ _ _ _ => (de_tup (da_cons (de_var (pv 3)) (da_cons (de_var (pv 2)) da_nil)) (len_cons (len_cons len_nil)))) (by decide)))))))
    (dss_one (ds_ret (de_var (pv 1)))))))

theorem sc__law_word : FnScope (["pot", "size", "k"] : List Str) (["pot"] : List Str) (defScope s__law_word) := ⟨rfl, rfl, rfl, by decide +kernel, rfl, by decide +kernel, by decide +kernel⟩
theorem ok__law_word {f : Addr} {fd : FuncData} (fc : Fc K mg cl wa) (F : FunD K "_law_word" "_law_word" (defArgs s__law_word) (defBody s__law_word) (defScope s__law_word) [] [] f fd) (hm : mg "_law_word" = some (.ref f)) (h__law_draw : Gf P w K mg base cl 1 "_law_draw" 2 f__law_draw) (h__law_pick : Gf P w K mg base cl 2 "_law_pick" 2 f__law_pick) : Gf P w K mg base cl 3 "_law_word" 1 f__law_word :=
  have S := sc__law_word
  (gf_of (k := 2) (N := ["pot", "size", "k"]) (ps := ["pot"]) (g := g__law_word) F S hm (F.bindsN fun _ _ _ _ _ _ us hl => match us, hl with | [_], _ => rfl) fun cdv A outer s H E n hr =>
    (dss_cons (ds_if (dt_eq (u64 hr) (de_call (h__law_draw.mono (by decide)) hr (by rfl) (takes_of rfl rfl rfl rfl) (da_cons (de_var (pv 0)) (da_cons de_int da_nil)) (len_cons (len_cons len_nil))) de_int) (dss_one (ds_ret (de_call (h__law_pick.mono (by decide)) hr (by rfl) (takes_of rfl rfl rfl rfl) (da_cons (de_var (pv 0)) (da_cons (de_frz (dn_lst (da_cons de_str (da_cons de_str (da_cons de_str da_nil))) (len_cons (len_cons (len_cons len_nil))))) da_nil)) (len_cons (len_cons len_nil))))) dss_nil)
    (dss_cons (ds_asg (i := 1) S.nd rfl (by first | exact .inl rfl | exact .inr rfl) (de_call (h__law_pick.mono (by decide)) hr (by rfl) (takes_of rfl rfl rfl rfl) (da_cons (de_var (pv 0)) (da_cons (de_frz (dn_lst (da_cons de_int (da_cons de_int (da_cons de_int (da_cons de_int (da_cons de_int da_nil))))) (len_cons (len_cons (len_cons (len_cons (len_cons len_nil))))))) da_nil)) (len_cons (len_cons len_nil))))
    (dss_one (ds_ret (de_join de_str (de_frz (dn_lc (by rfl) S.nd (di_range1 (by rfl) fc.n_range (da_cons (de_var (pv 1)) da_nil) rfl) (blkOk_by (own := [("k", 2)]) (by first | (show blkC ["pot", "size", "k"] (defScope s__law_word) _ _ = true; decide +kernel) | rfl | with_unfolding_all rfl)) (fun _ _ _ _ _ => (dg_name (i := 2) S.nd rfl (by first | exact .inl rfl | exact .inr rfl))) (fun _ _ _ _ _ => dts_nil) (fun _ _ _ _ _ => (de_call (h__law_pick.mono (by decide)) hr (by rfl) tk0 (da_cons (de_var (pv 0)) (da_cons de_str da_nil)) (len_cons (len_cons len_nil)))) (by decide)))))))))

theorem sc__law_is_name : FnScope (["thing", "sign"] : List Str) (["thing"] : List Str) (defScope s__law_is_name) := ⟨rfl, rfl, rfl, by decide +kernel, rfl, by decide +kernel, by decide +kernel⟩
theorem ok__law_is_name {f : Addr} {fd : FuncData} (fc : Fc K mg cl wa) (F : FunD K "_law_is_name" "_law_is_name" (defArgs s__law_is_name) (defBody s__law_is_name) (defScope s__law_is_name) [] [] f fd) (hm : mg "_law_is_name" = some (.ref f)) : Gf P w K mg base cl 1 "_law_is_name" 1 f__law_is_name :=
  have S := sc__law_is_name
  (gf_of (k := 0) (N := ["thing", "sign"]) (ps := ["thing"]) (g := g__law_is_name) F S hm (F.bindsN fun _ _ _ _ _ _ us hl => match us, hl with | [_], _ => rfl) fun cdv A outer s H E n hr =>
    (dss_cons (ds_if (dt_w (dw_or (dt_not (dt_cmp (de_isi (y := .str) fc.hC (by rfl) fc.n_isinstance (dk_look (de_var (pv 0))) (pe_bltn (by rfl) fc.n_str (by decide +kernel) rfl)))) (dw_or (dt_not (dt_chain op_le op_le pur_int pur_int de_int (de_len (by rfl) fc.n_len (dk_look (de_var (pv 0)))) de_int)) (dw_or1 (dt_in (u65 hr) (de_var (pv 0)) (dk_look (de_tup (da_cons de_str (da_cons de_str (da_cons de_str da_nil))) (len_cons (len_cons (len_cons len_nil))))) rfl))))) (dss_one (ds_ret de_bl)) dss_nil)
    (dss_one (ds_ret (de_eq (u64 hr) (de_len (by rfl) fc.n_len (dk_look (de_frz (dn_lc (by rfl) S.nd (di_str (de_var (pv 0))) (blkOk_by (own := [("sign", 1)]) (by first | (show blkC ["thing", "sign"] (defScope s__law_is_name) _ _ = true; decide +kernel) | rfl | with_unfolding_all rfl)) (fun _ _ _ _ _ => (dg_name (i := 1) S.nd rfl (by first | exact .inl rfl | exact .inr rfl))) (fun _ _ _ _ _ => (dts_one (dt_in (u65 hr) (de_var (pv 1)) (dk_look de_str) rfl))) (fun _ _ _ _ _ => (de_var (pv 1))) (by decide))))) (de_len (by rfl) fc.n_len (dk_look (de_var (pv 0)))))))))

theorem sc__law_names : FnScope (["pot", "many", "found", "k", "word", "some", "sign", "one"] : List Str) (["pot", "many"] : List Str) (defScope s__law_names) := ⟨rfl, rfl, rfl, by decide +kernel, rfl, by decide +kernel, by decide +kernel⟩
theorem ok__law_names {f : Addr} {fd : FuncData} (fc : Fc K mg cl wa) (F : FunD K "_law_names" "_law_names" (defArgs s__law_names) (defBody s__law_names) (defScope s__law_names) [] [] f fd) (hm : mg "_law_names" = some (.ref f)) (h__law_word : Gf P w K mg base cl 3 "_law_word" 1 f__law_word) (h__law_is_name : Gf P w K mg base cl 1 "_law_is_name" 1 f__law_is_name) : Gf P w K mg base cl 4 "_law_names" 2 f__law_names :=
  have S := sc__law_names
  Gf.gc (gf_of (k := 3) (N := ["pot", "many", "found", "k", "word", "some", "sign", "one"]) (ps := ["pot", "many"]) (g := g__law_names) F S hm (F.bindsN fun _ _ _ _ _ _ us hl => match us, hl with | [_, _], _ => rfl) fun cdv A outer s H E n hr =>
    (dss_cons (ds_asg (i := 2) S.nd rfl (by first | exact .inl rfl | exact .inr rfl) (de_reg (dn_lst da_nil len_nil)))
    (dss_cons (ds_for (passes_of rfl) rfl (di_range1 (by rfl) fc.n_range (da_cons (de_var (pv 1)) da_nil) rfl) (dg_name (i := 3) S.nd rfl (by first | exact .inl rfl | exact .inr rfl)) (dss_cons (ds_asg (i := 4) S.nd rfl (by first | exact .inl rfl | exact .inr rfl) (de_sl (de_call (h__law_word.mono (by decide)) hr (by rfl) (takes_of rfl rfl rfl rfl) (da_cons (de_var (pv 0)) da_nil) (len_cons len_nil)) do_none (do_some de_int)))
    (dss_cons (ds_ownF (ds_lc (i := 5) (by rfl) S.nd rfl rfl rfl (di_str de_str) (blkOk_by (own := [("sign", 6)]) (by first | (show blkC ["pot", "many", "found", "k", "word", "some", "sign", "one"] (defScope s__law_names) _ _ = true; decide +kernel) | rfl | with_unfolding_all rfl)) (fun _ _ _ _ _ => (dg_name (i := 6) S.nd rfl (by first | exact .inl rfl | exact .inr rfl))) (fun _ _ _ _ _ => dts_nil) (fun _ _ _ _ _ => (de_add (de_var (pv 4)) (de_var (pv 6)))) (by decide)))
    (dss_one (ds_expr (de_append (de_var (pv 2)) (da_cons (de_ix (de_frz (dn_lc (by rfl) S.nd (di_seq (de_var (pv 5))) (blkOk_by (own := [("one", 7)]) (by first | (show blkC ["pot", "many", "found", "k", "word", "some", "sign", "one"] (defScope s__law_names) _ _ = true; decide +kernel) | rfl | with_unfolding_all rfl)) (fun _ _ _ _ _ => (dg_name (i := 7) S.nd rfl (by first | exact .inl rfl | exact .inr rfl))) (fun _ _ _ _ _ => (dts_one (dt_w (dw_and (dt_nin (u65 hr) (de_var (pv 7)) (dk_look (de_var (pv 2))) rfl) (dw_and1 (dt_val (de_call (h__law_is_name.mono (by decide)) hr (by rfl) tk0 (da_cons (de_var (pv 7)) da_nil) (len_cons len_nil)))))))) (fun _ _ _ _ _ => (de_var (pv 7))) (by decide))) de_int fun _ _ => rfl) da_nil)))))))
    (dss_one (ds_ret (de_fz (de_var (pv 2))))))))

theorem sc__law_spec : FnScope (["pot", "most", "names", "thick", "pair"] : List Str) (["pot", "most"] : List Str) (defScope s__law_spec) := ⟨rfl, rfl, rfl, by decide +kernel, rfl, by decide +kernel, by decide +kernel⟩
theorem ok__law_spec {f : Addr} {fd : FuncData} (fc : Fc K mg cl wa) (F : FunD K "_law_spec" "_law_spec" (defArgs s__law_spec) (defBody s__law_spec) (defScope s__law_spec) [] [] f fd) (hm : mg "_law_spec" = some (.ref f)) (h__law_draw : Gf P w K mg base cl 1 "_law_draw" 2 f__law_draw) (h__law_names : Gf P w K mg base cl 4 "_law_names" 2 f__law_names) (h__law_pairs : Gf P w K mg base cl 1 "_law_pairs" 1 f__law_pairs) : Gf P w K mg base cl 5 "_law_spec" 2 f__law_spec :=
  have S := sc__law_spec
  (gf_of (k := 4) (N := ["pot", "most", "names", "thick", "pair"]) (ps := ["pot", "most"]) (g := g__law_spec) F S hm (F.bindsN fun _ _ _ _ _ _ us hl => match us, hl with | [_, _], _ => rfl) fun cdv A outer s H E n hr =>
    (dss_cons (ds_asg (i := 2) S.nd rfl (by first | exact .inl rfl | exact .inr rfl) (de_call (h__law_names.mono (by decide)) hr (by rfl) (takes_of rfl rfl rfl rfl) (da_cons (de_var (pv 0)) (da_cons (de_add de_int (de_call (h__law_draw.mono (by decide)) hr (by rfl) (takes_of rfl rfl rfl rfl) (da_cons (de_var (pv 0)) (da_cons (de_var (pv 1)) da_nil)) (len_cons (len_cons len_nil)))) da_nil)) (len_cons (len_cons len_nil))))
    (dss_cons (ds_asg (i := 3) S.nd rfl (by first | exact .inl rfl | exact .inr rfl) (de_add de_int (de_call (h__law_draw.mono (by decide)) hr (by rfl) (takes_of rfl rfl rfl rfl) (da_cons (de_var (pv 0)) (da_cons de_int da_nil)) (len_cons (len_cons len_nil)))))
    (dss_one (ds_ret (de_frz (dn_lst (da_cons (de_var (pv 2)) (da_cons (de_frz (dn_lc (by rfl) S.nd (di_seq (de_call (h__law_pairs.mono (by decide)) hr (by rfl) (takes_of rfl rfl rfl rfl) (da_cons (de_len (by rfl) fc.n_len (dk_look (de_var (pv 2)))) da_nil) (len_cons len_nil))) (blkOk_by (own := [("pair", 4)]) (by first | (show blkC ["pot", "most", "names", "thick", "pair"] (defScope s__law_spec) _ _ = true; decide +kernel) | rfl | with_unfolding_all rfl)) (fun _ _ _ _ _ => (dg_name (i := 4) S.nd rfl (by first | exact .inl rfl | exact .inr rfl))) (fun _ _ _ _ _ => (dts_one (dt_eq (u64 hr) (de_call (h__law_draw.mono (by decide)) hr (by rfl) tk0 (da_cons (de_var (pv 0)) (da_cons (de_var (pv 3)) da_nil)) (len_cons (len_cons len_nil))) de_int))) (fun _ _ _ _ _ => (de_var (pv 4))) (by decide))) da_nil)) (len_cons (len_cons len_nil)))))))))

theorem sc__law_fault : FnScope (["spec", "pair", "names", "pairs", "one", "name"] : List Str) (["spec"] : List Str) (defScope s__law_fault) := ⟨rfl, rfl, rfl, by decide +kernel, rfl, by decide +kernel, by decide +kernel⟩
theorem ok__law_fault {f : Addr} {fd : FuncData} (fc : Fc K mg cl wa) (F : FunD K "_law_fault" "_law_fault" (defArgs s__law_fault) (defBody s__law_fault) (defScope s__law_fault) [] [] f fd) (hm : mg "_law_fault" = some (.ref f)) (h__law_is_name : Gf P w K mg base cl 1 "_law_is_name" 1 f__law_is_name) (h__law_within : Gf P w K mg base cl 1 "_law_within" 3 f__law_within) : Gf P w K mg base cl 2 "_law_fault" 1 f__law_fault :=
  have S := sc__law_fault
  (gf_of (k := 1) (N := ["spec", "pair", "names", "pairs", "one", "name"]) (ps := ["spec"]) (g := g__law_fault) F S hm (F.bindsN fun _ _ _ _ _ _ us hl => match us, hl with | [_], _ => rfl) fun cdv A outer s H E n hr =>
    (dss_cons (ds_tg (dg_lst rfl (dgs_cons (i := 2) S.nd rfl (by first | exact .inl rfl | exact .inr rfl) (dgs_cons (i := 3) S.nd rfl (by first | exact .inl rfl | exact .inr rfl) dgs_nil))) (de_var (pv 0)))
    (dss_cons (ds_if (dt_w (dw_or (dt_not (dt_cmp (de_isi2 (y := .list) (z := .tuple) fc.hC (by rfl) fc.n_isinstance (dk_look (de_var (pv 2))) (pe_bltn (by rfl) fc.n_list (by decide +kernel) rfl) (pe_bltn (by rfl) fc.n_tuple (by decide +kernel) rfl)))) (dw_or (dt_not (dt_chain op_le op_le pur_int pur_int de_int (de_len (by rfl) fc.n_len (dk_look (de_var (pv 2)))) de_int)) (dw_or1 (dt_ne (u64 hr) (de_frz (dn_lc (by rfl) S.nd (di_seq (de_var (pv 2))) (blkOk_by (own := [("one", 4)]) (by first | (show blkC ["spec", "pair", "names", "pairs", "one", "name"] (defScope s__law_fault) _ _ = true; decide +kernel) | rfl | with_unfolding_all rfl)) (fun _ _ _ _ _ => (dg_name (i := 4) S.nd rfl (by first | exact .inl rfl | exact .inr rfl))) (fun _ _ _ _ _ => (dts_one (dt_not (dt_val (de_call (h__law_is_name.mono (by decide)) hr (by rfl) tk0 (da_cons (de_var (pv 4)) da_nil) (len_cons len_nil)))))) (fun _ _ _ _ _ => (de_var (pv 4))) (by decide))) (de_frz (dn_lst da_nil len_nil))))))) (dss_one (ds_ret de_str)) dss_nil)
    (dss_cons (ds_if (dt_lt (u0 hr) (de_lenDict (by rfl) (u2 hr) (by rfl) fc.n_len (by rfl) fc.n_dict (dk_look (de_frz (dn_lc (by rfl) S.nd (di_seq (de_var (pv 2))) (blkOk_by (own := [("name", 5)]) (by first | (show blkC ["spec", "pair", "names", "pairs", "one", "name"] (defScope s__law_fault) _ _ = true; decide +kernel) | rfl | with_unfolding_all rfl)) (fun _ _ _ _ _ => (dg_name (i := 5) S.nd rfl (by first | exact .inl rfl | exact .inr rfl))) (fun _ _ _ _ _ => dts_nil) (fun _ _ _ _ _ => (de_tup (da_cons (de_var (pv 5)) (da_cons de_int da_nil)) (len_cons (len_cons len_nil)))) (by decide))))) (de_len (by rfl) fc.n_len (dk_look (de_var (pv 2))))) (dss_one (ds_ret de_str)) dss_nil)
    (dss_cons (ds_if (dt_not (dt_cmp (de_isi2 (y := .list) (z := .tuple) fc.hC (by rfl) fc.n_isinstance (dk_look (de_var (pv 3))) (pe_bltn (by rfl) fc.n_list (by decide +kernel) rfl) (pe_bltn (by rfl) fc.n_tuple (by decide +kernel) rfl)))) (dss_one (ds_ret de_str)) dss_nil)
    (dss_cons (ds_for (passes_of rfl) rfl (di_seq (de_var (pv 3))) (dg_name (i := 1) S.nd rfl (by first | exact .inl rfl | exact .inr rfl)) (dss_cons (ds_if (dt_w (dw_or (dt_not (dt_cmp (de_isi (y := .tuple) fc.hC (by rfl) fc.n_isinstance (dk_look (de_var (pv 1))) (pe_bltn (by rfl) fc.n_tuple (by decide +kernel) rfl)))) (dw_or (dt_ne (u64 hr) (de_len (by rfl) fc.n_len (dk_look (de_var (pv 1)))) de_int) (dw_or1 (dt_not (dt_val (de_call (h__law_within.mono (by decide)) hr (by rfl) (takes_of rfl rfl rfl rfl) (da_cons (de_ix (de_var (pv 1)) de_int fun _ _ => rfl) (da_cons de_int (da_cons (de_sub (de_len (by rfl) fc.n_len (dk_look (de_var (pv 2)))) de_int) da_nil))) (len_cons (len_cons (len_cons len_nil)))))))))) (dss_one (ds_ret de_str)) dss_nil)
    (dss_one (ds_if (dt_not (dt_val (de_call (h__law_within.mono (by decide)) hr (by rfl) (takes_of rfl rfl rfl rfl) (da_cons (de_ix (de_var (pv 1)) de_int fun _ _ => rfl) (da_cons (de_add (de_ix (de_var (pv 1)) de_int fun _ _ => rfl) de_int) (da_cons (de_sub (de_len (by rfl) fc.n_len (dk_look (de_var (pv 2)))) de_int) da_nil))) (len_cons (len_cons (len_cons len_nil)))))) (dss_one (ds_ret de_str)) dss_nil))))
    (dss_one (ds_ret (de_if (dt_lt (u0 hr) (de_lenDict (by rfl) (u2 hr) (by rfl) fc.n_len (by rfl) fc.n_dict (dk_look (de_frz (dn_lc (by rfl) S.nd (di_seq (de_var (pv 3))) (blkOk_by (own := [("pair", 1)]) (by first | (show blkC ["spec", "pair", "names", "pairs", "one", "name"] (defScope s__law_fault) _ _ = true; decide +kernel) | rfl | with_unfolding_all rfl)) (fun _ _ _ _ _ => (dg_name (i := 1) S.nd rfl (by first | exact .inl rfl | exact .inr rfl))) (fun _ _ _ _ _ => dts_nil) (fun _ _ _ _ _ => (de_tup (da_cons (de_var (pv 1)) (da_cons de_int da_nil)) (len_cons (len_cons len_nil)))) (by decide))))) (de_len (by rfl) fc.n_len (dk_look (de_var (pv 3))))) de_str de_non)))))))))

theorem sc_LineReader_init : FnScope (["self"] : List Str) (["self"] : List Str) (defScope s_LineReader_init) := ⟨rfl, rfl, rfl, by decide +kernel, rfl, by decide +kernel, by decide +kernel⟩
theorem ok_LineReader_init {f : Addr} {fd : FuncData} (fc : Fc K mg cl wa) (F : FunD K "__init__" "LineReader.__init__" (defArgs s_LineReader_init) (defBody s_LineReader_init) (defScope s_LineReader_init) [] [] f fd) (M : Mk K (cl 1) f) (h0 : Lv cl 1) (hm : mg "LineReader" = some (.ref (cl 1))) : Gi P w K mg base cl 1 "LineReader" 1 1 f_LineReader_init :=
  have S := sc_LineReader_init
  ⟨f, fd, ["self"], fn_body (k := 0) (N := ["self"]) (ps := ["self"]) (g := g_LineReader_init) F S fun cdv A outer s H E n hr =>
    (dss_cons (ds_setA fc.hC fc.at_read_spots (de_var (pv 0)) (de_reg (dn_lst da_nil len_nil)))
    (dss_cons (ds_setA fc.hC fc.at_read_roads (de_var (pv 0)) (de_reg (dn_lst da_nil len_nil)))
    (dss_one (ds_setA fc.hC fc.at_ended (de_var (pv 0)) de_bl)))), ⟨M, h0⟩, hm, F.bindsN fun _ _ _ _ _ _ us hl => match us, hl with | [_], _ => rfl⟩

theorem sc_LineReader_takes : FnScope (["self", "words", "word"] : List Str) (["self", "words"] : List Str) (defScope s_LineReader_takes) := ⟨rfl, rfl, rfl, by decide +kernel, rfl, by decide +kernel, by decide +kernel⟩
theorem ok_LineReader_takes {f : Addr} {fd : FuncData} (fc : Fc K mg cl wa) (F : FunD K "takes" "LineReader.takes" (defArgs s_LineReader_takes) (defBody s_LineReader_takes) (defScope s_LineReader_takes) [] [] f fd) (me : Meth K (cl 1) "takes" f) (h0 : Lv cl 1) (h_is_name : Gf P w K mg base cl 1 "is_name" 1 f_is_name) : Gm P w K mg base cl 2 1 "takes" 2 f_LineReader_takes :=
  have S := sc_LineReader_takes
  ⟨f, fd, ["self", "words"], fn_body (k := 1) (N := ["self", "words", "word"]) (ps := ["self", "words"]) (g := g_LineReader_takes) F S fun cdv A outer s H E n hr =>
    (dss_cons (ds_if (dt_val (de_attr fc.hC (fc.at_ended) (dk_look (de_var (pv 0))) rfl)) (dss_one (ds_ret de_bl)) dss_nil)
    (dss_cons (ds_if (dt_eq (u64 hr) (de_ix (de_var (pv 1)) de_int fun _ _ => rfl) de_str) (dss_cons (ds_expr (de_extend (de_attr fc.hC (fc.at_read_spots) (dk_look (de_var (pv 0))) rfl) (da_cons (de_sl (de_var (pv 1)) (do_some de_int) do_none) da_nil)))
    (dss_one (ds_ret (de_and (de_eq (u64 hr) (de_len (by rfl) fc.n_len (dk_look (de_var (pv 1)))) de_int) (de_and (de_tst (de_call (h_is_name.mono (by decide)) hr (by rfl) (takes_of rfl rfl rfl rfl) (da_cons (de_ix (de_var (pv 1)) de_int fun _ _ => rfl) da_nil) (len_cons len_nil))) (de_one (de_eq (u64 hr) (de_len (by rfl) fc.n_len (dk_look (de_attr fc.hC (fc.at_read_roads) (dk_look (de_var (pv 0))) rfl))) de_int))))))) dss_nil)
    (dss_cons (ds_if (dt_eq (u64 hr) (de_ix (de_var (pv 1)) de_int fun _ _ => rfl) de_str) (dss_cons (ds_expr (de_append (de_attr fc.hC (fc.at_read_roads) (dk_look (de_var (pv 0))) rfl) (da_cons (de_sl (de_var (pv 1)) (do_some de_int) do_none) da_nil)))
    (dss_one (ds_ret (de_and (de_eq (u64 hr) (de_len (by rfl) fc.n_len (dk_look (de_var (pv 1)))) de_int) (de_one (de_tst (de_all (by rfl) (by rfl) fc.n_all (dk_look (de_frz (dn_lc (by rfl) S.nd (di_seq (de_sl (de_var (pv 1)) (do_some de_int) do_none)) (blkOk_by (own := [("word", 2)]) (by first | (show blkC ["self", "words", "word"] (defScope s_LineReader_takes) _ _ = true; decide +kernel) | rfl | with_unfolding_all rfl)) (fun _ _ _ _ _ => (dg_name (i := 2) S.nd rfl (by first | exact .inl rfl | exact .inr rfl))) (fun _ _ _ _ _ => dts_nil) (fun _ _ _ _ _ => (de_in (u65 hr) (de_var (pv 2)) (dk_look (de_attr fc.hC (fc.at_read_spots) (dk_look (de_var (pv 0))) rfl)) rfl)) (by decide))))))))))) dss_nil)
    (dss_cons (ds_setA fc.hC fc.at_ended (de_var (pv 0)) (de_eq (u64 hr) (de_var (pv 1)) (de_frz (dn_lst (da_cons de_str da_nil) (len_cons len_nil)))))
    (dss_one (ds_ret (de_and (de_tst (de_attr fc.hC (fc.at_ended) (dk_look (de_var (pv 0))) rfl)) (de_one (de_gt (de_len (by rfl) fc.n_len (dk_look (de_attr fc.hC (fc.at_read_spots) (dk_look (de_var (pv 0))) rfl))) de_int))))))))), me, (fc.hC _ h0).cl, F.bindsN fun _ _ _ _ _ _ us hl => match us, hl with | [_, _], _ => rfl⟩

theorem sc_read_web : FnScope (["text", "lines", "reader", "spots", "pairs", "at", "line", "words", "row", "name"] : List Str) (["text"] : List Str) (defScope s_read_web) := ⟨rfl, rfl, rfl, by decide +kernel, rfl, by decide +kernel, by decide +kernel⟩
theorem ok_read_web {f : Addr} {fd : FuncData} (fc : Fc K mg cl wa) (F : FunD K "read_web" "read_web" (defArgs s_read_web) (defBody s_read_web) (defScope s_read_web) [] [] f fd) (hm : mg "read_web" = some (.ref f)) (h_LineReader_init : Gi P w K mg base cl 1 "LineReader" 1 1 f_LineReader_init) (h_LineReader_takes : Gm P w K mg base cl 2 1 "takes" 2 f_LineReader_takes) (h_Web_init : Gi P w K mg base cl 4 "Web" 0 3 f_Web_init) (e_BadText : Ge P w K mg base cl "BadText" 1002 ["line", "what"]) : Gf P w K mg base cl 6 "read_web" 1 f_read_web :=
  have S := sc_read_web
  Gf.gc (gf_of (k := 5) (N := ["text", "lines", "reader", "spots", "pairs", "at", "line", "words", "row", "name"]) (ps := ["text"]) (g := g_read_web) F S hm (F.bindsN fun _ _ _ _ _ _ us hl => match us, hl with | [_], _ => rfl) fun cdv A outer s H E n hr =>
    (dss_cons (ds_if (dt_not (dt_cmp (de_isi (y := .str) fc.hC (by rfl) fc.n_isinstance (dk_look (de_var (pv 0))) (pe_bltn (by rfl) fc.n_str (by decide +kernel) rfl)))) (dss_one (ds_raise (k := 4) e_BadText rfl (takes_of rfl rfl rfl rfl) hr (by rfl) (da_cons de_int (da_cons de_str da_nil)))) dss_nil)
    (dss_cons (ds_asg (i := 1) S.nd rfl (by first | exact .inl rfl | exact .inr rfl) (de_split (de_var (pv 0)) de_str))
    (dss_cons (ds_asg (i := 2) S.nd rfl (by first | exact .inl rfl | exact .inr rfl) (de_make0 (h_LineReader_init.mono (by decide)) hr (by rfl) (takes_of rfl rfl rfl rfl)))
    (dss_cons (ds_for (passes_of rfl) rfl (di_enumQ (by rfl) fc.n_enumerate (de_var (pv 1))) (dg_tup rfl (dgs_cons (i := 5) S.nd rfl (by first | exact .inl rfl | exact .inr rfl) (dgs_cons (i := 6) S.nd rfl (by first | exact .inl rfl | exact .inr rfl) dgs_nil))) (dss_cons (ds_asg (i := 7) S.nd rfl (by first | exact .inl rfl | exact .inr rfl) (de_split (de_var (pv 6)) de_str))
    (dss_one (ds_if (dt_eq (u64 hr) (de_var (pv 5)) (de_sub (de_len (by rfl) fc.n_len (dk_look (de_var (pv 1)))) de_int)) (dss_one (ds_if (dt_ne (u64 hr) (de_var (pv 6)) de_str) (dss_one (ds_raise (k := 4) e_BadText rfl (takes_of rfl rfl rfl rfl) hr (by rfl) (da_cons (de_var (pv 5)) (da_cons de_str da_nil)))) dss_nil)) (dss_one (ds_if (dt_in (u65 hr) de_str (dk_look (de_var (pv 7))) rfl) (dss_one (ds_raise (k := 4) e_BadText rfl (takes_of rfl rfl rfl rfl) hr (by rfl) (da_cons (de_var (pv 5)) (da_cons de_str da_nil)))) (dss_one (ds_if (dt_not (dt_val (de_meth (pl := _) (h_LineReader_takes.mono (by decide)) hr (takes_of rfl rfl rfl rfl) (de_var (pv 2)) (da_cons (de_var (pv 7)) da_nil) (len_cons len_nil)))) (dss_one (ds_raise (k := 4) e_BadText rfl (takes_of rfl rfl rfl rfl) hr (by rfl) (da_cons (de_var (pv 5)) (da_cons de_str da_nil)))) dss_nil))))))))
    (dss_cons (ds_if (dt_not (dt_val (de_attr fc.hC (fc.at_ended) (dk_look (de_var (pv 2))) rfl))) (dss_one (ds_raise (k := 4) e_BadText rfl (takes_of rfl rfl rfl rfl) hr (by rfl) (da_cons (de_sub (de_len (by rfl) fc.n_len (dk_look (de_var (pv 1)))) de_int) (da_cons de_str da_nil)))) dss_nil)
    (dss_cons (ds_asg (i := 3) S.nd rfl (by first | exact .inl rfl | exact .inr rfl) (de_fz (de_attr fc.hC (fc.at_read_spots) (dk_look (de_var (pv 2))) rfl)))
    (dss_cons (ds_ownF (ds_lc (i := 4) (by rfl) S.nd rfl rfl rfl (di_seq (de_fz (de_attr fc.hC (fc.at_read_roads) (dk_look (de_var (pv 2))) rfl))) (blkOk_by (own := [("row", 8)]) (by first | (show blkC ["text", "lines", "reader", "spots", "pairs", "at", "line", "words", "row", "name"] (defScope s_read_web) _ _ = true; decide +kernel) | rfl | with_unfolding_all rfl)) (fun _ _ _ _ _ => (dg_name (i := 8) S.nd rfl (by first | exact .inl rfl | exact .inr rfl))) (fun _ _ _ _ _ => dts_nil) (fun _ _ _ _ _ => (de_tuple (by rfl) fc.n_tuple (dk_look (de_frz (dn_sorted (u64 hr) (by rfl) fc.n_sorted (dk_look (de_frz (dn_lc (by rfl) S.nd (di_seq (de_var (pv 8))) (blkOk_by (own := [("name", 9)]) (by first | (show blkC ["text", "lines", "reader", "spots", "pairs", "at", "line", "words", "row", "name"] (defScope s_read_web) _ _ = true; decide +kernel) | rfl | with_unfolding_all rfl)) (fun _ _ _ _ _ => (dg_name (i := 9) S.nd rfl (by first | exact .inl rfl | exact .inr rfl))) (fun _ _ _ _ _ => dts_nil) (fun _ _ _ _ _ => (de_index (u65 hr) (de_var (pv 3)) (de_var (pv 9)))) (by decide))))))))) (by decide)))
    (dss_one (ds_ret (de_fz (de_make (h_Web_init.mono (by decide)) hr (by rfl) (takes_of rfl rfl rfl rfl) (da_cons (de_var (pv 3)) (da_cons (de_var (pv 4)) da_nil)) (len_cons (len_cons len_nil))))))))))))))

theorem sc__law_lines : FnScope (["spec", "name", "a", "b"] : List Str) (["spec"] : List Str) (defScope s__law_lines) := ⟨rfl, rfl, rfl, by decide +kernel, rfl, by decide +kernel, by decide +kernel⟩
theorem ok__law_lines {f : Addr} {fd : FuncData} (fc : Fc K mg cl wa) (F : FunD K "_law_lines" "_law_lines" (defArgs s__law_lines) (defBody s__law_lines) (defScope s__law_lines) [] [] f fd) (hm : mg "_law_lines" = some (.ref f)) : Gf P w K mg base cl 1 "_law_lines" 1 f__law_lines :=
  have S := sc__law_lines
  (gf_of (k := 0) (N := ["spec", "name", "a", "b"]) (ps := ["spec"]) (g := g__law_lines) F S hm (F.bindsN fun _ _ _ _ _ _ us hl => match us, hl with | [_], _ => rfl) fun cdv A outer s H E n hr =>
    (dss_one (ds_ret (de_add (de_add (de_frz (dn_lc (by rfl) S.nd (di_seq (de_ix (de_var (pv 0)) de_int fun _ _ => rfl)) (blkOk_by (own := [("name", 1)]) (by first | (show blkC ["spec", "name", "a", "b"] (defScope s__law_lines) _ _ = true; decide +kernel) | rfl | with_unfolding_all rfl)) (fun _ _ _ _ _ => (dg_name (i := 1) S.nd rfl (by first | exact .inl rfl | exact .inr rfl))) (fun _ _ _ _ _ => dts_nil) (fun _ _ _ _ _ => (de_add de_str (de_var (pv 1)))) (by decide))) (de_frz (dn_lc (by rfl) S.nd (di_seq (de_frz (dn_sorted (u64 hr) (by rfl) fc.n_sorted (dk_look (de_ix (de_var (pv 0)) de_int fun _ _ => rfl))))) (blkOk_by (own := [("a", 2), ("b", 3)]) (by first | (show blkC ["spec", "name", "a", "b"] (defScope s__law_lines) _ _ = true; decide +kernel) | rfl | with_unfolding_all rfl)) (fun _ _ _ _ _ => (dg_tup rfl (dgs_cons (i := 2) S.nd rfl (by first | exact .inl rfl | exact .inr rfl) (dgs_cons (i := 3) S.nd rfl (by first | exact .inl rfl | exact .inr rfl) dgs_nil)))) (fun _ _ _ _ _ => dts_nil) (fun _ _ _ _ _ => (de_add (de_add (de_add de_str (de_ix (de_ix (de_var (pv 0)) de_int fun _ _ => rfl) (de_var (pv 2)) fun _ _ => rfl)) de_str) (de_ix (de_ix (de_var (pv 0)) de_int fun _ _ => rfl) (de_var (pv 3)) fun _ _ => rfl))) (by decide)))) (de_frz (dn_lst (da_cons de_str da_nil) (len_cons len_nil)))))))

theorem sc__law_reader : FnScope (["text", "rows", "names", "roads", "ended", "at", "line", "words", "right", "one", "other", "word"] : List Str) (["text"] : List Str) (defScope s__law_reader) := ⟨rfl, rfl, rfl, by decide +kernel, rfl, by decide +kernel, by decide +kernel⟩
theorem ok__law_reader {f : Addr} {fd : FuncData} (fc : Fc K mg cl wa) (F : FunD K "_law_reader" "_law_reader" (defArgs s__law_reader) (defBody s__law_reader) (defScope s__law_reader) [] [] f fd) (hm : mg "_law_reader" = some (.ref f)) (h__law_is_name : Gf P w K mg base cl 1 "_law_is_name" 1 f__law_is_name) : Gf P w K mg base cl 2 "_law_reader" 1 f__law_reader :=
  have S := sc__law_reader
  (gf_of (k := 1) (N := ["text", "rows", "names", "roads", "ended", "at", "line", "words", "right", "one", "other", "word"]) (ps := ["text"]) (g := g__law_reader) F S hm (F.bindsN fun _ _ _ _ _ _ us hl => match us, hl with | [_], _ => rfl) fun cdv A outer s H E n hr =>
    (dss_cons (ds_tg (dg_tup rfl (dgs_cons (i := 1) S.nd rfl (by first | exact .inl rfl | exact .inr rfl) (dgs_cons (i := 2) S.nd rfl (by first | exact .inl rfl | exact .inr rfl) (dgs_cons (i := 3) S.nd rfl (by first | exact .inl rfl | exact .inr rfl) (dgs_cons (i := 4) S.nd rfl (by first | exact .inl rfl | exact .inr rfl) dgs_nil))))) (de_tup (da_cons (de_split (de_var (pv 0)) de_str) (da_cons (de_frz (dn_lst da_nil len_nil)) (da_cons (de_frz (dn_lst da_nil len_nil)) (da_cons de_bl da_nil)))) (len_cons (len_cons (len_cons (len_cons len_nil))))))
    (dss_cons (ds_for (passes_of rfl) rfl (di_enumQ (by rfl) fc.n_enumerate (de_sl (de_var (pv 1)) do_none (do_some (de_neg de_int)))) (dg_tup rfl (dgs_cons (i := 5) S.nd rfl (by first | exact .inl rfl | exact .inr rfl) (dgs_cons (i := 6) S.nd rfl (by first | exact .inl rfl | exact .inr rfl) dgs_nil))) (dss_cons (ds_asg (i := 7) S.nd rfl (by first | exact .inl rfl | exact .inr rfl) (de_split (de_var (pv 6)) de_str))
    (dss_cons (ds_if (dt_in (u65 hr) de_str (dk_look (de_var (pv 7))) rfl) (dss_one (ds_ret (de_tup (da_cons de_str (da_cons (de_var (pv 5)) (da_cons de_str da_nil))) (len_cons (len_cons (len_cons len_nil)))))) dss_nil)
    (dss_cons (ds_asg (i := 8) S.nd rfl (by first | exact .inl rfl | exact .inr rfl) (de_and (de_eq (u64 hr) (de_ix (de_var (pv 7)) de_int fun _ _ => rfl) de_str) (de_and (de_eq (u64 hr) (de_len (by rfl) fc.n_len (dk_look (de_var (pv 7)))) de_int) (de_and (de_eq (u64 hr) (de_var (pv 3)) (de_frz (dn_lst da_nil len_nil))) (de_one (de_tst (de_call (h__law_is_name.mono (by decide)) hr (by rfl) (takes_of rfl rfl rfl rfl) (da_cons (de_ix (de_var (pv 7)) de_int fun _ _ => rfl) da_nil) (len_cons len_nil))))))))
    (dss_cons (ds_asg (i := 8) S.nd rfl (by first | exact .inl rfl | exact .inr rfl) (de_or (de_tst (de_var (pv 8))) (de_one (de_and (de_eq (u64 hr) (de_ix (de_var (pv 7)) de_int fun _ _ => rfl) de_str) (de_and (de_eq (u64 hr) (de_len (by rfl) fc.n_len (dk_look (de_var (pv 7)))) de_int) (de_one (de_eq (u64 hr) (de_frz (dn_lc (by rfl) S.nd (di_seq (de_sl (de_var (pv 7)) (do_some de_int) do_none)) (blkOk_by (own := [("word", 11)]) (by first | (show blkC ["text", "rows", "names", "roads", "ended", "at", "line", "words", "right", "one", "other", "word"] (defScope s__law_reader) _ _ = true; decide +kernel) | rfl | with_unfolding_all rfl)) (fun _ _ _ _ _ => (dg_name (i := 11) S.nd rfl (by first | exact .inl rfl | exact .inr rfl))) (fun _ _ _ _ _ => (dts_one (dt_nin (u65 hr) (de_var (pv 11)) (dk_look (de_var (pv 2))) rfl))) (fun _ _ _ _ _ => (de_var (pv 11))) (by decide))) (de_frz (dn_lst da_nil len_nil)))))))))
    (dss_cons (ds_if (dt_w (dw_or (dt_val (de_var (pv 4))) (dw_or1 (dt_not (dt_w (dw_or (dt_val (de_var (pv 8))) (dw_or1 (dt_w (dw_and (dt_eq (u64 hr) (de_var (pv 7)) (de_frz (dn_lst (da_cons de_str da_nil) (len_cons len_nil)))) (dw_and1 (dt_ne (u64 hr) (de_var (pv 2)) (de_frz (dn_lst da_nil len_nil))))))))))))) (dss_one (ds_ret (de_tup (da_cons de_str (da_cons (de_var (pv 5)) (da_cons de_str da_nil))) (len_cons (len_cons (len_cons len_nil)))))) dss_nil)
    (dss_cons (ds_asg (i := 4) S.nd rfl (by first | exact .inl rfl | exact .inr rfl) (de_eq (u64 hr) (de_var (pv 7)) (de_frz (dn_lst (da_cons de_str da_nil) (len_cons len_nil)))))
    (dss_cons (ds_asg (i := 2) S.nd rfl (by first | exact .inl rfl | exact .inr rfl) (de_add (de_var (pv 2)) (de_if (dt_eq (u64 hr) (de_ix (de_var (pv 7)) de_int fun _ _ => rfl) de_str) (de_sl (de_var (pv 7)) (do_some de_int) do_none) (de_frz (dn_lst da_nil len_nil)))))
    (dss_one (ds_asg (i := 3) S.nd rfl (by first | exact .inl rfl | exact .inr rfl) (de_add (de_var (pv 3)) (de_if (dt_eq (u64 hr) (de_ix (de_var (pv 7)) de_int fun _ _ => rfl) de_str) (de_frz (dn_lst (da_cons (de_sl (de_var (pv 7)) (do_some de_int) do_none) da_nil) (len_cons len_nil))) (de_frz (dn_lst da_nil len_nil))))))))))))))
    (dss_cons (ds_if (dt_ne (u64 hr) (de_ix (de_var (pv 1)) (de_neg de_int) fun _ _ => rfl) de_str) (dss_one (ds_ret (de_tup (da_cons de_str (da_cons (de_sub (de_len (by rfl) fc.n_len (dk_look (de_var (pv 1)))) de_int) (da_cons de_str da_nil))) (len_cons (len_cons (len_cons len_nil)))))) dss_nil)
    (dss_cons (ds_if (dt_not (dt_val (de_var (pv 4)))) (dss_one (ds_ret (de_tup (da_cons de_str (da_cons (de_sub (de_len (by rfl) fc.n_len (dk_look (de_var (pv 1)))) de_int) (da_cons de_str da_nil))) (len_cons (len_cons (len_cons len_nil)))))) dss_nil)
    (dss_one (ds_ret (de_tup (da_cons de_str (da_cons (de_frz (dn_lst (da_cons (de_tuple (by rfl) fc.n_tuple (dk_look (de_var (pv 2)))) (da_cons (de_frz (dn_lc (by rfl) S.nd (di_seq (de_var (pv 3))) (blkOk_by (own := [("one", 9), ("other", 10)]) (by first | (show blkC ["text", "rows", "names", "roads", "ended", "at", "line", "words", "right", "one", "other", "word"] (defScope s__law_reader) _ _ = true; decide +kernel) | rfl | with_unfolding_all rfl)) (fun _ _ _ _ _ => (dg_lst rfl (dgs_cons (i := 9) S.nd rfl (by first | exact .inl rfl | exact .inr rfl) (dgs_cons (i := 10) S.nd rfl (by first | exact .inl rfl | exact .inr rfl) dgs_nil)))) (fun _ _ _ _ _ => dts_nil) (fun _ _ _ _ _ => (de_tuple (by rfl) fc.n_tuple (dk_look (de_frz (dn_sorted (u64 hr) (by rfl) fc.n_sorted (dk_look (de_frz (dn_lst (da_cons (de_index (u65 hr) (de_var (pv 2)) (de_var (pv 9))) (da_cons (de_index (u65 hr) (de_var (pv 2)) (de_var (pv 10))) da_nil)) (len_cons (len_cons len_nil)))))))))) (by decide))) da_nil)) (len_cons (len_cons len_nil)))) da_nil)) (len_cons (len_cons len_nil))))))))))

theorem sc__law_bent_line : FnScope (["pot", "line", "names", "words", "more", "at", "way", "cut"] : List Str) (["pot", "line", "names"] : List Str) (defScope s__law_bent_line) := ⟨rfl, rfl, rfl, by decide +kernel, rfl, by decide +kernel, by decide +kernel⟩
theorem ok__law_bent_line {f : Addr} {fd : FuncData} (fc : Fc K mg cl wa) (F : FunD K "_law_bent_line" "_law_bent_line" (defArgs s__law_bent_line) (defBody s__law_bent_line) (defScope s__law_bent_line) [] [] f fd) (hm : mg "_law_bent_line" = some (.ref f)) (h__law_draw : Gf P w K mg base cl 1 "_law_draw" 2 f__law_draw) (h__law_pick : Gf P w K mg base cl 2 "_law_pick" 2 f__law_pick) : Gf P w K mg base cl 3 "_law_bent_line" 3 f__law_bent_line :=
  have S := sc__law_bent_line
  (gf_of (k := 2) (N := ["pot", "line", "names", "words", "more", "at", "way", "cut"]) (ps := ["pot", "line", "names"]) (g := g__law_bent_line) F S hm (F.bindsN fun _ _ _ _ _ _ us hl => match us, hl with | [_, _, _], _ => rfl) fun cdv A outer s H E n hr =>
    (dss_cons (ds_asg (i := 3) S.nd rfl (by first | exact .inl rfl | exact .inr rfl) (de_split (de_var (pv 1)) de_str))
    (dss_cons (ds_par (i := 5) (j := 6) rfl S.nd rfl rfl (by decide) rfl rfl (de_call (h__law_draw.mono (by decide)) hr (by rfl) (takes_of rfl rfl rfl rfl) (da_cons (de_var (pv 0)) (da_cons (de_len (by rfl) fc.n_len (dk_look (de_var (pv 3)))) da_nil)) (len_cons (len_cons len_nil))) (de_call (h__law_draw.mono (by decide)) hr (by rfl) (takes_of rfl rfl rfl rfl) (da_cons (de_var (pv 0)) (da_cons de_int da_nil)) (len_cons (len_cons len_nil))))
    (dss_cons (ds_asg (i := 4) S.nd rfl (by first | exact .inl rfl | exact .inr rfl) (de_call (h__law_pick.mono (by decide)) hr (by rfl) (takes_of rfl rfl rfl rfl) (da_cons (de_var (pv 0)) (da_cons (de_add (de_var (pv 2)) (de_frz (dn_lst (da_cons de_str (da_cons de_str (da_cons de_str (da_cons de_str (da_cons de_str (da_cons de_str (da_cons de_str da_nil))))))) (len_cons (len_cons (len_cons (len_cons (len_cons (len_cons (len_cons len_nil)))))))))) da_nil)) (len_cons (len_cons len_nil))))
    (dss_cons (ds_if (dt_lt (u0 hr) (de_var (pv 6)) de_int) (dss_one (ds_asg (i := 3) S.nd rfl (by first | exact .inl rfl | exact .inr rfl) (de_add (de_add (de_sl (de_var (pv 3)) do_none (do_some (de_var (pv 5)))) (de_frz (dn_lst (da_cons (de_var (pv 4)) da_nil) (len_cons len_nil)))) (de_sl (de_var (pv 3)) (do_some (de_add (de_var (pv 5)) (de_var (pv 6)))) do_none)))) (dss_one (ds_if (dt_eq (u64 hr) (de_var (pv 6)) de_int) (dss_one (ds_asg (i := 3) S.nd rfl (by first | exact .inl rfl | exact .inr rfl) (de_add (de_sl (de_var (pv 3)) do_none (do_some (de_var (pv 5)))) (de_sl (de_var (pv 3)) (do_some (de_add (de_var (pv 5)) de_int)) do_none)))) (dss_one (ds_if (dt_eq (u64 hr) (de_var (pv 6)) de_int) (dss_one (ds_asg (i := 3) S.nd rfl (by first | exact .inl rfl | exact .inr rfl) (de_add (de_add (de_sl (de_var (pv 3)) do_none (do_some (de_var (pv 5)))) (de_sl (de_var (pv 3)) (do_some (de_var (pv 5))) (do_some (de_add (de_var (pv 5)) de_int)))) (de_sl (de_var (pv 3)) (do_some (de_var (pv 5))) do_none)))) (dss_one (ds_if (dt_eq (u64 hr) (de_var (pv 6)) de_int) (dss_one (ds_asg (i := 3) S.nd rfl (by first | exact .inl rfl | exact .inr rfl) (de_add (de_var (pv 3)) (de_frz (dn_lst (da_cons (de_call (h__law_pick.mono (by decide)) hr (by rfl) (takes_of rfl rfl rfl rfl) (da_cons (de_var (pv 0)) (da_cons (de_add (de_var (pv 3)) (de_frz (dn_lst (da_cons (de_var (pv 4)) da_nil) (len_cons len_nil)))) da_nil)) (len_cons (len_cons len_nil))) da_nil) (len_cons len_nil)))))) (dss_cons (ds_asg (i := 7) S.nd rfl (by first | exact .inl rfl | exact .inr rfl) (de_call (h__law_draw.mono (by decide)) hr (by rfl) (takes_of rfl rfl rfl rfl) (da_cons (de_var (pv 0)) (da_cons (de_add (de_len (by rfl) fc.n_len (dk_look (de_var (pv 1)))) de_int) da_nil)) (len_cons (len_cons len_nil))))
    (dss_one (ds_ret (de_add (de_add (de_sl (de_var (pv 1)) do_none (do_some (de_var (pv 7)))) (de_call (h__law_pick.mono (by decide)) hr (by rfl) (takes_of rfl rfl rfl rfl) (da_cons (de_var (pv 0)) (da_cons (de_frz (dn_lst (da_cons de_str (da_cons de_str (da_cons de_str (da_cons de_str (da_cons de_str (da_cons de_str da_nil)))))) (len_cons (len_cons (len_cons (len_cons (len_cons (len_cons len_nil)))))))) da_nil)) (len_cons (len_cons len_nil)))) (de_sl (de_var (pv 1)) (do_some (de_var (pv 7))) do_none))))))))))))
    (dss_one (ds_ret (de_join de_str (de_var (pv 3))))))))))

theorem sc__law_bent_text : FnScope (["pot", "lines", "names", "at", "other", "way"] : List Str) (["pot", "lines", "names"] : List Str) (defScope s__law_bent_text) := ⟨rfl, rfl, rfl, by decide +kernel, rfl, by decide +kernel, by decide +kernel⟩
theorem ok__law_bent_text {f : Addr} {fd : FuncData} (fc : Fc K mg cl wa) (F : FunD K "_law_bent_text" "_law_bent_text" (defArgs s__law_bent_text) (defBody s__law_bent_text) (defScope s__law_bent_text) [] [] f fd) (hm : mg "_law_bent_text" = some (.ref f)) (h__law_pick : Gf P w K mg base cl 2 "_law_pick" 2 f__law_pick) (h__law_draw : Gf P w K mg base cl 1 "_law_draw" 2 f__law_draw) (h__law_bent_line : Gf P w K mg base cl 3 "_law_bent_line" 3 f__law_bent_line) : Gf P w K mg base cl 4 "_law_bent_text" 3 f__law_bent_text :=
  have S := sc__law_bent_text
  (gf_of (k := 3) (N := ["pot", "lines", "names", "at", "other", "way"]) (ps := ["pot", "lines", "names"]) (g := g__law_bent_text) F S hm (F.bindsN fun _ _ _ _ _ _ us hl => match us, hl with | [_, _, _], _ => rfl) fun cdv A outer s H E n hr =>
    (dss_cons (ds_if (dt_eq (u64 hr) (de_var (pv 1)) (de_frz (dn_lst da_nil len_nil))) (dss_one (ds_ret (de_frz (dn_lst (da_cons (de_call (h__law_pick.mono (by decide)) hr (by rfl) (takes_of rfl rfl rfl rfl) (da_cons (de_var (pv 0)) (da_cons (de_frz (dn_lst (da_cons de_str (da_cons de_str (da_cons de_str da_nil))) (len_cons (len_cons (len_cons len_nil))))) da_nil)) (len_cons (len_cons len_nil))) da_nil) (len_cons len_nil))))) dss_nil)
    (dss_cons (ds_par3 (i := 3) (j := 4) (l := 5) rfl S.nd rfl rfl rfl (by decide) (by decide) (by decide) rfl rfl rfl (de_call (h__law_draw.mono (by decide)) hr (by rfl) (takes_of rfl rfl rfl rfl) (da_cons (de_var (pv 0)) (da_cons (de_len (by rfl) fc.n_len (dk_look (de_var (pv 1)))) da_nil)) (len_cons (len_cons len_nil))) (de_call (h__law_draw.mono (by decide)) hr (by rfl) (takes_of rfl rfl rfl rfl) (da_cons (de_var (pv 0)) (da_cons (de_len (by rfl) fc.n_len (dk_look (de_var (pv 1)))) da_nil)) (len_cons (len_cons len_nil))) (de_call (h__law_draw.mono (by decide)) hr (by rfl) (takes_of rfl rfl rfl rfl) (da_cons (de_var (pv 0)) (da_cons de_int da_nil)) (len_cons (len_cons len_nil))))
    (dss_cons (ds_if (dt_eq (u64 hr) (de_var (pv 5)) de_int) (dss_one (ds_ret (de_add (de_sl (de_var (pv 1)) do_none (do_some (de_var (pv 3)))) (de_sl (de_var (pv 1)) (do_some (de_add (de_var (pv 3)) de_int)) do_none)))) dss_nil)
    (dss_cons (ds_if (dt_eq (u64 hr) (de_var (pv 5)) de_int) (dss_one (ds_ret (de_add (de_add (de_sl (de_var (pv 1)) do_none (do_some (de_var (pv 3)))) (de_frz (dn_lst (da_cons (de_ix (de_var (pv 1)) (de_var (pv 4)) fun _ _ => rfl) da_nil) (len_cons len_nil)))) (de_sl (de_var (pv 1)) (do_some (de_var (pv 3))) do_none)))) dss_nil)
    (dss_cons (ds_if (dt_eq (u64 hr) (de_var (pv 5)) de_int) (dss_one (ds_ret (de_add (de_add (de_sl (de_var (pv 1)) do_none (do_some (de_var (pv 3)))) (de_frz (dn_lst (da_cons (de_call (h__law_pick.mono (by decide)) hr (by rfl) (takes_of rfl rfl rfl rfl) (da_cons (de_var (pv 0)) (da_cons (de_frz (dn_lst (da_cons de_str (da_cons de_str (da_cons de_str (da_cons (de_add (de_add (de_add de_str (de_ix (de_var (pv 2)) de_int fun _ _ => rfl)) de_str) (de_ix (de_var (pv 2)) (de_neg de_int) fun _ _ => rfl)) (da_cons de_str (da_cons de_str da_nil)))))) (len_cons (len_cons (len_cons (len_cons (len_cons (len_cons len_nil)))))))) da_nil)) (len_cons (len_cons len_nil))) da_nil) (len_cons len_nil)))) (de_sl (de_var (pv 1)) (do_some (de_var (pv 3))) do_none)))) dss_nil)
    (dss_cons (ds_if (dt_eq (u64 hr) (de_var (pv 5)) de_int) (dss_one (ds_ret (de_add (de_add (de_sl (de_var (pv 1)) do_none (do_some (de_var (pv 3)))) (de_frz (dn_lst (da_cons (de_ix (de_var (pv 1)) (de_var (pv 4)) fun _ _ => rfl) da_nil) (len_cons len_nil)))) (de_sl (de_var (pv 1)) (do_some (de_add (de_var (pv 3)) de_int)) do_none)))) dss_nil)
    (dss_one (ds_ret (de_add (de_add (de_sl (de_var (pv 1)) do_none (do_some (de_var (pv 3)))) (de_frz (dn_lst (da_cons (de_call (h__law_bent_line.mono (by decide)) hr (by rfl) (takes_of rfl rfl rfl rfl) (da_cons (de_var (pv 0)) (da_cons (de_ix (de_var (pv 1)) (de_var (pv 3)) fun _ _ => rfl) (da_cons (de_var (pv 2)) da_nil))) (len_cons (len_cons (len_cons len_nil)))) da_nil) (len_cons len_nil)))) (de_sl (de_var (pv 1)) (do_some (de_add (de_var (pv 3)) de_int)) do_none)))))))))))

theorem sc__law_found_k03 : FnScope (["text", "made", "e"] : List Str) (["text"] : List Str) (defScope s__law_found_k03) := ⟨rfl, rfl, rfl, by decide +kernel, rfl, by decide +kernel, by decide +kernel⟩
theorem ok__law_found_k03 {f : Addr} {fd : FuncData} (fc : Fc K mg cl wa) (F : FunD K "_law_found" "_law_found" (defArgs s__law_found_k03) (defBody s__law_found_k03) (defScope s__law_found_k03) [] [] f fd) (hm : mg "_law_found" = some (.ref f)) (h_read_web : Gf P w K mg base cl 6 "read_web" 1 f_read_web) : Gf P w K mg base cl 7 "_law_found" 1 f__law_found_k03 :=
  have S := sc__law_found_k03
  (gf_of (k := 6) (N := ["text", "made", "e"]) (ps := ["text"]) (g := g__law_found_k03) F S hm (F.bindsN fun _ _ _ _ _ _ us hl => match us, hl with | [_], _ => rfl) fun cdv A outer s H E n hr =>
    (dss_cons (ds_tryC (i := 2) S.nd (takes_of rfl rfl rfl rfl) (fun W2 ex2 xw2 tkB => (dss_one (ds_asg (i := 1) S.nd rfl (by first | exact .inl rfl | exact .inr rfl) (de_call (h_read_web.mono (by decide)) hr (by rfl) tkB (da_cons (de_var (pv 0)) da_nil) (len_cons len_nil))))) rfl (by first | exact .inl rfl | exact .inr (.inl rfl)) rfl (.tup ⟨by rfl, by decide, .inl fc.x_BadText⟩ (.cons (.cons .nil)) (by rfl) (.tup ⟨by rfl, by decide, .inl fc.x_BadWeb⟩ (.cons .nil) (by rfl) .nil)) fc.exm__law_found_k03 fc.xf__law_found_k03)
    (dss_one (ds_ret (de_tup (da_cons de_str (da_cons (de_attr fc.hC (fc.at_spots) (dk_look (de_var (pv 1))) rfl) (da_cons (de_attr fc.hC (fc.at_roads) (dk_look (de_var (pv 1))) rfl) da_nil))) (len_cons (len_cons (len_cons len_nil))))))))

theorem sc__law_due : FnScope (["text", "due", "fault"] : List Str) (["text"] : List Str) (defScope s__law_due) := ⟨rfl, rfl, rfl, by decide +kernel, rfl, by decide +kernel, by decide +kernel⟩
theorem ok__law_due {f : Addr} {fd : FuncData} (fc : Fc K mg cl wa) (F : FunD K "_law_due" "_law_due" (defArgs s__law_due) (defBody s__law_due) (defScope s__law_due) [] [] f fd) (hm : mg "_law_due" = some (.ref f)) (h__law_reader : Gf P w K mg base cl 2 "_law_reader" 1 f__law_reader) (h__law_fault : Gf P w K mg base cl 2 "_law_fault" 1 f__law_fault) : Gf P w K mg base cl 3 "_law_due" 1 f__law_due :=
  have S := sc__law_due
  (gf_of (k := 2) (N := ["text", "due", "fault"]) (ps := ["text"]) (g := g__law_due) F S hm (F.bindsN fun _ _ _ _ _ _ us hl => match us, hl with | [_], _ => rfl) fun cdv A outer s H E n hr =>
    (dss_cons (ds_asg (i := 1) S.nd rfl (by first | exact .inl rfl | exact .inr rfl) (de_call (h__law_reader.mono (by decide)) hr (by rfl) (takes_of rfl rfl rfl rfl) (da_cons (de_var (pv 0)) da_nil) (len_cons len_nil)))
    (dss_cons (ds_if (dt_eq (u64 hr) (de_ix (de_var (pv 1)) de_int fun _ _ => rfl) de_str) (dss_cons (ds_asg (i := 2) S.nd rfl (by first | exact .inl rfl | exact .inr rfl) (de_call (h__law_fault.mono (by decide)) hr (by rfl) (takes_of rfl rfl rfl rfl) (da_cons (de_ix (de_var (pv 1)) de_int fun _ _ => rfl) da_nil) (len_cons len_nil)))
    (dss_one (ds_ret (de_if (dt_isN (de_var (pv 2))) (de_tup (da_cons de_str (da_cons (de_ix (de_ix (de_var (pv 1)) de_int fun _ _ => rfl) de_int fun _ _ => rfl) (da_cons (de_tuple (by rfl) fc.n_tuple (dk_look (de_frz (dn_sorted (u64 hr) (by rfl) fc.n_sorted (dk_look (de_ix (de_ix (de_var (pv 1)) de_int fun _ _ => rfl) de_int fun _ _ => rfl)))))) da_nil))) (len_cons (len_cons (len_cons len_nil)))) (de_tup (da_cons de_str (da_cons (de_var (pv 2)) da_nil)) (len_cons (len_cons len_nil))))))) dss_nil)
    (dss_one (ds_ret (de_var (pv 1)))))))

theorem sc_law_k03 : FnScope (["script", "pot", "turn", "great", "spec", "lines", "time", "text", "line", "sign"] : List Str) (["script"] : List Str) (defScope s_law_k03) := ⟨rfl, rfl, rfl, by decide +kernel, rfl, by decide +kernel, by decide +kernel⟩
theorem ok_law_k03 {f : Addr} {fd : FuncData} (fc : Fc K mg cl wa) (F : FunD K "law" "law" (defArgs s_law_k03) (defBody s_law_k03) (defScope s_law_k03) [] [] f fd) (h__law_pot : Gf P w K mg base cl 1 "_law_pot" 1 f__law_pot) (h__law_spec : Gf P w K mg base cl 5 "_law_spec" 2 f__law_spec) (h__law_lines : Gf P w K mg base cl 1 "_law_lines" 1 f__law_lines) (h__law_draw : Gf P w K mg base cl 1 "_law_draw" 2 f__law_draw) (h__law_bent_text : Gf P w K mg base cl 4 "_law_bent_text" 3 f__law_bent_text) (h__law_due : Gf P w K mg base cl 3 "_law_due" 1 f__law_due) (h__law_found_k03 : Gf P w K mg base cl 7 "_law_found" 1 f__law_found_k03) (h__law_same : Gf P w K mg base cl 7 "_law_same" 2 f__law_same) (h__law_pick : Gf P w K mg base cl 2 "_law_pick" 2 f__law_pick) : FnOk P w K mg base (L2.CX P w) 8 f fd ["script"] (spD ⟨K, cl⟩ 1 f_law_k03) :=
  have S := sc_law_k03
  fn_body (k := 7) (N := ["script", "pot", "turn", "great", "spec", "lines", "time", "text", "line", "sign"]) (ps := ["script"]) (g := g_law_k03) F S fun cdv A outer s H E n hr =>
    (dss_cons (ds_asg (i := 1) S.nd rfl (by first | exact .inl rfl | exact .inr rfl) (de_call (h__law_pot.mono (by decide)) hr (by rfl) (takes_of rfl rfl rfl rfl) (da_cons (de_var (pv 0)) da_nil) (len_cons len_nil)))
    (dss_cons (ds_for (passes_of rfl) rfl (di_range1 (by rfl) fc.n_range (da_cons de_int da_nil) rfl) (dg_name (i := 2) S.nd rfl (by first | exact .inl rfl | exact .inr rfl)) (dss_cons (ds_asg (i := 4) S.nd rfl (by first | exact .inl rfl | exact .inr rfl) (de_call (h__law_spec.mono (by decide)) hr (by rfl) (takes_of rfl rfl rfl rfl) (da_cons (de_var (pv 1)) (da_cons de_int da_nil)) (len_cons (len_cons len_nil))))
    (dss_cons (ds_asg (i := 5) S.nd rfl (by first | exact .inl rfl | exact .inr rfl) (de_call (h__law_lines.mono (by decide)) hr (by rfl) (takes_of rfl rfl rfl rfl) (da_cons (de_var (pv 4)) da_nil) (len_cons len_nil)))
    (dss_cons (ds_for (passes_of rfl) rfl (di_range1 (by rfl) fc.n_range (da_cons (de_call (h__law_draw.mono (by decide)) hr (by rfl) (takes_of rfl rfl rfl rfl) (da_cons (de_var (pv 1)) (da_cons de_int da_nil)) (len_cons (len_cons len_nil))) da_nil) rfl) (dg_name (i := 6) S.nd rfl (by first | exact .inl rfl | exact .inr rfl)) (dss_one (ds_asg (i := 5) S.nd rfl (by first | exact .inl rfl | exact .inr rfl) (de_call (h__law_bent_text.mono (by decide)) hr (by rfl) (takes_of rfl rfl rfl rfl) (da_cons (de_var (pv 1)) (da_cons (de_var (pv 5)) (da_cons (de_ix (de_var (pv 4)) de_int fun _ _ => rfl) da_nil))) (len_cons (len_cons (len_cons len_nil)))))))
    (dss_cons (ds_asg (i := 7) S.nd rfl (by first | exact .inl rfl | exact .inr rfl) (de_join de_str (de_frz (dn_lc (by rfl) S.nd (di_seq (de_var (pv 5))) (blkOk_by (own := [("line", 8)]) (by first | (show blkC ["script", "pot", "turn", "great", "spec", "lines", "time", "text", "line", "sign"] (defScope s_law_k03) _ _ = true; decide +kernel) | rfl | with_unfolding_all rfl)) (fun _ _ _ _ _ => (dg_name (i := 8) S.nd rfl (by first | exact .inl rfl | exact .inr rfl))) (fun _ _ _ _ _ => dts_nil) (fun _ _ _ _ _ => (de_add (de_var (pv 8)) de_str)) (by decide)))))
    (dss_cons (ds_if (dt_eq (u64 hr) (de_call (h__law_draw.mono (by decide)) hr (by rfl) (takes_of rfl rfl rfl rfl) (da_cons (de_var (pv 1)) (da_cons de_int da_nil)) (len_cons (len_cons len_nil))) de_int) (dss_one (ds_asg (i := 7) S.nd rfl (by first | exact .inl rfl | exact .inr rfl) (de_sl (de_var (pv 7)) do_none (do_some (de_call (h__law_draw.mono (by decide)) hr (by rfl) (takes_of rfl rfl rfl rfl) (da_cons (de_var (pv 1)) (da_cons (de_add (de_len (by rfl) fc.n_len (dk_look (de_var (pv 7)))) de_int) da_nil)) (len_cons (len_cons len_nil))))))) dss_nil)
    (dss_one (ds_if (dt_not (dt_val (de_call (h__law_same.mono (by decide)) hr (by rfl) (takes_of rfl rfl rfl rfl) (da_cons (de_call (h__law_found_k03.mono (by decide)) hr (by rfl) (takes_of rfl rfl rfl rfl) (da_cons (de_var (pv 7)) da_nil) (len_cons len_nil)) (da_cons (de_call (h__law_due.mono (by decide)) hr (by rfl) (takes_of rfl rfl rfl rfl) (da_cons (de_var (pv 7)) da_nil) (len_cons len_nil)) da_nil)) (len_cons (len_cons len_nil))))) (dss_one (ds_ret de_bl)) dss_nil))))))))
    (dss_cons (ds_asg (i := 3) S.nd rfl (by first | exact .inl rfl | exact .inr rfl) (de_add (de_join de_str (de_frz (dn_lc (by rfl) S.nd (di_str (de_sl de_str do_none (do_some (de_add de_int (de_call (h__law_draw.mono (by decide)) hr (by rfl) (takes_of rfl rfl rfl rfl) (da_cons (de_var (pv 1)) (da_cons de_int da_nil)) (len_cons (len_cons len_nil))))))) (blkOk_by (own := [("sign", 9)]) (by first | (show blkC ["script", "pot", "turn", "great", "spec", "lines", "time", "text", "line", "sign"] (defScope s_law_k03) _ _ = true; decide +kernel) | rfl | with_unfolding_all rfl)) (fun _ _ _ _ _ => (dg_name (i := 9) S.nd rfl (by first | exact .inl rfl | exact .inr rfl))) (fun _ _ _ _ _ => dts_nil) (fun _ _ _ _ _ => (de_add (de_add de_str (de_var (pv 9))) de_str)) (by decide)))) de_str))
    (dss_cons (ds_if (dt_not (dt_val (de_call (h__law_same.mono (by decide)) hr (by rfl) (takes_of rfl rfl rfl rfl) (da_cons (de_call (h__law_found_k03.mono (by decide)) hr (by rfl) (takes_of rfl rfl rfl rfl) (da_cons (de_var (pv 3)) da_nil) (len_cons len_nil)) (da_cons (de_call (h__law_due.mono (by decide)) hr (by rfl) (takes_of rfl rfl rfl rfl) (da_cons (de_var (pv 3)) da_nil) (len_cons len_nil)) da_nil)) (len_cons (len_cons len_nil))))) (dss_one (ds_ret de_bl)) dss_nil)
    (dss_one (ds_ret (de_eq (u64 hr) (de_call (h__law_found_k03.mono (by decide)) hr (by rfl) (takes_of rfl rfl rfl rfl) (da_cons (de_call (h__law_pick.mono (by decide)) hr (by rfl) (takes_of rfl rfl rfl rfl) (da_cons (de_var (pv 1)) (da_cons (de_frz (dn_lst (da_cons de_non (da_cons de_int (da_cons (de_tup (da_cons de_str da_nil) (len_cons len_nil)) (da_cons (de_frz (dn_lst (da_cons de_str da_nil) (len_cons len_nil))) (da_cons de_bl (da_cons de_dct0 da_nil)))))) (len_cons (len_cons (len_cons (len_cons (len_cons (len_cons len_nil)))))))) da_nil)) (len_cons (len_cons len_nil))) da_nil) (len_cons len_nil)) (de_tup (da_cons de_str (da_cons de_int (da_cons de_str da_nil))) (len_cons (len_cons (len_cons len_nil)))))))))))

end
end DL
end

section
set_option Elab.async false
set_option linter.all false
set_option maxRecDepth 100000
set_option maxHeartbeats 4000000

namespace DL
open PySem PySem.Spec PyProof.Rows
open L2 hiding St
theorem facts {P : Program} {w w2 : World} {K : PySem.W.Frag} {h : Heap} {mg : Str → Option Value} {f : Addr} (X : K.In h) (G : h.Ns mainGlobals mg) (hfa : mg ("law" : Str) = some (.ref f)) (hfile : P.main.file = PySem.Challenge.pw_watchwebs_k03_first_wrong_lines.main.file) (htop : (P.main.scope.names.lookup ("super" : Str)).isSome = false) (cx : SaysE fa fn es tf ex w2 h K)
    (hp : ∀ ns : List Int, ns.length ≤ 63 → ∃ mu, f_law_k03 [.frl (ns.map D.int)] [] = .ok (.bl true) mu) :
    ∃ fd : FuncData, (∀ (s : Shared) (v : Value), BindsTo s fd ⟨[v], []⟩ [("script", v)]) ∧ ∀ base : Heap, K.In base → base.Ns mainGlobals mg → (∀ p ∈ tf.map (He.cT K), LamX.TabB base mg p.1 p.2) → FnOk P w K mg base CX0 8 f fd ["script"] (spLaw K (tf.map fun p => (He.cT K p).2)) := by
  have c := cx.t.d
  have cfa := c
  have hx := cx.more
  obtain ⟨fd__law_pot, F__law_pot⟩ := c.def_ 0 (d := d__law_pot) rfl
  obtain ⟨fd__law_draw, F__law_draw⟩ := c.def_ 1 (d := d__law_draw) rfl
  obtain ⟨fd__law_pick, F__law_pick⟩ := c.def_ 2 (d := d__law_pick) rfl
  obtain ⟨fd_is_number, F_is_number⟩ := c.def_ 3 (d := d_is_number) rfl
  obtain ⟨fd_is_within, F_is_within⟩ := c.def_ 4 (d := d_is_within) rfl
  obtain ⟨fd_is_listed, F_is_listed⟩ := c.def_ 5 (d := d_is_listed) rfl
  obtain ⟨fd_have_no_twice, F_have_no_twice⟩ := c.def_ 6 (d := d_have_no_twice) rfl
  obtain ⟨fd_is_name, F_is_name⟩ := c.def_ 7 (d := d_is_name) rfl
  obtain ⟨fd_are_spots, F_are_spots⟩ := c.def_ 8 (d := d_are_spots) rfl
  obtain ⟨fd_is_pair_below, F_is_pair_below⟩ := c.def_ 9 (d := d_is_pair_below) rfl
  obtain ⟨fd_steps_away, F_steps_away⟩ := c.def_ 10 (d := d_steps_away) rfl
  obtain ⟨fd_Web_init, F_Web_init⟩ := c.def_ 11 (d := d_Web_init) rfl
  obtain ⟨fd__law_same, F__law_same⟩ := c.def_ 12 (d := d__law_same) rfl
  obtain ⟨fd__law_within, F__law_within⟩ := c.def_ 13 (d := d__law_within) rfl
  obtain ⟨fd__law_pairs, F__law_pairs⟩ := c.def_ 14 (d := d__law_pairs) rfl
  obtain ⟨fd__law_word, F__law_word⟩ := c.def_ 15 (d := d__law_word) rfl
  obtain ⟨fd__law_is_name, F__law_is_name⟩ := c.def_ 16 (d := d__law_is_name) rfl
  obtain ⟨fd__law_names, F__law_names⟩ := c.def_ 17 (d := d__law_names) rfl
  obtain ⟨fd__law_spec, F__law_spec⟩ := c.def_ 18 (d := d__law_spec) rfl
  obtain ⟨fd__law_fault, F__law_fault⟩ := c.def_ 19 (d := d__law_fault) rfl
  obtain ⟨fd_LineReader_init, F_LineReader_init⟩ := c.def_ 20 (d := d_LineReader_init) rfl
  obtain ⟨fd_LineReader_takes, F_LineReader_takes⟩ := c.def_ 21 (d := d_LineReader_takes) rfl
  obtain ⟨fd_read_web, F_read_web⟩ := c.def_ 22 (d := d_read_web) rfl
  obtain ⟨fd__law_lines, F__law_lines⟩ := c.def_ 23 (d := d__law_lines) rfl
  obtain ⟨fd__law_reader, F__law_reader⟩ := c.def_ 24 (d := d__law_reader) rfl
  obtain ⟨fd__law_bent_line, F__law_bent_line⟩ := c.def_ 25 (d := d__law_bent_line) rfl
  obtain ⟨fd__law_bent_text, F__law_bent_text⟩ := c.def_ 26 (d := d__law_bent_text) rfl
  obtain ⟨fd__law_found_k03, F__law_found_k03⟩ := c.def_ 27 (d := d__law_found_k03) rfl
  obtain ⟨fd__law_due, F__law_due⟩ := c.def_ 28 (d := d__law_due) rfl
  obtain ⟨fd_law_k03, F_law_k03⟩ := c.def_ 29 (d := d_law_k03) rfl
  have T0 := exT_ok (ex_at hx 0 rfl) (He.cls_ok (c.fact 46 (f := .cls "Web") rfl))
  have L0 : Lv (clK K) 0 := ⟨T0.1, by decide⟩
  have T1 := exT_ok (ex_at hx 1 rfl) (He.cls_ok (c.fact 55 (f := .cls "LineReader") rfl))
  have L1 : Lv (clK K) 1 := ⟨T1.1, by decide⟩
  have hC : ∀ c, Lv (clK K) c → ClsT K (clK K c) := fun c hc => by
    have hlt := hc.2
    have hnz := hc.1
    clear hc
    unfold clK at hnz ⊢
    by_cases h0 : c = 0
    · subst h0; exact T0.2
    rw [if_neg h0] at hnz ⊢
    by_cases h1 : c = 1
    · subst h1; exact T1.2
    rw [if_neg h1] at hnz ⊢
    rw [if_neg (show ¬ c = 1001 by omega)] at hnz ⊢
    rw [if_neg (show ¬ c = 1002 by omega)] at hnz ⊢
    exact absurd rfl hnz
  have at_away : ∀ c, Lv (clK K) c → NoAttr K (clK K c) "away" := fun c hc => by
    have hlt := hc.2
    have hnz := hc.1
    clear hc
    unfold clK at hnz ⊢
    by_cases h0 : c = 0
    · subst h0; exact He.noat_ok (cfa.fact 48 (f := .noat "Web" "away") rfl)
    rw [if_neg h0] at hnz ⊢
    by_cases h1 : c = 1
    · subst h1; exact He.noat_ok (cfa.fact 57 (f := .noat "LineReader" "away") rfl)
    rw [if_neg h1] at hnz ⊢
    rw [if_neg (show ¬ c = 1001 by omega)] at hnz ⊢
    rw [if_neg (show ¬ c = 1002 by omega)] at hnz ⊢
    exact absurd rfl hnz
  have at_ended : ∀ c, Lv (clK K) c → NoAttr K (clK K c) "ended" := fun c hc => by
    have hlt := hc.2
    have hnz := hc.1
    clear hc
    unfold clK at hnz ⊢
    by_cases h0 : c = 0
    · subst h0; exact He.noat_ok (cfa.fact 49 (f := .noat "Web" "ended") rfl)
    rw [if_neg h0] at hnz ⊢
    by_cases h1 : c = 1
    · subst h1; exact He.noat_ok (cfa.fact 58 (f := .noat "LineReader" "ended") rfl)
    rw [if_neg h1] at hnz ⊢
    rw [if_neg (show ¬ c = 1001 by omega)] at hnz ⊢
    rw [if_neg (show ¬ c = 1002 by omega)] at hnz ⊢
    exact absurd rfl hnz
  have at_read_roads : ∀ c, Lv (clK K) c → NoAttr K (clK K c) "read_roads" := fun c hc => by
    have hlt := hc.2
    have hnz := hc.1
    clear hc
    unfold clK at hnz ⊢
    by_cases h0 : c = 0
    · subst h0; exact He.noat_ok (cfa.fact 50 (f := .noat "Web" "read_roads") rfl)
    rw [if_neg h0] at hnz ⊢
    by_cases h1 : c = 1
    · subst h1; exact He.noat_ok (cfa.fact 59 (f := .noat "LineReader" "read_roads") rfl)
    rw [if_neg h1] at hnz ⊢
    rw [if_neg (show ¬ c = 1001 by omega)] at hnz ⊢
    rw [if_neg (show ¬ c = 1002 by omega)] at hnz ⊢
    exact absurd rfl hnz
  have at_read_spots : ∀ c, Lv (clK K) c → NoAttr K (clK K c) "read_spots" := fun c hc => by
    have hlt := hc.2
    have hnz := hc.1
    clear hc
    unfold clK at hnz ⊢
    by_cases h0 : c = 0
    · subst h0; exact He.noat_ok (cfa.fact 51 (f := .noat "Web" "read_spots") rfl)
    rw [if_neg h0] at hnz ⊢
    by_cases h1 : c = 1
    · subst h1; exact He.noat_ok (cfa.fact 60 (f := .noat "LineReader" "read_spots") rfl)
    rw [if_neg h1] at hnz ⊢
    rw [if_neg (show ¬ c = 1001 by omega)] at hnz ⊢
    rw [if_neg (show ¬ c = 1002 by omega)] at hnz ⊢
    exact absurd rfl hnz
  have at_roads : ∀ c, Lv (clK K) c → NoAttr K (clK K c) "roads" := fun c hc => by
    have hlt := hc.2
    have hnz := hc.1
    clear hc
    unfold clK at hnz ⊢
    by_cases h0 : c = 0
    · subst h0; exact He.noat_ok (cfa.fact 52 (f := .noat "Web" "roads") rfl)
    rw [if_neg h0] at hnz ⊢
    by_cases h1 : c = 1
    · subst h1; exact He.noat_ok (cfa.fact 61 (f := .noat "LineReader" "roads") rfl)
    rw [if_neg h1] at hnz ⊢
    rw [if_neg (show ¬ c = 1001 by omega)] at hnz ⊢
    rw [if_neg (show ¬ c = 1002 by omega)] at hnz ⊢
    exact absurd rfl hnz
  have at_spots : ∀ c, Lv (clK K) c → NoAttr K (clK K c) "spots" := fun c hc => by
    have hlt := hc.2
    have hnz := hc.1
    clear hc
    unfold clK at hnz ⊢
    by_cases h0 : c = 0
    · subst h0; exact He.noat_ok (cfa.fact 53 (f := .noat "Web" "spots") rfl)
    rw [if_neg h0] at hnz ⊢
    by_cases h1 : c = 1
    · subst h1; exact He.noat_ok (cfa.fact 62 (f := .noat "LineReader" "spots") rfl)
    rw [if_neg h1] at hnz ⊢
    rw [if_neg (show ¬ c = 1001 by omega)] at hnz ⊢
    rw [if_neg (show ¬ c = 1002 by omega)] at hnz ⊢
    exact absurd rfl hnz
  have fc : Fc K mg (clK K) (fun x => He.ga K x) :=
    { hC := hC,
      n_abs := He.free_ok X G (c.fact 27 (f := .free "abs") rfl),
      n_all := He.free_ok X G (c.fact 28 (f := .free "all") rfl),
      n_bool := He.free_ok X G (c.fact 29 (f := .free "bool") rfl),
      n_dict := He.free_ok X G (c.fact 30 (f := .free "dict") rfl),
      n_enumerate := He.free_ok X G (c.fact 31 (f := .free "enumerate") rfl),
      n_int := He.free_ok X G (c.fact 32 (f := .free "int") rfl),
      n_isinstance := He.free_ok X G (c.fact 33 (f := .free "isinstance") rfl),
      n_len := He.free_ok X G (c.fact 34 (f := .free "len") rfl),
      n_list := He.free_ok X G (c.fact 35 (f := .free "list") rfl),
      n_range := He.free_ok X G (c.fact 36 (f := .free "range") rfl),
      n_sorted := He.free_ok X G (c.fact 37 (f := .free "sorted") rfl),
      n_str := He.free_ok X G (c.fact 38 (f := .free "str") rfl),
      n_tuple := He.free_ok X G (c.fact 39 (f := .free "tuple") rfl),
      at_away := at_away,
      at_ended := at_ended,
      at_read_roads := at_read_roads,
      at_read_spots := at_read_spots,
      at_roads := at_roads,
      at_spots := at_spots,
      g_LONGEST := let ⟨t, e⟩ := He.int_ok X G (c.fact 41 (f := .int "LONGEST" 8) rfl); ⟨_, e, t, rfl⟩,
      g_MOST_SPOTS := let ⟨t, e⟩ := He.int_ok X G (c.fact 42 (f := .int "MOST_SPOTS" 9) rfl); ⟨_, e, t, rfl⟩,
      g_SIGNS := let ⟨t, e⟩ := He.str_ok X G (c.fact 43 (f := .str "SIGNS" "abcdefghijklmnopqrstuvwxyz") rfl); ⟨_, e, t, rfl⟩,
      m_WORDS := He.glo_ok X G (c.fact 44 (f := .glo "WORDS") rfl),
      q_WORDS := fun H => He.tupB_ok (ex_at hx 2 rfl) H,
      x_BadText := PySem.W.mg_of X G (errB_ok (d := d_e_BadText) (ex_at hx 4 rfl)).2.2.2.2.2.2.2.2,
      x_BadWeb := PySem.W.mg_of X G (errB_ok (d := d_e_BadWeb) (ex_at hx 3 rfl)).2.2.2.2.2.2.2.2,
      exm__law_found_k03 := fun c hc h hh => by
        simp only [ecs__law_found_k03, List.mem_cons, List.not_mem_nil, or_false] at hc hh
        rcases hc with rfl | rfl
        · rcases hh with rfl | rfl
          · exact of_decide_eq_true (ex_at hx 5 rfl)
          · exact of_decide_eq_true (ex_at hx 6 rfl)
        · rcases hh with rfl | rfl
          · exact of_decide_eq_true (ex_at hx 7 rfl)
          · exact of_decide_eq_true (ex_at hx 8 rfl),
      xf__law_found_k03 := (XfT.cons (.inr (xfAll2 (ex_at hx 9 rfl) (ex_at hx 10 rfl) (ex_at hx 11 rfl))) (XfT.cons (.inr (xfAll1 (ex_at hx 12 rfl) (ex_at hx 13 rfl))) XfT.nil)) }
  have b := FunD.bindsA (ps := ["script"]) F_law_k03 fun _ _ _ _ _ _ us hl => match us, hl with | [_], _ => rfl
  have e0 := hfa.symm.trans (He.glo_ok X G (c.fact 26 (f := .glo "law") rfl))
  refine ⟨fd_law_k03, fun s v => b s [v] rfl, fun base _ _ hTB => ?_⟩
  have htab : ∀ i, clK K (2000 + i) ≠ 0 → False := fun i hnz => by
    unfold clK at hnz
    rw [if_neg (show ¬ 2000 + i = 0 by omega)] at hnz
    rw [if_neg (show ¬ 2000 + i = 1 by omega)] at hnz
    rw [if_neg (show ¬ 2000 + i = 1001 by omega)] at hnz
    rw [if_neg (show ¬ 2000 + i = 1002 by omega)] at hnz
    exact absurd rfl hnz
  have hsup := He.free_ok X G (c.fact 40 (f := .free "super") rfl)
  have e_BadWeb : Ge P w K mg base (clK K) "BadWeb" 1001 ["what"] := by
    exact ge1 hfile (cx.err 0 (d := d_e_BadWeb) rfl) (ex_at hx 3 rfl) rfl (PySem.W.mg_of X G (errB_ok (d := d_e_BadWeb) (ex_at hx 3 rfl)).2.2.2.2.2.2.2.2) hsup htop ⟨by decide +kernel, rfl, rfl, rfl, rfl, rfl, rfl, ⟨_, rfl, rfl⟩⟩ (fun _ _ _ _ _ _ _ _ _ => rfl) rfl (by decide) (by decide) (by decide) (fun _ _ _ _ => rfl) (fun _ _ _ _ => rfl) (fun _ _ _ _ => rfl) (fun _ _ _ _ => rfl) (fun _ _ _ _ => rfl)
  have e_BadText : Ge P w K mg base (clK K) "BadText" 1002 ["line", "what"] := by
    exact ge2 hfile (cx.err 1 (d := d_e_BadText) rfl) (ex_at hx 4 rfl) rfl (PySem.W.mg_of X G (errB_ok (d := d_e_BadText) (ex_at hx 4 rfl)).2.2.2.2.2.2.2.2) hsup htop ⟨by decide +kernel, rfl, rfl, rfl, rfl, rfl, rfl, ⟨_, rfl, rfl⟩⟩ (fun _ _ _ _ _ _ _ _ _ _ => rfl) rfl (by decide) (by decide) (by decide) rfl (by decide) (by decide) (by decide) (by decide) (fun _ _ _ _ => rfl) (fun _ _ _ _ => rfl) (fun _ _ _ _ => rfl) (fun _ _ _ _ => rfl) (fun _ _ _ _ => rfl) (fun _ _ _ _ => rfl) (fun _ _ _ _ => rfl)
  have h__law_pot := ok__law_pot (P := P) (w := w) (base := base) fc F__law_pot (He.glo_ok X G (c.fact 0 (f := .glo "_law_pot") rfl))
  have h__law_draw := ok__law_draw (P := P) (w := w) (base := base) fc F__law_draw (He.glo_ok X G (c.fact 1 (f := .glo "_law_draw") rfl))
  have h__law_pick := ok__law_pick (P := P) (w := w) (base := base) fc F__law_pick (He.glo_ok X G (c.fact 2 (f := .glo "_law_pick") rfl)) h__law_draw
  have h_is_number := ok_is_number (P := P) (w := w) (base := base) fc F_is_number (He.glo_ok X G (c.fact 3 (f := .glo "is_number") rfl))
  have h_is_within := ok_is_within (P := P) (w := w) (base := base) fc F_is_within (He.glo_ok X G (c.fact 4 (f := .glo "is_within") rfl)) h_is_number
  have h_is_listed := ok_is_listed (P := P) (w := w) (base := base) fc F_is_listed (He.glo_ok X G (c.fact 5 (f := .glo "is_listed") rfl))
  have h_have_no_twice := ok_have_no_twice (P := P) (w := w) (base := base) fc F_have_no_twice (He.glo_ok X G (c.fact 6 (f := .glo "have_no_twice") rfl))
  have h_is_name := ok_is_name (P := P) (w := w) (base := base) fc F_is_name (He.glo_ok X G (c.fact 7 (f := .glo "is_name") rfl))
  have h_are_spots := ok_are_spots (P := P) (w := w) (base := base) fc F_are_spots (He.glo_ok X G (c.fact 8 (f := .glo "are_spots") rfl)) h_is_listed h_is_name h_have_no_twice
  have h_is_pair_below := ok_is_pair_below (P := P) (w := w) (base := base) fc F_is_pair_below (He.glo_ok X G (c.fact 9 (f := .glo "is_pair_below") rfl)) h_is_within
  have h_steps_away := ok_steps_away (P := P) (w := w) (base := base) fc F_steps_away (He.glo_ok X G (c.fact 10 (f := .glo "steps_away") rfl))
  have h_Web_init := ok_Web_init (P := P) (w := w) (base := base) fc F_Web_init (He.mkr_ok (c.fact 47 (f := .mkr "Web") rfl)) L0 (He.glo_ok X G (c.fact 45 (f := .glo "Web") rfl)) h_are_spots h_is_listed h_is_pair_below h_have_no_twice h_steps_away e_BadWeb
  have h__law_same := ok__law_same (P := P) (w := w) (base := base) fc F__law_same (He.glo_ok X G (c.fact 11 (f := .glo "_law_same") rfl))
  have h__law_within := ok__law_within (P := P) (w := w) (base := base) fc F__law_within (He.glo_ok X G (c.fact 12 (f := .glo "_law_within") rfl))
  have h__law_pairs := ok__law_pairs (P := P) (w := w) (base := base) fc F__law_pairs (He.glo_ok X G (c.fact 13 (f := .glo "_law_pairs") rfl))
  have h__law_word := ok__law_word (P := P) (w := w) (base := base) fc F__law_word (He.glo_ok X G (c.fact 14 (f := .glo "_law_word") rfl)) h__law_draw h__law_pick
  have h__law_is_name := ok__law_is_name (P := P) (w := w) (base := base) fc F__law_is_name (He.glo_ok X G (c.fact 15 (f := .glo "_law_is_name") rfl))
  have h__law_names := ok__law_names (P := P) (w := w) (base := base) fc F__law_names (He.glo_ok X G (c.fact 16 (f := .glo "_law_names") rfl)) h__law_word h__law_is_name
  have h__law_spec := ok__law_spec (P := P) (w := w) (base := base) fc F__law_spec (He.glo_ok X G (c.fact 17 (f := .glo "_law_spec") rfl)) h__law_draw h__law_names h__law_pairs
  have h__law_fault := ok__law_fault (P := P) (w := w) (base := base) fc F__law_fault (He.glo_ok X G (c.fact 18 (f := .glo "_law_fault") rfl)) h__law_is_name h__law_within
  have h_LineReader_init := ok_LineReader_init (P := P) (w := w) (base := base) fc F_LineReader_init (He.mkr_ok (c.fact 56 (f := .mkr "LineReader") rfl)) L1 (He.glo_ok X G (c.fact 54 (f := .glo "LineReader") rfl))
  have h_LineReader_takes := ok_LineReader_takes (P := P) (w := w) (base := base) fc F_LineReader_takes (He.meth_ok (c.fact 63 (f := .meth "LineReader" "takes") rfl)) L1 h_is_name
  have h_read_web := ok_read_web (P := P) (w := w) (base := base) fc F_read_web (He.glo_ok X G (c.fact 19 (f := .glo "read_web") rfl)) h_LineReader_init h_LineReader_takes h_Web_init e_BadText
  have h__law_lines := ok__law_lines (P := P) (w := w) (base := base) fc F__law_lines (He.glo_ok X G (c.fact 20 (f := .glo "_law_lines") rfl))
  have h__law_reader := ok__law_reader (P := P) (w := w) (base := base) fc F__law_reader (He.glo_ok X G (c.fact 21 (f := .glo "_law_reader") rfl)) h__law_is_name
  have h__law_bent_line := ok__law_bent_line (P := P) (w := w) (base := base) fc F__law_bent_line (He.glo_ok X G (c.fact 22 (f := .glo "_law_bent_line") rfl)) h__law_draw h__law_pick
  have h__law_bent_text := ok__law_bent_text (P := P) (w := w) (base := base) fc F__law_bent_text (He.glo_ok X G (c.fact 23 (f := .glo "_law_bent_text") rfl)) h__law_pick h__law_draw h__law_bent_line
  have h__law_found_k03 := ok__law_found_k03 (P := P) (w := w) (base := base) fc F__law_found_k03 (He.glo_ok X G (c.fact 24 (f := .glo "_law_found") rfl)) h_read_web
  have h__law_due := ok__law_due (P := P) (w := w) (base := base) fc F__law_due (He.glo_ok X G (c.fact 25 (f := .glo "_law_due") rfl)) h__law_reader h__law_fault
  have h_law_k03 := ok_law_k03 (P := P) (w := w) (base := base) fc F_law_k03 h__law_pot h__law_spec h__law_lines h__law_draw h__law_bent_text h__law_due h__law_found_k03 h__law_same h__law_pick
  have e1 : f = He.fAd K d_law_k03.at_ := Value.ref.inj (Option.some.inj e0)
  rw [e1]
  exact fn_cx0 ((h_law_k03.imp (sp_law (fun i hi => (htab i hi).elim) hp))) fun vs H Q E h => h
end DL
open PySem PySem.W PySem.Calls PyProof.Rows
theorem PySem.Challenge.cw_watchwebs_k03_first_wrong_lines_holds : PySem.Challenge.rw_watchwebs_k03_first_wrong_lines.Holds := by
  w_on; o_law
  refine HandSHeadRun.head_any (r := OpenLaw.row PySem.Challenge.rw_watchwebs_k03_first_wrong_lines) (q := view (OpenLaw.row PySem.Challenge.rw_watchwebs_k03_first_wrong_lines).prog [40]) (H := DL.hk) (ob := DL.ob) (M := 4000) (loose := DL.loose) (d := HandSHeadRun.topDef (OpenLaw.row PySem.Challenge.rw_watchwebs_k03_first_wrong_lines).prog 40) (kwd := []) DL.ob_eq
    (by kernel_rfl) (fun s => by kernel_rfl) DL.run (by kernel_rfl) (by kernel_rfl) (by kernel_rfl) (by rfl) (by first | assumption | decide +kernel) (by decide +kernel) ⟨rfl, rfl, rfl, rfl, rfl, by decide +kernel⟩ ?hw ?hc
  case hw => w_witness2
  case hc =>
    refine LamX.walk_ofTsE (l := PySem.Challenge.rw_watchwebs_k03_first_wrong_lines) (n := 63) (k := 8) (x := "script") (CX := fun _ => L2.CX0) rfl (by decide) (by kernel_rfl) ⟨rfl, by decide, by decide⟩ ?F (fun _ _ _ _ _ z => z)
    intro w mg fa h Y G hmg0
    obtain ⟨K, KX, c⟩ := Y
    have hmg : mg ("law" : PySem.Str) = some (.ref fa) := by
      have e : (HandSHeadRun.topDef (OpenLaw.row PySem.Challenge.rw_watchwebs_k03_first_wrong_lines).prog 40).name = ("law" : PySem.Str) := by kernel_rfl
      rw [← e]
      exact hmg0
    obtain ⟨fd, hb, hF⟩ := DL.facts (P := (PySem.Challenge.rw_watchwebs_k03_first_wrong_lines).prog) (w := w) KX G hmg rfl (by kernel_rfl) c DL.law_true
    have each : ∀ p ∈ DL.tf.map (He.cT K), ∃ q ∈ DL.tf, He.cT K q = p := fun p hp => List.mem_map.mp hp
    refine ⟨K, KX, fd, DL.tf.map (He.cT K), DL.spLaw K (DL.tf.map fun p => (He.cT K p).2), fun p hp => ?_, fun p hp => ?_, fun p hp => ?_, hb, fun H a ns hl _ hT hS => ⟨a, ns, hl, rfl, fun p hp => ?_, hS, fun _ => rfl⟩, hF⟩
    · obtain ⟨q, hq, rfl⟩ := each p hp
      exact c.empty q hq
    · obtain ⟨q, hq, rfl⟩ := each p hp
      exact c.out q hq
    · obtain ⟨q, hq, rfl⟩ := each p hp
      exact codeHd_of_K KX (c.hd q hq)
    · obtain ⟨q, hq, rfl⟩ := List.mem_map.mp hp
      exact hT (He.cT K q) (List.mem_map.mpr ⟨q, hq, rfl⟩)
end
