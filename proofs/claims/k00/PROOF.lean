import PyProof.Rows.All
import Wide.All
import OpenK.AllK
import Wide.FinOn
import HandS.ForMost
import HandS.Walk
import HandS.Exc
import HandS.ExcOwn
import HandS.IsInst
import HandS.Conv
import HandS.Lambda
import HandS.Defaults
import HandS.NoneIn
import HandS.DictComp
import HandS.TupAny
import HandS.StrMore
import HandS.Replace
import HandS.FStr
import HandS.Wide
import HandS.SortInts
import KE.DataEq
import KE.DataFind
import HandS.TupLe
import HandS.TupMul
import HandS.Codes
import HandS.CallRecv
import HandS.OwnEq
import HandS.NamedTupSort
import PyProof.InstNe
import KE.SortData
import HandS.Text
import HandS.Deep
import KE.GoesMore
import KE.GoesComp
import HandS.Dict
import HandS.TupLen
import HandS.WordsDict
import HandS.Zip
import KE.KExcSuper
import HandS.ExcInit
import KE.GoesEnum
import HandS.Star
import HandS.Style
import HandS.HeadHook1
import HandS.HeadHook2
import HandS.HeadHook3
import HandS.HeadHook4
import HandS.TryMany
import HandS.EndTab
import HandS.HeadWalk
import PyProof.Rows.IntBool
import HandS.RaiseMore
import HandS.ExcField
import KE.KDictPairs
import KE.KDictKeyed
import KE.KDictLaw
import PyProof.ReprRoads
import KE.KRevSl
import HandS.ExcIs
import HandS.ExcValue
import KE.KStateDown
import HandS.Base
import HandS.Call
import HandS.Ends
import HandS.More
import HandS.Words
import HandS.WordsExc
import HandS.Head0
import HandS.Head1
import HandS.Head2
import HandS.HeadEnd
import PySem.Challenge.RW_watchwebs_k00_errors_alone
section
set_option Elab.async false
set_option linter.all false
set_option maxRecDepth 100000
set_option maxHeartbeats 4000000
/-! DA: data, the store, what stands for what, how the heap grows. -/
namespace DL
open PySem L2

/-- data. obj k: the k-th object of the store -/
inductive D where
  | non | bl (b : Bool) | int (i : Int) | str (x : Str)
  | lst (l : List D) | tup (l : List D)
  | dct (kvs : List (D × D))
  | ins (c : Nat) (fs : List (Str × D))
  | obj (k : Nat)
  /-- a list that is known to the object (the script) -/
  | frl (l : List D)
  /-- a tuple of the module -/
  | frt (l : List D)
  /-- an error that was made, not raised -/
  | exn (c : Nat) (fs : List (Str × D))

/-- what may be changed: a list, a dict, an instance -/
inductive MO where
  | lst (l : List D) | dct (kvs : List (D × D)) | ins (c : Nat) (fs : List (Str × D))
abbrev Store := List (Option MO)
/-- a slot: data, or an object of the frame's own -/
inductive SV where
  | val (d : D) | own (m : MO)
abbrev Sl := List (Option SV)

/-- what a piece of the program comes to -/
inductive Out (α : Type) where
  | ok (a : α) (mu : Store)
  | ex (c : Nat) (fs : List (Str × D)) (mu : Store)
  | bad
/-- .. a statement: the next one, a return, break, continue -/
inductive OutS where
  | nx (sl : Sl) (mu : Store)
  | rt (d : D) (mu : Store)
  | bk (sl : Sl) (mu : Store)
  | ct (sl : Sl) (mu : Store)
  | ex (c : Nat) (fs : List (Str × D)) (sl : Sl) (mu : Store)
  | bad

/-- the theory: the written part, the classes' addresses -/
structure Th where
  K : PySem.W.Frag
  cls : Nat → Addr

/-- dicts: by a heap's predicate, told later -/
structure DKit where
  ok : Hp → Addr → List (V × V) → Prop

/-- a class of instances that is there (from 1000 on: errors) -/
def Lv (cl : Nat → Addr) (c : Nat) : Prop := cl c ≠ 0 ∧ c < 1000

/-- the names of lambdas, by their tables -/
def qn : Nat → Str
  | 0 => "law.<locals>.<lambda>"
  | 1 => "_law_web_right.<locals>.<lambda>"
  | _ => "_law_task_right.<locals>.<lambda>"
/-- no table, no code -/
def NoTab (o : HO) : Prop := (∀ ps, o ≠ .tbl ps) ∧ ∀ (c : Addr) (q : Str), o ≠ LamX.CodeO c q
/-- nothing stands there, or a table -/
def Fre (H : Hp) (a : Addr) : Prop := ∀ o, H a = some o → ∃ ps, o = .tbl ps
theorem Fre.of {H : Hp} {a : Addr} (h : H a = none) : Fre H a := fun o e => by rw [h] at e; cases e
theorem Fre.no {H : Hp} {a : Addr} {o : HO} (h : Fre H a) (e : H a = some o) (n : ∀ ps, o ≠ .tbl ps) : False := by
  obtain ⟨ps, z⟩ := h o e
  exact n ps z
theorem tab_upd {H : Hp} {a P : Addr} {o : HO} {q : Str} (h : H a = none ∨ ∃ u, H a = some u ∧ NoTab u) (t : LamX.TabS H P q) : LamX.TabS (upd H a o) P q := by
  obtain ⟨ps, h1, h2, h3⟩ := t
  have ne : ∀ {b u}, H b = some u → ¬ NoTab u → b ≠ a := fun e n z => by
    subst z
    rcases h with h | ⟨v, h, g⟩
    · rw [h] at e; cases e
    · rw [h] at e; cases e; exact n g
  refine ⟨ps, by rw [upd_ne (ne h1 fun g => g.1 ps rfl)]; exact h1, h2, fun pos cv hc => ?_⟩
  obtain ⟨c, e1, e2⟩ := h3 pos cv hc
  exact ⟨c, e1, by rw [upd_ne (ne e2 fun g => g.2 c q rfl)]; exact e2⟩

/-- an error object of the class cls with the dict d at a -/
def EXO (cls : Value) (d : Option Addr) (a : Addr) : HO := .ext fun h => ∃ (oe : Obj) (vs : Array Value), h.get? a = some oe ∧ Zc cls d oe ∧ oe.data = .fields vs ∧ vs[1]? = some .none
/-- its attributes -/
def XdF (F : Hp) (d : Option Addr) (fs : List (Str × V)) : Prop := fs = [] ∧ d = none ∨ ∃ dd, d = some dd ∧ F dd = some (.xd fs)
section
variable (T : Th) (F : Hp) (al : Nat → Addr) (n : Nat)
mutual
inductive Rp : V → D → Prop
  | non : Rp .non .non
  | bl (b : Bool) : Rp (.bl b) (.bl b)
  | int (i : Int) : Rp (.int i) (.int i)
  | str (x : Str) : Rp (.str x) (.str x)
  | lst {a : Addr} {xs : List V} {ds : List D} : F a = some (.lst xs) → RpL xs ds → Rp (.ref a) (.lst ds)
  | tup {a : Addr} {xs : List V} {ds : List D} : F a = some (.tup xs) → RpL xs ds → Rp (.ref a) (.tup ds)
  | ins {a dx : Addr} {c : Nat} {fs : List (Str × V)} {ds : List (Str × D)} : Lv T.cls c → F a = some (.ins (T.cls c) dx fs) → RpF fs ds → Rp (.ref a) (.ins c ds)
  | dct {a : Addr} : F a = some (.dK []) → Rp (.ref a) (.dct [])
  | obj {k : Nat} : k < n → Rp (.ref (al k)) (.obj k)
  | frl {a : Addr} {xs : List V} {ds : List D} : SqL T.K F a xs → RpL xs ds → Rp (.ref a) (.frl ds)
  | frt {a : Addr} {xs : List V} {ds : List D} : SqT T.K F a xs → RpL xs ds → Rp (.ref a) (.frt ds)
  | exn {a : Addr} {d : Option Addr} {c : Nat} {fs : List (Str × V)} {ds : List (Str × D)} : F a = some (EXO (.ref (T.cls c)) d a) → XdF F d fs → RpF fs ds → Rp (.ref a) (.exn c ds)
  | dc1 {a : Addr} {x : Str} {v : V} {d : D} : F a = some (.dK [(.inr x, v)]) → Rp v d → Rp (.ref a) (.dct [(.str x, d)])
inductive RpL : List V → List D → Prop
  | nil : RpL [] []
  | cons {v : V} {vs : List V} {d : D} {ds : List D} : Rp v d → RpL vs ds → RpL (v :: vs) (d :: ds)
inductive RpF : List (Str × V) → List (Str × D) → Prop
  | nil : RpF [] []
  | cons {x : Str} {v : V} {vs : List (Str × V)} {d : D} {ds : List (Str × D)} : Rp v d → RpF vs ds → RpF ((x, v) :: vs) ((x, d) :: ds)
end
/-- what stands at an address for a changeable object -/
def Conc : HO → MO → Prop
  | .lst xs, .lst ds => RpL T F al n xs ds
  | .ins C _ fs, .ins c ds => (C = T.cls c ∧ Lv T.cls c) ∧ RpF T F al n fs ds
  | _, _ => False
end

theorem Conc.noTab {T : Th} {F : Hp} {al : Nat → Addr} {n : Nat} {o : HO} {m : MO} (h : Conc T F al n o m) : NoTab o := by
  refine ⟨fun ps z => ?_, fun c q z => ?_⟩
  · subst z
    cases m <;> exact h
  · subst z
    unfold LamX.CodeO at h
    cases m <;> exact h

theorem noTab_lst (xs : List V) : NoTab (.lst xs) := ⟨fun _ z => HO.noConfusion z, fun _ _ z => HO.noConfusion (show HO.lst xs = HO.ext _ from z)⟩
section
variable {T : Th} {F F' : Hp} {al al' : Nat → Addr} {n n' : Nat}
theorem xdF_mono {d : Option Addr} {fs : List (Str × V)} (s : ∀ a o, F a = some o → F' a = some o) (h : XdF F d fs) : XdF F' d fs := by
  rcases h with h | ⟨dd, e, h⟩
  · exact .inl h
  · exact .inr ⟨dd, e, s _ _ h⟩
theorem sqT_mono {K : PySem.W.Frag} {a : Addr} {xs : List V} (s : ∀ a o, F a = some o → F' a = some o) (h : F a = some (.tup xs)) : SqT K F' a xs := .inl (.inl (s _ _ h))
theorem sqL_mono {K : PySem.W.Frag} {a : Addr} {xs : List V} (s : ∀ a o, F a = some o → F' a = some o) (h : SqL K F a xs) : SqL K F' a xs := by
  rcases h with (h | ⟨o, h⟩) | h
  · exact .inl (.inl (s _ _ h))
  · exact .inl (.inr ⟨o, s _ _ h⟩)
  · exact .inr h
theorem sqTK_mono {K : PySem.W.Frag} {a : Addr} {xs : List V} (s : ∀ a o, F a = some o → F' a = some o) (h : SqT K F a xs) : SqT K F' a xs := by
  rcases h with (h | ⟨o, h⟩) | h
  · exact .inl (.inl (s _ _ h))
  · exact .inl (.inr ⟨o, s _ _ h⟩)
  · exact .inr h
mutual
theorem Rp.mono (s : ∀ a o, F a = some o → F' a = some o) (e : ∀ k, k < n → al' k = al k) (l : n ≤ n') : ∀ {d : D} {v : V}, Rp T F al n v d → Rp T F' al' n' v d
  | .non, _, h => by cases h; exact .non
  | .bl b, _, h => by cases h; exact .bl b
  | .int i, _, h => by cases h; exact .int i
  | .str x, _, h => by cases h; exact .str x
  | .lst ds, _, h => by cases h with | lst h1 h2 => exact .lst (s _ _ h1) (RpL.mono s e l h2)
  | .tup ds, _, h => by cases h with | tup h1 h2 => exact .tup (s _ _ h1) (RpL.mono s e l h2)
  | .dct kvs, _, h => by
    cases h with
    | dct h1 => exact .dct (s _ _ h1)
    | dc1 h1 h2 => exact .dc1 (s _ _ h1) (Rp.mono s e l h2)
  | .frl ds, _, h => by cases h with | frl h1 h2 => exact .frl (sqL_mono s h1) (RpL.mono s e l h2)
  | .frt ds, _, h => by cases h with | frt h1 h2 => exact .frt (sqTK_mono s h1) (RpL.mono s e l h2)
  | .ins c ds, _, h => by cases h with | ins h0 h1 h2 => exact .ins h0 (s _ _ h1) (RpF.mono s e l h2)
  | .exn c ds, _, h => by cases h with | exn h1 h2 h3 => exact .exn (s _ _ h1) (xdF_mono s h2) (RpF.mono s e l h3)
  | .obj k, _, h => by
    cases h with
    | obj h1 =>
      rw [← e k h1]
      exact .obj (Nat.lt_of_lt_of_le h1 l)
theorem RpL.mono (s : ∀ a o, F a = some o → F' a = some o) (e : ∀ k, k < n → al' k = al k) (l : n ≤ n') : ∀ {ds : List D} {vs : List V}, RpL T F al n vs ds → RpL T F' al' n' vs ds
  | [], _, h => by cases h; exact .nil
  | d :: ds, _, h => by cases h with | cons h1 h2 => exact .cons (Rp.mono s e l h1) (RpL.mono s e l h2)
theorem RpF.mono (s : ∀ a o, F a = some o → F' a = some o) (e : ∀ k, k < n → al' k = al k) (l : n ≤ n') : ∀ {ds : List (Str × D)} {vs : List (Str × V)}, RpF T F al n vs ds → RpF T F' al' n' vs ds
  | [], _, h => by cases h; exact .nil
  | (x, d) :: ds, _, h => by cases h with | cons h1 h2 => exact .cons (Rp.mono s e l h1) (RpF.mono s e l h2)
end
end
end DL
end

section
set_option Elab.async false
set_option linter.all false
set_option maxRecDepth 100000
set_option maxHeartbeats 4000000
/-! DB: the world of a frame, how it goes on; readings of denotations. -/
namespace DL
open PySem L2
variable {T : Th} {F F1 F2 : Hp} {al al1 al2 : Nat → Addr} {mu mu1 mu2 : Store} {H H1 H2 : Hp} {sl : Sl} {σ : St}

/-- the store stands in H, F is of H -/
structure Mus (T : Th) (F : Hp) (al : Nat → Addr) (mu : Store) (H : Hp) : Prop where
  sub : ∀ a o, F a = some o → H a = some o
  at_ : ∀ k m, mu[k]? = some (some m) → F (al k) = none ∧ ∃ o, H (al k) = some o ∧ Conc T F al mu.length o m
  inj : ∀ k m k' m', mu[k]? = some (some m) → mu[k']? = some (some m') → al k = al k' → k = k'
  tab : ∀ i, T.cls (2000 + i) ≠ 0 → LamX.TabS H (T.cls (2000 + i)) (qn i)
  nt : ∀ a o, F a = some o → ∀ ps, o ≠ .tbl ps

structure Wd (T : Th) (F : Hp) (al : Nat → Addr) (sl : Sl) (mu : Store) (σ : St) (H : Hp) : Prop extends Mus T F al mu H where
  len : σ.length = sl.length
  val : ∀ (i : Nat) d, sl[i]? = some (some (SV.val d)) → ∃ v, σ[i]? = some (some v) ∧ Rp T F al mu.length v d
  own : ∀ (i : Nat) m, sl[i]? = some (some (SV.own m)) → ∃ a o, σ[i]? = some (some (V.ref a)) ∧ F a = none ∧ H a = some o ∧ Conc T F al mu.length o m ∧ ∀ k m', mu[k]? = some (some m') → al k ≠ a
  apart : ∀ (i j : Nat) m m' a, i ≠ j → sl[i]? = some (some (SV.own m)) → sl[j]? = some (some (SV.own m')) → σ[i]? = some (some (V.ref a)) → σ[j]? = some (some (V.ref a)) → False

structure Ext (T : Th) (F : Hp) (al : Nat → Addr) (mu : Store) (H : Hp) (F' : Hp) (al' : Nat → Addr) (mu' : Store) (H' : Hp) : Prop where
  mus : Mus T F' al' mu' H'
  sub : ∀ a o, F a = some o → F' a = some o
  new : ∀ a o, F' a = some o → F a = some o ∨ Fre H a ∨ ∃ k m, mu[k]? = some (some m) ∧ al k = a
  keep : ∀ a o, H a = some o → (∀ ps, o ≠ .tbl ps) → (∀ k m, mu[k]? = some (some m) → al k ≠ a) → H' a = some o
  there : ∀ a, Fre H' a → Fre H a
  als : ∀ k, k < mu.length → al' k = al k
  ln : mu.length ≤ mu'.length
  fresh : ∀ k m, mu'[k]? = some (some m) → (∃ m0, mu[k]? = some (some m0)) ∨ Fre H (al' k)

theorem lt_of_live {k : Nat} {m : MO} (h : mu[k]? = some (some m)) : k < mu.length := (List.getElem?_eq_some_iff.mp h).1
theorem Ext.refl (h : Mus T F al mu H) : Ext T F al mu H F al mu H :=
  ⟨h, fun _ _ e => e, fun _ _ e => .inl e, fun _ _ e _ _ => e, fun _ e => e, fun _ _ => rfl, Nat.le_refl _, fun k m e => .inl ⟨m, e⟩⟩
theorem Ext.trans (a : Ext T F al mu H F1 al1 mu1 H1) (b : Ext T F1 al1 mu1 H1 F2 al2 mu2 H2) : Ext T F al mu H F2 al2 mu2 H2 where
  mus := b.mus
  sub := fun x o e => b.sub x o (a.sub x o e)
  new := fun x o e => by
    rcases b.new x o e with h | h | ⟨k, m, e1, e2⟩
    · exact a.new x o h
    · exact .inr (.inl (a.there x h))
    · rcases a.fresh k m e1 with ⟨m0, h⟩ | h
      · exact .inr (.inr ⟨k, m0, h, by rw [← a.als k (lt_of_live h)]; exact e2⟩)
      · exact .inr (.inl (by rw [← e2]; exact h))
  keep := fun x o e t n => b.keep x o (a.keep x o e t n) t fun k m e1 e2 => by
    rcases a.fresh k m e1 with ⟨m0, h⟩ | h
    · exact n k m0 h (by rw [← a.als k (lt_of_live h)]; exact e2)
    · rw [e2] at h; exact h.no e t
  there := fun x e => a.there x (b.there x e)
  als := fun k hk => (b.als k (Nat.lt_of_lt_of_le hk a.ln)).trans (a.als k hk)
  ln := Nat.le_trans a.ln b.ln
  fresh := fun k m e => by
    rcases b.fresh k m e with ⟨m0, h⟩ | h
    · rcases a.fresh k m0 h with h' | h'
      · exact .inl h'
      · exact .inr (by rw [b.als k (lt_of_live h)]; exact h')
    · exact .inr (a.there _ h)

theorem Ext.rp (a : Ext T F al mu H F1 al1 mu1 H1) {v : V} {d : D} (h : Rp T F al mu.length v d) : Rp T F1 al1 mu1.length v d := h.mono a.sub a.als a.ln
theorem Ext.rpL (a : Ext T F al mu H F1 al1 mu1 H1) {v : List V} {d : List D} (h : RpL T F al mu.length v d) : RpL T F1 al1 mu1.length v d := h.mono a.sub a.als a.ln
theorem Conc.mono {n n' : Nat} (s : ∀ a o, F a = some o → F1 a = some o) (e : ∀ k, k < n → al1 k = al k) (l : n ≤ n') {o : HO} {m : MO} (h : Conc T F al n o m) : Conc T F1 al1 n' o m := by
  cases o <;> cases m <;> first
    | exact False.elim h
    | exact RpL.mono s e l h
    | exact ⟨h.1, RpF.mono s e l h.2⟩
theorem Ext.conc (a : Ext T F al mu H F1 al1 mu1 H1) {o : HO} {m : MO} (h : Conc T F al mu.length o m) : Conc T F1 al1 mu1.length o m := h.mono a.sub a.als a.ln
theorem Wd.ext (w : Wd T F al sl mu σ H) (a : Ext T F al mu H F1 al1 mu1 H1) : Wd T F1 al1 sl mu1 σ H1 where
  toMus := a.mus
  len := w.len
  val := fun i d e => by
    obtain ⟨v, h1, h2⟩ := w.val i d e
    exact ⟨v, h1, a.rp h2⟩
  own := fun i m e => by
    obtain ⟨x, o, h1, h2, h3, h4, h5⟩ := w.own i m e
    refine ⟨x, o, h1, ?_, a.keep x o h3 h4.noTab.1 h5, a.conc h4, fun k m' e' z => ?_⟩
    · cases q : F1 x with
      | none => rfl
      | some u =>
        rcases a.new x u q with h | h | ⟨k, m', e1, e2⟩
        · rw [h2] at h; cases h
        · exact (h.no h3 h4.noTab.1).elim
        · exact absurd e2 (h5 k m' e1)
    · rcases a.fresh k m' e' with ⟨m0, h⟩ | h
      · exact h5 k m0 h (by rw [← a.als k (lt_of_live h)]; exact z)
      · rw [z] at h; exact (h.no h3 h4.noTab.1).elim
  apart := w.apart
/-- a new object, frozen or not -/
theorem nt_upd {F : Hp} {p : Addr} {o : HO} (h : ∀ a o, F a = some o → ∀ ps, o ≠ .tbl ps) (k : ∀ ps, o ≠ .tbl ps) : ∀ a u, upd F p o a = some u → ∀ ps, u ≠ .tbl ps := fun a u e => by
  by_cases z : a = p
  · subst z; rw [upd_same] at e; cases e; exact k
  · rw [upd_ne z] at e; exact h a u e
theorem Mus.laidF (h : Mus T F al mu H) {p : Addr} {o : HO} (hp : H p = none) (nt : ∀ ps, o ≠ .tbl ps := by intro _ z; cases z) : Mus T (upd F p o) al mu (upd H p o) := by
  have hF : F p = none := by
    cases q : F p with
    | none => rfl
    | some u => rw [h.sub p u q] at hp; cases hp
  refine ⟨fun a u e => ?_, fun k m e => ?_, h.inj, fun i e => tab_upd (.inl hp) (h.tab i e), nt_upd h.nt nt⟩
  · by_cases z : a = p
    · subst z; rw [upd_same] at e ⊢; exact e
    · rw [upd_ne z] at e ⊢; exact h.sub a u e
  · obtain ⟨h1, o', h2, h3⟩ := h.at_ k m e
    have ne : al k ≠ p := fun z => by rw [z, hp] at h2; cases h2
    refine ⟨by rw [upd_ne ne]; exact h1, o', by rw [upd_ne ne]; exact h2, h3.mono (fun a u e => ?_) (fun _ _ => rfl) (Nat.le_refl _)⟩
    rw [upd_ne (ne_of_none e hF)]; exact e
theorem Mus.laidH (h : Mus T F al mu H) {p : Addr} {o : HO} (hp : H p = none) : Mus T F al mu (upd H p o) := by
  refine ⟨fun a u e => ?_, fun k m e => ?_, h.inj, fun i e => tab_upd (.inl hp) (h.tab i e), h.nt⟩
  · rw [upd_ne (ne_of_none (h.sub a u e) hp)]; exact h.sub a u e
  · obtain ⟨h1, o', h2, h3⟩ := h.at_ k m e
    exact ⟨h1, o', by rw [upd_ne (ne_of_none h2 hp)]; exact h2, h3⟩
theorem there_upd {p : Addr} {o : HO} (h : H p = none ∨ ∀ ps, o ≠ .tbl ps) : ∀ a, Fre (upd H p o) a → Fre H a := fun a e => by
  by_cases z : a = p
  · subst z
    rcases h with h | h
    · exact .of h
    · exact (e.no upd_same h).elim
  · intro u q
    exact e u (by rw [upd_ne z]; exact q)
theorem Ext.laidF (h : Mus T F al mu H) {p : Addr} {o : HO} (hp : H p = none) (nt : ∀ ps, o ≠ .tbl ps := by intro _ z; cases z) : Ext T F al mu H (upd F p o) al mu (upd H p o) := by
  have hF : F p = none := by
    cases q : F p with
    | none => rfl
    | some u => rw [h.sub p u q] at hp; cases hp
  refine ⟨h.laidF hp nt, fun a u e => by rw [upd_ne (ne_of_none e hF)]; exact e, fun a u e => ?_, fun a u e _ _ => by rw [upd_ne (ne_of_none e hp)]; exact e, there_upd (.inl hp), fun _ _ => rfl, Nat.le_refl _, fun k m e => .inl ⟨m, e⟩⟩
  by_cases z : a = p
  · subst z; exact .inr (.inl (.of hp))
  · rw [upd_ne z] at e; exact .inl e
theorem Ext.laidH (h : Mus T F al mu H) {p : Addr} {o : HO} (hp : H p = none) : Ext T F al mu H F al mu (upd H p o) :=
  ⟨h.laidH hp, fun _ _ e => e, fun _ _ e => .inl e, fun a u e _ _ => by rw [upd_ne (ne_of_none e hp)]; exact e, there_upd (.inl hp), fun _ _ => rfl, Nat.le_refl _, fun k m e => .inl ⟨m, e⟩⟩
theorem Mus.F_none (h : Mus T F al mu H) {p : Addr} (hp : H p = none) : F p = none := by
  cases q : F p with
  | none => rfl
  | some u => rw [h.sub p u q] at hp; cases hp

/-! ### what a denotation's reading asks -/
/-- how an exception's fields stand -/
def ExR (T : Th) (F : Hp) (al : Nat → Addr) (n : Nat) (H : Hp) (d : Option Addr) (fs : List (Str × D)) : Prop :=
  fs = [] ∨ ∃ dx vs, d = some dx ∧ H dx = some (.xd vs) ∧ RpF T F al n vs fs
/-- the relation of what is handed on to what it stands for: the heap ahead, the frozen part, the store's places, the store, the heap -/
abbrev Rel (β α : Type) := Hp → Hp → (Nat → Addr) → Store → Hp → β → α → Prop
def Po {α β : Type} (T : Th) (W : WX) (F : Hp) (al : Nat → Addr) (mu : Store) (σ : St) (H : Hp) (R : Rel β α) (o : Out α) (Q : β → Hp → Prop) : Prop :=
  match o with
  | .ok d mu' => ∀ v F' al' H', Ext T F al mu H F' al' mu' H' → R H F' al' mu' H' v d → Q v H'
  | .ex c fs mu' => ∀ dx F' al' H', Ext T F al mu H F' al' mu' H' → ExR T F' al' mu'.length H' dx fs → W (.ref (T.cls c)) dx σ H'
  | .bad => False
def tG {α β : Type} (T : Th) (W : WX) (R : Rel β α) (f : Sl → Store → Out α) : St → Hp → (β → Hp → Prop) → Prop :=
  fun σ H Q => ∃ F al sl mu, Wd T F al sl mu σ H ∧ Po T W F al mu σ H R (f sl mu) Q
abbrev EF := Sl → Store → Out D
/-- data | a row of data | a new object | a truth value -/
def RD (T : Th) : Rel V D := fun _ F al mu _ v d => Rp T F al mu.length v d
def RLs (T : Th) : Rel (List V) (List D) := fun _ F al mu _ v d => RpL T F al mu.length v d
def RN (T : Th) : Rel V MO := fun H0 F al mu H v m => ∃ a o, v = .ref a ∧ Fre H0 a ∧ F a = none ∧ H a = some o ∧ Conc T F al mu.length o m ∧ ∀ k m', mu[k]? = some (some m') → al k ≠ a
def RB : Rel Bool Bool := fun _ _ _ _ _ v d => v = d
def obind {α β : Type} (o : Out α) (g : α → Store → Out β) : Out β :=
  match o with
  | .ok d mu => g d mu
  | .ex c fs mu => .ex c fs mu
  | .bad => .bad
/-- then -/
def dBind {α β : Type} (f : Sl → Store → Out α) (g : α → Sl → Store → Out β) : Sl → Store → Out β := fun sl mu => obind (f sl mu) fun d mu => g d sl mu
/-- a relation that does not mind an older heap ahead -/
def Back {α β : Type} (R : Rel β α) : Prop := ∀ H0 H1 F al mu H v d, (∀ a, Fre H1 a → Fre H0 a) → R H1 F al mu H v d → R H0 F al mu H v d
theorem back_RD : Back (RD T) := fun _ _ _ _ _ _ _ _ _ h => h
theorem back_RLs : Back (RLs T) := fun _ _ _ _ _ _ _ _ _ h => h
theorem back_RB : Back RB := fun _ _ _ _ _ _ _ _ _ h => h
theorem back_RN : Back (RN T) := fun _ _ _ _ _ _ _ _ e ⟨a, o, h1, h2, h3⟩ => ⟨a, o, h1, e a h2, h3⟩
section
variable {α β γ δ : Type} {W : WX} {R : Rel β α} {R2 : Rel δ γ}
theorem Po.step {o : Out γ} {Q : δ → Hp → Prop} (hb : Back R2) (x : Ext T F al mu H F1 al1 mu1 H1) (h : Po T W F al mu σ H R2 o Q) : Po T W F1 al1 mu1 σ H1 R2 o Q := by
  cases o with
  | ok d2 mu2 => exact fun v2 F2 al2 H2 x2 r => h v2 F2 al2 H2 (x.trans x2) (hb _ _ _ _ _ _ _ _ x.there r)
  | ex c fs mu2 => exact fun dx F2 al2 H2 x2 => h dx F2 al2 H2 (x.trans x2)
  | bad => exact h
/-- from a reading of a whole to that of its first part -/
theorem seqG (hb : Back R2) {f : Sl → Store → Out α} {o : Out γ} {g : α → Store → Out γ} {Q : δ → Hp → Prop} {P : β → Hp → Prop} (w : Wd T F al sl mu σ H) (h : Po T W F al mu σ H R2 o Q) (e : o = obind (f sl mu) g)
    (k : ∀ v d F1 al1 mu1 H1, Ext T F al mu H F1 al1 mu1 H1 → Wd T F1 al1 sl mu1 σ H1 → R H F1 al1 mu1 H1 v d → Po T W F1 al1 mu1 σ H1 R2 (g d mu1) Q → P v H1) : tG T W R f σ H P := by
  refine ⟨F, al, sl, mu, w, ?_⟩
  subst e
  cases q : f sl mu with
  | ok d mu1 =>
    rw [q] at h
    intro v F1 al1 H1 x r
    exact k v d F1 al1 mu1 H1 x (w.ext x) r (Po.step hb x (show Po T W F al mu σ H R2 (g d mu1) Q from h))
  | ex c fs mu1 => rw [q] at h; exact h
  | bad => rw [q] at h; exact h
theorem Po.here {d : α} {Q : β → Hp → Prop} {v : β} (h : Po T W F al mu σ H R (.ok d mu) Q) (m : Mus T F al mu H) (r : R H F al mu H v d) : Q v H := h v F al H (Ext.refl m) r
end
theorem PE.imp {X : Cx} {e : PySem.Expr} {t t' : TE} (h : PE X e t) (i : ∀ σ H Q, t' σ H Q → t σ H Q) : PE X e t' := ⟨fun pins s σ H Q I q => h.run pins s σ H Q I (i σ H Q q)⟩
theorem PT.imp {X : Cx} {e : PySem.Expr} {t t' : TT} (h : PT X e t) (i : ∀ σ H Q, t' σ H Q → t σ H Q) : PT X e t' := ⟨fun pins s σ H Q I q => h.run pins s σ H Q I (i σ H Q q)⟩
theorem PA.imp {X : Cx} {e : List PySem.Expr} {t t' : TA} (h : PA X e t) (i : ∀ σ H Q, t' σ H Q → t σ H Q) : PA X e t' := ⟨fun pos pins s σ H Q I q => h.run pos pins s σ H Q I (i σ H Q q)⟩
theorem PS.imp {X : Cx} {e : PySem.Stmt} {t t' : TS} (h : PS X e t) (i : ∀ D σ H, t' D σ H → t D σ H) : PS X e t' := ⟨fun pins s σ H D I q => h.run pins s σ H D I (i D σ H q)⟩
theorem PSs.imp {X : Cx} {e : List PySem.Stmt} {t t' : TS} (h : PSs X e t) (i : ∀ D σ H, t' D σ H → t D σ H) : PSs X e t' := ⟨fun pins s σ H D I q => h.run pins s σ H D I (i D σ H q)⟩

/-- a new object is frozen -/
def MO.d : MO → D
  | .lst l => .lst l
  | .dct l => .dct l
  | .ins c fs => .ins c fs
theorem Ext.freeze {a : Addr} {o : HO} (x : Ext T F al mu H F1 al1 mu1 H1) (h0 : Fre H a) (h1 : F1 a = none) (h2 : H1 a = some o) (nt : ∀ ps, o ≠ .tbl ps) (ne : ∀ k m', mu1[k]? = some (some m') → al1 k ≠ a) : Ext T F al mu H (upd F1 a o) al1 mu1 H1 := by
  have up : ∀ b u, F1 b = some u → upd F1 a o b = some u := fun b u e => by rw [upd_ne (ne_of_none e h1)]; exact e
  refine ⟨⟨fun b u e => ?_, fun k m e => ?_, x.mus.inj, x.mus.tab, nt_upd x.mus.nt nt⟩, fun b u e => up b u (x.sub b u e), fun b u e => ?_, x.keep, x.there, x.als, x.ln, x.fresh⟩
  · by_cases z : b = a
    · subst z; rw [upd_same] at e; cases e; exact h2
    · rw [upd_ne z] at e; exact x.mus.sub b u e
  · obtain ⟨g1, o', g2, g3⟩ := x.mus.at_ k m e
    exact ⟨by rw [upd_ne (ne k m e)]; exact g1, o', g2, g3.mono up (fun _ _ => rfl) (Nat.le_refl _)⟩
  · by_cases z : b = a
    · subst z; exact .inr (.inl h0)
    · rw [upd_ne z] at e; exact x.new b u e
theorem rp_freeze {n : Nat} {a : Addr} {o : HO} {m : MO} (h1 : F a = none) (h : Conc T F al n o m) (k : ∀ kvs, m ≠ .dct kvs) : Rp T (upd F a o) al n (.ref a) m.d := by
  have up : ∀ b u, F b = some u → upd F a o b = some u := fun b u e => by rw [upd_ne (ne_of_none e h1)]; exact e
  cases o <;> cases m <;> first
    | exact False.elim h
    | exact .lst upd_same (RpL.mono up (fun _ _ => rfl) (Nat.le_refl _) h)
    | (obtain ⟨⟨h2, h4⟩, h3⟩ := h; subst h2; exact .ins h4 upd_same (RpF.mono up (fun _ _ => rfl) (Nat.le_refl _) h3))
end DL
end

section
set_option Elab.async false
set_option linter.all false
set_option maxRecDepth 100000
set_option maxHeartbeats 4000000
/-! DC: expressions, tests, arguments. -/
namespace DL
open PySem L2

abbrev BF := Sl → Store → Out Bool
abbrev LF := Sl → Store → Out (List D)
abbrev NF := Sl → Store → Out MO
abbrev Cx.th (X : Cx) (cl : Nat → Addr) : Th := ⟨X.K, cl⟩
abbrev DE (X : Cx) (cl : Nat → Addr) (W : WX) (e : PySem.Expr) (f : EF) : Prop := PE X e (tG (Cx.th X cl) W (RD (Cx.th X cl)) f)
abbrev DN (X : Cx) (cl : Nat → Addr) (W : WX) (e : PySem.Expr) (f : NF) : Prop := PE X e (tG (Cx.th X cl) W (RN (Cx.th X cl)) f)
abbrev DAs (X : Cx) (cl : Nat → Addr) (W : WX) (e : List PySem.Expr) (f : LF) : Prop := PA X e (tG (Cx.th X cl) W (RLs (Cx.th X cl)) f)
abbrev DT (X : Cx) (cl : Nat → Addr) (W : WX) (e : PySem.Expr) (f : BF) : Prop := PT X e (tG (Cx.th X cl) W RB f)
abbrev DW (X : Cx) (cl : Nat → Addr) (W : WX) (e : PySem.Expr) (f : BF) : Prop := PW X e (tG (Cx.th X cl) W RB f)

/-! ### denotations -/
def dVar (i : Nat) : EF := fun sl mu => match sl[i]? with
  | some (some (.val d)) => .ok d mu
  | _ => .bad
def dC (d : D) : EF := fun _ mu => .ok d mu
def dNil : LF := fun _ mu => .ok [] mu
def dCons (f : EF) (g : LF) : LF := dBind f fun d => dBind g fun ds _ mu => .ok (d :: ds) mu
def dTup (g : LF) : EF := dBind g fun ds _ mu => .ok (.tup ds) mu
def dLst (g : LF) : NF := dBind g fun ds _ mu => .ok (.lst ds) mu
def dFrz (f : NF) : EF := dBind f fun m _ mu => match m with
  | .dct _ => .bad
  | m => .ok m.d mu
def dOp1 (g : D → Option D) (f : EF) : EF := dBind f fun d _ mu => match g d with
  | some r => .ok r mu
  | none => .bad
def dOp2 (g : D → D → Option D) (fa fb : EF) : EF := dBind fa fun x => dBind fb fun y _ mu => match g x y with
  | some r => .ok r mu
  | none => .bad
def dCmp (g : D → D → Option Bool) (fa fb : EF) : BF := dBind fa fun x => dBind fb fun y _ mu => match g x y with
  | some r => .ok r mu
  | none => .bad
def dB2v (f : BF) : EF := dBind f fun b _ mu => .ok (.bl b) mu
def dTst (f : EF) : BF := dBind f fun d _ mu => match d with
  | .bl b => .ok b mu
  | _ => .bad
def dAnd (f g : BF) : BF := dBind f fun b sl mu => if b = true then g sl mu else .ok false mu
def dOr (f g : BF) : BF := dBind f fun b sl mu => if b = true then .ok true mu else g sl mu
def dNot (f : BF) : BF := dBind f fun b _ mu => .ok (!b) mu
def dIf {α : Type} (c : BF) (f g : Sl → Store → Out α) : Sl → Store → Out α := dBind c fun b sl mu => if b = true then f sl mu else g sl mu

/-! ### names, constants -/
section
variable {X : Cx} {cl : Nat → Addr} {W : WX} {a b e : PySem.Expr} {es rest : List PySem.Expr} {fa fb f : EF} {pos : Pos}
theorem de_var {i : Nat} (h : PE X e (tVar i)) : DE X cl W e (dVar i) := by
  refine PE.imp h fun σ H Q q => ?_
  obtain ⟨F, al, sl, mu, w, po⟩ := q
  unfold dVar at po
  split at po
  · rename_i d hd
    obtain ⟨v, h1, h2⟩ := w.val i d hd
    exact ⟨v, h1, Po.here po w.toMus h2⟩
  · exact False.elim po
theorem de_c {v : V} {d : D} (h : PE X e (tC v)) (r : ∀ F al n, Rp (Cx.th X cl) F al n v d) : DE X cl W e (dC d) := by
  refine PE.imp h fun σ H Q q => ?_
  obtain ⟨F, al, sl, mu, w, po⟩ := q
  exact Po.here po w.toMus (r F al _)
theorem de_int {i : Int} {j : Nat} : DE X cl W (.Constant (.int i) j pos) (dC (.int i)) := de_c pe_int fun _ _ _ => .int i
theorem de_bl {i : Bool} {j : Nat} : DE X cl W (.Constant (.bool i) j pos) (dC (.bl i)) := de_c pe_bl fun _ _ _ => .bl i
theorem de_non {j : Nat} : DE X cl W (.Constant .none j pos) (dC .non) := de_c pe_non fun _ _ _ => .non
theorem de_str {x : Str} {j : Nat} : DE X cl W (.Constant (.str x) j pos) (dC (.str x)) := de_c pe_str fun _ _ _ => .str x

/-! ### arguments, displays -/
theorem da_nil : DAs X cl W [] dNil := PA.imp pa_nil fun σ H Q q => by
  obtain ⟨F, al, sl, mu, w, po⟩ := q
  exact Po.here po w.toMus .nil
theorem da_cons {g : LF} (ha : DE X cl W a fa) (hr : DAs X cl W es g) (hs : starEach (a :: es) X.env = (false, eval a X.env) :: starEach es X.env := by rfl) : DAs X cl W (a :: es) (dCons fa g) :=
  PA.imp (pa_cons ha hr hs) fun σ H Q q => by
    obtain ⟨F, al, sl, mu, w, po⟩ := q
    refine seqG back_RLs w po rfl fun v d F1 al1 mu1 H1 x1 w1 r1 po1 => ?_
    refine seqG back_RLs w1 po1 rfl fun vs ds F2 al2 mu2 H2 x2 w2 r2 po2 => ?_
    exact Po.here po2 w2.toMus (.cons (x2.rp r1) r2)
theorem RpL.len {T : Th} {F : Hp} {al : Nat → Addr} {n : Nat} : ∀ {vs : List V} {ds : List D}, RpL T F al n vs ds → vs.length = ds.length
  | [], [], _ => rfl
  | v :: vs, d :: ds, h => by
    cases h with
    | cons _ h2 => rw [List.length_cons, List.length_cons, RpL.len h2]
  | [], d :: ds, h => by cases h
  | v :: vs, [], h => by cases h
def Len (g : LF) (n : Nat) : Prop := ∀ sl mu ds mu', g sl mu = .ok ds mu' → ds.length = n
theorem len_nil : Len dNil 0 := fun sl mu ds mu' h => by cases h; rfl
theorem len_cons {g : LF} {n : Nat} (h : Len g n) : Len (dCons fa g) (n + 1) := fun sl mu ds mu' e => by
  unfold dCons dBind obind at e
  split at e
  · rename_i d mu1 _
    dsimp only at e
    split at e
    · rename_i ds1 mu2 e2
      cases e
      rw [List.length_cons, h _ _ _ _ e2]
    · cases e
    · cases e
  · cases e
  · cases e
theorem le_line {n : Nat} (h : n ≤ 10000) : n ≤ sizeLine := by rw [sizeLine_eq]; omega
theorem de_tup {g : LF} {n k : Nat} (ha : DAs X cl W es g) (hl : Len g n) (hn : n ≤ 10000 := by decide) : DE X cl W (.Tuple es k pos) (dTup g) :=
  PE.imp (pe_tup ha) fun σ H Q q => by
    obtain ⟨F, al, sl, mu, w, po⟩ := q
    refine ⟨F, al, sl, mu, w, ?_⟩
    unfold dTup dBind obind at po
    cases q : g sl mu with
    | ok ds mu1 =>
      rw [q] at po
      intro vs F1 al1 H1 x r
      refine ⟨by rw [RpL.len r, hl _ _ _ _ q]; exact le_line hn, fun p hp => ?_⟩
      have x2 := x.trans (Ext.laidF x.mus (o := .tup vs) hp)
      exact po _ _ _ _ x2 (.tup upd_same ((Ext.laidF x.mus hp).rpL r))
    | ex c fs mu1 => rw [q] at po; exact po
    | bad => rw [q] at po; exact po
theorem Mus.ne_laid {T : Th} {F : Hp} {al : Nat → Addr} {mu : Store} {H : Hp} {p : Addr} (m : Mus T F al mu H) (hp : H p = none) : ∀ k m', mu[k]? = some (some m') → al k ≠ p := fun k m' e z => by
  obtain ⟨_, o, h, _⟩ := m.at_ k m' e
  rw [z, hp] at h; cases h
theorem dn_lst {g : LF} {n : Nat} (ha : DAs X cl W es g) (hl : Len g n) (hn : n ≤ 10000 := by decide) : DN X cl W (.List es pos) (dLst g) :=
  PE.imp (pe_lst ha) fun σ H Q q => by
    obtain ⟨F, al, sl, mu, w, po⟩ := q
    refine ⟨F, al, sl, mu, w, ?_⟩
    unfold dLst dBind obind at po
    cases q : g sl mu with
    | ok ds mu1 =>
      rw [q] at po
      intro vs F1 al1 H1 x r
      refine ⟨by rw [RpL.len r, hl _ _ _ _ q]; exact le_line hn, fun p hp => ?_⟩
      have x2 := x.trans (Ext.laidH x.mus (o := .lst vs) hp)
      exact po _ _ _ _ x2 ⟨p, _, rfl, x.there p (.of hp), x.mus.F_none hp, upd_same, r, Mus.ne_laid x.mus hp⟩
    | ex c fs mu1 => rw [q] at po; exact po
    | bad => rw [q] at po; exact po
/-- a new object, frozen at once -/
theorem de_frz {f : NF} (h : DN X cl W e f) : DE X cl W e (dFrz f) := PE.imp h fun σ H Q q => by
  obtain ⟨F, al, sl, mu, w, po⟩ := q
  refine ⟨F, al, sl, mu, w, ?_⟩
  unfold dFrz dBind obind at po
  cases q : f sl mu with
  | ok m mu1 =>
    rw [q] at po
    intro v F1 al1 H1 x r
    obtain ⟨a, o, rfl, h0, h1, h2, h3, h4⟩ := r
    have x2 := x.freeze h0 h1 h2 h3.noTab.1 h4
    cases m with
    | dct kvs => exact False.elim po
    | lst l => exact po _ _ _ _ x2 (rp_freeze (m := .lst l) h1 h3 fun _ z => nomatch z)
    | ins c fs => exact po _ _ _ _ x2 (rp_freeze (m := .ins c fs) h1 h3 fun _ z => nomatch z)
  | ex c fs mu1 => rw [q] at po; exact po
  | bad => rw [q] at po; exact po

/-! ### operators -/
def Pur2 (T : Th) (r : R2) (g : D → D → Option D) : Prop := ∀ (F : Hp) (al : Nat → Addr) (mu : Store) (H : Hp), Mus T F al mu H → ∀ (x y : V) (d e res : D), Rp T F al mu.length x d → Rp T F al mu.length y e → g d e = some res → ∀ Q : VK,
  (∀ v F' H', Ext T F al mu H F' al mu H' → Rp T F' al mu.length v res → Q v H') → r x y H Q
def PurB (T : Th) (r : R2) (g : D → D → Option Bool) : Prop := ∀ (F : Hp) (al : Nat → Addr) (mu : Store) (H : Hp), Mus T F al mu H → ∀ (x y : V) (d e : D) (res : Bool), Rp T F al mu.length x d → Rp T F al mu.length y e → g d e = some res → ∀ Q : VK,
  Q (.bl res) H → r x y H Q
theorem tOp_of {r : R2} {g : D → D → Option D} (hr : Pur2 (Cx.th X cl) r g) {σ : St} {H : Hp} {Q : VK} (q : tG (Cx.th X cl) W (RD (Cx.th X cl)) (dOp2 g fa fb) σ H Q) : tOp r (tG (Cx.th X cl) W (RD (Cx.th X cl)) fa) (tG (Cx.th X cl) W (RD (Cx.th X cl)) fb) σ H Q := by
  obtain ⟨F, al, sl, mu, w, po⟩ := q
  refine seqG back_RD w po rfl fun v d F1 al1 mu1 H1 x1 w1 r1 po1 => ?_
  refine seqG back_RD w1 po1 rfl fun u e F2 al2 mu2 H2 x2 w2 r2 po2 => ?_
  dsimp only at po2
  cases z : g d e with
  | none => rw [z] at po2; exact False.elim po2
  | some res =>
    rw [z] at po2
    exact hr F2 al2 mu2 H2 w2.toMus v u d e res (x2.rp r1) r2 z Q fun v' F' H' x' r' => po2 v' F' al2 H' x' r'
theorem de_op {op : Operator} {r : R2} {g : D → D → Option D} (ho : OpR X (binaryOp op) r) (hr : Pur2 (Cx.th X cl) r g) (ha : DE X cl W a fa) (hb : DE X cl W b fb) : DE X cl W (.BinOp a op b pos) (dOp2 g fa fb) :=
  PE.imp (pe_op ho ha hb) fun σ H Q q => tOp_of hr q
theorem tCmp_of {r : R2} {g : D → D → Option Bool} (hr : PurB (Cx.th X cl) r g) {σ : St} {H : Hp} {Q : VK} (q : tG (Cx.th X cl) W (RD (Cx.th X cl)) (dB2v (dCmp g fa fb)) σ H Q) : tOp r (tG (Cx.th X cl) W (RD (Cx.th X cl)) fa) (tG (Cx.th X cl) W (RD (Cx.th X cl)) fb) σ H Q := by
  have q' : tG (Cx.th X cl) W (RD (Cx.th X cl)) (dOp2 (fun x y => (g x y).map D.bl) fa fb) σ H Q := by
    have e : dB2v (dCmp g fa fb) = dOp2 (fun x y => (g x y).map D.bl) fa fb := by
      funext sl mu
      unfold dB2v dCmp dOp2 dBind obind
      cases fa sl mu with
      | ok x mu1 =>
        dsimp only
        cases fb sl mu1 with
        | ok y mu2 => dsimp only; cases g x y <;> rfl
        | ex _ _ _ => rfl
        | bad => rfl
      | ex _ _ _ => rfl
      | bad => rfl
    rw [← e]; exact q
  refine tOp_of (g := fun x y => (g x y).map D.bl) (fun F al mu H m x y d e res rx ry z Q k => ?_) q'
  obtain ⟨b, h1, rfl⟩ := Option.map_eq_some_iff.mp z
  exact hr F al mu H m x y d e b rx ry h1 Q (k _ _ _ (Ext.refl m) (.bl b))
theorem de_cmp {op : CmpOp} {r : R2} {g : D → D → Option Bool} (ho : OpR X (compareOp op) r) (hm : behindInMarks op b = false) (hr : PurB (Cx.th X cl) r g) (ha : DE X cl W a fa) (hb : DE X cl W b fb) : DE X cl W (.Compare a [op] [b] pos) (dB2v (dCmp g fa fb)) :=
  PE.imp (pe_cmpR ho ha hb hm) fun σ H Q q => tCmp_of hr q

/-! ### tests -/
theorem tB2v {f : BF} {σ : St} {H : Hp} {Q : Bool → Hp → Prop} (q : tG (Cx.th X cl) W RB f σ H Q) : tG (Cx.th X cl) W (RD (Cx.th X cl)) (dB2v f) σ H fun x H' => ∃ c, x = .bl c ∧ Q c H' := by
  obtain ⟨F, al, sl, mu, w, po⟩ := q
  refine ⟨F, al, sl, mu, w, ?_⟩
  unfold dB2v dBind obind
  cases z : f sl mu with
  | ok b mu1 =>
    rw [z] at po
    intro v F1 al1 H1 x r
    cases r
    exact ⟨b, rfl, po b F1 al1 H1 x rfl⟩
  | ex c fs mu1 => rw [z] at po; exact po
  | bad => rw [z] at po; exact po
theorem dt_cmp {f : BF} (h : DE X cl W e (dB2v f)) (he : ∀ whole, isTrue e X.env whole = (do let v ← whole; standAt e.pos; holding [v] (truthy v)) := by intro _; rfl) : DT X cl W e f := PT.imp (pt_val h he) fun σ H Q q => tB2v q
theorem PW.imp {t t' : TT} (h : PW X e t) (i : ∀ σ H Q, t' σ H Q → t σ H Q) : PW X e t' := ⟨fun whole pins s σ H Q I q => h.run whole pins s σ H Q I (i σ H Q q)⟩
theorem dw_or1 {f : BF} (h : DT X cl W a f) : DW X cl W (.BoolOp .Or [a] pos) f := pw_or1 h
theorem dw_or {f g : BF} (h : DT X cl W a f) (hr : DW X cl W (.BoolOp .Or (b :: rest) pos) g) : DW X cl W (.BoolOp .Or (a :: b :: rest) pos) (dOr f g) :=
  PW.imp (pw_or h hr) fun σ H Q q => by
    obtain ⟨F, al, sl, mu, w, po⟩ := q
    refine seqG back_RB w po rfl fun v d F1 al1 mu1 H1 x1 w1 r1 po1 => ?_
    cases r1
    dsimp only at po1
    split
    · rename_i hb
      rw [if_pos hb] at po1
      exact Po.here po1 w1.toMus rfl
    · rename_i hb
      rw [if_neg hb] at po1
      exact ⟨_, _, _, _, w1, po1⟩
theorem dt_w {f : BF} (h : DW X cl W e f) : DT X cl W e f := PW.pt h
theorem dt_not {f : BF} (h : DT X cl W a f) : DT X cl W (.UnaryOp .Not a pos) (dNot f) := PT.imp (pt_not h) fun σ H Q q => by
  obtain ⟨F, al, sl, mu, w, po⟩ := q
  refine seqG back_RB w po rfl fun v d F1 al1 mu1 H1 x1 w1 r1 po1 => ?_
  cases r1
  exact Po.here po1 w1.toMus rfl
/-- the same as values -/
theorem de_one {op : PySem.BoolOp} {f : BF} (h : DE X cl W a (dB2v f)) : DE X cl W (.BoolOp op [a] pos) (dB2v f) := pe_one h
theorem tTst' {f : BF} {g : BF} {σ : St} {H : Hp} {Q : VK} {k : Bool → Bool → Prop} (q : tG (Cx.th X cl) W RB f σ H (fun c H' => Q (.bl c) H')) : tG (Cx.th X cl) W (RD (Cx.th X cl)) (dB2v f) σ H Q := by
  obtain ⟨F, al, sl, mu, w, po⟩ := tB2v q
  refine ⟨F, al, sl, mu, w, ?_⟩
  cases z : dB2v f sl mu with
  | ok d mu1 =>
    rw [z] at po
    intro v F1 al1 H1 x r
    obtain ⟨c, rfl, h⟩ := po v F1 al1 H1 x r
    exact h
  | ex c fs mu1 => rw [z] at po; exact po
  | bad => rw [z] at po; exact po
theorem tV2B {f : BF} {σ : St} {H : Hp} {Q : VK} (q : tG (Cx.th X cl) W (RD (Cx.th X cl)) (dB2v f) σ H Q) : tG (Cx.th X cl) W RB f σ H (fun c H' => Q (.bl c) H') := by
  obtain ⟨F, al, sl, mu, w, po⟩ := q
  refine ⟨F, al, sl, mu, w, ?_⟩
  unfold dB2v dBind obind at po
  cases z : f sl mu with
  | ok b mu1 =>
    rw [z] at po
    intro v F1 al1 H1 x r
    cases r
    exact po _ F1 al1 H1 x (.bl _)
  | ex c fs mu1 => rw [z] at po; exact po
  | bad => rw [z] at po; exact po
theorem de_and {f g : BF} (h : DE X cl W a (dB2v f)) (hr : DE X cl W (.BoolOp .And (b :: rest) pos) (dB2v g)) : DE X cl W (.BoolOp .And (a :: b :: rest) pos) (dB2v (dAnd f g)) :=
  PE.imp (pe_and h hr) fun σ H Q q => by
    obtain ⟨F, al, sl, mu, w, po⟩ := tV2B q
    refine tB2v (Q := fun c H' => if c = true then tG (Cx.th X cl) W (RD (Cx.th X cl)) (dB2v g) σ H' Q else Q (.bl false) H') ?_
    refine seqG back_RB w po rfl fun v d F1 al1 mu1 H1 x1 w1 r1 po1 => ?_
    cases r1
    dsimp only at po1
    split
    · rename_i hb
      rw [if_pos hb] at po1
      exact tTst' (g := g) (k := fun _ _ => True) ⟨_, _, _, _, w1, po1⟩
    · rename_i hb
      rw [if_neg hb] at po1
      exact Po.here (R := RB) (Q := fun c H' => Q (.bl c) H') po1 w1.toMus rfl
theorem de_if {c : PySem.Expr} {f : BF} (hc : DT X cl W c f) (ha : DE X cl W a fa) (hb : DE X cl W b fb) : DE X cl W (.IfExp c a b pos) (dIf f fa fb) :=
  PE.imp (pe_ifExp hc ha hb) fun σ H Q q => by
    obtain ⟨F, al, sl, mu, w, po⟩ := q
    refine seqG back_RD w po rfl fun v d F1 al1 mu1 H1 x1 w1 r1 po1 => ?_
    cases r1
    dsimp only at po1
    split
    · rename_i hb
      rw [if_pos hb] at po1
      exact ⟨_, _, _, _, w1, po1⟩
    · rename_i hb
      rw [if_neg hb] at po1
      exact ⟨_, _, _, _, w1, po1⟩
end
end DL
end

section
set_option Elab.async false
set_option linter.all false
set_option maxRecDepth 100000
set_option maxHeartbeats 4000000
/-! DD: calls of defs, statements, loops. -/
namespace DL
open PySem L2

/-! ### what a def promises -/
abbrev FF := List D → Store → Out D
def spD (T : Th) (np : Nat) (p : FF) : Sp := fun vs H Q E => ∃ F al mu ds, Mus T F al mu H ∧ RpL T F al mu.length vs ds ∧ ds.length = np ∧ Po T (fun c d _ H' => E c d H') F al mu [] H (RD T) (p ds mu) Q
structure Gf (P : Program) (w : World) (K : PySem.W.Frag) (mg : Str → Option Value) (base : Heap) (cl : Nat → Addr) (k : Nat) (x : Str) (np : Nat) (p : FF) : Prop where
  ex : ∃ (f : Addr) (fd : FuncData) (ps : List Str), FnOk P w K mg base (L2.CX P w) k f fd ps (spD ⟨K, cl⟩ np p) ∧ mg x = some (.ref f) ∧ PySem.W.keepIn K (.ref f) = true ∧ L2.Binds K fd ps []
def dCall (p : FF) (g : LF) : EF := dBind g fun ds _ mu => p ds mu
section
variable {X : Cx} {cl : Nat → Addr} {W : WX} {a b e : PySem.Expr} {es rest : List PySem.Expr} {fa fb f : EF} {pos p1 : Pos} {k np : Nat} {x : Str} {p : FF}
theorem Po.wish {α β : Type} {T : Th} {W1 W2 : WX} {F : Hp} {al : Nat → Addr} {mu : Store} {σ τ : St} {H : Hp} {R : Rel β α} {o : Out α} {Q : β → Hp → Prop} (h : Po T W1 F al mu σ H R o Q) (i : ∀ c d H', W1 c d σ H' → W2 c d τ H') : Po T W2 F al mu τ H R o Q := by
  cases o with
  | ok d mu' => exact h
  | ex c fs mu' => exact fun dx F' al' H' x r => i _ _ _ (h dx F' al' H' x r)
  | bad => exact h
theorem de_call {g : LF} (c : Gf X.prog X.w X.K X.mg X.base cl k x np p) (hr : Room k X.A) (hg : Gl X x) (tk : Takes X W) (ha : DAs X cl W (e :: es) g) (hl : Len g np) (hdb : (x == ("__debug__" : Str)) = false := by decide)
    (he : starEach (e :: es) X.env = (false, eval e X.env) :: starEach es X.env := by rfl) (hpl : (backTo pos (starEach es X.env)).any (·.1) = false := by rfl) : DE X cl W (.Call (.Name x p1) (e :: es) [] pos) (dCall p g) := by
  obtain ⟨f, fd, ps, hf, hm, hk, hb⟩ := c.ex
  refine PE.imp (pe_callS (E := WE W) hf hr hg hm hk hb (passAt tk) ha hdb he hpl) fun σ H Q q => ?_
  obtain ⟨F, al, sl, mu, w, po⟩ := q
  refine ⟨F, al, sl, mu, w, ?_⟩
  unfold dCall dBind obind at po
  cases z : g sl mu with
  | ok ds mu1 =>
    rw [z] at po
    intro vs F1 al1 H1 x1 r1
    exact ⟨F1, al1, mu1, ds, x1.mus, r1, hl _ _ _ _ z, Po.wish (Po.step back_RD x1 po) fun _ _ _ h => h⟩
  | ex c fs mu1 => rw [z] at po; exact po
  | bad => rw [z] at po; exact po
end

/-! ### statements -/
abbrev SF := Sl → Store → OutS
/-- where the frame began -/
structure En where
  F : Hp
  al : Nat → Addr
  mu : Store
  H : Hp
def OwnNew (n : En) (sl : Sl) (σ : St) : Prop := ∀ (i : Nat) m a, sl[i]? = some (some (SV.own m)) → σ[i]? = some (some (V.ref a)) → Fre n.H a
structure W3 (T : Th) (n : En) (F : Hp) (al : Nat → Addr) (sl : Sl) (mu : Store) (σ : St) (H : Hp) : Prop where
  x : Ext T n.F n.al n.mu n.H F al mu H
  w : Wd T F al sl mu σ H
  o : OwnNew n sl σ
/-- the frozen part grows, the store's places stay -/
structure Gr (F : Hp) (al : Nat → Addr) (mu : Store) (F' : Hp) (al' : Nat → Addr) (mu' : Store) : Prop where
  sub : ∀ a o, F a = some o → F' a = some o
  als : ∀ k, k < mu.length → al' k = al k
  ln : mu.length ≤ mu'.length
theorem Gr.refl {F : Hp} {al : Nat → Addr} {mu : Store} : Gr F al mu F al mu := ⟨fun _ _ h => h, fun _ _ => rfl, Nat.le_refl _⟩
theorem Gr.trans {F F1 F2 : Hp} {al al1 al2 : Nat → Addr} {mu mu1 mu2 : Store} (a : Gr F al mu F1 al1 mu1) (b : Gr F1 al1 mu1 F2 al2 mu2) : Gr F al mu F2 al2 mu2 :=
  ⟨fun x o h => b.sub x o (a.sub x o h), fun k h => (b.als k (Nat.lt_of_lt_of_le h a.ln)).trans (a.als k h), Nat.le_trans a.ln b.ln⟩
theorem Ext.gr {T : Th} {F F1 H H1 : Hp} {al al1 : Nat → Addr} {mu mu1 : Store} (x : Ext T F al mu H F1 al1 mu1 H1) : Gr F al mu F1 al1 mu1 := ⟨x.sub, x.als, x.ln⟩
def PoS (T : Th) (W : WX) (n : En) (F : Hp) (al : Nat → Addr) (mu : Store) (Z : Ends) (o : OutS) : Prop :=
  match o with
  | .nx sl' mu' => ∀ σ' F' al' H', Gr F al mu F' al' mu' → W3 T n F' al' sl' mu' σ' H' → Z.nx σ' H'
  | .bk sl' mu' => ∀ σ' F' al' H', Gr F al mu F' al' mu' → W3 T n F' al' sl' mu' σ' H' → Z.bk σ' H'
  | .ct sl' mu' => ∀ σ' F' al' H', Gr F al mu F' al' mu' → W3 T n F' al' sl' mu' σ' H' → Z.ct σ' H'
  | .rt d mu' => ∀ v F' al' H', Gr F al mu F' al' mu' → Ext T n.F n.al n.mu n.H F' al' mu' H' → Rp T F' al' mu'.length v d → Z.rt v H'
  | .ex c fs sl' mu' => ∀ dx σ' F' al' H', Gr F al mu F' al' mu' → W3 T n F' al' sl' mu' σ' H' → ExR T F' al' mu'.length H' dx fs → W (.ref (T.cls c)) dx σ' H'
  | .bad => False
def tS (T : Th) (W : WX) (n : En) (g : SF) : TS := fun Z σ H => ∃ F al sl mu, W3 T n F al sl mu σ H ∧ PoS T W n F al mu Z (g sl mu)
abbrev DS (X : Cx) (cl : Nat → Addr) (W : WX) (n : En) (st : PySem.Stmt) (g : SF) : Prop := PS X st (tS (Cx.th X cl) W n g)
abbrev DSs (X : Cx) (cl : Nat → Addr) (W : WX) (n : En) (st : List PySem.Stmt) (g : SF) : Prop := PSs X st (tS (Cx.th X cl) W n g)
def sbind {α : Type} (o : Out α) (sl : Sl) (g : α → Store → OutS) : OutS :=
  match o with
  | .ok d mu => g d mu
  | .ex c fs mu => .ex c fs sl mu
  | .bad => .bad
section
variable {T : Th} {W : WX} {n : En} {F F1 H H1 : Hp} {al al1 : Nat → Addr} {mu mu1 : Store} {sl : Sl} {σ : St} {Z : Ends}
theorem W3.ext (w : W3 T n F al sl mu σ H) (x : Ext T F al mu H F1 al1 mu1 H1) : W3 T n F1 al1 sl mu1 σ H1 := ⟨w.x.trans x, w.w.ext x, w.o⟩
theorem PoS.step {o : OutS} (g : Gr F al mu F1 al1 mu1) (h : PoS T W n F al mu Z o) : PoS T W n F1 al1 mu1 Z o := by
  cases o with
  | nx sl' mu' => exact fun σ' F' al' H' g' => h σ' F' al' H' (g.trans g')
  | bk sl' mu' => exact fun σ' F' al' H' g' => h σ' F' al' H' (g.trans g')
  | ct sl' mu' => exact fun σ' F' al' H' g' => h σ' F' al' H' (g.trans g')
  | rt d mu' => exact fun v F' al' H' g' => h v F' al' H' (g.trans g')
  | ex c fs sl' mu' => exact fun dx σ' F' al' H' g' => h dx σ' F' al' H' (g.trans g')
  | bad => exact h
/-- an expression ahead of the rest of a statement -/
theorem seqS {α β : Type} {R : Rel β α} {f : Sl → Store → Out α} {o : OutS} {g : α → Store → OutS} {P : β → Hp → Prop} (w : W3 T n F al sl mu σ H) (h : PoS T W n F al mu Z o) (e : o = sbind (f sl mu) sl g)
    (k : ∀ v d F1 al1 mu1 H1, Ext T F al mu H F1 al1 mu1 H1 → W3 T n F1 al1 sl mu1 σ H1 → R H F1 al1 mu1 H1 v d → PoS T W n F1 al1 mu1 Z (g d mu1) → P v H1) : tG T W R f σ H P := by
  refine ⟨F, al, sl, mu, w.w, ?_⟩
  subst e
  cases q : f sl mu with
  | ok d mu1 =>
    rw [q] at h
    intro v F1 al1 H1 x r
    exact k v d F1 al1 mu1 H1 x (w.ext x) r (PoS.step x.gr (show PoS T W n F al mu Z (g d mu1) from h))
  | ex c fs mu1 =>
    rw [q] at h
    intro dx F1 al1 H1 x r
    exact h dx σ F1 al1 H1 x.gr (w.ext x) r
  | bad => rw [q] at h; exact h
theorem PoS.nx {sl' : Sl} {mu' : Store} (h : PoS T W n F al mu Z (.nx sl' mu')) {σ' : St} (w : W3 T n F al sl' mu' σ' H) (e : mu.length ≤ mu'.length := by exact Nat.le_refl _) : Z.nx σ' H := h σ' F al H ⟨fun _ _ h => h, fun _ _ => rfl, e⟩ w
/-- another end -/
theorem PoS.ends {o : OutS} {Z' : Ends} (h : PoS T W n F al mu Z o) (h1 : ∀ σ H, Z.nx σ H → Z'.nx σ H) (h2 : ∀ v H, Z.rt v H → Z'.rt v H) (h3 : ∀ σ H, Z.bk σ H → Z'.bk σ H) (h4 : ∀ σ H, Z.ct σ H → Z'.ct σ H) : PoS T W n F al mu Z' o := by
  cases o with
  | nx sl' mu' => exact fun σ' F' al' H' g w => h1 _ _ (h σ' F' al' H' g w)
  | bk sl' mu' => exact fun σ' F' al' H' g w => h3 _ _ (h σ' F' al' H' g w)
  | ct sl' mu' => exact fun σ' F' al' H' g w => h4 _ _ (h σ' F' al' H' g w)
  | rt d mu' => exact fun v F' al' H' g w r => h2 _ _ (h v F' al' H' g w r)
  | ex c fs sl' mu' => exact h
  | bad => exact h
end

/-! ### denotations of statements -/
def sSkip : SF := fun sl mu => .nx sl mu
def sExpr (f : EF) : SF := fun sl mu => sbind (f sl mu) sl fun _ mu => .nx sl mu
def sAsg (i : Nat) (f : EF) : SF := fun sl mu => sbind (f sl mu) sl fun d mu => .nx (sl.set i (some (.val d))) mu
def sRet (f : EF) : SF := fun sl mu => sbind (f sl mu) sl fun d mu => .rt d mu
def sIf (c : BF) (s t : SF) : SF := fun sl mu => sbind (c sl mu) sl fun b mu => if b = true then s sl mu else t sl mu
def snext (o : OutS) (t : SF) : OutS := match o with
  | .nx sl mu => t sl mu
  | o => o
def sSeq (s t : SF) : SF := fun sl mu => snext (s sl mu) t
section
variable {T : Th} {W : WX} {n : En} {F F1 H H0 H1 : Hp} {al al1 : Nat → Addr} {mu mu1 : Store} {sl : Sl} {σ : St} {Z : Ends}
theorem set_get {α : Type} {l : List (Option α)} {i j : Nat} {x : Option α} {y : α} (h : (l.set i x)[j]? = some (some y)) : (i = j ∧ x = some y ∧ i < l.length) ∨ (i ≠ j ∧ l[j]? = some (some y)) := by
  rw [List.getElem?_set] at h
  split at h
  · rename_i e
    split at h
    · rename_i hl
      cases h
      exact .inl ⟨e, rfl, hl⟩
    · cases h
  · rename_i e
    exact .inr ⟨e, h⟩
/-- data into a slot -/
theorem Wd.setVal (w : Wd T F al sl mu σ H) {i : Nat} {v : V} {d : D} (r : Rp T F al mu.length v d) : Wd T F al (sl.set i (some (.val d))) mu (σ.set i (some v)) H where
  toMus := w.toMus
  len := by rw [List.length_set, List.length_set]; exact w.len
  val := fun j d' e => by
    rcases set_get e with ⟨rfl, h, hl⟩ | ⟨ne, h⟩
    · cases h
      exact ⟨v, List.getElem?_set_self (by rw [w.len]; exact hl), r⟩
    · obtain ⟨v', h1, h2⟩ := w.val j d' h
      exact ⟨v', by rw [List.getElem?_set_ne ne]; exact h1, h2⟩
  own := fun j m e => by
    rcases set_get e with ⟨_, h, _⟩ | ⟨ne, h⟩
    · cases h
    · obtain ⟨a, o, h1, h2⟩ := w.own j m h
      exact ⟨a, o, by rw [List.getElem?_set_ne ne]; exact h1, h2⟩
  apart := fun j k m m' a ne e1 e2 g1 g2 => by
    rcases set_get e1 with ⟨_, h, _⟩ | ⟨n1, h1⟩
    · cases h
    · rcases set_get e2 with ⟨_, h, _⟩ | ⟨n2, h2⟩
      · cases h
      · rw [List.getElem?_set_ne n1] at g1
        rw [List.getElem?_set_ne n2] at g2
        exact w.apart j k m m' a ne h1 h2 g1 g2
theorem OwnNew.setVal (o : OwnNew n sl σ) {i : Nat} {v : V} {d : D} : OwnNew n (sl.set i (some (.val d))) (σ.set i (some v)) := fun j m a e g => by
  rcases set_get e with ⟨_, h, _⟩ | ⟨ne, h⟩
  · cases h
  · rw [List.getElem?_set_ne ne] at g
    exact o j m a h g
theorem W3.setVal (w : W3 T n F al sl mu σ H) {i : Nat} {v : V} {d : D} (r : Rp T F al mu.length v d) : W3 T n F al (sl.set i (some (.val d))) mu (σ.set i (some v)) H := ⟨w.x, w.w.setVal r, w.o.setVal⟩
/-- a slot's own object is frozen -/
theorem W3.freeze (w : W3 T n F al sl mu σ H) {i : Nat} {m : MO} (e : sl[i]? = some (some (.own m))) (hm : ∀ kvs, m ≠ .dct kvs) : ∃ F', Gr F al mu F' al mu ∧ W3 T n F' al (sl.set i (some (.val m.d))) mu σ H := by
  obtain ⟨a, o, h1, h2, h3, h4, h5⟩ := w.w.own i m e
  have x2 := w.x.freeze (w.o i m a e h1) h2 h3 h4.noTab.1 h5
  have up : ∀ b u, F b = some u → upd F a o b = some u := fun b u q => by rw [upd_ne (ne_of_none q h2)]; exact q
  refine ⟨upd F a o, ⟨up, fun _ _ => rfl, Nat.le_refl _⟩, x2, ⟨x2.mus, by rw [List.length_set]; exact w.w.len, fun j d q => ?_, fun j m' q => ?_, fun j k m1 m2 b ne e1 e2 g1 g2 => ?_⟩, fun j m' b q g => ?_⟩
  · rcases set_get q with ⟨rfl, h, hl⟩ | ⟨ne, h⟩
    · cases h
      exact ⟨_, h1, rp_freeze h2 h4 hm⟩
    · obtain ⟨v, g1, g2⟩ := w.w.val j d h
      exact ⟨v, g1, g2.mono up (fun _ _ => rfl) (Nat.le_refl _)⟩
  · rcases set_get q with ⟨_, h, _⟩ | ⟨ne, h⟩
    · cases h
    · obtain ⟨b, u, g1, g2, g3, g4, g5⟩ := w.w.own j m' h
      refine ⟨b, u, g1, ?_, g3, g4.mono up (fun _ _ => rfl) (Nat.le_refl _), g5⟩
      have : b ≠ a := fun z => w.w.apart i j m m' a ne e h h1 (by rw [← z]; exact g1)
      rw [upd_ne this]; exact g2
  · rcases set_get e1 with ⟨_, h, _⟩ | ⟨_, k1⟩
    · cases h
    · rcases set_get e2 with ⟨_, h, _⟩ | ⟨_, k2⟩
      · cases h
      · exact w.w.apart j k m1 m2 b ne k1 k2 g1 g2
  · rcases set_get q with ⟨_, h, _⟩ | ⟨_, h⟩
    · cases h
    · exact w.o j m' b h g
/-- a slot's own object is changed -/
theorem W3.upd (w : W3 T n F al sl mu σ H) {i : Nat} {m m' : MO} {a : Addr} {o : HO} (e : sl[i]? = some (some (.own m))) (ha : σ[i]? = some (some (V.ref a))) (c : Conc T F al mu.length o m') : W3 T n F al (sl.set i (some (.own m'))) mu σ (upd H a o) := by
  obtain ⟨a', o', h1, h2, h3, h4, h5⟩ := w.w.own i m e
  rw [ha] at h1; cases h1
  have h0 : Fre n.H a := w.o i m a e ha
  have hl : i < sl.length := (List.getElem?_eq_some_iff.mp e).1
  have M : Mus T F al mu (L2.upd H a o) := ⟨fun b u q => by rw [upd_ne (ne_of_none q h2)]; exact w.w.sub b u q, fun k m q => by
    obtain ⟨g1, u, g2, g3⟩ := w.w.at_ k m q
    exact ⟨g1, u, by rw [upd_ne (h5 k m q)]; exact g2, g3⟩, w.w.inj, fun i z => tab_upd (.inr ⟨_, h3, h4.noTab⟩) (w.w.tab i z), w.w.nt⟩
  refine ⟨⟨M, w.x.sub, w.x.new, fun b u q tt z => ?_, fun b q => w.x.there b (there_upd (.inr c.noTab.1) b q), w.x.als, w.x.ln, w.x.fresh⟩, ⟨M, by rw [List.length_set]; exact w.w.len, fun j d q => ?_, fun j m2 q => ?_, fun j k m1 m2 b ne e1 e2 g1 g2 => ?_⟩, fun j m2 b q g => ?_⟩
  · rw [upd_ne fun (g : b = a) => h0.no (g ▸ q) tt]; exact w.x.keep b u q tt z
  · rcases set_get q with ⟨_, h, _⟩ | ⟨_, h⟩
    · cases h
    · exact w.w.val j d h
  · rcases set_get q with ⟨rfl, h, _⟩ | ⟨ne, h⟩
    · cases h
      exact ⟨a, o, ha, h2, upd_same, c, h5⟩
    · obtain ⟨b, u, g1, g2, g3, g4, g5⟩ := w.w.own j m2 h
      have : b ≠ a := fun z => w.w.apart i j m m2 a ne e h ha (by rw [← z]; exact g1)
      exact ⟨b, u, g1, g2, by rw [upd_ne this]; exact g3, g4, g5⟩
  · have own_of : ∀ {j : Nat} {m1 : MO}, (sl.set i (some (SV.own m')))[j]? = some (some (SV.own m1)) → ∃ m0, sl[j]? = some (some (SV.own m0)) := fun {j m1} q => by
      rcases set_get q with ⟨rfl, _, _⟩ | ⟨_, h⟩
      · exact ⟨m, e⟩
      · exact ⟨m1, h⟩
    obtain ⟨p1, k1⟩ := own_of e1
    obtain ⟨p2, k2⟩ := own_of e2
    exact w.w.apart j k p1 p2 b ne k1 k2 g1 g2
  · rcases set_get q with ⟨rfl, _, _⟩ | ⟨_, h⟩
    · exact w.o _ m b e g
    · exact w.o j m2 b h g
end
end DL
end

section
set_option Elab.async false
set_option linter.all false
set_option maxRecDepth 100000
set_option maxHeartbeats 4000000
/-! DF: the rules of statements, loops, defs. -/
namespace DL
open PySem L2
section
variable {X : Cx} {cl : Nat → Addr} {W : WX} {n : En} {a b e : PySem.Expr} {es : List PySem.Expr} {st : PySem.Stmt} {sts : List PySem.Stmt} {f : EF} {s t : SF} {pos p1 : Pos} {x : Str}
theorem ds_expr (he : DE X cl W e f) (hs : swapsWith e none pos.line X.env = pure false := by rfl) : DS X cl W n (.Expr e pos) (sExpr f) := PS.imp (ps_expr he hs) fun Z σ H q => by
  obtain ⟨F, al, sl, mu, w, po⟩ := q
  exact seqS w po rfl fun v d F1 al1 mu1 H1 x1 w1 r1 po1 => PoS.nx po1 w1
theorem ds_asg {i : Nat} {p' : Pos} (hN : X.N.Nodup) (hi : X.N[i]? = some x) (hx : Loc X.env.scope x) (he : DE X cl W e f) (hs : swapsWith e (some (.Name x p')) pos.line X.env = pure false := by rfl)
    (hf : X.fn x = true ∨ X.env.scope.names.lookup x = some .local := by first | exact .inl rfl | exact .inr rfl | assumption) : DS X cl W n (.Assign [.Name x p'] e pos) (sAsg i f) := PS.imp (ps_set hN hi hx he hs hf) fun Z σ H q => by
  obtain ⟨F, al, sl, mu, w, po⟩ := q
  exact seqS w po rfl fun v d F1 al1 mu1 H1 x1 w1 r1 po1 => PoS.nx po1 (w1.setVal r1)
theorem ds_ret (he : DE X cl W e f) : DS X cl W n (.Return (some e) pos) (sRet f) := PS.imp (ps_ret he) fun Z σ H q => by
  obtain ⟨F, al, sl, mu, w, po⟩ := q
  exact seqS w po rfl fun v d F1 al1 mu1 H1 x1 w1 r1 po1 => po1 v F1 al1 H1 Gr.refl w1.x r1
theorem ds_if {c : BF} (hc : DT X cl W e c) (ha : DSs X cl W n sts s) {ss : List PySem.Stmt} (hb : DSs X cl W n ss t) : DS X cl W n (.If e sts ss pos) (sIf c s t) := PS.imp (ps_if hc ha hb) fun Z σ H q => by
  obtain ⟨F, al, sl, mu, w, po⟩ := q
  refine seqS w po rfl fun v d F1 al1 mu1 H1 x1 w1 r1 po1 => ?_
  cases r1
  split
  · rename_i hb
    rw [if_pos hb] at po1
    exact ⟨_, _, _, _, w1, po1⟩
  · rename_i hb
    rw [if_neg hb] at po1
    exact ⟨_, _, _, _, w1, po1⟩
theorem dss_nil : DSs X cl W n [] sSkip := PSs.imp pss_nil fun Z σ H q => by
  obtain ⟨F, al, sl, mu, w, po⟩ := q
  exact PoS.nx po w
theorem dss_one (h : DS X cl W n st s) : DSs X cl W n [st] s := pss_one h
theorem dss_cons (h : DS X cl W n st s) (hr : DSs X cl W n sts t) : DSs X cl W n (st :: sts) (sSeq s t) := PSs.imp (pss_cons h hr) fun Z σ H q => by
  obtain ⟨F, al, sl, mu, w, po⟩ := q
  refine ⟨F, al, sl, mu, w, ?_⟩
  unfold sSeq snext at po
  cases z : s sl mu with
  | nx sl' mu' =>
    rw [z] at po
    exact fun σ' F' al' H' g w' => ⟨F', al', sl', mu', w', PoS.step g po⟩
  | rt d mu' => rw [z] at po; exact po
  | bk sl' mu' => rw [z] at po; exact po
  | ct sl' mu' => rw [z] at po; exact po
  | ex c fs sl' mu' => rw [z] at po; exact po
  | bad => rw [z] at po; exact po
end

/-! ### loops -/
/-- what is walked: its items -/
def RI (T : Th) : Rel It (List D) := fun _ F al mu _ J ds => ∃ (G : Hp → Prop) (Y : Nat → Hp → V → Hp → Prop), Walk J ds.length G Y ∧
  (∀ (F' H' : Hp), (∀ a o, F a = some o → F' a = some o) → (∀ a o, F' a = some o → H' a = some o) → G H') ∧
  ∀ (F' : Hp) (al' : Nat → Addr) (mu' : Store) (H' : Hp) (i : Nat) (x : V) (H2 : Hp), Gr F al mu F' al' mu' → Mus T F' al' mu' H' → i < ds.length → Y i H' x H2 → ∃ d F2, ds[i]? = some d ∧ Ext T F' al' mu' H' F2 al' mu' H2 ∧ Rp T F2 al' mu'.length x d
abbrev DI (X : Cx) (cl : Nat → Addr) (W : WX) (tg e : PySem.Expr) (f : LF) : Prop := PI X tg e (tG (Cx.th X cl) W (RI (Cx.th X cl)) f)
/-- a target: a name; names of a tuple, of a list -/
inductive Tg where
  | nm (i : Nat) | tp (is : List Nat) | ls (is : List Nat)
def Tg.ix : Tg → List Nat
  | .nm i => [i]
  | .tp is => is
  | .ls is => is
def gSets : List Nat → List D → Sl → Option Sl
  | [], [], sl => some sl
  | i :: is, d :: ds, sl => gSets is ds (sl.set i (some (.val d)))
  | _, _, _ => none
def Tg.run : Tg → D → Sl → Option Sl
  | .nm i, d, sl => some (sl.set i (some (.val d)))
  | .tp is, d, sl => match d with
    | .tup ds => gSets is ds sl
    | _ => none
  | .ls is, d, sl => match d with
    | .lst ds => gSets is ds sl
    | _ => none
/-- the slots changed at is alone -/
def AtIx (is : List Nat) (σ σ' : St) : Prop := ∀ vs : List Nat, (∀ i ∈ is, i ∈ vs) → wipe σ' vs = wipe σ vs
def tTgt (T : Th) (g : Tg) : TG := fun v σ H Q => ∃ F al sl mu d sl', Wd T F al sl mu σ H ∧ Rp T F al mu.length v d ∧ g.run d sl = some sl' ∧ ∀ σ', Wd T F al sl' mu σ' H → (∀ n, OwnNew n sl σ → OwnNew n sl' σ') → AtIx g.ix σ σ' → Q σ' H
abbrev DG (X : Cx) (cl : Nat → Addr) (tg : PySem.Expr) (g : Tg) : Prop := PG X tg (tTgt (Cx.th X cl) g)
theorem wipe_set {i : Nat} {x : Option V} : ∀ {vs : List Nat} {σ : St}, i ∈ vs → wipe (σ.set i x) vs = wipe σ vs
  | [], _, h => by cases h
  | v :: vs, σ, h => by
    show (wipe (σ.set i x) vs).set v none = (wipe σ vs).set v none
    by_cases hm : i ∈ vs
    · rw [wipe_set hm]
    · have e : i = v := by
        rcases List.mem_cons.mp h with h | h
        · exact h
        · exact absurd h hm
      subst e
      have key : ∀ (vs : List Nat) (σ : St), i ∉ vs → wipe (σ.set i x) vs = (wipe σ vs).set i x := by
        intro vs
        induction vs with
        | nil => intro σ _; rfl
        | cons w ws ih =>
          intro σ hn
          show (wipe (σ.set i x) ws).set w none = ((wipe σ ws).set w none).set i x
          rw [ih σ fun q => hn (List.mem_cons_of_mem _ q)]
          rw [List.set_comm]
          intro e
          exact hn (by rw [e]; exact List.mem_cons_self)
      rw [key vs σ hm, List.set_set]
theorem AtIx.set {i : Nat} {x : Option V} {σ : St} : AtIx [i] σ (σ.set i x) := fun vs h => wipe_set (h i List.mem_cons_self)
theorem AtIx.refl {σ : St} {is : List Nat} : AtIx is σ σ := fun _ _ => rfl
def tTgts (T : Th) (is : List Nat) : TGs := fun vs σ H Q => ∃ F al sl mu ds sl', Wd T F al sl mu σ H ∧ RpL T F al mu.length vs ds ∧ gSets is ds sl = some sl' ∧ ∀ σ', Wd T F al sl' mu σ' H → (∀ n, OwnNew n sl σ → OwnNew n sl' σ') → AtIx is σ σ' → Q σ' H
section
variable {X : Cx} {cl : Nat → Addr} {W : WX} {n : En} {a b e tg : PySem.Expr} {es : List PySem.Expr} {pos : Pos} {x : Str}
theorem PG.imp {t t' : TG} (h : PG X e t) (i : ∀ v σ H Q, t' v σ H Q → t v σ H Q) : PG X e t' := ⟨fun pins s σ H v u Q I r q => h.run pins s σ H v u Q I r (i v σ H Q q)⟩
theorem PGs.imp {t t' : TGs} (h : PGs X es t) (i : ∀ v σ H Q, t' v σ H Q → t v σ H Q) : PGs X es t' := ⟨fun pins s σ H v u Q I r q => h.run pins s σ H v u Q I r (i v σ H Q q)⟩
theorem dg_name {i : Nat} (hN : X.N.Nodup) (hi : X.N[i]? = some x) (hx : Loc X.env.scope x) (hf : X.fn x = true ∨ X.env.scope.names.lookup x = some .local := by first | exact .inl rfl | exact .inr rfl | assumption) : DG X cl (.Name x pos) (.nm i) :=
  PG.imp (pg_name hN hi hx hf) fun v σ H Q q => by
    obtain ⟨F, al, sl, mu, d, sl', w, r, e, k⟩ := q
    cases e
    exact k _ (w.setVal r) (fun n o => o.setVal) AtIx.set
abbrev DGs (X : Cx) (cl : Nat → Addr) (es : List PySem.Expr) (is : List Nat) : Prop := PGs X es (tTgts (Cx.th X cl) is)
theorem dgs_nil : DGs X cl [] [] := PGs.imp pgs_nil fun v σ H Q q => by
  obtain ⟨F, al, sl, mu, ds, sl', w, r, e, k⟩ := q
  cases ds with
  | cons _ _ => cases e
  | nil =>
    cases e
    cases r
    exact ⟨rfl, k σ w (fun _ o => o) AtIx.refl⟩
theorem dgs_cons {i : Nat} {is : List Nat} (hN : X.N.Nodup) (hi : X.N[i]? = some x) (hx : Loc X.env.scope x) (hr : DGs X cl es is) (hf : X.fn x = true ∨ X.env.scope.names.lookup x = some .local := by first | exact .inl rfl | exact .inr rfl | assumption) : DGs X cl (.Name x pos :: es) (i :: is) :=
  PGs.imp (pgs_cons (pg_name hN hi hx hf) hr) fun v σ H Q q => by
    obtain ⟨F, al, sl, mu, ds, sl', w, r, e, k⟩ := q
    cases ds with
    | nil => cases e
    | cons d ds =>
      cases r with
      | cons r1 r2 =>
        exact ⟨_, _, rfl, F, al, _, mu, ds, sl', w.setVal r1, r2, e, fun σ' w' o' i' => k σ' w' (fun n o => o' n o.setVal) fun vs h => by rw [i' vs fun j hj => h j (List.mem_cons_of_mem _ hj)]; exact wipe_set (h _ List.mem_cons_self)⟩
theorem gSets_len : ∀ {is : List Nat} {ds : List D} {sl sl' : Sl}, gSets is ds sl = some sl' → ds.length = is.length
  | [], [], _, _, _ => rfl
  | i :: is, d :: ds, _, _, h => by
    have := gSets_len (is := is) (ds := ds) h
    rw [List.length_cons, List.length_cons, this]
  | [], _ :: _, _, _, h => by cases h
  | _ :: _, [], _, _, h => by cases h
theorem dg_tup {is : List Nat} {k : Nat} (hc : X.calm = true) (h : DGs X cl es is) (hn : (assignEach es X.env).length = is.length := by rfl) (hst : (assignEach es X.env).findIdx? (·.1) = none := by rfl) : DG X cl (.Tuple es k pos) (.tp is) :=
  PG.imp (pg_tup (n := is.length) hc h hn hst) fun v σ H Q q => by
    obtain ⟨F, al, sl, mu, d, sl', w, r, e, k⟩ := q
    cases r with
    | @tup a xs ds hs hl =>
      have e' : gSets is ds sl = some sl' := e
      exact ⟨a, xs, rfl, sqT_mono w.sub hs, by rw [RpL.len hl]; exact gSets_len e', F, al, sl, mu, ds, sl', w, hl, e', k⟩
    | _ => cases e
end
/-- an assignment to several names -/
def sTg (g : Tg) (f : EF) : SF := fun sl mu => sbind (f sl mu) sl fun d mu => match g.run d sl with
  | some sl' => .nx sl' mu
  | none => .bad
def sForL (tgt : Tg) (body : SF) : List D → Sl → Store → OutS
  | [], sl, mu => .nx sl mu
  | d :: ds, sl, mu => match tgt.run d sl with
    | none => .bad
    | some sl1 => match body sl1 mu with
      | .nx sl2 mu2 => sForL tgt body ds sl2 mu2
      | .ct sl2 mu2 => sForL tgt body ds sl2 mu2
      | .bk sl2 mu2 => .nx sl2 mu2
      | o => o
def sFor (src : LF) (tgt : Tg) (body : SF) : SF := fun sl mu => sbind (src sl mu) sl fun ds mu => sForL tgt body ds sl mu
section
variable {X : Cx} {cl : Nat → Addr} {W : WX} {n : En} {a b e tg : PySem.Expr} {es : List PySem.Expr} {sts : List PySem.Stmt} {pos : Pos} {x : Str}
theorem ds_tg {f : EF} {g : Tg} (hg : DG X cl tg g) (he : DE X cl W e f) (hs : swapsWithSole [tg] e pos.line X.env = pure false := by rfl) (hw : swappedStores [tg] e X.env = pure none := by rfl) (h1 : (assignEach [tg] X.env).map (·.2) = [assign tg X.env] := by rfl) : DS X cl W n (.Assign [tg] e pos) (sTg g f) :=
  PS.imp (ps_asg he hg hs hw h1) fun Z σ H q => by
    obtain ⟨F, al, sl, mu, w, po⟩ := q
    refine seqS w po rfl fun v d F1 al1 mu1 H1 x1 w1 r1 po1 => ?_
    cases z : g.run d sl with
    | none => simp only [z] at po1; exact False.elim po1
    | some sl' =>
      simp only [z] at po1
      exact ⟨F1, al1, sl, mu1, d, sl', w1.w, r1, z, fun σ' w' o' _ => PoS.nx po1 ⟨w1.x, w', o' n w1.o⟩⟩
/-- the ends of a loop's turn -/
theorem turn_ends {T : Th} {F : Hp} {al : Nat → Addr} {mu : Store} {Z : Ends} {o : OutS} {P : St → Hp → Prop} {go : Sl → Store → OutS} (h : PoS T W n F al mu Z (match o with
      | .nx sl2 mu2 => go sl2 mu2
      | .ct sl2 mu2 => go sl2 mu2
      | .bk sl2 mu2 => .nx sl2 mu2
      | o => o)) (k : ∀ σ' F' al' sl' mu' H', Gr F al mu F' al' mu' → W3 T n F' al' sl' mu' σ' H' → PoS T W n F' al' mu' Z (go sl' mu') → P σ' H') : PoS T W n F al mu { Z with nx := P, ct := P, bk := Z.nx } o := by
  cases o with
  | nx sl2 mu2 => exact fun σ' F' al' H' g w => k σ' F' al' sl2 mu2 H' g w (PoS.step g h)
  | ct sl2 mu2 => exact fun σ' F' al' H' g w => k σ' F' al' sl2 mu2 H' g w (PoS.step g h)
  | bk sl2 mu2 => exact h
  | rt d mu2 => exact h
  | ex c fs sl2 mu2 => exact h
  | bad => exact h
theorem ds_for {src : LF} {g : Tg} {body : SF} (hp : PassesOwn (model X.prog X.w) X.A X.env X.xe) (hc : X.calm = true) (hi : DI X cl W tg e src) (hg : DG X cl tg g) (hb : DSs X cl W n sts body)
    (hs : ∀ x, foldedSetIterable e X.env x = pure x := by intro _; rfl) : DS X cl W n (.For tg e sts [] pos) (sFor src g body) :=
  PS.imp (ps_for hp hc hi hg hb hs) fun Z σ H q => by
    obtain ⟨F, al, sl, mu, w, po⟩ := q
    refine seqS w po rfl fun J ds F1 al1 mu1 H1 x1 w1 r1 po1 => ?_
    obtain ⟨G, Y, wk, hG, hY⟩ := r1
    refine for_it wk (fun i σ H => ∃ F2 al2 sl2 mu2, Gr F1 al1 mu1 F2 al2 mu2 ∧ W3 (Cx.th X cl) n F2 al2 sl2 mu2 σ H ∧ PoS (Cx.th X cl) W n F2 al2 mu2 Z (sForL g body (ds.drop i) sl2 mu2)) ?_ ?_ ?_ ?_
    · exact ⟨F1, al1, sl, mu1, Gr.refl, w1, po1⟩
    · rintro i σ H _ ⟨F2, al2, sl2, mu2, gr, w2, _⟩
      exact hG F2 H gr.sub w2.w.sub
    · rintro i x σ H H' hi ⟨F2, al2, sl2, mu2, gr, w2, po2⟩ y
      obtain ⟨d, F3, hd, x3, r3⟩ := hY F2 al2 mu2 H i x H' gr w2.w.toMus hi y
      have e : ds.drop i = d :: ds.drop (i + 1) := by
        rw [List.getElem?_eq_some_iff] at hd
        obtain ⟨h1, h2⟩ := hd
        rw [← h2]
        exact List.drop_eq_getElem_cons h1
      rw [e] at po2
      unfold sForL at po2
      split at po2
      · exact False.elim po2
      · rename_i sl3 hg3
        have w3 := w2.ext x3
        refine ⟨F3, al2, sl2, mu2, d, sl3, w3.w, r3, hg3, fun σ' w' o' _ => ⟨F3, al2, sl3, mu2, ⟨w3.x, w', o' n w3.o⟩, ?_⟩⟩
        refine turn_ends (PoS.step x3.gr po2) fun σ5 F5 al5 sl5 mu5 H5 g5 w5 po5 => ?_
        exact ⟨F5, al5, sl5, mu5, gr.trans (x3.gr.trans g5), w5, po5⟩
    · rintro σ H ⟨F2, al2, sl2, mu2, gr, w2, po2⟩
      rw [List.drop_length] at po2
      exact PoS.nx po2 w2
end

/-! ### a def by its body -/
def dFun (N : Nat) (b : SF) : FF := fun ds mu => match b (ds.map (fun d => some (.val d)) ++ List.replicate (N - ds.length) none) mu with
  | .nx _ mu' => .ok .non mu'
  | .rt d mu' => .ok d mu'
  | .ex c fs _ mu' => .ex c fs mu'
  | _ => .bad
theorem RpL.get {T : Th} {F : Hp} {al : Nat → Addr} {n : Nat} : ∀ {vs : List V} {ds : List D}, RpL T F al n vs ds → ∀ {i : Nat} {d : D}, ds[i]? = some d → ∃ v, vs[i]? = some v ∧ Rp T F al n v d
  | [], [], _, _, _, h => by simp at h
  | v :: vs, d :: ds, .cons r1 r2, i, d', h => by
    cases i with
    | zero => simp at h; subst h; exact ⟨v, rfl, r1⟩
    | succ i =>
      obtain ⟨v', h1, h2⟩ := RpL.get r2 (i := i) (d := d') (by simpa using h)
      exact ⟨v', by simpa using h1, h2⟩
  | [], d :: ds, h, _, _, _ => by cases h
  | v :: vs, [], h, _, _, _ => by cases h
theorem wd_start {T : Th} {F : Hp} {al : Nat → Addr} {mu : Store} {H : Hp} {N : List Str} {vs : List V} {ds : List D} (m : Mus T F al mu H) (r : RpL T F al mu.length vs ds) :
    Wd T F al (ds.map (fun d => some (SV.val d)) ++ List.replicate (N.length - ds.length) none) mu (L2.start N vs) H := by
  have hl := RpL.len r
  have noOwn : ∀ (i : Nat) m, (ds.map (fun d => some (SV.val d)) ++ List.replicate (N.length - ds.length) none)[i]? = some (some (SV.own m)) → False := fun i m e => by
    by_cases hi : i < ds.length
    · rw [List.getElem?_append_left (by simpa using hi), List.getElem?_map] at e
      cases q : ds[i]? with
      | none => rw [q] at e; cases e
      | some d => rw [q] at e; cases e
    · rw [List.getElem?_append_right (by simpa using hi), List.getElem?_replicate] at e
      split at e <;> cases e
  refine ⟨m, ?_, fun i d e => ?_, fun i m e => (noOwn i m e).elim, fun i j m m' a _ e _ _ _ => noOwn i m e⟩
  · unfold L2.start
    simp [hl]
  · by_cases hi : i < ds.length
    · rw [List.getElem?_append_left (by simpa using hi), List.getElem?_map] at e
      cases q : ds[i]? with
      | none => rw [q] at e; cases e
      | some d' =>
        rw [q] at e
        cases e
        obtain ⟨v, h1, h2⟩ := r.get q
        refine ⟨v, ?_, h2⟩
        unfold L2.start
        rw [List.getElem?_append_left (by simp; omega), List.getElem?_map, h1]
        rfl
    · rw [List.getElem?_append_right (by simpa using hi), List.getElem?_replicate] at e
      split at e <;> cases e
theorem ownNew_start {n : En} {N : List Str} {vs : List V} {ds : List D} : OwnNew n (ds.map (fun d => some (SV.val d)) ++ List.replicate (N.length - ds.length) none) (L2.start N vs) := fun i m a e _ => by
  exfalso
  by_cases hi : i < ds.length
  · rw [List.getElem?_append_left (by simpa using hi), List.getElem?_map] at e
    cases q : ds[i]? with
    | none => rw [q] at e; cases e
    | some d => rw [q] at e; cases e
  · rw [List.getElem?_append_right (by simpa using hi), List.getElem?_replicate] at e
    split at e <;> cases e
theorem body_of {T : Th} {N : List Str} {np : Nat} {g : SF} {vs : List V} {H : Hp} {Q : VK} {E : XK} (h : spD T np (dFun N.length g) vs H Q E) :
    ∃ n : En, tS T (fun c d _ H' => E c d H') n g { nx := fun _ H' => Q .non H', rt := Q } (L2.start N vs) H := by
  obtain ⟨F, al, mu, ds, m, r, hl, po⟩ := h
  refine ⟨⟨F, al, mu, H⟩, F, al, _, mu, ⟨Ext.refl m, wd_start (N := N) m r, ownNew_start⟩, ?_⟩
  unfold dFun at po
  cases z : g (ds.map (fun d => some (SV.val d)) ++ List.replicate (N.length - ds.length) none) mu with
  | nx sl' mu' => rw [z] at po; exact fun σ' F' al' H' _ w => po _ _ _ _ w.x .non
  | rt d mu' => rw [z] at po; exact fun v F' al' H' _ x r => po _ _ _ _ x r
  | bk sl' mu' => rw [z] at po; exact False.elim po
  | ct sl' mu' => rw [z] at po; exact False.elim po
  | ex c fs sl' mu' => rw [z] at po; exact fun dx σ' F' al' H' _ w r => po _ _ _ _ w.x r
  | bad => rw [z] at po; exact po
section
variable {P : Program} {w : World} {K : PySem.W.Frag} {mg : Str → Option Value} {base : Heap} {cl : Nat → Addr}
theorem fn_body {x qual : Str} {params : Arguments} {body : List PySem.Stmt} {scope : Scope} {f : Addr} {fd : FuncData} {N ps : List Str} {k : Nat} {g : SF} (F : FunD K x qual params body scope [] [] f fd) (S : FnScope N ps scope)
    (hb : ∀ (cdv : Value) (A : Around) (outer : List Env) (s : Shared) (H : Hp) (E : XK) (n : En), Room k (A.deeper (PyProof.Rows.envOfC qual scope s.heap.objs.size f cdv)) →
      DSs (cxOf (L2.CX P w) P w K mg base N qual scope f cdv A outer s H E) cl (fun c d _ H' => E c d H') n body g) :
    FnOk P w K mg base (L2.CX P w) (k + 1) f fd ps (spD ⟨K, cl⟩ ps.length (dFun N.length g)) := by
  refine F.ok S (fun vs H Q E h => ?_) (fun cdv A outer s H vs Q E hr h => ?_)
  · obtain ⟨F, al, mu, ds, _, r, hl, _⟩ := h
    rw [RpL.len r, hl]
  · obtain ⟨n, q⟩ := body_of (N := N) h
    exact ⟨_, hb cdv A outer s H E n hr, q⟩
theorem gf_of {x : Str} {params : Arguments} {body : List PySem.Stmt} {scope : Scope} {f : Addr} {fd : FuncData} {N ps : List Str} {k : Nat} {g : SF} (F : FunD K x x params body scope [] [] f fd) (S : FnScope N ps scope) (hm : mg x = some (.ref f)) (hbd : L2.Binds K fd ps [])
    (hb : ∀ (cdv : Value) (A : Around) (outer : List Env) (s : Shared) (H : Hp) (E : XK) (n : En), Room k (A.deeper (PyProof.Rows.envOfC x scope s.heap.objs.size f cdv)) →
      DSs (cxOf (L2.CX P w) P w K mg base N x scope f cdv A outer s H E) cl (fun c d _ H' => E c d H') n body g) :
    Gf P w K mg base cl (k + 1) x ps.length (dFun N.length g) := ⟨f, fd, ps, fn_body F S hb, hm, F.kp, hbd⟩
theorem spD_imp {T : Th} {np : Nat} {p q : FF} (h : ∀ ds mu, ds.length = np → q ds mu ≠ .bad → p ds mu = q ds mu) : ∀ vs H Q E, spD T np q vs H Q E → spD T np p vs H Q E := fun vs H Q E ⟨F, al, mu, ds, m, r, hl, po⟩ => by
  refine ⟨F, al, mu, ds, m, r, hl, ?_⟩
  by_cases z : q ds mu = .bad
  · rw [z] at po; exact False.elim po
  · rw [h ds mu hl z]; exact po
/-- the def by another function: the same wherever that one tells anything -/
theorem Gf.to {k np : Nat} {x : Str} {p q : FF} (c : Gf P w K mg base cl k x np p) (h : ∀ ds mu, ds.length = np → q ds mu ≠ .bad → p ds mu = q ds mu) : Gf P w K mg base cl k x np q := by
  obtain ⟨f, fd, ps, hf, r⟩ := c.ex
  exact ⟨f, fd, ps, hf.imp (spD_imp h), r⟩
theorem Gf.mono {j k np : Nat} {x : Str} {p : FF} (c : Gf P w K mg base cl j x np p) (h : j ≤ k) : Gf P w K mg base cl k x np p := by
  obtain ⟨f, fd, ps, hf, r⟩ := c.ex
  exact ⟨f, fd, ps, hf.mono h, r⟩
end
end DL
end

section
set_option Elab.async false
set_option linter.all false
set_option maxRecDepth 100000
set_option maxHeartbeats 4000000
/-! DH: comprehensions, what is walked. -/
namespace DL
open PySem L2
section
variable {T : Th} {F F1 H H1 : Hp} {al al1 : Nat → Addr} {mu mu1 : Store} {sl : Sl} {σ : St}
/-- an object aside is left as it is -/
theorem Ext.guard (x : Ext T F al mu H F1 al1 mu1 H1) {a : Addr} {o : HO} (h : H a = some o) (tt : ∀ ps, o ≠ .tbl ps) (hF : F a = none) (hm : ∀ k m, mu[k]? = some (some m) → al k ≠ a) : H1 a = some o ∧ F1 a = none ∧ ∀ k m, mu1[k]? = some (some m) → al1 k ≠ a := by
  refine ⟨x.keep a o h tt hm, ?_, fun k m e z => ?_⟩
  · cases q : F1 a with
    | none => rfl
    | some u =>
      rcases x.new a u q with g | g | ⟨k, m', e1, e2⟩
      · rw [hF] at g; cases g
      · exact (g.no h tt).elim
      · exact absurd e2 (hm k m' e1)
  · rcases x.fresh k m e with ⟨m0, g⟩ | g
    · exact hm k m0 g (by rw [← x.als k (lt_of_live g)]; exact z)
    · rw [z] at g; exact (g.no h tt).elim
theorem Ext.updNew (x : Ext T F al mu H F1 al1 mu1 H1) {a : Addr} {o u0 : HO} (ho : ∀ ps, o ≠ .tbl ps) (h0 : Fre H a) (hu : H1 a = some u0) (hn : NoTab u0) (hF : F1 a = none) (hm : ∀ k m, mu1[k]? = some (some m) → al1 k ≠ a) : Ext T F al mu H F1 al1 mu1 (upd H1 a o) :=
  ⟨⟨fun b u q => by rw [upd_ne (ne_of_none q hF)]; exact x.mus.sub b u q, fun k m q => by
    obtain ⟨g1, u, g2, g3⟩ := x.mus.at_ k m q
    exact ⟨g1, u, by rw [upd_ne (hm k m q)]; exact g2, g3⟩, x.mus.inj, fun i z => tab_upd (.inr ⟨_, hu, hn⟩) (x.mus.tab i z), x.mus.nt⟩, x.sub, x.new, fun b u q tt z => by rw [upd_ne fun (g : b = a) => h0.no (g ▸ q) tt]; exact x.keep b u q tt z, fun b q => x.there b (there_upd (.inr ho) b q), x.als, x.ln, x.fresh⟩

def wipeS (sl : Sl) : List Nat → Sl
  | [] => sl
  | v :: vs => (wipeS sl vs).set v none
theorem wipeS_length : ∀ vs : List Nat, (wipeS sl vs).length = sl.length
  | [] => rfl
  | v :: vs => by unfold wipeS; rw [List.length_set, wipeS_length vs]
theorem wipeS_some {i : Nat} {x : SV} : ∀ {vs : List Nat}, (wipeS sl vs)[i]? = some (some x) → sl[i]? = some (some x) ∧ i ∉ vs
  | [], h => ⟨h, by simp⟩
  | v :: vs, h => by
    unfold wipeS at h
    rcases set_get h with ⟨_, q, _⟩ | ⟨ne, q⟩
    · cases q
    · obtain ⟨h1, h2⟩ := wipeS_some q
      exact ⟨h1, by simp only [List.mem_cons, not_or]; exact ⟨fun e => ne e.symm, h2⟩⟩
theorem wipe_keep {i : Nat} : ∀ {vs : List Nat}, i ∉ vs → (wipe σ vs)[i]? = σ[i]?
  | [], _ => rfl
  | v :: vs, h => by
    unfold wipe
    rw [List.getElem?_set_ne fun e => h (by rw [e]; exact List.mem_cons_self)]
    exact wipe_keep fun q => h (List.mem_cons_of_mem _ q)
theorem Wd.wipe (w : Wd T F al sl mu σ H) (vs : List Nat) : Wd T F al (wipeS sl vs) mu (L2.wipe σ vs) H where
  toMus := w.toMus
  len := by rw [wipeS_length, wipe_length]; exact w.len
  val := fun i d e => by
    obtain ⟨h1, h2⟩ := wipeS_some e
    rw [wipe_keep h2]
    exact w.val i d h1
  own := fun i d e => by
    obtain ⟨h1, h2⟩ := wipeS_some e
    rw [wipe_keep h2]
    exact w.own i d h1
  apart := fun i j m m' a ne e1 e2 g1 g2 => by
    obtain ⟨h1, h2⟩ := wipeS_some e1
    obtain ⟨h3, h4⟩ := wipeS_some e2
    rw [wipe_keep h2] at g1
    rw [wipe_keep h4] at g2
    exact w.apart i j m m' a ne h1 h3 g1 g2
theorem wipe_wipe : ∀ (vs : List Nat), wipe (wipe σ vs) vs = wipe σ vs := fun vs => by
  have key : ∀ ws : List Nat, (∀ i ∈ ws, i ∈ vs) → wipe (wipe σ vs) ws = wipe σ vs := by
    intro ws
    induction ws with
    | nil => intro _; rfl
    | cons w ws ih =>
      intro h
      show (wipe (wipe σ vs) ws).set w none = wipe σ vs
      rw [ih fun i hi => h i (List.mem_cons_of_mem _ hi)]
      have hw := h w List.mem_cons_self
      have none_at : ∀ vs : List Nat, w ∈ vs → (wipe σ vs).set w none = wipe σ vs := by
        intro vs
        induction vs with
        | nil => intro h; cases h
        | cons v vs ih2 =>
          intro h
          show ((wipe σ vs).set v none).set w none = (wipe σ vs).set v none
          by_cases e : v = w
          · subst e; rw [List.set_set]
          · rw [List.set_comm _ _ e]
            rcases List.mem_cons.mp h with h | h
            · exact absurd h.symm e
            · rw [ih2 h]
      exact none_at vs hw
  exact key vs fun _ h => h
end

/-- no exception -/
def noex {α : Type} (o : Out α) : Out α := match o with
  | .ex _ _ _ => .bad
  | o => o
def dLcL (g : Tg) (sw : Sl) (c : BF) (elt : EF) : List D → List D → Store → Out MO
  | [], acc, mu => .ok (.lst acc) mu
  | d :: ds, acc, mu => match g.run d sw with
    | none => .bad
    | some sl1 => obind (noex (c sl1 mu)) fun b mu1 => if b = true then obind (noex (elt sl1 mu1)) fun y mu2 => dLcL g sw c elt ds (acc ++ [y]) mu2 else dLcL g sw c elt ds acc mu1
def sizeOk (ds : List D) : Bool := decide (ds.length ≤ 16000000)
def dLc (src : LF) (g : Tg) (own : List Nat) (c : BF) (elt : EF) : NF := dBind src fun ds sl mu => if sizeOk ds = true then dLcL g (wipeS sl own) c elt ds [] mu else .bad
def dYes : BF := fun _ mu => .ok true mu
abbrev WF : WX := fun _ _ _ _ => False
abbrev DTs (X : Cx) (cl : Nat → Addr) (W : WX) (ifs : List PySem.Expr) (f : BF) : Prop := PTs X ifs (tG (Cx.th X cl) W RB f)
section
variable {X : Cx} {cl : Nat → Addr} {W : WX} {n : En} {elt iter tg e : PySem.Expr} {ifs : List PySem.Expr} {pos : Pos} {scope : Scope} {own : List (Str × Nat)} {src : LF} {g : Tg} {c : BF} {f : EF}
theorem dts_nil : DTs X cl W [] dYes := ⟨fun pins s σ H Q I h => by
  obtain ⟨F, al, sl, mu, w, po⟩ := h
  exact pts_nil.run pins s σ H Q I (Po.here po w.toMus rfl)⟩
/-- the turns of a comprehension -/
theorem lc_turns {T : Th} {F1 H1 : Hp} {al1 : Nat → Addr} {mu1 : Store} {sl : Sl} {σ : St} {vs : List Nat} {ds : List D} {J : It} {Q : VK} (w1 : Wd T F1 al1 sl mu1 σ H1) (hix : ∀ i ∈ g.ix, i ∈ vs) (hsz : ds.length ≤ 16000000) (r1 : RI T H F1 al1 mu1 H1 J ds)
    (po : Po T W F1 al1 mu1 σ H1 (RN T) (dLcL g (wipeS sl vs) c f ds [] mu1) Q) {D : Addr} (hD : H1 D = none) :
    ∃ W2 : Nat → Nat → Hp → Prop, (∃ m, W2 0 m (upd H1 D (.lst []))) ∧ ∀ i m H, W2 i m H →
      (J.stop i H ∧ Q (.ref D) H) ∨ (J.go i H ∧ ∃ Nx : Hp → Prop, (∀ H', Nx H' → ∃ m', m' < m ∧ W2 (i + 1) m' H') ∧ ∀ x H', J.yld i H x H' → tTgt T g x (wipe σ vs) H' fun σ2 H2 => wipe σ2 vs = wipe σ vs ∧ tG T WF RB c σ2 H2 fun b H3 =>
        if b = true then tG T WF (RD T) f σ2 H3 fun y H4 => ∃ acc, H4 D = some (.lst acc) ∧ acc.length < sizeLine ∧ Nx (upd H4 D (.lst (acc ++ [y]))) else Nx H3) := by
  obtain ⟨G, Y, wk, hG, hY⟩ := r1
  refine lc_it (Qd := fun H => Q (.ref D) H) wk (fun i H' => ∃ F2 al2 mu2 acc vs', Ext T F1 al1 mu1 H1 F2 al2 mu2 H' ∧ H' D = some (.lst vs') ∧ F2 D = none ∧ (∀ k m, mu2[k]? = some (some m) → al2 k ≠ D) ∧ RpL T F2 al2 mu2.length vs' acc ∧ acc.length ≤ i ∧
    Po T W F1 al1 mu1 σ H1 (RN T) (dLcL g (wipeS sl vs) c f (ds.drop i) acc mu2) Q) ?_ ?_ ?_ ?_
  · exact ⟨F1, al1, mu1, [], [], Ext.laidH w1.toMus hD, upd_same, w1.F_none hD, Mus.ne_laid w1.toMus hD, .nil, Nat.le_refl _, po⟩
  · rintro i H' _ ⟨F2, al2, mu2, acc, vs', x2, _⟩
    exact hG F2 H' x2.sub x2.mus.sub
  · rintro i x H' H'' hi ⟨F2, al2, mu2, acc, vs', x2, hd, hF, hm, ra, hl, po2⟩ y
    obtain ⟨d, F3, hdd, x3, r3⟩ := hY F2 al2 mu2 H' i x H'' x2.gr x2.mus hi y
    have e : ds.drop i = d :: ds.drop (i + 1) := by
      rw [List.getElem?_eq_some_iff] at hdd
      obtain ⟨h1, h2⟩ := hdd
      rw [← h2]
      exact List.drop_eq_getElem_cons h1
    rw [e] at po2
    unfold dLcL at po2
    split at po2
    · exact False.elim po2
    · rename_i sl3 hg3
      have x4 := x2.trans x3
      obtain ⟨hd4, hF4, hm4⟩ := x3.guard hd (noTab_lst _).1 hF hm
      refine ⟨F3, al2, wipeS sl vs, mu2, d, sl3, (w1.wipe vs).ext x4, r3, hg3, fun σ' w' _ ix' => ⟨by rw [ix' vs hix, wipe_wipe], F3, al2, sl3, mu2, w', ?_⟩⟩
      cases z : c sl3 mu2 with
      | bad => rw [z] at po2; exact po2
      | ex a b d => rw [z] at po2; exact False.elim po2
      | ok b mu3 =>
        rw [z] at po2
        intro v F5 al5 H5 x5 r5
        cases r5
        obtain ⟨hd5, hF5, hm5⟩ := x5.guard hd4 (noTab_lst _).1 hF4 hm4
        cases b with
        | false =>
          exact ⟨F5, al5, mu3, acc, vs', x4.trans x5, hd5, hF5, hm5, x5.rpL (x3.rpL ra), by omega, po2⟩
        | true =>
          show tG T WF (RD T) f σ' H5 _
          refine ⟨F5, al5, sl3, mu3, w'.ext x5, ?_⟩
          cases z2 : f sl3 mu3 with
          | bad => simp only [noex, obind, if_true, z2] at po2; exact po2
          | ex a b d => simp only [noex, obind, if_true, z2] at po2; exact False.elim po2
          | ok y mu4 =>
            simp only [noex, obind, if_true, z2] at po2
            intro u F6 al6 H6 x6 r6
            obtain ⟨hd6, hF6, hm6⟩ := x6.guard hd5 (noTab_lst _).1 hF5 hm5
            have hlen := RpL.len ra
            refine ⟨vs', hd6, by rw [hlen, sizeLine_eq]; omega, F6, al6, mu4, acc ++ [y], vs' ++ [u], ((x4.trans x5).trans x6).updNew (noTab_lst _).1 (.of hD) hd6 (noTab_lst _) hF6 hm6, upd_same, hF6, hm6, ?_, by simp; omega, po2⟩
            have happ : ∀ {us : List V} {es : List DL.D}, RpL T F6 al6 mu4.length us es → RpL T F6 al6 mu4.length (us ++ [u]) (es ++ [y]) := by
              intro us
              induction us with
              | nil =>
                intro es h
                cases h
                exact .cons r6 .nil
              | cons v us ih =>
                intro es h
                cases h with
                | cons h1 h2 => exact .cons h1 (ih h2)
            exact happ (x6.rpL (x5.rpL (x3.rpL ra)))
  · rintro H' ⟨F2, al2, mu2, acc, vs', x2, hd, hF, hm, ra, hl, po2⟩
    rw [List.drop_length] at po2
    exact po2 _ F2 al2 H' x2 ⟨D, _, rfl, .of hD, hF, hd, ra, hm⟩
theorem dn_lc (hc : X.calm = true) (hN : X.N.Nodup) (hi : DI X cl W tg iter src) (ok : BlkOk X.N X.env.scope scope own) (hg : ∀ (s : Shared) (H : Hp) (C : Addr) (l : List (Str × Addr)) (fp : List Addr), DG (X.blk s H scope (compEnvC scope l C X.env) fp) cl tg g)
    (ht : ∀ (s : Shared) (H : Hp) (C : Addr) (l : List (Str × Addr)) (fp : List Addr), DTs (X.blk s H scope (compEnvC scope l C X.env) fp) cl WF ifs c) (he : ∀ (s : Shared) (H : Hp) (C : Addr) (l : List (Str × Addr)) (fp : List Addr), DE (X.blk s H scope (compEnvC scope l C X.env) fp) cl WF elt f)
    (hix : ∀ i ∈ g.ix, i ∈ own.map (·.2)) (hs : ∀ x, foldedSetIterable iter X.env x = pure x := by intro _; rfl) : DN X cl W (.ListComp elt [⟨tg, iter, ifs, 0⟩] scope pos) (dLc src g (own.map (·.2)) c f) :=
  PE.imp (pe_lc hc hN hi ok hg ht he hs) fun σ H Q q => by
    obtain ⟨F, al, sl, mu, w, po⟩ := q
    refine seqG back_RN w po rfl fun J ds F1 al1 mu1 H1 x1 w1 r1 po1 D hD => ?_
    dsimp only at po1
    split at po1
    · rename_i hsz
      exact lc_turns (W := W) (H := H) w1 hix (of_decide_eq_true hsz) r1 po1 hD
    · exact False.elim po1
end

/-! ### what is walked -/
def dItL (f : EF) : LF := dBind f fun d _ mu => match d with
  | .lst l => .ok l mu
  | _ => .bad
def dItT (f : EF) : LF := dBind f fun d _ mu => match d with
  | .tup l => .ok l mu
  | _ => .bad
def rangeD (lo : Int) (n : Nat) : List D := (List.range n).map fun i => .int (lo + (i : Nat))
def rgOk (j : Int) : Bool := decide (-1000000000 ≤ j) && decide (j ≤ 1000000000)
theorem rgOk_of {j : Int} (h : rgOk j = true) : -1000000000 ≤ j ∧ j ≤ 1000000000 := by
  unfold rgOk at h
  rw [Bool.and_eq_true] at h
  exact ⟨of_decide_eq_true h.1, of_decide_eq_true h.2⟩
def dRg1 (f : EF) : LF := dBind f fun d _ mu => match d with
  | .int j => if rgOk j = true then .ok (rangeD 0 j.toNat) mu else .bad
  | _ => .bad
def dRg2 (f g : EF) : LF := dBind f fun d => dBind g fun e _ mu => match d, e with
  | .int i, .int j => if (rgOk i && rgOk j) = true then .ok (rangeD i (j - i).toNat) mu else .bad
  | _, _ => .bad
def signsD (z : Str) : List D := z.cps.toList.map fun c => .str ⟨#[c]⟩
def dItS (f : EF) : LF := dBind f fun d _ mu => match d with
  | .str z => .ok (signsD z) mu
  | _ => .bad
section
variable {X : Cx} {cl : Nat → Addr} {W : WX} {e tg a b : PySem.Expr} {f fa fb : EF} {pos p1 : Pos}
theorem back_RI {T : Th} : Back (RI T) := fun _ _ _ _ _ _ _ _ _ h => h
theorem PI.imp {t t' : TI} (h : PI X tg e t) (i : ∀ σ H R, t' σ H R → t σ H R) : PI X tg e t' := ⟨fun pins s σ H R I q => h.run pins s σ H R I (i σ H R q)⟩
theorem gr_at {T : Th} {F F' : Hp} {al al' : Nat → Addr} {mu mu' : Store} {xs : List V} {ds : List D} {i : Nat} {x : V} (g : Gr F al mu F' al' mu') (h : RpL T F al mu.length xs ds) (e : xs[i]? = some x) : ∃ d, ds[i]? = some d ∧ Rp T F' al' mu'.length x d := by
  have h' := RpL.mono (T := T) g.sub g.als g.ln h
  have hl := RpL.len h'
  have hi : i < xs.length := (List.getElem?_eq_some_iff.mp e).1
  cases q : ds[i]? with
  | none => rw [List.getElem?_eq_none_iff] at q; omega
  | some d =>
    obtain ⟨v, h1, h2⟩ := h'.get q
    rw [e] at h1; cases h1
    exact ⟨d, rfl, h2⟩
theorem di_list (h : DE X cl W e f) : DI X cl W tg e (dItL f) := PI.imp (pi_list h) fun σ H R q => by
  obtain ⟨F, al, sl, mu, w, po⟩ := q
  refine seqG back_RI w po rfl fun v d F1 al1 mu1 H1 x1 w1 r1 po1 => ?_
  cases r1 with
  | @lst a xs ds ha hl =>
    refine ⟨a, rfl, ⟨xs, SqL.of (w1.sub _ _ ha)⟩, Po.here po1 w1.toMus ⟨_, _, by rw [← RpL.len hl]; exact walk_list (xs := xs), fun F' H' s1 s2 => SqL.of (s2 _ _ (s1 _ _ ha)), fun F' al' mu' H' i x H2 g m hi y => ?_⟩⟩
    obtain ⟨rfl, hx⟩ := y
    obtain ⟨d, h1, h2⟩ := gr_at g hl hx
    exact ⟨d, F', h1, Ext.refl m, h2⟩
  | _ => exact False.elim po1
theorem di_tup (h : DE X cl W e f) : DI X cl W tg e (dItT f) := PI.imp (pi_tup h) fun σ H R q => by
  obtain ⟨F, al, sl, mu, w, po⟩ := q
  refine seqG back_RI w po rfl fun v d F1 al1 mu1 H1 x1 w1 r1 po1 => ?_
  cases r1 with
  | @tup a xs ds ha hl =>
    refine ⟨a, rfl, ⟨xs, sqT_mono w1.sub ha⟩, Po.here po1 w1.toMus ⟨_, _, by rw [← RpL.len hl]; exact walk_tup (xs := xs), fun F' H' s1 s2 => sqT_mono s2 (s1 _ _ ha), fun F' al' mu' H' i x H2 g m hi y => ?_⟩⟩
    obtain ⟨rfl, hx⟩ := y
    obtain ⟨d, h1, h2⟩ := gr_at g hl hx
    exact ⟨d, F', h1, Ext.refl m, h2⟩
  | _ => exact False.elim po1
theorem rangeD_len {lo : Int} {n : Nat} : (rangeD lo n).length = n := by unfold rangeD; simp
theorem ri_range {T : Th} {H0 F H : Hp} {al : Nat → Addr} {mu : Store} {lo : Int} {n : Nat} : RI T H0 F al mu H (Itr lo n) (rangeD lo n) :=
  ⟨_, _, by rw [rangeD_len]; exact walk_range, fun _ _ _ _ => trivial, fun F' al' mu' H' i x H2 g m hi y => by
    obtain ⟨rfl, rfl⟩ := y
    rw [rangeD_len] at hi
    exact ⟨.int (lo + (i : Nat)), F', by unfold rangeD; simp [hi], Ext.refl m, .int _⟩⟩
theorem di_range1 {g : LF} (hg : Gl X "range") (hm : X.mg "range" = none) (ha : DAs X cl W [a] g) (hf : g = dCons fa dNil) (hs : starEach [a] X.env = [(false, eval a X.env)] := by rfl) : DI X cl W tg (.Call (.Name "range" p1) [a] [] pos) (dRg1 fa) :=
  PI.imp (pi_range1 hg hm ha hs) fun σ H R q => by
    obtain ⟨F, al, sl, mu, w, po⟩ := q
    subst hf
    refine ⟨F, al, sl, mu, w, ?_⟩
    unfold dCons dNil dBind obind
    unfold dRg1 dBind obind at po
    cases z : fa sl mu with
    | bad => rw [z] at po; exact po
    | ex c fs mu1 => rw [z] at po; exact po
    | ok d mu1 =>
      rw [z] at po
      intro vs F1 al1 H1 x1 r1
      cases r1 with
      | cons r1 r2 =>
        cases r2
        cases r1 with
        | int j =>
          dsimp only at po
          split at po
          · rename_i hj
            have hj := rgOk_of hj
            exact ⟨j, rfl, by omega, by omega, po _ F1 al1 H1 x1 ri_range⟩
          · exact False.elim po
        | _ => exact False.elim po
end
end DL
end

section
set_option Elab.async false
set_option linter.all false
set_option maxRecDepth 100000
set_option maxHeartbeats 4000000
/-! DK: operands that are looked into, built-ins of one argument, subscripts, slices. -/
namespace DL
open PySem L2
def lookD (mu : Store) : D → D
  | .obj k => match mu[k]? with
    | some (some m) => m.d
    | _ => .obj k
  | d => d
/-- as it stands just now: its top in H, what is within in F -/
def Top (T : Th) (F : Hp) (al : Nat → Addr) (n : Nat) (H : Hp) (v : V) : D → Prop
  | .lst ds => ∃ a xs, v = .ref a ∧ H a = some (.lst xs) ∧ RpL T F al n xs ds
  | .ins c fs => Lv T.cls c ∧ ∃ a dx vs, v = .ref a ∧ H a = some (.ins (T.cls c) dx vs) ∧ RpF T F al n vs fs
  | d => Rp T F al n v d
section
variable {T : Th} {F F1 H H1 : Hp} {al al1 : Nat → Addr} {mu mu1 : Store} {sl : Sl} {σ : St} {v : V} {d : D}
theorem top_conc {a : Addr} {o : HO} {m : MO} (h : H a = some o) (c : Conc T F al mu.length o m) : Top T F al mu.length H (.ref a) m.d := by
  cases o <;> cases m <;> first
    | exact False.elim c
    | exact ⟨_, _, rfl, h, c⟩
    | (obtain ⟨⟨c1, c3⟩, c2⟩ := c; subst c1; exact ⟨c3, _, _, _, rfl, h, c2⟩)
theorem top_look (m : Mus T F al mu H) (r : Rp T F al mu.length v d) : Top T F al mu.length H v (lookD mu d) := by
  cases r with
  | @obj k hk =>
    unfold lookD
    dsimp only
    split
    · rename_i m' e
      obtain ⟨_, o, h1, h2⟩ := m.at_ k m' e
      exact top_conc h1 h2
    · exact .obj hk
  | lst h1 h2 => exact ⟨_, _, rfl, m.sub _ _ h1, h2⟩
  | ins h0 h1 h2 => exact ⟨h0, _, _, _, rfl, m.sub _ _ h1, h2⟩
  | non => exact .non
  | bl b => exact .bl b
  | int i => exact .int i
  | str x => exact .str x
  | tup h1 h2 => exact .tup h1 h2
  | frl h1 h2 => exact .frl h1 h2
  | frt h1 h2 => exact .frt h1 h2
  | dct h1 => exact .dct h1
  | exn h1 h2 h3 => exact .exn h1 h2 h3
  | dc1 h1 h2 => exact .dc1 h1 h2
end
def RK (T : Th) : Rel V D := fun _ F al mu H v d => Top T F al mu.length H v d
abbrev DKk (X : Cx) (cl : Nat → Addr) (W : WX) (e : PySem.Expr) (f : EF) : Prop := PE X e (tG (Cx.th X cl) W (RK (Cx.th X cl)) f)
def dLook (f : EF) : EF := dBind f fun d _ mu => .ok (lookD mu d) mu
def Pur1K (T : Th) (r : List V → Hp → VK → Prop) (g : D → Option D) : Prop := ∀ (F : Hp) (al : Nat → Addr) (mu : Store) (H : Hp), Mus T F al mu H → ∀ (x : V) (d res : D), Top T F al mu.length H x d → g d = some res → ∀ Q : VK,
  (∀ v F' H', Ext T F al mu H F' al mu H' → Rp T F' al mu.length v res → Q v H') → r [x] H Q
def dNw1 (g : D → Option MO) (f : EF) : NF := dBind f fun d _ mu => match g d with
  | some r => .ok r mu
  | none => .bad
section
variable {X : Cx} {cl : Nat → Addr} {W : WX} {a b e : PySem.Expr} {f fa fb : EF} {pos p1 : Pos} {x : Str} {id : String} {r : List V → Hp → VK → Prop}
theorem dk_look (h : DE X cl W e f) : DKk X cl W e (dLook f) := PE.imp h fun σ H Q q => by
  obtain ⟨F, al, sl, mu, w, po⟩ := q
  refine ⟨F, al, sl, mu, w, ?_⟩
  unfold dLook dBind obind at po
  cases z : f sl mu with
  | ok d mu1 =>
    rw [z] at po
    exact fun v F1 al1 H1 x1 r1 => po v F1 al1 H1 x1 (top_look x1.mus r1)
  | ex c fs mu1 => rw [z] at po; exact po
  | bad => rw [z] at po; exact po
theorem tCB1 {g : D → Option D} (hr : Pur1K (Cx.th X cl) r g) {σ : St} {H : Hp} {Q : VK} (q : tG (Cx.th X cl) W (RD (Cx.th X cl)) (dOp1 g f) σ H Q) : tCB r (tCons (tG (Cx.th X cl) W (RK (Cx.th X cl)) f) tNil) σ H Q := by
  obtain ⟨F, al, sl, mu, w, po⟩ := q
  refine seqG back_RD w po rfl fun v d F1 al1 mu1 H1 x1 w1 r1 po1 => ?_
  dsimp only at po1
  cases z : g d with
  | none => rw [z] at po1; exact False.elim po1
  | some res =>
    rw [z] at po1
    exact hr F1 al1 mu1 H1 w1.toMus v d res r1 z Q fun v' F' H' x' r' => po1 v' F' al1 H' x' r'
theorem de_b1 {g : D → Option D} (hc : CallR X (.builtin id) r) (hr : Pur1K (Cx.th X cl) r g) (hg : Gl X x) (hm : X.mg x = none) (hv : bootBuiltins x = some (.builtin id)) (h : DKk X cl W e f) (hn : x ≠ "__name__" := by decide) (hdb : (x == ("__debug__" : Str)) = false := by decide)
    (he : starEach [e] X.env = (false, eval e X.env) :: starEach [] X.env := by rfl) (hpl : (backTo pos (starEach [] X.env)).any (·.1) = false := by rfl) : DE X cl W (.Call (.Name x p1) [e] [] pos) (dOp1 g f) :=
  PE.imp (pe_callB hc hg hm hv (pa_cons h pa_nil he) hn hdb he hpl) fun σ H Q q => tCB1 hr q
theorem de_t1 {g : D → Option D} (hc : CallR X (.type id) r) (hr : Pur1K (Cx.th X cl) r g) (hg : Gl X x) (hm : X.mg x = none) (hv : bootBuiltins x = some (.type id)) (h : DKk X cl W e f) (hn : x ≠ "__name__" := by decide) (hdb : (x == ("__debug__" : Str)) = false := by decide)
    (he : starEach [e] X.env = (false, eval e X.env) :: starEach [] X.env := by rfl) (hpl : (backTo pos (starEach [] X.env)).any (·.1) = false := by rfl) : DE X cl W (.Call (.Name x p1) [e] [] pos) (dOp1 g f) :=
  PE.imp (pe_callTy hc hg hm hv (pa_cons h pa_nil he) hn hdb he hpl) fun σ H Q q => tCB1 hr q
def lenD : D → Option D
  | .lst l => some (.int l.length)
  | .tup l => some (.int l.length)
  | .frt l => some (.int l.length)
  | .str z => if z.length ≤ 16000000 then some (.int z.length) else none
  | _ => none
theorem de_len (hg : Gl X "len") (hm : X.mg "len" = none) (h : DKk X cl W e f) (he : starEach [e] X.env = (false, eval e X.env) :: starEach [] X.env := by rfl) (hpl : (backTo pos (starEach [] X.env)).any (·.1) = false := by rfl) : DE X cl W (.Call (.Name "len" p1) [e] [] pos) (dOp1 lenD f) := by
  refine de_b1 (CallR.or call_len_seq call_len_str) (fun F al mu H m x d res t e Q k => ?_) hg hm boot_len h (by decide) (by decide) he hpl
  cases d with
  | lst l =>
    cases e
    obtain ⟨a, xs, rfl, h1, h2⟩ := t
    exact .inl ⟨a, xs, rfl, .inl (SqL.of h1), k _ F H (Ext.refl m) (by rw [RpL.len h2]; exact .int _)⟩
  | tup l =>
    cases e
    cases (show Rp _ _ _ _ _ _ from t) with
    | tup h1 h2 => exact .inl ⟨_, _, rfl, .inr (sqT_mono m.sub h1), k _ F H (Ext.refl m) (by rw [RpL.len h2]; exact .int _)⟩
  | frt l =>
    cases e
    cases (show Rp _ _ _ _ _ _ from t) with
    | frt h1 h2 => exact .inl ⟨_, _, rfl, .inr (sqTK_mono m.sub h1), k _ F H (Ext.refl m) (by rw [RpL.len h2]; exact .int _)⟩
  | str z =>
    have e' : (if z.length ≤ 16000000 then some (D.int z.length) else none) = some res := e
    by_cases hz : z.length ≤ 16000000
    · rw [if_pos hz] at e'
      cases e'
      cases (show Rp _ _ _ _ _ _ from t)
      exact .inr ⟨z, rfl, by rw [sizeLine_eq]; omega, k _ F H (Ext.refl m) (.int _)⟩
    · rw [if_neg hz] at e'
      cases e'
  | _ => cases e
def absD : D → Option D
  | .int i => some (.int (if i < 0 then -i else i))
  | _ => none
theorem de_abs (hg : Gl X "abs") (hm : X.mg "abs" = none) (h : DKk X cl W e f) (he : starEach [e] X.env = (false, eval e X.env) :: starEach [] X.env := by rfl) (hpl : (backTo pos (starEach [] X.env)).any (·.1) = false := by rfl) : DE X cl W (.Call (.Name "abs" p1) [e] [] pos) (dOp1 absD f) := by
  refine de_b1 call_abs (fun F al mu H m x d res t e Q k => ?_) hg hm (by decide +kernel) h (by decide) (by decide) he hpl
  cases d with
  | int i =>
    cases e
    cases (show Rp _ _ _ _ _ _ from t)
    exact ⟨_, rfl, k _ F H (Ext.refl m) (.int _)⟩
  | _ => cases e
def intD : D → Option D
  | .int i => some (.int i)
  | .bl b => some (.int (if b then 1 else 0))
  | _ => none
theorem de_int1 (hg : Gl X "int") (hm : X.mg "int" = none) (h : DKk X cl W e f) (he : starEach [e] X.env = (false, eval e X.env) :: starEach [] X.env := by rfl) (hpl : (backTo pos (starEach [] X.env)).any (·.1) = false := by rfl) : DE X cl W (.Call (.Name "int" p1) [e] [] pos) (dOp1 intD f) := by
  refine de_t1 call_int1 (fun F al mu H m x d res t e Q k => ?_) hg hm (by decide +kernel) h (by decide) (by decide) he hpl
  cases d with
  | int i =>
    cases e
    cases (show Rp _ _ _ _ _ _ from t)
    exact .inl ⟨_, rfl, k _ F H (Ext.refl m) (.int _)⟩
  | bl i =>
    cases e
    cases (show Rp _ _ _ _ _ _ from t)
    exact .inr ⟨_, rfl, k _ F H (Ext.refl m) (.int _)⟩
  | _ => cases e
end
end DL
end

section
set_option Elab.async false
set_option linter.all false
set_option maxRecDepth 100000
set_option maxHeartbeats 4000000
/-! DM: arithmetic, comparisons, in, is, subscripts, slices. -/
namespace DL
open PySem L2
mutual
def toP : D → Option PyData
  | .non => some .none
  | .bl b => some (.bool b)
  | .int i => some (.int i)
  | .str x => some (.str x)
  | .lst l => match toPL l with
    | some ps => some (.list ps)
    | none => none
  | .tup l => match toPL l with
    | some ps => some (.tuple ps)
    | none => none
  | .dct _ => none
  | .ins _ _ => none
  | .exn _ _ => none
  | .obj _ => none
  | .frl _ => none
  | .frt l => match toPL l with
    | some ps => some (.tuple ps)
    | none => none
def toPL : List D → Option (List PyData)
  | [] => some []
  | d :: ds => match toP d, toPL ds with
    | some p, some ps => some (p :: ps)
    | _, _ => none
end
mutual
theorem toP_plain : ∀ {d : D} {p : PyData}, toP d = some p → p.plain = true
  | .non, _, h => by cases h; rfl
  | .bl b, _, h => by cases h; rfl
  | .int i, _, h => by cases h; rfl
  | .str x, _, h => by cases h; rfl
  | .lst l, p, h => by
    unfold toP at h
    split at h
    · rename_i ps e
      cases h
      show PyData.plainAll ps = true
      exact toPL_plain e
    · cases h
  | .tup l, p, h => by
    unfold toP at h
    split at h
    · rename_i ps e
      cases h
      show PyData.plainAll ps = true
      exact toPL_plain e
    · cases h
  | .dct _, _, h => by cases h
  | .ins _ _, _, h => by cases h
  | .exn _ _, _, h => by cases h
  | .obj _, _, h => by cases h
  | .frl _, _, h => by cases h
  | .frt l, p, h => by
    unfold toP at h
    split at h
    · rename_i ps e
      cases h
      show PyData.plainAll ps = true
      exact toPL_plain e
    · cases h
theorem toPL_plain : ∀ {l : List D} {ps : List PyData}, toPL l = some ps → PyData.plainAll ps = true
  | [], _, h => by cases h; rfl
  | d :: ds, _, h => by
    unfold toPL at h
    split at h
    · rename_i p ps e1 e2
      cases h
      show (p.plain && PyData.plainAll ps) = true
      rw [toP_plain e1, toPL_plain e2]; rfl
    · cases h
end
section
variable {T : Th} {F H : Hp} {al : Nat → Addr} {n : Nat}
mutual
theorem Rp.dp (s : ∀ a o, F a = some o → H a = some o) : ∀ {d : D} {v : V} {p : PyData}, Rp T F al n v d → toP d = some p → Dp T.K H v p
  | .non, _, _, r, h => by cases h; cases r; exact .non
  | .bl b, _, _, r, h => by cases h; cases r; exact .bl b
  | .int i, _, _, r, h => by cases h; cases r; exact .int i
  | .str x, _, _, r, h => by cases h; cases r; exact .str x
  | .lst l, v, p, r, h => by
    unfold toP at h
    split at h
    · rename_i ps e
      cases h
      cases r with
      | lst h1 h2 => exact .lst (SqL.of (s _ _ h1)) (RpL.dp s h2 e)
    · cases h
  | .tup l, v, p, r, h => by
    unfold toP at h
    split at h
    · rename_i ps e
      cases h
      cases r with
      | tup h1 h2 => exact .tup (sqT_mono s h1) (RpL.dp s h2 e)
    · cases h
  | .dct _, _, _, _, h => by cases h
  | .ins _ _, _, _, _, h => by cases h
  | .exn _ _, _, _, _, h => by cases h
  | .obj _, _, _, _, h => by cases h
  | .frl _, _, _, _, h => by cases h
  | .frt l, v, p, r, h => by
    unfold toP at h
    split at h
    · rename_i ps e
      cases h
      cases r with
      | frt h1 h2 => exact .tup (sqTK_mono s h1) (RpL.dp s h2 e)
    · cases h
theorem RpL.dp (s : ∀ a o, F a = some o → H a = some o) : ∀ {l : List D} {vs : List V} {ps : List PyData}, RpL T F al n vs l → toPL l = some ps → DpAll T.K H vs ps
  | [], _, _, r, h => by cases h; cases r; exact .nil
  | d :: ds, _, _, r, h => by
    unfold toPL at h
    split at h
    · rename_i p ps e1 e2
      cases h
      cases r with
      | cons r1 r2 => exact .cons (Rp.dp s r1 e1) (RpL.dp s r2 e2)
    · cases h
end
end
/-! ### == -/
def eqD (d e : D) : Option Bool := match toP d, toP e with
  | some p, some q => if min p.depth q.depth ≤ 60 then some (PyData.eqv p q) else none
  | _, _ => none
def neD (d e : D) : Option Bool := (eqD d e).map (!·)
def rEqP (K : PySem.W.Frag) : R2 := fun x y H Q => ∃ d e, Dp K H x d ∧ Dp K H y e ∧ d.plain = true ∧ e.plain = true ∧ min d.depth e.depth ≤ 60 ∧ Q (.bl (PyData.eqv d e)) H
def rNeP (K : PySem.W.Frag) : R2 := fun x y H Q => ∃ d e, Dp K H x d ∧ Dp K H y e ∧ d.plain = true ∧ e.plain = true ∧ min d.depth e.depth ≤ 60 ∧ Q (.bl (!PyData.eqv d e)) H
section
variable {X : Cx} {cl : Nat → Addr} {W : WX} {a b e : PySem.Expr} {f fa fb : EF} {pos p1 : Pos} {x : Str}
theorem op_eqP (hu : X.A.units + 64 < cLine) : OpR X (compareOp .Eq) (rEqP X.K) := by
  intro pins s σ H x y v u Q I rx ry h
  obtain ⟨d, e, hd, he, sd, se, hm, q⟩ := h
  obtain ⟨as, r1⟩ := Dp.reads I d x v hd rx
  obtain ⟨bs, r2⟩ := Dp.reads I e y u he ry
  exact SeqAt.eq_plain r1 r2 sd se (by omega) ⟨.bl _, H, I, rfl, q⟩
theorem op_neP (hu : X.A.units + 64 < cLine) : OpR X (compareOp .NotEq) (rNeP X.K) := by
  intro pins s σ H x y v u Q I rx ry h
  obtain ⟨d, e, hd, he, sd, se, hm, q⟩ := h
  obtain ⟨as, r1⟩ := Dp.reads I d x v hd rx
  obtain ⟨bs, r2⟩ := Dp.reads I e y u he ry
  exact SeqAt.ne_plain r1 r2 sd se (by omega) ⟨.bl _, H, I, rfl, q⟩
theorem pur_eq {T : Th} : PurB T (rEqP T.K) eqD := fun F al mu H m x y d e res rx ry z Q k => by
  unfold eqD at z
  split at z
  · rename_i p q e1 e2
    split at z
    · rename_i hm
      cases z
      exact ⟨p, q, rx.dp m.sub e1, ry.dp m.sub e2, toP_plain e1, toP_plain e2, hm, k⟩
    · cases z
  · cases z
theorem pur_ne {T : Th} : PurB T (rNeP T.K) neD := fun F al mu H m x y d e res rx ry z Q k => by
  obtain ⟨b, z1, rfl⟩ := Option.map_eq_some_iff.mp z
  unfold eqD at z1
  split at z1
  · rename_i p q e1 e2
    split at z1
    · rename_i hm
      cases z1
      exact ⟨p, q, rx.dp m.sub e1, ry.dp m.sub e2, toP_plain e1, toP_plain e2, hm, k⟩
    · cases z1
  · cases z1
theorem de_eq (hu : X.A.units + 64 < cLine) (ha : DE X cl W a fa) (hb : DE X cl W b fb) : DE X cl W (.Compare a [.Eq] [b] pos) (dB2v (dCmp eqD fa fb)) := de_cmp (op_eqP hu) (nobehind _ (by decide) (by decide)) (pur_eq (T := Cx.th X cl)) ha hb
def cmpI (p : Int → Int → Bool) : D → D → Option Bool
  | .int i, .int j => some (p i j)
  | _, _ => none
theorem pur_int {T : Th} {p : Int → Int → Bool} : PurB T (rI0 fun i j => .bl (p i j)) (cmpI p) := fun F al mu H m x y d e res rx ry z Q k => by
  cases d with
  | int i =>
    cases e with
    | int j =>
      cases z
      cases rx
      cases ry
      exact ⟨i, j, rfl, rfl, k⟩
    | _ => cases z
  | _ => cases z
abbrev gtI := cmpI fun i j => decide (j < i)
abbrev geI := cmpI fun i j => decide (j ≤ i)
def intsD : List D → Option (List Int)
  | [] => some []
  | .int i :: l => (intsD l).map (i :: ·)
  | _ => none
theorem intsD_rp {T : Th} {F : Hp} {al : Nat → Addr} {n : Nat} : ∀ {l : List D} {xs : List V} {is : List Int}, RpL T F al n xs l → intsD l = some is → xs = is.map V.int
  | [], _, _, r, e => by cases r; cases e; rfl
  | d :: l, _, is, r, e => by
    cases r with
    | cons r1 r2 =>
      cases d with
      | int i =>
        cases r1
        obtain ⟨is', h1, rfl⟩ := Option.map_eq_some_iff.mp e
        rw [intsD_rp r2 h1]; rfl
      | _ => cases e
def ltD : D → D → Option Bool
  | .int i, .int j => some (decide (i < j))
  | .tup l, .tup m => match intsD l, intsD m with
    | some is, some js => some (HT.lexLt is js)
    | _, _ => none
  | _, _ => none
theorem pur_lt {T : Th} : PurB T (fun x y H Q => rI0 (fun i j => .bl (decide (i < j))) x y H Q ∨ rLtT T.K x y H Q) ltD := fun F al mu H m x y d e res rx ry z Q k => by
  cases d with
  | int i =>
    cases e with
    | int j =>
      cases z
      cases rx
      cases ry
      exact .inl ⟨i, j, rfl, rfl, k⟩
    | _ => cases z
  | tup l =>
    cases e with
    | tup l' =>
      have z' : (match intsD l, intsD l' with
        | some is, some js => some (HT.lexLt is js)
        | _, _ => none) = some res := z
      split at z'
      · rename_i is js e1 e2
        cases z'
        cases rx with
        | tup h1 h2 =>
          cases ry with
          | tup h3 h4 =>
            rw [intsD_rp h2 e1] at h1
            rw [intsD_rp h4 e2] at h3
            exact .inr ⟨_, _, is, js, rfl, rfl, sqT_mono m.sub h1, sqT_mono m.sub h3, k⟩
      · cases z'
    | _ => cases z
  | _ => cases z
/-- a <= b <= c of ints -/
def dChn (g h : D → D → Option Bool) (fa fb fc : EF) : BF := dBind fa fun x => dBind fb fun y sl mu => match g x y with
  | some true => obind (fc sl mu) fun z mu => match h y z with
    | some r => .ok r mu
    | none => .bad
  | some false => .ok false mu
  | none => .bad
def isNon : D → Bool
  | .non => true
  | _ => false
theorem Rp.isNon {T : Th} {F : Hp} {al : Nat → Addr} {n : Nat} {v : V} {d : D} (r : Rp T F al n v d) : decide (v = .non) = DL.isNon d := by
  cases r <;> first | rfl | (apply decide_eq_false; intro h; cases h)
def dIsN (f : EF) : BF := dBind f fun d _ mu => .ok (isNon d) mu
def addD : D → D → Option D
  | .int i, .int j => some (.int (i + j))
  | .str x, .str y => if x.length + y.length ≤ 16000000 then some (.str (x ++ y)) else none
  | .lst l, .lst m => if l.length + m.length ≤ 16000000 then some (.lst (l ++ m)) else none
  | .tup l, .tup m => if l.length + m.length ≤ 16000000 then some (.tup (l ++ m)) else none
  | _, _ => none
theorem RpL.append {T : Th} {F : Hp} {al : Nat → Addr} {n : Nat} {vs us : List V} {ds es : List D} (h : RpL T F al n vs ds) (k : RpL T F al n us es) : RpL T F al n (vs ++ us) (ds ++ es) := by
  induction vs generalizing ds with
  | nil => cases h; exact k
  | cons v vs ih =>
    cases h with
    | cons h1 h2 => exact .cons h1 (ih h2)
abbrev rAdd4 (K : PySem.W.Frag) : R2 := fun x y H Q => (rI0 (fun i j => .int (i + j)) x y H Q ∨ ∃ i j, x = .str i ∧ y = .str j ∧ i.length + j.length ≤ sizeLine ∧ Q (.str (i ++ j)) H) ∨ rCat x y H Q ∨ rCatA K x y H Q
theorem pur_add {T : Th} : Pur2 T (rAdd4 T.K) addD := fun F al mu H m x y d e res rx ry z Q k => by
  cases d with
  | int i =>
    cases e with
    | int j => cases z; cases rx; cases ry; exact .inl (.inl ⟨i, j, rfl, rfl, k _ F H (Ext.refl m) (.int _)⟩)
    | _ => cases z
  | str i =>
    cases e with
    | str j =>
      have z' : (if i.length + j.length ≤ 16000000 then some (D.str (i ++ j)) else none) = some res := z
      split at z'
      · rename_i hz
        cases z'
        cases rx
        cases ry
        exact .inl (.inr ⟨i, j, rfl, rfl, by rw [sizeLine_eq]; omega, k _ F H (Ext.refl m) (.str _)⟩)
      · cases z'
    | _ => cases z
  | lst l =>
    cases e with
    | lst l' =>
      have z' : (if l.length + l'.length ≤ 16000000 then some (D.lst (l ++ l')) else none) = some res := z
      split at z'
      · rename_i hz
        cases z'
        cases rx with
        | @lst p xs ds h1 h2 =>
          cases ry with
          | @lst q ys es h3 h4 =>
            have e1 := RpL.len h2
            have e2 := RpL.len h4
            exact .inr (.inl ⟨p, q, xs, ys, rfl, rfl, m.sub _ _ h1, m.sub _ _ h3, by rw [sizeLine_eq]; omega, fun r hr => k _ _ _ (Ext.laidF m (o := .lst (xs ++ ys)) hr) (.lst upd_same ((Ext.laidF m hr).rpL (h2.append h4)))⟩)
      · cases z'
    | _ => cases z
  | tup l =>
    cases e with
    | tup l' =>
      have z' : (if l.length + l'.length ≤ 16000000 then some (D.tup (l ++ l')) else none) = some res := z
      split at z'
      · rename_i hz
        cases z'
        cases rx with
        | @tup p xs ds h1 h2 =>
          cases ry with
          | @tup q ys es h3 h4 =>
            have e1 := RpL.len h2
            have e2 := RpL.len h4
            refine .inr (.inr ⟨p, q, xs, ys, rfl, rfl, sqT_mono m.sub h1, sqT_mono m.sub h3, by rw [sizeLine_eq]; omega, fun e => ?_, fun _ e => ?_, fun _ _ r hr => ?_⟩)
            · subst e
              cases h2
              exact k _ F H (Ext.refl m) (.tup h3 h4)
            · subst e
              cases h4
              rw [List.append_nil] at k
              exact k _ F H (Ext.refl m) (.tup h1 h2)
            · exact k _ _ _ (Ext.laidF m (o := .tup (xs ++ ys)) hr) (.tup upd_same ((Ext.laidF m hr).rpL (h2.append h4)))
      · cases z'
    | _ => cases z
  | _ => cases z
theorem de_add (ha : DE X cl W a fa) (hb : DE X cl W b fb) : DE X cl W (.BinOp a .Add b pos) (dOp2 addD fa fb) := de_op (OpR.or (OpR.or op_add op_add_str) (OpR.or op_cat op_catA)) (pur_add (T := Cx.th X cl)) ha hb
def arI (c : Int → Int → Bool) (g : Int → Int → Int) : D → D → Option D
  | .int i, .int j => if c i j = true then some (.int (g i j)) else none
  | _, _ => none
theorem pur_ar {T : Th} {c : Int → Int → Bool} {C : Int → Int → Prop} {g : Int → Int → Int} (hc : ∀ i j, c i j = true → C i j) : Pur2 T (rI C fun i j => .int (g i j)) (arI c g) := fun F al mu H m x y d e res rx ry z Q k => by
  cases d with
  | int i =>
    cases e with
    | int j =>
      have z' : (if c i j = true then some (D.int (g i j)) else none) = some res := z
      split at z'
      · rename_i h
        cases z'
        cases rx
        cases ry
        exact ⟨i, j, rfl, rfl, hc i j h, k _ F H (Ext.refl m) (.int _)⟩
      · cases z'
    | _ => cases z
  | _ => cases z
abbrev modD := arI (fun _ j => decide (0 < j)) fun i j => i % j
abbrev divD := arI (fun _ j => decide (0 < j ∧ j < 2 ^ 60)) fun i j => i / j
abbrev powD := arI (fun i j => decide (0 ≤ j ∧ j ≤ 1000 ∧ i.natAbs < 2 ^ 64)) fun i j => i ^ j.toNat
theorem de_mod (ha : DE X cl W a fa) (hb : DE X cl W b fb) : DE X cl W (.BinOp a .Mod b pos) (dOp2 modD fa fb) := de_op op_mod (pur_ar fun i j h => of_decide_eq_true h) ha hb
theorem de_div (ha : DE X cl W a fa) (hb : DE X cl W b fb) : DE X cl W (.BinOp a .FloorDiv b pos) (dOp2 divD fa fb) := de_op op_fdivW (pur_ar fun i j h => by
  obtain ⟨h1, h2⟩ := of_decide_eq_true h
  exact wide_div (b := 60) h1 (by omega) (by decide) (by decide)) ha hb
theorem de_pow (ha : DE X cl W a fa) (hb : DE X cl W b fb) : DE X cl W (.BinOp a .Pow b pos) (dOp2 powD fa fb) := de_op op_pow (pur_ar fun i j h => by
  obtain ⟨h1, h2, h3⟩ := of_decide_eq_true h
  exact ⟨h1, by omega, h3⟩) ha hb
def mulD : D → D → Option D
  | .int i, .int j => if -(2 ^ 64) < i ∧ i < 2 ^ 64 then some (.int (i * j)) else none
  | .lst l, .int j => if rgOk j = true ∧ l.length * j.toNat ≤ 16000000 then some (.lst (List.replicate j.toNat l).flatten) else none
  | _, _ => none
theorem rpL_rep {T : Th} {F : Hp} {al : Nat → Addr} {n : Nat} {vs : List V} {ds : List D} (h : RpL T F al n vs ds) : ∀ k : Nat, RpL T F al n (List.replicate k vs).flatten (List.replicate k ds).flatten
  | 0 => .nil
  | k + 1 => by
    rw [List.replicate_succ, List.replicate_succ, List.flatten_cons, List.flatten_cons]
    exact h.append (rpL_rep h k)
theorem de_mul (ha : DE X cl W a fa) (hb : DE X cl W b fb) : DE X cl W (.BinOp a .Mult b pos) (dOp2 mulD fa fb) := de_op (OpR.or op_mul op_rep) (fun F al mu H m x y d e res rx ry z Q k => by
  cases d with
  | int i =>
    cases e with
    | int j =>
      have z' : (if -(2 ^ 64) < i ∧ i < 2 ^ 64 then some (D.int (i * j)) else none) = some res := z
      split at z'
      · rename_i h
        cases z'
        cases rx
        cases ry
        exact .inl ⟨i, j, rfl, rfl, .inl h, k _ F H (Ext.refl m) (.int _)⟩
      · cases z'
    | _ => cases z
  | lst l =>
    cases e with
    | int j =>
      have z' : (if rgOk j = true ∧ l.length * j.toNat ≤ 16000000 then some (D.lst (List.replicate j.toNat l).flatten) else none) = some res := z
      split at z'
      · rename_i h
        cases z'
        cases ry
        cases rx with
        | @lst p xs ds h1 h2 =>
          have hj := rgOk_of h.1
          refine .inr ⟨p, j, xs, rfl, rfl, m.sub _ _ h1, by omega, by omega, by rw [sizeLine_eq, RpL.len h2]; omega, fun r hr => k _ _ _ (Ext.laidF m (o := .lst _) hr) (.lst upd_same ((Ext.laidF m hr).rpL (rpL_rep h2 _)))⟩
      · cases z'
    | _ => cases z
  | _ => cases z) ha hb
def negD : D → Option D
  | .int i => some (.int (-i))
  | _ => none
theorem de_neg (h : DE X cl W a f) : DE X cl W (.UnaryOp .USub a pos) (dOp1 negD f) := PE.imp (pe_un un_neg h) fun σ H Q q => by
  obtain ⟨F, al, sl, mu, w, po⟩ := q
  refine seqG back_RD w po rfl fun v d F1 al1 mu1 H1 x1 w1 r1 po1 => ?_
  cases d with
  | int i => cases r1; exact ⟨i, rfl, Po.here po1 w1.toMus (.int _)⟩
  | _ => exact False.elim po1

/-! ### in -/
def inD (d : D) (c : D) : Option Bool := match c with
  | .lst l => match toP d, toPL l with
    | some p, some ps => if min (PyData.depthAll ps) p.depth ≤ 60 then some (ps.any fun y => PyData.eqv y p) else none
    | _, _ => none
  | .tup l => match toP d, toPL l with
    | some p, some ps => if min (PyData.depthAll ps) p.depth ≤ 60 then some (ps.any fun y => PyData.eqv y p) else none
    | _, _ => none
  | .str z => match d with
    | .str y => match y.cps.toList with
      | [c] => some (decide (c ∈ z.cps.toList))
      | _ => none
    | _ => none
  | _ => none
def rInP (K : PySem.W.Frag) (neg : Bool) : R2 := fun x y H Q => ∃ d, Dp K H x d ∧ d.plain = true ∧ ∃ ps, (Dp K H y (.list ps) ∨ Dp K H y (.tuple ps)) ∧ PyData.plainAll ps = true ∧ min (PyData.depthAll ps) d.depth ≤ 60 ∧ Q (.bl (if neg then !(ps.any fun z => PyData.eqv z d) else ps.any fun z => PyData.eqv z d)) H
theorem op_ninP (hu : X.A.units + 65 < cLine) : OpR X (compareOp .NotIn) (rInP X.K true) := by
  intro pins s σ H x y v u Q I rx ry h
  obtain ⟨d, hd, sd, ps, he, sp, hm, q⟩ := h
  obtain ⟨as, r1⟩ := Dp.reads I d x v hd rx
  rcases he with he | he
  · obtain ⟨bs, r2⟩ := Dp.reads I _ y u he ry
    exact SeqAt.notIn_list_data r2 r1 sp sd (by omega) ⟨.bl _, H, I, rfl, q⟩
  · obtain ⟨bs, r2⟩ := Dp.reads I _ y u he ry
    exact SeqAt.notIn_tuple_data r2 r1 sp sd (by omega) ⟨.bl _, H, I, rfl, q⟩
/-- the container looked into -/
def dIn (neg : Bool) (fa fb : EF) : BF := dBind fa fun x => dBind fb fun y _ mu => match inD x y with
  | some r => .ok (if neg then !r else r) mu
  | none => .bad
theorem in_reads {T : Th} {F : Hp} {al : Nat → Addr} {mu : Store} {H : Hp} {x y : V} {d c : D} {neg res : Bool} {Q : VK} (m : Mus T F al mu H) (rx : Rp T F al mu.length x d) (ry : Top T F al mu.length H y c) (z : inD d c = some res) (k : Q (.bl (if neg then !res else res)) H) :
    rInP T.K neg x y H Q ∨ ∃ (c : Nat) (z : Str), x = .str ⟨#[c]⟩ ∧ y = .str z ∧ Q (.bl (if neg then !decide (c ∈ z.cps.toList) else decide (c ∈ z.cps.toList))) H := by
  cases c with
  | lst l =>
    obtain ⟨a, xs, rfl, h1, h2⟩ := ry
    unfold inD at z
    dsimp only at z
    split at z
    · rename_i p ps e1 e2
      split at z
      · rename_i hm
        cases z
        exact .inl ⟨p, rx.dp m.sub e1, toP_plain e1, ps, .inl (.lst (SqL.of h1) (h2.dp m.sub e2)), toPL_plain e2, hm, k⟩
      · cases z
    · cases z
  | tup l =>
    cases (show Rp _ _ _ _ _ _ from ry) with
    | tup h1 h2 =>
      unfold inD at z
      dsimp only at z
      split at z
      · rename_i p ps e1 e2
        split at z
        · rename_i hm
          cases z
          exact .inl ⟨p, rx.dp m.sub e1, toP_plain e1, ps, .inr (.tup (sqT_mono m.sub h1) (h2.dp m.sub e2)), toPL_plain e2, hm, k⟩
        · cases z
      · cases z
  | str s =>
    cases (show Rp _ _ _ _ _ _ from ry)
    cases d with
    | str y =>
      unfold inD at z
      dsimp only at z
      split at z
      · rename_i c hc
        cases z
        cases rx
        obtain ⟨cps⟩ := y
        have e : cps = #[c] := by
          have hc' : cps.toList = [c] := hc
          rw [← Array.toArray_toList (xs := cps), hc']
        subst e
        exact .inr ⟨c, s, rfl, rfl, k⟩
      · cases z
    | _ => cases z
  | _ => cases z
theorem de_nin (hu : X.A.units + 65 < cLine) (ha : DE X cl W a fa) (hb : DKk X cl W b fb) (hm : behindInMarks .NotIn b = false) : DE X cl W (.Compare a [.NotIn] [b] pos) (dB2v (dIn true fa fb)) :=
  PE.imp (pe_cmpR (OpR.or (op_ninP hu) op_notIn_sign) ha hb hm) fun σ H Q q => by
    obtain ⟨F, al, sl, mu, w, po⟩ := tV2B q
    refine seqG back_RB w po rfl fun v d F1 al1 mu1 H1 x1 w1 r1 po1 => ?_
    refine seqG back_RB w1 po1 rfl fun u e F2 al2 mu2 H2 x2 w2 r2 po2 => ?_
    dsimp only at po2
    cases z : inD d e with
    | none => rw [z] at po2; exact False.elim po2
    | some r =>
      rw [z] at po2
      exact in_reads (neg := true) w2.toMus (x2.rp r1) r2 z (Po.here (R := RB) (Q := fun c H' => Q (.bl c) H') po2 w2.toMus rfl)
end
end DL
end

section
set_option Elab.async false
set_option linter.all false
set_option maxRecDepth 100000
set_option maxHeartbeats 4000000
/-! DN: subscripts, slices, isinstance, attributes. -/
namespace DL
open PySem L2
/-! ### subscripts -/
def ixD : D → D → Option D
  | .lst l, .int i => atI l i
  | .tup l, .int i => atI l i
  | .frt l, .int i => atI l i
  | .str z, .int i => if z.length ≤ 16000000 then (atI z.cps.toList i).map fun c => .str ⟨#[c]⟩ else none
  | _, _ => none
def dIx (f g : EF) : EF := dBind f fun d => dBind g fun y _ mu => match ixD (lookD mu d) y with
  | some r => .ok r mu
  | none => .bad
theorem atI_some {α : Type} {l : List α} {i : Int} {x : α} (h : atI l i = some x) : ∃ j, ixN l.length i = some j ∧ l[j]? = some x := by
  unfold atI at h
  cases q : ixN l.length i with
  | none => rw [q] at h; cases h
  | some j => rw [q] at h; exact ⟨j, rfl, h⟩
theorem RpL.atI {T : Th} {F : Hp} {al : Nat → Addr} {n : Nat} {xs : List V} {l : List D} {i : Int} {d : D} (r : RpL T F al n xs l) (h : L2.atI l i = some d) : ∃ v, L2.atI xs i = some v ∧ Rp T F al n v d := by
  obtain ⟨j, h1, h2⟩ := atI_some h
  obtain ⟨v, h3, h4⟩ := r.get h2
  refine ⟨v, ?_, h4⟩
  unfold L2.atI
  rw [RpL.len r, h1]
  exact h3
abbrev rIx3 (K : PySem.W.Frag) : R2 := fun x y H Q => rIxL K x y H Q ∨ rIxT K x y H Q ∨ rIxS x y H Q
theorem ix_top {T : Th} {F : Hp} {al : Nat → Addr} {mu : Store} {H : Hp} {x y : V} {d e res : D} {Q : VK} (m : Mus T F al mu H) (rx : Top T F al mu.length H x d) (ry : Rp T F al mu.length y e) (z : ixD d e = some res) (k : ∀ v, Rp T F al mu.length v res → Q v H) : rIx3 T.K x y H Q := by
  cases d with
  | lst l =>
    cases e with
    | int i =>
      cases ry
      obtain ⟨a, xs, rfl, h1, h2⟩ := rx
      obtain ⟨v, h3, h4⟩ := h2.atI (show L2.atI l i = some res from z)
      exact .inl ⟨a, xs, i, v, rfl, rfl, SqL.of h1, h3, k v h4⟩
    | _ => cases z
  | tup l =>
    cases e with
    | int i =>
      cases ry
      cases (show Rp _ _ _ _ _ _ from rx) with
      | tup h1 h2 =>
        obtain ⟨v, h3, h4⟩ := h2.atI (show L2.atI l i = some res from z)
        exact .inr (.inl ⟨_, _, i, v, rfl, rfl, sqT_mono m.sub h1, h3, k v h4⟩)
    | _ => cases z
  | frt l =>
    cases e with
    | int i =>
      cases ry
      cases (show Rp _ _ _ _ _ _ from rx) with
      | frt h1 h2 =>
        obtain ⟨v, h3, h4⟩ := h2.atI (show L2.atI l i = some res from z)
        exact .inr (.inl ⟨_, _, i, v, rfl, rfl, sqTK_mono m.sub h1, h3, k v h4⟩)
    | _ => cases z
  | str s =>
    cases e with
    | int i =>
      cases ry
      cases (show Rp _ _ _ _ _ _ from rx)
      have z' : (if s.length ≤ 16000000 then (L2.atI s.cps.toList i).map fun c => D.str ⟨#[c]⟩ else none) = some res := z
      split at z'
      · rename_i hs
        obtain ⟨c, h1, rfl⟩ := Option.map_eq_some_iff.mp z'
        exact .inr (.inr ⟨s, i, c, rfl, rfl, by rw [sizeLine_eq]; omega, h1, k _ (.str _)⟩)
      · cases z'
    | _ => cases z
  | _ => cases z
/-! ### slices -/
def cutG {α : Type} (xs : List α) (lo hi : Option Int) : List α := (xs.drop (HT.sIx xs.length 0 lo)).take (HT.sIx xs.length xs.length hi - HT.sIx xs.length 0 lo)
def sliceD (d : D) (lo hi : Option Int) : Option D := match d with
  | .lst l => some (.lst (cutG l lo hi))
  | .tup l => some (.tup (cutG l lo hi))
  | .frl l => some (.lst (cutG l lo hi))
  | .str z => if z.length ≤ 16000000 then some (.str (cutS z lo hi)) else none
  | _ => none
abbrev OF := Sl → Store → Out (Option Int)
def ROi : Rel (Option Int) (Option Int) := fun _ _ _ _ _ v d => v = d
abbrev DO (X : Cx) (cl : Nat → Addr) (W : WX) (e : Option PySem.Expr) (f : OF) : Prop := PO X e (tG (Cx.th X cl) W ROi f)
def dNoP : OF := fun _ mu => .ok none mu
def dP (f : EF) : OF := dBind f fun d _ mu => match d with
  | .int i => .ok (some i) mu
  | _ => .bad
def dSl (f : EF) (lo hi : OF) : EF := dBind f fun d => dBind lo fun l => dBind hi fun h _ mu => match sliceD (lookD mu d) l h with
  | some r => .ok r mu
  | none => .bad
theorem back_ROi : Back ROi := fun _ _ _ _ _ _ _ _ _ h => h
theorem RpL.take {T : Th} {F : Hp} {al : Nat → Addr} {n : Nat} : ∀ {xs : List V} {l : List D} (k : Nat), RpL T F al n xs l → RpL T F al n (xs.take k) (l.take k)
  | [], [], 0, _ => .nil
  | [], [], _ + 1, _ => .nil
  | _ :: _, _ :: _, 0, _ => .nil
  | _ :: _, _ :: _, k + 1, .cons r1 r2 => .cons r1 (RpL.take k r2)
  | [], _ :: _, _, h => by cases h
  | _ :: _, [], _, h => by cases h
theorem RpL.drop {T : Th} {F : Hp} {al : Nat → Addr} {n : Nat} : ∀ {xs : List V} {l : List D} (k : Nat), RpL T F al n xs l → RpL T F al n (xs.drop k) (l.drop k)
  | [], [], 0, _ => .nil
  | [], [], _ + 1, _ => .nil
  | _ :: _, _ :: _, 0, h => h
  | _ :: _, _ :: _, k + 1, .cons _ r2 => RpL.drop k r2
  | [], _ :: _, _, h => by cases h
  | _ :: _, [], _, h => by cases h
theorem RpL.cut {T : Th} {F : Hp} {al : Nat → Addr} {n : Nat} {xs : List V} {l : List D} (r : RpL T F al n xs l) (lo hi : Option Int) : RpL T F al n (cutV xs lo hi) (cutG l lo hi) := by
  unfold cutV cutG
  rw [RpL.len r]
  exact (r.drop _).take _
theorem cut_whole {α : Type} {l : List α} {lo hi : Option Int} (h : HT.sIx l.length 0 lo = 0 ∧ HT.sIx l.length l.length hi = l.length) : cutG l lo hi = l := by
  unfold cutG
  rw [h.1, h.2]
  simp
abbrev rSl3 (K : PySem.W.Frag) : V → Option Int → Option Int → Hp → VK → Prop := fun x lo hi H Q => rSlL K x lo hi H Q ∨ rSlA K x lo hi H Q ∨ rSlS x lo hi H Q
theorem sl_top {T : Th} {F : Hp} {al : Nat → Addr} {mu : Store} {H : Hp} {x : V} {d res : D} {lo hi : Option Int} {Q : VK} (m : Mus T F al mu H) (rx : Top T F al mu.length H x d) (z : sliceD d lo hi = some res) (k : ∀ v F' H', Ext T F al mu H F' al mu H' → Rp T F' al mu.length v res → Q v H') : rSl3 T.K x lo hi H Q := by
  cases d with
  | lst l =>
    cases z
    obtain ⟨a, xs, rfl, h1, h2⟩ := rx
    exact .inl ⟨a, xs, rfl, SqL.of h1, fun p hp => k _ _ _ (Ext.laidF m (o := .lst _) hp) (.lst upd_same ((Ext.laidF m hp).rpL (h2.cut lo hi)))⟩
  | tup l =>
    cases z
    cases (show Rp _ _ _ _ _ _ from rx) with
    | @tup a xs ds h1 h2 =>
      refine .inr (.inl ⟨a, xs, rfl, sqT_mono m.sub h1, fun h => ?_, fun _ p hp => k _ _ _ (Ext.laidF m (o := .tup _) hp) (.tup upd_same ((Ext.laidF m hp).rpL (h2.cut lo hi)))⟩)
      rw [RpL.len h2] at h
      exact k _ F H (Ext.refl m) (by rw [cut_whole h]; exact .tup h1 h2)
  | frl l =>
    cases z
    cases (show Rp _ _ _ _ _ _ from rx) with
    | @frl a xs ds h1 h2 => exact .inl ⟨a, xs, rfl, sqL_mono m.sub h1, fun p hp => k _ _ _ (Ext.laidF m (o := .lst _) hp) (.lst upd_same ((Ext.laidF m hp).rpL (h2.cut lo hi)))⟩
  | str s =>
    have z' : (if s.length ≤ 16000000 then some (D.str (cutS s lo hi)) else none) = some res := z
    split at z'
    · rename_i hs
      cases z'
      cases (show Rp _ _ _ _ _ _ from rx)
      exact .inr (.inr ⟨s, rfl, by rw [sizeLine_eq]; omega, k _ F H (Ext.refl m) (.str _)⟩)
    · cases z'
  | _ => cases z
section
variable {X : Cx} {cl : Nat → Addr} {W : WX} {a b e : PySem.Expr} {lo hi : Option PySem.Expr} {f fa fb : EF} {pos p1 p2 : Pos} {x : Str}
theorem de_ix (ha : DE X cl W a fa) (hb : DE X cl W b fb) (hs : PlainIx b) : DE X cl W (.Subscript a b pos) (dIx fa fb) :=
  PE.imp (pe_ix (IxR.or ix_list (IxR.or ix_tup ix_str)) ha hb hs) fun σ H Q q => by
    obtain ⟨F, al, sl, mu, w, po⟩ := q
    refine seqG back_RD w po rfl fun v d F1 al1 mu1 H1 x1 w1 r1 po1 => ?_
    refine seqG back_RD w1 po1 rfl fun u e F2 al2 mu2 H2 x2 w2 r2 po2 => ?_
    dsimp only at po2
    cases z : ixD (lookD mu2 d) e with
    | none => rw [z] at po2; exact False.elim po2
    | some res =>
      rw [z] at po2
      exact ix_top (T := Cx.th X cl) w2.toMus (top_look w2.toMus (x2.rp r1)) r2 z fun v' r' => Po.here po2 w2.toMus r'
theorem do_none : DO X cl W none dNoP := ⟨fun pins s σ H Q I h => by
  obtain ⟨F, al, sl, mu, w, po⟩ := h
  exact po_none.run pins s σ H Q I (Po.here po w.toMus rfl)⟩
theorem PO.imp {o : Option PySem.Expr} {t t' : TO} (h : PO X o t) (i : ∀ σ H Q, t' σ H Q → t σ H Q) : PO X o t' := ⟨fun pins s σ H Q I q => h.run pins s σ H Q I (i σ H Q q)⟩
theorem do_some (h : DE X cl W a fa) : DO X cl W (some a) (dP fa) := PO.imp (po_some h) fun σ H Q q => by
  obtain ⟨F, al, sl, mu, w, po⟩ := q
  refine seqG back_ROi w po rfl fun v d F1 al1 mu1 H1 x1 w1 r1 po1 => ?_
  cases d with
  | int i => cases r1; exact ⟨i, rfl, Po.here (R := ROi) po1 w1.toMus rfl⟩
  | _ => exact False.elim po1
theorem de_sl {l h : OF} (ha : DE X cl W a fa) (hl : DO X cl W lo l) (hh : DO X cl W hi h) : DE X cl W (.Subscript a (.Slice lo hi none p2) pos) (dSl fa l h) :=
  PE.imp (pe_slice (SlR.or sl_list (SlR.or sl_tupA sl_str)) ha hl hh) fun σ H Q q => by
    obtain ⟨F, al, sl, mu, w, po⟩ := q
    refine seqG back_RD w po rfl fun v d F1 al1 mu1 H1 x1 w1 r1 po1 => ?_
    refine seqG back_RD w1 po1 rfl fun i i' F2 al2 mu2 H2 x2 w2 r2 po2 => ?_
    refine seqG back_RD w2 po2 rfl fun j j' F3 al3 mu3 H3 x3 w3 r3 po3 => ?_
    cases r2
    cases r3
    dsimp only at po3
    cases z : sliceD (lookD mu3 d) i j with
    | none => rw [z] at po3; exact False.elim po3
    | some res =>
      rw [z] at po3
      exact sl_top (T := Cx.th X cl) w3.toMus (top_look w3.toMus (x3.rp (x2.rp r1))) z fun v' F' H' x' r' => po3 v' F' al3 H' x' r'
end

/-! ### isinstance -/
inductive Ty where
  | int | bool | str | list | tuple | dict
  deriving DecidableEq
def Ty.n : Ty → String
  | .int => "int" | .bool => "bool" | .str => "str" | .list => "list" | .tuple => "tuple" | .dict => "dict"
def isTy : Ty → D → Bool
  | .int, .int _ => true
  | .int, .bl _ => true
  | .bool, .bl _ => true
  | .str, .str _ => true
  | .list, .lst _ => true
  | .tuple, .tup _ => true
  | .tuple, .frt _ => true
  | .dict, .dct _ => true
  | _, _ => false
/-- what isinstance may look at -/
def isiOk : D → Bool
  | .obj _ => false
  | .exn _ _ => false
  | .frl _ => false
  | _ => true
/-- what of the text a class of instances must have -/
structure ClsT (K : PySem.W.Frag) (C : Addr) : Prop where
  cl : Cls K C
  ha : PySem.W.findIn K (.ref C) "__class__" = some (some (.builtin "object.__class__"))
  hn : PySem.W.specialIn K (.builtin "object.__class__") "__get__" = some (some (.builtin "getset_descriptor.__get__"))
  tk : PySem.W.takesIn K (.builtin "object.__class__") = some true
  mr : PySem.W.mroIn K C (.type "object") = some true
  is : ∀ t : Ty, PySem.W.kitOne K (.ref C) (.type t.n) = some false
/-- isinstance(x, T) -/
def dIsi (y : Ty) (f : EF) : BF := dBind f fun d _ mu => if isiOk d = true then .ok (isTy y d) mu else .bad
/-- isinstance(x, (T1, T2)) -/
def dIsi2 (y z : Ty) (f : EF) : BF := dBind f fun d _ mu => if isiOk d = true then .ok (isTy y d || isTy z d) mu else .bad
/-- isinstance(x, an own class) -/
def isIn (c : Nat) : D → Bool
  | .ins c' _ => c' == c
  | _ => false
def dIsC (c : Nat) (f : EF) : BF := dBind f fun d _ mu => if isiOk d = true then .ok (isIn c d) mu else .bad
structure ClsI (K : PySem.W.Frag) (cl : Nat → Addr) (c : Nat) : Prop where
  ty : ∀ n ∈ ["NoneType", "bool", "int", "str", "list", "tuple", "dict"], PySem.W.kitOne K (.type n) (.ref (cl c)) = some false
  own : ∀ c', Lv cl c' → PySem.W.kitOne K (.ref (cl c')) (.ref (cl c)) = some (c' == c)
section
variable {X : Cx} {cl : Nat → Addr} {W : WX} {a b e : PySem.Expr} {f fa fb : EF} {pos p1 p2 p3 p4 : Pos} {x : Str}
theorem RpF.lookup {T : Th} {F : Hp} {al : Nat → Addr} {n : Nat} {x : Str} {d : D} : ∀ {vs : List (Str × V)} {fs : List (Str × D)}, RpF T F al n vs fs → fs.lookup x = some d → ∃ v, vs.lookup x = some v ∧ Rp T F al n v d
  | [], [], _, h => by cases h
  | (y, v) :: vs, (z, d') :: fs, r, h => by
    cases r with
    | cons r1 r2 =>
      rw [List.lookup_cons] at h ⊢
      cases q : x == y with
      | true => rw [q] at h; cases h; exact ⟨v, rfl, r1⟩
      | false => rw [q] at h; exact RpF.lookup r2 h
  | [], _ :: _, r, _ => by cases r
  | _ :: _, [], r, _ => by cases r
end
end DL
end

section
set_option Elab.async false
set_option linter.all false
set_option maxRecDepth 100000
set_option maxHeartbeats 4000000
/-! DO: objects of the store: made, changed, frozen; methods of lists; stores. -/
namespace DL
open PySem L2
section
variable {T : Th} {F F1 H H1 : Hp} {al al1 : Nat → Addr} {mu mu1 : Store} {sl : Sl} {σ : St} {v : V} {d : D}
def regA (al : Nat → Addr) (n : Nat) (a : Addr) : Nat → Addr := fun k => if k = n then a else al k
theorem regA_lt {n k : Nat} {a : Addr} (h : k < n) : regA al n a k = al k := if_neg (Nat.ne_of_lt h)
theorem app_get {m m' : MO} {k : Nat} (e : (mu ++ [some m])[k]? = some (some m')) : (k < mu.length ∧ mu[k]? = some (some m')) ∨ (k = mu.length ∧ m' = m) := by
  rcases Nat.lt_trichotomy k mu.length with h | h | h
  · rw [List.getElem?_append_left h] at e
    exact .inl ⟨h, e⟩
  · subst h
    rw [List.getElem?_append_right (Nat.le_refl _), Nat.sub_self] at e
    cases e
    exact .inr ⟨rfl, rfl⟩
  · rw [List.getElem?_eq_none (by rw [List.length_append]; exact h)] at e
    cases e
/-- a new object becomes one of the store -/
theorem Ext.reg (x : Ext T F al mu H F1 al1 mu1 H1) {a : Addr} {o : HO} {m : MO} (h0 : Fre H a) (h1 : F1 a = none) (h2 : H1 a = some o) (c : Conc T F1 al1 mu1.length o m) (ne : ∀ k m', mu1[k]? = some (some m') → al1 k ≠ a) :
    Ext T F al mu H F1 (regA al1 mu1.length a) (mu1 ++ [some m]) H1 := by
  have len : (mu1 ++ [some m]).length = mu1.length + 1 := by simp
  have old : ∀ k, k < mu1.length → regA al1 mu1.length a k = al1 k := fun k h => regA_lt h
  have here : regA al1 mu1.length a mu1.length = a := if_pos rfl
  have up : ∀ {o m}, Conc T F1 al1 mu1.length o m → Conc T F1 (regA al1 mu1.length a) (mu1 ++ [some m]).length o m := fun c => c.mono (fun _ _ h => h) old (by rw [List.length_append]; exact Nat.le_add_right _ _)
  refine ⟨⟨x.mus.sub, fun k m' e => ?_, fun k m' k' m2 e1 e2 z => ?_, x.mus.tab, x.mus.nt⟩, x.sub, x.new, x.keep, x.there, fun k h => ?_, by rw [len]; exact Nat.le_succ_of_le x.ln, fun k m' e => ?_⟩
  · rcases app_get e with ⟨h, e⟩ | ⟨rfl, rfl⟩
    · obtain ⟨g1, o', g2, g3⟩ := x.mus.at_ k m' e
      rw [old k h]
      exact ⟨g1, o', g2, g3.mono (fun _ _ h => h) old (by rw [List.length_append]; exact Nat.le_add_right _ _)⟩
    · rw [here]
      exact ⟨h1, o, h2, up c⟩
  · rcases app_get e1 with ⟨l1, g1⟩ | ⟨i1, _⟩ <;> rcases app_get e2 with ⟨l2, g2⟩ | ⟨i2, _⟩
    · rw [old k l1, old k' l2] at z
      exact x.mus.inj k m' k' m2 g1 g2 z
    · rw [old k l1, i2, here] at z
      exact absurd z (ne k m' g1)
    · rw [old k' l2, i1, here] at z
      exact absurd z.symm (ne k' m2 g2)
    · rw [i1, i2]
  · rw [old k (Nat.lt_of_lt_of_le h x.ln)]
    exact x.als k h
  · rcases app_get e with ⟨h, e⟩ | ⟨rfl, rfl⟩
    · rcases x.fresh k m' e with g | g
      · exact .inl g
      · exact .inr (by rw [old k h]; exact g)
    · exact .inr (by rw [here]; exact h0)
/-- an object of the store is changed -/
theorem Ext.updO (M : Mus T F al mu H) {k : Nat} {m0 m : MO} {o : HO} (hk : mu[k]? = some (some m0)) (c : Conc T F al mu.length o m) : Ext T F al mu H F al (mu.set k (some m)) (upd H (al k) o) := by
  have hF := (M.at_ k m0 hk).1
  have lt := lt_of_live hk
  have get : ∀ {j : Nat} {m' : MO}, (mu.set k (some m))[j]? = some (some m') → (j = k ∧ m' = m) ∨ (k ≠ j ∧ mu[j]? = some (some m')) := fun e => by
    rcases set_get e with ⟨rfl, h, _⟩ | ⟨ne, h⟩
    · cases h; exact .inl ⟨rfl, rfl⟩
    · exact .inr ⟨ne, h⟩
  have live : ∀ {j : Nat} {m' : MO}, (mu.set k (some m))[j]? = some (some m') → ∃ m2, mu[j]? = some (some m2) := fun e => by
    rcases get e with ⟨rfl, _⟩ | ⟨_, h⟩
    · exact ⟨_, hk⟩
    · exact ⟨_, h⟩
  refine ⟨⟨fun a u e => ?_, fun j m' e => ?_, fun j m1 j' m2 e1 e2 z => ?_, fun i z => tab_upd (by obtain ⟨_, u, g1, g2⟩ := M.at_ k m0 hk; exact .inr ⟨u, g1, g2.noTab⟩) (M.tab i z), M.nt⟩, fun _ _ h => h, fun _ _ h => .inl h, fun a u e _ n => ?_, there_upd (.inr c.noTab.1), fun _ _ => rfl, by rw [List.length_set]; exact Nat.le_refl _, fun j m' e => .inl (live e)⟩
  · rw [upd_ne (ne_of_none e hF)]; exact M.sub a u e
  · rw [List.length_set]
    rcases get e with ⟨rfl, rfl⟩ | ⟨ne, h⟩
    · exact ⟨hF, o, upd_same, c⟩
    · obtain ⟨g1, o', g2, g3⟩ := M.at_ j m' h
      exact ⟨g1, o', by rw [upd_ne fun z => ne (M.inj j m' k m0 h hk z).symm]; exact g2, g3⟩
  · obtain ⟨m3, e3⟩ := live e1
    obtain ⟨m4, e4⟩ := live e2
    exact M.inj j m3 j' m4 e3 e4 z
  · rw [upd_ne fun z => n k m0 hk z.symm]; exact e
/-- an object of the store is frozen -/
theorem Ext.frzO (M : Mus T F al mu H) {k : Nat} {m : MO} (hk : mu[k]? = some (some m)) (hm : ∀ kvs, m ≠ .dct kvs) : ∃ F', Ext T F al mu H F' al (mu.set k none) H ∧ Rp T F' al (mu.set k none).length (.ref (al k)) m.d := by
  obtain ⟨hF, o, ho, c⟩ := M.at_ k m hk
  have up : ∀ b u, F b = some u → upd F (al k) o b = some u := fun b u e => by rw [upd_ne (ne_of_none e hF)]; exact e
  have live : ∀ {j : Nat} {m' : MO}, (mu.set k none)[j]? = some (some m') → k ≠ j ∧ mu[j]? = some (some m') := fun e => by
    rcases set_get e with ⟨rfl, h, _⟩ | ⟨ne, h⟩
    · cases h
    · exact ⟨ne, h⟩
  refine ⟨upd F (al k) o, ⟨⟨fun a u e => ?_, fun j m' e => ?_, fun j m1 j' m2 e1 e2 z => M.inj j m1 j' m2 (live e1).2 (live e2).2 z, M.tab, nt_upd M.nt c.noTab.1⟩, up, fun a u e => ?_, fun a u e _ _ => e, fun _ h => h, fun _ _ => rfl, by rw [List.length_set]; exact Nat.le_refl _, fun j m' e => .inl ⟨m', (live e).2⟩⟩, by rw [List.length_set]; exact rp_freeze hF c hm⟩
  · by_cases z : a = al k
    · subst z; rw [upd_same] at e; cases e; exact ho
    · rw [upd_ne z] at e; exact M.sub a u e
  · obtain ⟨ne, h⟩ := live e
    obtain ⟨g1, o', g2, g3⟩ := M.at_ j m' h
    rw [List.length_set]
    exact ⟨by rw [upd_ne fun z => ne (M.inj j m' k m h hk z).symm]; exact g1, o', g2, g3.mono up (fun _ _ => rfl) (Nat.le_refl _)⟩
  · by_cases z : a = al k
    · exact .inr (.inr ⟨k, m, hk, z.symm⟩)
    · rw [upd_ne z] at e; exact .inl e
end

/-- a new object becomes one of the store -/
def dReg (f : NF) : EF := dBind f fun m _ mu => .ok (.obj mu.length) (mu ++ [some m])
/-- an object of the store is frozen; what is none stays -/
def dFz (f : EF) : EF := dBind f fun d _ mu => match d with
  | .obj k => match mu[k]? with
    | some (some (.lst l)) => .ok (.lst l) (mu.set k none)
    | some (some (.ins c fs)) => .ok (.ins c fs) (mu.set k none)
    | _ => .bad
  | d => .ok d mu
section
variable {X : Cx} {cl : Nat → Addr} {W : WX} {n : En} {a b e o i : PySem.Expr} {es : List PySem.Expr} {f fa fb fo fi : EF} {ga : LF} {pos p1 pos' apos cpos : Pos} {x : Str}
theorem de_reg {f : NF} (h : DN X cl W e f) : DE X cl W e (dReg f) := PE.imp h fun σ H Q q => by
  obtain ⟨F, al, sl, mu, w, po⟩ := q
  refine ⟨F, al, sl, mu, w, ?_⟩
  unfold dReg dBind obind at po
  cases q : f sl mu with
  | ok m mu1 =>
    rw [q] at po
    intro v F1 al1 H1 x r
    obtain ⟨a, o, rfl, h0, h1, h2, h3, h4⟩ := r
    refine po _ _ _ _ (x.reg h0 h1 h2 h3 h4) ?_
    have := Rp.obj (T := Cx.th X cl) (F := F1) (al := regA al1 mu1.length a) (n := (mu1 ++ [some m]).length) (k := mu1.length) (by simp)
    rwa [show regA al1 mu1.length a mu1.length = a from if_pos rfl] at this
  | ex c fs mu1 => rw [q] at po; exact po
  | bad => rw [q] at po; exact po
theorem de_fz (h : DE X cl W e f) : DE X cl W e (dFz f) := PE.imp h fun σ H Q q => by
  obtain ⟨F, al, sl, mu, w, po⟩ := q
  refine seqG back_RD w po rfl fun v d F1 al1 mu1 H1 x1 w1 r1 po1 => ?_
  cases d with
  | obj k =>
    dsimp only at po1
    cases r1
    split at po1
    · rename_i l hk
      obtain ⟨F', x2, r2⟩ := Ext.frzO w1.toMus hk (fun _ z => nomatch z)
      exact po1 _ _ _ _ x2 r2
    · rename_i c fs hk
      obtain ⟨F', x2, r2⟩ := Ext.frzO w1.toMus hk (fun _ z => nomatch z)
      exact po1 _ _ _ _ x2 r2
    · exact False.elim po1
  | _ => exact Po.here po1 w1.toMus r1

/-! ### methods that change a list of the store -/
def lstOf (mu : Store) : D → Option (List D)
  | .obj k => match mu[k]? with
    | some (some (.lst l)) => some l
    | _ => none
  | _ => none
def putO (mu : Store) (d : D) (m : MO) : Store := match d with
  | .obj k => mu.set k (some m)
  | _ => mu
theorem lstOf_get {mu : Store} {d : D} {l : List D} (h : lstOf mu d = some l) : ∃ k, d = .obj k ∧ mu[k]? = some (some (.lst l)) := by
  cases d with
  | obj k =>
    unfold lstOf at h
    dsimp only at h
    split at h
    · rename_i l' e
      cases h
      exact ⟨k, rfl, e⟩
    · cases h
  | _ => cases h
def RMut (T : Th) (r : V → List V → Hp → VK → Prop) (g : List D → List D → Option (D × List D)) : Prop := ∀ (F : Hp) (al : Nat → Addr) (mu : Store) (H : Hp), Mus T F al mu H → ∀ (a : Addr) (xs : List V) (l : List D) (vs : List V) (ds : List D) (res : D) (l' : List D) (Q : VK),
  H a = some (.lst xs) → RpL T F al mu.length xs l → RpL T F al mu.length vs ds → g l ds = some (res, l') → (∀ v xs', RpL T F al mu.length xs' l' → Rp T F al mu.length v res → Q v (upd H a (.lst xs'))) → r (.ref a) vs H Q
def dMut (g : List D → List D → Option (D × List D)) (fo : EF) (ga : LF) : EF := dBind fo fun d sl mu => match lstOf mu d with
  | some _ => obind (ga sl mu) fun ds mu => match lstOf mu d with
    | some l => match g l ds with
      | some (res, l') => .ok res (putO mu d (.lst l'))
      | none => .bad
    | none => .bad
  | none => .bad
theorem Mus.lst {T : Th} {F H : Hp} {al : Nat → Addr} {mu : Store} (M : Mus T F al mu H) {k : Nat} {l : List D} (hk : mu[k]? = some (some (.lst l))) : ∃ xs, H (al k) = some (.lst xs) ∧ RpL T F al mu.length xs l := by
  obtain ⟨_, o, h1, h2⟩ := M.at_ k _ hk
  cases o <;> first
    | exact False.elim h2
    | exact ⟨_, h1, h2⟩
theorem tMut {r : V → List V → Hp → VK → Prop} {g : List D → List D → Option (D × List D)} (hr : RMut (Cx.th X cl) r g) {σ : St} {H : Hp} {Q : VK} (q : tG (Cx.th X cl) W (RD (Cx.th X cl)) (dMut g fo ga) σ H Q) : tBM X.K "list" r (tG (Cx.th X cl) W (RD (Cx.th X cl)) fo) (tG (Cx.th X cl) W (RLs (Cx.th X cl)) ga) σ H Q := by
  obtain ⟨F, al, sl, mu, w, po⟩ := q
  refine seqG back_RD w po rfl fun v d F1 al1 mu1 H1 x1 w1 r1 po1 => ?_
  dsimp only at po1
  cases z : lstOf mu1 d with
  | none => rw [z] at po1; exact False.elim po1
  | some l1 =>
    rw [z] at po1
    dsimp only at po1
    obtain ⟨k, rfl, hk⟩ := lstOf_get z
    cases r1 with
    | obj lt =>
    obtain ⟨xs, h1, _⟩ := w1.toMus.lst hk
    refine ⟨.inl ⟨rfl, xs, SqL.of h1⟩, ?_⟩
    refine seqG back_RD w1 po1 rfl fun vs ds F2 al2 mu2 H2 x2 w2 r2 po2 => ?_
    cases z2 : lstOf mu2 (.obj k) with
    | none => rw [z2] at po2; exact False.elim po2
    | some l2 =>
      rw [z2] at po2
      dsimp only at po2
      cases z3 : g l2 ds with
      | none => rw [z3] at po2; exact False.elim po2
      | some p =>
        obtain ⟨res, l'⟩ := p
        rw [z3] at po2
        obtain ⟨k', e', hk2⟩ := lstOf_get z2
        cases e'
        obtain ⟨ys, h2, h3⟩ := w2.toMus.lst hk2
        rw [← x2.als k lt]
        refine hr F2 al2 mu2 H2 w2.toMus _ ys l2 vs ds res l' Q h2 h3 r2 z3 fun v xs' h4 h5 => ?_
        exact po2 v F2 al2 _ (Ext.updO w2.toMus hk2 (o := .lst xs') (m := .lst l') h4) (by show Rp _ _ _ (mu2.set k _).length _ _; rw [List.length_set]; exact h5)
theorem de_mut {name : Str} {id : String} {r : V → List V → Hp → VK → Prop} {g : List D → List D → Option (D × List D)} (slot : Slot "list" name id) (hty : typeOf (.builtin id) = pure (.type "method_descriptor")) (hm : MtR X id r) (hr : RMut (Cx.th X cl) r g) (ho : DE X cl W o fo) (ha : DAs X cl W (e :: es) ga)
    (hbase : attributeBase o name X.env (eval o X.env) = eval o X.env := by rfl)
    (hfew : ((backTo cpos (starEach (e :: es) X.env)).all (fun x => !x.1) && (backToKw cpos (keywordEach [] X.env)).all (fun x => x.1.isSome)
      && decide ((e :: es).length + ([] : List Keyword).length + (if ([] : List Keyword).isEmpty then 0 else 1) < 30)) = true := by rfl)
    (hline : (apos.endLine == cpos.line) = true := by rfl) (hs : starEach (e :: es) X.env = (false, eval e X.env) :: starEach es X.env := by rfl) (hplain : (backTo cpos (starEach es X.env)).any (·.1) = false := by rfl) :
    DE X cl W (.Call (.Attribute o name apos) (e :: es) [] cpos) (dMut g fo ga) :=
  PE.imp (pe_bm F.plainAttrs_list slot hty hm ho ha hbase hfew hline hs hplain) fun σ H Q q => tMut hr q
def appD (l ds : List D) : Option (D × List D) := match ds with
  | [d] => if l.length < 16000000 then some (.non, l ++ [d]) else none
  | _ => none
theorem rm_append {T : Th} : RMut T rAppend appD := fun F al mu H m a xs l vs ds res l' Q h1 h2 h3 z k => by
  unfold appD at z
  split at z
  · rename_i d
    split at z
    · rename_i hl
      cases z
      cases h3 with
      | cons r1 r2 =>
        cases r2
        exact ⟨a, xs, _, rfl, rfl, h1, by rw [RpL.len h2, sizeLine_eq]; omega, k _ _ (h2.append (.cons r1 .nil)) .non⟩
    · cases z
  · cases z
theorem de_append (ho : DE X cl W o fo) (ha : DAs X cl W [e] ga)
    (hbase : attributeBase o "append" X.env (eval o X.env) = eval o X.env := by rfl)
    (hfew : ((backTo cpos (starEach [e] X.env)).all (fun x => !x.1) && (backToKw cpos (keywordEach [] X.env)).all (fun x => x.1.isSome)
      && decide ([e].length + ([] : List Keyword).length + (if ([] : List Keyword).isEmpty then 0 else 1) < 30)) = true := by rfl)
    (hline : (apos.endLine == cpos.line) = true := by rfl) (hs : starEach [e] X.env = (false, eval e X.env) :: starEach [] X.env := by rfl) (hplain : (backTo cpos (starEach [] X.env)).any (·.1) = false := by rfl) :
    DE X cl W (.Call (.Attribute o "append" apos) [e] [] cpos) (dMut appD fo ga) := de_mut F.slot_list_append (by rfl) mt_append rm_append ho ha hbase hfew hline hs hplain
def setD (l : List D) (i v : D) : Option (List D) := match i with
  | .int k => match ixN l.length k with
    | some j => some (l.set j v)
    | none => none
  | _ => none
def sSetI (fo fi f : EF) : SF := fun sl mu => sbind (f sl mu) sl fun v mu => sbind (fo sl mu) sl fun d mu => sbind (fi sl mu) sl fun i mu => match lstOf mu d with
  | some l => match setD l i v with
    | some l' => .nx sl (putO mu d (.lst l'))
    | none => .bad
  | none => .bad
theorem RpL.set {T : Th} {F : Hp} {al : Nat → Addr} {n : Nat} {v : V} {d : D} (r : Rp T F al n v d) : ∀ {vs : List V} {ds : List D} (k : Nat), RpL T F al n vs ds → RpL T F al n (vs.set k v) (ds.set k d)
  | [], [], _, h => h
  | _ :: vs, _ :: ds, 0, .cons _ h => .cons r h
  | _ :: vs, _ :: ds, k + 1, .cons h1 h => .cons h1 (RpL.set r k h)
  | [], d :: ds, _, h => by cases h
  | v :: vs, [], _, h => by cases h
theorem W3.updO {T : Th} {F H : Hp} {al : Nat → Addr} {mu : Store} {sl : Sl} {σ : St} (w : W3 T n F al sl mu σ H) {k : Nat} {m0 m : MO} {o : HO} (hk : mu[k]? = some (some m0)) (c : Conc T F al mu.length o m) : W3 T n F al sl (mu.set k (some m)) σ (L2.upd H (al k) o) := w.ext (Ext.updO w.w.toMus hk c)
theorem ds_setI (hf : DE X cl W e f) (ho : DE X cl W o fo) (hi : DE X cl W i fi)
    (ha : ∀ v, assign (.Subscript o i pos') X.env v = (do
      let ov ← holding [v] (eval o X.env)
      let iv ← holding [v, ov] (eval i X.env)
      standAt pos'
      holding [v, ov, iv] (setItem ov iv v)
      release [v, ov, iv] []) := by intro _; rfl)
    (hs : swapsWithSole [.Subscript o i pos'] e pos.line X.env = pure false := by rfl) (hw : swappedStores [.Subscript o i pos'] e X.env = pure none := by rfl)
    (h1 : (assignEach [.Subscript o i pos'] X.env).map (·.2) = [assign (.Subscript o i pos') X.env] := by rfl) : DS X cl W n (.Assign [.Subscript o i pos'] e pos) (sSetI fo fi f) :=
  PS.imp (ps_asg hf (pg_sub ho hi set_list ha) hs hw h1) fun Z σ H q => by
    obtain ⟨F, al, sl, mu, w, po⟩ := q
    refine seqS w po rfl fun v d F1 al1 mu1 H1 x1 w1 r1 po1 => ?_
    refine seqS w1 po1 rfl fun ov dd F2 al2 mu2 H2 x2 w2 r2 po2 => ?_
    refine seqS w2 po2 rfl fun iv di F3 al3 mu3 H3 x3 w3 r3 po3 => ?_
    cases z : lstOf mu3 dd with
    | none => rw [z] at po3; exact False.elim po3
    | some l =>
      rw [z] at po3
      dsimp only at po3
      obtain ⟨k, rfl, hk⟩ := lstOf_get z
      cases z2 : setD l di d with
      | none => rw [z2] at po3; exact False.elim po3
      | some l' =>
        rw [z2] at po3
        unfold setD at z2
        cases di with
        | int ii =>
          dsimp only at z2
          cases r3
          have r4 := x3.rp r2
          cases r4
          obtain ⟨xs, h1, h2⟩ := w3.w.toMus.lst hk
          split at z2
          · rename_i j hj
            cases z2
            exact ⟨_, xs, ii, j, rfl, rfl, h1, by rw [RpL.len h2]; exact hj, PoS.nx po3 (w3.updO hk (o := .lst (xs.set j v)) (m := .lst (l.set j d)) (h2.set (x3.rp (x2.rp r1)) j)) (by show mu3.length ≤ (mu3.set k _).length; rw [List.length_set]; exact Nat.le_refl _)⟩
          · cases z2
        | _ => cases z2
def putFD (f : Str) (v : D) : List (Str × D) → List (Str × D)
  | [] => [(f, v)]
  | (g, u) :: r => if g = f then (g, v) :: r else (g, u) :: putFD f v r
end
end DL
end

section
set_option Elab.async false
set_option linter.all false
set_option maxRecDepth 100000
set_option maxHeartbeats 4000000
/-! DP: attributes stored, augmented names, methods, instances made, own ==. -/
namespace DL
open PySem L2
section
variable {X : Cx} {k : Nat} {f C : Addr} {fd : FuncData} {ps : List Str} {sp : Sp} {E : St → XK} {x m : Str} {p pos apos : Pos} {e o : PySem.Expr} {es : List PySem.Expr} {ta : TE} {t : TA} {CX : CXT}
end

/-! ### methods of own classes -/
structure Gm (P : Program) (w : World) (K : PySem.W.Frag) (mg : Str → Option Value) (base : Heap) (cl : Nat → Addr) (k c : Nat) (m : Str) (np : Nat) (p : FF) : Prop where
  ex : ∃ (f : Addr) (fd : FuncData) (ps : List Str), FnOk P w K mg base (L2.CX P w) k f fd ps (spD ⟨K, cl⟩ np p) ∧ Meth K (cl c) m f ∧ Cls K (cl c) ∧ L2.Binds K fd ps []
structure Gi (P : Program) (w : World) (K : PySem.W.Frag) (mg : Str → Option Value) (base : Heap) (cl : Nat → Addr) (k : Nat) (x : Str) (c : Nat) (np : Nat) (p : FF) : Prop where
  ex : ∃ (f : Addr) (fd : FuncData) (ps : List Str), FnOk P w K mg base (L2.CX P w) k f fd ps (spD ⟨K, cl⟩ np p) ∧ (Mk K (cl c) f ∧ Lv cl c) ∧ mg x = some (.ref (cl c)) ∧ L2.Binds K fd ps []
section
variable {X : Cx} {cl : Nat → Addr} {W : WX} {n : En} {a b e o i : PySem.Expr} {es : List PySem.Expr} {f fa fb fo fi : EF} {ga : LF} {pos p1 pos' apos cpos : Pos} {x m : Str} {k c np : Nat} {p : FF}
end
end DL
end

section
set_option Elab.async false
set_option linter.all false
set_option maxRecDepth 100000
set_option maxHeartbeats 4000000
/-! DQ: own == and !=, attributes stored, augmented names, what is out of reach goes. -/
namespace DL
open PySem L2
section
open PySem.W PyProof.Rows
variable {prog : Program} {w : World} {A : Around} {E : Value → Shared → Prop} {s : Shared} {K : Frag} {x C L f : Addr} {h₀ : Heap} {m : PySem.Str → Option Value} {ox : Obj} {od : Option Obj} {b tb : Value}
end
end DL
end

section
set_option Elab.async false
set_option linter.all false
set_option maxRecDepth 100000
set_option maxHeartbeats 4000000
namespace DL
open PySem L2
/-! DR: own == and != of the layer, attributes stored, augmented names, what is out of reach goes. -/
structure ClsE (K : PySem.W.Frag) (cl : Nat → Addr) (c : Nat) : Prop where
  ty : ∀ n ∈ ["NoneType", "bool", "int", "str", "list", "tuple", "dict"], PySem.W.notFirst K (cl c) (.type n) = true
  own : ∀ c', Lv cl c' → PySem.W.notFirst K (cl c) (.ref (cl c')) = true
structure ClsN (K : PySem.W.Frag) (C : Addr) : Prop where
  ne : PySem.W.findIn K (.ref C) "__ne__" = some (some (.builtin "object.__ne__"))
  ob : PySem.W.mroIn K C (.type "object") = some true
section
variable {X : Cx} {cl : Nat → Addr} {W : WX} {n : En} {a b e o i : PySem.Expr} {es : List PySem.Expr} {f fa fb fo fi : EF} {ga : LF} {pos p1 pos' apos cpos : Pos} {x m : Str} {k c np : Nat} {p : FF}
def insOf (mu : Store) : D → Option (Nat × List (Str × D))
  | .obj k => match mu[k]? with
    | some (some (.ins c fs)) => some (c, fs)
    | _ => none
  | _ => none
def sSetA (x : Str) (fo f : EF) : SF := fun sl mu => sbind (f sl mu) sl fun v mu => sbind (fo sl mu) sl fun d mu => match insOf mu d with
  | some (c, fs) => if fs.length < 1000 then .nx sl (putO mu d (.ins c (putFD x v fs))) else .bad
  | none => .bad
theorem RpF.len {T : Th} {F : Hp} {al : Nat → Addr} {n : Nat} : ∀ {vs : List (Str × V)} {ds : List (Str × D)}, RpF T F al n vs ds → vs.length = ds.length
  | [], [], _ => rfl
  | _ :: vs, _ :: ds, .cons _ h => by rw [List.length_cons, List.length_cons, RpF.len h]
  | [], _ :: _, h => by cases h
  | _ :: _, [], h => by cases h
theorem RpF.put {T : Th} {F : Hp} {al : Nat → Addr} {n : Nat} {v : V} {d : D} {x : Str} (r : Rp T F al n v d) : ∀ {vs : List (Str × V)} {ds : List (Str × D)}, RpF T F al n vs ds → RpF T F al n (putF x v vs) (putFD x d ds)
  | [], [], _ => .cons r .nil
  | (y, u) :: vs, (z, e) :: ds, h => by
    cases h with
    | cons h1 h2 =>
      unfold putF putFD
      split
      · exact .cons r h2
      · exact .cons h1 (RpF.put r h2)
  | [], _ :: _, h => by cases h
  | _ :: _, [], h => by cases h
def sAug (i : Nat) (g : Int → Int → Int) (f : EF) : SF := fun sl mu => match sl[i]? with
  | some (some (.val (.int z))) => sbind (f sl mu) sl fun d mu => match d with
    | .int j => .nx (sl.set i (some (.val (.int (g z j))))) mu
    | _ => .bad
  | _ => .bad
end

/-! ### what is out of reach goes -/
mutual
def clD (n : Nat) : D → Bool
  | .obj k => decide (k < n)
  | .lst l => clL n l
  | .frl l => clL n l
  | .tup l => clL n l
  | .frt l => clL n l
  | .ins _ fs => clF n fs
  | .exn _ fs => clF n fs
  | .dct [(_, d)] => clD n d
  | _ => true
def clL (n : Nat) : List D → Bool
  | [] => true
  | d :: ds => clD n d && clL n ds
def clF (n : Nat) : List (Str × D) → Bool
  | [] => true
  | (_, d) :: ds => clD n d && clF n ds
end
def clM (n : Nat) : Option MO → Bool
  | some (.lst l) => clL n l
  | some (.ins _ fs) => clF n fs
  | some (.dct _) => false
  | none => true
section
variable {T : Th} {F : Hp} {al : Nat → Addr} {n n' : Nat}
mutual
theorem Rp.shrink : ∀ {d : D} {v : V}, Rp T F al n v d → clD n' d = true → Rp T F al n' v d
  | .non, _, h, _ => by cases h; exact .non
  | .bl b, _, h, _ => by cases h; exact .bl b
  | .int i, _, h, _ => by cases h; exact .int i
  | .str x, _, h, _ => by cases h; exact .str x
  | .lst ds, _, h, c => by cases h with | lst h1 h2 => exact .lst h1 (RpL.shrink h2 c)
  | .tup ds, _, h, c => by cases h with | tup h1 h2 => exact .tup h1 (RpL.shrink h2 c)
  | .dct [], _, h, _ => by cases h with | dct h1 => exact .dct h1
  | .dct [(k, d)], _, h, q => by
    cases h with
    | dc1 h1 h2 => exact .dc1 h1 (Rp.shrink h2 q)
  | .dct (_ :: _ :: _), _, h, _ => by cases h
  | .exn c ds, _, h, q => by cases h with | exn h1 h2 h3 => exact .exn h1 h2 (RpF.shrink h3 q)
  | .frl ds, _, h, c => by cases h with | frl h1 h2 => exact .frl h1 (RpL.shrink h2 c)
  | .frt ds, _, h, c => by cases h with | frt h1 h2 => exact .frt h1 (RpL.shrink h2 c)
  | .ins c ds, _, h, q => by cases h with | ins h0 h1 h2 => exact .ins h0 h1 (RpF.shrink h2 q)
  | .obj k, _, h, c => by cases h with | obj h1 => exact .obj (of_decide_eq_true c)
theorem RpL.shrink : ∀ {ds : List D} {vs : List V}, RpL T F al n vs ds → clL n' ds = true → RpL T F al n' vs ds
  | [], _, h, _ => by cases h; exact .nil
  | d :: ds, _, h, c => by
    have c' : (clD n' d && clL n' ds) = true := c
    rw [Bool.and_eq_true] at c'
    cases h with | cons h1 h2 => exact .cons (Rp.shrink h1 c'.1) (RpL.shrink h2 c'.2)
theorem RpF.shrink : ∀ {ds : List (Str × D)} {vs : List (Str × V)}, RpF T F al n vs ds → clF n' ds = true → RpF T F al n' vs ds
  | [], _, h, _ => by cases h; exact .nil
  | (x, d) :: ds, _, h, c => by
    have c' : (clD n' d && clF n' ds) = true := c
    rw [Bool.and_eq_true] at c'
    cases h with | cons h1 h2 => exact .cons (Rp.shrink h1 c'.1) (RpF.shrink h2 c'.2)
end
theorem Conc.shrink {o : HO} {m : MO} (h : Conc T F al n o m) (c : clM n' (some m) = true) : Conc T F al n' o m := by
  cases o <;> cases m <;> first
    | exact False.elim h
    | exact RpL.shrink h c
    | exact ⟨h.1, RpF.shrink h.2 c⟩
end
/-- the objects made since go, where nothing that stays names one -/
def gcO {α : Type} (cl : Nat → α → Bool) (n : Nat) (o : Out α) : Out α := match o with
  | .ok d mu => if cl n d && (mu.take n).all (clM n) then .ok d (mu.take n) else .bad
  | .ex c fs mu => if clF n fs && (mu.take n).all (clM n) then .ex c fs (mu.take n) else .bad
  | .bad => .bad
theorem take_get {mu : Store} {n k : Nat} {m : MO} (h : (mu.take n)[k]? = some (some m)) : k < n ∧ mu[k]? = some (some m) := by
  rw [List.getElem?_take] at h
  split at h
  · exact ⟨by assumption, h⟩
  · cases h
theorem Ext.gc {T : Th} {F F1 H H1 : Hp} {al al1 : Nat → Addr} {mu mu1 : Store} (x : Ext T F al mu H F1 al1 mu1 H1) (c : (mu1.take mu.length).all (clM mu.length) = true) : Ext T F al mu H F1 al1 (mu1.take mu.length) H1 := by
  have ln : (mu1.take mu.length).length = mu.length := by rw [List.length_take]; exact Nat.min_eq_left x.ln
  refine ⟨⟨x.mus.sub, fun k m e => ?_, fun k m k' m' e1 e2 z => x.mus.inj k m k' m' (take_get e1).2 (take_get e2).2 z, x.mus.tab, x.mus.nt⟩, x.sub, x.new, x.keep, x.there, x.als, by rw [ln]; exact Nat.le_refl _, fun k m e => x.fresh k m (take_get e).2⟩
  obtain ⟨h1, o, h2, h3⟩ := x.mus.at_ k m (take_get e).2
  rw [ln]
  exact ⟨h1, o, h2, h3.shrink (List.all_eq_true.mp c _ (List.mem_of_getElem? e))⟩
theorem po_gc {T : Th} {W : WX} {F : Hp} {al : Nat → Addr} {mu : Store} {σ : St} {H : Hp} {o : Out D} {Q : VK} (h : Po T W F al mu σ H (RD T) (gcO clD mu.length o) Q) : Po T W F al mu σ H (RD T) o Q := by
  cases o with
  | ok d mu1 =>
    unfold gcO at h
    dsimp only at h
    split at h
    · rename_i c
      rw [Bool.and_eq_true] at c
      intro v F1 al1 H1 x r
      have ln : (mu1.take mu.length).length = mu.length := by rw [List.length_take]; exact Nat.min_eq_left x.ln
      exact h v F1 al1 H1 (x.gc c.2) (by show Rp _ _ _ (mu1.take mu.length).length _ _; rw [ln]; exact Rp.shrink r c.1)
    · exact False.elim h
  | ex c fs mu1 =>
    unfold gcO at h
    dsimp only at h
    split at h
    · rename_i c
      rw [Bool.and_eq_true] at c
      intro dx F1 al1 H1 x r
      have ln : (mu1.take mu.length).length = mu.length := by rw [List.length_take]; exact Nat.min_eq_left x.ln
      refine h dx F1 al1 H1 (x.gc c.2) ?_
      rcases r with r | ⟨dx', vs, e1, e2, e3⟩
      · exact .inl r
      · exact .inr ⟨dx', vs, e1, e2, by rw [ln]; exact RpF.shrink e3 c.1⟩
    · exact False.elim h
  | bad => exact h
def fGc (p : FF) : FF := fun ds mu => gcO clD mu.length (p ds mu)
theorem spD_gc {T : Th} {np : Nat} {p : FF} : ∀ vs H Q E, spD T np (fGc p) vs H Q E → spD T np p vs H Q E := fun vs H Q E ⟨F, al, mu, ds, m, r, hl, po⟩ => ⟨F, al, mu, ds, m, r, hl, po_gc po⟩
section
variable {P : Program} {w : World} {K : PySem.W.Frag} {mg : Str → Option Value} {base : Heap} {cl : Nat → Addr}
theorem Gf.gc {k np : Nat} {x : Str} {p : FF} (c : Gf P w K mg base cl k x np p) : Gf P w K mg base cl k x np (fGc p) := by
  obtain ⟨f, fd, ps, hf, r⟩ := c.ex
  exact ⟨f, fd, ps, hf.imp spD_gc, r⟩
theorem Gm.gc {k c np : Nat} {x : Str} {p : FF} (g : Gm P w K mg base cl k c x np p) : Gm P w K mg base cl k c x np (fGc p) := by
  obtain ⟨f, fd, ps, hf, r⟩ := g.ex
  exact ⟨f, fd, ps, hf.imp spD_gc, r⟩
theorem Gm.to {k c np : Nat} {x : Str} {p q : FF} (g : Gm P w K mg base cl k c x np p) (h : ∀ ds mu, ds.length = np → q ds mu ≠ .bad → p ds mu = q ds mu) : Gm P w K mg base cl k c x np q := by
  obtain ⟨f, fd, ps, hf, r⟩ := g.ex
  exact ⟨f, fd, ps, hf.imp (spD_imp h), r⟩
theorem Gi.gc {k c np : Nat} {x : Str} {p : FF} (g : Gi P w K mg base cl k x c np p) : Gi P w K mg base cl k x c np (fGc p) := by
  obtain ⟨f, fd, ps, hf, r⟩ := g.ex
  exact ⟨f, fd, ps, hf.imp spD_gc, r⟩
theorem Gi.to {k c np : Nat} {x : Str} {p q : FF} (g : Gi P w K mg base cl k x c np p) (h : ∀ ds mu, ds.length = np → q ds mu ≠ .bad → p ds mu = q ds mu) : Gi P w K mg base cl k x c np q := by
  obtain ⟨f, fd, ps, hf, r⟩ := g.ex
  exact ⟨f, fd, ps, hf.imp (spD_imp h), r⟩
theorem Gm.mono {j k c np : Nat} {x : Str} {p : FF} (g : Gm P w K mg base cl j c x np p) (h : j ≤ k) : Gm P w K mg base cl k c x np p := by
  obtain ⟨f, fd, ps, hf, r⟩ := g.ex
  exact ⟨f, fd, ps, hf.mono h, r⟩
theorem Gi.mono {j k c np : Nat} {x : Str} {p : FF} (g : Gi P w K mg base cl j x c np p) (h : j ≤ k) : Gi P w K mg base cl k x c np p := by
  obtain ⟨f, fd, ps, hf, r⟩ := g.ex
  exact ⟨f, fd, ps, hf.mono h, r⟩
end
end DL
end

section
set_option Elab.async false
set_option linter.all false
set_option maxRecDepth 100000
set_option maxHeartbeats 4000000
namespace DL
open PySem L2
/-! DS: methods of one argument, sorted, texts. -/
def tyOk : String → D → Bool
  | "str", .str _ => true
  | "list", .lst _ => true
  | _, _ => false
def PurM (T : Th) (r : V → List V → Hp → VK → Prop) (g : D → D → Option D) : Prop := ∀ (F : Hp) (al : Nat → Addr) (mu : Store) (H : Hp), Mus T F al mu H → ∀ (x y : V) (d e res : D), Top T F al mu.length H x d → Top T F al mu.length H y e → g d e = some res → ∀ Q : VK,
  (∀ v F' H', Ext T F al mu H F' al mu H' → Rp T F' al mu.length v res → Q v H') → r x [y] H Q
/-- o.m(e): o, e looked into -/
def dM1 (ty : String) (g : D → D → Option D) (fo fa : EF) : EF := dBind fo fun d sl mu => if tyOk ty (lookD mu d) = true then obind (fa sl mu) fun e mu => match g (lookD mu d) (lookD mu e) with
  | some r => .ok r mu
  | none => .bad
  else .bad
theorem tyV_of {T : Th} {F H : Hp} {al : Nat → Addr} {n : Nat} {ty : String} {v : V} {d : D} (t : Top T F al n H v d) (h : tyOk ty d = true) : tyV T.K ty v H := by
  unfold tyOk at h
  split at h
  · cases (show Rp _ _ _ _ _ _ from t)
    exact (rfl : "str" = "str")
  · obtain ⟨a, xs, rfl, h1, _⟩ := t
    exact .inl ⟨rfl, xs, SqL.of h1⟩
  · cases h
section
variable {X : Cx} {cl : Nat → Addr} {W : WX} {n : En} {a b e o i : PySem.Expr} {es : List PySem.Expr} {f fa fb fo fi : EF} {ga : LF} {pos p1 pos' apos cpos : Pos} {x m : Str} {k c np : Nat} {p : FF}
theorem de_m1 {name : Str} {ty id : String} {r : V → List V → Hp → VK → Prop} {g : D → D → Option D} (pa : PlainAttrs ty) (slot : Slot ty name id) (hty : typeOf (.builtin id) = pure (.type "method_descriptor")) (hm : MtR X id r) (hr : PurM (Cx.th X cl) r g) (ho : DE X cl W o fo) (he : DE X cl W e fa)
    (hbase : attributeBase o name X.env (eval o X.env) = eval o X.env := by rfl)
    (hfew : ((backTo cpos (starEach [e] X.env)).all (fun x => !x.1) && (backToKw cpos (keywordEach [] X.env)).all (fun x => x.1.isSome)
      && decide ([e].length + ([] : List Keyword).length + (if ([] : List Keyword).isEmpty then 0 else 1) < 30)) = true := by rfl)
    (hline : (apos.endLine == cpos.line) = true := by rfl) (hs : starEach [e] X.env = (false, eval e X.env) :: starEach [] X.env := by rfl) (hplain : (backTo cpos (starEach [] X.env)).any (·.1) = false := by rfl) :
    DE X cl W (.Call (.Attribute o name apos) [e] [] cpos) (dM1 ty g fo fa) :=
  PE.imp (pe_bm pa slot hty hm ho (pa_cons (dk_look he) pa_nil hs) hbase hfew hline hs hplain) fun σ H Q q => by
    obtain ⟨F, al, sl, mu, w, po⟩ := q
    refine seqG back_RD w po rfl fun v d F1 al1 mu1 H1 x1 w1 r1 po1 => ?_
    dsimp only at po1
    split at po1
    · rename_i hok
      refine ⟨tyV_of (T := Cx.th X cl) (top_look w1.toMus r1) hok, ?_⟩
      obtain ⟨F', al', sl', mu', w', po'⟩ : tG (Cx.th X cl) W (RK (Cx.th X cl)) (dLook fa) σ H1 fun y H2 => r v [y] H2 Q := by
        refine ⟨F1, al1, sl, mu1, w1, ?_⟩
        unfold dLook dBind obind
        unfold obind at po1
        cases z : fa sl mu1 with
        | ok e mu2 =>
          rw [z] at po1
          dsimp only at po1 ⊢
          intro y F2 al2 H2 x2 r2
          cases z2 : g (lookD mu2 d) (lookD mu2 e) with
          | none => rw [z2] at po1; exact False.elim po1
          | some res =>
            rw [z2] at po1
            exact hr F2 al2 mu2 H2 x2.mus v y _ _ res (top_look x2.mus (x2.rp r1)) r2 z2 Q fun v' F' H' x' r' => po1 v' F' al2 H' (x2.trans x') r'
        | ex c fs mu2 => rw [z] at po1; exact po1
        | bad => rw [z] at po1; exact po1
      exact ⟨F', al', sl', mu', w', po'⟩
    · exact False.elim po1
theorem strsRp {T : Th} {F : Hp} {al : Nat → Addr} {n : Nat} : ∀ ys : List Str, RpL T F al n (ys.map V.str) (ys.map D.str)
  | [] => .nil
  | _ :: ys => .cons (.str _) (strsRp ys)
def splitD : D → D → Option D
  | .str a, .str b => if (b.length == 0) = false ∧ a.length + 2 ≤ 16000000 then some (.lst ((Txt.split a b).map D.str)) else none
  | _, _ => none
theorem de_split (ho : DE X cl W o fo) (he : DE X cl W e fa)
    (hbase : attributeBase o "split" X.env (eval o X.env) = eval o X.env := by rfl)
    (hfew : ((backTo cpos (starEach [e] X.env)).all (fun x => !x.1) && (backToKw cpos (keywordEach [] X.env)).all (fun x => x.1.isSome)
      && decide ([e].length + ([] : List Keyword).length + (if ([] : List Keyword).isEmpty then 0 else 1) < 30)) = true := by rfl)
    (hline : (apos.endLine == cpos.line) = true := by rfl) (hs : starEach [e] X.env = (false, eval e X.env) :: starEach [] X.env := by rfl) (hplain : (backTo cpos (starEach [] X.env)).any (·.1) = false := by rfl) :
    DE X cl W (.Call (.Attribute o "split" apos) [e] [] cpos) (dM1 "str" splitD fo fa) :=
  de_m1 PySem.F.plainAttrs_str PySem.F.slot_str_split (by rfl) mt_split (fun F al mu H m x y d e res t1 t2 z Q k => by
    cases d with
    | str a =>
      cases e with
      | str b =>
        unfold splitD at z
        dsimp only at z
        split at z
        · rename_i hl
          cases z
          cases (show Rp _ _ _ _ _ _ from t1)
          cases (show Rp _ _ _ _ _ _ from t2)
          exact ⟨a, b, rfl, rfl, hl.1, by rw [sizeLine_eq]; omega, fun p hp => k _ _ _ (Ext.laidF m hp) (.lst upd_same (strsRp _))⟩
        · cases z
      | _ => cases z
    | _ => cases z) ho he hbase hfew hline hs hplain
end
end DL
end

section
set_option Elab.async false
set_option linter.all false
set_option maxRecDepth 100000
set_option maxHeartbeats 4000000
/-! DT: sorted of a list of tuples whose first one is (). -/
namespace DL
open PySem PySem.W PySem.Calls PySem.SeqAt PyProof.Rows
section
variable {prog : Program} {w : World} {A : Around} {E : Value → Shared → Prop} {s : Shared}
end
end DL
end

section
set_option Elab.async false
set_option linter.all false
set_option maxRecDepth 100000
set_option maxHeartbeats 4000000
namespace DL
open PySem L2
/-! DU: sorted, f-strings. -/
section
variable {X : Cx} {cl : Nat → Addr} {W : WX} {n : En} {a b e o i : PySem.Expr} {es : List PySem.Expr} {f fa fb fo fi : EF} {ga : LF} {pos p1 pos' apos cpos : Pos} {x m : Str} {k c np : Nat} {p : FF}
/-- rows of pairs -/
inductive Prs (T : Th) (F : Hp) (al : Nat → Addr) (n : Nat) : List V → List D → List Value → List (V × D) → Prop where
  | nil : Prs T F al n [] [] [] []
  | cons {v : V} {d : D} {u : Value} {vs : List V} {ds : List D} {us : List Value} {bs : List (V × D)} (r : Rp T F al n v d) (q : RelV v u) (t : Prs T F al n vs ds us bs) : Prs T F al n (v :: vs) (d :: ds) (u :: us) ((v, d) :: bs)
theorem Prs.bs {T : Th} {F : Hp} {al : Nat → Addr} {n : Nat} {vs : List V} {ds : List D} {us : List Value} {bs : List (V × D)} (h : Prs T F al n vs ds us bs) : bs.map (·.1) = vs ∧ bs.map (·.2) = ds ∧ (∀ b ∈ bs, Rp T F al n b.1 b.2) := by
  induction h with
  | nil => exact ⟨rfl, rfl, fun _ h => by cases h⟩
  | cons r q t ih =>
    refine ⟨by rw [List.map_cons, ih.1], by rw [List.map_cons, ih.2.1], fun b hb => ?_⟩
    rcases List.mem_cons.mp hb with rfl | hb
    · exact r
    · exact ih.2.2 b hb
inductive DJs (X : Cx) (cl : Nat → Addr) (W : WX) : List PySem.Expr → List EF → Prop where
  | nil : DJs X cl W [] []
  | cons {e : PySem.Expr} {f : EF} {es : List PySem.Expr} {fs : List EF} (h : DE X cl W e f) (t : DJs X cl W es fs) : DJs X cl W (e :: es) (f :: fs)
end
end DL
end

section
set_option Elab.async false
set_option linter.all false
set_option maxRecDepth 100000
set_option maxHeartbeats 4000000
/-! DV: {x: True for x in a list} and how many keys it has. -/
namespace DL
open PySem L2 PyProof.Rows
section
variable {X : Cx} {pins : List (Addr × Obj)} {σ : L2.St} {H : Hp} {s1 : Shared}
/-- what a table of the rows must keep, row by row -/
structure Tab (X : Cx) (H : Hp) (s1 : Shared) (items : Array Value) (o : HO) (T : Addr → Nat → Heap → Prop) : Prop where
  start : ∀ (D : Addr) (h : Heap), sysModules < D → h.get? D = some { cls := .type "dict", dict := none, data := .dict #[] } → T D 0 h
  stay : ∀ (D : Addr) (i : Nat) (h h' : Heap), T D i h → (∀ u, h.get? D = some u → h'.get? D = some u) → T D i h'
  step : ∀ (D : Addr) (i : Nat) (s : Shared) (v : Value) (E : Value → Shared → Prop) (Q : Unit → Shared → Prop), T D i s.heap → (∀ b u, s1.heap.get? b = some u → s.heap.get? b = some u) → s1.heap.objs.size ≤ D → items[i]? = some v →
    (∀ h' t, T D (i + 1) h' → Heap.SameBut D s.heap h' → Q () { s with heap := h', toks := t }) → wpAny (model X.prog X.w) X.A (dictSet D v (.bool true)) Q E s
  fin : ∀ (D : Addr) (h : Heap), (∀ b u, s1.heap.get? b = some u → h.get? b = some u) → s1.heap.objs.size ≤ D → T D items.size h → ObjOk X.prog X.w (upd H D o) h D o
def kvsOf {α : Type} [DecidableEq α] (ks : List α) (n : Nat) : List (α × V) := (ks.take n).foldl (fun acc k => putK acc k (.bl true)) []
end
end DL
end

section
set_option Elab.async false
set_option linter.all false
set_option maxRecDepth 100000
set_option maxHeartbeats 4000000
namespace DL
open PySem L2
/-! DX: how many unlike rows, not in a constant tuple of texts, enumerate, lists and tuples walked alike. -/
def keyD : D → Option Key
  | .int i => some (.inl i)
  | .str z => some (.inr z)
  | _ => none
def allSome {α β : Type} (f : α → Option β) : List α → Option (List β)
  | [] => some []
  | a :: l => match f a, allSome f l with
    | some b, some r => some (b :: r)
    | _, _ => none
def tkeyD : D → Option (List Key)
  | .tup l => allSome keyD l
  | _ => none
/-- how many unlike rows -/
def unlike : List D → Option Nat := fun l => match allSome keyD l with
  | some ks => some (kvsOf ks ks.length).length
  | none => match allSome tkeyD l with
    | some ks => some (kvsOf ks ks.length).length
    | none => none
section
variable {T : Th} {F : Hp} {al : Nat → Addr} {n : Nat}
end
section
variable {X : Cx} {cl : Nat → Addr} {W : WX} {n : En} {a b e o i : PySem.Expr} {es : List PySem.Expr} {f fa fb fo fi : EF} {ga : LF} {pos p1 p2 p3 p4 p5 pos' apos cpos : Pos} {x m : Str} {k c np : Nat} {p : FF}
def dItQ (f : EF) : LF := dBind f fun d _ mu => match d with
  | .lst l => .ok l mu
  | .tup l => .ok l mu
  | _ => .bad
theorem di_seq {tg : PySem.Expr} (h : DE X cl W e f) : DI X cl W tg e (dItQ f) := ⟨fun pins s σ H R I q => by
  obtain ⟨F, al, sl, mu, w, po⟩ := q
  cases z : f sl mu with
  | ok d mu1 =>
    cases d with
    | lst l => exact (di_list (tg := tg) h).run pins s σ H R I ⟨F, al, sl, mu, w, by unfold dItQ dItL dBind obind at *; rw [z] at po ⊢; exact po⟩
    | tup l => exact (di_tup (tg := tg) h).run pins s σ H R I ⟨F, al, sl, mu, w, by unfold dItQ dItT dBind obind at *; rw [z] at po ⊢; exact po⟩
    | _ => unfold dItQ dBind obind at po; rw [z] at po; exact False.elim po
  | ex c fs mu1 => exact (di_list (tg := tg) h).run pins s σ H R I ⟨F, al, sl, mu, w, by unfold dItQ dItL dBind obind at *; rw [z] at po ⊢; exact po⟩
  | bad => unfold dItQ dBind obind at po; rw [z] at po; exact False.elim po⟩
def numD (n : Nat) : List D → List D
  | [] => []
  | d :: l => .tup [.int (n : Nat), d] :: numD (n + 1) l
theorem numD_get : ∀ {l : List D} {n i : Nat}, (numD n l)[i]? = l[i]?.map fun d => .tup [.int ((n + i : Nat) : Int), d]
  | [], _, _ => by simp [numD]
  | d :: l, n, 0 => by simp [numD]
  | d :: l, n, i + 1 => by
    unfold numD
    rw [List.getElem?_cons_succ, List.getElem?_cons_succ, numD_get]
    congr 1
    funext d
    rw [show n + 1 + i = n + (i + 1) from by omega]
theorem numD_len : ∀ {l : List D} {n : Nat}, (numD n l).length = l.length
  | [], _ => rfl
  | d :: l, n => by
    unfold numD
    rw [List.length_cons, List.length_cons, numD_len]
def dEnum (f : EF) : LF := dBind f fun d _ mu => match d with
  | .lst l => .ok (numD 0 l) mu
  | _ => .bad
end
end DL
end

section
set_option Elab.async false
set_option linter.all false
set_option maxRecDepth 100000
set_option maxHeartbeats 4000000
namespace DL
open PySem L2
/-! DY: small helps for written walks. -/
section
variable {A : Around} {k : Nat}
theorem u0 (r : Room k A) : A.units < cLine := by have := r.un; omega
theorem u64 (r : Room k A) : A.units + 64 < cLine := by have := r.un; omega
theorem u65 (r : Room k A) : A.units + 65 < cLine := by have := r.un; omega
end
section
variable {X : Cx} {cl : Nat → Addr} {W : WX} {n : En} {a b e o i : PySem.Expr} {st : PySem.Stmt} {es : List PySem.Expr} {f fa fb fo fi : EF} {ga : LF} {pos p1 p2 p3 p4 p5 pos' apos cpos : Pos} {x y : Str} {k c np : Nat} {p : FF}
/-- a, b = x, y -/
def sPar (i j : Nat) (fa fb : EF) : SF := fun sl mu => sbind (fa sl mu) sl fun d mu => sbind (fb sl mu) sl fun e mu => .nx ((sl.set i (some (.val d))).set j (some (.val e))) mu
theorem ds_par {i j : Nat} {px py pt : Pos} {kt k2 : Nat} {pt2 : Pos} (hc : X.calm = true) (hN : X.N.Nodup) (hi : X.N[i]? = some x) (hj : X.N[j]? = some y) (hij : i ≠ j) (hx : X.env.scope.names.lookup x = some .local) (hy : X.env.scope.names.lookup y = some .local) (ha : DE X cl W a fa) (hb : DE X cl W b fb)
    (hst : starEach [a, b] X.env = (false, eval a X.env) :: starEach [b] X.env := by rfl) (hst2 : starEach [b] X.env = (false, eval b X.env) :: starEach [] X.env := by rfl)
    (hw : swappedStores [.Tuple [.Name x px, .Name y py] kt pt] (.Tuple [a, b] k2 pt2) X.env = pure (some [x, y]) := by rfl) (hs : swapsWithSole [.Tuple [.Name x px, .Name y py] kt pt] (.Tuple [a, b] k2 pt2) pos.line X.env = pure false := by rfl) :
    DS X cl W n (.Assign [.Tuple [.Name x px, .Name y py] kt pt] (.Tuple [a, b] k2 pt2) pos) (sPar i j fa fb) :=
  PS.imp (ps_par hc hN hi hj hij hx hy (pa_cons ha (pa_cons hb pa_nil hst2) hst) hw hs) fun Z σ H q => by
    obtain ⟨F, al, sl, mu, w, po⟩ := q
    refine seqS w po rfl fun v d F1 al1 mu1 H1 x1 w1 r1 po1 => ?_
    refine seqS w1 po1 rfl fun u e F2 al2 mu2 H2 x2 w2 r2 po2 => ?_
    exact ⟨v, u, rfl, PoS.nx po2 ((w2.setVal (x2.rp r1)).setVal r2)⟩
theorem dt_cmpR {op : CmpOp} {r : R2} {g : D → D → Option Bool} (ho : OpR X (compareOp op) r) (hm : behindInMarks op b = false) (hr : PurB (Cx.th X cl) r g) (ha : DE X cl W a fa) (hb : DE X cl W b fb) : DT X cl W (.Compare a [op] [b] pos) (dCmp g fa fb) :=
  PT.imp (pt_cmpR ho ha hb hm) fun σ H Q q => tCmp_of hr (tB2v q)
theorem dt_eq (hu : X.A.units + 64 < cLine) (ha : DE X cl W a fa) (hb : DE X cl W b fb) : DT X cl W (.Compare a [.Eq] [b] pos) (dCmp eqD fa fb) := dt_cmpR (op_eqP hu) (nobehind _ (by decide) (by decide)) (pur_eq (T := Cx.th X cl)) ha hb
theorem dt_ne (hu : X.A.units + 64 < cLine) (ha : DE X cl W a fa) (hb : DE X cl W b fb) : DT X cl W (.Compare a [.NotEq] [b] pos) (dCmp neD fa fb) := dt_cmpR (op_neP hu) (nobehind _ (by decide) (by decide)) (pur_ne (T := Cx.th X cl)) ha hb
theorem dt_gt (ha : DE X cl W a fa) (hb : DE X cl W b fb) : DT X cl W (.Compare a [.Gt] [b] pos) (dCmp gtI fa fb) := dt_cmpR op_gt (nobehind _ (by decide) (by decide)) pur_int ha hb
theorem dt_ge (ha : DE X cl W a fa) (hb : DE X cl W b fb) : DT X cl W (.Compare a [.GtE] [b] pos) (dCmp geI fa fb) := dt_cmpR op_ge (nobehind _ (by decide) (by decide)) pur_int ha hb
theorem dt_lt (hu : X.A.units < cLine) (ha : DE X cl W a fa) (hb : DE X cl W b fb) : DT X cl W (.Compare a [.Lt] [b] pos) (dCmp ltD fa fb) := dt_cmpR (OpR.or op_lt (op_ltT hu)) (nobehind _ (by decide) (by decide)) (pur_lt (T := Cx.th X cl)) ha hb
theorem pe_gv {v : V} (hg : Gl X x) (h : ∃ u, X.mg x = some u ∧ RelV v u) (hd : (x == ("__debug__" : Str)) = false := by decide) : PE X (.Name x pos) (tC v) := by
  obtain ⟨u, h1, h2⟩ := h
  exact pe_glob hg h1 h2 hd
def dNw2 (g : D → D → Option MO) (fa fb : EF) : NF := dBind fa fun x => dBind fb fun y _ mu => match g x y with
  | some r => .ok r mu
  | none => .bad
end
end DL
end

section
set_option Elab.async false
set_option linter.all false
set_option maxRecDepth 100000
set_option maxHeartbeats 4000000
/-! EA: an own error class whose __init__ says super().__init__(..), then stores its parameters. -/
namespace DL
open PySem PySem.W PySem.Calls PyProof.Rows
open L2 hiding St
section
variable {prog : Program} {w : World} {A : Around} {E : Value → Shared → Prop} {s : Shared} {h₀ base : Heap} {L : Addr} {m mg : Str → Option Value} {news : List (Addr × Obj)} {K : Frag}
variable {x C Dc f cc cda : Addr} {ox : Obj} {odx : Option Obj}
/-- what the written part says of an __init__ that says super() -/
structure SupD (prog : Program) (K : Frag) (mg : Str → Option Value) (C Dc f cc cda : Addr) (fd : FuncData) (scope : Scope) (me : Str) : Prop where
  at_ : ∃ oc od osl, K.lookup f = some ⟨oc, od, .func fd, osl⟩
  par : ∃ ar, (fd.params.posonlyargs ++ fd.params.args).head? = some ar ∧ ar.arg = me
  code : ∃ ccl cdd vs ccs file tf, K.lookup cda = some ⟨ccl, cdd, .fields vs, ccs⟩ ∧ vs[2]? = some (.str file tf) ∧ ((prog.main.file : Str) == file) = true
  cell : ∃ cl cld csl, K.lookup cc = some ⟨cl, cld, .cell (some (.ref Dc)), csl⟩
  own : ∃ cdD, clsIn K Dc = some cdD
  sub : mroIn K C (.ref Dc) = some true
  sup : mg "super" = none
  nsup : scope.names.lookup ("super" : Str) = some .globalImplicit
  ncls : scope.names.lookup ("__class__" : Str) = some .free
  nself : scope.names.lookup me = some .local
  kind : scope.kind = .function
  top : (prog.main.scope.names.lookup ("super" : Str)).isSome = false
theorem sup_node {body : List Stmt} {q : Str} {scope : Scope} {p0 p1 : Pos} {attr me : Str} {whole : Sem Value} {fd : FuncData} {Q : Value → Shared → Prop}
    (S : SupD prog K mg C Dc f cc cda fd scope me) (F : Fr h₀ L s.heap m) (X₀ : K.In h₀) (M : Mod K mg base) (kb : ∀ b o, base.get? b = some o → h₀.get? b = some o) (N : News h₀ L s.heap news)
    (hv : m me = some (.ref x)) (I : InstAt s.heap x ox C odx) (hat : (attr == ("__class__" : Str)) = false)
    (k : ∀ so h', Fr h₀ L h' m → News h₀ L h' ((so, ks_superObj Dc x C) :: news) → (∀ p ∈ news, p.1 < so) → Q (.ref so) { s with heap := h' }) :
    _root_.PySem.wpAt (model prog w) A (.func body (ksEnv q scope L f (.ref cda) cc)) (attributeBase (.Call (.Name "super" p0) [] [] p1) attr (ksEnv q scope L f (.ref cda) cc) whole) Q E s := by
  have KX : K.In s.heap := X₀.keeps F.keep
  have kbs : ∀ b o, base.get? b = some o → s.heap.get? b = some o := fun b o e => F.keep _ _ (kb b o e)
  obtain ⟨_, _, _, hf⟩ := S.at_
  obtain ⟨ar, hp, rfl⟩ := S.par
  obtain ⟨_, _, vs, _, file, tf, hcode, hvs, hfile⟩ := S.code
  obtain ⟨_, _, _, hcell⟩ := S.cell
  obtain ⟨cdD, hD⟩ := S.own
  obtain ⟨mb, hb1, hb2⟩ := M.blt
  obtain ⟨oD, hD1, hD2⟩ : ∃ oD, s.heap.get? Dc = some oD ∧ oD.data = .cls cdD := by
    unfold clsIn at hD
    split at hD
    · rename_i ho
      cases hD
      exact ⟨_, KX _ _ ho, rfl⟩
    · cases hD
  have hk := S.kind
  obtain ⟨hh, g, d, t, os⟩ := s
  refine ks_wpAt_super_base (env := ksEnv q scope L f (.ref cda) cc) S.nsup S.ncls hat rfl (KX _ _ hf) rfl hp rfl (KX _ _ hcode) rfl hvs hfile S.top ?_
  refine ks_loadName_global hk S.nsup (loadGlobal_builtin (env := ksEnv q scope L f (.ref cda) cc) (M.glob.keeps kbs) S.sup (hb1.keeps kbs) ((hb2 _ (by decide)).trans (show bootBuiltins "super" = some (.type "super") by decide +kernel)) ⟨rfl, ?_⟩)
  refine wpAny_loadName_free hk S.ncls rfl ⟨_, KX _ _ hcell, rfl⟩ ?_
  refine wpAny_loadName_local hk S.nself F.ns hv ?_
  refine ks_wpAny_isType_cls hD1 hD2 ⟨rfl, ?_⟩
  refine ks_wpAny_call_super hD1 hD2 I.at_ I.cls (fun c e => ?_) (looks_mroIn KX S.sub) (fun h' e kk => ?_)
  · have z := I.no
    unfold notCls at z
    rw [e] at z
    cases z
  · obtain ⟨F', N', l'⟩ := ks_newsPush (s := ⟨hh, g, d, t, os⟩) F N rfl e kk
    exact k _ _ F' N' l'
/-- the arguments are read off the frame -/
def ArgRd (env : Env) (L : Addr) (m : Str → Option Value) (es : List PySem.Expr) (us : List Value) : Prop := ∀ (M : Model) (A : Around) (E : Value → Shared → Prop) (s : Shared) (pos : Pos) (Q : List Value → Shared → Prop), s.heap.Ns L m → Q us s → wpAny M A (spliced (backTo pos (starEach es env))) Q E s
theorem reads_nil {env : Env} : ArgRd env L m [] [] := fun _ _ _ _ _ _ _ h => Calls.spliced_nil h
theorem reads_name {env : Env} {y : Str} {p : Pos} {v : Value} {es : List PySem.Expr} {us : List Value} (hL : env.locals = L) (hk : env.scope.kind = .function) (hl : env.kindOf y = some .local) (hv : m y = some v) (hd : (y == ("__debug__" : Str)) = false) (r : ArgRd env L m es us)
    (hs : starEach (.Name y p :: es) env = (false, eval (.Name y p) env) :: starEach es env) : ArgRd env L m (.Name y p :: es) (v :: us) := fun M A E s pos Q hn h => by
  rw [hs]
  refine Calls.spliced_cons (wpAny_Name (wpAny_loadName_local hk hl (by rw [hL]; exact hn) hv ?_) hd)
  exact r M A E s pos _ hn h
/-- super().__init__(..): the error's args are laid anew -/
theorem sup_stmt {body : List Stmt} {q : Str} {scope : Scope} {p0 p1 ap pc pe : Pos} {me : Str} {fd : FuncData} {B i newId : String} {bmB : List Value} {t : Addr} {es : List PySem.Expr} {us : List Value} {pl : Sem Bool} {Q : Flow → Shared → Prop}
    (S : SupD prog K mg C Dc f cc cda fd scope me) (F : Fr h₀ L s.heap m) (X₀ : K.In h₀) (M : Mod K mg base) (kb : ∀ b o, base.get? b = some o → h₀.get? b = some o) (N : News h₀ L s.heap [(x, excObj C t none .none)])
    (hv : m me = some (.ref x)) (KF : KxsFacts B i) (FB : ExcBaseFacts B newId i bmB) (hno : nsIn K cStatics "thirdparty.any" = some none) (hm : ks_superIn K C Dc "__init__" = some (some (.builtin i)))
    (hB : subIn K (.ref C) (.type B) = some true) (hi : excInitIn K C bmB newId = true) (hr : ArgRd (ksEnv q scope L f (.ref cda) cc) L m es us) (hz : us.length ≤ sizeLine) (hsh : (es = [] ∧ us = []) ∨ ∃ a b, backTo pc (starEach es (ksEnv q scope L f (.ref cda) cc)) = (false, a) :: b)
    (hpl : (backTo pc (starEach es (ksEnv q scope L f (.ref cda) cc))).any (·.1) = false)
    (hin : interactive (ksEnv q scope L f (.ref cda) cc) = false) (hsw : swapsWith (.Call (.Attribute (.Call (.Name "super" p0) [] [] p1) "__init__" ap) es [] pc) none pe.line (ksEnv q scope L f (.ref cda) cc) = pure false)
    (hev : eval (.Call (.Attribute (.Call (.Name "super" p0) [] [] p1) "__init__" ap) es [] pc) (ksEnv q scope L f (.ref cda) cc) = (do
      let ov ← attributeBase (.Call (.Name "super" p0) [] [] p1) "__init__" (ksEnv q scope L f (.ref cda) cc) (eval (.Call (.Name "super" p0) [] [] p1) (ksEnv q scope L f (.ref cda) cc))
      standAt ap.atName
      let (g, first) ← holding [ov] (getMethod ov "__init__" pl)
      callWith pc g first (backTo pc (starEach es (ksEnv q scope L f (.ref cda) cc))) []))
    (k : ∀ t' h' tk, Fr h₀ L h' m → News h₀ L h' [(x, excObj C t' none .none)] → Q .next { s with heap := h', toks := tk }) :
    _root_.PySem.wpAt (model prog w) A (.func body (ksEnv q scope L f (.ref cda) cc)) (exec (.Expr (.Call (.Attribute (.Call (.Name "super" p0) [] [] p1) "__init__" ap) es [] pc) pe) (ksEnv q scope L f (.ref cda) cc)) Q E s := by
  refine ks_wpAt_Expr_any ?_ hin hsw
  refine ks_wpAt_MethodCall (pl := pl) ?_ hev
  have I : InstAt s.heap x (excObj C t none .none) C none := ⟨(N (x, excObj C t none .none) (by simp)).1, rfl, rfl, trivial⟩
  refine sup_node S F X₀ M kb N hv I (by decide) fun so h1 F1 N1 l1 => ?_
  have I1 : InstAt h1 x (excObj C t none .none) C none := ⟨(N1 (x, excObj C t none .none) (by simp)).1, rfl, rfl, trivial⟩
  refine kxs_method (s := { s with heap := h1 }) KF F1 X₀ N1 List.mem_cons_self I1 hno hm hB (by decide) fun u h2 F2 N2 l2 => ?_
  have ux : u ≠ x := fun z => by
    have := l2 (x, excObj C t none .none) (by simp)
    rw [z] at this
    exact Nat.lt_irrefl _ this
  have sx : so ≠ x := fun z => by
    have := l1 (x, excObj C t none .none) (by simp)
    rw [z] at this
    exact Nat.lt_irrefl _ this
  refine kxs_callWith (i := i) (x := x) hpl ?_
  have key : wpAny (model prog w) A (evalArgs (.ref u) true (backTo pc (starEach es (ksEnv q scope L f (.ref cda) cc))) []) (fun ar s₁ => ar = ⟨us, []⟩ ∧ s₁ = { s with heap := h2, toks := s.toks + 1 }) E { s with heap := h2, toks := s.toks + 1 } := by
    rcases hsh with ⟨rfl, rfl⟩ | ⟨a, b, hs⟩
    · exact evalArgs_empty ⟨rfl, rfl⟩
    · have := hr (model prog w) A E { s with heap := h2, toks := s.toks + 1 } pc (fun vs s₁ => (⟨vs, []⟩ : Args) = ⟨us, []⟩ ∧ s₁ = { s with heap := h2, toks := s.toks + 1 }) F2.ns ⟨rfl, rfl⟩
      rw [hs] at this ⊢
      exact Calls.evalArgs_plain this
  refine wpAny_mono key (fun ar s₁ hh => ?_) fun _ _ z => z
  obtain ⟨rfl, rfl⟩ := hh
  refine ⟨kxs_at N2 List.mem_cons_self, ?_⟩
  refine kxs_call (nw := fun o => [(u, kxs_mw i x), (so, ks_superObj Dc x C), (x, o)]) F2 X₀ N2 FB hi List.mem_cons_self (.tail ux (.tail sx (.head (by simp)))) hz fun t' h3 F3 N3 l3 => ?_
  exact k t' h3 _ F3 fun p hp => N3 p (by
    rcases List.mem_cons.mp hp with rfl | hp
    · simp
    · cases hp)
/-- what an error class's text says of the stores -/
structure StoD (K : Frag) (C : Addr) : Prop where
  cls : ∃ cd, clsIn K C = some cd ∧ PySem.HandSPX.refsVE cd.mro = true ∧ cd.hasDict = true
  sa : findIn K (.ref C) "__setattr__" = some (some (.builtin "object.__setattr__"))
/-- the error at x, its dict none as yet -/
def Err0 (C x : Addr) (h : Heap) : Prop := ∃ t : Addr, h.get? x = some { cls := .ref C, data := .fields #[.ref t, .none, .none, .none, .bool false, .none] }
/-- .. its dict at dx -/
def ErrD (C x dx : Addr) (mA : Str → Option Value) (h : Heap) : Prop := (∃ t : Addr, h.get? x = some { cls := .ref C, dict := some dx, data := .fields #[.ref t, .none, .none, .none, .bool false, .none] }) ∧ h.Ns1 dx mA
theorem Fr.keepBut {h h' : Heap} (F : Fr h₀ L h m) (hx : h₀.get? x = none) (xL : x ≠ L) (k : ∀ b o, b ≠ x → h.get? b = some o → h'.get? b = some o) : Fr h₀ L h' m := by
  obtain ⟨oL, es, ep, hL, r⟩ := F.ns
  exact ⟨⟨oL, es, ep, k _ _ (Ne.symm xL) hL, r⟩, fun b o e => k b o (fun z => by rw [z, hx] at e; cases e) (F.keep b o e), F.above⟩
theorem store0 {me name y : Str} {p1 p2 p3 pos : Pos} {v : Value} {env : Env} {Q : Flow → Shared → Prop} (D : StoD K C) (F : Fr h₀ L s.heap m) (X₀ : K.In h₀) (hx : h₀.get? x = none) (xL : x ≠ L) (e0 : Err0 C x s.heap)
    (hn : findIn K (.ref C) name = some none) (hL : env.locals = L) (hk : env.scope.kind = .function) (ly : env.kindOf y = some .local) (lm : env.kindOf me = some .local) (vy : m y = some v) (vm : m me = some (.ref x)) (dy : (y == ("__debug__" : Str)) = false) (dm : (me == ("__debug__" : Str)) = false)
    (hsw : swapsWith (.Name y p3) (some (.Attribute (.Name me p1) name p2)) pos.line env = pure false)
    (k : ∀ dx h' tk, Fr h₀ L h' m → h₀.objs.size ≤ dx → h₀.get? dx = none → dx ≠ L → dx ≠ x → ErrD C x dx (fun z => if z = name then some v else none) h' → Q .next { s with heap := h', toks := tk }) :
    wpAny (model prog w) A (exec (.Assign [.Attribute (.Name me p1) name p2] (.Name y p3) pos) env) Q E s := by
  obtain ⟨cd, hcd, hm, hh⟩ := D.cls
  obtain ⟨t, ho⟩ := e0
  have KX := X₀.keeps F.keep
  subst hL
  refine plainObj_wpAny_Assign_Attribute ?_ hsw
  refine wpAny_Name (wpAny_loadName_local hk ly F.ns vy ?_) dy
  refine wpAny_Name (wpAny_loadName_local hk lm F.ns vm ?_) dm
  obtain ⟨hp, g, d, tk, os⟩ := s
  refine set_plain KX (ox := { cls := .ref C, dict := none, data := .fields #[.ref t, .none, .none, .none, .bool false, .none] }) (od := none) ⟨ho, rfl, rfl, trivial⟩ D.sa ?_
  refine PySem.HandSPX.exc_osa KX ho hcd hm hh hn (fun h' tk' dx kk dn dne hx' hns => ?_)
  have hd0 : h₀.get? dx = none := by
    cases z : h₀.get? dx with
    | none => rfl
    | some o => exact absurd (Heap.lt_size (F.keep _ _ z)) (Nat.not_lt.mpr dn)
  obtain ⟨oL, _, _, hoL, _⟩ := F.ns
  have dL : dx ≠ env.locals := fun z => by
    have := Heap.lt_size (show hp.get? env.locals = some oL from hoL)
    rw [← z] at this
    exact absurd this (Nat.not_lt.mpr dn)
  have up : h₀.objs.size ≤ dx := Nat.le_trans F.above (Nat.le_trans (Nat.le_of_lt (Heap.lt_size (show hp.get? env.locals = some oL from hoL))) dn)
  exact k dx h' tk' (Fr.keepBut F hx xL kk) up hd0 dL dne ⟨⟨t, hx'⟩, hns⟩
theorem storeD {me name y : Str} {dx : Addr} {mA : Str → Option Value} {nl : List Str} {p1 p2 p3 pos : Pos} {v : Value} {env : Env} {Q : Flow → Shared → Prop} (D : StoD K C) (F : Fr h₀ L s.heap m) (X₀ : K.In h₀) (hd : h₀.get? dx = none) (dL : dx ≠ L) (dne : dx ≠ x) (e0 : ErrD C x dx mA s.heap) (hw : Within mA nl) (hz : nl.length ≤ 1000)
    (hn : findIn K (.ref C) name = some none) (hL : env.locals = L) (hk : env.scope.kind = .function) (ly : env.kindOf y = some .local) (lm : env.kindOf me = some .local) (vy : m y = some v) (vm : m me = some (.ref x)) (dy : (y == ("__debug__" : Str)) = false) (dm : (me == ("__debug__" : Str)) = false)
    (hsw : swapsWith (.Name y p3) (some (.Attribute (.Name me p1) name p2)) pos.line env = pure false)
    (k : ∀ h' tk, Fr h₀ L h' m → ErrD C x dx (fun z => if z = name then some v else mA z) h' → Q .next { s with heap := h', toks := tk }) :
    wpAny (model prog w) A (exec (.Assign [.Attribute (.Name me p1) name p2] (.Name y p3) pos) env) Q E s := by
  obtain ⟨cd, hcd, hm, hh⟩ := D.cls
  obtain ⟨⟨t, ho⟩, hns⟩ := e0
  have KX := X₀.keeps F.keep
  subst hL
  refine plainObj_wpAny_Assign_Attribute ?_ hsw
  refine wpAny_Name (wpAny_loadName_local hk ly F.ns vy ?_) dy
  refine wpAny_Name (wpAny_loadName_local hk lm F.ns vm ?_) dm
  obtain ⟨hp, g, d, tk, os⟩ := s
  obtain ⟨oD, _, _, hoD, _, _⟩ := hns.count hw
  refine set_plain KX (ox := { cls := .ref C, dict := some dx, data := .fields #[.ref t, .none, .none, .none, .bool false, .none] }) (od := some oD) ⟨ho, rfl, rfl, hoD⟩ D.sa ?_
  refine PySem.OEX.osa_old KX ho hns hw hz hcd hm hh hn (fun h' tk' kk hn' => ?_)
  exact k h' tk' (Fr.keepBut F hd dL kk) ⟨⟨t, kk _ _ (Ne.symm dne) ho⟩, hn'⟩
/-- the frame of such an __init__ -/
theorem init_enter {name qual : Str} {params : Arguments} {body : List Stmt} {scope : Scope} {dV kV doc pm ct oc : Value} {an od : Option Addr} {osl : Array (Option Value)} {args : Args} {binds : List (Str × Value)} {R : Result → Shared → Prop}
    (lk : K.lookup f = some ⟨oc, od, .func (ksFn name qual params body scope dV kV doc pm an (.ref cda) ct cc), osl⟩) (hcd : codeIn K (.ref cda) qual = true) (KX : K.In s.heap) (lim : s.heap.NoLimit) (hroom : A.depth < recursionLimit)
    (hbind : BindsTo s (ksFn name qual params body scope dV kV doc pm an (.ref cda) ct cc) args binds) (hloc : ∀ y ∈ binds, scope.names.lookup y.1 = some .local) (hcell : ∀ y ∈ scope.names, y.2 ≠ .cell)
    (hco : scope.isCoroutine = false) (hgen : scope.isGenerator = false) (hk : scope.kind = .function) (KB : K.In base) (kb : ∀ b o, base.get? b = some o → s.heap.get? b = some o) (hx : base.get? x = none) (e0 : Err0 C x s.heap)
    (h : ∀ h₀ L h₁, Fr h₀ L h₁ (fun y => binds.reverse.lookup y) → K.In h₀ → (∀ b o, base.get? b = some o → h₀.get? b = some o) → h₀.get? x = none → (∀ b o, b ≠ x → s.heap.get? b = some o → h₀.get? b = some o) → h₀.objs.size = s.heap.objs.size → x ≠ L → Err0 C x h₁ →
      _root_.PySem.wpAt (model prog w) (A.deeper (ksEnv qual scope L f (.ref cda) cc)) (.func body (ksEnv qual scope L f (.ref cda) cc)) (execs body (ksEnv qual scope L f (.ref cda) cc))
        (fun fl s' => R (.ok (.ret (match fl with | .ret v => v | _ => .none))) s')
        (fun e s' => wpAny (model prog w) (A.deeper (ksEnv qual scope L f (.ref cda) cc)) (leaving (ksEnv qual scope L f (.ref cda) cc) e) (fun _ s'' => R (.error e) s'') (fun e' s'' => R (.error e') s'') s')
        { s with heap := h₁, toks := s.toks + binds.length }) : codeAny (model prog w) A (.call (.ref f) args) R s := by
  obtain ⟨t, ho⟩ := e0
  have k0 : ∀ b o, b ≠ x → s.heap.get? b = some o → (hideAll s.heap [x]).get? b = some o := fun b o hb e => hideAll_get _ e (by simpa using hb)
  have kb0 : ∀ b o, base.get? b = some o → (hideAll s.heap [x]).get? b = some o := fun b o e => k0 b o (fun z => by rw [z, hx] at e; cases e) (kb b o e)
  refine ks_codeAny_call_defAt (fd := ksFn name qual params body scope dV kV doc pm an (.ref cda) ct cc) (body := body) (binds := binds) hroom (KX _ _ lk) rfl lim (codeRec_of KX hcd) rfl hbind hcell hloc (fun h₁ hns hk₁ => ?_) hco hgen hk
  exact h (hideAll s.heap [x]) s.heap.objs.size h₁ ⟨hns, fun b o e => hk₁ b o (of_hideAll _ e), Nat.le_of_eq (hideAll_size _ _)⟩ (KB.keeps kb0) kb0 (hideAll_none _ (by simp)) k0 (hideAll_size _ _) (Nat.ne_of_lt (Heap.lt_size ho)) ⟨t, hk₁ _ _ ho⟩
end
end DL
end

section
set_option Elab.async false
set_option linter.all false
set_option maxRecDepth 100000
set_option maxHeartbeats 4000000
/-! EB: such an __init__ run as a whole: no, one, two fields. -/
namespace DL
open PySem PySem.W PySem.Calls PyProof.Rows
open L2 hiding St
section
variable {prog : Program} {w : World} {A : Around} {s : Shared} {base : Heap} {mg : Str → Option Value} {K : Frag}
variable {x C Dc f cc cda : Addr} {name qual me : Str} {params : Arguments} {scope : Scope} {dV kV doc pm ct oc : Value} {an od : Option Addr} {osl : Array (Option Value)} {R : Result → Shared → Prop}
/-- the frame's own conditions -/
structure FrmD (K : Frag) (f cc cda : Addr) (name qual : Str) (params : Arguments) (body : List Stmt) (scope : Scope) (dV kV doc pm ct oc : Value) (an od : Option Addr) (osl : Array (Option Value)) : Prop where
  lk : K.lookup f = some ⟨oc, od, .func (ksFn name qual params body scope dV kV doc pm an (.ref cda) ct cc), osl⟩
  cd : codeIn K (.ref cda) qual = true
  cell : ∀ y ∈ scope.names, y.2 ≠ .cell
  co : scope.isCoroutine = false
  gen : scope.isGenerator = false
  kind : scope.kind = .function
/-- the built-in __init__ that is come to -/
structure SupB (K : Frag) (C Dc : Addr) (B i newId : String) (bmB : List Value) : Prop where
  kf : KxsFacts B i
  fb : ExcBaseFacts B newId i bmB
  no : nsIn K cStatics "thirdparty.any" = some none
  along : ks_superIn K C Dc "__init__" = some (some (.builtin i))
  sub : subIn K (.ref C) (.type B) = some true
  ini : excInitIn K C bmB newId = true
variable {B i newId : String} {bmB : List Value}
/-- one field -/
theorem init1 {a nm : Str} {p0 p1 ap pc pe q1 q2 q3 q4 q5 : Pos} {pl : Sem Bool} {u : Value}
    (Fm : FrmD K f cc cda name qual params [.Expr (.Call (.Attribute (.Call (.Name "super" p0) [] [] p1) "__init__" ap) [.Name a q1] [] pc) pe, .Assign [.Attribute (.Name me q2) nm q3] (.Name a q4) q5] scope dV kV doc pm ct oc an od osl)
    (S : SupD prog K mg C Dc f cc cda (ksFn name qual params [.Expr (.Call (.Attribute (.Call (.Name "super" p0) [] [] p1) "__init__" ap) [.Name a q1] [] pc) pe, .Assign [.Attribute (.Name me q2) nm q3] (.Name a q4) q5] scope dV kV doc pm an (.ref cda) ct cc) scope me)
    (SB : SupB K C Dc B i newId bmB) (D : StoD K C) (M : L2.Mod K mg base) (kb : ∀ b o, base.get? b = some o → s.heap.get? b = some o) (hx : base.get? x = none) (e0 : Err0 C x s.heap) (hroom : A.depth < recursionLimit)
    (hbind : BindsTo s (ksFn name qual params [.Expr (.Call (.Attribute (.Call (.Name "super" p0) [] [] p1) "__init__" ap) [.Name a q1] [] pc) pe, .Assign [.Attribute (.Name me q2) nm q3] (.Name a q4) q5] scope dV kV doc pm an (.ref cda) ct cc) ⟨[.ref x, u], []⟩ [(me, .ref x), (a, u)])
    (la : scope.names.lookup a = some .local) (ham : a ≠ me) (da : (a == ("__debug__" : Str)) = false) (dm : (me == ("__debug__" : Str)) = false) (hn : findIn K (.ref C) nm = some none)
    (hev : ∀ L, eval (.Call (.Attribute (.Call (.Name "super" p0) [] [] p1) "__init__" ap) [.Name a q1] [] pc) (ksEnv qual scope L f (.ref cda) cc) = (do
      let ov ← attributeBase (.Call (.Name "super" p0) [] [] p1) "__init__" (ksEnv qual scope L f (.ref cda) cc) (eval (.Call (.Name "super" p0) [] [] p1) (ksEnv qual scope L f (.ref cda) cc))
      standAt ap.atName
      let (g, first) ← holding [ov] (getMethod ov "__init__" pl)
      callWith pc g first (backTo pc (starEach [.Name a q1] (ksEnv qual scope L f (.ref cda) cc))) []))
    (hst : ∀ L, starEach [.Name a q1] (ksEnv qual scope L f (.ref cda) cc) = [(false, eval (.Name a q1) (ksEnv qual scope L f (.ref cda) cc))])
    (hin : ∀ L, interactive (ksEnv qual scope L f (.ref cda) cc) = false)
    (hs1 : ∀ L, swapsWith (.Call (.Attribute (.Call (.Name "super" p0) [] [] p1) "__init__" ap) [.Name a q1] [] pc) none pe.line (ksEnv qual scope L f (.ref cda) cc) = pure false)
    (hs2 : ∀ L, swapsWith (.Name a q4) (some (.Attribute (.Name me q2) nm q3)) q5.line (ksEnv qual scope L f (.ref cda) cc) = pure false)
    (k : ∀ dx h' tk, (∀ b o, b ≠ x → s.heap.get? b = some o → h'.get? b = some o) → s.heap.objs.size ≤ dx → dx ≠ x → ErrD C x dx (fun z => if z = nm then some u else none) h' → R (.ok (.ret .none)) { s with heap := h', toks := tk }) :
    codeAny (model prog w) A (.call (.ref f) ⟨[.ref x, u], []⟩) R s := by
  have KX : K.In s.heap := M.kin.keeps kb
  refine init_enter (binds := [(me, .ref x), (a, u)]) Fm.lk Fm.cd KX (M.nolimit.keeps kb) hroom hbind (fun y hy => ?_) Fm.cell Fm.co Fm.gen Fm.kind M.kin kb hx e0 fun h₀ L h₁ F X₀ kb0 hx0 k0 hsz xL e1 => ?_
  · simp only [List.mem_cons, List.not_mem_nil, or_false] at hy
    rcases hy with rfl | rfl
    · exact S.nself
    · exact la
  have vm : ([(me, Value.ref x), (a, u)] : List (Str × Value)).reverse.lookup me = some (.ref x) := by
    have : (me == a) = false := by simpa using fun z => ham z.symm
    simp [List.lookup, this]
  have va : ([(me, Value.ref x), (a, u)] : List (Str × Value)).reverse.lookup a = some u := by simp [List.lookup]
  obtain ⟨t, ho⟩ := e1
  refine ks_wpAt_execs_cons ?_
  refine sup_stmt (s := { s with heap := h₁, toks := s.toks + 2 }) (t := t) S F X₀ M kb0 (fun p hp => by
    rcases List.mem_cons.mp hp with rfl | hp
    · exact ⟨ho, xL, hx0⟩
    · cases hp) vm SB.kf SB.fb SB.no SB.along SB.sub SB.ini (reads_name rfl Fm.kind la va da reads_nil (hst L)) (by show 1 ≤ sizeLine; rw [sizeLine_eq]; omega) (.inr ⟨_, _, by rw [hst L]; rfl⟩) (by rw [hst L]; rfl) (hin L) (hs1 L) (hev L) fun t' h2 tk2 F2 N2 => ?_
  refine wpAt_of_wpAny (wpAny_execs_cons ?_)
  refine store0 (s := { s with heap := h2, toks := tk2 }) D F2 X₀ hx0 xL ⟨t', (N2 _ List.mem_cons_self).1⟩ hn rfl Fm.kind la S.nself va vm da dm (hs2 L) fun dx h3 tk3 F3 up d0 dL dne e3 => ?_
  refine wpAny_execs_nil ?_
  exact k dx h3 tk3 (fun b o hb e => F3.keep _ _ (k0 b o hb e)) (by rw [← hsz]; exact up) dne e3
/-- no field -/
theorem init0 {p0 p1 ap pc pe : Pos} {pl : Sem Bool}
    (Fm : FrmD K f cc cda name qual params [.Expr (.Call (.Attribute (.Call (.Name "super" p0) [] [] p1) "__init__" ap) [] [] pc) pe] scope dV kV doc pm ct oc an od osl)
    (S : SupD prog K mg C Dc f cc cda (ksFn name qual params [.Expr (.Call (.Attribute (.Call (.Name "super" p0) [] [] p1) "__init__" ap) [] [] pc) pe] scope dV kV doc pm an (.ref cda) ct cc) scope me)
    (SB : SupB K C Dc B i newId bmB) (M : L2.Mod K mg base) (kb : ∀ b o, base.get? b = some o → s.heap.get? b = some o) (hx : base.get? x = none) (e0 : Err0 C x s.heap) (hroom : A.depth < recursionLimit)
    (hbind : BindsTo s (ksFn name qual params [.Expr (.Call (.Attribute (.Call (.Name "super" p0) [] [] p1) "__init__" ap) [] [] pc) pe] scope dV kV doc pm an (.ref cda) ct cc) ⟨[.ref x], []⟩ [(me, .ref x)])
    (hev : ∀ L, eval (.Call (.Attribute (.Call (.Name "super" p0) [] [] p1) "__init__" ap) [] [] pc) (ksEnv qual scope L f (.ref cda) cc) = (do
      let ov ← attributeBase (.Call (.Name "super" p0) [] [] p1) "__init__" (ksEnv qual scope L f (.ref cda) cc) (eval (.Call (.Name "super" p0) [] [] p1) (ksEnv qual scope L f (.ref cda) cc))
      standAt ap.atName
      let (g, first) ← holding [ov] (getMethod ov "__init__" pl)
      callWith pc g first (backTo pc (starEach [] (ksEnv qual scope L f (.ref cda) cc))) []))
    (hin : ∀ L, interactive (ksEnv qual scope L f (.ref cda) cc) = false)
    (hs1 : ∀ L, swapsWith (.Call (.Attribute (.Call (.Name "super" p0) [] [] p1) "__init__" ap) [] [] pc) none pe.line (ksEnv qual scope L f (.ref cda) cc) = pure false)
    (k : ∀ h' tk, (∀ b o, b ≠ x → s.heap.get? b = some o → h'.get? b = some o) → Err0 C x h' → R (.ok (.ret .none)) { s with heap := h', toks := tk }) :
    codeAny (model prog w) A (.call (.ref f) ⟨[.ref x], []⟩) R s := by
  have KX : K.In s.heap := M.kin.keeps kb
  refine init_enter (binds := [(me, .ref x)]) Fm.lk Fm.cd KX (M.nolimit.keeps kb) hroom hbind (fun y hy => ?_) Fm.cell Fm.co Fm.gen Fm.kind M.kin kb hx e0 fun h₀ L h₁ F X₀ kb0 hx0 k0 hsz xL e1 => ?_
  · simp only [List.mem_cons, List.not_mem_nil, or_false] at hy
    subst hy
    exact S.nself
  have vm : ([(me, Value.ref x)] : List (Str × Value)).reverse.lookup me = some (.ref x) := by simp [List.lookup]
  obtain ⟨t, ho⟩ := e1
  refine ks_wpAt_execs_cons ?_
  refine sup_stmt (s := { s with heap := h₁, toks := s.toks + 1 }) (t := t) S F X₀ M kb0 (fun p hp => by
    rcases List.mem_cons.mp hp with rfl | hp
    · exact ⟨ho, xL, hx0⟩
    · cases hp) vm SB.kf SB.fb SB.no SB.along SB.sub SB.ini reads_nil (Nat.zero_le _) (.inl ⟨rfl, rfl⟩) rfl (hin L) (hs1 L) (hev L) fun t' h2 tk2 F2 N2 => ?_
  refine wpAt_of_wpAny (wpAny_execs_nil ?_)
  exact k h2 tk2 (fun b o hb e => F2.keep _ _ (k0 b o hb e)) ⟨t', (N2 _ List.mem_cons_self).1⟩
/-- two fields -/
theorem init2 {a b nm nm2 : Str} {p0 p1 ap pc pe q1 q2 q3 q4 q5 r1 r2 r3 r4 r5 : Pos} {pl : Sem Bool} {u v : Value}
    (Fm : FrmD K f cc cda name qual params [.Expr (.Call (.Attribute (.Call (.Name "super" p0) [] [] p1) "__init__" ap) [.Name a q1, .Name b r1] [] pc) pe, .Assign [.Attribute (.Name me q2) nm q3] (.Name a q4) q5, .Assign [.Attribute (.Name me r2) nm2 r3] (.Name b r4) r5] scope dV kV doc pm ct oc an od osl)
    (S : SupD prog K mg C Dc f cc cda (ksFn name qual params [.Expr (.Call (.Attribute (.Call (.Name "super" p0) [] [] p1) "__init__" ap) [.Name a q1, .Name b r1] [] pc) pe, .Assign [.Attribute (.Name me q2) nm q3] (.Name a q4) q5, .Assign [.Attribute (.Name me r2) nm2 r3] (.Name b r4) r5] scope dV kV doc pm an (.ref cda) ct cc) scope me)
    (SB : SupB K C Dc B i newId bmB) (D : StoD K C) (M : L2.Mod K mg base) (kb : ∀ b o, base.get? b = some o → s.heap.get? b = some o) (hx : base.get? x = none) (e0 : Err0 C x s.heap) (hroom : A.depth < recursionLimit)
    (hbind : BindsTo s (ksFn name qual params [.Expr (.Call (.Attribute (.Call (.Name "super" p0) [] [] p1) "__init__" ap) [.Name a q1, .Name b r1] [] pc) pe, .Assign [.Attribute (.Name me q2) nm q3] (.Name a q4) q5, .Assign [.Attribute (.Name me r2) nm2 r3] (.Name b r4) r5] scope dV kV doc pm an (.ref cda) ct cc) ⟨[.ref x, u, v], []⟩ [(me, .ref x), (a, u), (b, v)])
    (la : scope.names.lookup a = some .local) (ham : a ≠ me) (da : (a == ("__debug__" : Str)) = false) (dm : (me == ("__debug__" : Str)) = false) (hn : findIn K (.ref C) nm = some none)
    (lb : scope.names.lookup b = some .local) (hbm : b ≠ me) (hba : b ≠ a) (db : (b == ("__debug__" : Str)) = false) (hn2 : findIn K (.ref C) nm2 = some none)
    (hev : ∀ L, eval (.Call (.Attribute (.Call (.Name "super" p0) [] [] p1) "__init__" ap) [.Name a q1, .Name b r1] [] pc) (ksEnv qual scope L f (.ref cda) cc) = (do
      let ov ← attributeBase (.Call (.Name "super" p0) [] [] p1) "__init__" (ksEnv qual scope L f (.ref cda) cc) (eval (.Call (.Name "super" p0) [] [] p1) (ksEnv qual scope L f (.ref cda) cc))
      standAt ap.atName
      let (g, first) ← holding [ov] (getMethod ov "__init__" pl)
      callWith pc g first (backTo pc (starEach [.Name a q1, .Name b r1] (ksEnv qual scope L f (.ref cda) cc))) []))
    (hst : ∀ L, starEach [.Name a q1, .Name b r1] (ksEnv qual scope L f (.ref cda) cc) = (false, eval (.Name a q1) (ksEnv qual scope L f (.ref cda) cc)) :: starEach [.Name b r1] (ksEnv qual scope L f (.ref cda) cc))
    (hst2 : ∀ L, starEach [.Name b r1] (ksEnv qual scope L f (.ref cda) cc) = [(false, eval (.Name b r1) (ksEnv qual scope L f (.ref cda) cc))])
    (hin : ∀ L, interactive (ksEnv qual scope L f (.ref cda) cc) = false)
    (hs1 : ∀ L, swapsWith (.Call (.Attribute (.Call (.Name "super" p0) [] [] p1) "__init__" ap) [.Name a q1, .Name b r1] [] pc) none pe.line (ksEnv qual scope L f (.ref cda) cc) = pure false)
    (hs2 : ∀ L, swapsWith (.Name a q4) (some (.Attribute (.Name me q2) nm q3)) q5.line (ksEnv qual scope L f (.ref cda) cc) = pure false)
    (hs3 : ∀ L, swapsWith (.Name b r4) (some (.Attribute (.Name me r2) nm2 r3)) r5.line (ksEnv qual scope L f (.ref cda) cc) = pure false)
    (k : ∀ dx h' tk, (∀ b o, b ≠ x → s.heap.get? b = some o → h'.get? b = some o) → s.heap.objs.size ≤ dx → dx ≠ x → ErrD C x dx (fun z => if z = nm2 then some v else if z = nm then some u else none) h' → R (.ok (.ret .none)) { s with heap := h', toks := tk }) :
    codeAny (model prog w) A (.call (.ref f) ⟨[.ref x, u, v], []⟩) R s := by
  have KX : K.In s.heap := M.kin.keeps kb
  refine init_enter (binds := [(me, .ref x), (a, u), (b, v)]) Fm.lk Fm.cd KX (M.nolimit.keeps kb) hroom hbind (fun y hy => ?_) Fm.cell Fm.co Fm.gen Fm.kind M.kin kb hx e0 fun h₀ L h₁ F X₀ kb0 hx0 k0 hsz xL e1 => ?_
  · simp only [List.mem_cons, List.not_mem_nil, or_false] at hy
    rcases hy with rfl | rfl | rfl
    · exact S.nself
    · exact la
    · exact lb
  have vm : ([(me, Value.ref x), (a, u), (b, v)] : List (Str × Value)).reverse.lookup me = some (.ref x) := by
    have z1 : (me == a) = false := by simpa using fun z => ham z.symm
    have z2 : (me == b) = false := by simpa using fun z => hbm z.symm
    simp [List.lookup, z1, z2]
  have va : ([(me, Value.ref x), (a, u), (b, v)] : List (Str × Value)).reverse.lookup a = some u := by
    have z2 : (a == b) = false := by simpa using fun z => hba z.symm
    simp [List.lookup, z2]
  have vb : ([(me, Value.ref x), (a, u), (b, v)] : List (Str × Value)).reverse.lookup b = some v := by simp [List.lookup]
  obtain ⟨t, ho⟩ := e1
  refine ks_wpAt_execs_cons ?_
  refine sup_stmt (s := { s with heap := h₁, toks := s.toks + 3 }) (t := t) S F X₀ M kb0 (fun p hp => by
    rcases List.mem_cons.mp hp with rfl | hp
    · exact ⟨ho, xL, hx0⟩
    · cases hp) vm SB.kf SB.fb SB.no SB.along SB.sub SB.ini (reads_name rfl Fm.kind la va da (reads_name rfl Fm.kind lb vb db reads_nil (hst2 L)) (hst L)) (by show 2 ≤ sizeLine; rw [sizeLine_eq]; omega) (.inr ⟨_, _, by rw [hst L]; rfl⟩) (by rw [hst L, hst2 L]; rfl) (hin L) (hs1 L) (hev L) fun t' h2 tk2 F2 N2 => ?_
  refine wpAt_of_wpAny (wpAny_execs_cons ?_)
  refine store0 (s := { s with heap := h2, toks := tk2 }) D F2 X₀ hx0 xL ⟨t', (N2 _ List.mem_cons_self).1⟩ hn rfl Fm.kind la S.nself va vm da dm (hs2 L) fun dx h3 tk3 F3 up d0 dL dne e3 => ?_
  refine wpAny_execs_cons ?_
  have hw : Within (fun z => if z = nm then some u else none) [nm] := fun z hz => by
    by_cases e : z = nm
    · simp [e]
    · exact absurd (if_neg e) hz
  refine storeD (s := { s with heap := h3, toks := tk3 }) D F3 X₀ d0 dL dne e3 hw (by show 1 ≤ 1000; decide) hn2 rfl Fm.kind lb S.nself vb vm db dm (hs3 L) fun h4 tk4 F4 e4 => ?_
  refine wpAny_execs_nil ?_
  exact k dx h4 tk4 (fun b o hb e => F4.keep _ _ (k0 b o hb e)) (by rw [← hsz]; exact up) dne e4
end
end DL
end

section
set_option Elab.async false
set_option linter.all false
set_option maxRecDepth 100000
set_option maxHeartbeats 4000000
/-! EC: C(e, ..), an error of one's own: what is raised. -/
namespace DL
open PySem PySem.W PySem.Calls PyProof.Rows
open L2 hiding St
/-- the error's dict after its __init__, or none -/
def ErrAt (C x : Addr) (ns : List Str) (us : List Value) (size : Nat) (h' : Heap) : Option Addr → Prop
  | none => ns = [] ∧ Err0 C x h'
  | some dx => size ≤ dx ∧ dx ≠ x ∧ ∃ mA, ErrD C x dx mA h' ∧ ∀ f, mA f = (ns.zip us).lookup f
/-- C's __init__ keeps its arguments under the names ns -/
def InitOk (prog : Program) (w : World) (K : Frag) (mg : Str → Option Value) (base : Heap) (C f : Addr) (ns : List Str) : Prop :=
  ∀ (A : Around) (s : Shared) (x : Addr) (us : List Value) (R : Result → Shared → Prop), us.length = ns.length → L2.Mod K mg base → (∀ b o, base.get? b = some o → s.heap.get? b = some o) → base.get? x = none → Err0 C x s.heap → A.depth < recursionLimit →
    (∀ dx h' tk, (∀ b o, b ≠ x → s.heap.get? b = some o → h'.get? b = some o) → ErrAt C x ns us s.heap.objs.size h' dx → R (.ok (.ret .none)) { s with heap := h', toks := tk }) →
    codeAny (model prog w) A (.call (.ref f) ⟨.ref x :: us, []⟩) R s
section
variable {X : Cx} {e : PySem.Expr} {es : List PySem.Expr} {ta : TA} {x : Str} {p pos : Pos} {C fI : Addr} {ns : List Str}
/-- C(e, ..) -/
def tErr (C : Addr) (ns : List Str) (ta : TA) : L2.St → Hp → XK → Prop := fun σ H Q => ta σ H fun vs H1 => vs.length = ns.length ∧ vs.length ≤ 1000 ∧ ∀ d : Option Addr, (d = none → ns = []) → (∀ a, d = some a → H1 a = none) →
  Q (.ref C) d (match d with | none => H1 | some a => upd H1 a (.xd (ns.zip vs)))
theorem zip_rel : ∀ {ns : List Str} {vs : List V} {us : List Value} (_ : Vals vs us) (f : Str), RelO ((ns.zip vs).lookup f) ((ns.zip us).lookup f)
  | [], _, _, _, _ => True.intro
  | n :: ns, _, _, .nil, _ => True.intro
  | n :: ns, _, _, .cons h r, f => by
    rw [List.zip_cons_cons, List.zip_cons_cons, List.lookup_cons, List.lookup_cons]
    cases f == n with
    | true => exact h
    | false => exact zip_rel r f
theorem err_end {pins : List (Addr × Obj)} {σ : L2.St} {H1 : Hp} {Q : XK} {hp h2 : Heap} {g : Array GenState} {dr : Drawn} {t1 t2 : Nat} {os : OsState} {a : Addr} {vs : List V} {us : List Value} {dx : Option Addr} (T : Raises X (.ref C)) (I1 : L2.Inv X pins σ H1 ⟨hp, g, dr, t1, os⟩)
    (ha : hp.objs.size ≤ a) (k : ∀ b o, hp.get? b = some o → h2.get? b = some o) (r : Vals vs us) (hn : vs.length = ns.length) (E : ErrAt C a ns us hp.objs.size h2 dx)
    (q : ∀ d : Option Addr, (d = none → ns = []) → (∀ a, d = some a → H1 a = none) → Q (.ref C) d (match d with | none => H1 | some a => upd H1 a (.xd (ns.zip vs)))) : MkP X pins σ Q (.ref a) ⟨h2, g, dr, t2, os⟩ := by
  obtain ⟨G, g1, g2⟩ := restrict h2 fun b => decide (b ≠ a)
  have gk : ∀ b, b ≠ a → G.get? b = h2.get? b := fun b hb => g1 b (decide_eq_true hb)
  have ge : G.get? a = none := g2 a (by simp)
  have na : H1 a = none := I1.hok.fresh ha
  have kG : ∀ b o, hp.get? b = some o → G.get? b = some o := fun b o e => by
    rw [gk b (Nat.ne_of_lt (Nat.lt_of_lt_of_le (Heap.lt_size e) ha))]
    exact k b o e
  have kg : ∀ b o, G.get? b = some o → h2.get? b = some o := fun b o e => by
    by_cases hb : b = a
    · rw [hb, ge] at e; cases e
    · rw [← gk b hb]; exact e
  cases dx with
  | none =>
    obtain ⟨hns, t, he⟩ := E
    exact ⟨a, _, _, ⟨G, g, dr, t2, os⟩, H1, .ref C, none, rfl, I1.kept kG, kg, ge, he, ⟨rfl, rfl⟩, rfl, rfl, na, rfl, I1.bare, T, q none (fun _ => hns) (fun _ z => nomatch z)⟩
  | some d =>
    obtain ⟨hd, hda, mA, ⟨⟨t, he⟩, hns⟩, hm⟩ := E
    have nd : H1 d = none := I1.hok.fresh hd
    have ok : ObjOk X.prog X.w (upd H1 d (.xd (ns.zip vs))) G d (.xd (ns.zip vs)) := ⟨mA, hns.at fun o y => (gk d hda).trans y, fun f => by rw [hm]; exact zip_rel r f⟩
    exact ⟨a, _, _, ⟨G, g, dr, t2, os⟩, upd H1 d (.xd (ns.zip vs)), .ref C, some d, rfl, I1.laid kG hd ok, kg, ge, he, ⟨rfl, rfl⟩, rfl, rfl, by rw [upd_ne (Ne.symm hda)]; exact na, rfl, I1.bare, T, q (some d) (fun z => nomatch z) fun b z => by cases z; exact nd⟩
theorem err_call {pins : List (Addr × Obj)} {σ : L2.St} {H1 : Hp} {Q : XK} {s : Shared} {k : Nat} {vs : List V} {us : List Value} (T : OexC X.K C) (iC : findIn X.K (.ref C) "__init__" = some (some (.ref fI))) (tI : typeIn X.K (.ref fI) = some (.type "function"))
    (IO : InitOk X.prog X.w X.K X.mg X.base C fI ns) (hr : Room (k + 1) X.A) (I1 : L2.Inv X pins σ H1 s) (r : Vals vs us) (hn : vs.length = ns.length) (hz : vs.length ≤ 1000)
    (q : ∀ d : Option Addr, (d = none → ns = []) → (∀ a, d = some a → H1 a = none) → Q (.ref C) d (match d with | none => H1 | some a => upd H1 a (.xd (ns.zip vs)))) :
    wpAny (model X.prog X.w) X.A (call (.ref C) us) (MkP X pins σ Q) X.xe s := by
  obtain ⟨nm, qn, N, bs, bm, sn, sub, ab, col, dd, k0, k1, k2, k3, k5, hC, hbm⟩ := T.cls
  obtain ⟨hp, g, dr, tk, os⟩ := s
  have hget : ((hp.push (kdv_tup us)).push (PySem.HandSPX.excO C hp.objs.size)).get? (hp.objs.size + 1) = some (PySem.HandSPX.excO C hp.objs.size) := by heap_get
  have kk : ∀ b o, hp.get? b = some o → ((hp.push (kdv_tup us)).push (PySem.HandSPX.excO C hp.objs.size)).get? b = some o := fun b o z => Heap.get?_push_of_some _ (Heap.get?_push_of_some _ z)
  have hus : us.length ≤ sizeLine := by
    rw [← Paired.length r, sizeLine_eq]
    omega
  have up : hp.objs.size ≤ ((hp.push (kdv_tup us)).push (PySem.HandSPX.excO C hp.objs.size)).objs.size := by
    rw [Heap.size_push, Heap.size_push]
    omega
  have hb : X.base.get? (hp.objs.size + 1) = none := by
    cases z : X.base.get? (hp.objs.size + 1) with
    | none => rfl
    | some o =>
      have : hp.objs.size + 1 < hp.objs.size := Heap.lt_size (I1.bk _ _ z)
      omega
  refine wpAny_call (PySem.HandSPX.call_own PySem.F.excBase_ValueError (fun Y => PySem.HandSPX.refsVE_contains Y bm hbm) (I1.kIn _ _ hC) (looks_findIn I1.kIn iC) (fun me => bind_fn I1.kIn me tI) hus ?_)
  refine IO _ _ (hp.objs.size + 1) us _ (by rw [← Paired.length r, hn]) I1.mod (fun b o z => kk b o (I1.bk b o z)) hb ⟨_, hget⟩ (hr.make C us []).depth fun dx h' tk' hk E => ?_
  refine ⟨rfl, ?_⟩
  show MkP X pins σ Q (.ref (hp.objs.size + 1)) _
  exact err_end (dx := dx) (raises_own T.exC T.tyC) I1 (Nat.le_succ _) (fun b o z => hk b o (Nat.ne_of_lt (Nat.lt_succ_of_lt (Heap.lt_size z))) (kk b o z)) r hn (by
    cases dx with
    | none => exact E
    | some d => exact ⟨Nat.le_trans up E.1, E.2⟩) q
theorem pmk_err {k : Nat} (T : OexC X.K C) (iC : findIn X.K (.ref C) "__init__" = some (some (.ref fI))) (tI : typeIn X.K (.ref fI) = some (.type "function")) (IO : InitOk X.prog X.w X.K X.mg X.base C fI ns) (hr : Room (k + 1) X.A)
    (hg : Gl X x) (hm : X.mg x = some (.ref C)) (ha : PA X (e :: es) ta) (hdb : (x == ("__debug__" : Str)) = false := by decide) (he : starEach (e :: es) X.env = (false, eval e X.env) :: starEach es X.env := by rfl) (hpl : (backTo pos (starEach es X.env)).any (·.1) = false := by rfl) :
    PMk X (.Call (.Name x p) (e :: es) [] pos) (tErr C ns ta) := by
  intro pins s σ H Q I h
  refine wpAny_Call_Name_kw (ld_glob I hg hm ?_ hdb)
  refine callWith_K (h₀ := X.base) I.ok.mod.kin T.kC (thn (ha.run pos pins s σ H _ I h) fun us s1 ⟨vs, H1, I1, r, hn, hz, q⟩ => ⟨I1.kIn, ?_⟩) he hpl
  exact err_call T iC tI IO hr I1 r hn hz q
/-- C() -/
theorem pmk_err0 {k : Nat} (T : OexC X.K C) (iC : findIn X.K (.ref C) "__init__" = some (some (.ref fI))) (tI : typeIn X.K (.ref fI) = some (.type "function")) (IO : InitOk X.prog X.w X.K X.mg X.base C fI []) (hr : Room (k + 1) X.A)
    (hg : Gl X x) (hm : X.mg x = some (.ref C)) (hdb : (x == ("__debug__" : Str)) = false := by decide) : PMk X (.Call (.Name x p) [] [] pos) (tErr C [] tNil) := by
  intro pins s σ H Q I h
  refine wpAny_Call_Name_kw (ld_glob I hg hm ?_ hdb)
  obtain ⟨hn, hz, q⟩ := h
  exact callWith_K0 (s := s) I.kIn T.kC (err_call T iC tI IO hr I .nil hn hz q)
end
end DL
end

section
set_option Elab.async false
set_option linter.all false
set_option maxRecDepth 100000
set_option maxHeartbeats 4000000
/-! ED: raise C(e, ..). -/
namespace DL
open PySem PyProof.Rows
open L2 hiding St
theorem rpF_zip {T : Th} {F : Hp} {al : Nat → Addr} {n : Nat} : ∀ {ns : List Str} {vs : List V} {ds : List D} (_ : RpL T F al n vs ds), RpF T F al n (ns.zip vs) (ns.zip ds)
  | [], _, _, _ => .nil
  | n :: ns, [], _, h => by cases h; exact .nil
  | n :: ns, v :: vs, _, h => by
    cases h with
    | cons h1 h2 => exact .cons h1 (rpF_zip h2)
theorem rpL_len {T : Th} {F : Hp} {al : Nat → Addr} {n : Nat} : ∀ {vs : List V} {ds : List D} (_ : RpL T F al n vs ds), vs.length = ds.length
  | [], _, h => by cases h; rfl
  | v :: vs, _, h => by
    cases h with
    | cons h1 h2 => rw [List.length_cons, List.length_cons, rpL_len h2]
section
variable {X : Cx} {cl : Nat → Addr} {W : WX} {n : En} {es : List PySem.Expr} {e : PySem.Expr} {x : Str} {p pos pos' : Pos} {C fI : Addr} {ns : List Str} {g : LF} {c : Nat}
end
end DL
end

section
set_option Elab.async false
set_option linter.all false
set_option maxRecDepth 100000
set_option maxHeartbeats 4000000
/-! EE: what the three kinds of __init__ keep, as InitOk. -/
namespace DL
open PySem PySem.W PySem.Calls PyProof.Rows
open L2 hiding St
section
variable {prog : Program} {w : World} {base : Heap} {mg : Str → Option Value} {K : Frag}
variable {C Dc f cc cda : Addr} {name qual me : Str} {params : Arguments} {scope : Scope} {dV kV doc pm ct oc : Value} {an od : Option Addr} {osl : Array (Option Value)} {B i newId : String} {bmB : List Value}
theorem init0_ok {p0 p1 ap pc pe : Pos} {pl : Sem Bool}
    (Fm : FrmD K f cc cda name qual params [.Expr (.Call (.Attribute (.Call (.Name "super" p0) [] [] p1) "__init__" ap) [] [] pc) pe] scope dV kV doc pm ct oc an od osl)
    (S : SupD prog K mg C Dc f cc cda (ksFn name qual params [.Expr (.Call (.Attribute (.Call (.Name "super" p0) [] [] p1) "__init__" ap) [] [] pc) pe] scope dV kV doc pm an (.ref cda) ct cc) scope me)
    (SB : SupB K C Dc B i newId bmB)
    (hbind : ∀ (s : Shared) (x : Addr), BindsTo s (ksFn name qual params [.Expr (.Call (.Attribute (.Call (.Name "super" p0) [] [] p1) "__init__" ap) [] [] pc) pe] scope dV kV doc pm an (.ref cda) ct cc) ⟨[.ref x], []⟩ [(me, .ref x)])
    (hev : ∀ L, eval (.Call (.Attribute (.Call (.Name "super" p0) [] [] p1) "__init__" ap) [] [] pc) (ksEnv qual scope L f (.ref cda) cc) = (do
      let ov ← attributeBase (.Call (.Name "super" p0) [] [] p1) "__init__" (ksEnv qual scope L f (.ref cda) cc) (eval (.Call (.Name "super" p0) [] [] p1) (ksEnv qual scope L f (.ref cda) cc))
      standAt ap.atName
      let (g, first) ← holding [ov] (getMethod ov "__init__" pl)
      callWith pc g first (backTo pc (starEach [] (ksEnv qual scope L f (.ref cda) cc))) []))
    (hin : ∀ L, interactive (ksEnv qual scope L f (.ref cda) cc) = false)
    (hs1 : ∀ L, swapsWith (.Call (.Attribute (.Call (.Name "super" p0) [] [] p1) "__init__" ap) [] [] pc) none pe.line (ksEnv qual scope L f (.ref cda) cc) = pure false) :
    InitOk prog w K mg base C f [] := fun A s x us R hl M kb hx e0 hr k => match us, hl with
  | [], _ => init0 Fm S SB M kb hx e0 hr (hbind s x) hev hin hs1 (fun h' tk kk e => k none h' tk kk ⟨rfl, e⟩)
theorem init1_ok {a nm : Str} {p0 p1 ap pc pe q1 q2 q3 q4 q5 : Pos} {pl : Sem Bool}
    (Fm : FrmD K f cc cda name qual params [.Expr (.Call (.Attribute (.Call (.Name "super" p0) [] [] p1) "__init__" ap) [.Name a q1] [] pc) pe, .Assign [.Attribute (.Name me q2) nm q3] (.Name a q4) q5] scope dV kV doc pm ct oc an od osl)
    (S : SupD prog K mg C Dc f cc cda (ksFn name qual params [.Expr (.Call (.Attribute (.Call (.Name "super" p0) [] [] p1) "__init__" ap) [.Name a q1] [] pc) pe, .Assign [.Attribute (.Name me q2) nm q3] (.Name a q4) q5] scope dV kV doc pm an (.ref cda) ct cc) scope me)
    (SB : SupB K C Dc B i newId bmB) (D : StoD K C)
    (hbind : ∀ (s : Shared) (x : Addr) (u : Value), BindsTo s (ksFn name qual params [.Expr (.Call (.Attribute (.Call (.Name "super" p0) [] [] p1) "__init__" ap) [.Name a q1] [] pc) pe, .Assign [.Attribute (.Name me q2) nm q3] (.Name a q4) q5] scope dV kV doc pm an (.ref cda) ct cc) ⟨[.ref x, u], []⟩ [(me, .ref x), (a, u)])
    (la : scope.names.lookup a = some .local) (ham : a ≠ me) (da : (a == ("__debug__" : Str)) = false) (dm : (me == ("__debug__" : Str)) = false) (hn : findIn K (.ref C) nm = some none)
    (hev : ∀ L, eval (.Call (.Attribute (.Call (.Name "super" p0) [] [] p1) "__init__" ap) [.Name a q1] [] pc) (ksEnv qual scope L f (.ref cda) cc) = (do
      let ov ← attributeBase (.Call (.Name "super" p0) [] [] p1) "__init__" (ksEnv qual scope L f (.ref cda) cc) (eval (.Call (.Name "super" p0) [] [] p1) (ksEnv qual scope L f (.ref cda) cc))
      standAt ap.atName
      let (g, first) ← holding [ov] (getMethod ov "__init__" pl)
      callWith pc g first (backTo pc (starEach [.Name a q1] (ksEnv qual scope L f (.ref cda) cc))) []))
    (hst : ∀ L, starEach [.Name a q1] (ksEnv qual scope L f (.ref cda) cc) = [(false, eval (.Name a q1) (ksEnv qual scope L f (.ref cda) cc))])
    (hin : ∀ L, interactive (ksEnv qual scope L f (.ref cda) cc) = false)
    (hs1 : ∀ L, swapsWith (.Call (.Attribute (.Call (.Name "super" p0) [] [] p1) "__init__" ap) [.Name a q1] [] pc) none pe.line (ksEnv qual scope L f (.ref cda) cc) = pure false)
    (hs2 : ∀ L, swapsWith (.Name a q4) (some (.Attribute (.Name me q2) nm q3)) q5.line (ksEnv qual scope L f (.ref cda) cc) = pure false) :
    InitOk prog w K mg base C f [nm] := fun A s x us R hl M kb hx e0 hr k => match us, hl with
  | [u], _ => init1 Fm S SB D M kb hx e0 hr (hbind s x u) la ham da dm hn hev hst hin hs1 hs2 (fun dx h' tk kk up ne ed => k (some dx) h' tk kk ⟨up, ne, _, ed, fun f => by
      show _ = ([(nm, u)] : List (Str × Value)).lookup f
      by_cases e : f = nm
      · subst e; simp [List.lookup]
      · simp [List.lookup, e, show (f == nm) = false by simpa using e]⟩)
theorem init2_ok {a b nm nm2 : Str} {p0 p1 ap pc pe q1 q2 q3 q4 q5 r1 r2 r3 r4 r5 : Pos} {pl : Sem Bool}
    (Fm : FrmD K f cc cda name qual params [.Expr (.Call (.Attribute (.Call (.Name "super" p0) [] [] p1) "__init__" ap) [.Name a q1, .Name b r1] [] pc) pe, .Assign [.Attribute (.Name me q2) nm q3] (.Name a q4) q5, .Assign [.Attribute (.Name me r2) nm2 r3] (.Name b r4) r5] scope dV kV doc pm ct oc an od osl)
    (S : SupD prog K mg C Dc f cc cda (ksFn name qual params [.Expr (.Call (.Attribute (.Call (.Name "super" p0) [] [] p1) "__init__" ap) [.Name a q1, .Name b r1] [] pc) pe, .Assign [.Attribute (.Name me q2) nm q3] (.Name a q4) q5, .Assign [.Attribute (.Name me r2) nm2 r3] (.Name b r4) r5] scope dV kV doc pm an (.ref cda) ct cc) scope me)
    (SB : SupB K C Dc B i newId bmB) (D : StoD K C)
    (hbind : ∀ (s : Shared) (x : Addr) (u v : Value), BindsTo s (ksFn name qual params [.Expr (.Call (.Attribute (.Call (.Name "super" p0) [] [] p1) "__init__" ap) [.Name a q1, .Name b r1] [] pc) pe, .Assign [.Attribute (.Name me q2) nm q3] (.Name a q4) q5, .Assign [.Attribute (.Name me r2) nm2 r3] (.Name b r4) r5] scope dV kV doc pm an (.ref cda) ct cc) ⟨[.ref x, u, v], []⟩ [(me, .ref x), (a, u), (b, v)])
    (la : scope.names.lookup a = some .local) (ham : a ≠ me) (da : (a == ("__debug__" : Str)) = false) (dm : (me == ("__debug__" : Str)) = false) (hn : findIn K (.ref C) nm = some none)
    (lb : scope.names.lookup b = some .local) (hbm : b ≠ me) (hba : b ≠ a) (db : (b == ("__debug__" : Str)) = false) (hnn : nm ≠ nm2) (hn2 : findIn K (.ref C) nm2 = some none)
    (hev : ∀ L, eval (.Call (.Attribute (.Call (.Name "super" p0) [] [] p1) "__init__" ap) [.Name a q1, .Name b r1] [] pc) (ksEnv qual scope L f (.ref cda) cc) = (do
      let ov ← attributeBase (.Call (.Name "super" p0) [] [] p1) "__init__" (ksEnv qual scope L f (.ref cda) cc) (eval (.Call (.Name "super" p0) [] [] p1) (ksEnv qual scope L f (.ref cda) cc))
      standAt ap.atName
      let (g, first) ← holding [ov] (getMethod ov "__init__" pl)
      callWith pc g first (backTo pc (starEach [.Name a q1, .Name b r1] (ksEnv qual scope L f (.ref cda) cc))) []))
    (hst : ∀ L, starEach [.Name a q1, .Name b r1] (ksEnv qual scope L f (.ref cda) cc) = (false, eval (.Name a q1) (ksEnv qual scope L f (.ref cda) cc)) :: starEach [.Name b r1] (ksEnv qual scope L f (.ref cda) cc))
    (hst2 : ∀ L, starEach [.Name b r1] (ksEnv qual scope L f (.ref cda) cc) = [(false, eval (.Name b r1) (ksEnv qual scope L f (.ref cda) cc))])
    (hin : ∀ L, interactive (ksEnv qual scope L f (.ref cda) cc) = false)
    (hs1 : ∀ L, swapsWith (.Call (.Attribute (.Call (.Name "super" p0) [] [] p1) "__init__" ap) [.Name a q1, .Name b r1] [] pc) none pe.line (ksEnv qual scope L f (.ref cda) cc) = pure false)
    (hs2 : ∀ L, swapsWith (.Name a q4) (some (.Attribute (.Name me q2) nm q3)) q5.line (ksEnv qual scope L f (.ref cda) cc) = pure false)
    (hs3 : ∀ L, swapsWith (.Name b r4) (some (.Attribute (.Name me r2) nm2 r3)) r5.line (ksEnv qual scope L f (.ref cda) cc) = pure false) :
    InitOk prog w K mg base C f [nm, nm2] := fun A s x us R hl M kb hx e0 hr k => match us, hl with
  | [u, v], _ => init2 Fm S SB D M kb hx e0 hr (hbind s x u v) la ham da dm hn lb hbm hba db hn2 hev hst hst2 hin hs1 hs2 hs3 (fun dx h' tk kk up ne ed => k (some dx) h' tk kk ⟨up, ne, _, ed, fun f => by
      show _ = ([(nm, u), (nm2, v)] : List (Str × Value)).lookup f
      by_cases e : f = nm
      · subst e
        simp [List.lookup, hnn]
      · by_cases e2 : f = nm2
        · subst e2
          simp [List.lookup, show (f == nm) = false by simpa using e]
        · simp [List.lookup, e, e2, show (f == nm) = false by simpa using e, show (f == nm2) = false by simpa using e2]⟩)
end
end DL
end

section
set_option Elab.async false
set_option linter.all false
set_option maxRecDepth 100000
set_option maxHeartbeats 4000000
/-! EF: enumerate of a tuple, at the level of the hand layer. -/
namespace DL
open PySem PySem.Spec PyProof.Rows L2
theorem meets_enum1 {v : Value} {o : Obj} {H : Heap → Prop} (B : Begins v o H) :
    Meets (Builtin.«enumerate.__new__» ⟨[.type "enumerate", v], []⟩) (fun _ R s => H s.heap ∧
      R (.ok (.ret (.ref (s.heap.push o).objs.size))) { s with heap := (s.heap.push o).push { cls := .type "enumerate", data := .fields #[.none, .bool false, .ref s.heap.objs.size, rawInt 0, .none, .none] } }) :=
  .of_wp fun prog w A R s h => by
    obtain ⟨hp, g, d, tk, os⟩ := s; obtain ⟨h1, h⟩ := h
    have hsub := sub_enumerate
    have q1 : ∀ {A' : Around} {E : Value → Shared → Prop} {Q : Value → Shared → Prop}, Q (.ref hp.objs.size) ⟨hp.push o, g, d, tk, os⟩ → wpAny (model prog w) A' (pyIter v) Q E ⟨hp, g, d, tk, os⟩ :=
      fun q => B.iter prog w _ _ ⟨hp, g, d, tk, os⟩ _ h1 q
    wp_walk using q1
    refine wpAny_stack_any fun st => wpAny_pure ?_
    split
    · rename_i c _ _ _ _ _
      cases (c == Value.type "enumerate")
      · wp_walk using q1
        exact ⟨_, rfl, h⟩
      · wp_walk using q1
        exact ⟨_, rfl, h⟩
    · wp_walk using q1
      exact ⟨_, rfl, h⟩
section
variable {prog : Program} {w : World} {A : Around} {E : Value → Shared → Prop} {s : Shared}
/-- enumerate(v): its two new cells -/
theorem call_enum1 {v : Value} {o : Obj} {H : Heap → Prop} {Q : Value → Shared → Prop} (B : Begins v o H) (h1 : H s.heap)
    (h : ∀ h', IsEnum h' (s.heap.objs.size + 1) s.heap.objs.size 0 .none → h'.get? s.heap.objs.size = some o → h'.objs.size = s.heap.objs.size + 2 →
      (∀ b o, s.heap.get? b = some o → h'.get? b = some o) → Q (.ref (s.heap.objs.size + 1)) { s with heap := h' }) :
    wpAny (model prog w) A (call (.type "enumerate") [v]) Q E s := by
  refine callType_new F.called_enumerate (by decide) (F.typeCall_enumerate_1 _) (F.newCall_enumerate_1 _) (fun obj => F.args_object_init_2 obj _) F.entry_enumerate_new
    (meets_enum1 B) ⟨h1, ?_⟩
  have hz : (s.heap.push o).objs.size = s.heap.objs.size + 1 := Heap.size_push ..
  show _ ∧ _
  rw [hz]
  have he : IsEnum ((s.heap.push o).push { cls := .type "enumerate", data := .fields #[.none, .bool false, .ref s.heap.objs.size, rawInt 0, .none, .none] }) (s.heap.objs.size + 1) s.heap.objs.size 0 .none := by
    have := Heap.get?_push_size (s.heap.push o) (o := { cls := .type "enumerate", data := .fields #[.none, .bool false, .ref s.heap.objs.size, rawInt 0, .none, .none] }) rfl
    rw [hz] at this; exact this
  refine ⟨⟨_, he, rfl⟩, h _ he (Heap.get?_push_of_some _ (Heap.get?_push_size _ B.free)) (by rw [Heap.size_push, hz]) fun b o x => Heap.get?_push_of_some _ (Heap.get?_push_of_some _ x)⟩
theorem enum_endT {e it t : Addr} {i : Nat} {items : Array Value} {old : Value} {Q : Option Value → Shared → Prop} (hh : A.handled = none)
    (he : IsEnum s.heap e it i old) (hit : s.heap.IsTupleIter it t i) (hl : s.heap.IsTuple t items) (hx : items[i]? = none)
    (hQ : ∀ h', Heap.ExtBut it s.heap h' → Q none { s with heap := h' }) : wpAny (model prog w) A (pyNext (.ref e)) Q E s := by
  have hT : s.TypeIs (.ref e) "enumerate" := ⟨_, he, rfl⟩
  unfold pyNext
  refine wpAny_bind (wpAny_attempt (wpAny_callSpecial?_slot (name := Str.ofString "__next__") hT F.slot_enumerate_next
    (wpAny_call_entry F.slot_enumerate_next hT F.entry_enumerate_next ?_ (F.args_enumerate_next_1 _))))
  show wpAny _ _ (field (.ref e) 2 >>= _) _ _ _
  refine wpAny_bind (wpAny_field he rfl (x := .ref it) rfl ?_)
  refine wpAny_bind (wpAny_nextOf_tuple_end hh hit hl hx fun h' x he' hx' => ?_)
  obtain ⟨o, ho, hc⟩ := hx'
  refine wpAny_bind (wpAny_isInstance (T := "StopIteration") (b := true) ⟨o, ho, hc⟩ isSubtype_stop ?_)
  exact wpAny_pure (hQ _ he')
end
/-- the tuple at a as it stands at each turn, each item in a new pair -/
def IteT (K : PySem.W.Frag) (a : Addr) : It :=
  ⟨fun i H => ∃ (xs : List V) (x : V), SqT K H a xs ∧ xs[i]? = some x, fun i H v H' => ∃ T x, v = .ref T ∧ H T = none ∧ H' = upd H T (.tup [.int (i : Nat), x]) ∧ ∀ xs, SqT K H a xs → xs[i]? = some x, fun i H => ∃ xs : List V, SqT K H a xs ∧ xs.length ≤ i⟩
theorem turn_enumT {P : Program} {w : World} {K : PySem.W.Frag} {elts : List Expr} {kk : Nat} {tpos : Pos} (a e it : Addr) :
    Turn P w K (.Tuple elts kk tpos) (IteT K a) [e, it] e (fun i h => (∃ old, IsEnum h e it ((i : Nat) : Int) old) ∧ h.IsTupleIter it a i ∧ e ≠ it ∧ a ≠ it ∧ e ≠ a) where
  mem := by simp
  obj := fun i h st b hb => by
    obtain ⟨⟨old, he⟩, ⟨o, ho, hc, hd⟩, _⟩ := st
    have e' : b = e ∨ b = it := by simpa using hb
    rcases e' with z | z
    · rw [z]; exact ⟨_, he, fun v q => nomatch q⟩
    · rw [z]; exact ⟨o, ho, fun v q => by rw [hd] at q; cases q⟩
  keep := fun i h h' st k => let ⟨⟨old, he⟩, hi, hne⟩ := st; ⟨⟨old, k e (by simp) _ he⟩, hi.at fun o q => k it (by simp) o q, hne⟩
  item := by
    intro X hP hw hK hc i pins s σ H E I hf st hg
    subst hP hw hK
    obtain ⟨⟨old, he⟩, hit, hne, hat, hea⟩ := st
    obtain ⟨xs, x, hq, hx⟩ := hg
    obtain ⟨its, rv, p, hz⟩ := I.tuple hq
    obtain ⟨u, hu, ru⟩ := rv.get hx
    have hel : e < s.heap.objs.size := Heap.lt_size he
    have hil : it < s.heap.objs.size := by obtain ⟨_, q, _⟩ := hit; exact Heap.lt_size q
    have hil' : i < its.length := (List.getElem?_eq_some_iff.mp hu).1
    refine wpAny_pyNext_enum_itemD (Draws.tuple (show X.A.in1.handled = none from I.ok.hd hc) it a hat its.toArray) he ⟨hit, p⟩ (by simpa using hil') hne (by simp; exact ⟨hne, hea⟩) fun x' h' tk hx' ho st' hT hsz hk => ?_
    have ex : x' = u := by
      have : its.toArray[i]? = some u := by simpa using hu
      rw [this] at hx'; exact (Option.some.inj hx').symm
    subst ex
    refine ⟨_, rfl, wpAny_letOwnedTupleGo_enum (s := { s with heap := h', toks := tk + 1 }) ho fun h'' he' sb => ?_⟩
    have hT2 : h''.get? s.heap.objs.size = some { cls := .type "tuple", data := .seq #[.int i tk, x'] } := (sb.2 _ (Nat.ne_of_gt hel)).trans hT
    have new : ObjOk X.prog X.w (upd H s.heap.objs.size (.tup [.int (i : Nat), x])) h'' s.heap.objs.size (.tup [.int (i : Nat), x]) :=
      ⟨by show 2 ≤ sizeLine; decide, [.int i tk, x'], .cons ⟨_, rfl⟩ (.cons ru .nil), ⟨_, hT2, rfl, _, rfl⟩⟩
    have I1 : Inv X pins σ (upd H s.heap.objs.size (.tup [.int (i : Nat), x])) { s with heap := h'', toks := tk + 1 } :=
      I.turnedNew (ch := [e, it]) (fun b ob hb q => (sb.2 b (fun z => hb (by simp [z]))).trans (hk b ob (fun z => hb (by simp [z])) (fun z => hb (by simp [z])) q)) hf (Nat.le_refl _) new
    refine ⟨.ref s.heap.objs.size, _, I1, rfl, ⟨_, x, rfl, I.hok.fresh (Nat.le_refl _), rfl, fun ys hy => by rw [I.tuple_inj hy hq]; exact hx⟩, ⟨⟨x', ?_⟩, st'.1.at fun o q => (sb.2 it (Ne.symm hne)).trans q, hne, hat, hea⟩, fun b hb => ?_⟩
    · have e1 : ((i + 1 : Nat) : Int) = (i : Int) + 1 := by omega
      rw [e1]; exact he'
    · have hb' : b < s.heap.objs.size := by
        have e' : b = e ∨ b = it := by simpa using hb
        rcases e' with z | z
        · rw [z]; exact hel
        · rw [z]; exact hil
      rw [upd_ne (Nat.ne_of_lt hb')]
      exact (hf b hb).1
  done := by
    intro X hP hw hK hc i pins s σ H E I hf st hg
    subst hP hw hK
    obtain ⟨⟨old, he⟩, hit, hne, hat, hea⟩ := st
    obtain ⟨xs, hq, hx⟩ := hg
    obtain ⟨its, rv, p, hz⟩ := I.tuple hq
    obtain ⟨f0, f1, f2, f3, f4, f5⟩ := hf it (by simp)
    have hl := rv.length
    exact enum_endT (I.ok.hd hc) he hit p (by simp; omega) fun h' eb => ⟨rfl, I.turned (t' := s.toks) (fun b o hb q => eb b o hb q) f0 f1 f3 f4 f5⟩
  self := fun A i s Q E st h => let ⟨⟨_, he⟩, _⟩ := st; wpAny_pyIter_enum he h
def iEnumT (K : PySem.W.Frag) (ta : TA) : TI := fun σ H R => ta σ H fun vs H1 => ∃ a xs, vs = [.ref a] ∧ ((SqL K H1 a xs ∧ R (Ite K a) H1) ∨ (SqT K H1 a xs ∧ R (IteT K a) H1))
theorem pi_enumA {X : Cx} {e : Expr} {ta : TA} {p pos tpos : Pos} {elts : List Expr} {kk : Nat} (hg : Gl X "enumerate") (hm : X.mg "enumerate" = none) (ha : PA X [e] ta) (hs : starEach [e] X.env = [(false, eval e X.env)] := by rfl) :
    PI X (.Tuple elts kk tpos) (.Call (.Name "enumerate" p) [e] [] pos) (iEnumT X.K ta) := by
  refine ⟨fun pins s σ H R I h => ?_⟩
  refine Call_ (ld_blt I hg hm boot_enumerate (PyProof.Rows.callWith_type1 (thn (ha.run pos pins s σ H _ I h) fun us s1 ⟨vs, H1, I1, r1, q1⟩ => ?_) hs rfl))
  obtain ⟨a, xs, ex, hq⟩ := q1
  subst ex
  cases r1 with
  | cons r rr =>
    cases rr
    cases r
    have fresh2 : ∀ b, b ∈ [s1.heap.objs.size + 1, s1.heap.objs.size] → FpOk X pins H1 b := fun b hb => by
      have e' : b = s1.heap.objs.size + 1 ∨ b = s1.heap.objs.size := by simpa using hb
      have hle : s1.heap.objs.size ≤ b := by
        rcases e' with z | z
        · rw [z]; exact Nat.le_add_right _ _
        · rw [z]; exact Nat.le_refl _
      exact I1.fpOk hle (I1.hok.fresh hle)
    rcases hq with ⟨hq, q⟩ | ⟨hq, q⟩
    · obtain ⟨its, rv, p', hz⟩ := I1.list hq
      refine call_enumerate_list p'.isList fun h' he hit hsz hk => wpAny_pyIter_enum he ?_
      have I2 : Inv X pins σ H1 { s1 with heap := h' } := I1.kept (t' := s1.toks) hk
      exact ⟨s1.heap.objs.size + 1, [s1.heap.objs.size + 1, s1.heap.objs.size], _, _, H1, rfl, I2, turn_enum a (s1.heap.objs.size + 1) s1.heap.objs.size, ⟨⟨.none, he⟩, hit, Nat.succ_ne_self _⟩, fresh2, q⟩
    · obtain ⟨its, rv, p', hz⟩ := I1.tuple hq
      have lt : a < s1.heap.objs.size := by obtain ⟨o, ho, _⟩ := p'; exact Heap.lt_size ho
      refine call_enum1 (begins_tuple a its.toArray) p' fun h' he hit hsz hk => wpAny_pyIter_enum he ?_
      have I2 : Inv X pins σ H1 { s1 with heap := h' } := I1.kept (t' := s1.toks) hk
      exact ⟨s1.heap.objs.size + 1, [s1.heap.objs.size + 1, s1.heap.objs.size], _, _, H1, rfl, I2, turn_enumT a (s1.heap.objs.size + 1) s1.heap.objs.size, ⟨⟨.none, he⟩, ⟨_, hit, rfl, rfl⟩, Nat.succ_ne_self _, Nat.ne_of_lt lt, Nat.ne_of_gt (Nat.lt_succ_of_lt lt)⟩, fresh2, q⟩
theorem walk_enumT {K : PySem.W.Frag} {a : Addr} {xs : List V} : Walk (IteT K a) xs.length (fun H => SqT K H a xs) (YPair (fun i => some (.int (i : Nat))) (fun i => xs[i]?)) := by
  refine ⟨fun i _ hi q => ⟨xs, xs[i], q, by simp [hi]⟩, fun _ q => ⟨xs, q, Nat.le_refl _⟩, fun i H v H' _ q y => ?_⟩
  obtain ⟨T, x, h1, h2, h3, h4⟩ := y
  exact ⟨T, .int (i : Nat), x, h1, h2, h3, rfl, h4 xs q⟩
end DL
end

section
set_option Elab.async false
set_option linter.all false
set_option maxRecDepth 100000
set_option maxHeartbeats 4000000
/-! EG: enumerate, zip, star displays, min and max, three names at once. -/
namespace DL
open PySem L2
def dEnumQ (f : EF) : LF := dBind f fun d _ mu => match d with
  | .lst l => .ok (numD 0 l) mu
  | .tup l => .ok (numD 0 l) mu
  | _ => .bad
section
variable {X : Cx} {cl : Nat → Addr} {W : WX} {n : En} {a b c e : PySem.Expr} {es : List PySem.Expr} {f fa fb fc : EF} {g : LF} {pos p1 sp : Pos}
theorem di_enumQ {elts : List PySem.Expr} {kk : Nat} {tpos : Pos} (hg : Gl X "enumerate") (hm : X.mg "enumerate" = none) (h : DE X cl W e f) (hs : starEach [e] X.env = [(false, eval e X.env)] := by rfl) : DI X cl W (.Tuple elts kk tpos) (.Call (.Name "enumerate" p1) [e] [] pos) (dEnumQ f) :=
  PI.imp (pi_enumA hg hm (pa_cons h pa_nil hs) hs) fun σ H R q => by
    obtain ⟨F, al, sl, mu, w, po⟩ := q
    refine seqG back_RI w po rfl fun v d F1 al1 mu1 H1 x1 w1 r1 po1 => ?_
    have key : ∀ {xs : List V} {ds : List D} {J : It}, RpL (Cx.th X cl) F1 al1 mu1.length xs ds → ∀ {G : Hp → Prop}, Walk J xs.length G (YPair (fun i => some (.int (i : Nat))) (fun i => xs[i]?)) →
        (∀ (F' H' : Hp), (∀ a o, F1 a = some o → F' a = some o) → (∀ a o, F' a = some o → H' a = some o) → G H') → RI (Cx.th X cl) H F1 al1 mu1 H1 J (numD 0 ds) := fun {xs ds J} hl {G} wk hG =>
      ⟨G, _, by rw [numD_len, ← RpL.len hl]; exact wk, hG, fun F' al' mu' H' i x H2 g m hi y => by
        obtain ⟨T, u, y', rfl, hT, rfl, e1, e2⟩ := y
        cases e1
        obtain ⟨d, h1, h2⟩ := gr_at g hl e2
        refine ⟨.tup [.int ((0 + i : Nat) : Int), d], _, by rw [numD_get, h1]; rfl, Ext.laidF m hT, .tup upd_same (.cons ?_ (.cons ((Ext.laidF m hT).rp h2) .nil))⟩
        rw [Nat.zero_add]
        exact .int _⟩
    cases r1 with
    | @lst a xs ds ha hl => exact ⟨a, xs, rfl, .inl ⟨SqL.of (w1.sub _ _ ha), Po.here po1 w1.toMus (key hl walk_enum fun F' H' s1 s2 => SqL.of (s2 _ _ (s1 _ _ ha)))⟩⟩
    | @tup a xs ds ha hl => exact ⟨a, xs, rfl, .inr ⟨sqT_mono w1.sub ha, Po.here po1 w1.toMus (key hl walk_enumT fun F' H' s1 s2 => sqT_mono s2 (s1 _ _ ha))⟩⟩
    | _ => exact False.elim po1
def seqL : D → Option (List D)
  | .lst l => some l
  | .tup l => some l
  | _ => none
/-- a, b, c = x, y, z -/
def sPar3 (i j l : Nat) (fa fb fc : EF) : SF := fun sl mu => sbind (fa sl mu) sl fun d mu => sbind (fb sl mu) sl fun e mu => sbind (fc sl mu) sl fun h mu => .nx (((sl.set i (some (.val d))).set j (some (.val e))).set l (some (.val h))) mu
theorem ds_par3 {i j l : Nat} {x y z : Str} {px py pz pt : Pos} {kt k2 : Nat} {pt2 : Pos} (hc : X.calm = true) (hN : X.N.Nodup) (hi : X.N[i]? = some x) (hj : X.N[j]? = some y) (hl : X.N[l]? = some z) (hij : i ≠ j) (hil : i ≠ l) (hjl : j ≠ l)
    (hx : X.env.scope.names.lookup x = some .local) (hy : X.env.scope.names.lookup y = some .local) (hz : X.env.scope.names.lookup z = some .local) (ha : DE X cl W a fa) (hb : DE X cl W b fb) (hcc : DE X cl W c fc)
    (hst : starEach [a, b, c] X.env = (false, eval a X.env) :: starEach [b, c] X.env := by rfl) (hst2 : starEach [b, c] X.env = (false, eval b X.env) :: starEach [c] X.env := by rfl) (hst3 : starEach [c] X.env = (false, eval c X.env) :: starEach [] X.env := by rfl)
    (hw : swappedStores [.Tuple [.Name x px, .Name y py, .Name z pz] kt pt] (.Tuple [a, b, c] k2 pt2) X.env = pure (some [x, y, z]) := by rfl) (hs : swapsWithSole [.Tuple [.Name x px, .Name y py, .Name z pz] kt pt] (.Tuple [a, b, c] k2 pt2) pos.line X.env = pure false := by rfl) :
    DS X cl W n (.Assign [.Tuple [.Name x px, .Name y py, .Name z pz] kt pt] (.Tuple [a, b, c] k2 pt2) pos) (sPar3 i j l fa fb fc) :=
  PS.imp (L2.ps_par3 hc hN hi hj hl hij hil hjl hx hy hz (pa_cons ha (pa_cons hb (pa_cons hcc pa_nil hst3) hst2) hst) hw hs) fun Z σ H q => by
    obtain ⟨F, al, sl, mu, w, po⟩ := q
    refine seqS w po rfl fun v d F1 al1 mu1 H1 x1 w1 r1 po1 => ?_
    refine seqS w1 po1 rfl fun u e F2 al2 mu2 H2 x2 w2 r2 po2 => ?_
    refine seqS w2 po2 rfl fun t h F3 al3 mu3 H3 x3 w3 r3 po3 => ?_
    exact ⟨v, u, t, rfl, PoS.nx po3 (((w3.setVal (x3.rp (x2.rp r1))).setVal (x3.rp r2)).setVal r3)⟩
end
end DL
end

section
set_option Elab.async false
set_option linter.all false
set_option maxRecDepth 100000
set_option maxHeartbeats 4000000
/-! EH: the facts of own error classes, told by a Hook of their own. -/
namespace DL
open PySem PySem.W PyProof.Rows
/-! ### one error class: its __init__ -/
structure EDef where
  cls : Str
  qual : Str
  params : Arguments
  body : List Stmt
  scope : Scope
  ns : List Str
abbrev FnE : Type := Option (Str × Str × Arguments × FuncBody × Scope × Addr × List Str × Addr)
def iAd (K : Frag) (x : Str) : Addr := He.ma K (He.ga K x) "__init__"
def fnE (K : Frag) (x : Str) : FnE := match K.lookup (iAd K x) with
  | some ⟨_, _, .func fd, _⟩ => some (fd.name, fd.qualname, fd.params, fd.body, fd.scope, fd.globals, fd.closure.map (·.1), fd.builtins)
  | _ => none
def EDef.val (d : EDef) : FnE := some ("__init__", d.qual, d.params, .stmts d.body, d.scope, mainGlobals, ["__class__"], builtinsNs)
/-- the frame's bits: the code, the closure's cell -/
def initB (K : Frag) (d : EDef) (file : Str) : Bool := match K.lookup (iAd K d.cls) with
  | some ⟨_, _, .func fd, _⟩ => (match fd.code, fd.closure with
    | .ref cda, [(_, cc)] => codeIn K (.ref cda) d.qual && (match K.lookup cda with
        | some ⟨_, _, .fields vs, _⟩ => (match (vs[2]? : Option Value) with
          | some (Value.str z _) => file == z
          | _ => false)
        | _ => false) && (match K.lookup cc with
        | some ⟨_, _, .cell (some (.ref a)), _⟩ => a == He.ga K d.cls
        | _ => false) && (match fd.defaults with
        | .none => true
        | _ => false)
    | _, _ => false)
  | _ => false
structure InitF (K : Frag) (d : EDef) (file : Str) : Prop where
  ex : ∃ (cda cc : Addr) (kV doc pm ct oc : Value) (an od : Option Addr) (osl : Array (Option Value)),
    K.lookup (iAd K d.cls) = some ⟨oc, od, .func (ksFn "__init__" d.qual d.params d.body d.scope .none kV doc pm an (.ref cda) ct cc), osl⟩ ∧ codeIn K (.ref cda) d.qual = true ∧
    (∃ ccl cdd vs ccs z tf, K.lookup cda = some ⟨ccl, cdd, .fields vs, ccs⟩ ∧ vs[2]? = some (.str z tf) ∧ (file == z) = true) ∧ ∃ cl cld csl, K.lookup cc = some ⟨cl, cld, .cell (some (.ref (He.ga K d.cls))), csl⟩
theorem initF_of {K : Frag} {d : EDef} {file : Str} (e : fnE K d.cls = d.val) (c : initB K d file = true) : InitF K d file := by
  unfold fnE at e
  unfold initB at c
  cases q : K.lookup (iAd K d.cls) with
  | none => rw [q] at c; cases c
  | some o =>
    obtain ⟨oc, od, dt, osl⟩ := o
    rw [q] at c e
    cases dt with
    | func fd =>
      obtain ⟨n1, n2, n3, n4, n5, n6, n7, n8, n9, n10, n11, n12, n13, n14, n15⟩ := fd
      have e2 : (some (n1, n2, n3, n4, n5, n6, n7.map (·.1), n15) : FnE) = some (("__init__" : Str), d.qual, d.params, FuncBody.stmts d.body, d.scope, mainGlobals, [("__class__" : Str)], builtinsNs) := e
      simp only [Option.some.injEq, Prod.mk.injEq] at e2
      obtain ⟨h1, h2, h3, h4, h5, h6, h7, h8⟩ := e2
      subst h1 h2 h3 h4 h5 h6 h8
      dsimp only at c
      cases n13 with
      | ref cda =>
        obtain ⟨cc, rfl⟩ : ∃ cc, n7 = [(("__class__" : Str), cc)] := by
          cases n7 with
          | nil => cases h7
          | cons p r =>
            cases r with
            | nil =>
              obtain ⟨a, b⟩ := p
              simp at h7
              exact ⟨b, by rw [h7]⟩
            | cons _ _ => simp at h7
        dsimp only at c
        simp only [Bool.and_eq_true] at c
        obtain ⟨⟨⟨c1, c2⟩, c3⟩, c4⟩ := c
        cases n8 with
        | none =>
          refine ⟨cda, cc, n9, n10, n11, n14, oc, n12, od, osl, q, c1, ?_, ?_⟩
          · split at c2
            · rename_i vs _ hv
              split at c2
              · rename_i z _ hz
                exact ⟨_, _, vs, _, z, _, hv, hz, c2⟩
              · cases c2
            · cases c2
          · split at c3
            · rename_i a _ ha
              have : a = He.ga K d.cls := by simpa using c3
              subst this
              exact ⟨_, _, _, ha⟩
            · cases c3
        | _ => cases c4
      | _ => cases c
    | _ => cases c
/-! ### the class -/
def clsB (K : Frag) (C : Addr) : Bool := match K.lookup C with
  | some ⟨.type t, _, .cls cd, sl⟩ => (match cd.mro, sl.toList with
    | .ref C' :: bm, [_, _, _, _, some (.builtin n), _] => t == "type" && C' == C && n == "ValueError.__new__" && !cd.hasDel && cd.hasDict && HandSPX.refsVE bm
    | _, _ => false)
  | _ => false
def oexB (K : Frag) (C : Addr) : Bool := clsB K C && He.eqO (findIn K (.ref C) "__setattr__") (some (some (.builtin "object.__setattr__"))) && decide (subIn K (.ref C) (.type "BaseException") = some true) && decide (typeIn K (.ref C) = some (.type "type")) && keepIn K (.ref C)
theorem oexB_ok {K : Frag} {C : Addr} (h : oexB K C = true) : L2.OexC K C ∧ StoD K C := by
  unfold oexB at h
  simp only [Bool.and_eq_true] at h
  obtain ⟨⟨⟨⟨h1, h2⟩, h3⟩, h4⟩, h5⟩ := h
  have key : ∃ nm q N bs bm sn sub ab col dd k0 k1 k2 k3 k5, K.lookup C = some (excClassObj nm q C N bs bm true sn sub ab col dd k0 k1 k2 k3 k5 "ValueError.__new__") ∧ HandSPX.refsVE bm = true := by
    unfold clsB at h1
    split at h1
    · rename_i t dd cd sl ho
      split at h1
      · rename_i C' bm k0 k1 k2 k3 n k5 hm hs
        simp only [Bool.and_eq_true, beq_iff_eq, Bool.not_eq_true'] at h1
        obtain ⟨⟨⟨⟨⟨rfl, rfl⟩, rfl⟩, hdel⟩, hdict⟩, ht⟩ := h1
        obtain ⟨nm, bs, mro, ns, qn, hd, sn, sub, ab, col, del⟩ := cd
        dsimp only at hm hdel hdict
        subst hm hdel hdict
        have hsl : sl = #[k0, k1, k2, k3, some (.builtin "ValueError.__new__"), k5] := by
          obtain ⟨l⟩ := sl
          simp only at hs
          rw [hs]
        subst hsl
        exact ⟨nm, qn, ns, bs, bm, sn, sub, ab, col, dd, k0, k1, k2, k3, k5, ho, ht⟩
      · cases h1
    · cases h1
  refine ⟨⟨key, He.eqO_ok h2, of_decide_eq_true h3, of_decide_eq_true h4, h5⟩, ?_, He.eqO_ok h2⟩
  obtain ⟨nm, q, N, bs, bm, sn, sub, ab, col, dd, k0, k1, k2, k3, k5, ho, hb⟩ := key
  refine ⟨_, by unfold clsIn; rw [ho], ?_, rfl⟩
  exact hb
/-- the built-in __init__ that super() comes to -/
def supB (K : Frag) (C : Addr) : Bool := decide (nsIn K cStatics "thirdparty.any" = some none) && He.eqO (ks_superIn K C C "__init__") (some (some (.builtin "ValueError.__init__"))) && decide (subIn K (.ref C) (.type "ValueError") = some true) && excInitIn K C He.veBase "ValueError.__new__"
theorem supB_ok {K : Frag} {C : Addr} (h : supB K C = true) : SupB K C C "ValueError" "ValueError.__init__" "ValueError.__new__" He.veBase := by
  unfold supB at h
  simp only [Bool.and_eq_true] at h
  obtain ⟨⟨⟨h1, h2⟩, h3⟩, h4⟩ := h
  exact ⟨kxs_ValueError, F.excBase_ValueError, of_decide_eq_true h1, He.eqO_ok h2, of_decide_eq_true h3, h4⟩
/-- all of one error class -/
def errB (K : Frag) (d : EDef) (file : Str) : Bool := He.eqO (nsIn K mainGlobals d.cls) (some (some (.ref (He.ga K d.cls)))) && oexB K (He.ga K d.cls) && supB K (He.ga K d.cls) && initB K d file && He.eqO (findIn K (.ref (He.ga K d.cls)) "__init__") (some (some (.ref (iAd K d.cls)))) &&
  decide (typeIn K (.ref (iAd K d.cls)) = some (.type "function")) && decide (mroIn K (He.ga K d.cls) (.ref (He.ga K d.cls)) = some true) && (d.ns.all fun n => He.eqO (findIn K (.ref (He.ga K d.cls)) n) (some none))
/-- what a raise asks -/
structure Ge (P : Program) (w : World) (K : Frag) (mg : Str → Option Value) (base : Heap) (cl : Nat → Addr) (x : Str) (c : Nat) (ns : List Str) : Prop where
  ex : ∃ fI : Addr, L2.OexC K (cl c) ∧ findIn K (.ref (cl c)) "__init__" = some (some (.ref fI)) ∧ typeIn K (.ref fI) = some (.type "function") ∧ InitOk P w K mg base (cl c) fI ns ∧ mg x = some (.ref (cl c))
/-! ### the Hook -/
abbrev AlE : Type := He.AlX × List FnE
def asE (g : Addr → Option Obj) (n : Nat) : List Addr := He.asD g n ++ [cStatics]
def obsE (n : Nat) (fa : List He.Fa) (fn : List He.DefD) (es : List EDef) (tf : List He.Defn) (ex : Frag → Bool) (g : Addr → Option Obj) : AlE :=
  ((He.obsT fa fn [] (He.frT g (asE g n)), ex (He.frT g (asE g n)) && He.tabsB g tf (He.frT g (asE g n))), es.map fun d => fnE (He.frT g (asE g n)) d.cls)
def valE (fn : List He.DefD) (es : List EDef) (w : World) : AlE := ((He.valT fn [] w, true), es.map EDef.val)
structure SaysE (fa : List He.Fa) (fn : List He.DefD) (es : List EDef) (tf : List He.Defn) (ex : Frag → Bool) (w : World) (h : Heap) (K : Frag) : Prop where
  t : He.SaysT fa fn [] w K
  more : ex K = true
  er : es.map (fun d => fnE K d.cls) = es.map EDef.val
  hd : ∀ p ∈ tf, codeHdIn K (He.cT K p).1 (He.cT K p).2 = true
  out : ∀ p ∈ tf, K.lookup (He.cT K p).2 = none
  empty : ∀ p ∈ tf, h.get? (He.cT K p).2 = some { cls := .none, data := .fields #[] }
theorem saysE_of {n : Nat} {fa : List He.Fa} {fn : List He.DefD} {es : List EDef} {tf : List He.Defn} {ex : Frag → Bool} {w : World} {h : Heap} (e : obsE n fa fn es tf ex h.get? = valE fn es w) : SaysE fa fn es tf ex w h (He.frT h.get? (asE h.get? n)) := by
  have e1 := congrArg (fun z : AlE => z.1.2) e
  have e2 : (ex (He.frT h.get? (asE h.get? n)) && He.tabsB h.get? tf (He.frT h.get? (asE h.get? n))) = true := e1
  rw [Bool.and_eq_true] at e2
  have each : ∀ p ∈ tf, codeHdIn (He.frT h.get? (asE h.get? n)) (He.cT (He.frT h.get? (asE h.get? n)) p).1 (He.cT (He.frT h.get? (asE h.get? n)) p).2 = true ∧ ∃ o, h.get? (He.cT (He.frT h.get? (asE h.get? n)) p).2 = some o ∧ He.emptyTab o = true := fun p hp => by
    have h1 := List.all_eq_true.mp e2.2 p hp
    rw [Bool.and_eq_true] at h1
    refine ⟨h1.1, ?_⟩
    have h2 := h1.2
    split at h2
    · rename_i o q
      exact ⟨o, q, h2⟩
    · cases h2
  refine ⟨congrArg (fun z : AlE => z.1.1) e, e2.1, congrArg (fun z : AlE => z.2) e, fun p hp => (each p hp).1, fun p hp => ?_, fun p hp => ?_⟩
  · obtain ⟨_, o, q, z⟩ := each p hp
    exact He.frT_none q z
  · obtain ⟨_, o, q, z⟩ := each p hp
    rw [q, He.emptyTab_eq z]
def hookE (n : Nat) (fa : List He.Fa) (fn : List He.DefD) (es : List EDef) (tf : List He.Defn) (ex : Frag → Bool) : Hook where
  α := AlE
  obs := fun s => obsE n fa fn es tf ex s.heap.get?
  val := fun w => valE fn es w
  says := fun w h => ∃ K : Frag, K.In h ∧ SaysE fa fn es tf ex w h K
  of := fun _ _ e => ⟨_, He.frT_in, saysE_of e⟩
  keeps := fun _ _ _ ⟨K, hK, c⟩ k => ⟨K, Frag.In.keeps hK k, ⟨c.t, c.more, c.er, c.hd, c.out, fun p hp => k _ _ (c.empty p hp)⟩⟩
theorem obsE_eq {n : Nat} {fa : List He.Fa} {fn : List He.DefD} {es : List EDef} {tf : List He.Defn} {ex : Frag → Bool} {g : Addr → Option Obj} {s : Shared} (h : ∀ a, g a = s.heap.get? a) : obsE n fa fn es tf ex g = (hookE n fa fn es tf ex).obs s := by
  have e : g = s.heap.get? := funext h
  rw [e] <;> rfl
theorem SaysE.err {fa : List He.Fa} {fn : List He.DefD} {es : List EDef} {tf : List He.Defn} {ex : Frag → Bool} {w : World} {h : Heap} {K : Frag} (c : SaysE fa fn es tf ex w h K) (i : Nat) {d : EDef} (hi : es[i]? = some d := by rfl) : fnE K d.cls = d.val := by
  have e2 : (es.map fun d => fnE K d.cls)[i]? = (es.map EDef.val)[i]? := by rw [c.er]
  rw [List.getElem?_map, List.getElem?_map, hi] at e2
  exact Option.some.inj e2
/-! ### the rule of raise -/
section
open L2
variable {X : Cx} {cl : Nat → Addr} {W : WX} {n : En} {e : PySem.Expr} {es : List PySem.Expr} {pos p1 pos' : Pos} {x : Str} {c k : Nat} {ns : List Str} {g : LF}
end
end DL
end

section
set_option Elab.async false
set_option linter.all false
set_option maxRecDepth 100000
set_option maxHeartbeats 4000000
/-! EI: from the facts of an error class to what its raise asks. -/
namespace DL
open PySem PySem.W PyProof.Rows
section
variable {P : Program} {w : World} {K : Frag} {mg : Str → Option Value} {base : Heap} {cl : Nat → Addr} {c : Nat} {x qual me : Str} {params : Arguments} {scope : Scope}
/-- the scope's bits -/
structure ScE (scope : Scope) (params : Arguments) (me : Str) : Prop where
  cell : ∀ y ∈ scope.names, y.2 ≠ .cell
  co : scope.isCoroutine = false
  gen : scope.isGenerator = false
  kind : scope.kind = .function
  nsup : scope.names.lookup ("super" : Str) = some .globalImplicit
  ncls : scope.names.lookup ("__class__" : Str) = some .free
  nself : scope.names.lookup me = some .local
  par : ∃ ar, (params.posonlyargs ++ params.args).head? = some ar ∧ ar.arg = me
theorem errB_ok {d : EDef} {file : Str} (b : errB K d file = true) : L2.OexC K (He.ga K d.cls) ∧ StoD K (He.ga K d.cls) ∧ SupB K (He.ga K d.cls) (He.ga K d.cls) "ValueError" "ValueError.__init__" "ValueError.__new__" He.veBase ∧ initB K d file = true ∧
    findIn K (.ref (He.ga K d.cls)) "__init__" = some (some (.ref (iAd K d.cls))) ∧ typeIn K (.ref (iAd K d.cls)) = some (.type "function") ∧ mroIn K (He.ga K d.cls) (.ref (He.ga K d.cls)) = some true ∧ (∀ n ∈ d.ns, findIn K (.ref (He.ga K d.cls)) n = some none) ∧ nsIn K mainGlobals d.cls = some (some (.ref (He.ga K d.cls))) := by
  unfold errB at b
  simp only [Bool.and_eq_true] at b
  obtain ⟨⟨⟨⟨⟨⟨⟨b0, b1⟩, b2⟩, b3⟩, b4⟩, b5⟩, b6⟩, b7⟩ := b
  obtain ⟨o1, o2⟩ := oexB_ok b1
  exact ⟨o1, o2, supB_ok b2, b3, He.eqO_ok b4, of_decide_eq_true b5, of_decide_eq_true b6, fun n hn => He.eqO_ok (List.all_eq_true.mp b7 n hn), He.eqO_ok b0⟩
theorem supD_of {d : EDef} {file : Str} {me : Str} {f cc cda : Addr} {kV doc pm ct oc : Value} {an od : Option Addr} {osl : Array (Option Value)} {b : List Stmt} (hfile : P.main.file = file) (SC : ScE scope params me) (hmro : mroIn K (He.ga K x) (.ref (He.ga K x)) = some true) (hsup : mg "super" = none) (htop : (P.main.scope.names.lookup ("super" : Str)).isSome = false) (O : L2.OexC K (He.ga K x))
    (lk : K.lookup f = some ⟨oc, od, .func (ksFn "__init__" qual params b scope .none kV doc pm an (.ref cda) ct cc), osl⟩)
    (hc : ∃ ccl cdd vs ccs z tf, K.lookup cda = some ⟨ccl, cdd, .fields vs, ccs⟩ ∧ vs[2]? = some (.str z tf) ∧ (file == z) = true) (hcell : ∃ cl cld csl, K.lookup cc = some ⟨cl, cld, .cell (some (.ref (He.ga K x))), csl⟩) :
    SupD P K mg (He.ga K x) (He.ga K x) f cc cda (ksFn "__init__" qual params b scope .none kV doc pm an (.ref cda) ct cc) scope me := by
  refine ⟨⟨_, _, _, lk⟩, SC.par, ?_, hcell, ?_, hmro, hsup, SC.nsup, SC.ncls, SC.nself, SC.kind, htop⟩
  · obtain ⟨a1, a2, a3, a4, a5, a6, a7, a8, a9⟩ := hc
    exact ⟨a1, a2, a3, a4, a5, a6, a7, a8, by rw [hfile]; exact a9⟩
  · obtain ⟨nm, q, N, bs, bm, sn, sub, ab, col, dd, k0, k1, k2, k3, k5, ho, hb⟩ := O.cls
    exact ⟨_, by unfold clsIn; rw [ho]⟩
theorem ge0 {p0 p1 ap pc pe : Pos} {pl : Sem Bool} {file : Str} (hfile : P.main.file = file)
    (e : fnE K x = (EDef.mk x qual params [.Expr (.Call (.Attribute (.Call (.Name "super" p0) [] [] p1) "__init__" ap) [] [] pc) pe] scope []).val)
    (b : errB K (EDef.mk x qual params [.Expr (.Call (.Attribute (.Call (.Name "super" p0) [] [] p1) "__init__" ap) [] [] pc) pe] scope []) file = true) (hcl : cl c = He.ga K x) (hmg : mg x = some (.ref (He.ga K x))) (hsup : mg "super" = none) (htop : (P.main.scope.names.lookup ("super" : Str)).isSome = false) (SC : ScE scope params me)
    (hbind : ∀ (kV doc pm ct : Value) (an : Option Addr) (cda cc : Addr) (u : Value), bindArgs (ksFn "__init__" qual params [.Expr (.Call (.Attribute (.Call (.Name "super" p0) [] [] p1) "__init__" ap) [] [] pc) pe] scope .none kV doc pm an (.ref cda) ct cc) ⟨[u], []⟩ = pure [(me, u)])
    (hev : ∀ f cda cc L, eval (.Call (.Attribute (.Call (.Name "super" p0) [] [] p1) "__init__" ap) [] [] pc) (ksEnv qual scope L f (.ref cda) cc) = (do
      let ov ← attributeBase (.Call (.Name "super" p0) [] [] p1) "__init__" (ksEnv qual scope L f (.ref cda) cc) (eval (.Call (.Name "super" p0) [] [] p1) (ksEnv qual scope L f (.ref cda) cc))
      standAt ap.atName
      let (g, first) ← holding [ov] (getMethod ov "__init__" pl)
      callWith pc g first (backTo pc (starEach [] (ksEnv qual scope L f (.ref cda) cc))) []))
    (hin : ∀ f cda cc L, interactive (ksEnv qual scope L f (.ref cda) cc) = false)
    (hs1 : ∀ f cda cc L, swapsWith (.Call (.Attribute (.Call (.Name "super" p0) [] [] p1) "__init__" ap) [] [] pc) none pe.line (ksEnv qual scope L f (.ref cda) cc) = pure false) :
    Ge P w K mg base cl x c [] := by
  obtain ⟨O, D, SB, b3, iC, tI, hmro, hns, _⟩ := errB_ok b
  obtain ⟨cda, cc, kV, doc, pm, ct, oc, an, od, osl, lk, hcd, hc, hcell⟩ := (initF_of e b3).ex
  refine ⟨iAd K x, by rw [hcl]; exact O, by rw [hcl]; exact iC, tI, ?_, by rw [hcl]; exact hmg⟩
  rw [hcl]
  exact init0_ok ⟨lk, hcd, SC.cell, SC.co, SC.gen, SC.kind⟩ (supD_of (d := EDef.mk x qual params [] scope []) hfile SC hmro hsup htop O lk hc hcell) SB (fun s y => BindsTo.of_eq (hbind _ _ _ _ _ _ _ _)) (hev _ _ _) (hin _ _ _) (hs1 _ _ _)
theorem ge1 {a nm : Str} {p0 p1 ap pc pe q1 q2 q3 q4 q5 : Pos} {pl : Sem Bool} {file : Str} (hfile : P.main.file = file)
    (e : fnE K x = (EDef.mk x qual params [.Expr (.Call (.Attribute (.Call (.Name "super" p0) [] [] p1) "__init__" ap) [.Name a q1] [] pc) pe, .Assign [.Attribute (.Name me q2) nm q3] (.Name a q4) q5] scope [nm]).val)
    (b : errB K (EDef.mk x qual params [.Expr (.Call (.Attribute (.Call (.Name "super" p0) [] [] p1) "__init__" ap) [.Name a q1] [] pc) pe, .Assign [.Attribute (.Name me q2) nm q3] (.Name a q4) q5] scope [nm]) file = true) (hcl : cl c = He.ga K x) (hmg : mg x = some (.ref (He.ga K x))) (hsup : mg "super" = none) (htop : (P.main.scope.names.lookup ("super" : Str)).isSome = false) (SC : ScE scope params me)
    (hbind : ∀ (kV doc pm ct : Value) (an : Option Addr) (cda cc : Addr) (u v : Value), bindArgs (ksFn "__init__" qual params [.Expr (.Call (.Attribute (.Call (.Name "super" p0) [] [] p1) "__init__" ap) [.Name a q1] [] pc) pe, .Assign [.Attribute (.Name me q2) nm q3] (.Name a q4) q5] scope .none kV doc pm an (.ref cda) ct cc) ⟨[u, v], []⟩ = pure [(me, u), (a, v)])
    (la : scope.names.lookup a = some .local) (ham : a ≠ me) (da : (a == ("__debug__" : Str)) = false) (dm : (me == ("__debug__" : Str)) = false)
    (hev : ∀ f cda cc L, eval (.Call (.Attribute (.Call (.Name "super" p0) [] [] p1) "__init__" ap) [.Name a q1] [] pc) (ksEnv qual scope L f (.ref cda) cc) = (do
      let ov ← attributeBase (.Call (.Name "super" p0) [] [] p1) "__init__" (ksEnv qual scope L f (.ref cda) cc) (eval (.Call (.Name "super" p0) [] [] p1) (ksEnv qual scope L f (.ref cda) cc))
      standAt ap.atName
      let (g, first) ← holding [ov] (getMethod ov "__init__" pl)
      callWith pc g first (backTo pc (starEach [.Name a q1] (ksEnv qual scope L f (.ref cda) cc))) []))
    (hst : ∀ f cda cc L, starEach [.Name a q1] (ksEnv qual scope L f (.ref cda) cc) = [(false, eval (.Name a q1) (ksEnv qual scope L f (.ref cda) cc))])
    (hin : ∀ f cda cc L, interactive (ksEnv qual scope L f (.ref cda) cc) = false)
    (hs1 : ∀ f cda cc L, swapsWith (.Call (.Attribute (.Call (.Name "super" p0) [] [] p1) "__init__" ap) [.Name a q1] [] pc) none pe.line (ksEnv qual scope L f (.ref cda) cc) = pure false)
    (hs2 : ∀ f cda cc L, swapsWith (.Name a q4) (some (.Attribute (.Name me q2) nm q3)) q5.line (ksEnv qual scope L f (.ref cda) cc) = pure false) :
    Ge P w K mg base cl x c [nm] := by
  obtain ⟨O, D, SB, b3, iC, tI, hmro, hns, _⟩ := errB_ok b
  obtain ⟨cda, cc, kV, doc, pm, ct, oc, an, od, osl, lk, hcd, hc, hcell⟩ := (initF_of e b3).ex
  refine ⟨iAd K x, by rw [hcl]; exact O, by rw [hcl]; exact iC, tI, ?_, by rw [hcl]; exact hmg⟩
  rw [hcl]
  exact init1_ok ⟨lk, hcd, SC.cell, SC.co, SC.gen, SC.kind⟩ (supD_of (d := EDef.mk x qual params [] scope []) hfile SC hmro hsup htop O lk hc hcell) SB D (fun s y u => BindsTo.of_eq (hbind _ _ _ _ _ _ _ _ _)) la ham da dm (hns nm List.mem_cons_self) (hev _ _ _) (hst _ _ _) (hin _ _ _) (hs1 _ _ _) (hs2 _ _ _)
theorem ge2 {a b' nm nm2 : Str} {p0 p1 ap pc pe q1 q2 q3 q4 q5 r1 r2 r3 r4 r5 : Pos} {pl : Sem Bool} {file : Str} (hfile : P.main.file = file)
    (e : fnE K x = (EDef.mk x qual params [.Expr (.Call (.Attribute (.Call (.Name "super" p0) [] [] p1) "__init__" ap) [.Name a q1, .Name b' r1] [] pc) pe, .Assign [.Attribute (.Name me q2) nm q3] (.Name a q4) q5, .Assign [.Attribute (.Name me r2) nm2 r3] (.Name b' r4) r5] scope [nm, nm2]).val)
    (b : errB K (EDef.mk x qual params [.Expr (.Call (.Attribute (.Call (.Name "super" p0) [] [] p1) "__init__" ap) [.Name a q1, .Name b' r1] [] pc) pe, .Assign [.Attribute (.Name me q2) nm q3] (.Name a q4) q5, .Assign [.Attribute (.Name me r2) nm2 r3] (.Name b' r4) r5] scope [nm, nm2]) file = true) (hcl : cl c = He.ga K x) (hmg : mg x = some (.ref (He.ga K x))) (hsup : mg "super" = none) (htop : (P.main.scope.names.lookup ("super" : Str)).isSome = false) (SC : ScE scope params me)
    (hbind : ∀ (kV doc pm ct : Value) (an : Option Addr) (cda cc : Addr) (u v t : Value), bindArgs (ksFn "__init__" qual params [.Expr (.Call (.Attribute (.Call (.Name "super" p0) [] [] p1) "__init__" ap) [.Name a q1, .Name b' r1] [] pc) pe, .Assign [.Attribute (.Name me q2) nm q3] (.Name a q4) q5, .Assign [.Attribute (.Name me r2) nm2 r3] (.Name b' r4) r5] scope .none kV doc pm an (.ref cda) ct cc) ⟨[u, v, t], []⟩ = pure [(me, u), (a, v), (b', t)])
    (la : scope.names.lookup a = some .local) (ham : a ≠ me) (da : (a == ("__debug__" : Str)) = false) (dm : (me == ("__debug__" : Str)) = false)
    (lb : scope.names.lookup b' = some .local) (hbm : b' ≠ me) (hba : b' ≠ a) (db : (b' == ("__debug__" : Str)) = false) (hnn : nm ≠ nm2)
    (hev : ∀ f cda cc L, eval (.Call (.Attribute (.Call (.Name "super" p0) [] [] p1) "__init__" ap) [.Name a q1, .Name b' r1] [] pc) (ksEnv qual scope L f (.ref cda) cc) = (do
      let ov ← attributeBase (.Call (.Name "super" p0) [] [] p1) "__init__" (ksEnv qual scope L f (.ref cda) cc) (eval (.Call (.Name "super" p0) [] [] p1) (ksEnv qual scope L f (.ref cda) cc))
      standAt ap.atName
      let (g, first) ← holding [ov] (getMethod ov "__init__" pl)
      callWith pc g first (backTo pc (starEach [.Name a q1, .Name b' r1] (ksEnv qual scope L f (.ref cda) cc))) []))
    (hst : ∀ f cda cc L, starEach [.Name a q1, .Name b' r1] (ksEnv qual scope L f (.ref cda) cc) = (false, eval (.Name a q1) (ksEnv qual scope L f (.ref cda) cc)) :: starEach [.Name b' r1] (ksEnv qual scope L f (.ref cda) cc))
    (hst2 : ∀ f cda cc L, starEach [.Name b' r1] (ksEnv qual scope L f (.ref cda) cc) = [(false, eval (.Name b' r1) (ksEnv qual scope L f (.ref cda) cc))])
    (hin : ∀ f cda cc L, interactive (ksEnv qual scope L f (.ref cda) cc) = false)
    (hs1 : ∀ f cda cc L, swapsWith (.Call (.Attribute (.Call (.Name "super" p0) [] [] p1) "__init__" ap) [.Name a q1, .Name b' r1] [] pc) none pe.line (ksEnv qual scope L f (.ref cda) cc) = pure false)
    (hs2 : ∀ f cda cc L, swapsWith (.Name a q4) (some (.Attribute (.Name me q2) nm q3)) q5.line (ksEnv qual scope L f (.ref cda) cc) = pure false)
    (hs3 : ∀ f cda cc L, swapsWith (.Name b' r4) (some (.Attribute (.Name me r2) nm2 r3)) r5.line (ksEnv qual scope L f (.ref cda) cc) = pure false) :
    Ge P w K mg base cl x c [nm, nm2] := by
  obtain ⟨O, D, SB, b3, iC, tI, hmro, hns, _⟩ := errB_ok b
  obtain ⟨cda, cc, kV, doc, pm, ct, oc, an, od, osl, lk, hcd, hc, hcell⟩ := (initF_of e b3).ex
  refine ⟨iAd K x, by rw [hcl]; exact O, by rw [hcl]; exact iC, tI, ?_, by rw [hcl]; exact hmg⟩
  rw [hcl]
  exact init2_ok ⟨lk, hcd, SC.cell, SC.co, SC.gen, SC.kind⟩ (supD_of (d := EDef.mk x qual params [] scope []) hfile SC hmro hsup htop O lk hc hcell) SB D (fun s y u v => BindsTo.of_eq (hbind _ _ _ _ _ _ _ _ _ _)) la ham da dm (hns nm List.mem_cons_self) lb hbm hba db hnn (hns nm2 (List.mem_cons_of_mem _ List.mem_cons_self)) (hev _ _ _) (hst _ _ _) (hst2 _ _ _) (hin _ _ _) (hs1 _ _ _) (hs2 _ _ _) (hs3 _ _ _)
end
end DL
end

section
set_option Elab.async false
set_option linter.all false
set_option maxRecDepth 100000
set_option maxHeartbeats 4000000
/-! EJ: list(range(n)); a slot's object frozen ahead of a statement. -/
namespace DL
open PySem L2
section
variable {X : Cx} {cl : Nat → Addr} {W : WX} {n : En} {a b c e : PySem.Expr} {st : PySem.Stmt} {s : SF} {es : List PySem.Expr} {f fa fb fc : EF} {g : LF} {pos p1 p2 sp pos2 : Pos}
end
end DL
end

section
set_option Elab.async false
set_option linter.all false
set_option maxRecDepth 100000
set_option maxHeartbeats 4000000
namespace DL
open PySem L2
/-! EK: a lambda handed to a def that tries it. -/
/-- which class is met by which clause -/
def ExM (K : PySem.W.Frag) (cl : Nat → Addr) (cs : List Nat) (hs : List Nat) : Prop := ∀ c ∈ cs, ∀ h ∈ hs, PySem.W.exmOne K (.ref (cl c)) (.ref (cl h)) = some (decide (c = h))
def wStr (K : PySem.W.Frag) (Q : VK) : List (Value × Str) → Value → Hp → Prop
  | [], _, _ => False
  | (c, x) :: r, cls, H => ∃ b, PySem.W.exmOne K cls c = some b ∧ (b = true → Q (.str x) H) ∧ (b = false → wStr K Q r cls H)
def TStr (K : PySem.W.Frag) (hs : List (Value × Str)) : (XK → Hp → VK → Prop) → Hp → VK → Prop := fun tl H Q => tl (fun cls _ H' => wStr K Q hs cls H') H Q
/-- the clauses: except x: return a text -/
inductive HdsStr (X : Cx) : List ExceptHandler → List (Value × Str) → Prop
  | nil : HdsStr X [] []
  | cons {x z : Str} {c : Value} {j : Nat} {p1 p2 p3 p4 : Pos} {hds : List ExceptHandler} {l : List (Value × Str)} (hc : Names X x c) (r : HdsStr X hds l) :
      HdsStr X (.ExceptHandler (some (.Name x p1)) none [.Return (some (.Constant (.str z) j p2)) p3] p4 :: hds) ((c, z) :: l)
theorem HdsStr.ok {X : Cx} {hds : List ExceptHandler} {l : List (Value × Str)} (h : HdsStr X hds l) : HdsOk X hds (l.map fun p => (p.1, fun _ _ _ D σ H => D.rt (.str p.2) H)) := by
  induction h with
  | nil => exact .nil
  | cons hc r ih => exact .cons hc (fun a oe cls d pn _ _ => pss_one (ps_ret pe_str)) ih
end DL
end

section
set_option Elab.async false
set_option linter.all false
set_option maxRecDepth 100000
set_option maxHeartbeats 4000000
/-! EL: defs that make lambdas, defs that try them, a law's promise with tables. -/
namespace DL
open PySem PySem.Spec PyProof.Rows L2
section
variable {P : Program} {w : World} {K : PySem.W.Frag} {mg : Str → Option Value} {base : Heap} {cl : Nat → Addr}
end
/-- a def that tries the lambda that it gets -/
structure Gt (P : Program) (w : World) (K : PySem.W.Frag) (mg : Str → Option Value) (base : Heap) (cl : Nat → Addr) (cs : List Nat) (hs : List (Nat × Str)) (x : Str) : Prop where
  ex : ∃ (g : Addr) (a : Str) (pg : Arguments) (bg : List Stmt) (sg : Scope) (dV kV doc pm cdv ct oc : Value) (an od : Option Addr) (osl : Array (Option Value)) (Ng : List Str),
    mg x = some (.ref g) ∧ PySem.W.keepIn K (.ref g) = true ∧ K.lookup g = some ⟨oc, od, .func (PySem.W.fnOf x x pg bg sg dV kV doc pm an cdv ct), osl⟩ ∧ PySem.W.codeIn K cdv x = true ∧ L2.Binds K (PySem.W.fnOf x x pg bg sg dV kV doc pm an cdv ct) [a] [] ∧
    FnScope Ng [a] sg ∧ Ng[0]? = some a ∧ Vis sg a ∧ (a == ("__debug__" : Str)) = false ∧ (a == ("__classdict__" : Str)) = false ∧
    ∀ X : Cx, X.prog = P → X.w = w → X.K = K → X.mg = mg → X.base = base → ∀ q, LamX.GivesTo X Ng x sg g cdv bg a q (TStr X.K (hs.map fun p => (.ref (cl p.1), p.2)))
  m : ExM K cl cs (hs.map (·.1))
/-- what a maker of lambdas asks: its table's number, its table -/
structure Tb (base : Heap) (mg : Str → Option Value) (cl : Nat → Addr) (i : Nat) (c : Addr) : Prop where
  lt : i < 3
  ne : cl (2000 + i) ≠ 0
  out : ∀ j, 3 ≤ j → cl (2000 + j) = 0
  dis : ∀ j, j < 3 → cl (2000 + j) ≠ 0 → cl (2000 + j) = cl (2000 + i) → j = i
  tb : LamX.TabB base mg c (cl (2000 + i))
section
variable {P : Program} {w : World} {K : PySem.W.Frag} {mg : Str → Option Value} {base : Heap} {cl : Nat → Addr}
end
/-! ### a law's promise -/
def spLaw (K : PySem.W.Frag) (ts : List Addr) : Sp := fun vs H Q _ => ∃ (a : Addr) (ns : List Int), ns.length ≤ 63 ∧ vs = [.ref a] ∧ (∀ p ∈ ts, H p = some (.tbl #[])) ∧ SqL K H a (ns.map V.int) ∧ ∀ H', Q (.bl true) H'
theorem rpL_ints {T : Th} {F : Hp} {al : Nat → Addr} {n : Nat} : ∀ ns : List Int, RpL T F al n (ns.map V.int) (ns.map D.int)
  | [] => .nil
  | _ :: ns => .cons (.int _) (rpL_ints ns)
theorem sp_law {K : PySem.W.Frag} {cl : Nat → Addr} {ts : List Addr} (ht : ∀ i, cl (2000 + i) ≠ 0 → cl (2000 + i) ∈ ts) {p : FF} (hp : ∀ ns : List Int, ns.length ≤ 63 → ∃ mu, p [.frl (ns.map D.int)] [] = .ok (.bl true) mu) (vs : List V) (H : Hp) (Q : VK) (E : XK) (h : spLaw K ts vs H Q E) : spD ⟨K, cl⟩ 1 p vs H Q E := by
  obtain ⟨a, ns, hl, rfl, hts, hS, hQ⟩ := h
  obtain ⟨mu, e⟩ := hp ns hl
  have key : ∀ F : Hp, (∀ b o, F b = some o → H b = some o) → (∀ b o, F b = some o → ∀ ps, o ≠ .tbl ps) → SqL K F a (ns.map V.int) → spD ⟨K, cl⟩ 1 p [V.ref a] H Q E := fun F h1 h2 h3 => by
    refine ⟨F, fun _ => 0, [], [.frl (ns.map D.int)], ⟨h1, fun k m h => by simp at h, fun k m k' m' h => by simp at h, fun i hi => LamX.TabS.nil (hts _ (ht i hi)), h2⟩, .cons (.frl h3 (rpL_ints ns)) .nil, rfl, ?_⟩
    rw [e]
    intro v F1 al1 H1 x r
    cases r
    exact hQ H1
  rcases hS with (h | ⟨o, h⟩) | h
  · refine key (fun b => if b = a then some (.lst (ns.map V.int)) else none) (fun b o q => ?_) (fun b o q ps z => ?_) (.inl (.inl (if_pos rfl)))
    · split at q
      · rename_i hb; rw [hb, h]; exact q
      · cases q
    · split at q
      · cases q; cases z
      · cases q
  · refine key (fun b => if b = a then H b else none) (fun b o q => ?_) (fun b o q ps z => ?_) (.inl (.inr ⟨o, (if_pos rfl).trans h⟩))
    · split at q
      · exact q
      · cases q
    · split at q
      · rename_i hb
        rw [hb, h] at q
        cases q; cases z
      · cases q
  · exact key (fun _ => none) (fun _ _ q => by cases q) (fun _ _ q => by cases q) (.inr h)
end DL
end

section
set_option Elab.async false
set_option linter.all false
set_option maxRecDepth 100000
set_option maxHeartbeats 4000000
/-! EM: truth values as numbers, str(..), repr(..), an empty dict, lists put together as a new one. -/
namespace DL
open PySem PySem.Spec PyProof.Rows L2
section
variable {X : Cx} {cl : Nat → Addr} {W : WX} {a b e : PySem.Expr} {f fa fb : EF} {pos p1 : Pos}
def dDct0 : EF := fun _ mu => .ok (.dct []) mu
theorem de_dct0 : DE X cl W (.Dict [] [] pos) dDct0 := PE.imp pe_dnewK fun σ H Q q => by
  obtain ⟨F, al, sl, mu, w, po⟩ := q
  exact fun p hp => po _ _ _ _ (Ext.laidF w.toMus (o := .dK []) hp) (.dct upd_same)
/-! ### a new list of two -/
end
end DL
end

section
set_option Elab.async false
set_option linter.all false
set_option maxRecDepth 100000
set_option maxHeartbeats 4000000
/-! EN: an object of the store beside data, ==, !=. -/
namespace DL
open PySem PySem.Spec PyProof.Rows
open L2 hiding St
section
variable {X : Cx} {cl : Nat → Addr} {W : WX} {a b e : PySem.Expr} {f fa fb : EF} {pos p1 : Pos}
theorem Top.dp {T : Th} {F : Hp} {al : Nat → Addr} {mu : Store} {H : Hp} (m : Mus T F al mu H) {v : V} {d : D} (t : Top T F al mu.length H v d) {p : PyData} (h : toP d = some p) : Dp T.K H v p := by
  cases d with
  | lst l =>
    obtain ⟨a, xs, rfl, h1, h2⟩ := t
    unfold toP at h
    split at h
    · rename_i ps e
      cases h
      exact .lst (SqL.of h1) (RpL.dp m.sub h2 e)
    · cases h
  | ins c fs => cases h
  | _ => exact Rp.dp m.sub (show Rp _ _ _ _ _ _ from t) h
end
end DL
end

section
set_option Elab.async false
set_option linter.all false
set_option maxRecDepth 100000
set_option maxHeartbeats 4000000
/-! EO: is not True as a test; comprehensions with two for. -/
namespace DL
open PySem PySem.Spec PyProof.Rows
open L2 hiding St
section
variable {X : Cx} {cl : Nat → Addr} {W : WX} {a b e : PySem.Expr} {f fa fb : EF} {pos p1 : Pos}
end
/-! ### two for -/
def noOwn (sl : Sl) : Bool := sl.all fun s => match s with
  | some (.own _) => false
  | _ => true
section
variable {T : Th} {F H : Hp} {al : Nat → Addr} {mu : Store} {sl : Sl} {σ : L2.St}
theorem Mus.aside (M : Mus T F al mu H) {a : Addr} {o u0 : HO} (hF : F a = none) (hm : ∀ k m, mu[k]? = some (some m) → al k ≠ a) (hu : H a = some u0) (hn : NoTab u0) : Mus T F al mu (upd H a o) :=
  ⟨fun b u q => by rw [upd_ne (ne_of_none q hF)]; exact M.sub b u q, fun k m q => by
    obtain ⟨g1, u, g2, g3⟩ := M.at_ k m q
    exact ⟨g1, u, by rw [upd_ne (hm k m q)]; exact g2, g3⟩, M.inj, fun i z => tab_upd (.inr ⟨_, hu, hn⟩) (M.tab i z), M.nt⟩
theorem noOwn_no (h : noOwn sl = true) {i : Nat} {m : MO} (e : sl[i]? = some (some (SV.own m))) : False := by
  have := List.all_eq_true.mp h _ (List.mem_of_getElem? e)
  cases this
theorem Wd.aside (w : Wd T F al sl mu σ H) (h : noOwn sl = true) {a : Addr} {o u0 : HO} (hF : F a = none) (hm : ∀ k m, mu[k]? = some (some m) → al k ≠ a) (hu : H a = some u0) (hn : NoTab u0) : Wd T F al sl mu σ (upd H a o) :=
  ⟨w.toMus.aside hF hm hu hn, w.len, w.val, fun i m e => (noOwn_no h e).elim, fun i j m m' b _ e _ _ _ => noOwn_no h e⟩
end
section
variable {g g1 : Tg} {c c1 : BF} {f : EF} {src1 : LF}
end
end DL
end

section
set_option Elab.async false
set_option linter.all false
set_option maxRecDepth 100000
set_option maxHeartbeats 4000000
/-! EP: a list and the empty list compared, whatever stands within. -/
namespace DL
open PySem L2
section
variable {X : Cx} {cl : Nat → Addr} {W : WX} {a b e : PySem.Expr} {f fa fb : EF} {pos p1 : Pos} {x : Str}
end
end DL
end

section
set_option Elab.async false
set_option linter.all false
set_option maxRecDepth 100000
set_option maxHeartbeats 4000000
/-! EQ: try with several clauses, some of them with a name. -/
namespace DL
open PySem PySem.Spec PyProof.Rows L2
abbrev CTS := Addr → Value → Option Addr → TS
/-- a clause's suite runs -/
def SuiteOk (X : Cx) (suite : List Stmt) (ts : CTS) : Prop := ∀ (ea : Addr) (eo : Obj) (kl : Value) (dd : Option Addr) (more : List (Addr × Obj)), Zc kl dd eo → (∃ fv, eo.data = .fields fv) → PSs (X.suite ea ((ea, eo) :: more)) suite (ts ea kl dd)
inductive ClOk (X : Cx) : List ExceptHandler → List (Value × Option Nat × CTS) → Prop
  | nil : ClOk X [] []
  | bare {y : Str} {c : Value} {ts : CTS} {st : Stmt} {sts : List Stmt} {p1 p2 : Pos} {more : List ExceptHandler} {l : List (Value × Option Nat × CTS)} (nm : Names X y c) (ok : SuiteOk X (st :: sts) ts) (rest : ClOk X more l) :
      ClOk X (.ExceptHandler (some (.Name y p1)) none (st :: sts) p2 :: more) ((c, none, ts) :: l)
  | named {y v : Str} {i : Nat} {c : Value} {ts : CTS} {st : Stmt} {sts : List Stmt} {p1 p2 : Pos} {more : List ExceptHandler} {l : List (Value × Option Nat × CTS)} (nm : Names X y c) (ok : SuiteOk X (st :: sts) ts) (hi : X.N[i]? = some v)
      (hv : X.env.kindOf v = some .local) (rest : ClOk X more l) : ClOk X (.ExceptHandler (some (.Name y p1)) (some v) (st :: sts) p2 :: more) ((c, some i, ts) :: l)
section
variable {X : Cx} {body : List Stmt} {first : ExceptHandler} {more : List ExceptHandler} {l : List (Value × Option Nat × CTS)} {pos : Pos} {tb : WX → TS} {up : WX}
end
end DL
end

section
set_option Elab.async false
set_option linter.all false
set_option maxRecDepth 100000
set_option maxHeartbeats 4000000
/-! ER: what a clause of _law_found returns, with the error's own attributes. -/
namespace DL
open PySem PySem.Spec PyProof.Rows L2
/-- what is returned: a text; a text and attributes; a text and the repr of an attribute that is a number, a truth value or None -/
inductive Clz where
  | str (z : Str) | tup (z : Str) (ns : List Str) | rep (z n : Str)
def Clz.attrs : Clz → List Str
  | .str _ => []
  | .tup _ ns => ns
  | .rep _ n => [n]
def flatR : D → Option Str
  | .int i => if i.natAbs.log2 < 1920 then some (toString i) else none
  | .bl b => some (if b = true then "True" else "False")
  | .non => some "None"
  | _ => none
def flatV : V → Option Str
  | .int i => if i.natAbs.log2 < 1920 then some (toString i) else none
  | .bl b => some (if b = true then "True" else "False")
  | .non => some "None"
  | _ => none
def Clz.den (fs : List (Str × D)) : Clz → Option D
  | .str z => some (.str z)
  | .tup z ns => match allSome (fun n => fs.lookup n) ns with
    | some ds => if ds.length ≤ 100 then some (.tup (.str z :: ds)) else none
    | none => none
  | .rep z n => match fs.lookup n with
    | some d => (match flatR d with
      | some t => some (.tup [.str z, .str t])
      | none => none)
    | none => none
/-- the error's class is one whose instances' attributes can be read -/
def XfAll (K : PySem.W.Frag) (C : Addr) (ns : List Str) : Prop := XfC K C ∧ ∀ n ∈ ns, PySem.W.findIn K (.ref C) n = some none
theorem XfAll.tail {K : PySem.W.Frag} {C : Addr} {n : Str} {ns : List Str} (h : XfAll K C (n :: ns)) : XfAll K C ns := ⟨h.1, fun m hm => h.2 m (List.mem_cons_of_mem _ hm)⟩
def wCls (K : PySem.W.Frag) (kl : Value) (dd : Option Addr) (H : Hp) (Q : VK) : Clz → Prop
  | .str z => Q (.str z) H
  | .tup z ns => ∃ C da fv vs, kl = .ref C ∧ XfAll K C ns ∧ dd = some da ∧ H da = some (.xd fv) ∧ allSome (fun n => fv.lookup n) ns = some vs ∧ vs.length ≤ 100 ∧ ∀ p, H p = none → Q (.ref p) (upd H p (.tup (.str z :: vs)))
  | .rep z n => ∃ C da fv v t, kl = .ref C ∧ XfAll K C [n] ∧ dd = some da ∧ H da = some (.xd fv) ∧ fv.lookup n = some v ∧ flatV v = some t ∧ ∀ p, H p = none → Q (.ref p) (upd H p (.tup [.str z, .str t]))
theorem call_repr_flat {X : Cx} : CallR X (.builtin "repr") (fun xs H Q => ∃ v t, xs = [v] ∧ flatV v = some t ∧ Q (.str t) H) := by
  intro pins s σ H xs us Q I r h
  obtain ⟨v, t, rfl, hf, q⟩ := h
  cases v with
  | int i =>
    obtain ⟨u, rfl, k, rfl⟩ := vals1 r
    have hf' : (if i.natAbs.log2 < 1920 then some ((toString i : String) : Str) else none) = some t := hf
    by_cases hz : i.natAbs.log2 < 1920
    · rw [if_pos hz] at hf'
      cases hf'
      exact PySem.P.repr_of_int hz ⟨.str _, H, I.tok _, ⟨_, rfl⟩, q⟩
    · rw [if_neg hz] at hf'
      cases hf'
  | bl b =>
    have hf' : some (if b = true then ("True" : Str) else "False") = some t := hf
    cases hf'
    obtain ⟨u, rfl, k⟩ := vals1 r
    obtain rfl : u = Value.bool b := k
    refine PySem.P.repr_of_bool ?_
    refine ⟨.str (if b = true then ("True" : Str) else "False"), H, I.tok _, ?_, q⟩
    cases b <;> exact ⟨_, rfl⟩
  | non =>
    have hf' : some ("None" : Str) = some t := hf
    cases hf'
    obtain ⟨u, rfl, k⟩ := vals1 r
    obtain rfl : u = Value.none := k
    refine PySem.P.repr_of_none ?_
    exact ⟨.str _, H, I.tok _, ⟨_, rfl⟩, q⟩
  | _ => cases hf
/-- e.n, .. -/
inductive AtL (v : Str) : List PySem.Expr → List Str → Prop
  | nil : AtL v [] []
  | cons {n : Str} {p1 p2 : Pos} {es : List PySem.Expr} {ns : List Str} (rest : AtL v es ns) : AtL v (.Attribute (.Name v p1) n p2 :: es) (n :: ns)
def tAts (i : Nat) (ea : Addr) (K : PySem.W.Frag) (kl : Value) (dd : Option Addr) (ns : List Str) : TA := fun σ H R => σ[i]? = some (some (.ref ea)) ∧ ∃ C da fv vs, kl = .ref C ∧ XfAll K C ns ∧ dd = some da ∧ H da = some (.xd fv) ∧ allSome (fun n => fv.lookup n) ns = some vs ∧ R vs H
section
variable {X : Cx} {i : Nat} {v : Str} {ea C : Addr} {eo : Obj} {kl : Value} {dd : Option Addr} {pn : List (Addr × Obj)}
theorem pe_at {n : Str} {p1 p2 : Pos} (hz : Zc kl dd eo) (hf : ∃ fv, eo.data = .fields fv) (hi : X.N[i]? = some v) (hv : Vis X.env.scope v) (hk : XfAll X.K C [n]) (hd : (v == ("__debug__" : Str)) = false) (hcd : (v == ("__classdict__" : Str)) = false) :
    PE (X.suite ea ((ea, eo) :: pn)) (.Attribute (.Name v p1) n p2) (tXf ea kl dd C n (tVar i)) := pe_xf (X := X) hk.1 (hk.2 n List.mem_cons_self) hz hf (pe_var (X := X.suite ea ((ea, eo) :: pn)) hi hv hd hcd)
theorem pa_ats (hz : Zc kl dd eo) (hf : ∃ fv, eo.data = .fields fv) (hi : X.N[i]? = some v) (hv : Vis X.env.scope v) (hd : (v == ("__debug__" : Str)) = false) (hcd : (v == ("__classdict__" : Str)) = false) :
    ∀ {es : List PySem.Expr} {ns : List Str}, AtL v es ns → PA (X.suite ea ((ea, eo) :: pn)) es (tAts i ea X.K kl dd ns)
  | _, _, .nil => PA.imp pa_nil fun σ H R h => by
    obtain ⟨_, C, da, fv, vs, _, _, _, _, e, q⟩ := h
    cases e
    exact q
  | _, _, .cons (n := n) (ns := ns) rest => by
    refine ⟨fun pos pins s σ H R I h => ?_⟩
    obtain ⟨h0, C, da, fv, vs, e1, e2, e3, e4, e5, q⟩ := h
    have hk : XfAll X.K C [n] := ⟨e2.1, fun m hm => e2.2 m (by
      have : m = n := by simpa using hm
      subst this
      exact List.mem_cons_self)⟩
    refine (pa_cons (pe_at (C := C) hz hf hi hv hk hd hcd) (pa_ats hz hf hi hv hd hcd rest)).run pos pins s σ H R I ?_
    unfold allSome at e5
    cases hv1 : fv.lookup n with
    | none => rw [hv1] at e5; cases e5
    | some x =>
      cases hv2 : allSome (fun n => fv.lookup n) ns with
      | none => rw [hv1, hv2] at e5; cases e5
      | some xs =>
        rw [hv1, hv2] at e5
        cases e5
        exact ⟨.ref ea, h0, rfl, e1, da, fv, x, e3, e4, hv1, h0, C, da, fv, xs, e1, e2.tail, e3, e4, hv2, q⟩
/-- the suite of a clause -/
def tsCls (i : Nat) (K : PySem.W.Frag) (c : Clz) : CTS := fun ea kl dd Z σ H => (match c with | .str _ => True | _ => σ[i]? = some (some (.ref ea))) ∧ wCls K kl dd H Z.rt c
theorem suite_str {z : Str} {j : Nat} {p2 p3 : Pos} : SuiteOk X [.Return (some (.Constant (.str z) j p2)) p3] (tsCls i X.K (.str z)) := fun ea eo kl dd more hz hf => PSs.imp (pss_one (ps_ret pe_str)) fun D σ H h => h.2
theorem suite_tup {z : Str} {j k : Nat} {p2 p3 p4 : Pos} {es : List PySem.Expr} {ns : List Str} (hi : X.N[i]? = some v) (hv : Vis X.env.scope v) (hd : (v == ("__debug__" : Str)) = false) (hcd : (v == ("__classdict__" : Str)) = false) (hat : AtL v es ns)
    (hs : starEach (.Constant (.str z) j p2 :: es) X.env = (false, eval (.Constant (.str z) j p2) X.env) :: starEach es X.env) : SuiteOk X [.Return (some (.Tuple (.Constant (.str z) j p2 :: es) k p3)) p4] (tsCls i X.K (.tup z ns)) := fun ea eo kl dd more hz hf => by
  refine PSs.imp (pss_one (ps_ret (pe_tup (pa_cons (X := X.suite ea ((ea, eo) :: more)) pe_str (pa_ats hz hf hi hv hd hcd hat) hs)))) fun D σ H h => ?_
  obtain ⟨h0, C, da, fv, vs, e1, e2, e3, e4, e5, e6, q⟩ := h
  exact ⟨h0, C, da, fv, vs, e1, e2, e3, e4, e5, le_line (by rw [List.length_cons]; omega), q⟩
theorem suite_rep {z n : Str} {j k : Nat} {p1 p2 p3 p4 p5 p6 p7 : Pos} (hi : X.N[i]? = some v) (hv : Vis X.env.scope v) (hd : (v == ("__debug__" : Str)) = false) (hcd : (v == ("__classdict__" : Str)) = false) (hg : Gl X "repr") (hm : X.mg "repr" = none)
    (hs : starEach [.Constant (.str z) j p2, .Call (.Name "repr" p5) [.Attribute (.Name v p1) n p6] [] p7] X.env = (false, eval (.Constant (.str z) j p2) X.env) :: starEach [.Call (.Name "repr" p5) [.Attribute (.Name v p1) n p6] [] p7] X.env := by rfl) :
    SuiteOk X [.Return (some (.Tuple [.Constant (.str z) j p2, .Call (.Name "repr" p5) [.Attribute (.Name v p1) n p6] [] p7] k p3)) p4] (tsCls i X.K (.rep z n)) := fun ea eo kl dd more hz hf => by
  refine ⟨fun pins s σ H D I h => ?_⟩
  obtain ⟨h0, C, da, fv, x, t, e1, e2, e3, e4, e5, e6, q⟩ := h
  refine (pss_one (ps_ret (pe_tup (pa_cons (X := X.suite ea ((ea, eo) :: more)) pe_str (pa_cons (pe_callB call_repr_flat hg hm (by rfl) (pa_cons (pe_at (C := C) hz hf hi hv e2 hd hcd) pa_nil) (by decide) (by decide)) pa_nil) hs)))).run pins s σ H D I ?_
  exact ⟨.ref ea, h0, rfl, e1, da, fv, x, e3, e4, e5, x, t, rfl, e6, le_line (by simp), q⟩
end
end DL
end

section
set_option Elab.async false
set_option linter.all false
set_option maxRecDepth 100000
set_option maxHeartbeats 4000000
/-! ES: _law_found with clauses that name the error. -/
namespace DL
open PySem PySem.Spec PyProof.Rows L2
def Clz.dn (fs : List (Str × D)) : Clz → Option D
  | .str z => some (.str z)
  | .tup _ [] => none
  | .tup z (n :: ns) => (Clz.tup z (n :: ns)).den fs
  | .rep z n => (Clz.rep z n).den fs
def wrapQ (w : Option Str) (Q : VK) : VK := fun v H => match w with
  | none => Q v H
  | some z => ∀ p, H p = none → Q (.ref p) (upd H p (.tup [.str z, v]))
def wFnd (K : PySem.W.Frag) (Q : VK) : List (Value × Clz) → Value → Option Addr → Hp → Prop
  | [], _, _, _ => False
  | (c, x) :: r, kl, dd, H => ∃ b, PySem.W.exmOne K kl c = some b ∧ (b = true → wCls K kl dd H Q x) ∧ (b = false → wFnd K Q r kl dd H)
def TCls (K : PySem.W.Frag) (w : Option Str) (hs : List (Value × Clz)) : (XK → Hp → VK → Prop) → Hp → VK → Prop := fun tl H Q => tl (fun kl dd H' => wFnd K Q hs kl dd H') H (wrapQ w Q)
def Clz.slot (i : Nat) : Clz → Option Nat
  | .str _ => none
  | _ => some i
/-- the clauses -/
inductive HdsC (X : Cx) (i : Nat) (v : Str) : List ExceptHandler → List (Value × Clz) → Prop
  | nil : HdsC X i v [] []
  | str {x z : Str} {c : Value} {j : Nat} {p1 p2 p3 p4 : Pos} {hds : List ExceptHandler} {l : List (Value × Clz)} (hc : Names X x c) (r : HdsC X i v hds l) :
      HdsC X i v (.ExceptHandler (some (.Name x p1)) none [.Return (some (.Constant (.str z) j p2)) p3] p4 :: hds) ((c, .str z) :: l)
  | tup {x z : Str} {c : Value} {j k : Nat} {p1 p2 p3 p4 p5 : Pos} {es : List PySem.Expr} {ns : List Str} {hds : List ExceptHandler} {l : List (Value × Clz)} (hc : Names X x c) (hat : AtL v es ns)
      (hse : starEach (.Constant (.str z) j p2 :: es) X.env = (false, eval (.Constant (.str z) j p2) X.env) :: starEach es X.env) (r : HdsC X i v hds l) :
      HdsC X i v (.ExceptHandler (some (.Name x p1)) (some v) [.Return (some (.Tuple (.Constant (.str z) j p2 :: es) k p3)) p4] p5 :: hds) ((c, .tup z ns) :: l)
  | rep {x z n : Str} {c : Value} {j k : Nat} {p1 p2 p3 p4 p5 p6 p7 p8 p9 : Pos} {hds : List ExceptHandler} {l : List (Value × Clz)} (hc : Names X x c) (hg : Gl X "repr") (hm : X.mg "repr" = none) (r : HdsC X i v hds l) :
      HdsC X i v (.ExceptHandler (some (.Name x p1)) (some v) [.Return (some (.Tuple [.Constant (.str z) j p2, .Call (.Name "repr" p5) [.Attribute (.Name v p8) n p6] [] p7] k p3)) p4] p9 :: hds) ((c, .rep z n) :: l)
theorem HdsC.ok {X : Cx} {i : Nat} {v : Str} {hds : List ExceptHandler} {l : List (Value × Clz)} (hi : X.N[i]? = some v) (hv : Vis X.env.scope v) (hl : X.env.kindOf v = some .local) (hd : (v == ("__debug__" : Str)) = false) (hcd : (v == ("__classdict__" : Str)) = false)
    (h : HdsC X i v hds l) : ClOk X hds (l.map fun p => (p.1, p.2.slot i, tsCls i X.K p.2)) := by
  induction h with
  | nil => exact .nil
  | str hc r ih => exact .bare hc suite_str ih
  | tup hc hat hse r ih => exact .named hc (suite_tup hi hv hd hcd hat hse) hi hl ih
  | rep hc hg hm r ih => exact .named hc (suite_rep hi hv hd hcd hg hm) hi hl ih
/-- the attributes that clauses read can be read -/
def XfT (K : PySem.W.Frag) (cl : Nat → Addr) (hs : List (Nat × Clz)) : Prop := ∀ c x, hs.lookup c = some x → x.attrs = [] ∨ XfAll K (cl c) x.attrs
/-- a def that tries the lambda that it gets -/
structure GtC (P : Program) (w : World) (K : PySem.W.Frag) (mg : Str → Option Value) (base : Heap) (cl : Nat → Addr) (cs : List Nat) (wr : Option Str) (hs : List (Nat × Clz)) (x : Str) : Prop where
  ex : ∃ (g : Addr) (a : Str) (pg : Arguments) (bg : List Stmt) (sg : Scope) (dV kV doc pm cdv ct oc : Value) (an od : Option Addr) (osl : Array (Option Value)) (Ng : List Str),
    mg x = some (.ref g) ∧ PySem.W.keepIn K (.ref g) = true ∧ K.lookup g = some ⟨oc, od, .func (PySem.W.fnOf x x pg bg sg dV kV doc pm an cdv ct), osl⟩ ∧ PySem.W.codeIn K cdv x = true ∧ L2.Binds K (PySem.W.fnOf x x pg bg sg dV kV doc pm an cdv ct) [a] [] ∧
    FnScope Ng [a] sg ∧ Ng[0]? = some a ∧ Vis sg a ∧ (a == ("__debug__" : Str)) = false ∧ (a == ("__classdict__" : Str)) = false ∧
    ∀ X : Cx, X.prog = P → X.w = w → X.K = K → X.mg = mg → X.base = base → ∀ q, LamX.GivesTo X Ng x sg g cdv bg a q (TCls X.K wr (hs.map fun p => (.ref (cl p.1), p.2)))
  m : ExM K cl cs (hs.map (·.1))
  xf : XfT K cl hs
section
variable {P : Program} {w : World} {K : PySem.W.Frag} {mg : Str → Option Value} {base : Heap} {cl : Nat → Addr}
end
end DL
end

section
set_option Elab.async false
set_option linter.all false
set_option maxRecDepth 100000
set_option maxHeartbeats 4000000
/-! ET: repr of numbers, truth values and None. -/
namespace DL
open PySem L2
section
variable {X : Cx} {cl : Nat → Addr} {W : WX} {a b e : PySem.Expr} {f fa fb : EF} {pos p1 : Pos} {x : Str}
end
theorem XfT.nil {K : PySem.W.Frag} {cl : Nat → Addr} : XfT K cl [] := fun _ _ h => by cases h
theorem XfT.cons {K : PySem.W.Frag} {cl : Nat → Addr} {c : Nat} {x : Clz} {r : List (Nat × Clz)} (h : x.attrs = [] ∨ XfAll K (cl c) x.attrs) (k : XfT K cl r) : XfT K cl ((c, x) :: r) := fun c' x' e => by
  rw [List.lookup_cons] at e
  split at e
  · rename_i hc
    cases e
    have : c' = c := by simpa using hc
    subst this
    exact h
  · exact k c' x' e
end DL
end

section
set_option Elab.async false
set_option linter.all false
set_option maxRecDepth 100000
set_option maxHeartbeats 4000000
/-! EU: zip of a list and a tuple. -/
namespace DL
open PySem PySem.Spec PyProof.Rows L2
section
variable {prog : Program} {w : World} {A : Around} {E : Value → Shared → Prop} {s : Shared}
variable {zo pi po ja jb la lb : Addr} {na nb : Nat} {us vs : Array Value} {u v p q : Value}
end
/-! ### as an iterator -/
section
variable {prog : Program} {w : World} {A : Around} {E : Value → Shared → Prop} {s : Shared}
end
end DL
end

section
set_option Elab.async false
set_option linter.all false
set_option maxRecDepth 100000
set_option maxHeartbeats 4000000
/-! EV: try as a statement, with clauses that return. -/
namespace DL
open PySem PySem.Spec PyProof.Rows L2
end DL
end

section
set_option Elab.async false
set_option linter.all false
set_option maxRecDepth 100000
set_option maxHeartbeats 4000000
/-! EW: len(dict(..)) of a list of pairs whose keys are ints, texts or flat tuples of them. -/
namespace PySem
open Sem (wp)
/-- a dict of n entries stands at d -/
def RawN (d : Addr) (n : Nat) (h : Heap) : Prop := (d == sysModules) = false ∧ n ≤ sizeLine ∧ ∃ o es ep, h.get? d = some o ∧ o.ExactDict ∧ o.data = .dict es ep ∧ es.size = n
theorem RawN.lt {d : Addr} {n : Nat} {h : Heap} (x : RawN d n h) : d < h.objs.size := let ⟨_, _, _, _, _, ho, _⟩ := x; Heap.lt_size ho
section
variable {prog : Program} {w : World} {A : Around} {E : Value → Shared → Prop} {s : Shared}
end
end PySem
namespace DL
open PySem PySem.Spec PyProof.Rows L2
section
variable {X : Cx}
end
/-! ### the rule -/
section
variable {T : Th} {F H : Hp} {al : Nat → Addr} {n : Nat} {K : PySem.W.Frag}
end
end DL
end

section
set_option Elab.async false
set_option linter.all false
/-! EX: room. -/
namespace DL
open PySem PySem.Spec PyProof.Rows L2
end DL
end

section
set_option Elab.async false
set_option linter.all false
set_option maxRecDepth 100000
set_option maxHeartbeats 4000000
/-! EY: repr of data, where the guards are known to be none. -/
namespace DL
open PySem PySem.Spec PyProof.Rows L2
mutual
theorem plain_noDict : ∀ {p : PyData}, p.plain = true → p.hasDict = false
  | .none, _ => rfl
  | .bool _, _ => rfl
  | .int _, _ => rfl
  | .str _, _ => rfl
  | .list xs, h => plainAll_noDict (xs := xs) (by unfold PyData.plain at h; exact h)
  | .tuple xs, h => plainAll_noDict (xs := xs) (by unfold PyData.plain at h; exact h)
  | .dict _, h => by cases h
theorem plainAll_noDict : ∀ {xs : List PyData}, PyData.plainAll xs = true → PyData.hasDictAll xs = false
  | [], _ => rfl
  | x :: xs, h => by
    unfold PyData.plainAll at h
    rw [Bool.and_eq_true] at h
    unfold PyData.hasDictAll
    rw [plain_noDict h.1, plainAll_noDict h.2]
    rfl
end
section
variable {X : Cx}
end
end DL
end

section
set_option Elab.async false
set_option linter.all false
set_option maxRecDepth 100000
set_option maxHeartbeats 4000000
/-! EZ: defs that may ask for repr: their promise holds where the guards are known to be none. -/
namespace DL
open PySem PySem.Spec PyProof.Rows
open L2 hiding St
def Calm (A : Around) : Prop := A.guards = some []
structure FnG (P : Program) (w : World) (K : PySem.W.Frag) (mg : Str → Option Value) (base : Heap) (k : Nat) (f : Addr) (fd : FuncData) (ps : List Str) (sp : Sp) : Prop where
  len : ∀ vs H Q E, sp vs H Q E → vs.length = ps.length
  run : ∀ (A : Around) (outer : List Env) (s : Shared) (H : Hp) (args : Args) (us : List Value) (vs : List V) (Q : VK) (E : XK), Room k A → Calm A → Env0 P w K mg base A outer s H → BindsTo s fd args (ps.zip us) → Vals vs us → sp vs H Q E →
    codeAny (model P w) A (.call (.ref f) args) (CR (L2.CX P w) outer P w H s Q E) s
section
variable {P : Program} {w : World} {K : PySem.W.Frag} {mg : Str → Option Value} {base : Heap} {j k : Nat} {f : Addr} {fd : FuncData} {ps : List Str} {sp sp' : Sp}
theorem FnG.of (F : FnOk P w K mg base (L2.CX P w) k f fd ps sp) : FnG P w K mg base k f fd ps sp := ⟨F.len, fun A outer s H args us vs Q E hr _ => F.run A outer s H args us vs Q E hr⟩
theorem FnG.mono (F : FnG P w K mg base j f fd ps sp) (h : j ≤ k) : FnG P w K mg base k f fd ps sp := ⟨F.len, fun A outer s H args us vs Q E hr => F.run A outer s H args us vs Q E (hr.mono h)⟩
theorem FnG.imp (F : FnG P w K mg base k f fd ps sp) (h : ∀ vs H Q E, sp' vs H Q E → sp vs H Q E) : FnG P w K mg base k f fd ps sp' :=
  ⟨fun vs H Q E q => F.len vs H Q E (h _ _ _ _ q), fun A outer s H args us vs Q E hr hg he hb hv hs => F.run A outer s H args us vs Q E hr hg he hb hv (h _ _ _ _ hs)⟩
end
/-- a def by its body, where the guards are none -/
theorem fnG_of {P : Program} {w : World} {K : PySem.W.Frag} {mg : Str → Option Value} {base : Heap} {k : Nat} {f : Addr} {name qual : Str} {params : Arguments} {body : List Stmt} {scope : Scope} {dV kV doc pm cdv ct oc : Value} {an od : Option Addr}
    {osl : Array (Option Value)} {N ps : List Str} {sp : Sp} (lk : K.lookup f = some ⟨oc, od, .func (PySem.W.fnOf name qual params body scope dV kV doc pm an cdv ct), osl⟩) (hcd : PySem.W.codeIn K cdv qual = true) (S : FnScope N ps scope)
    (len : ∀ vs H Q E, sp vs H Q E → vs.length = ps.length)
    (hbody : ∀ (A : Around) (outer : List Env) (s : Shared) (H : Hp) (vs : List V) (Q : VK) (E : XK), Room k (A.deeper (envOfC qual scope s.heap.objs.size f cdv)) → Calm A → sp vs H Q E →
      ∃ t, PSs (cxOf (L2.CX P w) P w K mg base N qual scope f cdv A outer s H E) body t ∧ t { nx := fun _ H' => Q .non H', rt := Q } (start N vs) H) :
    FnG P w K mg base (k + 1) f (PySem.W.fnOf name qual params body scope dV kV doc pm an cdv ct) ps sp := by
  constructor
  · exact len
  · intro A outer s H args us vs Q E room calm e0 bound vals want
    have hl := len _ _ _ _ want
    have up : ∀ b o, base.get? b = some o → s.heap.get? b = some o := fun b o e => (e0.bs b o e).1
    have KX : K.In s.heap := e0.mod.kin.keeps up
    have kinds : ∀ y ∈ ps.zip us, scope.names.lookup y.1 = some .local ∨ (scope.names.lookup y.1 = some .cell ∧ ((cellsFrom (s.heap.objs.size + 1) scope.names []).lookup y.1).isSome = true) := by
      rintro ⟨n, v⟩ hy
      exact (S.par n (List.of_mem_zip hy).1).imp id fun q => ⟨q, PySem.W.cellsFrom_some _ _ _ (.inl q)⟩
    refine codeAny_call_function room.depth (KX _ _ lk) rfl S.co S.gen rfl (PySem.W.codeRec_of KX hcd) (bound _ _ _ _ ?_)
    refine wpAny_newFunctionEnv_cells S.kind kinds fun env he s1 x => ?_
    subst he
    refine ⟨(e0.mod.nolimit.keeps up).keeps x.toInCall.keep, codeAny_func ?_⟩
    obtain ⟨t, ht, hq⟩ := hbody A outer s H vs Q E (room.deeper _) calm want
    have I := inv_start (CX := L2.CX P w) (E := E) S room.hd e0 hl vals x
    refine wpAny_mono (ht.run [] s1 (start N vs) H _ I hq) (fun fl s' hs => ?_) fun e s' hs => hs
    cases fl with
    | ret u =>
      obtain ⟨v, σ', H', J, rv, q⟩ := hs
      exact ⟨v, H', J.os, J.bare, J.base, J.hok, rv, q⟩
    | next =>
      obtain ⟨σ', H', J, q⟩ := hs
      exact ⟨V.non, H', J.os, J.bare, J.base, J.hok, rfl, q⟩
    | brk =>
      obtain ⟨_, _, _, q⟩ := hs
      exact q.elim
    | cont =>
      obtain ⟨_, _, _, q⟩ := hs
      exact q.elim
end DL
end

section
set_option Elab.async false
set_option linter.all false
set_option maxRecDepth 100000
set_option maxHeartbeats 4000000
/-! FA: xs[::-1] of a list. -/
namespace DL
open PySem PySem.Spec PyProof.Rows
open L2 hiding St
section
variable {X : Cx} {e : PySem.Expr} {te : TE} {p1 p2 p3 pos : Pos} {j : Nat}
end

section
variable {X : Cx} {cl : Nat → Addr} {W : WX} {a : PySem.Expr} {fa : EF} {pos p1 p2 p3 : Pos} {j : Nat}
end

/-! ### a text, no times or once -/
end DL
end

section
set_option Elab.async false
set_option linter.all false
set_option maxRecDepth 100000
set_option maxHeartbeats 4000000
/-! FB: a list of the store that a call may only look at: frozen while the call runs, changeable again behind it. -/
namespace DL
open PySem PySem.Spec PyProof.Rows
open L2 hiding St
/-- the kind of data -/
def kD : D → Option Nat
  | .non => some 0
  | .bl _ => some 1
  | .int _ => some 2
  | .str _ => some 3
  | .lst _ => some 4
  | .tup _ => some 5
  | _ => none
/-- these can't be the same list -/
def hdif : List D → List D → Bool
  | [], [] => false
  | [], _ :: _ => true
  | _ :: _, [] => true
  | x :: _, y :: _ => match kD x, kD y with
    | some i, some j => i != j
    | _, _ => false
mutual
/-- no list within is the list l -/
def sepD (l : List D) : D → Bool
  | .non => true
  | .bl _ => true
  | .int _ => true
  | .str _ => true
  | .lst l' => hdif l l' && sepL l l'
  | .tup l' => sepL l l'
  | .dct [] => true
  | .dct _ => false
  | .exn _ _ => false
  | .ins _ fs => sepF l fs
  | .obj _ => true
  | .frl _ => false
  | .frt _ => false
def sepL (l : List D) : List D → Bool
  | [] => true
  | d :: ds => sepD l d && sepL l ds
def sepF (l : List D) : List (Str × D) → Bool
  | [] => true
  | (_, d) :: ds => sepD l d && sepF l ds
end
/-- without an address -/
def delA (F : Hp) (a : Addr) : Hp := fun b => if b = a then none else F b
theorem delA_ne {F : Hp} {a b : Addr} (h : b ≠ a) : delA F a b = F b := if_neg h
section
variable {T : Th} {F F' H H' : Hp} {al al' : Nat → Addr} {n : Nat}
theorem kD_rp {v : V} {x y : D} {i j : Nat} (r1 : Rp T F al n v x) (r2 : Rp T F al n v y) (h1 : kD x = some i) (h2 : kD y = some j) : i = j := by
  cases x <;> cases h1 <;> cases y <;> cases h2 <;> first
    | rfl
    | (cases r1 <;> cases r2 <;> done)
    | (cases r1 with
       | lst a1 _ => cases r2 with
         | tup a2 _ => rw [a1] at a2; cases a2)
    | (cases r1 with
       | tup a1 _ => cases r2 with
         | lst a2 _ => rw [a1] at a2; cases a2)
theorem hdif_ne {xs : List V} {l l' : List D} (h : hdif l l' = true) (r1 : RpL T F al n xs l) (r2 : RpL T F al n xs l') : False := by
  cases r1 with
  | nil => cases r2; cases h
  | @cons v vs d ds r1 t1 =>
    cases r2 with
    | @cons _ _ d' ds' r2 t2 =>
      have h' : (match kD d, kD d' with
        | some i, some j => i != j
        | _, _ => false) = true := h
      cases e1 : kD d with
      | none => rw [e1] at h'; cases h'
      | some i =>
        cases e2 : kD d' with
        | none => rw [e1, e2] at h'; cases h'
        | some j =>
          rw [e1, e2] at h'
          have := kD_rp r1 r2 e1 e2
          subst this
          simp at h'
mutual
theorem sepD_rp {l : List D} {a : Addr} {xs : List V} (ha : F a = some (.lst xs)) (hr : RpL T F al n xs l) : ∀ {d : D} {v : V}, sepD l d = true → Rp T F al n v d → Rp T (delA F a) al n v d
  | .non, _, _, h => by cases h; exact .non
  | .bl b, _, _, h => by cases h; exact .bl b
  | .int i, _, _, h => by cases h; exact .int i
  | .str x, _, _, h => by cases h; exact .str x
  | .obj k, _, _, h => by cases h with | obj h => exact .obj h
  | .frl _, _, s, _ => by cases s
  | .frt _, _, s, _ => by cases s
  | .exn _ _, _, s, _ => by cases s
  | .dct (_ :: _), _, s, _ => by cases s
  | .dct [], _, _, h => by
    cases h with
    | @dct b h1 => exact .dct (by rw [delA_ne fun z => by subst z; rw [ha] at h1; cases h1]; exact h1)
  | .tup ds, _, s, h => by
    cases h with
    | @tup b ys _ h1 h2 => exact .tup (by rw [delA_ne fun z => by subst z; rw [ha] at h1; cases h1]; exact h1) (sepL_rp ha hr (by unfold sepD at s; exact s) h2)
  | .ins c fs, _, s, h => by
    cases h with
    | @ins b dx _ ys _ h0 h1 h2 => exact .ins h0 (by rw [delA_ne fun z => by subst z; rw [ha] at h1; cases h1]; exact h1) (sepF_rp ha hr (by unfold sepD at s; exact s) h2)
  | .lst ds, _, s, h => by
    unfold sepD at s
    rw [Bool.and_eq_true] at s
    cases h with
    | @lst b ys _ h1 h2 =>
      refine .lst ?_ (sepL_rp ha hr s.2 h2)
      rw [delA_ne fun z => ?_]
      · exact h1
      · subst z
        rw [ha] at h1
        cases h1
        exact hdif_ne s.1 hr h2
theorem sepL_rp {l : List D} {a : Addr} {xs : List V} (ha : F a = some (.lst xs)) (hr : RpL T F al n xs l) : ∀ {ds : List D} {vs : List V}, sepL l ds = true → RpL T F al n vs ds → RpL T (delA F a) al n vs ds
  | [], _, _, h => by cases h; exact .nil
  | d :: ds, _, s, h => by
    unfold sepL at s
    rw [Bool.and_eq_true] at s
    cases h with
    | cons h1 h2 => exact .cons (sepD_rp ha hr s.1 h1) (sepL_rp ha hr s.2 h2)
theorem sepF_rp {l : List D} {a : Addr} {xs : List V} (ha : F a = some (.lst xs)) (hr : RpL T F al n xs l) : ∀ {ds : List (Str × D)} {vs : List (Str × V)}, sepF l ds = true → RpF T F al n vs ds → RpF T (delA F a) al n vs ds
  | [], _, _, h => by cases h; exact .nil
  | (x, d) :: ds, _, s, h => by
    unfold sepF at s
    rw [Bool.and_eq_true] at s
    cases h with
    | cons h1 h2 => exact .cons (sepD_rp ha hr s.1 h1) (sepF_rp ha hr s.2 h2)
end
end
section
variable {X : Cx} {cl : Nat → Addr} {W : WX} {e : PySem.Expr} {f : EF}
end
end DL
end

section
set_option Elab.async false
set_option linter.all false
set_option maxRecDepth 100000
set_option maxHeartbeats 4000000
/-! FC: the end of a law whose promise asks that the guards are none. -/
namespace DL
open PySem PySem.Spec PyProof.Rows
open L2 hiding St
abbrev tabO : Obj := { cls := .none, data := .fields #[] }
abbrev lstO (vs : List Value) : Obj := { cls := .type "list", data := .seq vs.toArray }
section
variable {P : Program} {w : World} {K : PySem.W.Frag} {mg mb : Str → Option Value} {k : Nat} {fa a : Addr} {cs : List (Addr × Addr)} {fd : FuncData} {x : Str} {sp : Sp} {sh : Shared} {vs : List Value} {ns : List Int}
/-- what is asked at the call -/
structure GEnd (P : Program) (w : World) (K : PySem.W.Frag) (mg mb : Str → Option Value) (k : Nat) (fa a : Addr) (cs : List (Addr × Addr)) (fd : FuncData) (x : Str) (sp : Sp) (sh : Shared) (vs : List Value) (ns : List Int) : Prop where
  KX : K.In sh.heap
  glob : sh.heap.Ns mainGlobals mg
  blt : sh.heap.Ns builtinsNs mb
  boot : ∀ y : Str, y ≠ "__name__" → mb y = bootBuiltins y
  lim : sh.heap.NoLimit
  gens : sh.gens = #[]
  tabs : ∀ p ∈ cs, sh.heap.get? p.2 = some tabO
  notK : ∀ p ∈ cs, K.lookup p.2 = none
  code : ∀ p ∈ cs, PySem.W.CodeHd sh.heap p.1 p.2
  bmod : ∃ (m : Addr) (o : Obj), mg "__builtins__" = some (.ref m) ∧ m ≠ builtinsNs ∧ sh.heap.get? m = some o ∧ o.cls = .type "module" ∧ o.dict = some builtinsNs ∧ o.data = .plain
  arg : sh.heap.get? a = some (lstO vs)
  isI : IntsAre vs ns
  few : ns.length ≤ sizeLine
  room : Room k callerA
  run : ∀ base : Heap, K.In base → base.Ns mainGlobals mg → (∀ p ∈ cs, LamX.TabB base mg p.1 p.2) → FnG P w K mg base k fa fd [x] sp
  bind : ∀ (s : Shared) (u : Value), BindsTo s fd ⟨[u], []⟩ [(x, u)]
  want : ∀ H : Hp, (∀ p ∈ cs, H p.2 = some (.tbl #[])) → SqL K H a (ns.map V.int) → sp [.ref a] H (fun v _ => v = .bl true) fun _ _ _ => False
/-- an abstract heap in which at most the script and the tables are tracked -/
structure Slim (P : Program) (w : World) (K : PySem.W.Frag) (a : Addr) (cs : List (Addr × Addr)) (sh : Shared) (ns : List Int) (H : Hp) : Prop where
  tab : ∀ p ∈ cs, H p.2 = some (.tbl #[])
  kind : ∀ b, H b = none ∨ (∃ p ∈ cs, p.2 = b) ∨ ∃ o l, H b = some (.frz o (.lst l))
  scr : SqL K H a (ns.map V.int)
  ok : HOk P w H sh.heap
  few : ∀ b, H b ≠ none → b = a ∨ ∃ p ∈ cs, p.2 = b
  notK : H a ≠ none → K.lookup a = none
theorem Slim.hid {H : Hp} (g : GEnd P w K mg mb k fa a cs fd x sp sh vs ns) (t : Slim P w K a cs sh ns H) {b : Addr} {o : Obj} (e : sh.heap.get? b = some o) (n1 : ∀ l m, o.data ≠ .seq l m) (n2 : o.data ≠ .fields #[]) : (hidT sh.heap H).get? b = some o := by
  refine hidT_get e (Classical.byContradiction fun hne => ?_)
  rcases t.few b hne with rfl | ⟨p, hp, rfl⟩
  · have z := g.arg.symm.trans e
    injection z with z
    exact n1 _ _ (by rw [← z])
  · have z := (g.tabs p hp).symm.trans e
    injection z with z
    exact n2 (by rw [← z])
theorem Slim.hidNs {H : Hp} (g : GEnd P w K mg mb k fa a cs fd x sp sh vs ns) (t : Slim P w K a cs sh ns H) {b : Addr} {m : Str → Option Value} (h : sh.heap.Ns b m) : (hidT sh.heap H).Ns b m := by
  obtain ⟨o, es, ep, h1, h2, h3⟩ := h
  refine ⟨o, es, ep, t.hid g h1 (fun l n z => ?_) (fun z => ?_), h2, h3⟩
  · rw [h2] at z; injection z
  · rw [h2] at z; injection z
theorem Slim.hidK {H : Hp} (g : GEnd P w K mg mb k fa a cs fd x sp sh vs ns) (t : Slim P w K a cs sh ns H) : K.In (hidT sh.heap H) := by
  intro b o hb
  refine hidT_get (g.KX b o hb) (Classical.byContradiction fun hne => ?_)
  rcases t.few b hne with rfl | ⟨p, hp, rfl⟩
  · have z := (t.notK hne).symm.trans hb
    injection z
  · have z := (g.notK p hp).symm.trans hb
    injection z
theorem Slim.hidMod {H : Hp} (g : GEnd P w K mg mb k fa a cs fd x sp sh vs ns) (t : Slim P w K a cs sh ns H) : L2.Mod K mg (hidT sh.heap H) := by
  refine ⟨t.hidK g, t.hidNs g g.glob, ⟨mb, t.hidNs g g.blt, g.boot⟩, ?_⟩
  obtain ⟨m, h1, h2⟩ := g.lim
  exact ⟨m, t.hidNs g h1, h2⟩
theorem Slim.hidTab {H : Hp} (g : GEnd P w K mg mb k fa a cs fd x sp sh vs ns) (t : Slim P w K a cs sh ns H) (p : Addr × Addr) (hp : p ∈ cs) : LamX.TabB (hidT sh.heap H) mg p.1 p.2 := by
  have atP := g.tabs p hp
  constructor
  · obtain ⟨o, us, file, tf, fl, tg, inF, tx, tt, g1, d1, d2, d3, d4, d5, d6, d7, d8, d9⟩ := g.code p hp
    refine ⟨o, us, file, tf, fl, tg, inF, tx, tt, t.hid g g1 (fun l n z => ?_) (fun z => ?_), d1, d2, d3, d4, d5, d6, d7, d8, d9⟩
    · rw [d2] at z; injection z
    · rw [d2] at z
      injection z with z
      rw [z] at d3
      simp at d3
  · obtain ⟨m, o, h1, h2, h3, h4, h5, h6⟩ := g.bmod
    have n1 : m ≠ mainGlobals := by
      rintro rfl
      obtain ⟨o', _, _, g1, g2, _⟩ := g.glob
      have z := h3.symm.trans g1
      injection z with z
      subst z
      rw [h6] at g2
      injection g2
    have n2 : m ≠ p.2 := by
      rintro rfl
      have z := h3.symm.trans atP
      injection z with z
      subst z
      injection h6
    refine ⟨m, o, h1, h2, n1, n2, t.hid g h3 (fun l n z => ?_) (fun z => ?_), h4, h5, h6⟩
    · rw [h6] at z; injection z
    · rw [h6] at z; injection z
  · intro z
    obtain ⟨o', _, _, g1, g2, _⟩ := g.glob
    rw [z] at g1
    have z2 := g1.symm.trans atP
    injection z2 with z2
    subst z2
    injection g2
theorem Slim.done {H : Hp} (g : GEnd P w K mg mb k fa a cs fd x sp sh vs ns) (t : Slim P w K a cs sh ns H) :
    codeAny (model P w) callerA (.call (.ref fa) ⟨[.ref a], []⟩) (fun r s' => r = .ok (.ret (.bool true)) ∧ OldK sh.heap s'.heap ∧ s'.os = sh.os ∧ AllBare s'.gens) sh := by
  have env : Env0 P w K mg (hidT sh.heap H) callerA [] sh H := by
    refine ⟨rfl, t.hidMod g, fun b o h => of_hidT h, ?_, trivial, fun b h => ?_, t.ok, .of_eq g.gens⟩
    · rw [hidT_size]; exact Nat.le_refl _
    · exact absurd (show b ∈ ([] : List Addr) from h) List.not_mem_nil
  have F := g.run (hidT sh.heap H) (t.hidK g) (t.hidNs g g.glob) (t.hidTab g)
  have go := F.run callerA [] sh H ⟨[.ref a], []⟩ [.ref a] [.ref a] (fun v _ => v = .bl true) (fun _ _ _ => False) g.room rfl env (g.bind sh (.ref a)) (.cons rfl .nil) (g.want H t.tab t.scr)
  refine codeAny_mono go fun r s' hr => ?_
  match r, hr with
  | .error e, hr =>
    obtain ⟨_, _, _, _, _, _, _, _, _, _, _, _, hE⟩ := hr
    exact hE.elim
  | .ok .next, hr => exact hr.elim
  | .ok .brk, hr => exact hr.elim
  | .ok .cont, hr => exact hr.elim
  | .ok (.ret u), hr =>
    obtain ⟨v, H', h1, h2, U, h4, h5, h6⟩ := hr
    have h6 : v = .bl true := h6
    subst h6
    have h5 : u = Value.bool true := h5
    subst h5
    have same : ∀ b o, (∀ p ∈ cs, p.2 ≠ b) → sh.heap.get? b = some o → s'.heap.get? b = some o := fun b o nb e => by
      rcases t.kind b with n | ⟨p, hp, z⟩ | ⟨o', l, z⟩
      · exact U.keep b o e n (fun z => absurd (show b ∈ ([] : List Addr) from z) List.not_mem_nil) List.not_mem_nil
      · exact absurd z (nb p hp)
      · have q1 := (t.ok b _ z).1
        have q2 := (h4 b _ (U.frzs b o' _ z)).1
        rw [← e, q1]
        exact q2
    have more : ∀ p ∈ cs, ∃ l : Array Value, s'.heap.get? p.2 = some { cls := .none, data := .fields l } := fun p hp => by
      obtain ⟨l, hl⟩ := U.tbls p.2 #[] (t.tab p hp)
      exact ⟨#[] ++ l, h4 p.2 _ hl⟩
    have split : ∀ b, (∃ p ∈ cs, p.2 = b) ∨ ∀ p ∈ cs, p.2 ≠ b := fun b => by
      by_cases hb : ∃ p ∈ cs, p.2 = b
      · exact .inl hb
      · exact .inr fun p hp z => hb ⟨p, hp, z⟩
    refine ⟨rfl, ⟨fun b o e => ?_, fun b o e => ?_⟩, h1, h2⟩
    · rcases split b with ⟨p, hp, rfl⟩ | nb
      · have z := (g.tabs p hp).symm.trans e
        injection z with z
        subst z
        obtain ⟨l, hl⟩ := more p hp
        refine .inr (.inl ⟨((g.code p hp).tab (g.tabs p hp)).isCodeTable, rfl, #[], l, rfl, ?_⟩)
        rw [hl, Array.empty_append]
      · exact .inl (same b o nb e)
    · rcases split b with ⟨p, hp, rfl⟩ | nb
      · obtain ⟨l, hl⟩ := more p hp
        exact ⟨_, hl⟩
      · exact ⟨o, same b o nb e⟩
theorem tabs_if {b : Addr} (h : ∃ p ∈ cs, p.2 = b) : (if b ∈ cs.map (·.2) then some (HO.tbl #[]) else none) = some (HO.tbl #[]) := by
  obtain ⟨p, hp, rfl⟩ := h
  exact if_pos (List.mem_map_of_mem hp)
theorem mem_tabs {b : Addr} (h : b ∈ cs.map (·.2)) : ∃ p ∈ cs, p.2 = b := by
  obtain ⟨p, hp, z⟩ := List.mem_map.mp h
  exact ⟨p, hp, z⟩
/-- there is one -/
theorem slim_any (g : GEnd P w K mg mb k fa a cs fd x sp sh vs ns) : ∃ H, Slim P w K a cs sh ns H := by
  have rl := vals_ints g.isI
  have ln := g.isI.length
  have off : a ∉ cs.map (·.2) := fun hq => by
    obtain ⟨p, hp, z⟩ := mem_tabs hq
    have e := g.tabs p hp
    rw [z, g.arg] at e
    injection e with e
    injection congrArg Obj.data e
  by_cases hk : K.lookup a = none
  · refine ⟨fun b => if b = a then some (.frz (lstO vs) (.lst (ns.map V.int))) else if b ∈ cs.map (·.2) then some (.tbl #[]) else none, fun p hp => ?_, fun b => ?_, .inl (.inr ⟨lstO vs, if_pos rfl⟩), fun b u z => ?_, fun b z => ?_, fun _ => hk⟩
    · have hm : p.2 ∈ cs.map (·.2) := List.mem_map_of_mem hp
      show (if p.2 = a then _ else if p.2 ∈ cs.map (·.2) then _ else _) = _
      rw [if_neg (fun z : p.2 = a => off (by rw [← z]; exact hm)), if_pos hm]
    · try dsimp only
      by_cases h1 : b = a
      · exact .inr (.inr ⟨lstO vs, _, if_pos h1⟩)
      · rw [if_neg h1]
        by_cases h2 : b ∈ cs.map (·.2)
        · exact .inr (.inl (mem_tabs h2))
        · exact .inl (if_neg h2)
    · try dsimp only at z
      by_cases h1 : b = a
      · rw [if_pos h1] at z
        injection z with z
        subst z h1
        exact ⟨g.arg, by rw [List.length_map]; exact g.few, vs, _, rl, g.arg⟩
      · rw [if_neg h1] at z
        by_cases h2 : b ∈ cs.map (·.2)
        · rw [if_pos h2] at z
          injection z with z
          subst z
          obtain ⟨p, hp, rfl⟩ := mem_tabs h2
          exact g.tabs p hp
        · rw [if_neg h2] at z
          injection z
    · try dsimp only at z
      by_cases h1 : b = a
      · exact .inl h1
      · rw [if_neg h1] at z
        by_cases h2 : b ∈ cs.map (·.2)
        · exact .inr (mem_tabs h2)
        · exact absurd (if_neg h2) z
  · obtain ⟨o, ho⟩ := Option.ne_none_iff_exists'.mp hk
    have eo : o = lstO vs := by
      have e := (g.KX a o ho).symm.trans g.arg
      injection e
    subst eo
    refine ⟨fun b => if b ∈ cs.map (·.2) then some (.tbl #[]) else none, fun p hp => tabs_if ⟨p, hp, rfl⟩, fun b => ?_, .inr ⟨_, vs.toArray, _, ho, rfl, rfl, rfl, ?_, ?_⟩, fun b u z => ?_, fun b z => ?_, fun z => ?_⟩
    · try dsimp only
      by_cases h2 : b ∈ cs.map (·.2)
      · exact .inr (.inl (mem_tabs h2))
      · exact .inl (if_neg h2)
    · rw [List.size_toArray, ln]
      exact g.few
    · simpa using rl
    · try dsimp only at z
      by_cases h2 : b ∈ cs.map (·.2)
      · rw [if_pos h2] at z
        injection z with z
        subst z
        obtain ⟨p, hp, rfl⟩ := mem_tabs h2
        exact g.tabs p hp
      · rw [if_neg h2] at z
        injection z
    · try dsimp only at z
      by_cases h2 : b ∈ cs.map (·.2)
      · exact .inr (mem_tabs h2)
      · exact absurd (if_neg h2) z
    · try dsimp only at z
      exact absurd (if_neg off) z
end
/-- what a law's def promises, where the guards are none -/
def LawG (l : PySem.W.OpenLaw) (w : World) (K : PySem.W.Frag) (k n : Nat) (x : Str) (mg : Str → Option Value) (fa : Addr) (h : Heap) : Prop :=
  ∃ (fd : FuncData) (cs : List (Addr × Addr)) (sp : Sp), (∀ p ∈ cs, h.get? p.2 = some tabO) ∧ (∀ p ∈ cs, K.lookup p.2 = none) ∧ (∀ p ∈ cs, PySem.W.CodeHd h p.1 p.2) ∧ (∀ (s : Shared) (u : Value), BindsTo s fd ⟨[u], []⟩ [(x, u)]) ∧
    (∀ (H : Hp) (a : Addr) (ns : List Int), ns.length ≤ n → (∀ p ∈ cs, H p.2 = some (.tbl #[])) → SqL K H a (ns.map V.int) → sp [.ref a] H (fun v _ => v = .bl true) fun _ _ _ => False) ∧
    (∀ base : Heap, K.In base → base.Ns mainGlobals mg → (∀ p ∈ cs, LamX.TabB base mg p.1 p.2) → FnG l.prog w K mg base k fa fd [x] sp)
theorem walk_ofG {l : PySem.W.OpenLaw} {n k : Nat} {q : Program} {loose : List Str} {XP : (Str → Option Value) → Heap → Prop} {YP : World → Heap → Prop} {d : DefRec} {x : Str} (hn : l.most = some n) (hz : n ≤ sizeLine) (hdf : d.params.defaults = []) (hr : Room k callerA)
    (F : ∀ (w : World) (mg : Str → Option Value) (fa : Addr) (h : Heap), YP w h → h.Ns mainGlobals mg → mg d.name = some (.ref fa) → ∃ K : PySem.W.Frag, K.In h ∧ LawG l w K k n x mg fa h) : PySem.W.WalkO q loose XP YP l.row.toRowW d [] (fun f vs => PySem.call f vs) := by
  apply Att.attach_callB hn hdf
  intro w s0 sh mg mb fa o pm cd doc a vs ns G Y ho hd hcd hmg harg hints hfew _ hgens
  obtain ⟨K, KX, fd, cs, sp, t1, t2, t3, hb, hsp, hF⟩ := F w mg fa _ Y G.T.g hmg
  have g : GEnd l.prog w K mg mb k fa a cs fd x sp sh vs ns := {
    KX := KX, glob := G.T.g, blt := G.T.b, boot := G.T.builtins, lim := G.T.nolimit, gens := hgens, tabs := t1, notK := t2, code := t3, bmod := G.T.bmain, arg := harg, isI := hints, few := Nat.le_trans hfew hz, room := hr, run := hF, bind := hb, want := fun H h1 h2 => hsp H a ns hfew h1 h2 }
  obtain ⟨H, t⟩ := slim_any g
  exact t.done g
end DL
end

section
set_option Elab.async false
set_option linter.all false
set_option maxRecDepth 100000
set_option maxHeartbeats 4000000
/-! FD: defs, methods and calls where the guards are none; repr. -/
namespace DL
open PySem PySem.Spec PyProof.Rows
open L2 hiding St
/-- a promise at one place alone -/
structure Fn1 (P : Program) (w : World) (K : PySem.W.Frag) (mg : Str → Option Value) (base : Heap) (A : Around) (k : Nat) (f : Addr) (fd : FuncData) (ps : List Str) (sp : Sp) : Prop where
  len : ∀ vs H Q E, sp vs H Q E → vs.length = ps.length
  run : ∀ (outer : List Env) (s : Shared) (H : Hp) (args : Args) (us : List Value) (vs : List V) (Q : VK) (E : XK), Room k A → Env0 P w K mg base A outer s H → BindsTo s fd args (ps.zip us) → Vals vs us → sp vs H Q E →
    codeAny (model P w) A (.call (.ref f) args) (CR (L2.CX P w) outer P w H s Q E) s
section
variable {P : Program} {w : World} {K : PySem.W.Frag} {mg : Str → Option Value} {base : Heap} {cl : Nat → Addr} {j k : Nat} {f : Addr} {fd : FuncData} {ps : List Str} {sp : Sp} {A : Around}
/-- a def by its body -/
theorem fnG_body {x qual : Str} {params : Arguments} {body : List PySem.Stmt} {scope : Scope} {N : List Str} {g : SF} (F : FunD K x qual params body scope [] [] f fd) (S : FnScope N ps scope)
    (hb : ∀ (cdv : Value) (A : Around) (outer : List Env) (s : Shared) (H : Hp) (E : XK) (n : En), Room k (A.deeper (PyProof.Rows.envOfC qual scope s.heap.objs.size f cdv)) → Calm A →
      DSs (cxOf (L2.CX P w) P w K mg base N qual scope f cdv A outer s H E) cl (fun c d _ H' => E c d H') n body g) :
    FnG P w K mg base (k + 1) f fd ps (spD ⟨K, cl⟩ ps.length (dFun N.length g)) := by
  obtain ⟨oc, od, dV, kV, doc, pm, an, cdv, ct, osl, rfl, lk, hcd, _, _⟩ := F.ex
  refine fnG_of lk hcd S (fun vs H Q E h => ?_) fun A outer s H vs Q E hr hc h => ?_
  · obtain ⟨_, _, _, ds, _, r, hl, _⟩ := h
    rw [RpL.len r, hl]
  · obtain ⟨n, q⟩ := body_of (N := N) h
    exact ⟨_, hb cdv A outer s H E n hr hc, q⟩
end
structure GfG (P : Program) (w : World) (K : PySem.W.Frag) (mg : Str → Option Value) (base : Heap) (cl : Nat → Addr) (k : Nat) (x : Str) (np : Nat) (p : FF) : Prop where
  ex : ∃ (f : Addr) (fd : FuncData) (ps : List Str), FnG P w K mg base k f fd ps (spD ⟨K, cl⟩ np p) ∧ mg x = some (.ref f) ∧ PySem.W.keepIn K (.ref f) = true ∧ L2.Binds K fd ps []
structure GmG (P : Program) (w : World) (K : PySem.W.Frag) (mg : Str → Option Value) (base : Heap) (cl : Nat → Addr) (k c : Nat) (m : Str) (np : Nat) (p : FF) : Prop where
  ex : ∃ (f : Addr) (fd : FuncData) (ps : List Str), FnG P w K mg base k f fd ps (spD ⟨K, cl⟩ np p) ∧ Meth K (cl c) m f ∧ Cls K (cl c) ∧ L2.Binds K fd ps []
section
variable {P : Program} {w : World} {K : PySem.W.Frag} {mg : Str → Option Value} {base : Heap} {cl : Nat → Addr} {j k c np : Nat} {x m : Str} {p : FF}
theorem GfG.mono (g : GfG P w K mg base cl j x np p) (h : j ≤ k) : GfG P w K mg base cl k x np p := by
  obtain ⟨f, fd, ps, hf, r⟩ := g.ex
  exact ⟨f, fd, ps, hf.mono h, r⟩
theorem GfG.gc (g : GfG P w K mg base cl k x np p) : GfG P w K mg base cl k x np (fGc p) := by
  obtain ⟨f, fd, ps, hf, r⟩ := g.ex
  exact ⟨f, fd, ps, hf.imp spD_gc, r⟩
theorem GmG.mono (g : GmG P w K mg base cl j c m np p) (h : j ≤ k) : GmG P w K mg base cl k c m np p := by
  obtain ⟨f, fd, ps, hf, r⟩ := g.ex
  exact ⟨f, fd, ps, hf.mono h, r⟩
end
section
variable {X : Cx} {cl : Nat → Addr} {W : WX} {a b e : PySem.Expr} {es : List PySem.Expr} {f fa fb : EF} {pos p1 : Pos} {x m : Str} {k c np : Nat} {p : FF}
end
end DL
end

section
set_option Elab.async false
set_option linter.all false
set_option maxRecDepth 100000
set_option maxHeartbeats 4000000
/-! FE: a tuple, no times, once or more often; a slice as a list of its own. -/
namespace DL
open PySem PySem.Spec PyProof.Rows
open L2 hiding St
section
variable {X : Cx}
end
section
variable {X : Cx} {cl : Nat → Addr} {W : WX} {a : PySem.Expr} {fa : EF} {lo hi : Option PySem.Expr} {pos p2 : Pos}
end
end DL
end

section
set_option Elab.async false
set_option linter.all false
set_option maxRecDepth 100000
set_option maxHeartbeats 4000000
/-! FF: a call that sees the first objects of the store alone. -/
namespace DL
open PySem PySem.Spec PyProof.Rows
open L2 hiding St
def hidS (q : Nat) (mu : Store) : Store := mu.take q ++ (mu.drop q).map fun _ => none
def hidO (q : Nat) (mu : Store) (o : Out D) : Out D := match o with
  | .ok d mu1 => if decide (q ≤ mu.length) && (clD mu.length d && (mu1.take q).all (clM mu.length)) then .ok d (mu1.take q ++ mu.drop q) else .bad
  | .ex c fs mu1 => if decide (q ≤ mu.length) && (clF mu.length fs && (mu1.take q).all (clM mu.length)) then .ex c fs (mu1.take q ++ mu.drop q) else .bad
  | .bad => .bad
def fHid (q : Nat) (p : FF) : FF := fun ds mu => hidO q mu (p ds (hidS q mu))
section
variable {T : Th} {F F1 H H1 : Hp} {al al1 : Nat → Addr} {mu mu1 : Store} {q : Nat}
theorem hidS_len : (hidS q mu).length = mu.length := by
  unfold hidS
  rw [List.length_append, List.length_map, List.length_take, List.length_drop]
  omega
theorem hidS_get {k : Nat} {m : MO} (h : (hidS q mu)[k]? = some (some m)) : k < q ∧ mu[k]? = some (some m) := by
  unfold hidS at h
  by_cases hk : k < (mu.take q).length
  · rw [List.getElem?_append_left hk] at h
    exact take_get h
  · rw [List.getElem?_append_right (by omega), List.getElem?_map] at h
    cases e : (mu.drop q)[k - (mu.take q).length]? with
    | none => rw [e] at h; cases h
    | some _ => rw [e] at h; cases h
theorem back_get {k : Nat} {m : MO} (hq : q ≤ mu.length) (hl : mu.length ≤ mu1.length) (h : (mu1.take q ++ mu.drop q)[k]? = some (some m)) : (k < q ∧ mu1[k]? = some (some m)) ∨ (q ≤ k ∧ mu[k]? = some (some m)) := by
  have ln : (mu1.take q).length = q := by rw [List.length_take]; omega
  by_cases hk : k < q
  · rw [List.getElem?_append_left (by omega)] at h
    exact .inl ⟨hk, (take_get h).2⟩
  · rw [List.getElem?_append_right (by omega), List.getElem?_drop, ln] at h
    exact .inr ⟨by omega, by rwa [show q + (k - q) = k from by omega] at h⟩
theorem Mus.hid (M : Mus T F al mu H) : Mus T F al (hidS q mu) H :=
  ⟨M.sub, fun k m e => by rw [hidS_len]; exact M.at_ k m (hidS_get e).2, fun k m k' m' e e' => M.inj k m k' m' (hidS_get e).2 (hidS_get e').2, M.tab, M.nt⟩
theorem Ext.hid (M : Mus T F al mu H) (hq : q ≤ mu.length) (x : Ext T F al (hidS q mu) H F1 al1 mu1 H1) (c : (mu1.take q).all (clM mu.length) = true) : Ext T F al mu H F1 al1 (mu1.take q ++ mu.drop q) H1 := by
  have hl : mu.length ≤ mu1.length := by rw [← hidS_len (q := q)]; exact x.ln
  have ln : (mu1.take q ++ mu.drop q).length = mu.length := by
    rw [List.length_append, List.length_take, List.length_drop]
    omega
  have als : ∀ k, k < mu.length → al1 k = al k := fun k hk => x.als k (by rw [hidS_len]; exact hk)
  have live : ∀ {k : Nat} {m : MO}, mu[k]? = some (some m) → ¬ Fre H (al k) := fun {k m} e z => by
    obtain ⟨_, o, h2, h3⟩ := M.at_ k m e
    exact z.no h2 h3.noTab.1
  have apart : ∀ {j k : Nat} {m m' : MO}, q ≤ k → mu[k]? = some (some m) → (hidS q mu)[j]? = some (some m') → al j ≠ al k := fun {j k m m'} hk e e' z => by
    have h := hidS_get e'
    have := M.inj j m' k m h.2 e z
    omega
  refine ⟨⟨x.mus.sub, fun k m e => ?_, fun k m k' m' e e' z => ?_, x.mus.tab, x.mus.nt⟩, x.sub, fun a o e => ?_, fun a o e t ne => x.keep a o e t fun k m e' => ne k m (hidS_get e').2, x.there, als, by rw [ln]; exact Nat.le_refl _, fun k m e => ?_⟩
  · rw [ln]
    rcases back_get hq hl e with ⟨hk, e1⟩ | ⟨hk, e1⟩
    · obtain ⟨g1, o, g2, g3⟩ := x.mus.at_ k m e1
      have hm : some m ∈ mu1.take q := by
        have : (mu1.take q)[k]? = some (some m) := by rw [List.getElem?_take, if_pos hk]; exact e1
        exact List.mem_of_getElem? this
      exact ⟨g1, o, g2, g3.shrink (List.all_eq_true.mp c _ hm)⟩
    · have hkl := lt_of_live e1
      obtain ⟨g1, o, g2, g3⟩ := M.at_ k m e1
      rw [als k hkl]
      refine ⟨?_, o, x.keep _ o g2 g3.noTab.1 fun j m' e' => apart hk e1 e', g3.mono x.sub als (Nat.le_refl _)⟩
      cases z : F1 (al k) with
      | none => rfl
      | some u =>
        rcases x.new _ u z with h | h | ⟨j, m', h, h'⟩
        · rw [g1] at h; cases h
        · exact (live e1 h).elim
        · exact absurd h' (apart hk e1 h)
  · have mixed : ∀ {k k' : Nat} {m m' : MO}, k < q → mu1[k]? = some (some m) → q ≤ k' → mu[k']? = some (some m') → al1 k = al1 k' → False := fun {k k' m m'} hk e hk' e' z => by
      have hkl' := lt_of_live e'
      rw [als k' hkl'] at z
      rcases x.fresh k m e with ⟨m0, h⟩ | h
      · have hkl := lt_of_live (hidS_get h).2
        rw [als k hkl] at z
        exact apart hk' e' h z
      · rw [z] at h
        exact live e' h
    rcases back_get hq hl e with ⟨hk, e1⟩ | ⟨hk, e1⟩ <;> rcases back_get hq hl e' with ⟨hk', e1'⟩ | ⟨hk', e1'⟩
    · exact x.mus.inj k m k' m' e1 e1' z
    · exact (mixed hk e1 hk' e1' z).elim
    · exact (mixed hk' e1' hk e1 z.symm).elim
    · rw [als k (lt_of_live e1), als k' (lt_of_live e1')] at z
      exact M.inj k m k' m' e1 e1' z
  · rcases x.new a o e with h | h | ⟨j, m, h, h'⟩
    · exact .inl h
    · exact .inr (.inl h)
    · exact .inr (.inr ⟨j, m, (hidS_get h).2, h'⟩)
  · rcases back_get hq hl e with ⟨hk, e1⟩ | ⟨hk, e1⟩
    · rcases x.fresh k m e1 with ⟨m0, h⟩ | h
      · exact .inl ⟨m0, (hidS_get h).2⟩
      · exact .inr h
    · exact .inl ⟨m, e1⟩
theorem po_hid {W : WX} {σ : L2.St} {o : Out D} {Q : VK} (M : Mus T F al mu H) (h : Po T W F al mu σ H (RD T) (hidO q mu o) Q) : Po T W F al (hidS q mu) σ H (RD T) o Q := by
  cases o with
  | ok d mu1 =>
    unfold hidO at h
    dsimp only at h
    split at h
    · rename_i c
      rw [Bool.and_eq_true, Bool.and_eq_true, decide_eq_true_iff] at c
      obtain ⟨c1, c2, c3⟩ := c
      intro v F1 al1 H1 x r
      have hl : mu.length ≤ mu1.length := by rw [← hidS_len (q := q)]; exact x.ln
      have ln : (mu1.take q ++ mu.drop q).length = mu.length := by rw [List.length_append, List.length_take, List.length_drop]; omega
      exact h v F1 al1 H1 (x.hid M c1 c3) (by show Rp _ _ _ (mu1.take q ++ mu.drop q).length _ _; rw [ln]; exact Rp.shrink r c2)
    · exact False.elim h
  | ex c fs mu1 =>
    unfold hidO at h
    dsimp only at h
    split at h
    · rename_i c
      rw [Bool.and_eq_true, Bool.and_eq_true, decide_eq_true_iff] at c
      obtain ⟨c1, c2, c3⟩ := c
      intro dx F1 al1 H1 x r
      have hl : mu.length ≤ mu1.length := by rw [← hidS_len (q := q)]; exact x.ln
      have ln : (mu1.take q ++ mu.drop q).length = mu.length := by rw [List.length_append, List.length_take, List.length_drop]; omega
      refine h dx F1 al1 H1 (x.hid M c1 c3) ?_
      rcases r with r | ⟨dx', vs, e1, e2, e3⟩
      · exact .inl r
      · exact .inr ⟨dx', vs, e1, e2, by rw [ln]; exact RpF.shrink e3 c2⟩
    · exact False.elim h
  | bad => exact h
end
theorem spD_hid {T : Th} {np q : Nat} {p : FF} : ∀ vs H Q E, spD T np (fHid q p) vs H Q E → spD T np p vs H Q E := fun vs H Q E ⟨F, al, mu, ds, m, r, hl, po⟩ => ⟨F, al, hidS q mu, ds, m.hid, by rw [hidS_len]; exact r, hl, po_hid m po⟩
section
variable {P : Program} {w : World} {K : PySem.W.Frag} {mg : Str → Option Value} {base : Heap} {cl : Nat → Addr}
theorem Gf.hid {k np : Nat} {x : Str} {p : FF} (q : Nat) (c : Gf P w K mg base cl k x np p) : Gf P w K mg base cl k x np (fHid q p) := by
  obtain ⟨f, fd, ps, hf, r⟩ := c.ex
  exact ⟨f, fd, ps, hf.imp spD_hid, r⟩
theorem GfG.hid {k np : Nat} {x : Str} {p : FF} (q : Nat) (c : GfG P w K mg base cl k x np p) : GfG P w K mg base cl k x np (fHid q p) := by
  obtain ⟨f, fd, ps, hf, r⟩ := c.ex
  exact ⟨f, fd, ps, hf.imp spD_hid, r⟩
end
end DL
end

section
set_option Elab.async false
set_option linter.all false
set_option maxRecDepth 100000
set_option maxHeartbeats 4000000
/-! FG: errors as values: made, asked of their class, read. -/
namespace PySem.W
open PySem PySem.Spec PySem.Calls PyProof.Rows
section
variable {prog : Program} {w : World} {A : Around} {E : Value → Shared → Prop} {s : Shared} {K : Frag} {x D : Addr} {ox : Obj} {od : Option Obj}
theorem findObj_dataO {C : Addr} {name : Str} {a g : Value} (hc : (clsIn K C).isSome = true) (ha : findIn K (.ref C) name = some (some a)) (hg : specialIn K a "__get__" = some (some g)) (ht : takesIn K a = some true) : findObj K C od name = some (.bind g a) := by
  obtain ⟨cd, hc⟩ := Option.isSome_iff_exists.mp hc
  unfold findObj
  rw [hc, Option.bind_some, ha, Option.bind_some]
  simp [hg, ht]
theorem kin_classO {Q : Option Value → Shared → Prop} (hga : findIn K (.ref D) "__getattribute__" = some (some (.builtin "BaseException.__getattribute__"))) (hgt : findIn K (.ref D) "__getattr__" = some none) (hsub : subIn K (.ref D) (.type "BaseException") = some true)
    (hdct : hasDictIn K D = true) (ha : findIn K (.ref D) "__class__" = some (some (.builtin "object.__class__")))
    (hn : specialIn K (.builtin "object.__class__") "__get__" = some (some (.builtin "getset_descriptor.__get__"))) (htk : takesIn K (.builtin "object.__class__") = some true) (hm : mroIn K D (.type "object") = some true)
    (X : K.In s.heap) (I : InstAt s.heap x ox D od) (h : Q (some (.ref D)) { s with toks := s.toks + 1 }) : wpAny (model prog w) A (getAttr? (.ref x) "__class__") Q E s := by
  have hf : findObj K D od "__class__" = some (.bind (.builtin "getset_descriptor.__get__") (.builtin "object.__class__")) := findObj_dataO (by obtain ⟨cd, hc, _⟩ := any_some hdct; rw [hc]; rfl) ha hn htk
  obtain ⟨hp, g, d, t, os⟩ := s
  have L0 := I.type (M := model prog w)
  have L1 := looks_findIn (M := model prog w) X hga
  have L2 := looks_findIn (M := model prog w) X hgt
  have L3 := looks_find (M := model prog w) X I hf
  have sub : Looks (model prog w) hp (isInstance (.ref x) (.type "BaseException")) true := L0.andThen (looks_subIn X hsub)
  have hx0 : (false && onTheHeap (Value.builtin "BaseException.__getattribute__")) = false := rfl
  have hx2 : (Value.builtin "BaseException.__getattribute__" == Value.builtin "object.__getattribute__") = false := by decide +kernel
  have hx1 : (onTheHeap (Value.ref D) && Value.builtin "BaseException.__getattribute__" == Value.builtin "object.__getattribute__") = false := by rw [hx2]; rfl
  unfold getAttr? getAttrBy? getAttrBy
  refine wpAny_bind (wpAny_mkText (wpAny_bind (wpAny_attempt (wpAny_holding (wpAny_bind (L0.at (wpAny_bind (L1.at ?_))))))))
  show wpAny _ _ (if (onTheHeap (Value.ref D) && Value.builtin "BaseException.__getattribute__" == Value.builtin "object.__getattribute__") = true then _ else _) _ _ _
  rw [hx1, if_neg Bool.false_ne_true]
  unfold getAttrByItsOwn hookBefore
  refine wpAny_bind ?_
  rw [if_pos (show onTheHeap (Value.ref D) = true from rfl)]
  refine L2.at ?_
  refine wpAny_bind (wpAny_attempt (wpAny_holding ?_))
  unfold callGetattribute
  rw [hx0, if_neg Bool.false_ne_true]
  unfold boundAndCalled
  rw [PySem.F.excAttr_ValueError.ga.bind (.ref x)]
  refine wpAny_bind (wpAny_pure ?_)
  show wpAny _ _ (call (.builtin "BaseException.__getattribute__") [.ref x, .str "__class__" t]) _ _ _
  refine wpAny_call (codeAny_call_builtin PySem.F.excAttr_ValueError.ga.plain PySem.F.entry_bexc_ga ?_)
  refine @check_slot (model prog w) _ _ ⟨hp, g, d, t + 1, os⟩ "BaseException.__getattribute__" "BaseException" "__getattribute__" (.ref x) [.str "__class__" t] [] _ (by decide +kernel) (by decide +kernel) sub (PySem.F.args_bexc_ga (.ref x) (.str "__class__" t)) ?_
  unfold Builtin.«object.__getattribute__»
  refine wpAny_bind (wpAny_of_eq (a := ((Value.ref x : Value), [Value.str "__class__" t])) (by first | rfl | (simp only [slotArgs]; rfl)) ?_)
  refine wpAny_bind (wpAny_pure (wpAny_bind (L0.at (wpAny_bind (L3.at ?_)))))
  show wpAny _ _ (holding [Value.builtin "object.__class__"] (call (.builtin "getset_descriptor.__get__") [.builtin "object.__class__", .ref x, .ref D]) >>= ret) _ _ _
  refine wpAny_bind (wpAny_holding (wpAny_call (class_get (s := ⟨hp, g, d, t + 1, os⟩) (ox := ox) (od := od) X I hm ?_)))
  refine wpAny_pure ?_
  show wpAny _ _ (handedOut (.ref D)) _ _ _
  rw [handedOut_of (v := .ref D) rfl]
  first
    | exact wpAny_pure (wpAny_pure h)
    | exact wpAny_pure h
    | exact wpAny_pure (wpAny_bind (wpAny_pure (wpAny_pure h)))
theorem kitx_excO (hga : findIn K (.ref D) "__getattribute__" = some (some (.builtin "BaseException.__getattribute__"))) (hgt : findIn K (.ref D) "__getattr__" = some none) (hsub : subIn K (.ref D) (.type "BaseException") = some true) (hdct : hasDictIn K D = true) (ha : findIn K (.ref D) "__class__" = some (some (.builtin "object.__class__")))
    (hn : specialIn K (.builtin "object.__class__") "__get__" = some (some (.builtin "getset_descriptor.__get__"))) (htk : takesIn K (.builtin "object.__class__") = some true) (hm : mroIn K D (.type "object") = some true) :
    KitX K (.ref x) (.ref D) (fun h => InstAt h x ox D od) where
  ty := fun _ _ _ I => I.type
  it := fun _ _ X _ => by
    obtain ⟨cdD, hcD, _⟩ := any_some hdct
    unfold clsIn at hcD
    split at hcD
    · rename_i c' d' cd' sl' ho
      intro A' Q' E' s' k q
      unfold isType loadHead
      exact wpAny_bind (wpAny_loadPart (k _ _ (X _ _ ho)) (wpAny_pure q))
    · cases hcD
  ne := fun h tp dd its n sl X htp => by
    obtain ⟨cdD, hcD, _⟩ := any_some hdct
    refine Bool.eq_false_iff.mpr fun q => ?_
    have e : D = tp := Value.ref.inj (beq_iff_eq.mp q)
    subst e
    unfold clsIn at hcD
    split at hcD
    · rename_i c' d' cd' sl' ho
      have z := (X _ _ ho).symm.trans htp
      cases z
    · cases hcD
  ca := fun X I k => kin_classO hga hgt hsub hdct ha hn htk hm X I k
end
end PySem.W
namespace DL
open PySem PySem.Spec PyProof.Rows
open L2 hiding St
section
variable {X : Cx} {cl : Nat → Addr} {W : WX} {e tn : PySem.Expr} {f : EF} {g : LF} {C : Addr} {c : Nat} {ns : List Str} {pos p1 : Pos} {m : Str}
/-- what makes an error, as a value -/
theorem pe_mkv {te : L2.St → Hp → XK → Prop} (h : PMk X e te) : PE X e (fun σ H Q => te σ H fun cls d H1 => ∀ a, H1 a = none → Q (.ref a) (upd H1 a (EXO cls d a))) := ⟨fun pins s σ H Q I q => by
  refine wpAny_mono (h pins s σ H _ I q) (fun u s1 hu => ?_) fun _ _ x => x
  obtain ⟨a, oe, vs, sI, H', cls, d, rfl, J, k, hne, ha, hz, hd, h1, na, os, ag, r, q⟩ := hu
  have J' := J.laidN (o := EXO cls d a) (h' := s1.heap) (t' := s1.toks) k hne na ⟨⟨oe, vs, ha, hz, hd, h1⟩, ⟨oe, ha⟩, fun _ _ ⟨o, v, q, r⟩ k => ⟨o, v, k o q, r⟩⟩
  exact ⟨.ref a, _, ⟨J'.ok, os.trans J'.os, ag, J'.base, J'.loc, J'.cell, J'.free, J'.freeC, J'.pin, J'.hok, J'.len⟩, rfl, q a na⟩⟩
def dExn (c : Nat) (ns : List Str) (g : LF) : EF := fun sl mu => obind (g sl mu) fun ds mu => if ds.length = ns.length ∧ ds.length ≤ 1000 then .ok (.exn c (ns.zip ds)) mu else .bad
theorem de_exn0 (hC : cl c = C) (hm : PMk X e (tErr C ns (tG (Cx.th X cl) W (RLs (Cx.th X cl)) g))) : DE X cl W e (dExn c ns g) := PE.imp (pe_mkv hm) fun σ H Q q => by
  obtain ⟨F, al, sl, mu, w, po⟩ := q
  refine ⟨F, al, sl, mu, w, ?_⟩
  subst hC
  unfold dExn obind at po
  cases q : g sl mu with
  | ok ds mu1 =>
    rw [q] at po
    dsimp only at po
    intro vs F1 al1 H1 x1 r1
    have hl := rpL_len r1
    by_cases hz : ds.length = ns.length ∧ ds.length ≤ 1000
    · rw [if_pos hz] at po
      refine ⟨hl.trans hz.1, by rw [hl]; exact hz.2, fun d h0 h1 a ha => ?_⟩
      cases d with
      | none =>
        have : ns = [] := h0 rfl
        subst this
        have x2 := x1.trans (Ext.laidF (o := EXO (.ref (cl c)) none a) x1.mus ha)
        exact po _ _ _ _ x2 (.exn (fs := []) upd_same (.inl ⟨rfl, rfl⟩) .nil)
      | some dd =>
        have hd := h1 dd rfl
        have x2 := Ext.laidF (o := .xd (ns.zip vs)) x1.mus hd
        have ha : upd H1 dd (.xd (ns.zip vs)) a = none := ha
        have x3 := x2.trans (Ext.laidF (o := EXO (.ref (cl c)) (some dd) a) x2.mus ha)
        have ne : dd ≠ a := fun z => by
          rw [z, upd_same] at ha
          cases ha
        refine po _ _ _ _ (x1.trans x3) (.exn (fs := ns.zip vs) (d := some dd) upd_same (.inr ⟨dd, rfl, by rw [upd_ne ne, upd_same]⟩) ?_)
        exact RpF.mono x3.sub x3.als x3.ln (rpF_zip r1)
    · rw [if_neg hz] at po
      exact po.elim
  | ex c fs mu1 => rw [q] at po; exact po
  | bad => rw [q] at po; exact po
/-- the object of an error that stands tracked -/
theorem exo_inst {K : PySem.W.Frag} {P : Program} {w : World} {H : Hp} {h : Heap} {a D : Addr} {d : Option Addr} {fs : List (Str × V)} (ok : HOk P w H h) (ha : H a = some (EXO (.ref D) d a)) (hd : XdF H d fs) :
    ∃ (oe : Obj) (od : Option Obj), PySem.W.InstAt h a oe D od ∧ (od = none ∧ fs = [] ∨ ∃ dd o, d = some dd ∧ od = some o ∧ h.get? dd = some o) := by
  obtain ⟨⟨oe, vs, hg, hz, hv, _⟩, _⟩ := ok a _ ha
  rcases hd with ⟨rfl, rfl⟩ | ⟨dd, rfl, hx⟩
  · refine ⟨oe, none, ?_, .inl ⟨rfl, rfl⟩⟩
    obtain ⟨oc, oo, oda, osl⟩ := oe
    obtain ⟨h1, h2⟩ := hz
    dsimp only at h1 h2 hv
    subst h1 h2 hv
    exact ⟨hg, rfl, rfl, trivial⟩
  · have hx' : ObjOk P w H h dd (.xd fs) := ok dd _ hx
    obtain ⟨mA, hns, hr⟩ := hx'
    obtain ⟨od, ho, hl⟩ := lookIn_ns hns
    exact ⟨oe, some od, ⟨hg, hz.1, by unfold PySem.W.notCls; rw [hv] <;> rfl, by rw [hz.2]; exact ho⟩, .inr ⟨dd, od, rfl, rfl, ho⟩⟩
def rIsX (K : PySem.W.Frag) : List V → Hp → VK → Prop := fun xs H Q => ∃ (a D : Addr) (d : Option Addr) (fs : List (Str × V)) (c : V) (cv : Value) (b : Bool), xs = [.ref a, c] ∧ H a = some (EXO (.ref D) d a) ∧ XdF H d fs ∧ ExcC K D ∧ (∀ u, RelV c u → u = cv) ∧ PySem.W.kitOne K (.ref D) cv = some b ∧ Q (.bl b) H
theorem call_isX : CallR X (.builtin "isinstance") (rIsX X.K) := by
  intro pins s σ H xs us Q I r h
  obtain ⟨a, D, d, fs, c, cv, b, rfl, ha, hd, C, hcv, e, q⟩ := h
  cases r with
  | cons rx rr =>
    cases rr with
    | cons rt rr =>
      cases rr
      cases rx
      have ec := hcv _ rt
      subst ec
      obtain ⟨oe, od, J, _⟩ := exo_inst (K := X.K) I.hok ha hd
      exact PySem.W.kia_one (PySem.W.kitx_excO C.hg C.hk C.hs C.hd C.ha C.hn C.ht C.hm) I.kIn J e (fun z => nomatch z) fun tk => ⟨.bl b, H, I.kept (t' := tk) fun _ _ z => z, rfl, q⟩
def dIsX (t : Nat → Option Bool) (f : EF) : BF := dBind f fun d _ mu => match d with
  | .exn c _ => (match t c with
    | some b => .ok b mu
    | none => .bad)
  | _ => .bad
/-- isinstance(an error, a class) -/
theorem de_isX {t : Nat → Option Bool} {cv : V} {cu : Value} (hX : ∀ c b, t c = some b → ExcC X.K (cl c) ∧ PySem.W.kitOne X.K (.ref (cl c)) cu = some b) (hcv : ∀ u, RelV cv u → u = cu) (hg : Gl X "isinstance") (hm : X.mg "isinstance" = none) (h : DE X cl W e f) (ht : PE X tn (tC cv))
    (he : starEach [e, tn] X.env = (false, eval e X.env) :: starEach [tn] X.env := by rfl) (he2 : starEach [tn] X.env = (false, eval tn X.env) :: starEach [] X.env := by rfl) (hpl : (backTo pos (starEach [tn] X.env)).any (·.1) = false := by rfl) :
    DE X cl W (.Call (.Name "isinstance" p1) [e, tn] [] pos) (dB2v (dIsX t f)) :=
  PE.imp (pe_callB call_isX hg hm PyProof.Rows.boot_isinstance (pa_cons h (pa_cons ht pa_nil he2) he) (by decide) (by decide) he hpl) fun σ H Q q => by
    obtain ⟨F, al, sl, mu, w, po⟩ := tV2B q
    refine seqG back_RB w po rfl fun v d F1 al1 mu1 H1 x1 w1 r1 po1 => ?_
    dsimp only at po1
    cases d with
    | exn c fs =>
      dsimp only at po1
      cases z : t c with
      | none => rw [z] at po1; exact False.elim po1
      | some b =>
        rw [z] at po1
        obtain ⟨k1, k2⟩ := hX c b z
        cases (show Rp _ _ _ _ _ _ from r1) with
        | @exn a d _ vs _ h1 h2 h3 =>
          exact ⟨a, cl c, d, vs, cv, cu, b, rfl, w1.toMus.sub _ _ h1, xdF_mono w1.toMus.sub h2, k1, hcv, k2, Po.here (R := RB) (Q := fun c H' => Q (.bl c) H') po1 w1.toMus rfl⟩
    | _ => exact False.elim po1
/-- an error's attribute -/
def tXa (K : PySem.W.Frag) (n : Str) (te : TE) : TE := fun σ H Q => te σ H fun x H1 => ∃ (a D : Addr) (d : Option Addr) (fs : List (Str × V)) (v : V), x = .ref a ∧ H1 a = some (EXO (.ref D) d a) ∧ XdF H1 d fs ∧ XfC K D ∧ PySem.W.findIn K (.ref D) n = some none ∧ fs.lookup n = some v ∧ Q v H1
theorem pe_xa {te : TE} {n : Str} (he : PE X e te) (hb : attributeBase e n X.env (eval e X.env) = eval e X.env := by rfl) : PE X (.Attribute e n pos) (tXa X.K n te) := by
  refine ⟨fun pins s σ H Q I h => ?_⟩
  refine attr_of hb (thn (he.run pins s σ H _ I h) fun u s1 hh => ?_)
  obtain ⟨x, H1, I1, rx, a, D, d, fs, v, ex, ea, hx, T, hno, l, q⟩ := hh
  subst ex
  obtain rfl : u = Value.ref a := rx
  obtain ⟨oe, od, J, _⟩ := exo_inst (K := X.K) I1.hok ea hx
  obtain ⟨⟨oe', vs, hg, hz, hv, _⟩, _⟩ := I1.hok a _ ea
  rcases hx with ⟨rfl, rfl⟩ | ⟨dd, rfl, hx⟩
  · cases l
  · have hx' : ObjOk X.prog X.w H1 s1.heap dd (.xd fs) := I1.hok dd _ hx
    obtain ⟨mA, hns, hr⟩ := hx'
    obtain ⟨od, ho, hl⟩ := lookIn_ns hns
    obtain ⟨u, hu, ru⟩ := RelO.some_of (v := v) (o := mA n) (by rw [← l]; exact hr n)
    have J : PySem.W.InstAt s1.heap a oe' D (some od) := ⟨hg, hz.1, by unfold PySem.W.notCls; rw [hv] <;> rfl, by rw [hz.2]; exact ho⟩
    exact HandSPX.exc_get I1.kIn J T.ga T.gg T.exC (PySem.W.findObj_own T.hdC hno rfl (by rw [hl, hu])) (handed_of ru) ⟨v, H1, I1.tok _, ru, q⟩
def dAttrX (cs : List Nat) (n : Str) (f : EF) : EF := dBind f fun d _ mu => match d with
  | .exn c fs => if cs.contains c then (match fs.lookup n with
    | some r => .ok r mu
    | none => .bad) else .bad
  | _ => .bad
theorem de_attrX {cs : List Nat} {n : Str} (hX : ∀ c ∈ cs, XfC X.K (cl c) ∧ PySem.W.findIn X.K (.ref (cl c)) n = some none) (h : DE X cl W e f) (hb : attributeBase e n X.env (eval e X.env) = eval e X.env := by rfl) : DE X cl W (.Attribute e n pos) (dAttrX cs n f) :=
  PE.imp (pe_xa h hb) fun σ H Q q => by
    obtain ⟨F, al, sl, mu, w, po⟩ := q
    refine seqG back_RD w po rfl fun v d F1 al1 mu1 H1 x1 w1 r1 po1 => ?_
    dsimp only at po1
    cases d with
    | exn c fs =>
      dsimp only at po1
      split at po1
      · rename_i hc
        obtain ⟨k1, k2⟩ := hX c (by simpa using hc)
        cases z : fs.lookup n with
        | none => rw [z] at po1; exact False.elim po1
        | some res =>
          rw [z] at po1
          cases (show Rp _ _ _ _ _ _ from r1) with
          | @exn a d _ vs _ h1 h2 h3 =>
            obtain ⟨u, h4, h5⟩ := h3.lookup z
            exact ⟨a, cl c, d, vs, u, rfl, w1.toMus.sub _ _ h1, xdF_mono w1.toMus.sub h2, k1, k2, h4, Po.here po1 w1.toMus h5⟩
      · exact False.elim po1
    | _ => exact False.elim po1
end
end DL
end

section
set_option Elab.async false
set_option linter.all false
set_option maxRecDepth 100000
set_option maxHeartbeats 4000000
/-! FH: repr of a list whose items may be small dicts; a dict with one pair. -/
namespace DL
open PySem PySem.Spec PyProof.Rows
open L2 hiding St
/-- read, and no address of it is sys.modules -/
def RdQ (h : Heap) (u : Value) (p : PyData) : Prop := ∃ as, Reads h u p as ∧ (p.hasDict = true → sysModules ∉ as)
theorem allK_of {prog : Program} {w : World} {h : Heap} : ∀ {us : List Value} {ps : List PyData}, Paired (RdQ h) us ps → PyData.showableAll ps = true → (∀ t ∈ PyData.shownAll ps, t.length ≤ sizeLine) →
    ∃ as bs, ReadsAll h us ps as ∧ ReadAtMost h (PyData.depthAll ps) bs ∧ ReprAllK prog w bs h (PyData.depthAll ps) us (PyData.shownAll ps)
  | _, _, .nil, _, _ => ⟨[], [], .nil, (fun _ h => nomatch h), by simp only [PyData.shownAll]; exact .nil⟩
  | _, _, .cons (b := d) (l₂ := ds) r rs, hs, hz => by
    obtain ⟨as, r, hsm⟩ := r
    have hs' : d.showable = true ∧ PyData.showableAll ds = true := by simpa [PyData.showableAll] using hs
    obtain ⟨b1, hb1, k1⟩ := ReprK.of_reads (prog := prog) (w := w) r hs'.1 hsm (hz _ (by simp only [PyData.shownAll]; exact List.mem_cons_self ..))
    obtain ⟨as2, b2, rd2, hb2, k2⟩ := allK_of (prog := prog) (w := w) rs hs'.2 (fun t ht => hz t (by simp only [PyData.shownAll]; exact List.mem_cons_of_mem _ ht))
    refine ⟨as ++ as2, b1 ++ b2, .cons r rd2, ?_, ?_⟩
    · intro b hm
      simp only [PyData.depthAll]
      rcases List.mem_append.mp hm with hm | hm
      · obtain ⟨d', as', r', hd'⟩ := hb1 b hm
        exact ⟨d', as', r', Nat.le_trans hd' (Nat.le_max_left _ _)⟩
      · obtain ⟨d', as', r', hd'⟩ := hb2 b hm
        exact ⟨d', as', r', Nat.le_trans hd' (Nat.le_max_right _ _)⟩
    · simp only [PyData.depthAll, PyData.shownAll]
      exact .cons ((k1.more fun b hb => List.mem_append_left _ hb).level_le (Nat.le_max_left _ _)) (k2.more_le (fun b hb => List.mem_append_right _ hb) (Nat.le_max_right _ _))
theorem repr_listQ {prog : Program} {w : World} {h₀ : Heap} {a : Addr} {o : Obj} {vs : Array Value} {n : Nat} {xs : List PyData} {A : Around} {E : Value → Shared → Prop} {s : Shared} {Q : Value → Shared → Prop}
    (h1 : h₀.get? a = some o) (h2 : o.cls = .type "list") (h3 : o.data = .seq vs n) (hp : Paired (RdQ h₀) vs.toList xs) (hs : PyData.showableAll xs = true) (hg : A.guards = some []) (hu : A.units + ((PyData.list xs).depth + 1) < cLine) (hk0 : ∀ b o, h₀.get? b = some o → s.heap.get? b = some o)
    (hQ : ∀ h' u tk, (∀ b o, s.heap.get? b = some o → h'.get? b = some o) → Q (.str (PyData.list xs).shown u) { s with heap := h', toks := tk })
    (hsz : (PyData.list xs).shown.length ≤ sizeLine) : wpAny (model prog w) A (call (.builtin "repr") [.ref a]) Q E s := by
  have hz' : (listText (PyData.shownAll xs)).length ≤ sizeLine := by simpa only [PyData.shown] using hsz
  obtain ⟨as, bs, h4, hb, hk⟩ := allK_of (prog := prog) (w := w) hp hs (fun t ht => Nat.le_trans (listText_mem_le ht) hz')
  have hna : a ∉ bs := not_mem_of_deeper (.list h1 h2 h3 h4) (by simp only [PyData.depth]; omega) hb
  refine call_repr_slot (by omega) ⟨o, hk0 _ _ h1, h2⟩ F.slot_list_repr.toG ?_
  have hu' : A.in1.units + (PyData.list xs).depth < cLine := by show A.units + 1 + _ < cLine; omega
  have key : wpAny (model prog w) A.in1 (call (.builtin "list.__repr__") [.ref a]) (fun r s1 => ∃ x t, r = Value.str x t ∧ Q r s1) E s := by
    simp only [PyData.depth] at hu'
    simp only [PyData.shown] at hQ
    obtain ⟨l⟩ := vs
    cases l with
    | nil =>
      have h4' : ReadsAll h₀ [] xs _ := h4
      cases h4'
      simp only [PyData.shownAll, listText_nil] at hQ
      exact call_list_repr_empty ⟨o, hk0 _ _ h1, h2⟩ (hk0 _ _ h1) h3 ⟨_, _, rfl, hQ s.heap _ _ fun _ _ e => e⟩
    | cons x l =>
      exact call_list_reprK h1 h2 h3 hna (by simpa using hk.length_eq) (fun i y e => hk.item i y (by simpa using e)) hg (fun b _ => Clear.nil b) hu' hk0 (fun h' u tk hk => ⟨_, _, rfl, hQ h' u tk hk⟩) hz'
  exact key
/-- what stands for a small dict or data -/
def QD (K : PySem.W.Frag) (H : Hp) (v : V) (p : PyData) : Prop := (Dp K H v p ∧ p.plain = true) ∨ (∃ a, v = .ref a ∧ H a = some (.dK []) ∧ p = .dict []) ∨
  ∃ (a b : Addr) (x : Str) (i : Int), v = .ref a ∧ H a = some (.dK [(.inr x, .ref b)]) ∧ H b = some (.tup [.int i]) ∧ p = .dict [(.str x, .tuple [.int i])]
theorem qd_rd {X : Cx} {pins : List (Addr × Obj)} {σ : L2.St} {H : Hp} {s : Shared} (I : Inv X pins σ H s) {v : V} {p : PyData} {u : Value} (h : QD X.K H v p) (r : RelV v u) : RdQ s.heap u p := by
  rcases h with ⟨h, hp⟩ | ⟨a, rfl, ha, rfl⟩ | ⟨a, b, x, i, rfl, ha, hb, rfl⟩
  · obtain ⟨as, rd⟩ := Dp.reads I p v u h r
    exact ⟨as, rd, PyData.noDict_hsm (plain_noDict hp)⟩
  · obtain rfl : u = Value.ref a := r
    obtain ⟨_, hd, vs, rel, o, es, ep, ho, hc, hdt, _, hpr, _⟩ := dk_of I.hok ha
    cases rel
    have he : es.toList = [] := by
      cases hz : es.toList with
      | nil => rfl
      | cons e l => rw [hz] at hpr; cases hpr
    refine ⟨_, Reads.dict (kvs := []) ho hc.1 hdt (as := []) (bs := []) (by rw [he]; exact .nil) (by rw [he]; exact .nil), fun _ hm => ?_⟩
    simp only [List.append_nil, List.mem_singleton] at hm
    rw [hm] at hd
    simp at hd
  · obtain rfl : u = Value.ref a := r
    obtain ⟨_, hd, vs, rel, o, es, ep, ho, hc, hdt, _, hpr, _⟩ := dk_of I.hok ha
    obtain ⟨its, rv, ⟨ot, hot, hct, n, hdtt⟩, _⟩ := I.tuple (SqT.of hb)
    cases rel with
    | @cons q y qs ys h1 h2 =>
      cases h2
      obtain ⟨e1, e2⟩ := h1
      obtain ⟨yk, yv⟩ := y
      dsimp only at e1 e2
      subst e1
      obtain rfl : yv = Value.ref b := e2
      cases hz : es.toList with
      | nil => rw [hz] at hpr; cases hpr
      | cons e l =>
        rw [hz] at hpr
        cases hpr with
        | cons k1 k2 k3 =>
          cases k3
          rcases keyIs_shape (k := .inr x) (v := e.key) k1 with ⟨j, t, z, _⟩ | ⟨y, t, z, hkey⟩
          · cases z
          · cases z
            cases rv with
            | @cons _ w _ ws r1 r2 =>
              cases r2
              obtain ⟨ti, rfl⟩ : ∃ t, w = Value.int i t := r1
              refine ⟨_, Reads.dict (kvs := [(.str x, .tuple [.int i])]) ho hc.1 hdt (as := [] ++ []) (bs := [] ++ [] ++ []) (by rw [hz]; refine .cons ?_ .nil; show Reads s.heap e.key _ _; rw [hkey]; exact .str _ _) (by
                rw [hz]
                have k2 : e.val = Value.ref b := k2
                refine .cons (as := [] ++ []) ?_ .nil
                show Reads s.heap e.val _ _
                rw [k2]
                exact Reads.tuple hot hct hdtt (.cons (.int _ _) .nil)), fun _ hm => ?_⟩
              simp only [List.append_nil, List.mem_singleton] at hm
              rw [hm] at hd
              simp at hd
def rReprQ (K : PySem.W.Frag) : List V → Hp → VK → Prop := fun xs H Q => ∃ a vs ps, xs = [V.ref a] ∧ H a = some (.lst vs) ∧ Paired (QD K H) vs ps ∧ (PyData.list ps).showable = true ∧ (PyData.list ps).depth ≤ 60 ∧ (PyData.list ps).shown.length ≤ sizeLine ∧ Q (.str (PyData.list ps).shown) H
theorem paired_rd {X : Cx} {pins : List (Addr × Obj)} {σ : L2.St} {H : Hp} {s : Shared} (I : Inv X pins σ H s) : ∀ {vs : List V} {ps : List PyData} {us : List Value}, Paired (QD X.K H) vs ps → Vals vs us → Paired (RdQ s.heap) us ps
  | _, _, _, .nil, .nil => .nil
  | _, _, _, .cons h hs, .cons r rs => .cons (qd_rd I h r) (paired_rd I hs rs)
theorem call_reprQ {X : Cx} (hg : X.A.guards = some []) (hu : X.A.units + 65 < cLine) : CallR X (.builtin "repr") (rReprQ X.K) := by
  intro pins s σ H xs us Q I r h
  obtain ⟨a, vs, ps, rfl, ha, hp, hs, hdp, hz, q⟩ := h
  obtain ⟨u, rfl, ru⟩ := vals1 r
  obtain rfl : u = Value.ref a := ru
  obtain ⟨its, rv, ⟨o, n, ho, hc, _, hd⟩, _⟩ := I.list (SqL.of ha)
  refine repr_listQ ho hc hd (paired_rd I hp rv) (by simpa [PyData.showable] using hs) hg (by omega) (fun _ _ e => e) (fun h' u tk hk => ⟨.str _, H, I.kept hk, ⟨u, rfl⟩, q⟩) hz
def toQ : D → Option PyData
  | .dct [] => some (.dict [])
  | .dct [(.str x, .tup [.int i])] => some (.dict [(.str x, .tuple [.int i])])
  | d => toP d
def toQL : List D → Option (List PyData)
  | [] => some []
  | d :: ds => match toQ d, toQL ds with
    | some p, some ps => some (p :: ps)
    | _, _ => none
def reprQ : D → Option D
  | .lst l => match toQL l with
    | some ps => if (PyData.list ps).showable = true ∧ (PyData.list ps).depth ≤ 60 ∧ (PyData.list ps).shown.length ≤ 16000000 then some (.str (PyData.list ps).shown) else none
    | none => none
  | _ => none
theorem rp_qd {T : Th} {F H : Hp} {al : Nat → Addr} {n : Nat} (s : ∀ a o, F a = some o → H a = some o) {v : V} {d : D} {p : PyData} (r : Rp T F al n v d) (h : toQ d = some p) : QD T.K H v p := by
  unfold toQ at h
  split at h
  · cases h
    cases r with
    | dct h1 => exact .inr (.inl ⟨_, rfl, s _ _ h1, rfl⟩)
  · cases h
    cases r with
    | dc1 h1 h2 =>
      cases h2 with
      | tup h3 h4 =>
        cases h4 with
        | cons h5 h6 =>
          cases h5
          cases h6
          exact .inr (.inr ⟨_, _, _, _, rfl, s _ _ h1, s _ _ h3, rfl⟩)
  · exact .inl ⟨Rp.dp s r h, toP_plain h⟩
theorem rpL_qd {T : Th} {F H : Hp} {al : Nat → Addr} {n : Nat} (s : ∀ a o, F a = some o → H a = some o) : ∀ {vs : List V} {ds : List D} {ps : List PyData}, RpL T F al n vs ds → toQL ds = some ps → Paired (QD T.K H) vs ps
  | _, [], _, r, h => by cases h; cases r; exact .nil
  | _, d :: ds, _, r, h => by
    unfold toQL at h
    split at h
    · rename_i p ps e1 e2
      cases h
      cases r with
      | cons r1 r2 => exact .cons (rp_qd s r1 e1) (rpL_qd s r2 e2)
    · cases h
section
variable {X : Cx} {cl : Nat → Addr} {W : WX} {e : PySem.Expr} {f : EF} {pos p1 : Pos}
theorem de_reprQ (hcalm : Calm X.A) (hu : X.A.units + 65 < cLine) (hg : Gl X "repr") (hm : X.mg "repr" = none) (h : DKk X cl W e f) (he : starEach [e] X.env = (false, eval e X.env) :: starEach [] X.env := by rfl) (hpl : (backTo pos (starEach [] X.env)).any (·.1) = false := by rfl) : DE X cl W (.Call (.Name "repr" p1) [e] [] pos) (dOp1 reprQ f) := by
  refine de_b1 (call_reprQ hcalm hu) (fun F al mu H m x d res t e Q k => ?_) hg hm (by rfl) h (by decide) (by decide) he hpl
  cases d with
  | lst l =>
    obtain ⟨a, xs, rfl, h1, h2⟩ := t
    unfold reprQ at e
    dsimp only at e
    split at e
    · rename_i ps hps
      split at e
      · rename_i hc
        cases e
        exact ⟨a, xs, ps, rfl, h1, rpL_qd m.sub h2 hps, hc.1, hc.2.1, by rw [sizeLine_eq]; have := hc.2.2; omega, k _ F H (Ext.refl m) (.str _)⟩
      · cases e
    · cases e
  | _ => cases e
end
end DL
end

section
set_option Elab.async false
set_option linter.all false
set_option maxRecDepth 100000
set_option maxHeartbeats 4000000
/-! FI: errors as values: the rules. -/
namespace DL
open PySem PySem.Spec PyProof.Rows
open L2 hiding St
def cod : List (Str × Nat) := [("WatchError", 1000), ("BadWeb", 1001), ("BadText", 1002), ("BadTask", 1003), ("BadNumber", 1004), ("NoSpot", 1005), ("NoWatch", 1006), ("NoFires", 1007), ("NoReport", 1008)]
def xcs : List Nat := [1000, 1001, 1002, 1003, 1004, 1005, 1006, 1007, 1008]
def xns : List Str := ["value", "what", "line"]
structure ErrQ (K : PySem.W.Frag) (mg : Str → Option Value) (cl : Nat → Addr) : Prop where
  exc : ∀ c ∈ xcs, ExcC K (cl c)
  xf : ∀ c ∈ xcs, XfC K (cl c)
  no : ∀ c ∈ xcs, ∀ n ∈ xns, PySem.W.findIn K (.ref (cl c)) n = some none
  kit : ∀ c ∈ xcs, ∀ d ∈ xcs, PySem.W.kitOne K (.ref (cl c)) (.ref (cl d)) = some (c == d || d == 1000)
  kve : ∀ c ∈ xcs, PySem.W.kitOne K (.ref (cl c)) (.type "ValueError") = some true
  glo : ∀ p ∈ cod, mg p.1 = some (.ref (cl p.2))
  own : PySem.W.excIn K (cl 1000) He.veBase "ValueError.__new__" = true
  kp : PySem.W.keepIn K (.ref (cl 1000)) = true
  ra : PySem.W.subIn K (.ref (cl 1000)) (.type "BaseException") = some true
  ty : PySem.W.typeIn K (.ref (cl 1000)) = some (.type "type")
def exX (K : PySem.W.Frag) (C : Addr) : Bool := xfB K C && (He.eqO (PySem.W.findIn K (.ref C) "__class__") (some (some (.builtin "object.__class__"))) && (He.eqO (PySem.W.specialIn K (.builtin "object.__class__") "__get__") (some (some (.builtin "getset_descriptor.__get__"))) &&
  (decide (PySem.W.takesIn K (.builtin "object.__class__") = some true) && (decide (PySem.W.mroIn K C (.type "object") = some true) && (decide (PySem.W.kitOne K (.ref C) (.type "ValueError") = some true) && xns.all fun n => decide (PySem.W.findIn K (.ref C) n = some none))))))
def errQB (K : PySem.W.Frag) : Bool := (cod.all fun p => exX K (He.ga K p.1) && (He.eqO (PySem.W.nsIn K mainGlobals p.1) (some (some (.ref (He.ga K p.1)))) && cod.all fun q => decide (PySem.W.kitOne K (.ref (He.ga K p.1)) (.ref (He.ga K q.1)) = some (p.2 == q.2 || q.2 == 1000)))) &&
  (PySem.W.excIn K (He.ga K "WatchError") He.veBase "ValueError.__new__" && (PySem.W.keepIn K (.ref (He.ga K "WatchError")) && (decide (PySem.W.subIn K (.ref (He.ga K "WatchError")) (.type "BaseException") = some true) && decide (PySem.W.typeIn K (.ref (He.ga K "WatchError")) = some (.type "type")))))
theorem cod_of {c : Nat} (h : c ∈ xcs) : ∃ x, (x, c) ∈ cod := by
  simp only [xcs, List.mem_cons, List.not_mem_nil, or_false] at h
  rcases h with rfl | rfl | rfl | rfl | rfl | rfl | rfl | rfl | rfl
  · exact ⟨"WatchError", by simp [cod]⟩
  · exact ⟨"BadWeb", by simp [cod]⟩
  · exact ⟨"BadText", by simp [cod]⟩
  · exact ⟨"BadTask", by simp [cod]⟩
  · exact ⟨"BadNumber", by simp [cod]⟩
  · exact ⟨"NoSpot", by simp [cod]⟩
  · exact ⟨"NoWatch", by simp [cod]⟩
  · exact ⟨"NoFires", by simp [cod]⟩
  · exact ⟨"NoReport", by simp [cod]⟩
theorem errQ_ok {K : PySem.W.Frag} {mg : Str → Option Value} {cl : Nat → Addr} {h : Heap} (X : K.In h) (G : h.Ns mainGlobals mg) (b : errQB K = true) (hcl : ∀ p ∈ cod, cl p.2 = He.ga K p.1) : ErrQ K mg cl := by
  unfold errQB at b
  simp only [Bool.and_eq_true] at b
  obtain ⟨b1, b2, b3, b4, b5⟩ := b
  have e0 : cl 1000 = He.ga K "WatchError" := hcl ("WatchError", 1000) (by simp [cod])
  have each : ∀ p ∈ cod, exX K (He.ga K p.1) = true ∧ He.eqO (PySem.W.nsIn K mainGlobals p.1) (some (some (.ref (He.ga K p.1)))) = true ∧ ∀ q ∈ cod, PySem.W.kitOne K (.ref (He.ga K p.1)) (.ref (He.ga K q.1)) = some (p.2 == q.2 || q.2 == 1000) := fun p hp => by
    have := List.all_eq_true.mp b1 p hp
    simp only [Bool.and_eq_true] at this
    exact ⟨this.1, this.2.1, fun q hq => of_decide_eq_true (List.all_eq_true.mp this.2.2 q hq)⟩
  have ex1 : ∀ c ∈ xcs, exX K (cl c) = true := fun c hc => by
    obtain ⟨x, hx⟩ := cod_of hc
    have := (each _ hx).1
    rwa [← hcl _ hx] at this
  have parts : ∀ c ∈ xcs, ExcC K (cl c) ∧ XfC K (cl c) ∧ PySem.W.kitOne K (.ref (cl c)) (.type "ValueError") = some true ∧ ∀ n ∈ xns, PySem.W.findIn K (.ref (cl c)) n = some none := fun c hc => by
    have h := ex1 c hc
    unfold exX at h
    simp only [Bool.and_eq_true] at h
    obtain ⟨h1, h2, h3, h4, h5, h6, h7⟩ := h
    have f := xfB_ok h1
    exact ⟨⟨f.ga, f.gg, f.exC, f.hdC, He.eqO_ok h2, He.eqO_ok h3, of_decide_eq_true h4, of_decide_eq_true h5⟩, f, of_decide_eq_true h6, fun n hn => of_decide_eq_true (List.all_eq_true.mp h7 n hn)⟩
  refine ⟨fun c hc => (parts c hc).1, fun c hc => (parts c hc).2.1, fun c hc => (parts c hc).2.2.2, fun c hc d hd => ?_, fun c hc => (parts c hc).2.2.1, fun p hp => ?_, by rw [e0]; exact b2, by rw [e0]; exact b3, by rw [e0]; exact of_decide_eq_true b4, by rw [e0]; exact of_decide_eq_true b5⟩
  · obtain ⟨x, hx⟩ := cod_of hc
    obtain ⟨y, hy⟩ := cod_of hd
    have := (each _ hx).2.2 _ hy
    rw [← hcl _ hx, ← hcl _ hy] at this
    exact this
  · have e := hcl p hp
    rw [e]
    exact PySem.W.mg_of X G (He.eqO_ok (each p hp).2.1)
section
variable {X : Cx} {cl : Nat → Addr} {W : WX} {e k v : PySem.Expr} {es : List PySem.Expr} {f : EF} {g : LF} {c k' : Nat} {ns : List Str} {pos p1 p2 p3 : Pos} {x m : Str} {j n : Nat}
theorem de_exn (G : Ge X.prog X.w X.K X.mg X.base cl x c ns) (hr : Room (k' + 1) X.A) (hg : Gl X x) (ha : DAs X cl W (e :: es) g)
    (hdb : (x == ("__debug__" : Str)) = false := by decide) (he : starEach (e :: es) X.env = (false, eval e X.env) :: starEach es X.env := by rfl) (hpl : (backTo pos (starEach es X.env)).any (·.1) = false := by rfl) :
    DE X cl W (.Call (.Name x p1) (e :: es) [] pos) (dExn c ns g) := by
  obtain ⟨fI, T, iC, tI, IO, hm⟩ := G.ex
  exact de_exn0 rfl (pmk_err T iC tI IO hr hg hm ha hdb he hpl)
theorem de_exnN (G : Ge X.prog X.w X.K X.mg X.base cl x c []) (hr : Room (k' + 1) X.A) (hg : Gl X x) (hdb : (x == ("__debug__" : Str)) = false := by decide) :
    DE X cl W (.Call (.Name x p1) [] [] pos) (dExn c [] dNil) := by
  obtain ⟨fI, T, iC, tI, IO, hm⟩ := G.ex
  refine de_exn0 rfl ?_
  intro pins s σ H Q I h
  refine pmk_err0 T iC tI IO hr hg hm hdb pins s σ H Q I ?_
  obtain ⟨F, al, sl, mu, w, po⟩ := h
  exact Po.here po w.toMus .nil
theorem de_exnW (q : ErrQ X.K X.mg cl) (hg : Gl X "WatchError") : DE X cl W (.Call (.Name "WatchError" p1) [.Constant (.str m) j p2] [] pos) (dExn 1000 [] dNil) :=
  PE.imp (pe_mkv (pmk_own PySem.F.excBase_ValueError q.own (q.glo ("WatchError", 1000) (by simp [cod])) q.kp (raises_own q.ra q.ty) hg)) fun σ H Q h => by
    obtain ⟨F, al, sl, mu, w, po⟩ := h
    intro a ha
    exact po _ _ _ _ (Ext.laidF (o := EXO (.ref (cl 1000)) none a) w.toMus ha) (.exn (fs := []) upd_same (.inl ⟨rfl, rfl⟩) .nil)
def isXt (d c : Nat) : Option Bool := if xcs.contains c then some (c == d || d == 1000) else none
def isXv (c : Nat) : Option Bool := if xcs.contains c then some true else none
theorem de_isXc {d : Nat} (q : ErrQ X.K X.mg cl) (hd : (x, d) ∈ cod) (hd2 : d ∈ xcs) (hx : Gl X x) (hg : Gl X "isinstance") (hm : X.mg "isinstance" = none) (h : DE X cl W e f) (hdb : (x == ("__debug__" : Str)) = false := by decide)
    (he : starEach [e, .Name x p2] X.env = (false, eval e X.env) :: starEach [.Name x p2] X.env := by rfl) (he2 : starEach [.Name x p2] X.env = (false, eval (.Name x p2) X.env) :: starEach [] X.env := by rfl) (hpl : (backTo pos (starEach [.Name x p2] X.env)).any (·.1) = false := by rfl) :
    DE X cl W (.Call (.Name "isinstance" p1) [e, .Name x p2] [] pos) (dB2v (dIsX (isXt d) f)) :=
  de_isX (cv := .ref (cl d)) (cu := .ref (cl d)) (fun c b hb => by
    unfold isXt at hb
    split at hb
    · rename_i hc
      have hc' : c ∈ xcs := by simpa using hc
      cases hb
      exact ⟨q.exc c hc', q.kit c hc' d hd2⟩
    · cases hb) (fun u h => h) hg hm h (pe_gv hx ⟨_, q.glo _ hd, rfl⟩ hdb) he he2 hpl
theorem de_isXv {tn : PySem.Expr} (q : ErrQ X.K X.mg cl) (hg : Gl X "isinstance") (hm : X.mg "isinstance" = none) (h : DE X cl W e f) (ht : PE X tn (tC (.ty "ValueError")))
    (he : starEach [e, tn] X.env = (false, eval e X.env) :: starEach [tn] X.env := by rfl) (he2 : starEach [tn] X.env = (false, eval tn X.env) :: starEach [] X.env := by rfl) (hpl : (backTo pos (starEach [tn] X.env)).any (·.1) = false := by rfl) :
    DE X cl W (.Call (.Name "isinstance" p1) [e, tn] [] pos) (dB2v (dIsX isXv f)) :=
  de_isX (cv := .ty "ValueError") (cu := .type "ValueError") (fun c b hb => by
    unfold isXv at hb
    split at hb
    · rename_i hc
      have hc' : c ∈ xcs := by simpa using hc
      cases hb
      exact ⟨q.exc c hc', q.kve c hc'⟩
    · cases hb) (fun u h => h) hg hm h ht he he2 hpl
theorem de_attrQ {n : Str} (q : ErrQ X.K X.mg cl) (hn : n ∈ xns) (h : DE X cl W e f) (hb : attributeBase e n X.env (eval e X.env) = eval e X.env := by rfl) : DE X cl W (.Attribute e n pos) (dAttrX xcs n f) :=
  de_attrX (fun c hc => ⟨q.xf c hc, q.no c hc n hn⟩) h hb
/-- {a text: (a number,)} -/
def dDc1 (x : Str) (i : Int) : EF := fun _ mu => .ok (.dct [(.str x, .tup [.int i])]) mu
theorem de_dc1 {i : Int} (hk : PE X k (tC (.str x))) (hv : PE X v (tC (.int i))) (hs : starEach [v] X.env = (false, eval v X.env) :: starEach [] X.env := by rfl) :
    DE X cl W (.Dict [some k] [.Tuple [v] n p1] pos) (dDc1 x i) :=
  PE.imp (pe_disp (pps_cons hk (pe_tup (pa_cons hv pa_nil hs)) pps_nil) rfl rfl (by simp) (by simp)) fun σ H Q q => by
    obtain ⟨F, al, sl, mu, w, po⟩ := q
    intro p hp
    refine ⟨by show 1 ≤ sizeLine; rw [sizeLine_eq]; decide, fun b hb => ?_⟩
    have ne : p ≠ b := fun z => by
      rw [← z, upd_same] at hb
      cases hb
    have hb' : H b = none := by
      rw [upd_ne (Ne.symm ne)] at hb
      exact hb
    refine ⟨by rw [upd_ne ne, upd_same], [(.inr x, .ref b)], rfl, by simp, ?_⟩
    have eh : upd (upd (upd H p (.dK [])) b (.tup [.int i])) p (.dK (mergeK [] [(.inr x, .ref b)])) = upd (upd H b (.tup [.int i])) p (.dK [(.inr x, .ref b)]) := by
      funext z
      by_cases h1 : z = p
      · rw [h1, upd_same, upd_same]
        rfl
      · rw [upd_ne h1, upd_ne h1]
        by_cases h2 : z = b
        · rw [h2, upd_same, upd_same]
        · rw [upd_ne h2, upd_ne h2, upd_ne h1]
    rw [eh]
    have x1 := Ext.laidF (o := .tup [.int i]) w.toMus hb'
    have hp' : upd H b (.tup [.int i]) p = none := by rw [upd_ne ne]; exact hp
    have x2 := x1.trans (Ext.laidF (o := .dK [(.inr x, .ref b)]) x1.mus hp')
    exact po _ _ _ _ x2 (.dc1 upd_same (.tup (by rw [upd_ne (Ne.symm ne), upd_same]) (.cons (.int i) .nil)))
end
end DL
end

section
set_option Elab.async false
set_option linter.all false
set_option maxRecDepth 100000
set_option maxHeartbeats 4000000

namespace DL
open PySem PySem.Spec PyProof.Rows
open L2 hiding St
def top (i : Nat) : Stmt := PySem.Challenge.pw_watchwebs_k00_errors_alone.main.body.getD i (.Pass ⟨0, 0, 0, 0⟩)
def inC (s : Stmt) (j : Nat) : Stmt := match s with
  | .ClassDef _ _ _ b .. => b.getD j (.Pass ⟨0, 0, 0, 0⟩)
  | s => s
abbrev s__law_pot : Stmt := (top 11)
abbrev s__law_draw : Stmt := (top 12)
abbrev s__law_pick : Stmt := (top 13)
abbrev s__law_thing : Stmt := (top 14)
abbrev s__law_kinds : Stmt := (top 15)
abbrev s__law_rows : Stmt := (top 16)
abbrev s__law_told_of : Stmt := (top 17)
abbrev s_law_k00 : Stmt := (top 18)
def d__law_pot : He.DefD := ⟨("_law_pot", none), "_law_pot", "_law_pot", defArgs s__law_pot, defBody s__law_pot, defScope s__law_pot, [], []⟩
def d__law_draw : He.DefD := ⟨("_law_draw", none), "_law_draw", "_law_draw", defArgs s__law_draw, defBody s__law_draw, defScope s__law_draw, [], []⟩
def d__law_pick : He.DefD := ⟨("_law_pick", none), "_law_pick", "_law_pick", defArgs s__law_pick, defBody s__law_pick, defScope s__law_pick, [], []⟩
def d__law_thing : He.DefD := ⟨("_law_thing", none), "_law_thing", "_law_thing", defArgs s__law_thing, defBody s__law_thing, defScope s__law_thing, [], []⟩
def d__law_kinds : He.DefD := ⟨("_law_kinds", none), "_law_kinds", "_law_kinds", defArgs s__law_kinds, defBody s__law_kinds, defScope s__law_kinds, [], []⟩
def d__law_rows : He.DefD := ⟨("_law_rows", none), "_law_rows", "_law_rows", defArgs s__law_rows, defBody s__law_rows, defScope s__law_rows, [], []⟩
def d__law_told_of : He.DefD := ⟨("_law_told_of", none), "_law_told_of", "_law_told_of", defArgs s__law_told_of, defBody s__law_told_of, defScope s__law_told_of, [], []⟩
def d_law_k00 : He.DefD := ⟨("law", none), "law", "law", defArgs s_law_k00, defBody s_law_k00, defScope s_law_k00, [], []⟩
abbrev s_e_BadWeb : Stmt := inC (top 2) 0
def d_e_BadWeb : EDef := ⟨"BadWeb", "BadWeb.__init__", defArgs s_e_BadWeb, defBody s_e_BadWeb, defScope s_e_BadWeb, ["what"]⟩
abbrev s_e_BadText : Stmt := inC (top 3) 0
def d_e_BadText : EDef := ⟨"BadText", "BadText.__init__", defArgs s_e_BadText, defBody s_e_BadText, defScope s_e_BadText, ["line", "what"]⟩
abbrev s_e_BadTask : Stmt := inC (top 4) 0
def d_e_BadTask : EDef := ⟨"BadTask", "BadTask.__init__", defArgs s_e_BadTask, defBody s_e_BadTask, defScope s_e_BadTask, ["what"]⟩
abbrev s_e_BadNumber : Stmt := inC (top 5) 0
def d_e_BadNumber : EDef := ⟨"BadNumber", "BadNumber.__init__", defArgs s_e_BadNumber, defBody s_e_BadNumber, defScope s_e_BadNumber, ["value"]⟩
abbrev s_e_NoWatch : Stmt := inC (top 7) 0
def d_e_NoWatch : EDef := ⟨"NoWatch", "NoWatch.__init__", defArgs s_e_NoWatch, defBody s_e_NoWatch, defScope s_e_NoWatch, []⟩
abbrev s_e_NoSpot : Stmt := inC (top 6) 0
def d_e_NoSpot : EDef := ⟨"NoSpot", "NoSpot.__init__", defArgs s_e_NoSpot, defBody s_e_NoSpot, defScope s_e_NoSpot, []⟩
abbrev s_e_NoReport : Stmt := inC (top 9) 0
def d_e_NoReport : EDef := ⟨"NoReport", "NoReport.__init__", defArgs s_e_NoReport, defBody s_e_NoReport, defScope s_e_NoReport, []⟩
abbrev s_e_NoFires : Stmt := inC (top 8) 0
def d_e_NoFires : EDef := ⟨"NoFires", "NoFires.__init__", defArgs s_e_NoFires, defBody s_e_NoFires, defScope s_e_NoFires, []⟩
def fn : List He.DefD := [d__law_pot, d__law_draw, d__law_pick, d__law_thing, d__law_kinds, d__law_rows, d__law_told_of, d_law_k00]
def es : List EDef := [d_e_BadWeb, d_e_BadText, d_e_BadTask, d_e_BadNumber, d_e_NoWatch, d_e_NoSpot, d_e_NoReport, d_e_NoFires]
def fa : List He.Fa := [.glo "_law_pot",
  .glo "_law_draw",
  .glo "_law_pick",
  .glo "_law_thing",
  .glo "_law_kinds",
  .glo "_law_rows",
  .glo "_law_told_of",
  .glo "law",
  .free "ValueError",
  .free "abs",
  .free "enumerate",
  .free "int",
  .free "isinstance",
  .free "len",
  .free "range",
  .free "repr",
  .free "super"]
def clK (K : PySem.W.Frag) : Nat → Addr := fun c => if c = 1001 then He.ga K "BadWeb" else if c = 1002 then He.ga K "BadText" else if c = 1003 then He.ga K "BadTask" else if c = 1004 then He.ga K "BadNumber" else if c = 1006 then He.ga K "NoWatch" else if c = 1005 then He.ga K "NoSpot" else if c = 1008 then He.ga K "NoReport" else if c = 1007 then He.ga K "NoFires" else if c = 1000 then He.ga K "WatchError" else 0
def tf : List He.Defn := []
def exL (K : PySem.W.Frag) : List Bool := [errB K d_e_BadWeb PySem.Challenge.pw_watchwebs_k00_errors_alone.main.file,
  errB K d_e_BadText PySem.Challenge.pw_watchwebs_k00_errors_alone.main.file,
  errB K d_e_BadTask PySem.Challenge.pw_watchwebs_k00_errors_alone.main.file,
  errB K d_e_BadNumber PySem.Challenge.pw_watchwebs_k00_errors_alone.main.file,
  errB K d_e_NoWatch PySem.Challenge.pw_watchwebs_k00_errors_alone.main.file,
  errB K d_e_NoSpot PySem.Challenge.pw_watchwebs_k00_errors_alone.main.file,
  errB K d_e_NoReport PySem.Challenge.pw_watchwebs_k00_errors_alone.main.file,
  errB K d_e_NoFires PySem.Challenge.pw_watchwebs_k00_errors_alone.main.file,
  errQB K]
def ex (K : PySem.W.Frag) : Bool := (exL K).all id
theorem ex_at {K : PySem.W.Frag} (h : ex K = true) (i : Nat) {b : Bool} (e : (exL K)[i]? = some b) : b = true := List.all_eq_true.mp h b (List.mem_of_getElem? e)
abbrev R : PySem.W.OpenRow := PySem.W.OpenLaw.row PySem.Challenge.rw_watchwebs_k00_errors_alone
abbrev hk : PySem.W.Hook := hookE 6 fa fn es tf ex
def ob (s : PySem.W.SharedT) : AlE := obsE 6 fa fn es tf ex (HandSHeadRun.getT s)
theorem ob_eq (s : PySem.W.SharedT) : ob s = hk.obs s.abs := obsE_eq (HandSHeadRun.getT_eq s)
def loose : List PySem.Str := (["WatchError", "BadWeb", "BadText", "BadTask", "BadNumber", "NoSpot", "NoWatch", "NoFires", "NoReport", "_law_pot", "_law_draw", "_law_pick", "_law_thing", "_law_kinds", "_law_rows", "_law_told_of"] : List PySem.Str)
set_option maxHeartbeats 0 in
theorem run (w : World) : HandSHeadRun.RunEq R (PySem.W.view R.prog [18]) hk ob 4000 loose w := by
  intro os
  kernel_rfl
end DL
end

section
set_option Elab.async false
set_option linter.all false
set_option maxRecDepth 100000
set_option maxHeartbeats 4000000
namespace DL
open PySem
def q__law_pot_1 : NF :=
  (dLc (dItQ (dSl (dVar 0) dNoP (dP (dC (.int 63))))) (.nm 1) [1] dYes (dOp1 absD (dLook (dVar 1))))
def g__law_pot : SF :=
  (sRet (dReg (dLst (dCons (dFrz q__law_pot_1) (dCons (dC (.int 0)) (dCons (dC (.int 20011)) (dCons (dC (.int 0)) dNil)))))))
def f__law_pot : FF := (dFun 2 g__law_pot)

def g__law_draw : SF :=
  (sSeq (sIf (dCmp ltD (dVar 1) (dC (.int 2))) (sRet (dC (.int 0))) sSkip)
  (sSeq (sIf (dCmp gtI (dIx (dVar 0) (dC (.int 3))) (dC (.int 0))) (sSeq (sAsg 3 (dOp2 modD (dOp1 intD (dLook (dIx (dVar 0) (dC (.int 3))))) (dVar 1)))
  (sSeq (sSetI (dVar 0) (dC (.int 3)) (dOp2 divD (dIx (dVar 0) (dC (.int 3))) (dVar 1)))
  (sRet (dVar 3)))) sSkip)
  (sSeq (sAsg 2 (dC (.int 0)))
  (sSeq (sIf (dCmp ltD (dIx (dVar 0) (dC (.int 1))) (dOp1 lenD (dLook (dIx (dVar 0) (dC (.int 0)))))) (sSeq (sAsg 2 (dIx (dIx (dVar 0) (dC (.int 0))) (dIx (dVar 0) (dC (.int 1)))))
  (sSeq (sSetI (dVar 0) (dC (.int 1)) (dOp2 addD (dIx (dVar 0) (dC (.int 1))) (dC (.int 1))))
  (sIf (dCmp geI (dVar 2) (dOp2 powD (dC (.int 10)) (dC (.int 18)))) (sSeq (sSetI (dVar 0) (dC (.int 3)) (dOp2 divD (dVar 2) (dVar 1)))
  (sRet (dOp2 modD (dOp1 intD (dLook (dVar 2))) (dVar 1)))) sSkip))) sSkip)
  (sSeq (sSetI (dVar 0) (dC (.int 2)) (dOp2 modD (dOp1 intD (dLook (dOp2 addD (dOp2 addD (dOp2 mulD (dIx (dVar 0) (dC (.int 2))) (dC (.int 48271))) (dVar 2)) (dC (.int 12345))))) (dC (.int 2147483647))))
  (sRet (dOp2 modD (dOp1 intD (dLook (dOp2 addD (dOp2 divD (dOp2 mulD (dIx (dVar 0) (dC (.int 2))) (dIx (dVar 0) (dC (.int 2)))) (dC (.int 64))) (dOp2 divD (dIx (dVar 0) (dC (.int 2))) (dC (.int 7)))))) (dVar 1))))))))
def f__law_draw : FF := (dFun 4 g__law_draw)

def g__law_pick : SF :=
  (sRet (dIx (dVar 1) (dCall f__law_draw (dCons (dVar 0) (dCons (dOp1 lenD (dLook (dVar 1))) dNil)))))
def f__law_pick : FF := (dFun 2 g__law_pick)

def g__law_thing : SF :=
  (sRet (dCall f__law_pick (dCons (dVar 0) (dCons (dFrz (dLst (dCons (dC .non) (dCons (dC (.bl true)) (dCons (dC (.int 0)) (dCons (dOp1 negD (dC (.int 3))) (dCons (dOp2 powD (dC (.int 10)) (dC (.int 39))) (dCons (dC (.str "")) (dCons (dC (.str "spot")) (dCons (dC (.str "a b")) (dCons (dTup dNil) (dCons (dTup (dCons (dC (.int 1)) (dCons (dC (.str "x")) dNil))) (dCons (dFrz (dLst dNil)) (dCons (dFrz (dLst (dCons (dC .non) dNil))) (dCons dDct0 (dCons (dDc1 "a" 0) dNil)))))))))))))))) dNil))))
def f__law_thing : FF := (dFun 1 g__law_thing)

def g__law_kinds : SF :=
  (sSeq (sAsg 1 (dFrz (dLst (dCons (dB2v (dIsX (isXt 1004) (dVar 0))) (dCons (dB2v (dIsX (isXt 1003) (dVar 0))) (dCons (dB2v (dIsX (isXt 1002) (dVar 0))) (dCons (dB2v (dIsX (isXt 1001) (dVar 0))) dNil)))))))
  (sSeq (sAsg 1 (dOp2 addD (dVar 1) (dFrz (dLst (dCons (dB2v (dIsX (isXt 1007) (dVar 0))) (dCons (dB2v (dIsX (isXt 1008) (dVar 0))) (dCons (dB2v (dIsX (isXt 1005) (dVar 0))) dNil)))))))
  (sRet (dOp2 addD (dVar 1) (dFrz (dLst (dCons (dB2v (dIsX (isXt 1006) (dVar 0))) dNil)))))))
def f__law_kinds : FF := (dFun 2 g__law_kinds)

def g__law_rows : SF :=
  (sSeq (sAsg 2 (dFrz (dLst (dCons (dTup (dCons (dExn 1004 ["value"] (dCons (dVar 0) dNil)) (dCons (dC (.str "value")) dNil))) (dCons (dTup (dCons (dExn 1003 ["what"] (dCons (dVar 0) dNil)) (dCons (dC (.str "what")) dNil))) (dCons (dTup (dCons (dExn 1002 ["line", "what"] (dCons (dVar 0) (dCons (dVar 1) dNil))) (dCons (dC (.str "line what")) dNil))) (dCons (dTup (dCons (dExn 1001 ["what"] (dCons (dVar 0) dNil)) (dCons (dC (.str "what")) dNil))) dNil)))))))
  (sRet (dOp2 addD (dVar 2) (dFrz (dLst (dCons (dTup (dCons (dExn 1007 [] dNil) (dCons (dC (.str "")) dNil))) (dCons (dTup (dCons (dExn 1008 [] dNil) (dCons (dC (.str "")) dNil))) (dCons (dTup (dCons (dExn 1005 [] dNil) (dCons (dC (.str "")) dNil))) (dCons (dTup (dCons (dExn 1006 [] dNil) (dCons (dC (.str "")) dNil))) dNil)))))))))
def f__law_rows : FF := (dFun 3 g__law_rows)

def b__law_told_of_1 : SF :=
  (sIf (dCmp eqD (dVar 3) (dC (.str "value"))) (sExpr (dMut appD (dVar 2) (dCons (dAttrX xcs "value" (dVar 0)) dNil))) (sIf (dCmp eqD (dVar 3) (dC (.str "what"))) (sExpr (dMut appD (dVar 2) (dCons (dAttrX xcs "what" (dVar 0)) dNil))) (sIf (dCmp eqD (dVar 3) (dC (.str "line"))) (sExpr (dMut appD (dVar 2) (dCons (dAttrX xcs "line" (dVar 0)) dNil))) sSkip)))
def g__law_told_of : SF :=
  (sSeq (sAsg 2 (dReg (dLst dNil)))
  (sSeq (sFor (dItQ (dM1 "str" splitD (dVar 1) (dC (.str " ")))) (.nm 3) b__law_told_of_1)
  (sRet (dFz (dVar 2)))))
def f__law_told_of : FF := fGc (dFun 4 g__law_told_of)

def q_law_k00_1 : NF :=
  (dLc (dRg1 (dOp1 lenD (dLook (dVar 6)))) (.nm 13) [13] dYes (dB2v (dCmp eqD (dVar 13) (dVar 8))))
def b_law_k00_1 : SF :=
  (sSeq (sTg (.tp [11, 12]) (dVar 9))
  (sSeq (sAsg 10 (dIf (dCmp neD (dVar 12) (dC (.str ""))) (dSl (dFrz (dLst (dCons (dVar 3) (dCons (dVar 4) dNil)))) dNoP (dP (dOp1 lenD (dLook (dM1 "str" splitD (dVar 12) (dC (.str " "))))))) (dFrz (dLst dNil))))
  (sSeq (sIf (dOr (dNot (dIsX (isXt 1000) (dVar 11))) (dNot (dIsX isXv (dVar 11)))) (sRet (dC (.bl false))) sSkip)
  (sSeq (sIf (dCmp neD (dCall f__law_kinds (dCons (dVar 11) dNil)) (dFrz q_law_k00_1)) (sRet (dC (.bl false))) sSkip)
  (sSeq (sIf (dCmp neD (dOp1 reprQ (dLook (dCall f__law_told_of (dCons (dVar 11) (dCons (dVar 12) dNil))))) (dOp1 reprQ (dLook (dVar 10)))) (sRet (dC (.bl false))) sSkip)
  (sIf (dCmp neD (dOp1 reprQ (dLook (dCall f__law_told_of (dCons (dIx (dIx (dVar 7) (dVar 8)) (dC (.int 0))) (dCons (dVar 12) dNil))))) (dOp1 reprQ (dLook (dSl (dFrz (dLst (dCons (dVar 5) (dCons (dVar 3) dNil)))) dNoP (dP (dOp1 lenD (dLook (dVar 10)))))))) (sRet (dC (.bl false))) sSkip))))))
def g_law_k00 : SF :=
  (sSeq (sAsg 1 (dCall f__law_pot (dCons (dVar 0) dNil)))
  (sSeq (sPar3 3 4 5 (dCall f__law_thing (dCons (dVar 1) dNil)) (dCall f__law_thing (dCons (dVar 1) dNil)) (dCall f__law_thing (dCons (dVar 1) dNil)))
  (sSeq (sPar 6 7 (dCall f__law_rows (dCons (dVar 3) (dCons (dVar 4) dNil))) (dCall f__law_rows (dCons (dVar 5) (dCons (dVar 3) dNil))))
  (sSeq (sFor (dEnumQ (dVar 6)) (.tp [8, 9]) b_law_k00_1)
  (sSeq (sAsg 2 (dExn 1000 [] dNil))
  (sRet (dB2v (dAnd (dIsX isXv (dVar 2)) (dIn true (dC (.bl true)) (dLook (dCall f__law_kinds (dCons (dVar 2) dNil))))))))))))
def f_law_k00 : FF := (dFun 14 g_law_k00)

end DL
end

section
set_option Elab.async false
set_option linter.all false
set_option maxRecDepth 100000
set_option maxHeartbeats 4000000
namespace DL
open PySem
/-! the plain law of k02: draws -/
structure Pot where
  cells : List Int
  i : Int
  m : Int
  d : Int
def Pot.mo (p : Pot) : MO := .lst [.lst (p.cells.map .int), .int p.i, .int p.m, .int p.d]
def mus (p : Pot) (r : Store) : Store := some p.mo :: r
structure Pot.Ok (p : Pot) : Prop where
  i0 : 0 ≤ p.i
  len : p.cells.length ≤ 63
  pos : ∀ c ∈ p.cells, 0 ≤ c
  m0 : 0 ≤ p.m
  m1 : p.m < 2147483648
  d0 : 0 ≤ p.d
theorem draw_ok {p : Pot} (h : p.Ok) {many : Int} (h0 : 0 ≤ many) (h1 : many < 2147483648) (r : Store) :
    ∃ v p', f__law_draw [.obj 0, .int many] (mus p r) = .ok (.int v) (mus p' r) ∧ p'.Ok ∧ 0 ≤ v ∧ (v < many ∨ v = 0) := by
  by_cases c1 : many < 2
  · exact ⟨0, p, by simp [f__law_draw, g__law_draw, dFun, sSeq, snext, sIf, sbind, sAsg, sRet, sSkip, sExpr, sPar, sSetI, sSetA, sAug, sFor, sTg, dVar, dC, dNil, dCons, dBind, obind, dTup, dLst, dFrz, MO.d, dReg, dFz, dOp1, dOp2, dCmp, dB2v, dTst, dAnd, dOr, dNot, dIf, dCall, dIx, dLook, lookD, dIsi, dIsi2, dIsC, dIn, dChn, dMut, lstOf, putO, dM1, tyOk, dNw1, dNw2, dSl, dP, dNoP, dIsN, dItQ, dItS, dRg1, dRg2, dEnum, dLc, dYes, noex, Tg.run, gSets, List.length_map, List.length_cons, List.length_nil, List.map_cons, List.map_nil, ltD, c1], h, by omega, by omega⟩
  by_cases c2 : 0 < p.d
  · refine ⟨p.d % many, { p with d := p.d / many }, ?_, ⟨h.i0, h.len, h.pos, h.m0, h.m1, Int.ediv_nonneg h.d0 h0⟩, Int.emod_nonneg _ (by omega), .inl (Int.emod_lt_of_pos _ (by omega))⟩
    have e1 : (0 : Int) < many := by omega
    have e2 : many < 1152921504606846976 := by omega
    simp [f__law_draw, g__law_draw, dFun, sSeq, snext, sIf, sbind, sAsg, sRet, sSkip, sExpr, sPar, sSetI, sSetA, sAug, sFor, sTg, dVar, dC, dNil, dCons, dBind, obind, dTup, dLst, dFrz, MO.d, dReg, dFz, dOp1, dOp2, dCmp, dB2v, dTst, dAnd, dOr, dNot, dIf, dCall, dIx, dLook, lookD, dIsi, dIsi2, dIsC, dIn, dChn, dMut, lstOf, putO, dM1, tyOk, dNw1, dNw2, dSl, dP, dNoP, dIsN, dItQ, dItS, dRg1, dRg2, dEnum, dLc, dYes, noex, Tg.run, gSets, List.length_map, List.length_cons, List.length_nil, List.map_cons, List.map_nil, ltD, gtI, cmpI, c1, c2, mus, Pot.mo, ixD, L2.atI, L2.ixN, setD, intD, arI, e1, e2]
  by_cases c3 : p.i < p.cells.length
  · obtain ⟨j, ej⟩ : ∃ j : Nat, p.i = (j : Int) := ⟨p.i.toNat, by have := h.i0; omega⟩
    have hj : j < p.cells.length := by omega
    have hc : 0 ≤ p.cells[j] := h.pos _ (List.getElem_mem hj)
    have e1 : (0 : Int) < many := by omega
    have e2 : many < 1152921504606846976 := by omega
    by_cases c4 : (1000000000000000000 : Int) ≤ p.cells[j]
    · refine ⟨p.cells[j] % many, { p with i := p.i + 1, d := p.cells[j] / many }, ?_, ⟨by have := h.i0; show 0 ≤ p.i + 1; omega, h.len, h.pos, h.m0, h.m1, Int.ediv_nonneg hc h0⟩, Int.emod_nonneg _ (by omega), .inl (Int.emod_lt_of_pos _ (by omega))⟩
      simp [f__law_draw, g__law_draw, dFun, sSeq, snext, sIf, sbind, sAsg, sRet, sSkip, sExpr, sPar, sSetI, sSetA, sAug, sFor, sTg, dVar, dC, dNil, dCons, dBind, obind, dTup, dLst, dFrz, MO.d, dReg, dFz, dOp1, dOp2, dCmp, dB2v, dTst, dAnd, dOr, dNot, dIf, dCall, dIx, dLook, lookD, dIsi, dIsi2, dIsC, dIn, dChn, dMut, lstOf, putO, dM1, tyOk, dNw1, dNw2, dSl, dP, dNoP, dIsN, dItQ, dItS, dRg1, dRg2, dEnum, dLc, dYes, noex, Tg.run, gSets, List.length_map, List.length_cons, List.length_nil, List.map_cons, List.map_nil, ltD, gtI, geI, cmpI, c1, c2, c3, c4, mus, Pot.mo, ixD, L2.atI, L2.ixN, setD, intD, arI, e1, e2, lenD, addD, ej, hj]
    · have hm : 0 ≤ (p.m * 48271 + p.cells[j] + 12345) % 2147483647 := Int.emod_nonneg _ (by omega)
      have hm2 : (p.m * 48271 + p.cells[j] + 12345) % 2147483647 < 2147483647 := Int.emod_lt_of_pos _ (by omega)
      have m1 : -18446744073709551616 < p.m := by have := h.m0; omega
      have m2 : p.m < 18446744073709551616 := by have := h.m1; omega
      refine ⟨(((p.m * 48271 + p.cells[j] + 12345) % 2147483647) * ((p.m * 48271 + p.cells[j] + 12345) % 2147483647) / 64 + ((p.m * 48271 + p.cells[j] + 12345) % 2147483647) / 7) % many, { p with i := p.i + 1, m := (p.m * 48271 + p.cells[j] + 12345) % 2147483647 }, ?_, ⟨by have := h.i0; show 0 ≤ p.i + 1; omega, h.len, h.pos, hm, by show (p.m * 48271 + p.cells[j] + 12345) % 2147483647 < 2147483648; omega, h.d0⟩, Int.emod_nonneg _ (by omega), .inl (Int.emod_lt_of_pos _ (by omega))⟩
      have m3 : -18446744073709551616 < (p.m * 48271 + p.cells[j] + 12345) % 2147483647 := by omega
      have m4 : (p.m * 48271 + p.cells[j] + 12345) % 2147483647 < 18446744073709551616 := by omega
      simp [f__law_draw, g__law_draw, dFun, sSeq, snext, sIf, sbind, sAsg, sRet, sSkip, sExpr, sPar, sSetI, sSetA, sAug, sFor, sTg, dVar, dC, dNil, dCons, dBind, obind, dTup, dLst, dFrz, MO.d, dReg, dFz, dOp1, dOp2, dCmp, dB2v, dTst, dAnd, dOr, dNot, dIf, dCall, dIx, dLook, lookD, dIsi, dIsi2, dIsC, dIn, dChn, dMut, lstOf, putO, dM1, tyOk, dNw1, dNw2, dSl, dP, dNoP, dIsN, dItQ, dItS, dRg1, dRg2, dEnum, dLc, dYes, noex, Tg.run, gSets, List.length_map, List.length_cons, List.length_nil, List.map_cons, List.map_nil, ltD, gtI, geI, cmpI, c1, c2, c3, c4, mus, Pot.mo, ixD, L2.atI, L2.ixN, setD, intD, arI, e1, e2, lenD, addD, mulD, ej, hj, m1, m2, m3, m4]
  · have hm : 0 ≤ (p.m * 48271 + 0 + 12345) % 2147483647 := Int.emod_nonneg _ (by omega)
    have hm2 : (p.m * 48271 + 0 + 12345) % 2147483647 < 2147483647 := Int.emod_lt_of_pos _ (by omega)
    have m1 : -18446744073709551616 < p.m := by have := h.m0; omega
    have m2 : p.m < 18446744073709551616 := by have := h.m1; omega
    have e1 : (0 : Int) < many := by omega
    have e2 : many < 1152921504606846976 := by omega
    have m3 : -18446744073709551616 < (p.m * 48271 + 12345) % 2147483647 := by omega
    have m4 : (p.m * 48271 + 12345) % 2147483647 < 18446744073709551616 := by omega
    refine ⟨(((p.m * 48271 + 12345) % 2147483647) * ((p.m * 48271 + 12345) % 2147483647) / 64 + ((p.m * 48271 + 12345) % 2147483647) / 7) % many, { p with m := (p.m * 48271 + 12345) % 2147483647 }, ?_, ⟨h.i0, h.len, h.pos, by simpa using hm, by show (p.m * 48271 + 12345) % 2147483647 < 2147483648; omega, h.d0⟩, Int.emod_nonneg _ (by omega), .inl (Int.emod_lt_of_pos _ (by omega))⟩
    simp [f__law_draw, g__law_draw, dFun, sSeq, snext, sIf, sbind, sAsg, sRet, sSkip, sExpr, sPar, sSetI, sSetA, sAug, sFor, sTg, dVar, dC, dNil, dCons, dBind, obind, dTup, dLst, dFrz, MO.d, dReg, dFz, dOp1, dOp2, dCmp, dB2v, dTst, dAnd, dOr, dNot, dIf, dCall, dIx, dLook, lookD, dIsi, dIsi2, dIsC, dIn, dChn, dMut, lstOf, putO, dM1, tyOk, dNw1, dNw2, dSl, dP, dNoP, dIsN, dItQ, dItS, dRg1, dRg2, dEnum, dLc, dYes, noex, Tg.run, gSets, List.length_map, List.length_cons, List.length_nil, List.map_cons, List.map_nil, ltD, gtI, geI, cmpI, c1, c2, c3, mus, Pot.mo, ixD, L2.atI, L2.ixN, setD, intD, arI, e1, e2, lenD, addD, mulD, m1, m2, m3, m4]
end DL
end

section
set_option Elab.async false
set_option linter.all false
set_option maxRecDepth 100000
set_option maxHeartbeats 4000000
namespace DL
open PySem
/-! N1: the plain law of k00: what is taken from the other plain texts -/
theorem pick_lst {p : Pot} (h : p.Ok) {l : List D} (h0 : l ≠ []) (h1 : l.length < 2147483648) (r : Store) :
    ∃ d p', f__law_pick [.obj 0, .lst l] (mus p r) = .ok d (mus p' r) ∧ p'.Ok ∧ d ∈ l := by
  obtain ⟨v, p', e, ok, v0, v1⟩ := draw_ok h (many := (l.length : Int)) (by omega) (by omega) r
  have hl : 0 < l.length := List.length_pos_iff.mpr h0
  have hv : v < (l.length : Int) := by omega
  obtain ⟨j, ej⟩ : ∃ j : Nat, v = (j : Int) := ⟨v.toNat, by omega⟩
  subst ej
  have hj : j < l.length := by omega
  refine ⟨l[j], p', ?_, ok, List.getElem_mem hj⟩
  simp [f__law_pick, g__law_pick, dFun, sSeq, snext, sIf, sbind, sAsg, sRet, sSkip, sExpr, sPar, sSetI, sSetA, sAug, sFor, sTg, dVar, dC, dNil, dCons, dBind, obind, dTup, dLst, dFrz, MO.d, dReg, dFz, dOp1, dOp2, dCmp, dB2v, dTst, dAnd, dOr, dNot, dIf, dCall, dIx, dLook, lookD, dIsi, dIsi2, dIsC, dIn, dChn, dMut, lstOf, putO, dM1, tyOk, dNw1, dNw2, dSl, dP, dNoP, dIsN, dItQ, dItS, dRg1, dRg2, dEnum, dLc, dYes, noex, Tg.run, gSets, List.length_map, List.length_cons, List.length_nil, List.map_cons, List.map_nil, lenD, e, ixD, L2.atI, L2.ixN, hj]
theorem lcL_pure {g : Tg} {sw : Sl} {c : BF} {elt : EF} {mu : Store} (T : D → Option D) : ∀ (ds acc : List D), (∀ d ∈ ds, ∃ sl1, g.run d sw = some sl1 ∧ ((∃ y, T d = some y ∧ c sl1 mu = .ok true mu ∧ elt sl1 mu = .ok y mu) ∨ (T d = none ∧ c sl1 mu = .ok false mu))) →
    dLcL g sw c elt ds acc mu = .ok (.lst (acc ++ ds.filterMap T)) mu
  | [], acc, _ => by rw [List.filterMap_nil, List.append_nil]; rfl
  | d :: ds, acc, h => by
    obtain ⟨sl1, e1, h1⟩ := h d List.mem_cons_self
    have ih := fun acc => lcL_pure (g := g) (sw := sw) (c := c) (elt := elt) (mu := mu) T ds acc fun x hx => h x (List.mem_cons_of_mem _ hx)
    rcases h1 with ⟨y, t, e2, e3⟩ | ⟨t, e2⟩
    · rw [List.filterMap_cons_some t]
      unfold dLcL
      simp only [e1, e2, e3, noex, obind, if_true]
      rw [ih, List.append_assoc]
      rfl
    · rw [List.filterMap_cons_none t]
      unfold dLcL
      simp only [e1, e2, noex, obind, Bool.false_eq_true, if_false]
      exact ih acc
theorem lc_pure {src : LF} {g : Tg} {own : List Nat} {c : BF} {elt : EF} {sl : Sl} {mu : Store} {ds : List D} (T : D → Option D) (hs : src sl mu = .ok ds mu) (hz : ds.length ≤ 16000000)
    (h : ∀ d ∈ ds, ∃ sl1, g.run d (wipeS sl own) = some sl1 ∧ ((∃ y, T d = some y ∧ c sl1 mu = .ok true mu ∧ elt sl1 mu = .ok y mu) ∨ (T d = none ∧ c sl1 mu = .ok false mu))) :
    dLc src g own c elt sl mu = .ok (.lst (ds.filterMap T)) mu := by
  unfold dLc dBind obind
  rw [hs]
  have e : sizeOk ds = true := decide_eq_true hz
  simp only [e, if_true]
  rw [lcL_pure T ds [] h, List.nil_append]
theorem lc_all {src : LF} {g : Tg} {own : List Nat} {elt : EF} {sl : Sl} {mu : Store} {ds : List D} (T : D → D) (hs : src sl mu = .ok ds mu) (hz : ds.length ≤ 16000000)
    (h : ∀ d ∈ ds, ∃ sl1, g.run d (wipeS sl own) = some sl1 ∧ elt sl1 mu = .ok (T d) mu) : dLc src g own dYes elt sl mu = .ok (.lst (ds.map T)) mu := by
  have := lc_pure (src := src) (g := g) (own := own) (c := dYes) (elt := elt) (sl := sl) (mu := mu) (ds := ds) (fun d => some (T d)) hs hz fun d hd => by
    obtain ⟨sl1, e1, e2⟩ := h d hd
    exact ⟨sl1, e1, .inl ⟨_, rfl, rfl, e2⟩⟩
  rw [this]
  congr 2
  induction ds with
  | nil => rfl
  | cons d ds ih => simp
theorem pot_clM (p : Pot) (n : Nat) : clM n (some p.mo) = true := by
  unfold Pot.mo clM
  have : ∀ l : List Int, clL n (l.map D.int) = true := fun l => by
    induction l with
    | nil => rfl
    | cons a l ih => rw [List.map_cons]; unfold clL; rw [ih]; rfl
  simp [clL, clD, this]
theorem fun_rt {n : Nat} {g : SF} {args : List D} {mu mu' : Store} {d : D} (h : g (args.map (fun d => some (SV.val d)) ++ List.replicate (n - args.length) none) mu = .rt d mu') : dFun n g args mu = .ok d mu' := by
  unfold dFun
  rw [h]
theorem seq_nx {s t : SF} {sl sl' : Sl} {mu mu' : Store} (h : s sl mu = .nx sl' mu') : sSeq s t sl mu = t sl' mu' := by
  unfold sSeq
  rw [h]
  rfl
theorem cut_ints (ns : List Int) : cutG (ns.map D.int) none (some 63) = (ns.take 63).map D.int := by
  unfold cutG
  have e : HT.sIx (ns.map D.int).length (ns.map D.int).length (some 63) = min 63 (ns.map D.int).length := HT.sIx_nat _ _ 63
  rw [e, HT.sIx_none, List.drop_zero, Nat.sub_zero, List.length_map, ← List.map_take]
  by_cases h : 63 ≤ ns.length
  · rw [Nat.min_eq_left h]
  · rw [Nat.min_eq_right (by omega), List.take_of_length_le (Nat.le_refl _), List.take_of_length_le (by omega)]
theorem pot_ok (ns : List Int) : ∃ p, f__law_pot [.frl (ns.map D.int)] [] = .ok (.obj 0) (mus p []) ∧ p.Ok := by
  refine ⟨⟨(ns.take 63).map fun i => if i < 0 then -i else i, 0, 20011, 0⟩, ?_, ⟨Int.le_refl 0, by rw [List.length_map, List.length_take]; omega, fun c hc => by
    obtain ⟨i, _, rfl⟩ := List.mem_map.mp hc
    split <;> omega, by show (0 : Int) ≤ 20011; decide, by show (20011 : Int) < 2147483648; decide, Int.le_refl 0⟩⟩
  have hq : q__law_pot_1 [some (.val (.frl (ns.map D.int))), none] [] = .ok (.lst (((ns.take 63).map fun i => if i < 0 then -i else i).map D.int)) [] := by
    have := lc_all (src := dItQ (dSl (dVar 0) dNoP (dP (dC (.int 63))))) (g := .nm 1) (own := [1]) (elt := dOp1 absD (dLook (dVar 1))) (sl := [some (.val (.frl (ns.map D.int))), none]) (mu := []) (ds := (ns.take 63).map D.int) (fun d => match d with
      | .int i => .int (if i < 0 then -i else i)
      | d => d) (by
        rw [← cut_ints]
        rfl) (by rw [List.length_map, List.length_take]; omega) (fun d hd => by
        obtain ⟨i, _, rfl⟩ := List.mem_map.mp hd
        exact ⟨_, rfl, rfl⟩)
    rw [show q__law_pot_1 = dLc (dItQ (dSl (dVar 0) dNoP (dP (dC (.int 63))))) (.nm 1) [1] dYes (dOp1 absD (dLook (dVar 1))) from rfl, this, List.map_map, List.map_map]
    rfl
  unfold f__law_pot dFun g__law_pot
  simp only [List.map_cons, List.map_nil, List.length_cons, List.length_nil, List.replicate, List.cons_append, List.nil_append, sRet, sbind, dReg, dLst, dCons, dNil, dBind, obind, dFrz, hq, MO.d, dC]
  rfl
abbrev Pl (mu : Store) : Prop := ∀ n, mu.all (clM n) = true
theorem pl_pot (p : Pot) : Pl (mus p []) := fun n => by
  unfold mus
  rw [List.all_cons, pot_clM]
  rfl
end DL
end

section
set_option Elab.async false
set_option linter.all false
set_option maxRecDepth 100000
set_option maxHeartbeats 4000000
namespace DL
open PySem
/-! N2: the law k00: what is told of an error -/
theorem eq_strs (x y : Str) : eqD (.str x) (.str y) = some (decide (y = x)) := by
  have hb : ∀ a b : Str, (a == b) = decide (b = a) := fun a b => by
    rw [Bool.eq_iff_iff, beq_iff_eq, decide_eq_true_iff]
    exact eq_comm
  unfold eqD
  simp [toP, PyData.depth, PyData.eqv, hb]
theorem eq_word (w z : Str) : eqD (.str w) (.str z) = some (decide (w = z)) := by
  rw [eq_strs]
  congr 1
  exact decide_eq_decide.mpr ⟨Eq.symm, Eq.symm⟩
theorem ne_word (w z : Str) : neD (.str w) (.str z) = some (!decide (w = z)) := by
  unfold neD
  rw [eq_word]
  rfl
theorem gc_of {p : FF} {ds : List D} {mu mu' : Store} {d : D} (h : p ds mu = .ok d mu') (ht : mu'.take mu.length = mu) (hp : Pl mu) (hd : ∀ n, clD n d = true) : fGc p ds mu = .ok d mu := by
  unfold fGc
  rw [h]
  unfold gcO
  dsimp only
  rw [ht, hp, hd]
  rfl
theorem take_app (a b : Store) : (a ++ b).take a.length = a := by simp

def TH0 : List D := [.non, .bl true, .int 0, .int (-3), .int 1000000000000000000000000000000000000000, .str "", .str "spot", .str "a b", .tup [], .tup [.int 1, .str "x"], .lst [], .lst [.non], .dct [], .dct [(.str "a", .tup [.int 0])]]
theorem th_cl {d : D} (h : d ∈ TH0) (n : Nat) : clD n d = true := by
  unfold TH0 at h
  simp only [List.mem_cons, List.not_mem_nil, or_false] at h
  rcases h with rfl | rfl | rfl | rfl | rfl | rfl | rfl | rfl | rfl | rfl | rfl | rfl | rfl | rfl <;> rfl
theorem th_shown : (TH0.all fun a => (reprQ (.lst [a])).isSome && TH0.all fun b => (reprQ (.lst [a, b])).isSome) = true := by decide +kernel
theorem rep_str {d e : D} (h : reprQ d = some e) : ∃ z, e = .str z := by
  unfold reprQ at h
  split at h
  · split at h
    · split at h
      · cases h; exact ⟨_, rfl⟩
      · cases h
    · cases h
  · cases h
theorem rep1 {a : D} (ha : a ∈ TH0) : ∃ z, reprQ (.lst [a]) = some (.str z) := by
  have h := List.all_eq_true.mp th_shown a ha
  rw [Bool.and_eq_true] at h
  obtain ⟨e, he⟩ := Option.isSome_iff_exists.mp h.1
  obtain ⟨z, rfl⟩ := rep_str he
  exact ⟨z, he⟩
theorem rep2 {a b : D} (ha : a ∈ TH0) (hb : b ∈ TH0) : ∃ z, reprQ (.lst [a, b]) = some (.str z) := by
  have h := List.all_eq_true.mp th_shown a ha
  rw [Bool.and_eq_true] at h
  obtain ⟨e, he⟩ := Option.isSome_iff_exists.mp (List.all_eq_true.mp h.2 b hb)
  obtain ⟨z, rfl⟩ := rep_str he
  exact ⟨z, he⟩
theorem rep0 : ∃ z, reprQ (.lst []) = some (.str z) := by
  have : (reprQ (.lst [])).isSome = true := by decide +kernel
  obtain ⟨e, he⟩ := Option.isSome_iff_exists.mp this
  obtain ⟨z, rfl⟩ := rep_str he
  exact ⟨z, he⟩
/-! ### what is told of an error -/
def tSx (e : D) (w : Str) (k : Nat) (x3 : Option SV) : Sl := [some (.val e), some (.val (.str w)), some (.val (.obj k)), x3]
section
variable {mu : Store} {c : Nat} {fs : List (Str × D)} {w : Str} {d a b : D} {acc : List D}
theorem told_v (hz : acc.length < 1000) (hc : xcs.contains c = true) (hl : fs.lookup ("value" : Str) = some d) : b__law_told_of_1 (tSx (.exn c fs) w mu.length (some (.val (.str "value")))) (mu ++ [some (.lst acc)]) = .nx (tSx (.exn c fs) w mu.length (some (.val (.str "value")))) (mu ++ [some (.lst (acc ++ [d]))]) := by
  have g0 : (mu ++ [some (MO.lst acc)])[mu.length]? = some (some (.lst acc)) := by simp
  have s0 : ∀ l, (mu ++ [some (MO.lst acc)]).set mu.length (some (.lst l)) = mu ++ [some (.lst l)] := fun l => by simp
  have e1 := eq_word "value" "value"
  rw [decide_eq_true rfl] at e1
  simp [b__law_told_of_1, tSx, dAttrX, appD, dFun, sSeq, snext, sIf, sbind, sAsg, sRet, sSkip, sExpr, sPar, sSetI, sSetA, sAug, sFor, sTg, dVar, dC, dNil, dCons, dBind, obind, dTup, dLst, dFrz, MO.d, dReg, dFz, dOp1, dOp2, dCmp, dB2v, dTst, dAnd, dOr, dNot, dIf, dCall, dIx, dLook, lookD, dIsi, dIsi2, dIsC, dIn, dChn, dMut, lstOf, putO, dM1, tyOk, dNw1, dNw2, dSl, dP, dNoP, dIsN, dItQ, dItS, dRg1, dRg2, dEnum, dLc, dYes, noex, Tg.run, gSets, List.length_map, List.length_cons, List.length_nil, List.map_cons, List.map_nil, show c ∈ xcs by simpa using hc, show acc.length < 16000000 by omega, hl, g0, s0, e1]
theorem told_w (hz : acc.length < 1000) (hc : xcs.contains c = true) (hl : fs.lookup ("what" : Str) = some d) : b__law_told_of_1 (tSx (.exn c fs) w mu.length (some (.val (.str "what")))) (mu ++ [some (.lst acc)]) = .nx (tSx (.exn c fs) w mu.length (some (.val (.str "what")))) (mu ++ [some (.lst (acc ++ [d]))]) := by
  have g0 : (mu ++ [some (MO.lst acc)])[mu.length]? = some (some (.lst acc)) := by simp
  have s0 : ∀ l, (mu ++ [some (MO.lst acc)]).set mu.length (some (.lst l)) = mu ++ [some (.lst l)] := fun l => by simp
  have e1 := eq_word "what" "value"
  rw [decide_eq_false (by decide)] at e1
  have e2 := eq_word "what" "what"
  rw [decide_eq_true rfl] at e2
  simp [b__law_told_of_1, tSx, dAttrX, appD, dFun, sSeq, snext, sIf, sbind, sAsg, sRet, sSkip, sExpr, sPar, sSetI, sSetA, sAug, sFor, sTg, dVar, dC, dNil, dCons, dBind, obind, dTup, dLst, dFrz, MO.d, dReg, dFz, dOp1, dOp2, dCmp, dB2v, dTst, dAnd, dOr, dNot, dIf, dCall, dIx, dLook, lookD, dIsi, dIsi2, dIsC, dIn, dChn, dMut, lstOf, putO, dM1, tyOk, dNw1, dNw2, dSl, dP, dNoP, dIsN, dItQ, dItS, dRg1, dRg2, dEnum, dLc, dYes, noex, Tg.run, gSets, List.length_map, List.length_cons, List.length_nil, List.map_cons, List.map_nil, show c ∈ xcs by simpa using hc, show acc.length < 16000000 by omega, hl, g0, s0, e1, e2]
theorem told_l (hz : acc.length < 1000) (hc : xcs.contains c = true) (hl : fs.lookup ("line" : Str) = some d) : b__law_told_of_1 (tSx (.exn c fs) w mu.length (some (.val (.str "line")))) (mu ++ [some (.lst acc)]) = .nx (tSx (.exn c fs) w mu.length (some (.val (.str "line")))) (mu ++ [some (.lst (acc ++ [d]))]) := by
  have g0 : (mu ++ [some (MO.lst acc)])[mu.length]? = some (some (.lst acc)) := by simp
  have s0 : ∀ l, (mu ++ [some (MO.lst acc)]).set mu.length (some (.lst l)) = mu ++ [some (.lst l)] := fun l => by simp
  have e1 := eq_word "line" "value"
  rw [decide_eq_false (by decide)] at e1
  have e2 := eq_word "line" "what"
  rw [decide_eq_false (by decide)] at e2
  have e3 := eq_word "line" "line"
  rw [decide_eq_true rfl] at e3
  simp [b__law_told_of_1, tSx, dAttrX, appD, dFun, sSeq, snext, sIf, sbind, sAsg, sRet, sSkip, sExpr, sPar, sSetI, sSetA, sAug, sFor, sTg, dVar, dC, dNil, dCons, dBind, obind, dTup, dLst, dFrz, MO.d, dReg, dFz, dOp1, dOp2, dCmp, dB2v, dTst, dAnd, dOr, dNot, dIf, dCall, dIx, dLook, lookD, dIsi, dIsi2, dIsC, dIn, dChn, dMut, lstOf, putO, dM1, tyOk, dNw1, dNw2, dSl, dP, dNoP, dIsN, dItQ, dItS, dRg1, dRg2, dEnum, dLc, dYes, noex, Tg.run, gSets, List.length_map, List.length_cons, List.length_nil, List.map_cons, List.map_nil, show c ∈ xcs by simpa using hc, show acc.length < 16000000 by omega, hl, g0, s0, e1, e2, e3]
theorem told_n {e : D} : b__law_told_of_1 (tSx e w mu.length (some (.val (.str "")))) (mu ++ [some (.lst acc)]) = .nx (tSx e w mu.length (some (.val (.str "")))) (mu ++ [some (.lst acc)]) := by
  have e1 := eq_word "" "value"
  rw [decide_eq_false (by decide)] at e1
  have e2 := eq_word "" "what"
  rw [decide_eq_false (by decide)] at e2
  have e3 := eq_word "" "line"
  rw [decide_eq_false (by decide)] at e3
  simp [b__law_told_of_1, tSx, dFun, sSeq, snext, sIf, sbind, sAsg, sRet, sSkip, sExpr, sPar, sSetI, sSetA, sAug, sFor, sTg, dVar, dC, dNil, dCons, dBind, obind, dTup, dLst, dFrz, MO.d, dReg, dFz, dOp1, dOp2, dCmp, dB2v, dTst, dAnd, dOr, dNot, dIf, dCall, dIx, dLook, lookD, dIsi, dIsi2, dIsC, dIn, dChn, dMut, lstOf, putO, dM1, tyOk, dNw1, dNw2, dSl, dP, dNoP, dIsN, dItQ, dItS, dRg1, dRg2, dEnum, dLc, dYes, noex, Tg.run, gSets, List.length_map, List.length_cons, List.length_nil, List.map_cons, List.map_nil, e1, e2, e3]
theorem spl_of {w : Str} {ws : List Str} (h : Txt.split w " " = ws) (hz : w.length ≤ 1000) : splitD (.str w) (.str " ") = some (.lst (ws.map D.str)) := by
  unfold splitD
  dsimp only
  rw [if_pos ⟨by decide +kernel, by omega⟩, h]
theorem spl_v : splitD (.str "value") (.str " ") = some (.lst [.str "value"]) := spl_of (ws := ["value"]) (by decide +kernel) (by decide +kernel)
theorem spl_w : splitD (.str "what") (.str " ") = some (.lst [.str "what"]) := spl_of (ws := ["what"]) (by decide +kernel) (by decide +kernel)
theorem spl_lw : splitD (.str "line what") (.str " ") = some (.lst [.str "line", .str "what"]) := spl_of (ws := ["line", "what"]) (by decide +kernel) (by decide +kernel)
theorem spl_n : splitD (.str "") (.str " ") = some (.lst [.str ""]) := spl_of (ws := [""]) (by decide +kernel) (by decide +kernel)
theorem told_of {e : D} {ws : List D} {L : List D} {x3 : Option SV} (hp : Pl mu) (hs : splitD (.str w) (.str " ") = some (.lst ws)) (hw : ws.length ≤ 1000) (hL : ∀ n, clL n L = true)
    (hf : sForL (.nm 3) b__law_told_of_1 ws (tSx e w mu.length none) (mu ++ [some (.lst [])]) = .nx (tSx e w mu.length x3) (mu ++ [some (.lst L)])) : f__law_told_of [e, .str w] mu = .ok (.lst L) mu := by
  have g0 : (mu ++ [some (MO.lst L)])[mu.length]? = some (some (.lst L)) := by simp
  have hz : sizeOk ws = true := decide_eq_true (by omega)
  have s0 : (mu ++ [some (MO.lst L)]).set mu.length none = mu ++ [none] := by simp
  have key : dFun 4 g__law_told_of [e, .str w] mu = .ok (.lst L) (mu ++ [none]) := by
    unfold tSx at hf
    have ty : tyOk "str" (.str w) = true := rfl
    have sq : seqL (.lst ws) = some ws := rfl
    simp [g__law_told_of, dFun, sSeq, snext, sIf, sbind, sAsg, sRet, sSkip, sExpr, sPar, sSetI, sSetA, sAug, sFor, sTg, dVar, dC, dNil, dCons, dBind, obind, dTup, dLst, dFrz, MO.d, dReg, dFz, dOp1, dOp2, dCmp, dB2v, dTst, dAnd, dOr, dNot, dIf, dCall, dIx, dLook, lookD, dIsi, dIsi2, dIsC, dIn, dChn, dMut, lstOf, putO, dM1, tyOk, dNw1, dNw2, dSl, dP, dNoP, dIsN, dItQ, dItS, dRg1, dRg2, dEnum, dLc, dYes, noex, Tg.run, gSets, List.length_map, List.length_cons, List.length_nil, List.map_cons, List.map_nil, hs, hf, g0, s0, ty, sq, hz]
  exact gc_of key (take_app _ _) hp fun n => hL n
theorem cl2 {n : Nat} {a b : D} (ha : clD n a = true) (hb : clD n b = true) : clL n [a, b] = true := by
  unfold clL
  rw [ha]
  unfold clL
  rw [hb]
  rfl
theorem cl1 {n : Nat} {a : D} (ha : clD n a = true) : clL n [a] = true := by
  unfold clL
  rw [ha]
  rfl
theorem step3 {e : D} {k : Nat} {x3 y : Option SV} {d : D} {ds : List D} {m1 m2 : Store} {o : OutS} (h : b__law_told_of_1 (tSx e w k (some (.val d))) m1 = .nx (tSx e w k (some (.val d))) m2) (h2 : sForL (.nm 3) b__law_told_of_1 ds (tSx e w k (some (.val d))) m2 = o) :
    sForL (.nm 3) b__law_told_of_1 (d :: ds) (tSx e w k x3) m1 = o := by
  conv => lhs; unfold sForL
  rw [show (Tg.nm 3).run d (tSx e w k x3) = some (tSx e w k (some (.val d))) from rfl]
  dsimp only
  rw [h]
  exact h2
theorem told_V (hp : Pl mu) (hc : xcs.contains c = true) (ha : ∀ n, clD n a = true) : f__law_told_of [.exn c [("value", a)], .str "value"] mu = .ok (.lst [a]) mu :=
  told_of (x3 := some (.val (.str "value"))) hp spl_v (by simp) (fun n => cl1 (ha n)) (step3 (y := none) (told_v (by simp) hc rfl) rfl)
theorem told_W (hp : Pl mu) (hc : xcs.contains c = true) (ha : ∀ n, clD n a = true) : f__law_told_of [.exn c [("what", a)], .str "what"] mu = .ok (.lst [a]) mu :=
  told_of (x3 := some (.val (.str "what"))) hp spl_w (by simp) (fun n => cl1 (ha n)) (step3 (y := none) (told_w (by simp) hc rfl) rfl)
theorem told_LW (hp : Pl mu) (hc : xcs.contains c = true) (ha : ∀ n, clD n a = true) (hb : ∀ n, clD n b = true) : f__law_told_of [.exn c [("line", a), ("what", b)], .str "line what"] mu = .ok (.lst [a, b]) mu :=
  told_of (x3 := some (.val (.str "what"))) hp spl_lw (by simp) (fun n => cl2 (ha n) (hb n)) (step3 (y := none) (told_l (by simp) hc rfl) (step3 (y := none) (told_w (by simp) hc rfl) rfl))
theorem told_N (hp : Pl mu) : f__law_told_of [.exn c [], .str ""] mu = .ok (.lst []) mu :=
  told_of (x3 := some (.val (.str ""))) hp spl_n (by simp) (fun n => rfl) (step3 (y := none) told_n rfl)
def kindsL (c : Nat) : List D := [.bl (c == 1004), .bl (c == 1003), .bl (c == 1002), .bl (c == 1001), .bl (c == 1007), .bl (c == 1008), .bl (c == 1005), .bl (c == 1006)]
theorem kinds_ok (hc : xcs.contains c = true) (mu : Store) : f__law_kinds [.exn c fs] mu = .ok (.lst (kindsL c)) mu := by
  have t : ∀ d, d ≠ 1000 → isXt d c = some (c == d) := fun d hd => by
    unfold isXt
    rw [if_pos hc]
    have : (d == 1000) = false := by simpa using hd
    rw [this, Bool.or_false]
  have a1 : ∀ a b : List D, a.length + b.length ≤ 100 → addD (.lst a) (.lst b) = some (.lst (a ++ b)) := fun a b h => by
    first
      | rfl
      | (unfold addD; dsimp only; rw [if_pos (by rw [List.length_append]; omega)])
      | (simp [addD, sizeOk]; omega)
  have t1 := t 1001 (by decide)
  have t2 := t 1002 (by decide)
  have t3 := t 1003 (by decide)
  have t4 := t 1004 (by decide)
  have t5 := t 1005 (by decide)
  have t6 := t 1006 (by decide)
  have t7 := t 1007 (by decide)
  have t8 := t 1008 (by decide)
  simp [f__law_kinds, g__law_kinds, dIsX, kindsL, dFun, sSeq, snext, sIf, sbind, sAsg, sRet, sSkip, sExpr, sPar, sSetI, sSetA, sAug, sFor, sTg, dVar, dC, dNil, dCons, dBind, obind, dTup, dLst, dFrz, MO.d, dReg, dFz, dOp1, dOp2, dCmp, dB2v, dTst, dAnd, dOr, dNot, dIf, dCall, dIx, dLook, lookD, dIsi, dIsi2, dIsC, dIn, dChn, dMut, lstOf, putO, dM1, tyOk, dNw1, dNw2, dSl, dP, dNoP, dIsN, dItQ, dItS, dRg1, dRg2, dEnum, dLc, dYes, noex, Tg.run, gSets, List.length_map, List.length_cons, List.length_nil, List.map_cons, List.map_nil, t1, t2, t3, t4, t5, t6, t7, t8, a1]
end
end DL
end

section
set_option Elab.async false
set_option linter.all false
set_option maxRecDepth 100000
set_option maxHeartbeats 4000000
namespace DL
open PySem
/-! N3: the law k00 -/
def tz0 : SF :=
  (sTg (.tp [11, 12]) (dVar 9))
def tz1 : SF :=
  (sAsg 10 (dIf (dCmp neD (dVar 12) (dC (.str ""))) (dSl (dFrz (dLst (dCons (dVar 3) (dCons (dVar 4) dNil)))) dNoP (dP (dOp1 lenD (dLook (dM1 "str" splitD (dVar 12) (dC (.str " "))))))) (dFrz (dLst dNil))))
def tz2 : SF :=
  (sIf (dOr (dNot (dIsX (isXt 1000) (dVar 11))) (dNot (dIsX isXv (dVar 11)))) (sRet (dC (.bl false))) sSkip)
def tz3 : SF :=
  (sIf (dCmp neD (dCall f__law_kinds (dCons (dVar 11) dNil)) (dFrz q_law_k00_1)) (sRet (dC (.bl false))) sSkip)
def tz4 : SF :=
  (sIf (dCmp neD (dOp1 reprQ (dLook (dCall f__law_told_of (dCons (dVar 11) (dCons (dVar 12) dNil))))) (dOp1 reprQ (dLook (dVar 10)))) (sRet (dC (.bl false))) sSkip)
def tz5 : SF :=
  (sIf (dCmp neD (dOp1 reprQ (dLook (dCall f__law_told_of (dCons (dIx (dIx (dVar 7) (dVar 8)) (dC (.int 0))) (dCons (dVar 12) dNil))))) (dOp1 reprQ (dLook (dSl (dFrz (dLst (dCons (dVar 5) (dCons (dVar 3) dNil)))) dNoP (dP (dOp1 lenD (dLook (dVar 10)))))))) (sRet (dC (.bl false))) sSkip)
theorem tz_eq : b_law_k00_1 = (sSeq tz0 (sSeq tz1 (sSeq tz2 (sSeq tz3 (sSeq tz4 tz5))))) := rfl
def kz0 : SF :=
  (sAsg 1 (dCall f__law_pot (dCons (dVar 0) dNil)))
def kz1 : SF :=
  (sPar3 3 4 5 (dCall f__law_thing (dCons (dVar 1) dNil)) (dCall f__law_thing (dCons (dVar 1) dNil)) (dCall f__law_thing (dCons (dVar 1) dNil)))
def kz2 : SF :=
  (sPar 6 7 (dCall f__law_rows (dCons (dVar 3) (dCons (dVar 4) dNil))) (dCall f__law_rows (dCons (dVar 5) (dCons (dVar 3) dNil))))
def kz3 : SF :=
  (sFor (dEnumQ (dVar 6)) (.tp [8, 9]) b_law_k00_1)
def kz4 : SF :=
  (sAsg 2 (dExn 1000 [] dNil))
def kz5 : SF :=
  (sRet (dB2v (dAnd (dIsX isXv (dVar 2)) (dIn true (dC (.bl true)) (dLook (dCall f__law_kinds (dCons (dVar 2) dNil)))))))
theorem kz_eq : g_law_k00 = (sSeq kz0 (sSeq kz1 (sSeq kz2 (sSeq kz3 (sSeq kz4 kz5))))) := rfl

def rowsD (a b : D) : List D := [.tup [.exn 1004 [("value", a)], .str "value"], .tup [.exn 1003 [("what", a)], .str "what"], .tup [.exn 1002 [("line", a), ("what", b)], .str "line what"], .tup [.exn 1001 [("what", a)], .str "what"], .tup [.exn 1007 [], .str ""], .tup [.exn 1008 [], .str ""], .tup [.exn 1005 [], .str ""], .tup [.exn 1006 [], .str ""]]
def sz (a0 x2 : Option SV) (a b c : D) (x8 x9 x10 x11 x12 : Option SV) : Sl := [a0, some (.val (.obj 0)), x2, some (.val a), some (.val b), some (.val c), some (.val (.lst (rowsD a b))), some (.val (.lst (rowsD c a))), x8, x9, x10, x11, x12, none]
section
variable {a0 x2 x8 x9 x10 x11 x12 : Option SV} {a b c : D} {mu : Store} {i k : Nat} {fs fs' : List (Str × D)} {w : Str} {L L' : List D}
theorem tz0_ok {e : D} : tz0 (sz a0 x2 a b c x8 (some (.val (.tup [e, .str w]))) x10 x11 x12) mu = .nx (sz a0 x2 a b c x8 (some (.val (.tup [e, .str w]))) x10 (some (.val e)) (some (.val (.str w)))) mu := rfl
theorem tz1_v : tz1 (sz a0 x2 a b c x8 x9 x10 x11 (some (.val (.str "value")))) mu = .nx (sz a0 x2 a b c x8 x9 (some (.val (.lst [a]))) x11 (some (.val (.str "value")))) mu := by
  have e := ne_word "value" ""
  rw [decide_eq_false (by decide)] at e
  have s := spl_v
  have l : lenD (.lst [.str "value"]) = some (.int 1) := rfl
  have c1 : sliceD (.lst [a, b]) none (some 1) = some (.lst [a]) := rfl
  have ty : tyOk "str" (.str "value") = true := rfl
  unfold sz
  generalize rowsD a b = R1 at *
  generalize rowsD c a = R2 at *
  simp [tz1, dFun, sSeq, snext, sIf, sbind, sAsg, sRet, sSkip, sExpr, sPar, sSetI, sSetA, sAug, sFor, sTg, dVar, dC, dNil, dCons, dBind, obind, dTup, dLst, dFrz, MO.d, dReg, dFz, dOp1, dOp2, dCmp, dB2v, dTst, dAnd, dOr, dNot, dIf, dCall, dIx, dLook, lookD, dIsi, dIsi2, dIsC, dIn, dChn, dMut, lstOf, putO, dM1, tyOk, dNw1, dNw2, dSl, dP, dNoP, dIsN, dItQ, dItS, dRg1, dRg2, dEnum, dLc, dYes, noex, Tg.run, gSets, List.length_map, List.length_cons, List.length_nil, List.map_cons, List.map_nil, e, s, l, c1, ty]
theorem tz1_w : tz1 (sz a0 x2 a b c x8 x9 x10 x11 (some (.val (.str "what")))) mu = .nx (sz a0 x2 a b c x8 x9 (some (.val (.lst [a]))) x11 (some (.val (.str "what")))) mu := by
  have e := ne_word "what" ""
  rw [decide_eq_false (by decide)] at e
  have s := spl_w
  have l : lenD (.lst [.str "what"]) = some (.int 1) := rfl
  have c1 : sliceD (.lst [a, b]) none (some 1) = some (.lst [a]) := rfl
  have ty : tyOk "str" (.str "what") = true := rfl
  unfold sz
  generalize rowsD a b = R1 at *
  generalize rowsD c a = R2 at *
  simp [tz1, dFun, sSeq, snext, sIf, sbind, sAsg, sRet, sSkip, sExpr, sPar, sSetI, sSetA, sAug, sFor, sTg, dVar, dC, dNil, dCons, dBind, obind, dTup, dLst, dFrz, MO.d, dReg, dFz, dOp1, dOp2, dCmp, dB2v, dTst, dAnd, dOr, dNot, dIf, dCall, dIx, dLook, lookD, dIsi, dIsi2, dIsC, dIn, dChn, dMut, lstOf, putO, dM1, tyOk, dNw1, dNw2, dSl, dP, dNoP, dIsN, dItQ, dItS, dRg1, dRg2, dEnum, dLc, dYes, noex, Tg.run, gSets, List.length_map, List.length_cons, List.length_nil, List.map_cons, List.map_nil, e, s, l, c1, ty]
theorem tz1_l : tz1 (sz a0 x2 a b c x8 x9 x10 x11 (some (.val (.str "line what")))) mu = .nx (sz a0 x2 a b c x8 x9 (some (.val (.lst [a, b]))) x11 (some (.val (.str "line what")))) mu := by
  have e := ne_word "line what" ""
  rw [decide_eq_false (by decide)] at e
  have s := spl_lw
  have l : lenD (.lst [.str "line", .str "what"]) = some (.int 2) := rfl
  have c1 : sliceD (.lst [a, b]) none (some 2) = some (.lst [a, b]) := rfl
  have ty : tyOk "str" (.str "line what") = true := rfl
  unfold sz
  generalize rowsD a b = R1 at *
  generalize rowsD c a = R2 at *
  simp [tz1, dFun, sSeq, snext, sIf, sbind, sAsg, sRet, sSkip, sExpr, sPar, sSetI, sSetA, sAug, sFor, sTg, dVar, dC, dNil, dCons, dBind, obind, dTup, dLst, dFrz, MO.d, dReg, dFz, dOp1, dOp2, dCmp, dB2v, dTst, dAnd, dOr, dNot, dIf, dCall, dIx, dLook, lookD, dIsi, dIsi2, dIsC, dIn, dChn, dMut, lstOf, putO, dM1, tyOk, dNw1, dNw2, dSl, dP, dNoP, dIsN, dItQ, dItS, dRg1, dRg2, dEnum, dLc, dYes, noex, Tg.run, gSets, List.length_map, List.length_cons, List.length_nil, List.map_cons, List.map_nil, e, s, l, c1, ty]
theorem tz1_n : tz1 (sz a0 x2 a b c x8 x9 x10 x11 (some (.val (.str "")))) mu = .nx (sz a0 x2 a b c x8 x9 (some (.val (.lst []))) x11 (some (.val (.str "")))) mu := by
  have e := ne_word "" ""
  rw [decide_eq_true rfl] at e
  unfold sz
  generalize rowsD a b = R1 at *
  generalize rowsD c a = R2 at *
  simp [tz1, dFun, sSeq, snext, sIf, sbind, sAsg, sRet, sSkip, sExpr, sPar, sSetI, sSetA, sAug, sFor, sTg, dVar, dC, dNil, dCons, dBind, obind, dTup, dLst, dFrz, MO.d, dReg, dFz, dOp1, dOp2, dCmp, dB2v, dTst, dAnd, dOr, dNot, dIf, dCall, dIx, dLook, lookD, dIsi, dIsi2, dIsC, dIn, dChn, dMut, lstOf, putO, dM1, tyOk, dNw1, dNw2, dSl, dP, dNoP, dIsN, dItQ, dItS, dRg1, dRg2, dEnum, dLc, dYes, noex, Tg.run, gSets, List.length_map, List.length_cons, List.length_nil, List.map_cons, List.map_nil, e]
theorem tz2_ok (hk : xcs.contains k = true) : tz2 (sz a0 x2 a b c x8 x9 x10 (some (.val (.exn k fs))) x12) mu = .nx (sz a0 x2 a b c x8 x9 x10 (some (.val (.exn k fs))) x12) mu := by
  have t1 : isXt 1000 k = some true := by
    unfold isXt
    rw [if_pos hk]
    simp
  have t2 : isXv k = some true := by
    unfold isXv
    rw [if_pos hk]
  unfold sz
  generalize rowsD a b = R1 at *
  generalize rowsD c a = R2 at *
  simp [tz2, dIsX, dFun, sSeq, snext, sIf, sbind, sAsg, sRet, sSkip, sExpr, sPar, sSetI, sSetA, sAug, sFor, sTg, dVar, dC, dNil, dCons, dBind, obind, dTup, dLst, dFrz, MO.d, dReg, dFz, dOp1, dOp2, dCmp, dB2v, dTst, dAnd, dOr, dNot, dIf, dCall, dIx, dLook, lookD, dIsi, dIsi2, dIsC, dIn, dChn, dMut, lstOf, putO, dM1, tyOk, dNw1, dNw2, dSl, dP, dNoP, dIsN, dItQ, dItS, dRg1, dRg2, dEnum, dLc, dYes, noex, Tg.run, gSets, List.length_map, List.length_cons, List.length_nil, List.map_cons, List.map_nil, t1, t2]
theorem tz3_ok (hk : xcs.contains k = true) (hq : q_law_k00_1 (sz a0 x2 a b c x8 x9 x10 (some (.val (.exn k fs))) x12) mu = .ok (.lst (kindsL k)) mu) (hn : neD (.lst (kindsL k)) (.lst (kindsL k)) = some false) :
    tz3 (sz a0 x2 a b c x8 x9 x10 (some (.val (.exn k fs))) x12) mu = .nx (sz a0 x2 a b c x8 x9 x10 (some (.val (.exn k fs))) x12) mu := by
  have e := kinds_ok (fs := fs) hk mu
  unfold sz at hq ⊢
  generalize rowsD a b = R1 at *
  generalize rowsD c a = R2 at *
  generalize kindsL k = KL at *
  simp [tz3, dFun, sSeq, snext, sIf, sbind, sAsg, sRet, sSkip, sExpr, sPar, sSetI, sSetA, sAug, sFor, sTg, dVar, dC, dNil, dCons, dBind, obind, dTup, dLst, dFrz, MO.d, dReg, dFz, dOp1, dOp2, dCmp, dB2v, dTst, dAnd, dOr, dNot, dIf, dCall, dIx, dLook, lookD, dIsi, dIsi2, dIsC, dIn, dChn, dMut, lstOf, putO, dM1, tyOk, dNw1, dNw2, dSl, dP, dNoP, dIsN, dItQ, dItS, dRg1, dRg2, dEnum, dLc, dYes, noex, Tg.run, gSets, List.length_map, List.length_cons, List.length_nil, List.map_cons, List.map_nil, e, hq, hn]
theorem tz4_ok (ht : f__law_told_of [.exn k fs, .str w] mu = .ok (.lst L) mu) {z : Str} (hz : reprQ (.lst L) = some (.str z)) :
    tz4 (sz a0 x2 a b c x8 x9 (some (.val (.lst L))) (some (.val (.exn k fs))) (some (.val (.str w)))) mu = .nx (sz a0 x2 a b c x8 x9 (some (.val (.lst L))) (some (.val (.exn k fs))) (some (.val (.str w)))) mu := by
  have e := ne_word z z
  rw [decide_eq_true rfl] at e
  unfold sz
  generalize rowsD a b = R1 at *
  generalize rowsD c a = R2 at *
  simp [tz4, dFun, sSeq, snext, sIf, sbind, sAsg, sRet, sSkip, sExpr, sPar, sSetI, sSetA, sAug, sFor, sTg, dVar, dC, dNil, dCons, dBind, obind, dTup, dLst, dFrz, MO.d, dReg, dFz, dOp1, dOp2, dCmp, dB2v, dTst, dAnd, dOr, dNot, dIf, dCall, dIx, dLook, lookD, dIsi, dIsi2, dIsC, dIn, dChn, dMut, lstOf, putO, dM1, tyOk, dNw1, dNw2, dSl, dP, dNoP, dIsN, dItQ, dItS, dRg1, dRg2, dEnum, dLc, dYes, noex, Tg.run, gSets, List.length_map, List.length_cons, List.length_nil, List.map_cons, List.map_nil, ht, hz, e]
theorem tz5_ok (ht : f__law_told_of [.exn k fs', .str w] mu = .ok (.lst L') mu) {z : Str} (hz : reprQ (.lst L') = some (.str z)) (hi : ixD (.lst (rowsD c a)) (.int (i : Int)) = some (.tup [.exn k fs', .str w])) {n : Int} (hl : lenD (.lst L) = some (.int n)) (hs : sliceD (.lst [c, a]) none (some n) = some (.lst L')) :
    tz5 (sz a0 x2 a b c (some (.val (.int (i : Int)))) x9 (some (.val (.lst L))) x11 (some (.val (.str w)))) mu = .nx (sz a0 x2 a b c (some (.val (.int (i : Int)))) x9 (some (.val (.lst L))) x11 (some (.val (.str w)))) mu := by
  have e := ne_word z z
  rw [decide_eq_true rfl] at e
  have i0 : ixD (.tup [.exn k fs', .str w]) (.int 0) = some (.exn k fs') := rfl
  unfold sz
  generalize rowsD a b = R1 at *
  generalize rowsD c a = R2 at *
  simp [tz5, dFun, sSeq, snext, sIf, sbind, sAsg, sRet, sSkip, sExpr, sPar, sSetI, sSetA, sAug, sFor, sTg, dVar, dC, dNil, dCons, dBind, obind, dTup, dLst, dFrz, MO.d, dReg, dFz, dOp1, dOp2, dCmp, dB2v, dTst, dAnd, dOr, dNot, dIf, dCall, dIx, dLook, lookD, dIsi, dIsi2, dIsC, dIn, dChn, dMut, lstOf, putO, dM1, tyOk, dNw1, dNw2, dSl, dP, dNoP, dIsN, dItQ, dItS, dRg1, dRg2, dEnum, dLc, dYes, noex, Tg.run, gSets, List.length_map, List.length_cons, List.length_nil, List.map_cons, List.map_nil, ht, hz, e, hi, i0, hl, hs]
theorem turn00 (hk : xcs.contains k = true) (hq : ∀ x10 x12, q_law_k00_1 (sz a0 x2 a b c (some (.val (.int (i : Int)))) (some (.val (.tup [.exn k fs, .str w]))) x10 (some (.val (.exn k fs))) x12) mu = .ok (.lst (kindsL k)) mu) (hn : neD (.lst (kindsL k)) (.lst (kindsL k)) = some false)
    (h1 : ∀ x8 x9 x10 x11, tz1 (sz a0 x2 a b c x8 x9 x10 x11 (some (.val (.str w)))) mu = .nx (sz a0 x2 a b c x8 x9 (some (.val (.lst L))) x11 (some (.val (.str w)))) mu)
    (ht : f__law_told_of [.exn k fs, .str w] mu = .ok (.lst L) mu) (ht' : f__law_told_of [.exn k fs', .str w] mu = .ok (.lst L') mu) (hz : ∃ z, reprQ (.lst L) = some (.str z)) (hz' : ∃ z, reprQ (.lst L') = some (.str z))
    (hi : ixD (.lst (rowsD c a)) (.int (i : Int)) = some (.tup [.exn k fs', .str w])) {n : Int} (hl : lenD (.lst L) = some (.int n)) (hs : sliceD (.lst [c, a]) none (some n) = some (.lst L')) :
    b_law_k00_1 (sz a0 x2 a b c (some (.val (.int (i : Int)))) (some (.val (.tup [.exn k fs, .str w]))) x10 x11 x12) mu = .nx (sz a0 x2 a b c (some (.val (.int (i : Int)))) (some (.val (.tup [.exn k fs, .str w]))) (some (.val (.lst L))) (some (.val (.exn k fs))) (some (.val (.str w)))) mu := by
  obtain ⟨z, hz⟩ := hz
  obtain ⟨z', hz'⟩ := hz'
  rw [tz_eq]
  refine (seq_nx tz0_ok).trans ?_
  refine (seq_nx (h1 _ _ _ _)).trans ?_
  refine (seq_nx (tz2_ok hk)).trans ?_
  refine (seq_nx (tz3_ok hk (hq _ _) hn)).trans ?_
  refine (seq_nx (tz4_ok ht hz)).trans ?_
  exact tz5_ok ht' hz' hi hl hs
theorem neK (k : Nat) (h : k ∈ xcs) : neD (.lst (kindsL k)) (.lst (kindsL k)) = some false := by
  simp only [xcs, List.mem_cons, List.not_mem_nil, or_false] at h
  rcases h with rfl | rfl | rfl | rfl | rfl | rfl | rfl | rfl | rfl <;> decide +kernel
theorem eq_ints (i j : Int) : eqD (.int i) (.int j) = some (decide (i = j)) := by
  unfold eqD
  simp [toP, PyData.depth, PyData.eqv]
  rfl
theorem q_ok (i : Nat) (k : Nat) (hk : kindsL k = [.bl (decide ((0 : Int) = (i : Int))), .bl (decide ((1 : Int) = (i : Int))), .bl (decide ((2 : Int) = (i : Int))), .bl (decide ((3 : Int) = (i : Int))), .bl (decide ((4 : Int) = (i : Int))), .bl (decide ((5 : Int) = (i : Int))), .bl (decide ((6 : Int) = (i : Int))), .bl (decide ((7 : Int) = (i : Int)))]) :
    q_law_k00_1 (sz a0 x2 a b c (some (.val (.int (i : Int)))) x9 x10 x11 x12) mu = .ok (.lst (kindsL k)) mu := by
  have hl : lenD (.lst (rowsD a b)) = some (.int 8) := rfl
  have hr : rgOk 8 = true := by decide
  have hrg : rangeD 0 8 = [.int 0, .int 1, .int 2, .int 3, .int 4, .int 5, .int 6, .int 7] := rfl
  have := lc_all (src := dRg1 (dOp1 lenD (dLook (dVar 6)))) (g := .nm 13) (own := [13]) (elt := dB2v (dCmp eqD (dVar 13) (dVar 8))) (sl := sz a0 x2 a b c (some (.val (.int (i : Int)))) x9 x10 x11 x12) (mu := mu) (ds := [.int 0, .int 1, .int 2, .int 3, .int 4, .int 5, .int 6, .int 7])
    (fun d => match d with
      | .int j => .bl (decide (j = (i : Int)))
      | d => d) (by
        unfold sz
        generalize rowsD a b = R1 at *
        generalize rowsD c a = R2 at *
        first
          | (simp [dFun, sSeq, snext, sIf, sbind, sAsg, sRet, sSkip, sExpr, sPar, sSetI, sSetA, sAug, sFor, sTg, dVar, dC, dNil, dCons, dBind, obind, dTup, dLst, dFrz, MO.d, dReg, dFz, dOp1, dOp2, dCmp, dB2v, dTst, dAnd, dOr, dNot, dIf, dCall, dIx, dLook, lookD, dIsi, dIsi2, dIsC, dIn, dChn, dMut, lstOf, putO, dM1, tyOk, dNw1, dNw2, dSl, dP, dNoP, dIsN, dItQ, dItS, dRg1, dRg2, dEnum, dLc, dYes, noex, Tg.run, gSets, List.length_map, List.length_cons, List.length_nil, List.map_cons, List.map_nil, hl, hr, hrg]; done)
          | (simp [dFun, sSeq, snext, sIf, sbind, sAsg, sRet, sSkip, sExpr, sPar, sSetI, sSetA, sAug, sFor, sTg, dVar, dC, dNil, dCons, dBind, obind, dTup, dLst, dFrz, MO.d, dReg, dFz, dOp1, dOp2, dCmp, dB2v, dTst, dAnd, dOr, dNot, dIf, dCall, dIx, dLook, lookD, dIsi, dIsi2, dIsC, dIn, dChn, dMut, lstOf, putO, dM1, tyOk, dNw1, dNw2, dSl, dP, dNoP, dIsN, dItQ, dItS, dRg1, dRg2, dEnum, dLc, dYes, noex, Tg.run, gSets, List.length_map, List.length_cons, List.length_nil, List.map_cons, List.map_nil, hl, hr, hrg]; rfl)) (by simp) (fun d hd => by
        have key : ∀ j : Int, dB2v (dCmp eqD (dVar 13) (dVar 8)) ((wipeS (sz a0 x2 a b c (some (.val (.int (i : Int)))) x9 x10 x11 x12) [13]).set 13 (some (.val (.int j)))) mu = .ok (.bl (decide (j = (i : Int)))) mu := fun j => by
          have e := eq_ints j (i : Int)
          unfold sz
          simp [wipeS, dFun, sSeq, snext, sIf, sbind, sAsg, sRet, sSkip, sExpr, sPar, sSetI, sSetA, sAug, sFor, sTg, dVar, dC, dNil, dCons, dBind, obind, dTup, dLst, dFrz, MO.d, dReg, dFz, dOp1, dOp2, dCmp, dB2v, dTst, dAnd, dOr, dNot, dIf, dCall, dIx, dLook, lookD, dIsi, dIsi2, dIsC, dIn, dChn, dMut, lstOf, putO, dM1, tyOk, dNw1, dNw2, dSl, dP, dNoP, dIsN, dItQ, dItS, dRg1, dRg2, dEnum, dLc, dYes, noex, Tg.run, gSets, List.length_map, List.length_cons, List.length_nil, List.map_cons, List.map_nil, e]
        simp only [List.mem_cons, List.not_mem_nil, or_false] at hd
        rcases hd with rfl | rfl | rfl | rfl | rfl | rfl | rfl | rfl <;> exact ⟨_, rfl, key _⟩)
  rw [hk]
  exact this
end
end DL
end

section
set_option Elab.async false
set_option linter.all false
set_option maxRecDepth 100000
set_option maxHeartbeats 4000000
namespace DL
open PySem
/-! N4: the law k00: the whole -/
theorem for_src {src : LF} {tgt : Tg} {body : SF} {sl : Sl} {mu m1 : Store} {ds : List D} (h : src sl mu = .ok ds m1) : sFor src tgt body sl mu = sForL tgt body ds sl m1 := by
  unfold sFor
  rw [h]
  rfl
theorem thing_ok {p : Pot} (ok : p.Ok) (r : Store) : ∃ d p', f__law_thing [.obj 0] (mus p r) = .ok d (mus p' r) ∧ p'.Ok ∧ d ∈ TH0 := by
  obtain ⟨d, p', e, ok', hd⟩ := pick_lst ok (l := TH0) (by simp [TH0]) (by simp [TH0]) r
  refine ⟨d, p', ?_, ok', hd⟩
  have n1 : negD (.int 3) = some (.int (-3)) := rfl
  have p1 : powD (.int 10) (.int 39) = some (.int 1000000000000000000000000000000000000000) := by
    first
      | rfl
      | decide +kernel
      | (unfold powD; simp)
  unfold TH0 at e
  simp [f__law_thing, g__law_thing, dDct0, dDc1, dFun, sSeq, snext, sIf, sbind, sAsg, sRet, sSkip, sExpr, sPar, sSetI, sSetA, sAug, sFor, sTg, dVar, dC, dNil, dCons, dBind, obind, dTup, dLst, dFrz, MO.d, dReg, dFz, dOp1, dOp2, dCmp, dB2v, dTst, dAnd, dOr, dNot, dIf, dCall, dIx, dLook, dIsi, dIsi2, dIsC, dIn, dChn, dMut, lstOf, putO, dM1, tyOk, dNw1, dNw2, dSl, dP, dNoP, dIsN, dItQ, dItS, dRg1, dRg2, dEnum, dLc, dYes, noex, Tg.run, gSets, List.length_map, List.length_cons, List.length_nil, List.map_cons, List.map_nil, n1, p1, e]
theorem rows_ok (a b : D) (mu : Store) : f__law_rows [a, b] mu = .ok (.lst (rowsD a b)) mu := by
  have a1 : ∀ a b : List D, a.length + b.length ≤ 100 → addD (.lst a) (.lst b) = some (.lst (a ++ b)) := fun a b h => by
    first
      | rfl
      | (unfold addD; dsimp only; rw [if_pos (by rw [List.length_append]; omega)])
      | (simp [addD, sizeOk]; omega)
  simp [f__law_rows, g__law_rows, dExn, rowsD, dFun, sSeq, snext, sIf, sbind, sAsg, sRet, sSkip, sExpr, sPar, sSetI, sSetA, sAug, sFor, sTg, dVar, dC, dNil, dCons, dBind, obind, dTup, dLst, dFrz, MO.d, dReg, dFz, dOp1, dOp2, dCmp, dB2v, dTst, dAnd, dOr, dNot, dIf, dCall, dIx, dLook, lookD, dIsi, dIsi2, dIsC, dIn, dChn, dMut, lstOf, putO, dM1, tyOk, dNw1, dNw2, dSl, dP, dNoP, dIsN, dItQ, dItS, dRg1, dRg2, dEnum, dLc, dYes, noex, Tg.run, gSets, List.length_map, List.length_cons, List.length_nil, List.map_cons, List.map_nil, a1]
section
variable {a0 x2 x8 x9 x10 x11 x12 : Option SV} {a b c : D} {mu : Store} {i k : Nat} {fs fs' : List (Str × D)} {w : Str} {L L' : List D}
theorem stepE {i : Int} {row : D} {ds : List D} {y10 y11 y12 : Option SV} {o : OutS} (h : b_law_k00_1 (sz a0 x2 a b c (some (.val (.int i))) (some (.val row)) x10 x11 x12) mu = .nx (sz a0 x2 a b c (some (.val (.int i))) (some (.val row)) y10 y11 y12) mu)
    (h2 : sForL (.tp [8, 9]) b_law_k00_1 ds (sz a0 x2 a b c (some (.val (.int i))) (some (.val row)) y10 y11 y12) mu = o) : sForL (.tp [8, 9]) b_law_k00_1 (.tup [.int i, row] :: ds) (sz a0 x2 a b c x8 x9 x10 x11 x12) mu = o := by
  conv => lhs; unfold sForL
  rw [show (Tg.tp [8, 9]).run (.tup [.int i, row]) (sz a0 x2 a b c x8 x9 x10 x11 x12) = some (sz a0 x2 a b c (some (.val (.int i))) (some (.val row)) x10 x11 x12) from rfl]
  dsimp only
  rw [h]
  exact h2
theorem loop00 (hp : Pl mu) (ha : a ∈ TH0) (hb : b ∈ TH0) (hc : c ∈ TH0) : ∃ y8 y9 y10 y11 y12, sForL (.tp [8, 9]) b_law_k00_1 (numD 0 (rowsD a b)) (sz a0 x2 a b c x8 x9 x10 x11 x12) mu = .nx (sz a0 x2 a b c y8 y9 y10 y11 y12) mu := by
  have ca := fun n => th_cl ha n
  have cb := fun n => th_cl hb n
  have cc := fun n => th_cl hc n
  have s1 : ∀ x y : D, sliceD (.lst [x, y]) none (some 1) = some (.lst [x]) := fun _ _ => rfl
  have s2 : ∀ x y : D, sliceD (.lst [x, y]) none (some 2) = some (.lst [x, y]) := fun _ _ => rfl
  have s0 : ∀ x y : D, sliceD (.lst [x, y]) none (some 0) = some (.lst []) := fun _ _ => rfl
  have t0 := turn00 (a0 := a0) (x2 := x2) (a := a) (b := b) (c := c) (mu := mu) (x10 := x10) (x11 := x11) (x12 := x12) (i := 0) (k := 1004) (fs := [("value", a)]) (fs' := [("value", c)]) (w := "value") (L := [a]) (L' := [c]) (by decide) (fun _ _ => q_ok 0 1004 rfl) (neK _ (by decide)) (fun _ _ _ _ => tz1_v) (told_V hp (by decide) ca) (told_V hp (by decide) cc) (rep1 ha) (rep1 hc) rfl (n := 1) rfl (s1 _ _)
  have t1 := turn00 (a0 := a0) (x2 := x2) (a := a) (b := b) (c := c) (mu := mu) (x10 := some (.val (.lst [a]))) (x11 := some (.val (.exn 1004 [("value", a)]))) (x12 := some (.val (.str "value"))) (i := 1) (k := 1003) (fs := [("what", a)]) (fs' := [("what", c)]) (w := "what") (L := [a]) (L' := [c]) (by decide) (fun _ _ => q_ok 1 1003 rfl) (neK _ (by decide)) (fun _ _ _ _ => tz1_w) (told_W hp (by decide) ca) (told_W hp (by decide) cc) (rep1 ha) (rep1 hc) rfl (n := 1) rfl (s1 _ _)
  have t2 := turn00 (a0 := a0) (x2 := x2) (a := a) (b := b) (c := c) (mu := mu) (x10 := some (.val (.lst [a]))) (x11 := some (.val (.exn 1003 [("what", a)]))) (x12 := some (.val (.str "what"))) (i := 2) (k := 1002) (fs := [("line", a), ("what", b)]) (fs' := [("line", c), ("what", a)]) (w := "line what") (L := [a, b]) (L' := [c, a]) (by decide) (fun _ _ => q_ok 2 1002 rfl) (neK _ (by decide)) (fun _ _ _ _ => tz1_l) (told_LW hp (by decide) ca cb) (told_LW hp (by decide) cc ca) (rep2 ha hb) (rep2 hc ha) rfl (n := 2) rfl (s2 _ _)
  have t3 := turn00 (a0 := a0) (x2 := x2) (a := a) (b := b) (c := c) (mu := mu) (x10 := some (.val (.lst [a, b]))) (x11 := some (.val (.exn 1002 [("line", a), ("what", b)]))) (x12 := some (.val (.str "line what"))) (i := 3) (k := 1001) (fs := [("what", a)]) (fs' := [("what", c)]) (w := "what") (L := [a]) (L' := [c]) (by decide) (fun _ _ => q_ok 3 1001 rfl) (neK _ (by decide)) (fun _ _ _ _ => tz1_w) (told_W hp (by decide) ca) (told_W hp (by decide) cc) (rep1 ha) (rep1 hc) rfl (n := 1) rfl (s1 _ _)
  have t4 := turn00 (a0 := a0) (x2 := x2) (a := a) (b := b) (c := c) (mu := mu) (x10 := some (.val (.lst [a]))) (x11 := some (.val (.exn 1001 [("what", a)]))) (x12 := some (.val (.str "what"))) (i := 4) (k := 1007) (fs := []) (fs' := []) (w := "") (L := []) (L' := []) (by decide) (fun _ _ => q_ok 4 1007 rfl) (neK _ (by decide)) (fun _ _ _ _ => tz1_n) (told_N hp) (told_N hp) rep0 rep0 rfl (n := 0) rfl (s0 _ _)
  have t5 := turn00 (a0 := a0) (x2 := x2) (a := a) (b := b) (c := c) (mu := mu) (x10 := some (.val (.lst []))) (x11 := some (.val (.exn 1007 []))) (x12 := some (.val (.str ""))) (i := 5) (k := 1008) (fs := []) (fs' := []) (w := "") (L := []) (L' := []) (by decide) (fun _ _ => q_ok 5 1008 rfl) (neK _ (by decide)) (fun _ _ _ _ => tz1_n) (told_N hp) (told_N hp) rep0 rep0 rfl (n := 0) rfl (s0 _ _)
  have t6 := turn00 (a0 := a0) (x2 := x2) (a := a) (b := b) (c := c) (mu := mu) (x10 := some (.val (.lst []))) (x11 := some (.val (.exn 1008 []))) (x12 := some (.val (.str ""))) (i := 6) (k := 1005) (fs := []) (fs' := []) (w := "") (L := []) (L' := []) (by decide) (fun _ _ => q_ok 6 1005 rfl) (neK _ (by decide)) (fun _ _ _ _ => tz1_n) (told_N hp) (told_N hp) rep0 rep0 rfl (n := 0) rfl (s0 _ _)
  have t7 := turn00 (a0 := a0) (x2 := x2) (a := a) (b := b) (c := c) (mu := mu) (x10 := some (.val (.lst []))) (x11 := some (.val (.exn 1005 []))) (x12 := some (.val (.str ""))) (i := 7) (k := 1006) (fs := []) (fs' := []) (w := "") (L := []) (L' := []) (by decide) (fun _ _ => q_ok 7 1006 rfl) (neK _ (by decide)) (fun _ _ _ _ => tz1_n) (told_N hp) (told_N hp) rep0 rep0 rfl (n := 0) rfl (s0 _ _)
  refine ⟨some (.val (.int 7)), some (.val (.tup [.exn 1006 [], .str ""])), some (.val (.lst [])), some (.val (.exn 1006 [])), some (.val (.str "")), ?_⟩
  exact stepE t0 (stepE t1 (stepE t2 (stepE t3 (stepE t4 (stepE t5 (stepE t6 (stepE t7 rfl)))))))
end
theorem law_true : ∀ ns : List Int, ns.length ≤ 63 → ∃ mu, f_law_k00 [.frl (ns.map D.int)] [] = .ok (.bl true) mu := fun ns _ => by
  obtain ⟨p0, e0, ok0⟩ := pot_ok ns
  obtain ⟨a, p1, e1, ok1, ha⟩ := thing_ok ok0 []
  obtain ⟨b, p2, e2, ok2, hb⟩ := thing_ok ok1 []
  obtain ⟨c, p3, e3, ok3, hc⟩ := thing_ok ok2 []
  generalize hA : (some (SV.val (D.frl (ns.map D.int)))) = A
  obtain ⟨y8, y9, y10, y11, y12, e4⟩ := loop00 (a0 := A) (x2 := none) (x8 := none) (x9 := none) (x10 := none) (x11 := none) (x12 := none) (pl_pot p3) ha hb hc
  have r1 := rows_ok a b (mus p3 [])
  have r2 := rows_ok c a (mus p3 [])
  refine ⟨mus p3 [], fun_rt (n := 14) (g := g_law_k00) ?_⟩
  show g_law_k00 [some (.val (.frl (ns.map D.int))), none, none, none, none, none, none, none, none, none, none, none, none, none] [] = _
  rw [hA, kz_eq]
  refine (seq_nx (sl' := [A, some (.val (.obj 0)), none, none, none, none, none, none, none, none, none, none, none, none]) (mu' := mus p0 []) ?_).trans ?_
  · subst hA
    generalize D.frl (ns.map D.int) = d0 at e0
    simp [kz0, dFun, sSeq, snext, sIf, sbind, sAsg, sRet, sSkip, sExpr, sPar, sSetI, sSetA, sAug, sFor, sTg, dVar, dC, dNil, dCons, dBind, obind, dTup, dLst, dFrz, MO.d, dReg, dFz, dOp1, dOp2, dCmp, dB2v, dTst, dAnd, dOr, dNot, dIf, dCall, dIx, dLook, dIsi, dIsi2, dIsC, dIn, dChn, dMut, lstOf, putO, dM1, tyOk, dNw1, dNw2, dSl, dP, dNoP, dIsN, dItQ, dItS, dRg1, dRg2, dEnum, dLc, dYes, noex, Tg.run, gSets, List.length_map, List.length_cons, List.length_nil, List.map_cons, List.map_nil, e0]
  refine (seq_nx (sl' := [A, some (.val (.obj 0)), none, some (.val a), some (.val b), some (.val c), none, none, none, none, none, none, none, none]) (mu' := mus p3 []) ?_).trans ?_
  · simp [kz1, sPar3, dFun, sSeq, snext, sIf, sbind, sAsg, sRet, sSkip, sExpr, sPar, sSetI, sSetA, sAug, sFor, sTg, dVar, dC, dNil, dCons, dBind, obind, dTup, dLst, dFrz, MO.d, dReg, dFz, dOp1, dOp2, dCmp, dB2v, dTst, dAnd, dOr, dNot, dIf, dCall, dIx, dLook, dIsi, dIsi2, dIsC, dIn, dChn, dMut, lstOf, putO, dM1, tyOk, dNw1, dNw2, dSl, dP, dNoP, dIsN, dItQ, dItS, dRg1, dRg2, dEnum, dLc, dYes, noex, Tg.run, gSets, List.length_map, List.length_cons, List.length_nil, List.map_cons, List.map_nil, e1, e2, e3]
  refine (seq_nx (sl' := sz A none a b c none none none none none) (mu' := mus p3 []) ?_).trans ?_
  · unfold sz
    generalize rowsD a b = R1 at *
    generalize rowsD c a = R2 at *
    simp [kz2, sPar, dFun, sSeq, snext, sIf, sbind, sAsg, sRet, sSkip, sExpr, sPar, sSetI, sSetA, sAug, sFor, sTg, dVar, dC, dNil, dCons, dBind, obind, dTup, dLst, dFrz, MO.d, dReg, dFz, dOp1, dOp2, dCmp, dB2v, dTst, dAnd, dOr, dNot, dIf, dCall, dIx, dLook, dIsi, dIsi2, dIsC, dIn, dChn, dMut, lstOf, putO, dM1, tyOk, dNw1, dNw2, dSl, dP, dNoP, dIsN, dItQ, dItS, dRg1, dRg2, dEnum, dLc, dYes, noex, Tg.run, gSets, List.length_map, List.length_cons, List.length_nil, List.map_cons, List.map_nil, r1, r2]
  refine (seq_nx (sl' := sz A none a b c y8 y9 y10 y11 y12) (mu' := mus p3 []) ?_).trans ?_
  · have hs : dEnumQ (dVar 6) (sz A none a b c none none none none none) (mus p3 []) = .ok (numD 0 (rowsD a b)) (mus p3 []) := by
      unfold sz
      generalize rowsD a b = R1
      generalize rowsD c a = R2
      generalize mus p3 [] = MU
      simp [dEnumQ, dFun, sSeq, snext, sIf, sbind, sAsg, sRet, sSkip, sExpr, sPar, sSetI, sSetA, sAug, sFor, sTg, dVar, dC, dNil, dCons, dBind, obind, dTup, dLst, dFrz, MO.d, dReg, dFz, dOp1, dOp2, dCmp, dB2v, dTst, dAnd, dOr, dNot, dIf, dCall, dIx, dLook, dIsi, dIsi2, dIsC, dIn, dChn, dMut, lstOf, putO, dM1, tyOk, dNw1, dNw2, dSl, dP, dNoP, dIsN, dItQ, dItS, dRg1, dRg2, dEnum, dLc, dYes, noex, Tg.run, gSets, List.length_map, List.length_cons, List.length_nil, List.map_cons, List.map_nil]
    unfold kz3
    rw [for_src hs]
    exact e4
  refine (seq_nx (sl' := sz A (some (.val (.exn 1000 []))) a b c y8 y9 y10 y11 y12) (mu' := mus p3 []) ?_).trans ?_
  · unfold sz
    generalize rowsD a b = R1
    generalize rowsD c a = R2
    simp [kz4, dExn, dFun, sSeq, snext, sIf, sbind, sAsg, sRet, sSkip, sExpr, sPar, sSetI, sSetA, sAug, sFor, sTg, dVar, dC, dNil, dCons, dBind, obind, dTup, dLst, dFrz, MO.d, dReg, dFz, dOp1, dOp2, dCmp, dB2v, dTst, dAnd, dOr, dNot, dIf, dCall, dIx, dLook, dIsi, dIsi2, dIsC, dIn, dChn, dMut, lstOf, putO, dM1, tyOk, dNw1, dNw2, dSl, dP, dNoP, dIsN, dItQ, dItS, dRg1, dRg2, dEnum, dLc, dYes, noex, Tg.run, gSets, List.length_map, List.length_cons, List.length_nil, List.map_cons, List.map_nil]
  · have hk := kinds_ok (c := 1000) (fs := []) (by decide) (mus p3 [])
    have hi : inD (.bl true) (.lst (kindsL 1000)) = some false := by decide +kernel
    have t2 : isXv 1000 = some true := by decide
    unfold sz
    generalize rowsD a b = R1 at *
    generalize rowsD c a = R2 at *
    generalize kindsL 1000 = KL at *
    simp [kz5, dIsX, dFun, sSeq, snext, sIf, sbind, sAsg, sRet, sSkip, sExpr, sPar, sSetI, sSetA, sAug, sFor, sTg, dVar, dC, dNil, dCons, dBind, obind, dTup, dLst, dFrz, MO.d, dReg, dFz, dOp1, dOp2, dCmp, dB2v, dTst, dAnd, dOr, dNot, dIf, dCall, dIx, dLook, lookD, dIsi, dIsi2, dIsC, dIn, dChn, dMut, lstOf, putO, dM1, tyOk, dNw1, dNw2, dSl, dP, dNoP, dIsN, dItQ, dItS, dRg1, dRg2, dEnum, dLc, dYes, noex, Tg.run, gSets, List.length_map, List.length_cons, List.length_nil, List.map_cons, List.map_nil, t2, hk, hi]
end DL
end

section
set_option Elab.async false
set_option linter.all false
set_option maxRecDepth 100000
set_option maxHeartbeats 4000000
namespace DL
open PySem PySem.Spec PyProof.Rows
open L2 hiding St
structure Fc (K : PySem.W.Frag) (mg : Str → Option Value) (cl : Nat → Addr) (wa : Str → Addr) : Prop where
  hC : ∀ c, Lv cl c → ClsT K (cl c)
  xq : ErrQ K mg cl
  n_ValueError : mg "ValueError" = none
  n_abs : mg "abs" = none
  n_enumerate : mg "enumerate" = none
  n_int : mg "int" = none
  n_isinstance : mg "isinstance" = none
  n_len : mg "len" = none
  n_range : mg "range" = none
  n_repr : mg "repr" = none
section
variable {P : Program} {w : World} {K : PySem.W.Frag} {mg : Str → Option Value} {base : Heap} {cl : Nat → Addr} {wa : Str → Addr}

theorem sc__law_pot : FnScope (["script", "cell"] : List Str) (["script"] : List Str) (defScope s__law_pot) := ⟨rfl, rfl, rfl, by decide +kernel, rfl, by decide +kernel, by decide +kernel⟩
theorem ok__law_pot {f : Addr} {fd : FuncData} (fc : Fc K mg cl wa) (F : FunD K "_law_pot" "_law_pot" (defArgs s__law_pot) (defBody s__law_pot) (defScope s__law_pot) [] [] f fd) (hm : mg "_law_pot" = some (.ref f)) : Gf P w K mg base cl 1 "_law_pot" 1 f__law_pot :=
  have S := sc__law_pot
  (gf_of (k := 0) (N := ["script", "cell"]) (ps := ["script"]) (g := g__law_pot) F S hm (F.bindsN fun _ _ _ _ _ _ us hl => match us, hl with | [_], _ => rfl) fun cdv A outer s H E n hr =>
    (dss_one (ds_ret (de_reg (dn_lst (da_cons (de_frz (dn_lc (by rfl) S.nd (di_seq (de_sl (de_var (pv 0)) do_none (do_some de_int))) (blkOk_by (own := [("cell", 1)]) (by first | (show blkC ["script", "cell"] (defScope s__law_pot) _ _ = true; decide +kernel) | rfl | with_unfolding_all rfl)) (fun _ _ _ _ _ => (dg_name (i := 1) S.nd rfl (by first | exact .inl rfl | exact .inr rfl))) (fun _ _ _ _ _ => dts_nil) (fun _ _ _ _ _ => (de_abs (by rfl) fc.n_abs (dk_look (de_var (pv 1))))) (by decide))) (da_cons de_int (da_cons de_int (da_cons de_int da_nil)))) (len_cons (len_cons (len_cons (len_cons len_nil)))))))))

theorem sc__law_draw : FnScope (["pot", "many", "cell", "found"] : List Str) (["pot", "many"] : List Str) (defScope s__law_draw) := ⟨rfl, rfl, rfl, by decide +kernel, rfl, by decide +kernel, by decide +kernel⟩
theorem ok__law_draw {f : Addr} {fd : FuncData} (fc : Fc K mg cl wa) (F : FunD K "_law_draw" "_law_draw" (defArgs s__law_draw) (defBody s__law_draw) (defScope s__law_draw) [] [] f fd) (hm : mg "_law_draw" = some (.ref f)) : Gf P w K mg base cl 1 "_law_draw" 2 f__law_draw :=
  have S := sc__law_draw
  (gf_of (k := 0) (N := ["pot", "many", "cell", "found"]) (ps := ["pot", "many"]) (g := g__law_draw) F S hm (F.bindsN fun _ _ _ _ _ _ us hl => match us, hl with | [_, _], _ => rfl) fun cdv A outer s H E n hr =>
    (dss_cons (ds_if (dt_lt (u0 hr) (de_var (pv 1)) de_int) (dss_one (ds_ret de_int)) dss_nil)
    (dss_cons (ds_if (dt_gt (de_ix (de_var (pv 0)) de_int fun _ _ => rfl) de_int) (dss_cons (ds_asg (i := 3) S.nd rfl (by first | exact .inl rfl | exact .inr rfl) (de_mod (de_int1 (by rfl) fc.n_int (dk_look (de_ix (de_var (pv 0)) de_int fun _ _ => rfl))) (de_var (pv 1))))
    (dss_cons (ds_setI (de_div (de_ix (de_var (pv 0)) de_int fun _ _ => rfl) (de_var (pv 1))) (de_var (pv 0)) de_int)
    (dss_one (ds_ret (de_var (pv 3)))))) dss_nil)
    (dss_cons (ds_asg (i := 2) S.nd rfl (by first | exact .inl rfl | exact .inr rfl) de_int)
    (dss_cons (ds_if (dt_lt (u0 hr) (de_ix (de_var (pv 0)) de_int fun _ _ => rfl) (de_len (by rfl) fc.n_len (dk_look (de_ix (de_var (pv 0)) de_int fun _ _ => rfl)))) (dss_cons (ds_asg (i := 2) S.nd rfl (by first | exact .inl rfl | exact .inr rfl) (de_ix (de_ix (de_var (pv 0)) de_int fun _ _ => rfl) (de_ix (de_var (pv 0)) de_int fun _ _ => rfl) fun _ _ => rfl))
    (dss_cons (ds_setI (de_add (de_ix (de_var (pv 0)) de_int fun _ _ => rfl) de_int) (de_var (pv 0)) de_int)
    (dss_one (ds_if (dt_ge (de_var (pv 2)) (de_pow de_int de_int)) (dss_cons (ds_setI (de_div (de_var (pv 2)) (de_var (pv 1))) (de_var (pv 0)) de_int)
    (dss_one (ds_ret (de_mod (de_int1 (by rfl) fc.n_int (dk_look (de_var (pv 2)))) (de_var (pv 1)))))) dss_nil)))) dss_nil)
    (dss_cons (ds_setI (de_mod (de_int1 (by rfl) fc.n_int (dk_look (de_add (de_add (de_mul (de_ix (de_var (pv 0)) de_int fun _ _ => rfl) de_int) (de_var (pv 2))) de_int))) de_int) (de_var (pv 0)) de_int)
    (dss_one (ds_ret (de_mod (de_int1 (by rfl) fc.n_int (dk_look (de_add (de_div (de_mul (de_ix (de_var (pv 0)) de_int fun _ _ => rfl) (de_ix (de_var (pv 0)) de_int fun _ _ => rfl)) de_int) (de_div (de_ix (de_var (pv 0)) de_int fun _ _ => rfl) de_int)))) (de_var (pv 1)))))))))))

theorem sc__law_pick : FnScope (["pot", "row"] : List Str) (["pot", "row"] : List Str) (defScope s__law_pick) := ⟨rfl, rfl, rfl, by decide +kernel, rfl, by decide +kernel, by decide +kernel⟩
theorem ok__law_pick {f : Addr} {fd : FuncData} (fc : Fc K mg cl wa) (F : FunD K "_law_pick" "_law_pick" (defArgs s__law_pick) (defBody s__law_pick) (defScope s__law_pick) [] [] f fd) (hm : mg "_law_pick" = some (.ref f)) (h__law_draw : Gf P w K mg base cl 1 "_law_draw" 2 f__law_draw) : Gf P w K mg base cl 2 "_law_pick" 2 f__law_pick :=
  have S := sc__law_pick
  (gf_of (k := 1) (N := ["pot", "row"]) (ps := ["pot", "row"]) (g := g__law_pick) F S hm (F.bindsN fun _ _ _ _ _ _ us hl => match us, hl with | [_, _], _ => rfl) fun cdv A outer s H E n hr =>
    (dss_one (ds_ret (de_ix (de_var (pv 1)) (de_call (h__law_draw.mono (by decide)) hr (by rfl) (takes_of rfl rfl rfl rfl) (da_cons (de_var (pv 0)) (da_cons (de_len (by rfl) fc.n_len (dk_look (de_var (pv 1)))) da_nil)) (len_cons (len_cons len_nil))) fun _ _ => rfl))))

theorem sc__law_thing : FnScope (["pot"] : List Str) (["pot"] : List Str) (defScope s__law_thing) := ⟨rfl, rfl, rfl, by decide +kernel, rfl, by decide +kernel, by decide +kernel⟩
theorem ok__law_thing {f : Addr} {fd : FuncData} (fc : Fc K mg cl wa) (F : FunD K "_law_thing" "_law_thing" (defArgs s__law_thing) (defBody s__law_thing) (defScope s__law_thing) [] [] f fd) (hm : mg "_law_thing" = some (.ref f)) (h__law_pick : Gf P w K mg base cl 2 "_law_pick" 2 f__law_pick) : Gf P w K mg base cl 3 "_law_thing" 1 f__law_thing :=
  have S := sc__law_thing
  (gf_of (k := 2) (N := ["pot"]) (ps := ["pot"]) (g := g__law_thing) F S hm (F.bindsN fun _ _ _ _ _ _ us hl => match us, hl with | [_], _ => rfl) fun cdv A outer s H E n hr =>
    (dss_one (ds_ret (de_call (h__law_pick.mono (by decide)) hr (by rfl) (takes_of rfl rfl rfl rfl) (da_cons (de_var (pv 0)) (da_cons (de_frz (dn_lst (da_cons de_non (da_cons de_bl (da_cons de_int (da_cons (de_neg de_int) (da_cons (de_pow de_int de_int) (da_cons de_str (da_cons de_str (da_cons de_str (da_cons (de_tup da_nil len_nil) (da_cons (de_tup (da_cons de_int (da_cons de_str da_nil)) (len_cons (len_cons len_nil))) (da_cons (de_frz (dn_lst da_nil len_nil)) (da_cons (de_frz (dn_lst (da_cons de_non da_nil) (len_cons len_nil))) (da_cons de_dct0 (da_cons (de_dc1 pe_str pe_int) da_nil)))))))))))))) (len_cons (len_cons (len_cons (len_cons (len_cons (len_cons (len_cons (len_cons (len_cons (len_cons (len_cons (len_cons (len_cons (len_cons len_nil)))))))))))))))) da_nil)) (len_cons (len_cons len_nil))))))

theorem sc__law_kinds : FnScope (["error", "found"] : List Str) (["error"] : List Str) (defScope s__law_kinds) := ⟨rfl, rfl, rfl, by decide +kernel, rfl, by decide +kernel, by decide +kernel⟩
theorem ok__law_kinds {f : Addr} {fd : FuncData} (fc : Fc K mg cl wa) (F : FunD K "_law_kinds" "_law_kinds" (defArgs s__law_kinds) (defBody s__law_kinds) (defScope s__law_kinds) [] [] f fd) (hm : mg "_law_kinds" = some (.ref f)) : Gf P w K mg base cl 1 "_law_kinds" 1 f__law_kinds :=
  have S := sc__law_kinds
  (gf_of (k := 0) (N := ["error", "found"]) (ps := ["error"]) (g := g__law_kinds) F S hm (F.bindsN fun _ _ _ _ _ _ us hl => match us, hl with | [_], _ => rfl) fun cdv A outer s H E n hr =>
    (dss_cons (ds_asg (i := 1) S.nd rfl (by first | exact .inl rfl | exact .inr rfl) (de_frz (dn_lst (da_cons (de_isXc (d := 1004) fc.xq (by simp [cod]) (by decide) (by rfl) (by rfl) fc.n_isinstance (de_var (pv 0))) (da_cons (de_isXc (d := 1003) fc.xq (by simp [cod]) (by decide) (by rfl) (by rfl) fc.n_isinstance (de_var (pv 0))) (da_cons (de_isXc (d := 1002) fc.xq (by simp [cod]) (by decide) (by rfl) (by rfl) fc.n_isinstance (de_var (pv 0))) (da_cons (de_isXc (d := 1001) fc.xq (by simp [cod]) (by decide) (by rfl) (by rfl) fc.n_isinstance (de_var (pv 0))) da_nil)))) (len_cons (len_cons (len_cons (len_cons len_nil)))))))
    (dss_cons (ds_asg (i := 1) S.nd rfl (by first | exact .inl rfl | exact .inr rfl) (de_add (de_var (pv 1)) (de_frz (dn_lst (da_cons (de_isXc (d := 1007) fc.xq (by simp [cod]) (by decide) (by rfl) (by rfl) fc.n_isinstance (de_var (pv 0))) (da_cons (de_isXc (d := 1008) fc.xq (by simp [cod]) (by decide) (by rfl) (by rfl) fc.n_isinstance (de_var (pv 0))) (da_cons (de_isXc (d := 1005) fc.xq (by simp [cod]) (by decide) (by rfl) (by rfl) fc.n_isinstance (de_var (pv 0))) da_nil))) (len_cons (len_cons (len_cons len_nil)))))))
    (dss_one (ds_ret (de_add (de_var (pv 1)) (de_frz (dn_lst (da_cons (de_isXc (d := 1006) fc.xq (by simp [cod]) (by decide) (by rfl) (by rfl) fc.n_isinstance (de_var (pv 0))) da_nil) (len_cons len_nil)))))))))

theorem sc__law_rows : FnScope (["a", "b", "rows"] : List Str) (["a", "b"] : List Str) (defScope s__law_rows) := ⟨rfl, rfl, rfl, by decide +kernel, rfl, by decide +kernel, by decide +kernel⟩
theorem ok__law_rows {f : Addr} {fd : FuncData} (fc : Fc K mg cl wa) (F : FunD K "_law_rows" "_law_rows" (defArgs s__law_rows) (defBody s__law_rows) (defScope s__law_rows) [] [] f fd) (hm : mg "_law_rows" = some (.ref f)) (e_BadWeb : Ge P w K mg base cl "BadWeb" 1001 ["what"]) (e_BadText : Ge P w K mg base cl "BadText" 1002 ["line", "what"]) (e_BadTask : Ge P w K mg base cl "BadTask" 1003 ["what"]) (e_BadNumber : Ge P w K mg base cl "BadNumber" 1004 ["value"]) (e_NoWatch : Ge P w K mg base cl "NoWatch" 1006 []) (e_NoSpot : Ge P w K mg base cl "NoSpot" 1005 []) (e_NoReport : Ge P w K mg base cl "NoReport" 1008 []) (e_NoFires : Ge P w K mg base cl "NoFires" 1007 []) : Gf P w K mg base cl 2 "_law_rows" 2 f__law_rows :=
  have S := sc__law_rows
  (gf_of (k := 1) (N := ["a", "b", "rows"]) (ps := ["a", "b"]) (g := g__law_rows) F S hm (F.bindsN fun _ _ _ _ _ _ us hl => match us, hl with | [_, _], _ => rfl) fun cdv A outer s H E n hr =>
    (dss_cons (ds_asg (i := 2) S.nd rfl (by first | exact .inl rfl | exact .inr rfl) (de_frz (dn_lst (da_cons (de_tup (da_cons (de_exn (k' := 0) e_BadNumber hr (by rfl) (da_cons (de_var (pv 0)) da_nil)) (da_cons de_str da_nil)) (len_cons (len_cons len_nil))) (da_cons (de_tup (da_cons (de_exn (k' := 0) e_BadTask hr (by rfl) (da_cons (de_var (pv 0)) da_nil)) (da_cons de_str da_nil)) (len_cons (len_cons len_nil))) (da_cons (de_tup (da_cons (de_exn (k' := 0) e_BadText hr (by rfl) (da_cons (de_var (pv 0)) (da_cons (de_var (pv 1)) da_nil))) (da_cons de_str da_nil)) (len_cons (len_cons len_nil))) (da_cons (de_tup (da_cons (de_exn (k' := 0) e_BadWeb hr (by rfl) (da_cons (de_var (pv 0)) da_nil)) (da_cons de_str da_nil)) (len_cons (len_cons len_nil))) da_nil)))) (len_cons (len_cons (len_cons (len_cons len_nil)))))))
    (dss_one (ds_ret (de_add (de_var (pv 2)) (de_frz (dn_lst (da_cons (de_tup (da_cons (de_exnN (k' := 0) e_NoFires hr (by rfl)) (da_cons de_str da_nil)) (len_cons (len_cons len_nil))) (da_cons (de_tup (da_cons (de_exnN (k' := 0) e_NoReport hr (by rfl)) (da_cons de_str da_nil)) (len_cons (len_cons len_nil))) (da_cons (de_tup (da_cons (de_exnN (k' := 0) e_NoSpot hr (by rfl)) (da_cons de_str da_nil)) (len_cons (len_cons len_nil))) (da_cons (de_tup (da_cons (de_exnN (k' := 0) e_NoWatch hr (by rfl)) (da_cons de_str da_nil)) (len_cons (len_cons len_nil))) da_nil)))) (len_cons (len_cons (len_cons (len_cons len_nil)))))))))))

theorem sc__law_told_of : FnScope (["error", "words", "found", "word"] : List Str) (["error", "words"] : List Str) (defScope s__law_told_of) := ⟨rfl, rfl, rfl, by decide +kernel, rfl, by decide +kernel, by decide +kernel⟩
theorem ok__law_told_of {f : Addr} {fd : FuncData} (fc : Fc K mg cl wa) (F : FunD K "_law_told_of" "_law_told_of" (defArgs s__law_told_of) (defBody s__law_told_of) (defScope s__law_told_of) [] [] f fd) (hm : mg "_law_told_of" = some (.ref f)) : Gf P w K mg base cl 1 "_law_told_of" 2 f__law_told_of :=
  have S := sc__law_told_of
  Gf.gc (gf_of (k := 0) (N := ["error", "words", "found", "word"]) (ps := ["error", "words"]) (g := g__law_told_of) F S hm (F.bindsN fun _ _ _ _ _ _ us hl => match us, hl with | [_, _], _ => rfl) fun cdv A outer s H E n hr =>
    (dss_cons (ds_asg (i := 2) S.nd rfl (by first | exact .inl rfl | exact .inr rfl) (de_reg (dn_lst da_nil len_nil)))
    (dss_cons (ds_for (passes_of rfl) rfl (di_seq (de_split (de_var (pv 1)) de_str)) (dg_name (i := 3) S.nd rfl (by first | exact .inl rfl | exact .inr rfl)) (dss_one (ds_if (dt_eq (u64 hr) (de_var (pv 3)) de_str) (dss_one (ds_expr (de_append (de_var (pv 2)) (da_cons (de_attrQ fc.xq (by simp [xns]) (de_var (pv 0))) da_nil)))) (dss_one (ds_if (dt_eq (u64 hr) (de_var (pv 3)) de_str) (dss_one (ds_expr (de_append (de_var (pv 2)) (da_cons (de_attrQ fc.xq (by simp [xns]) (de_var (pv 0))) da_nil)))) (dss_one (ds_if (dt_eq (u64 hr) (de_var (pv 3)) de_str) (dss_one (ds_expr (de_append (de_var (pv 2)) (da_cons (de_attrQ fc.xq (by simp [xns]) (de_var (pv 0))) da_nil)))) dss_nil)))))))
    (dss_one (ds_ret (de_fz (de_var (pv 2))))))))

theorem sc_law_k00 : FnScope (["script", "pot", "alone", "a", "b", "c", "rows", "later", "at", "row", "due", "error", "words", "k"] : List Str) (["script"] : List Str) (defScope s_law_k00) := ⟨rfl, rfl, rfl, by decide +kernel, rfl, by decide +kernel, by decide +kernel⟩
theorem ok_law_k00 {f : Addr} {fd : FuncData} (fc : Fc K mg cl wa) (F : FunD K "law" "law" (defArgs s_law_k00) (defBody s_law_k00) (defScope s_law_k00) [] [] f fd) (h__law_pot : Gf P w K mg base cl 1 "_law_pot" 1 f__law_pot) (h__law_thing : Gf P w K mg base cl 3 "_law_thing" 1 f__law_thing) (h__law_rows : Gf P w K mg base cl 2 "_law_rows" 2 f__law_rows) (h__law_kinds : Gf P w K mg base cl 1 "_law_kinds" 1 f__law_kinds) (h__law_told_of : Gf P w K mg base cl 1 "_law_told_of" 2 f__law_told_of) : FnG P w K mg base 4 f fd ["script"] (spD ⟨K, cl⟩ 1 f_law_k00) :=
  have S := sc_law_k00
  fnG_body (k := 3) (N := ["script", "pot", "alone", "a", "b", "c", "rows", "later", "at", "row", "due", "error", "words", "k"]) (ps := ["script"]) (g := g_law_k00) F S fun cdv A outer s H E n hr hcalm =>
    (dss_cons (ds_asg (i := 1) S.nd rfl (by first | exact .inl rfl | exact .inr rfl) (de_call (h__law_pot.mono (by decide)) hr (by rfl) (takes_of rfl rfl rfl rfl) (da_cons (de_var (pv 0)) da_nil) (len_cons len_nil)))
    (dss_cons (ds_par3 (i := 3) (j := 4) (l := 5) rfl S.nd rfl rfl rfl (by decide) (by decide) (by decide) rfl rfl rfl (de_call (h__law_thing.mono (by decide)) hr (by rfl) (takes_of rfl rfl rfl rfl) (da_cons (de_var (pv 1)) da_nil) (len_cons len_nil)) (de_call (h__law_thing.mono (by decide)) hr (by rfl) (takes_of rfl rfl rfl rfl) (da_cons (de_var (pv 1)) da_nil) (len_cons len_nil)) (de_call (h__law_thing.mono (by decide)) hr (by rfl) (takes_of rfl rfl rfl rfl) (da_cons (de_var (pv 1)) da_nil) (len_cons len_nil)))
    (dss_cons (ds_par (i := 6) (j := 7) rfl S.nd rfl rfl (by decide) rfl rfl (de_call (h__law_rows.mono (by decide)) hr (by rfl) (takes_of rfl rfl rfl rfl) (da_cons (de_var (pv 3)) (da_cons (de_var (pv 4)) da_nil)) (len_cons (len_cons len_nil))) (de_call (h__law_rows.mono (by decide)) hr (by rfl) (takes_of rfl rfl rfl rfl) (da_cons (de_var (pv 5)) (da_cons (de_var (pv 3)) da_nil)) (len_cons (len_cons len_nil))))
    (dss_cons (ds_for (passes_of rfl) rfl (di_enumQ (by rfl) fc.n_enumerate (de_var (pv 6))) (dg_tup rfl (dgs_cons (i := 8) S.nd rfl (by first | exact .inl rfl | exact .inr rfl) (dgs_cons (i := 9) S.nd rfl (by first | exact .inl rfl | exact .inr rfl) dgs_nil))) (dss_cons (ds_tg (dg_tup rfl (dgs_cons (i := 11) S.nd rfl (by first | exact .inl rfl | exact .inr rfl) (dgs_cons (i := 12) S.nd rfl (by first | exact .inl rfl | exact .inr rfl) dgs_nil))) (de_var (pv 9)))
    (dss_cons (ds_asg (i := 10) S.nd rfl (by first | exact .inl rfl | exact .inr rfl) (de_if (dt_ne (u64 hr) (de_var (pv 12)) de_str) (de_sl (de_frz (dn_lst (da_cons (de_var (pv 3)) (da_cons (de_var (pv 4)) da_nil)) (len_cons (len_cons len_nil)))) do_none (do_some (de_len (by rfl) fc.n_len (dk_look (de_split (de_var (pv 12)) de_str))))) (de_frz (dn_lst da_nil len_nil))))
    (dss_cons (ds_if (dt_w (dw_or (dt_not (dt_cmp (de_isXc (d := 1000) fc.xq (by simp [cod]) (by decide) (by rfl) (by rfl) fc.n_isinstance (de_var (pv 11))))) (dw_or1 (dt_not (dt_cmp (de_isXv fc.xq (by rfl) fc.n_isinstance (de_var (pv 11)) (pe_bltn (by rfl) fc.n_ValueError (by decide +kernel) rfl))))))) (dss_one (ds_ret de_bl)) dss_nil)
    (dss_cons (ds_if (dt_ne (u64 hr) (de_call (h__law_kinds.mono (by decide)) hr (by rfl) (takes_of rfl rfl rfl rfl) (da_cons (de_var (pv 11)) da_nil) (len_cons len_nil)) (de_frz (dn_lc (by rfl) S.nd (di_range1 (by rfl) fc.n_range (da_cons (de_len (by rfl) fc.n_len (dk_look (de_var (pv 6)))) da_nil) rfl) (blkOk_by (own := [("k", 13)]) (by first | (show blkC ["script", "pot", "alone", "a", "b", "c", "rows", "later", "at", "row", "due", "error", "words", "k"] (defScope s_law_k00) _ _ = true; decide +kernel) | rfl | with_unfolding_all rfl)) (fun _ _ _ _ _ => (dg_name (i := 13) S.nd rfl (by first | exact .inl rfl | exact .inr rfl))) (fun _ _ _ _ _ => dts_nil) (fun _ _ _ _ _ => (de_eq (u64 hr) (de_var (pv 13)) (de_var (pv 8)))) (by decide)))) (dss_one (ds_ret de_bl)) dss_nil)
    (dss_cons (ds_if (dt_ne (u64 hr) (de_reprQ (by exact hcalm) (u65 hr) (by rfl) fc.n_repr (dk_look (de_call (h__law_told_of.mono (by decide)) hr (by rfl) (takes_of rfl rfl rfl rfl) (da_cons (de_var (pv 11)) (da_cons (de_var (pv 12)) da_nil)) (len_cons (len_cons len_nil))))) (de_reprQ (by exact hcalm) (u65 hr) (by rfl) fc.n_repr (dk_look (de_var (pv 10))))) (dss_one (ds_ret de_bl)) dss_nil)
    (dss_one (ds_if (dt_ne (u64 hr) (de_reprQ (by exact hcalm) (u65 hr) (by rfl) fc.n_repr (dk_look (de_call (h__law_told_of.mono (by decide)) hr (by rfl) (takes_of rfl rfl rfl rfl) (da_cons (de_ix (de_ix (de_var (pv 7)) (de_var (pv 8)) fun _ _ => rfl) de_int fun _ _ => rfl) (da_cons (de_var (pv 12)) da_nil)) (len_cons (len_cons len_nil))))) (de_reprQ (by exact hcalm) (u65 hr) (by rfl) fc.n_repr (dk_look (de_sl (de_frz (dn_lst (da_cons (de_var (pv 5)) (da_cons (de_var (pv 3)) da_nil)) (len_cons (len_cons len_nil)))) do_none (do_some (de_len (by rfl) fc.n_len (dk_look (de_var (pv 10))))))))) (dss_one (ds_ret de_bl)) dss_nil))))))))
    (dss_cons (ds_asg (i := 2) S.nd rfl (by first | exact .inl rfl | exact .inr rfl) (de_exnW fc.xq (by rfl)))
    (dss_one (ds_ret (de_and (de_isXv fc.xq (by rfl) fc.n_isinstance (de_var (pv 2)) (pe_bltn (by rfl) fc.n_ValueError (by decide +kernel) rfl)) (de_one (de_nin (u65 hr) de_bl (dk_look (de_call (h__law_kinds.mono (by decide)) hr (by rfl) (takes_of rfl rfl rfl rfl) (da_cons (de_var (pv 2)) da_nil) (len_cons len_nil))) rfl))))))))))

end
end DL
end

section
set_option Elab.async false
set_option linter.all false
set_option maxRecDepth 100000
set_option maxHeartbeats 4000000

namespace DL
open PySem PySem.Spec PyProof.Rows
open L2 hiding St
theorem facts {P : Program} {w w2 : World} {K : PySem.W.Frag} {h : Heap} {mg : Str → Option Value} {f : Addr} (X : K.In h) (G : h.Ns mainGlobals mg) (hfa : mg ("law" : Str) = some (.ref f)) (hfile : P.main.file = PySem.Challenge.pw_watchwebs_k00_errors_alone.main.file) (htop : (P.main.scope.names.lookup ("super" : Str)).isSome = false) (cx : SaysE fa fn es tf ex w2 h K)
    (hp : ∀ ns : List Int, ns.length ≤ 63 → ∃ mu, f_law_k00 [.frl (ns.map D.int)] [] = .ok (.bl true) mu) :
    ∃ fd : FuncData, (∀ (s : Shared) (v : Value), BindsTo s fd ⟨[v], []⟩ [("script", v)]) ∧ ∀ base : Heap, K.In base → base.Ns mainGlobals mg → (∀ p ∈ tf.map (He.cT K), LamX.TabB base mg p.1 p.2) → FnG P w K mg base 4 f fd ["script"] (spLaw K (tf.map fun p => (He.cT K p).2)) := by
  have c := cx.t.d
  have cfa := c
  have hx := cx.more
  obtain ⟨fd__law_pot, F__law_pot⟩ := c.def_ 0 (d := d__law_pot) rfl
  obtain ⟨fd__law_draw, F__law_draw⟩ := c.def_ 1 (d := d__law_draw) rfl
  obtain ⟨fd__law_pick, F__law_pick⟩ := c.def_ 2 (d := d__law_pick) rfl
  obtain ⟨fd__law_thing, F__law_thing⟩ := c.def_ 3 (d := d__law_thing) rfl
  obtain ⟨fd__law_kinds, F__law_kinds⟩ := c.def_ 4 (d := d__law_kinds) rfl
  obtain ⟨fd__law_rows, F__law_rows⟩ := c.def_ 5 (d := d__law_rows) rfl
  obtain ⟨fd__law_told_of, F__law_told_of⟩ := c.def_ 6 (d := d__law_told_of) rfl
  obtain ⟨fd_law_k00, F_law_k00⟩ := c.def_ 7 (d := d_law_k00) rfl
  have hC : ∀ c, Lv (clK K) c → ClsT K (clK K c) := fun c hc => by
    have hlt := hc.2
    have hnz := hc.1
    clear hc
    unfold clK at hnz ⊢
    rw [if_neg (show ¬ c = 1001 by omega)] at hnz ⊢
    rw [if_neg (show ¬ c = 1002 by omega)] at hnz ⊢
    rw [if_neg (show ¬ c = 1003 by omega)] at hnz ⊢
    rw [if_neg (show ¬ c = 1004 by omega)] at hnz ⊢
    rw [if_neg (show ¬ c = 1006 by omega)] at hnz ⊢
    rw [if_neg (show ¬ c = 1005 by omega)] at hnz ⊢
    rw [if_neg (show ¬ c = 1008 by omega)] at hnz ⊢
    rw [if_neg (show ¬ c = 1007 by omega)] at hnz ⊢
    rw [if_neg (show ¬ c = 1000 by omega)] at hnz ⊢
    exact absurd rfl hnz
  have fc : Fc K mg (clK K) (fun x => He.ga K x) :=
    { hC := hC,
      n_ValueError := He.free_ok X G (c.fact 8 (f := .free "ValueError") rfl),
      n_abs := He.free_ok X G (c.fact 9 (f := .free "abs") rfl),
      n_enumerate := He.free_ok X G (c.fact 10 (f := .free "enumerate") rfl),
      n_int := He.free_ok X G (c.fact 11 (f := .free "int") rfl),
      n_isinstance := He.free_ok X G (c.fact 12 (f := .free "isinstance") rfl),
      n_len := He.free_ok X G (c.fact 13 (f := .free "len") rfl),
      n_range := He.free_ok X G (c.fact 14 (f := .free "range") rfl),
      n_repr := He.free_ok X G (c.fact 15 (f := .free "repr") rfl),
      xq := errQ_ok X G (ex_at hx 8 rfl) (fun p hp => by
        simp only [cod, List.mem_cons, List.not_mem_nil, or_false] at hp
        rcases hp with rfl | rfl | rfl | rfl | rfl | rfl | rfl | rfl | rfl <;> rfl) }
  have b := FunD.bindsA (ps := ["script"]) F_law_k00 fun _ _ _ _ _ _ us hl => match us, hl with | [_], _ => rfl
  have e0 := hfa.symm.trans (He.glo_ok X G (c.fact 7 (f := .glo "law") rfl))
  refine ⟨fd_law_k00, fun s v => b s [v] rfl, fun base _ _ hTB => ?_⟩
  have htab : ∀ i, clK K (2000 + i) ≠ 0 → False := fun i hnz => by
    unfold clK at hnz
    rw [if_neg (show ¬ 2000 + i = 1001 by omega)] at hnz
    rw [if_neg (show ¬ 2000 + i = 1002 by omega)] at hnz
    rw [if_neg (show ¬ 2000 + i = 1003 by omega)] at hnz
    rw [if_neg (show ¬ 2000 + i = 1004 by omega)] at hnz
    rw [if_neg (show ¬ 2000 + i = 1006 by omega)] at hnz
    rw [if_neg (show ¬ 2000 + i = 1005 by omega)] at hnz
    rw [if_neg (show ¬ 2000 + i = 1008 by omega)] at hnz
    rw [if_neg (show ¬ 2000 + i = 1007 by omega)] at hnz
    rw [if_neg (show ¬ 2000 + i = 1000 by omega)] at hnz
    exact absurd rfl hnz
  have hsup := He.free_ok X G (c.fact 16 (f := .free "super") rfl)
  have e_BadWeb : Ge P w K mg base (clK K) "BadWeb" 1001 ["what"] := by
    exact ge1 hfile (cx.err 0 (d := d_e_BadWeb) rfl) (ex_at hx 0 rfl) rfl (PySem.W.mg_of X G (errB_ok (d := d_e_BadWeb) (ex_at hx 0 rfl)).2.2.2.2.2.2.2.2) hsup htop ⟨by decide +kernel, rfl, rfl, rfl, rfl, rfl, rfl, ⟨_, rfl, rfl⟩⟩ (fun _ _ _ _ _ _ _ _ _ => rfl) rfl (by decide) (by decide) (by decide) (fun _ _ _ _ => rfl) (fun _ _ _ _ => rfl) (fun _ _ _ _ => rfl) (fun _ _ _ _ => rfl) (fun _ _ _ _ => rfl)
  have e_BadText : Ge P w K mg base (clK K) "BadText" 1002 ["line", "what"] := by
    exact ge2 hfile (cx.err 1 (d := d_e_BadText) rfl) (ex_at hx 1 rfl) rfl (PySem.W.mg_of X G (errB_ok (d := d_e_BadText) (ex_at hx 1 rfl)).2.2.2.2.2.2.2.2) hsup htop ⟨by decide +kernel, rfl, rfl, rfl, rfl, rfl, rfl, ⟨_, rfl, rfl⟩⟩ (fun _ _ _ _ _ _ _ _ _ _ => rfl) rfl (by decide) (by decide) (by decide) rfl (by decide) (by decide) (by decide) (by decide) (fun _ _ _ _ => rfl) (fun _ _ _ _ => rfl) (fun _ _ _ _ => rfl) (fun _ _ _ _ => rfl) (fun _ _ _ _ => rfl) (fun _ _ _ _ => rfl) (fun _ _ _ _ => rfl)
  have e_BadTask : Ge P w K mg base (clK K) "BadTask" 1003 ["what"] := by
    exact ge1 hfile (cx.err 2 (d := d_e_BadTask) rfl) (ex_at hx 2 rfl) rfl (PySem.W.mg_of X G (errB_ok (d := d_e_BadTask) (ex_at hx 2 rfl)).2.2.2.2.2.2.2.2) hsup htop ⟨by decide +kernel, rfl, rfl, rfl, rfl, rfl, rfl, ⟨_, rfl, rfl⟩⟩ (fun _ _ _ _ _ _ _ _ _ => rfl) rfl (by decide) (by decide) (by decide) (fun _ _ _ _ => rfl) (fun _ _ _ _ => rfl) (fun _ _ _ _ => rfl) (fun _ _ _ _ => rfl) (fun _ _ _ _ => rfl)
  have e_BadNumber : Ge P w K mg base (clK K) "BadNumber" 1004 ["value"] := by
    exact ge1 hfile (cx.err 3 (d := d_e_BadNumber) rfl) (ex_at hx 3 rfl) rfl (PySem.W.mg_of X G (errB_ok (d := d_e_BadNumber) (ex_at hx 3 rfl)).2.2.2.2.2.2.2.2) hsup htop ⟨by decide +kernel, rfl, rfl, rfl, rfl, rfl, rfl, ⟨_, rfl, rfl⟩⟩ (fun _ _ _ _ _ _ _ _ _ => rfl) rfl (by decide) (by decide) (by decide) (fun _ _ _ _ => rfl) (fun _ _ _ _ => rfl) (fun _ _ _ _ => rfl) (fun _ _ _ _ => rfl) (fun _ _ _ _ => rfl)
  have e_NoWatch : Ge P w K mg base (clK K) "NoWatch" 1006 [] := by
    exact ge0 hfile (cx.err 4 (d := d_e_NoWatch) rfl) (ex_at hx 4 rfl) rfl (PySem.W.mg_of X G (errB_ok (d := d_e_NoWatch) (ex_at hx 4 rfl)).2.2.2.2.2.2.2.2) hsup htop ⟨by decide +kernel, rfl, rfl, rfl, rfl, rfl, rfl, ⟨_, rfl, rfl⟩⟩ (fun _ _ _ _ _ _ _ _ => rfl) (fun _ _ _ _ => rfl) (fun _ _ _ _ => rfl) (fun _ _ _ _ => rfl)
  have e_NoSpot : Ge P w K mg base (clK K) "NoSpot" 1005 [] := by
    exact ge0 hfile (cx.err 5 (d := d_e_NoSpot) rfl) (ex_at hx 5 rfl) rfl (PySem.W.mg_of X G (errB_ok (d := d_e_NoSpot) (ex_at hx 5 rfl)).2.2.2.2.2.2.2.2) hsup htop ⟨by decide +kernel, rfl, rfl, rfl, rfl, rfl, rfl, ⟨_, rfl, rfl⟩⟩ (fun _ _ _ _ _ _ _ _ => rfl) (fun _ _ _ _ => rfl) (fun _ _ _ _ => rfl) (fun _ _ _ _ => rfl)
  have e_NoReport : Ge P w K mg base (clK K) "NoReport" 1008 [] := by
    exact ge0 hfile (cx.err 6 (d := d_e_NoReport) rfl) (ex_at hx 6 rfl) rfl (PySem.W.mg_of X G (errB_ok (d := d_e_NoReport) (ex_at hx 6 rfl)).2.2.2.2.2.2.2.2) hsup htop ⟨by decide +kernel, rfl, rfl, rfl, rfl, rfl, rfl, ⟨_, rfl, rfl⟩⟩ (fun _ _ _ _ _ _ _ _ => rfl) (fun _ _ _ _ => rfl) (fun _ _ _ _ => rfl) (fun _ _ _ _ => rfl)
  have e_NoFires : Ge P w K mg base (clK K) "NoFires" 1007 [] := by
    exact ge0 hfile (cx.err 7 (d := d_e_NoFires) rfl) (ex_at hx 7 rfl) rfl (PySem.W.mg_of X G (errB_ok (d := d_e_NoFires) (ex_at hx 7 rfl)).2.2.2.2.2.2.2.2) hsup htop ⟨by decide +kernel, rfl, rfl, rfl, rfl, rfl, rfl, ⟨_, rfl, rfl⟩⟩ (fun _ _ _ _ _ _ _ _ => rfl) (fun _ _ _ _ => rfl) (fun _ _ _ _ => rfl) (fun _ _ _ _ => rfl)
  have h__law_pot := ok__law_pot (P := P) (w := w) (base := base) fc F__law_pot (He.glo_ok X G (c.fact 0 (f := .glo "_law_pot") rfl))
  have h__law_draw := ok__law_draw (P := P) (w := w) (base := base) fc F__law_draw (He.glo_ok X G (c.fact 1 (f := .glo "_law_draw") rfl))
  have h__law_pick := ok__law_pick (P := P) (w := w) (base := base) fc F__law_pick (He.glo_ok X G (c.fact 2 (f := .glo "_law_pick") rfl)) h__law_draw
  have h__law_thing := ok__law_thing (P := P) (w := w) (base := base) fc F__law_thing (He.glo_ok X G (c.fact 3 (f := .glo "_law_thing") rfl)) h__law_pick
  have h__law_kinds := ok__law_kinds (P := P) (w := w) (base := base) fc F__law_kinds (He.glo_ok X G (c.fact 4 (f := .glo "_law_kinds") rfl))
  have h__law_rows := ok__law_rows (P := P) (w := w) (base := base) fc F__law_rows (He.glo_ok X G (c.fact 5 (f := .glo "_law_rows") rfl)) e_BadWeb e_BadText e_BadTask e_BadNumber e_NoWatch e_NoSpot e_NoReport e_NoFires
  have h__law_told_of := ok__law_told_of (P := P) (w := w) (base := base) fc F__law_told_of (He.glo_ok X G (c.fact 6 (f := .glo "_law_told_of") rfl))
  have h_law_k00 := ok_law_k00 (P := P) (w := w) (base := base) fc F_law_k00 h__law_pot h__law_thing h__law_rows h__law_kinds h__law_told_of
  have e1 : f = He.fAd K d_law_k00.at_ := Value.ref.inj (Option.some.inj e0)
  rw [e1]
  exact h_law_k00.imp (sp_law (fun i hi => (htab i hi).elim) hp)
end DL
open PySem PySem.W PySem.Calls PyProof.Rows
theorem PySem.Challenge.cw_watchwebs_k00_errors_alone_holds : PySem.Challenge.rw_watchwebs_k00_errors_alone.Holds := by
  w_on; o_law
  refine HandSHeadRun.head_any (r := OpenLaw.row PySem.Challenge.rw_watchwebs_k00_errors_alone) (q := view (OpenLaw.row PySem.Challenge.rw_watchwebs_k00_errors_alone).prog [18]) (H := DL.hk) (ob := DL.ob) (M := 4000) (loose := DL.loose) (d := HandSHeadRun.topDef (OpenLaw.row PySem.Challenge.rw_watchwebs_k00_errors_alone).prog 18) (kwd := []) DL.ob_eq
    (by kernel_rfl) (fun s => by kernel_rfl) DL.run (by kernel_rfl) (by kernel_rfl) (by kernel_rfl) (by rfl) (by first | assumption | decide +kernel) (by decide +kernel) ⟨rfl, rfl, rfl, rfl, rfl, by decide +kernel⟩ ?hw ?hc
  case hw => w_witness2
  case hc =>
    refine DL.walk_ofG (l := PySem.Challenge.rw_watchwebs_k00_errors_alone) (n := 63) (k := 4) (x := "script") rfl (by decide) (by kernel_rfl) ⟨rfl, by decide, by decide⟩ ?F
    intro w mg fa h Y G hmg0
    obtain ⟨K, KX, c⟩ := Y
    have hmg : mg ("law" : PySem.Str) = some (.ref fa) := by
      have e : (HandSHeadRun.topDef (OpenLaw.row PySem.Challenge.rw_watchwebs_k00_errors_alone).prog 18).name = ("law" : PySem.Str) := by kernel_rfl
      rw [← e]
      exact hmg0
    obtain ⟨fd, hb, hF⟩ := DL.facts (P := (PySem.Challenge.rw_watchwebs_k00_errors_alone).prog) (w := w) KX G hmg rfl (by kernel_rfl) c DL.law_true
    have each : ∀ p ∈ DL.tf.map (He.cT K), ∃ q ∈ DL.tf, He.cT K q = p := fun p hp => List.mem_map.mp hp
    refine ⟨K, KX, fd, DL.tf.map (He.cT K), DL.spLaw K (DL.tf.map fun p => (He.cT K p).2), fun p hp => ?_, fun p hp => ?_, fun p hp => ?_, hb, fun H a ns hl hT hS => ⟨a, ns, hl, rfl, fun p hp => ?_, hS, fun _ => rfl⟩, hF⟩
    · obtain ⟨q, hq, rfl⟩ := each p hp
      exact c.empty q hq
    · obtain ⟨q, hq, rfl⟩ := each p hp
      exact c.out q hq
    · obtain ⟨q, hq, rfl⟩ := each p hp
      exact codeHd_of_K KX (c.hd q hq)
    · obtain ⟨q, hq, rfl⟩ := List.mem_map.mp hp
      exact hT (He.cT K q) (List.mem_map.mpr ⟨q, hq, rfl⟩)
end
