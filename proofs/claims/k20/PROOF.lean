import PyProof.Rows.All
import Wide.All
import OpenK.AllK
import Wide.FinOn
import HandS.ForMost
import HandS.Exc
import HandS.TryMany
import HandS.TryOnly
import HandS.IsInst
import HandS.ExcOwn
import HandS.ExcSuper
import HandS.CallSlots
import HandS.ExcField
import HandS.WordsExc
import HandS.CallLocal
import HandS.TupAny
import HandS.Codes
import KE.KExcSuper
import KE.KSuper
import HandS.Ends
import HandS.EndBits
import HandS.Walk
import KE.GoesMore
import HandS.Iter
import HandS.Conv
import HandS.Style
import HandS.Deep
import HandS.RaiseMore
import HandS.Text
import HandS.More
import PyProof.InstNe
import KE.DatumOrd
import HandS.SortInts
import HandS.Flt
import KE.DataEq
import KE.SortData
import KE.DataMinMax
import HandS.TupMul
import PySem.Challenge.RW_balloontold_k20_whole_clouds
set_option Elab.async false
set_option linter.all false
set_option maxRecDepth 100000
set_option maxHeartbeats 4000000
/-! DS, part 1: data, results, how values lie in the heap as data, what an expression is worth as a function of data -/
namespace DS
open PySem L2
abbrev St := L2.St

inductive D where
  | non | bl (b : Bool) | int (i : Int) | str (x : Str)
  | tup (ds : List D) | lst (ds : List D)
  | ins (c : Nat) (fs : List (Str × D))
  | fn (i : Nat) | cls (c : Nat) | ty (n : String)
  | row | scr

/-- the draws' state: place, mix, rest -/
structure G where
  i : Int
  m : Int
  r : Int

inductive Res (α : Type) where
  | ok (a : α) (g : G) | err (c : Nat) (fs : List D) (g : G) | stuck

abbrev M (α : Type) := G → Res α
def M.bind {α β : Type} (m : M α) (f : α → M β) : M β := fun g =>
  match m g with
  | .ok a g' => f a g'
  | .err c fs g' => .err c fs g'
  | .stuck => .stuck
def M.ret {α : Type} (a : α) : M α := fun g => .ok a g
instance : Monad M where
  pure := M.ret
  bind := M.bind
def lft {α : Type} (o : Option α) : M α := fun g => match o with
  | some a => .ok a g
  | none => .stuck

/-- a value's type: a built-in one, the class c -/
inductive Tk where
  | b (n : String) | c (i : Nat)
def Tk.val (cad : Nat → Addr) : Tk → Value
  | .b n => .type n
  | .c i => .ref (cad i)
/-- what is fixed: the written part, the draws' list, the script, the classes, the defs, the errors' fields -/
structure Cfg where
  K : PySem.W.Frag
  R : Addr
  S : Addr
  scr : List Int
  cad : Nat → Addr
  fad : Nat → Addr
  xn : Nat → List Str
  flds : Nat → List Str
  mts : Nat → Str → Option Nat
  ini : Nat → Option Nat
  xa : Option (Addr × Value × Addr)
  sub : Nat → Nat → Option Bool
  kit : Tk → Nat → Option Bool

mutual
inductive Dv (C : Cfg) (F : Hp) : V → D → Prop
  | non : Dv C F .non .non
  | bl (b : Bool) : Dv C F (.bl b) (.bl b)
  | int (i : Int) : Dv C F (.int i) (.int i)
  | str (x : Str) : Dv C F (.str x) (.str x)
  | tup {a : Addr} {vs : List V} {ds : List D} : SqT C.K F a vs → DvL C F vs ds → Dv C F (.ref a) (.tup ds)
  | lst {a : Addr} {vs : List V} {ds : List D} : F a = some (.lst vs) → DvL C F vs ds → Dv C F (.ref a) (.lst ds)
  | ins {a dx : Addr} {c : Nat} {fs : List (Str × V)} {ds : List (Str × D)} : F a = some (.ins (C.cad c) dx fs) → DvF C F fs ds → Dv C F (.ref a) (.ins c ds)
  | fn (i : Nat) : Dv C F (.ref (C.fad i)) (.fn i)
  | cls (c : Nat) : Dv C F (.ref (C.cad c)) (.cls c)
  | ty (n : String) : Dv C F (.ty n) (.ty n)
  | row : Dv C F (.ref C.R) .row
  | scr : Dv C F (.ref C.S) .scr
inductive DvL (C : Cfg) (F : Hp) : List V → List D → Prop
  | nil : DvL C F [] []
  | cons {v : V} {vs : List V} {d : D} {ds : List D} : Dv C F v d → DvL C F vs ds → DvL C F (v :: vs) (d :: ds)
inductive DvF (C : Cfg) (F : Hp) : List (Str × V) → List (Str × D) → Prop
  | nil : DvF C F [] []
  | cons {n : Str} {v : V} {vs : List (Str × V)} {d : D} {ds : List (Str × D)} : Dv C F v d → DvF C F vs ds → DvF C F ((n, v) :: vs) ((n, d) :: ds)
end

def Sub (F H : Hp) : Prop := ∀ a o, F a = some o → H a = some o
theorem Sub.refl (F : Hp) : Sub F F := fun _ _ h => h
theorem Sub.trans {A B E : Hp} (h : Sub A B) (k : Sub B E) : Sub A E := fun a o e => k a o (h a o e)
theorem Sub.sqt {K : PySem.W.Frag} {F H : Hp} (s : Sub F H) {a : Addr} {xs : List V} (h : SqT K F a xs) : SqT K H a xs := by
  rcases h with (h | ⟨o, h⟩) | h
  · exact .inl (.inl (s _ _ h))
  · exact .inl (.inr ⟨o, s _ _ h⟩)
  · exact .inr h
theorem Sub.sql {K : PySem.W.Frag} {F H : Hp} (s : Sub F H) {a : Addr} {xs : List V} (h : SqL K F a xs) : SqL K H a xs := by
  rcases h with (h | ⟨o, h⟩) | h
  · exact .inl (.inl (s _ _ h))
  · exact .inl (.inr ⟨o, s _ _ h⟩)
  · exact .inr h

section
variable {C : Cfg} {F H : Hp}
mutual
theorem Dv.mono (s : Sub F H) : ∀ {v : V} {d : D}, Dv C F v d → Dv C H v d
  | _, _, .non => .non
  | _, _, .bl b => .bl b
  | _, _, .int i => .int i
  | _, _, .str x => .str x
  | _, _, .tup h l => .tup (s.sqt h) (DvL.mono s l)
  | _, _, .lst h l => .lst (s _ _ h) (DvL.mono s l)
  | _, _, .ins h l => .ins (s _ _ h) (DvF.mono s l)
  | _, _, .fn i => .fn i
  | _, _, .cls c => .cls c
  | _, _, .ty n => .ty n
  | _, _, .row => .row
  | _, _, .scr => .scr
theorem DvL.mono (s : Sub F H) : ∀ {v : List V} {d : List D}, DvL C F v d → DvL C H v d
  | _, _, .nil => .nil
  | _, _, .cons h t => .cons (Dv.mono s h) (DvL.mono s t)
theorem DvF.mono (s : Sub F H) : ∀ {v : List (Str × V)} {d : List (Str × D)}, DvF C F v d → DvF C H v d
  | _, _, .nil => .nil
  | _, _, .cons h t => .cons (Dv.mono s h) (DvF.mono s t)
end
theorem DvL.length : ∀ {vs : List V} {ds : List D}, DvL C F vs ds → vs.length = ds.length
  | _, _, .nil => rfl
  | _, _, .cons _ t => by simp [DvL.length t]
theorem DvL.get : ∀ {vs : List V} {ds : List D} {i : Nat} {d : D}, DvL C F vs ds → ds[i]? = some d → ∃ v, vs[i]? = some v ∧ Dv C F v d
  | _, _, _, _, .nil, e => by simp at e
  | _, _, 0, _, .cons r _, e => by simp at e; subst e; exact ⟨_, rfl, r⟩
  | _, _, i + 1, d, .cons _ t, e => by
    obtain ⟨v, h1, h2⟩ := DvL.get (i := i) (d := d) t (by simpa using e)
    exact ⟨v, by simpa using h1, h2⟩
theorem DvL.getV : ∀ {vs : List V} {ds : List D} {i : Nat} {v : V}, DvL C F vs ds → vs[i]? = some v → ∃ d, ds[i]? = some d ∧ Dv C F v d
  | _, _, _, _, .nil, e => by simp at e
  | _, _, 0, _, .cons r _, e => by simp at e; subst e; exact ⟨_, rfl, r⟩
  | _, _, i + 1, d, .cons _ t, e => by
    obtain ⟨v, h1, h2⟩ := DvL.getV (i := i) (v := d) t (by simpa using e)
    exact ⟨v, by simpa using h1, h2⟩
theorem DvL.append : ∀ {vs ws : List V} {ds es : List D}, DvL C F vs ds → DvL C F ws es → DvL C F (vs ++ ws) (ds ++ es)
  | _, _, _, _, .nil, h => h
  | _, _, _, _, .cons r t, h => .cons r (DvL.append t h)
theorem DvL.set : ∀ {vs : List V} {ds : List D} (i : Nat) {v : V} {d : D}, DvL C F vs ds → Dv C F v d → DvL C F (vs.set i v) (ds.set i d)
  | _, _, _, _, _, .nil, _ => .nil
  | _, _, 0, _, _, .cons _ t, h => .cons h t
  | _, _, i + 1, _, _, .cons r t, h => .cons r (DvL.set i t h)
theorem DvL.take : ∀ {vs : List V} {ds : List D} (n : Nat), DvL C F vs ds → DvL C F (vs.take n) (ds.take n)
  | _, _, 0, _ => .nil
  | _, _, _ + 1, .nil => .nil
  | _, _, n + 1, .cons r t => .cons r (DvL.take n t)
theorem DvL.drop : ∀ {vs : List V} {ds : List D} (n : Nat), DvL C F vs ds → DvL C F (vs.drop n) (ds.drop n)
  | _, _, 0, h => h
  | _, _, _ + 1, .nil => .nil
  | _, _, n + 1, .cons _ t => DvL.drop n t
theorem DvF.look : ∀ {vs : List (Str × V)} {ds : List (Str × D)} {n : Str} {d : D}, DvF C F vs ds → ds.lookup n = some d → ∃ v, vs.lookup n = some v ∧ Dv C F v d
  | _, _, _, _, .nil, e => by simp at e
  | _, _, n, d, .cons (n := m) r t, e => by
    rw [List.lookup_cons] at e ⊢
    cases h : n == m with
    | true => rw [h] at e; exact ⟨_, rfl, by cases e; exact r⟩
    | false => rw [h] at e; exact DvF.look t e
theorem DvF.lookN : ∀ {vs : List (Str × V)} {ds : List (Str × D)} {n : Str}, DvF C F vs ds → ds.lookup n = none → vs.lookup n = none
  | _, _, _, .nil, e => rfl
  | _, _, n, .cons (n := m) r t, e => by
    rw [List.lookup_cons] at e ⊢
    cases h : n == m with
    | true => rw [h] at e; cases e
    | false => rw [h] at e; exact DvF.lookN t e
theorem DvF.length : ∀ {vs : List (Str × V)} {ds : List (Str × D)}, DvF C F vs ds → vs.length = ds.length
  | _, _, .nil => rfl
  | _, _, .cons _ t => by simp [DvF.length t]
def putD (f : Str) (v : D) : List (Str × D) → List (Str × D)
  | [] => [(f, v)]
  | (g, w) :: r => if g = f then (f, v) :: r else (g, w) :: putD f v r
end

/-- from (F, H) to (F', H'): what was frozen stays, what was tracked stays but for the draws' list, what is newly frozen was not tracked -/
structure Ext (R : Addr) (F H F' H' : Hp) : Prop where
  sub : Sub F F'
  frm : ∀ a o, a ≠ R → H a = some o → H' a = some o
  new : ∀ a o, F' a = some o → F a = some o ∨ (H a = none ∧ a ≠ R)
theorem Ext.refl (R : Addr) (F H : Hp) : Ext R F H F H := ⟨Sub.refl F, fun _ _ _ h => h, fun _ _ h => .inl h⟩
theorem Ext.trans {R : Addr} {F H F1 H1 F2 H2 : Hp} (x : Ext R F H F1 H1) (y : Ext R F1 H1 F2 H2) : Ext R F H F2 H2 :=
  ⟨x.sub.trans y.sub, fun a o n h => y.frm a o n (x.frm a o n h), fun a o h => by
    rcases y.new a o h with h1 | ⟨h1, n⟩
    · exact x.new a o h1
    · refine .inr ⟨?_, n⟩
      cases e : H a with
      | none => rfl
      | some u => rw [x.frm a u n e] at h1; cases h1⟩

structure St0 (C : Cfg) (F H : Hp) (g : G) : Prop where
  sub : Sub F H
  rowF : F C.R = none
  rowH : H C.R = some (.lst [.ref C.S, .int g.i, .int g.m, .int g.r])
  scr : SqL C.K F C.S (C.scr.map V.int)
/-- something new, frozen at once -/
theorem Ext.lay {C : Cfg} {F H : Hp} {g : G} (s : St0 C F H g) {p : Addr} (np : H p = none) (o : HO) : Ext C.R F H (upd F p o) (upd H p o) ∧ St0 C (upd F p o) (upd H p o) g := by
  have nF : F p = none := by
    cases e : F p with
    | none => rfl
    | some u => rw [s.sub p u e] at np; cases np
  have nR : C.R ≠ p := fun e => by rw [← e, s.rowH] at np; cases np
  refine ⟨⟨fun a u e => ?_, fun a u _ e => ?_, fun a u e => ?_⟩, ⟨fun a u e => ?_, ?_, ?_, ?_⟩⟩
  · rw [upd_ne (ne_of_none e nF)]; exact e
  · rw [upd_ne (ne_of_none e np)]; exact e
  · by_cases h : a = p
    · subst h; exact .inr ⟨np, fun z => nR z.symm⟩
    · rw [upd_ne h] at e; exact .inl e
  · by_cases h : a = p
    · subst h; rw [upd_same] at e ⊢; exact e
    · rw [upd_ne h] at e ⊢; exact s.sub a u e
  · rw [upd_ne nR]; exact s.rowF
  · rw [upd_ne nR]; exact s.rowH
  · exact Sub.sql (fun a u e => by rw [upd_ne (ne_of_none e nF)]; exact e) s.scr
/-- something new that stays one's own -/
theorem Ext.own {C : Cfg} {F H : Hp} {g : G} (s : St0 C F H g) {p : Addr} (np : H p = none) (o : HO) : Ext C.R F H F (upd H p o) ∧ St0 C F (upd H p o) g := by
  have nR : C.R ≠ p := fun e => by rw [← e, s.rowH] at np; cases np
  refine ⟨⟨Sub.refl _, fun a u _ e => ?_, fun a u e => .inl e⟩, ⟨fun a u e => ?_, s.rowF, ?_, s.scr⟩⟩
  · rw [upd_ne (ne_of_none e np)]; exact e
  · have e' := s.sub a u e
    rw [upd_ne (ne_of_none e' np)]; exact e'
  · rw [upd_ne nR]; exact s.rowH

/-! ### the frame's slots -/
inductive Sl where
  | no | v (d : D) | ol (ds : List D) | oi (c : Nat) (fs : List (Str × D)) | ex (c : Nat) (fs : List D)
abbrev Env := List Sl

/-- an error's own dict at dd -/
def XD (C : Cfg) (F : Hp) (c : Nat) (fs : List D) (dd : Addr) : Prop := ∃ vs, F dd = some (.xd ((C.xn c).zip vs)) ∧ DvL C F vs fs ∧ vs.length = (C.xn c).length
theorem XD.mono {C : Cfg} {F H : Hp} (s : Sub F H) {c : Nat} {fs : List D} {dd : Addr} (h : XD C F c fs dd) : XD C H c fs dd := by
  obtain ⟨vs, h1, h2, h3⟩ := h
  exact ⟨vs, s _ _ h1, h2.mono s, h3⟩

def SlR (C : Cfg) (F H : Hp) (σ : St) (i : Nat) : Sl → Prop
  | .no => True
  | .v d => ∃ v, σ[i]? = some (some v) ∧ Dv C F v d
  | .ol ds => ∃ a vs, σ[i]? = some (some (.ref a)) ∧ H a = some (.lst vs) ∧ F a = none ∧ a ≠ C.R ∧ DvL C F vs ds
  | .oi c ds => ∃ a dx fs, σ[i]? = some (some (.ref a)) ∧ H a = some (.ins (C.cad c) dx fs) ∧ F a = none ∧ a ≠ C.R ∧ DvF C F fs ds ∧ ∃ v d, C.xa = some (a, v, d)
  | .ex c fs => ∃ a dd, C.xa = some (a, .ref (C.cad c), dd) ∧ σ[i]? = some (some (.ref a)) ∧ XD C F c fs dd
structure SRe (C : Cfg) (σ : St) (F H : Hp) (ρ : Env) (g : G) : Prop where
  st : St0 C F H g
  len : ρ.length = σ.length
  slot : ∀ i s, ρ[i]? = some s → SlR C F H σ i s
theorem SlR.ext {C : Cfg} {F H F' H' : Hp} {σ : St} {i : Nat} {s : Sl} (x : Ext C.R F H F' H') (h : SlR C F H σ i s) : SlR C F' H' σ i s := by
  cases s with
  | no => trivial
  | v d => obtain ⟨v, e, h⟩ := h; exact ⟨v, e, h.mono x.sub⟩
  | ol ds =>
    obtain ⟨a, vs, e, h1, h2, h3, h4⟩ := h
    refine ⟨a, vs, e, x.frm _ _ h3 h1, ?_, h3, h4.mono x.sub⟩
    cases q : F' a with
    | none => rfl
    | some o =>
      rcases x.new a o q with z | ⟨z, _⟩
      · rw [h2] at z; cases z
      · rw [h1] at z; cases z
  | oi c ds =>
    obtain ⟨a, dx, fs, e, h1, h2, h3, h4⟩ := h
    refine ⟨a, dx, fs, e, x.frm _ _ h3 h1, ?_, h3, ⟨h4.1.mono x.sub, h4.2⟩⟩
    cases q : F' a with
    | none => rfl
    | some o =>
      rcases x.new a o q with z | ⟨z, _⟩
      · rw [h2] at z; cases z
      · rw [h1] at z; cases z
  | ex c fs => obtain ⟨a, dd, h1, h2, h3⟩ := h; exact ⟨a, dd, h1, h2, h3.mono x.sub⟩
theorem SRe.ext {C : Cfg} {σ : St} {F H F' H' : Hp} {ρ : Env} {g g' : G} (s : SRe C σ F H ρ g) (x : Ext C.R F H F' H') (t : St0 C F' H' g') : SRe C σ F' H' ρ g' :=
  ⟨t, s.len, fun i q e => (s.slot i q e).ext x⟩

/-! ### what is wanted of a result -/
def Want (C : Cfg) (W : WX) (σ : St) (F H : Hp) {α β : Type} (rel : Hp → Hp → β → α → Prop) (r : Res α) (Q : β → Hp → Prop) : Prop :=
  match r with
  | .ok d g' => ∀ v F' H', Ext C.R F H F' H' → St0 C F' H' g' → rel F' H' v d → Q v H'
  | .err c fs g' => ∀ dd F' H', Ext C.R F H F' H' → St0 C F' H' g' → XD C F' c fs dd → W (.ref (C.cad c)) (some dd) σ H'
  | .stuck => False
section
variable {C : Cfg} {W : WX} {σ : St} {F H F' H' : Hp} {α β γ δ : Type} {rel : Hp → Hp → β → α → Prop} {rel2 : Hp → Hp → δ → γ → Prop} {r : Res α} {Q Q' : β → Hp → Prop}
theorem Want.mono (h : Want C W σ F H rel r Q) (k : ∀ v H', Q v H' → Q' v H') : Want C W σ F H rel r Q' := by
  cases r with
  | ok d g => exact fun v F' H' x t q => k _ _ (h v F' H' x t q)
  | err c fs g => exact h
  | stuck => exact h
theorem Want.ext (h : Want C W σ F H rel r Q) (x : Ext C.R F H F' H') : Want C W σ F' H' rel r Q := by
  cases r with
  | ok d g => exact fun v F2 H2 y t q => h v F2 H2 (x.trans y) t q
  | err c fs g => exact fun dd F2 H2 y t q => h dd F2 H2 (x.trans y) t q
  | stuck => exact h
theorem Want.bind {m : M α} {k : α → M γ} {g : G} {Q2 : δ → Hp → Prop} (h : Want C W σ F H rel2 (M.bind m k g) Q2) :
    Want C W σ F H rel (m g) fun v H1 => ∃ F1 g1 d, Ext C.R F H F1 H1 ∧ St0 C F1 H1 g1 ∧ rel F1 H1 v d ∧ Want C W σ F1 H1 rel2 (k d g1) Q2 := by
  unfold M.bind at h
  cases e : m g with
  | ok d g1 =>
    rw [e] at h
    exact fun v F1 H1 x t q => ⟨F1, g1, d, x, t, q, Want.ext h x⟩
  | err c fs g1 => rw [e] at h; exact h
  | stuck => rw [e] at h; exact h
end

abbrev relD (C : Cfg) : Hp → Hp → V → D → Prop := fun F _ v d => Dv C F v d
/-- read only: the list may be one's own -/
def Dr (C : Cfg) (F H : Hp) (v : V) (d : D) : Prop := Dv C F v d ∨ (∃ a vs ds, v = .ref a ∧ d = .lst ds ∧ H a = some (.lst vs) ∧ a ≠ C.R ∧ DvL C F vs ds) ∨
  ∃ a dx fs c ds, v = .ref a ∧ d = .ins c ds ∧ H a = some (.ins (C.cad c) dx fs) ∧ a ≠ C.R ∧ DvF C F fs ds
abbrev relR (C : Cfg) : Hp → Hp → V → D → Prop := fun F H v d => Dr C F H v d
abbrev relL (C : Cfg) : Hp → Hp → List V → List D → Prop := fun F _ v d => DvL C F v d
abbrev relB : Hp → Hp → Bool → Bool → Prop := fun _ _ b c => b = c
theorem Dr.ext {C : Cfg} {F H F' H' : Hp} {v : V} {d : D} (h : Dr C F H v d) (x : Ext C.R F H F' H') : Dr C F' H' v d := by
  rcases h with h | ⟨a, vs, ds, h1, h2, h3, h4, h5⟩ | ⟨a, dx, fs, c, ds, h1, h2, h3, h4, h5⟩
  · exact .inl (h.mono x.sub)
  · exact .inr (.inl ⟨a, vs, ds, h1, h2, x.frm _ _ h4 h3, h4, h5.mono x.sub⟩)
  · exact .inr (.inr ⟨a, dx, fs, c, ds, h1, h2, x.frm _ _ h4 h3, h4, h5.mono x.sub⟩)
inductive DrL (C : Cfg) (F H : Hp) : List V → List D → Prop
  | nil : DrL C F H [] []
  | cons {v : V} {vs : List V} {d : D} {ds : List D} : Dr C F H v d → DrL C F H vs ds → DrL C F H (v :: vs) (d :: ds)
theorem DrL.ext {C : Cfg} {F H F' H' : Hp} (x : Ext C.R F H F' H') : ∀ {vs : List V} {ds : List D}, DrL C F H vs ds → DrL C F' H' vs ds
  | _, _, .nil => .nil
  | _, _, .cons h t => .cons (h.ext x) (DrL.ext x t)
theorem DvL.dr {C : Cfg} {F H : Hp} : ∀ {vs : List V} {ds : List D}, DvL C F vs ds → DrL C F H vs ds
  | _, _, .nil => .nil
  | _, _, .cons h t => .cons (.inl h) (DvL.dr t)

/-! ### expressions, tests, arguments -/
def SEx (C : Cfg) (X : Cx) (W : WX) (rel : Hp → Hp → V → D → Prop) (e : Expr) (f : Env → M D) : Prop :=
  ∃ t, PE X e t ∧ ∀ σ F H ρ g Q, SRe C σ F H ρ g → Want C W σ F H rel (f ρ g) Q → t σ H Q
abbrev SE (C : Cfg) (X : Cx) (W : WX) : Expr → (Env → M D) → Prop := SEx C X W (relD C)
abbrev SR (C : Cfg) (X : Cx) (W : WX) : Expr → (Env → M D) → Prop := SEx C X W (relR C)
def ST (C : Cfg) (X : Cx) (W : WX) (e : Expr) (f : Env → M Bool) : Prop :=
  ∃ t, PT X e t ∧ ∀ σ F H ρ g Q, SRe C σ F H ρ g → Want C W σ F H relB (f ρ g) Q → t σ H Q
def SW (C : Cfg) (X : Cx) (W : WX) (e : Expr) (f : Env → M Bool) : Prop :=
  ∃ t, PW X e t ∧ ∀ σ F H ρ g Q, SRe C σ F H ρ g → Want C W σ F H relB (f ρ g) Q → t σ H Q
def SA (C : Cfg) (X : Cx) (W : WX) (es : List Expr) (f : Env → M (List D)) : Prop :=
  ∃ t, PA X es t ∧ ∀ σ F H ρ g Q, SRe C σ F H ρ g → Want C W σ F H (relL C) (f ρ g) Q → t σ H Q
def SAr (C : Cfg) (X : Cx) (W : WX) (es : List Expr) (f : Env → M (List D)) : Prop :=
  ∃ t, PA X es t ∧ ∀ σ F H ρ g Q, SRe C σ F H ρ g → Want C W σ F H (fun F H => DrL C F H) (f ρ g) Q → t σ H Q
theorem SE.read {C : Cfg} {X : Cx} {W : WX} {e : Expr} {f : Env → M D} (h : SE C X W e f) : SR C X W e f := by
  obtain ⟨t, p, k⟩ := h
  refine ⟨t, p, fun σ F H ρ g Q s hw => k σ F H ρ g Q s ?_⟩
  cases e : f ρ g with
  | ok d g1 => rw [e] at hw; exact fun v F' H' x t q => hw v F' H' x t (.inl q)
  | err c fs g1 => rw [e] at hw; exact hw
  | stuck => rw [e] at hw; exact hw
theorem SA.read {C : Cfg} {X : Cx} {W : WX} {e : List Expr} {f : Env → M (List D)} (h : SA C X W e f) : SAr C X W e f := by
  obtain ⟨t, p, k⟩ := h
  refine ⟨t, p, fun σ F H ρ g Q s hw => k σ F H ρ g Q s ?_⟩
  cases e : f ρ g with
  | ok d g1 => rw [e] at hw; exact fun v F' H' x t q => hw v F' H' x t q.dr
  | err c fs g1 => rw [e] at hw; exact hw
  | stuck => rw [e] at hw; exact hw

/-! ### another error in hand: the same data -/
abbrev Cfg.at (C : Cfg) (z : Option (Addr × Value × Addr)) : Cfg := { C with xa := z }
section
variable {C : Cfg} {F H : Hp} {z : Option (Addr × Value × Addr)}
mutual
theorem Dv.at : ∀ {v : V} {d : D}, Dv C F v d → Dv (C.at z) F v d
  | _, _, .non => .non
  | _, _, .bl b => .bl b
  | _, _, .int i => .int i
  | _, _, .str x => .str x
  | _, _, .tup h l => .tup h (DvL.at l)
  | _, _, .lst h l => .lst h (DvL.at l)
  | _, _, .ins h l => .ins h (DvF.at l)
  | _, _, .fn i => .fn i
  | _, _, .cls c => .cls c
  | _, _, .ty n => .ty n
  | _, _, .row => .row
  | _, _, .scr => .scr
theorem DvL.at : ∀ {v : List V} {d : List D}, DvL C F v d → DvL (C.at z) F v d
  | _, _, .nil => .nil
  | _, _, .cons h t => .cons (Dv.at h) (DvL.at t)
theorem DvF.at : ∀ {v : List (Str × V)} {d : List (Str × D)}, DvF C F v d → DvF (C.at z) F v d
  | _, _, .nil => .nil
  | _, _, .cons h t => .cons (Dv.at h) (DvF.at t)
end
theorem St0.at {g : G} (s : St0 C F H g) : St0 (C.at z) F H g := ⟨s.sub, s.rowF, s.rowH, s.scr⟩
theorem XD.at {c : Nat} {fs : List D} {dd : Addr} (h : XD C F c fs dd) : XD (C.at z) F c fs dd := let ⟨vs, h1, h2, h3⟩ := h; ⟨vs, h1, h2.at, h3⟩
end
end DS

set_option Elab.async false
set_option linter.all false
set_option maxRecDepth 100000
set_option maxHeartbeats 4000000
/-! DS, part 2: what expressions are worth -/
namespace DS
open PySem L2
section
variable {C : Cfg} {X : Cx} {W : WX} {e a b : Expr} {es : List Expr} {pos : Pos} {rel : Hp → Hp → V → D → Prop} {f fa fb : Env → M D}

/-! ### plumbing -/
theorem Want.ret {σ : St} {F H : Hp} {g : G} {α β : Type} {rel : Hp → Hp → β → α → Prop} {d : α} {v : β} {Q : β → Hp → Prop} (h : Want C W σ F H rel (Res.ok d g) Q) (t : St0 C F H g) (r : rel F H v d) : Q v H := h v F H (Ext.refl _ _ _) t r
theorem lft_some {α : Type} {a : α} {g : G} : lft (some a) g = .ok a g := rfl
theorem lft_none {α : Type} {g : G} : lft (none : Option α) g = .stuck := rfl
/-- one after another -/
theorem sex_bind {k : D → M D} {rel2 : Hp → Hp → V → D → Prop} {t : TE} {t2 : TE → TE} {e2 : Expr} (ha : SEx C X W rel e fa)
    (h : ∀ ta, PE X e ta → ∃ t, PE X e2 t ∧ ∀ σ F H ρ g Q, SRe C σ F H ρ g → Want C W σ F H rel2 (M.bind (fa ρ) k g) Q →
      (∀ Q1, Want C W σ F H rel (fa ρ g) Q1 → ta σ H Q1) → t σ H Q) : SEx C X W rel2 e2 (fun ρ => M.bind (fa ρ) k) := by
  obtain ⟨ta, p, ka⟩ := ha
  obtain ⟨t, q, h⟩ := h ta p
  exact ⟨t, q, fun σ F H ρ g Q s hw => h σ F H ρ g Q s hw fun Q1 h1 => ka σ F H ρ g Q1 s h1⟩

/-! ### names, constants -/
def envV (ρ : Env) (i : Nat) : Option D := match ρ[i]? with
  | some (.v d) => some d
  | _ => none
def envO (ρ : Env) (i : Nat) : Option D := match ρ[i]? with
  | some (.ol ds) => some (.lst ds)
  | some (.oi c ds) => some (.ins c ds)
  | some (.v d) => some d
  | _ => none
theorem se_var {i : Nat} {x : Str} (hN : X.N[i]? = some x) (hv : Vis X.env.scope x) (hd : (x == ("__debug__" : Str)) = false) (hcd : (x == ("__classdict__" : Str)) = false) : SE C X W (.Name x pos) (fun ρ => lft (envV ρ i)) := by
  refine ⟨tVar i, pe_var hN hv hd hcd, fun σ F H ρ g Q s hw => ?_⟩
  cases e : ρ[i]? with
  | none => simp only [envV, e] at hw; exact hw.elim
  | some q =>
    have z := s.slot i q e
    cases q with
    | v d =>
      simp only [envV, e] at hw
      obtain ⟨v, e1, h1⟩ := z
      exact ⟨v, e1, hw.ret s.st h1⟩
    | no => simp only [envV, e] at hw; exact hw.elim
    | ol ds => simp only [envV, e] at hw; exact hw.elim
    | oi c ds => simp only [envV, e] at hw; exact hw.elim
    | ex c ds => simp only [envV, e] at hw; exact hw.elim
theorem sr_var {i : Nat} {x : Str} (hN : X.N[i]? = some x) (hv : Vis X.env.scope x) (hd : (x == ("__debug__" : Str)) = false) (hcd : (x == ("__classdict__" : Str)) = false) : SR C X W (.Name x pos) (fun ρ => lft (envO ρ i)) := by
  refine ⟨tVar i, pe_var hN hv hd hcd, fun σ F H ρ g Q s hw => ?_⟩
  cases e : ρ[i]? with
  | none => simp only [envO, e] at hw; exact hw.elim
  | some q =>
    have z := s.slot i q e
    cases q with
    | v d =>
      simp only [envO, e] at hw
      obtain ⟨v, e1, h1⟩ := z
      exact ⟨v, e1, hw.ret s.st (.inl h1)⟩
    | ol ds =>
      simp only [envO, e] at hw
      obtain ⟨a, vs, e1, h1, h2, h3, h4⟩ := z
      exact ⟨_, e1, hw.ret s.st (.inr (.inl ⟨a, vs, ds, rfl, rfl, h1, h3, h4⟩))⟩
    | oi c ds =>
      simp only [envO, e] at hw
      obtain ⟨a, dx, fs, e1, h1, h2, h3, h4⟩ := z
      exact ⟨_, e1, hw.ret s.st (.inr (.inr ⟨a, dx, fs, c, ds, rfl, rfl, h1, h3, h4.1⟩))⟩
    | no => simp only [envO, e] at hw; exact hw.elim
    | ex c ds => simp only [envO, e] at hw; exact hw.elim
/-- a value that is written, or a module's constant -/
theorem se_c {v : V} {d : D} (h : PE X e (tC v)) (r : ∀ F, Dv C F v d) : SE C X W e (fun _ => M.ret d) :=
  ⟨tC v, h, fun σ F H ρ g Q s hw => Want.ret (g := g) hw s.st (r F)⟩

/-! ### operators by what they are worth -/
def OpD (C : Cfg) (X : Cx) (f : Value → Value → Sem Value) (sem : D → D → Option D) : Prop :=
  ∃ r : R2, OpR X f r ∧ ∀ F H g x y dx dy W σ Q, St0 C F H g → Dr C F H x dx → Dr C F H y dy → Want C W σ F H (relD C) (lft (sem dx dy) g) Q → r x y H Q
def orS {α β : Type} (s t : α → β → Option D) (a : α) (b : β) : Option D := match s a b with
  | some d => some d
  | none => t a b
theorem OpD.or {f : Value → Value → Sem Value} {s t : D → D → Option D} (h : OpD C X f s) (k : OpD C X f t) : OpD C X f (orS s t) := by
  obtain ⟨r1, o1, h1⟩ := h
  obtain ⟨r2, o2, h2⟩ := k
  refine ⟨_, o1.or o2, fun F H g x y dx dy W σ Q st rx ry hw => ?_⟩
  unfold orS at hw
  cases e : s dx dy with
  | some d => rw [e] at hw; exact .inl (h1 F H g x y dx dy W σ Q st rx ry (by rw [e]; exact hw))
  | none => rw [e] at hw; exact .inr (h2 F H g x y dx dy W σ Q st rx ry hw)
theorem se_op {op : Operator} {sem : D → D → Option D} (ho : OpD C X (binaryOp op) sem) (ha : SR C X W a fa) (hb : SR C X W b fb) :
    SE C X W (.BinOp a op b pos) (fun ρ => M.bind (fa ρ) fun x => M.bind (fb ρ) fun y => lft (sem x y)) := by
  obtain ⟨r, o, h⟩ := ho
  obtain ⟨ta, pa, ka⟩ := ha
  obtain ⟨tb, pb, kb⟩ := hb
  refine ⟨_, pe_op o pa pb, fun σ F H ρ g Q s hw => ka σ F H ρ g _ s (hw.bind.mono ?_)⟩
  rintro x H1 ⟨F1, g1, dx, x1, t1, r1, w1⟩
  refine kb σ F1 H1 ρ g1 _ (s.ext x1 t1) (w1.bind.mono ?_)
  rintro y H2 ⟨F2, g2, dy, x2, t2, r2, w2⟩
  exact h F2 H2 g2 x y dx dy W σ Q t2 (r1.ext x2) r2 w2
/-- two ints -/
def intS (p : Int → Int → Bool) (k : Int → Int → D) : D → D → Option D
  | .int i, .int j => if p i j = true then some (k i j) else none
  | _, _ => none
theorem Dr.int_inv {F H : Hp} {v : V} {i : Int} (h : Dr C F H v (.int i)) : v = .int i := by
  rcases h with h | ⟨_, _, _, _, h, _⟩ | ⟨_, _, _, _, _, _, h, _⟩
  · cases h; rfl
  · cases h
  · cases h
theorem Dr.bl_inv {F H : Hp} {v : V} {i : Bool} (h : Dr C F H v (.bl i)) : v = .bl i := by
  rcases h with h | ⟨_, _, _, _, h, _⟩ | ⟨_, _, _, _, _, _, h, _⟩
  · cases h; rfl
  · cases h
  · cases h
theorem Dr.str_inv {F H : Hp} {v : V} {i : Str} (h : Dr C F H v (.str i)) : v = .str i := by
  rcases h with h | ⟨_, _, _, _, h, _⟩ | ⟨_, _, _, _, _, _, h, _⟩
  · cases h; rfl
  · cases h
  · cases h
theorem Dr.tup_inv {F H : Hp} {v : V} {ds : List D} (s : Sub F H) (h : Dr C F H v (.tup ds)) : ∃ a vs, v = .ref a ∧ SqT C.K F a vs ∧ DvL C F vs ds := by
  rcases h with h | ⟨_, _, _, _, h, _⟩ | ⟨_, _, _, _, _, _, h, _⟩
  · cases h with
    | tup h l => exact ⟨_, _, rfl, h, l⟩
  · cases h
  · cases h
theorem Dr.lst_inv {F H : Hp} {v : V} {ds : List D} (s : Sub F H) (h : Dr C F H v (.lst ds)) : ∃ a vs, v = .ref a ∧ H a = some (.lst vs) ∧ DvL C F vs ds := by
  rcases h with h | ⟨a, vs, ds', h1, h2, h3, h4, h5⟩ | ⟨_, _, _, _, _, _, h, _⟩
  · cases h with
    | lst h l => exact ⟨_, _, rfl, s _ _ h, l⟩
  · cases h2; exact ⟨a, vs, h1, h3, h5⟩
  · cases h
theorem Dr.ins_inv {F H : Hp} {v : V} {c : Nat} {ds : List (Str × D)} (s : Sub F H) (h : Dr C F H v (.ins c ds)) : ∃ a dx vs, v = .ref a ∧ H a = some (.ins (C.cad c) dx vs) ∧ DvF C F vs ds := by
  rcases h with h | ⟨_, _, _, _, h, _⟩ | ⟨a, dx, fs, c', ds', h1, h2, h3, h4, h5⟩
  · cases h with
    | ins h l => exact ⟨_, _, _, rfl, s _ _ h, l⟩
  · cases h
  · cases h2; exact ⟨a, dx, fs, h1, h3, h5⟩
theorem opD_int {f : Value → Value → Sem Value} {Cp : Int → Int → Prop} {k : Int → Int → V} {p : Int → Int → Bool} {kd : Int → Int → D} (h : OpR X f (rI Cp k)) (hp : ∀ i j, p i j = true → Cp i j) (hk : ∀ F i j, Dv C F (k i j) (kd i j)) : OpD C X f (intS p kd) := by
  refine ⟨_, h, fun F H g x y dx dy W σ Q st rx ry hw => ?_⟩
  cases dx with
  | int i =>
    cases dy with
    | int j =>
      cases rx.int_inv
      cases ry.int_inv
      unfold intS at hw
      by_cases c : p i j = true
      · dsimp only at hw
        rw [if_pos c] at hw
        exact ⟨i, j, rfl, rfl, hp i j c, Want.ret (g := g) hw st (hk F i j)⟩
      · dsimp only at hw
        rw [if_neg c] at hw; exact hw.elim
    | _ => exact hw.elim
  | _ => exact hw.elim
theorem opD_int0 {f : Value → Value → Sem Value} {k : Int → Int → V} {kd : Int → Int → D} (h : OpR X f (rI0 k)) (hk : ∀ F i j, Dv C F (k i j) (kd i j)) : OpD C X f (intS (fun _ _ => true) kd) := by
  refine ⟨_, h, fun F H g x y dx dy W σ Q st rx ry hw => ?_⟩
  cases dx with
  | int i =>
    cases dy with
    | int j =>
      cases rx.int_inv
      cases ry.int_inv
      exact ⟨i, j, rfl, rfl, Want.ret (g := g) hw st (hk F i j)⟩
    | _ => exact hw.elim
  | _ => exact hw.elim
def okMul (i j : Int) : Bool := decide (-(2 ^ 64) < i ∧ i < 2 ^ 64) || decide (-(2 ^ 64) < j ∧ j < 2 ^ 64)
def okDiv (_ j : Int) : Bool := decide (j ≠ 0 ∧ j.natAbs < 1073741824)
def okMod (_ j : Int) : Bool := decide (j ≠ 0)
def okPow (i j : Int) : Bool := decide (0 ≤ j ∧ j ≤ 1000000 ∧ i.natAbs < 2 ^ 64)
def addI : D → D → Option D := intS (fun _ _ => true) fun i j => .int (i + j)
def subI : D → D → Option D := intS (fun _ _ => true) fun i j => .int (i - j)
def mulI : D → D → Option D := intS okMul fun i j => .int (i * j)
def divI : D → D → Option D := intS okDiv fun i j => .int (i.fdiv j)
def modI : D → D → Option D := intS okMod fun i j => .int (i.fmod j)
def powI : D → D → Option D := intS okPow fun i j => .int (i ^ j.toNat)
theorem opD_addI : OpD C X (binaryOp .Add) addI := opD_int0 op_add fun _ _ _ => .int _
theorem opD_subI : OpD C X (binaryOp .Sub) subI := opD_int0 op_sub fun _ _ _ => .int _
theorem opD_mulI : OpD C X (binaryOp .Mult) mulI := opD_int op_mul (fun i j h => by simpa [okMul, CMul] using h) fun _ _ _ => .int _
theorem opD_divI : OpD C X (binaryOp .FloorDiv) divI := opD_int op_fdivN (fun i j h => of_decide_eq_true (p := j ≠ 0 ∧ j.natAbs < 1073741824) h) fun _ _ _ => .int _
theorem opD_modI : OpD C X (binaryOp .Mod) modI := opD_int op_modN (fun i j h => of_decide_eq_true (p := j ≠ 0) h) fun _ _ _ => .int _
theorem opD_powI : OpD C X (binaryOp .Pow) powI := opD_int op_pow (fun i j h => of_decide_eq_true (p := 0 ≤ j ∧ j ≤ 1000000 ∧ i.natAbs < 2 ^ 64) h) fun _ _ _ => .int _
/-- texts, tuples, lists put together -/
def addT : D → D → Option D
  | .str i, .str j => if i.length + j.length ≤ sizeLine then some (.str (i ++ j)) else none
  | .tup a, .tup b => if a.length + b.length ≤ sizeLine then some (.tup (a ++ b)) else none
  | .lst a, .lst b => if a.length + b.length ≤ sizeLine then some (.lst (a ++ b)) else none
  | _, _ => none
theorem opD_addT (hK : X.K = C.K) : OpD C X (binaryOp .Add) addT := by
  refine ⟨_, (op_add_str.or op_catA).or op_cat, fun F H g x y dx dy W σ Q st rx ry hw => ?_⟩
  cases dx with
  | str i =>
    cases dy with
    | str j =>
      cases rx.str_inv
      cases ry.str_inv
      unfold addT at hw
      by_cases c : i.length + j.length ≤ sizeLine
      · simp only [c, if_true] at hw
        exact .inl (.inl ⟨i, j, rfl, rfl, c, Want.ret (g := g) hw st (.str _)⟩)
      · simp only [c, if_false] at hw; exact hw.elim
    | _ => exact hw.elim
  | tup i =>
    cases dy with
    | tup j =>
      obtain ⟨a, vs, rfl, ha, la⟩ := rx.tup_inv st.sub
      obtain ⟨b, ws, rfl, hb, lb⟩ := ry.tup_inv st.sub
      unfold addT at hw
      by_cases c : i.length + j.length ≤ sizeLine
      · simp only [c, if_true] at hw
        refine .inl (.inr ⟨a, b, vs, ws, rfl, rfl, by rw [hK]; exact st.sub.sqt ha, by rw [hK]; exact st.sub.sqt hb, by rw [la.length, lb.length]; exact c, fun e => ?_, fun e e2 => ?_, fun e e2 p np => ?_⟩)
        · subst e
          cases la
          exact Want.ret (g := g) hw st (.tup hb lb)
        · subst e2
          cases lb
          rw [List.append_nil] at hw
          exact Want.ret (g := g) hw st (.tup ha la)
        · obtain ⟨x1, t1⟩ := Ext.lay st np (.tup (vs ++ ws))
          exact hw _ _ _ x1 t1 (.tup (.inl (.inl upd_same)) ((la.append lb).mono x1.sub))
      · simp only [c, if_false] at hw; exact hw.elim
    | _ => exact hw.elim
  | lst i =>
    cases dy with
    | lst j =>
      obtain ⟨a, vs, rfl, ha, la⟩ := rx.lst_inv st.sub
      obtain ⟨b, ws, rfl, hb, lb⟩ := ry.lst_inv st.sub
      unfold addT at hw
      by_cases c : i.length + j.length ≤ sizeLine
      · simp only [c, if_true] at hw
        refine .inr ⟨a, b, vs, ws, rfl, rfl, ha, hb, by rw [la.length, lb.length]; exact c, fun p np => ?_⟩
        obtain ⟨x1, t1⟩ := Ext.lay st np (.lst (vs ++ ws))
        exact hw _ _ _ x1 t1 (.lst upd_same ((la.append lb).mono x1.sub))
      · simp only [c, if_false] at hw; exact hw.elim
    | _ => exact hw.elim
  | _ => exact hw.elim

/-! ### one operand -/
theorem se_neg (ha : SR C X W a fa) : SE C X W (.UnaryOp .USub a pos) (fun ρ => M.bind (fa ρ) fun x => lft (match x with | .int i => some (.int (-i)) | _ => none)) := by
  obtain ⟨ta, pa, ka⟩ := ha
  refine ⟨_, pe_un un_neg pa, fun σ F H ρ g Q s hw => ka σ F H ρ g _ s (hw.bind.mono ?_)⟩
  rintro x H1 ⟨F1, g1, dx, x1, t1, r1, w1⟩
  cases dx with
  | int i => cases r1.int_inv; exact ⟨i, rfl, Want.ret (g := g1) w1 t1 (.int _)⟩
  | _ => exact w1.elim
theorem se_not (ha : SR C X W a fa) : SE C X W (.UnaryOp .Not a pos) (fun ρ => M.bind (fa ρ) fun x => lft (match x with | .bl i => some (.bl (!i)) | _ => none)) := by
  obtain ⟨ta, pa, ka⟩ := ha
  refine ⟨_, pe_not pa, fun σ F H ρ g Q s hw => ka σ F H ρ g _ s (hw.bind.mono ?_)⟩
  rintro x H1 ⟨F1, g1, dx, x1, t1, r1, w1⟩
  cases dx with
  | bl i => cases r1.bl_inv; exact ⟨i, rfl, Want.ret (g := g1) w1 t1 (.bl _)⟩
  | _ => exact w1.elim

/-! ### tests -/
def blD : D → Option Bool
  | .bl b => some b
  | _ => none
/-- an expression that is a bool, as a test -/
theorem st_val (ha : SR C X W a fa) (he : ∀ whole, isTrue a X.env whole = (do let v ← whole; standAt a.pos; holding [v] (truthy v))) : ST C X W a (fun ρ => M.bind (fa ρ) fun x => lft (blD x)) := by
  obtain ⟨ta, pa, ka⟩ := ha
  refine ⟨_, pt_val pa he, fun σ F H ρ g Q s hw => ka σ F H ρ g _ s (hw.bind.mono ?_)⟩
  rintro x H1 ⟨F1, g1, dx, x1, t1, r1, w1⟩
  cases dx with
  | bl i => cases r1.bl_inv; exact ⟨i, rfl, Want.ret (g := g1) w1 t1 rfl⟩
  | _ => exact w1.elim
theorem st_not {fa : Env → M Bool} (ha : ST C X W a fa) : ST C X W (.UnaryOp .Not a pos) (fun ρ => M.bind (fa ρ) fun x => M.ret (!x)) := by
  obtain ⟨ta, pa, ka⟩ := ha
  refine ⟨_, pt_not pa, fun σ F H ρ g Q s hw => ka σ F H ρ g _ s (hw.bind.mono ?_)⟩
  rintro x H1 ⟨F1, g1, dx, x1, t1, r1, w1⟩
  cases r1
  exact Want.ret (g := g1) w1 t1 rfl
theorem sw_and1 {fa : Env → M Bool} (ha : ST C X W a fa) : SW C X W (.BoolOp .And [a] pos) fa := by
  obtain ⟨ta, pa, ka⟩ := ha
  exact ⟨_, pw_and1 pa, ka⟩
theorem sw_or1 {fa : Env → M Bool} (ha : ST C X W a fa) : SW C X W (.BoolOp .Or [a] pos) fa := by
  obtain ⟨ta, pa, ka⟩ := ha
  exact ⟨_, pw_or1 pa, ka⟩
theorem sw_and {fa fb : Env → M Bool} (ha : ST C X W a fa) (hb : SW C X W (.BoolOp .And (b :: es) pos) fb) : SW C X W (.BoolOp .And (a :: b :: es) pos) (fun ρ => M.bind (fa ρ) fun x => if x = true then fb ρ else M.ret false) := by
  obtain ⟨ta, pa, ka⟩ := ha
  obtain ⟨tb, pb, kb⟩ := hb
  refine ⟨_, pw_and pa pb, fun σ F H ρ g Q s hw => ka σ F H ρ g _ s (hw.bind.mono ?_)⟩
  rintro x H1 ⟨F1, g1, dx, x1, t1, r1, w1⟩
  cases r1
  cases x with
  | true => exact kb σ F1 H1 ρ g1 Q (s.ext x1 t1) w1
  | false => exact Want.ret (g := g1) w1 t1 rfl
theorem sw_or {fa fb : Env → M Bool} (ha : ST C X W a fa) (hb : SW C X W (.BoolOp .Or (b :: es) pos) fb) : SW C X W (.BoolOp .Or (a :: b :: es) pos) (fun ρ => M.bind (fa ρ) fun x => if x = true then M.ret true else fb ρ) := by
  obtain ⟨ta, pa, ka⟩ := ha
  obtain ⟨tb, pb, kb⟩ := hb
  refine ⟨_, pw_or pa pb, fun σ F H ρ g Q s hw => ka σ F H ρ g _ s (hw.bind.mono ?_)⟩
  rintro x H1 ⟨F1, g1, dx, x1, t1, r1, w1⟩
  cases r1
  cases x with
  | false => exact kb σ F1 H1 ρ g1 Q (s.ext x1 t1) w1
  | true => exact Want.ret (g := g1) w1 t1 rfl
theorem SW.st {f : Env → M Bool} (h : SW C X W e f) : ST C X W e f := by
  obtain ⟨t, p, k⟩ := h
  exact ⟨t, p.pt, k⟩
/-- as values -/
theorem se_one {op : BoolOp} (ha : SE C X W a fa) : SE C X W (.BoolOp op [a] pos) fa := by
  obtain ⟨ta, pa, ka⟩ := ha
  exact ⟨_, pe_one pa, ka⟩
theorem se_and (ha : SR C X W a fa) (hb : SE C X W (.BoolOp .And (b :: es) pos) fb) :
    SE C X W (.BoolOp .And (a :: b :: es) pos) (fun ρ => M.bind (fa ρ) fun x => M.bind (lft (blD x)) fun c => if c = true then fb ρ else M.ret (.bl false)) := by
  obtain ⟨ta, pa, ka⟩ := ha
  obtain ⟨tb, pb, kb⟩ := hb
  refine ⟨_, pe_and pa pb, fun σ F H ρ g Q s hw => ka σ F H ρ g _ s (hw.bind.mono ?_)⟩
  rintro x H1 ⟨F1, g1, dx, x1, t1, r1, w1⟩
  cases dx with
  | bl c =>
    cases r1.bl_inv
    refine ⟨c, rfl, ?_⟩
    cases c with
    | true => exact kb σ F1 H1 ρ g1 Q (s.ext x1 t1) w1
    | false => exact Want.ret (g := g1) w1 t1 (.bl _)
  | _ => exact w1.elim
theorem se_or (ha : SR C X W a fa) (hb : SE C X W (.BoolOp .Or (b :: es) pos) fb) :
    SE C X W (.BoolOp .Or (a :: b :: es) pos) (fun ρ => M.bind (fa ρ) fun x => M.bind (lft (blD x)) fun c => if c = true then M.ret (.bl true) else fb ρ) := by
  obtain ⟨ta, pa, ka⟩ := ha
  obtain ⟨tb, pb, kb⟩ := hb
  refine ⟨_, pe_or pa pb, fun σ F H ρ g Q s hw => ka σ F H ρ g _ s (hw.bind.mono ?_)⟩
  rintro x H1 ⟨F1, g1, dx, x1, t1, r1, w1⟩
  cases dx with
  | bl c =>
    cases r1.bl_inv
    refine ⟨c, rfl, ?_⟩
    cases c with
    | false => exact kb σ F1 H1 ρ g1 Q (s.ext x1 t1) w1
    | true => exact Want.ret (g := g1) w1 t1 (.bl _)
  | _ => exact w1.elim
theorem se_ite {c : Expr} {fc : Env → M Bool} (hc : ST C X W c fc) (ha : SEx C X W rel a fa) (hb : SEx C X W rel b fb) :
    SEx C X W rel (.IfExp c a b pos) (fun ρ => M.bind (fc ρ) fun x => if x = true then fa ρ else fb ρ) := by
  obtain ⟨tc, pc, kc⟩ := hc
  obtain ⟨ta, pa, ka⟩ := ha
  obtain ⟨tb, pb, kb⟩ := hb
  refine ⟨_, pe_ifExp pc pa pb, fun σ F H ρ g Q s hw => kc σ F H ρ g _ s (hw.bind.mono ?_)⟩
  rintro x H1 ⟨F1, g1, dx, x1, t1, r1, w1⟩
  cases r1
  cases x with
  | true => exact ka σ F1 H1 ρ g1 Q (s.ext x1 t1) w1
  | false => exact kb σ F1 H1 ρ g1 Q (s.ext x1 t1) w1

/-! ### comparisons -/
theorem se_cmp {op : CmpOp} {sem : D → D → Option D} (ho : OpD C X (compareOp op) sem) (ha : SR C X W a fa) (hb : SR C X W b fb) (hm : behindInMarks op b = false) :
    SE C X W (.Compare a [op] [b] pos) (fun ρ => M.bind (fa ρ) fun x => M.bind (fb ρ) fun y => lft (sem x y)) := by
  obtain ⟨r, o, h⟩ := ho
  obtain ⟨ta, pa, ka⟩ := ha
  obtain ⟨tb, pb, kb⟩ := hb
  refine ⟨_, pe_cmpR o pa pb hm, fun σ F H ρ g Q s hw => ka σ F H ρ g _ s (hw.bind.mono ?_)⟩
  rintro x H1 ⟨F1, g1, dx, x1, t1, r1, w1⟩
  refine kb σ F1 H1 ρ g1 _ (s.ext x1 t1) (w1.bind.mono ?_)
  rintro y H2 ⟨F2, g2, dy, x2, t2, r2, w2⟩
  exact h F2 H2 g2 x y dx dy W σ Q t2 (r1.ext x2) r2 w2
theorem want_bl {σ : St} {F H : Hp} {o : Option D} {g : G} {Q : Bool → Hp → Prop} (h : Want C W σ F H relB (M.bind (lft o) (fun x => lft (blD x)) g) Q) : Want C W σ F H (relD C) (lft o g) (fun z H' => ∃ k, z = .bl k ∧ Q k H') := by
  cases o with
  | none => exact h
  | some d =>
    cases d with
    | bl k =>
      intro v F' H' x t r
      cases r
      exact ⟨k, rfl, h k F' H' x t rfl⟩
    | _ => exact (h : False).elim
theorem st_cmp {op : CmpOp} {sem : D → D → Option D} (ho : OpD C X (compareOp op) sem) (ha : SR C X W a fa) (hb : SR C X W b fb) (hm : behindInMarks op b = false) :
    ST C X W (.Compare a [op] [b] pos) (fun ρ => M.bind (fa ρ) fun x => M.bind (fb ρ) fun y => M.bind (lft (sem x y)) fun z => lft (blD z)) := by
  obtain ⟨r, o, h⟩ := ho
  obtain ⟨ta, pa, ka⟩ := ha
  obtain ⟨tb, pb, kb⟩ := hb
  refine ⟨_, pt_cmpR o pa pb hm, fun σ F H ρ g Q s hw => ka σ F H ρ g _ s (hw.bind.mono ?_)⟩
  rintro x H1 ⟨F1, g1, dx, x1, t1, r1, w1⟩
  refine kb σ F1 H1 ρ g1 _ (s.ext x1 t1) (w1.bind.mono ?_)
  rintro y H2 ⟨F2, g2, dy, x2, t2, r2, w2⟩
  exact h F2 H2 g2 x y dx dy W σ _ t2 (r1.ext x2) r2 (want_bl w2)
theorem opD_lt : OpD C X (compareOp .Lt) (intS (fun _ _ => true) fun i j => .bl (decide (i < j))) := opD_int0 op_lt fun _ _ _ => .bl _
theorem opD_le : OpD C X (compareOp .LtE) (intS (fun _ _ => true) fun i j => .bl (decide (i ≤ j))) := opD_int0 op_le fun _ _ _ => .bl _
theorem opD_gt : OpD C X (compareOp .Gt) (intS (fun _ _ => true) fun i j => .bl (decide (j < i))) := opD_int0 op_gt fun _ _ _ => .bl _
theorem opD_ge : OpD C X (compareOp .GtE) (intS (fun _ _ => true) fun i j => .bl (decide (j ≤ i))) := opD_int0 op_ge fun _ _ _ => .bl _
/-- is None -/
def isNS (n : Bool) : D → D → Option D
  | .non, .non => some (.bl (!n))
  | _, .non => some (.bl n)
  | _, _ => none
theorem Dr.non_inv {F H : Hp} {v : V} (h : Dr C F H v .non) : v = .non := by
  rcases h with h | ⟨_, _, _, _, h, _⟩ | ⟨_, _, _, _, _, _, h, _⟩
  · cases h; rfl
  · cases h
  · cases h
theorem Dr.non_iff {F H : Hp} {v : V} {d : D} (h : Dr C F H v d) : decide (v = .non) = (match d with | .non => true | _ => false) := by
  rcases h with h | ⟨a, _, _, h1, h2, _⟩ | ⟨a, _, _, _, _, h1, h2, _⟩
  · cases h <;> simp
  · subst h1; subst h2; simp
  · subst h1; subst h2; simp
theorem opD_isN : OpD C X (compareOp .Is) (isNS false) := by
  refine ⟨_, op_isN, fun F H g x y dx dy W σ Q st rx ry hw => ?_⟩
  cases dy with
  | non =>
    refine ⟨ry.non_inv, ?_⟩
    rw [rx.non_iff]
    cases dx <;> exact Want.ret (g := g) hw st (.bl _)
  | _ => cases dx <;> exact hw.elim
theorem opD_notN : OpD C X (compareOp .IsNot) (isNS true) := by
  refine ⟨_, op_notN, fun F H g x y dx dy W σ Q st rx ry hw => ?_⟩
  cases dy with
  | non =>
    refine ⟨ry.non_inv, ?_⟩
    rw [rx.non_iff]
    cases dx <;> exact Want.ret (g := g) hw st (.bl _)
  | _ => cases dx <;> exact hw.elim
/-- a < b < c -/
theorem se_chainG {op op' : CmpOp} {sem sem' : D → D → Option D} {c : Expr} {fc : Env → M D} (ho : OpD C X (compareOp op) sem) (ho' : OpD C X (compareOp op') sem') (ha : SR C X W a fa) (hb : SR C X W b fb) (hc : SR C X W c fc)
    {P : TE → Prop} (pch : ∀ r r' ta tb tc, OpR X (compareOp op) r → OpR X (compareOp op') r' → PE X a ta → PE X b tb → PE X c tc → P (tChain r r' ta tb tc)) :
    ∃ t, P t ∧ ∀ σ F H ρ g Q, SRe C σ F H ρ g → Want C W σ F H (relD C) (M.bind (fa ρ) (fun x => M.bind (fb ρ) fun y => M.bind (lft (sem x y)) fun z => M.bind (lft (blD z)) fun k => if k = true then M.bind (fc ρ) fun u => lft (sem' y u) else M.ret (.bl false)) g) Q → t σ H Q := by
  obtain ⟨r, o, h⟩ := ho
  obtain ⟨r', o', h'⟩ := ho'
  obtain ⟨ta, pa, ka⟩ := ha
  obtain ⟨tb, pb, kb⟩ := hb
  obtain ⟨tc, pc, kc⟩ := hc
  refine ⟨_, pch r r' ta tb tc o o' pa pb pc, fun σ F H ρ g Q s hw => ka σ F H ρ g _ s (hw.bind.mono ?_)⟩
  rintro x H1 ⟨F1, g1, dx, x1, t1, r1, w1⟩
  have s1 := s.ext x1 t1
  refine kb σ F1 H1 ρ g1 _ s1 (w1.bind.mono ?_)
  rintro y H2 ⟨F2, g2, dy, x2, t2, r2, w2⟩
  have s2 := s1.ext x2 t2
  refine h F2 H2 g2 x y dx dy W σ _ t2 (r1.ext x2) r2 (w2.bind.mono ?_)
  rintro z H3 ⟨F3, g3, dz, x3, t3, r3, w3⟩
  cases dz with
  | bl k =>
    cases r3
    refine ⟨k, rfl, ?_⟩
    cases k with
    | false => exact Want.ret (g := g3) w3 t3 (.bl _)
    | true =>
      refine kc σ F3 H3 ρ g3 _ (s2.ext x3 t3) (Want.mono (Want.bind (w3 : Want C W σ F3 H3 (relD C) (M.bind (fc ρ) (fun u => lft (sem' dy u)) g3) Q)) ?_)
      rintro u H4 ⟨F4, g4, du, x4, t4, r4, w4⟩
      exact h' F4 H4 g4 y u dy du W σ Q t4 ((r2.ext x3).ext x4) r4 w4
  | _ => exact w3.elim
abbrev chainF (sem sem' : D → D → Option D) (fa fb fc : Env → M D) : Env → M D := fun ρ => M.bind (fa ρ) fun x => M.bind (fb ρ) fun y => M.bind (lft (sem x y)) fun z => M.bind (lft (blD z)) fun k => if k = true then M.bind (fc ρ) fun u => lft (sem' y u) else M.ret (.bl false)
theorem se_chain {op op' : CmpOp} {sem sem' : D → D → Option D} {c : Expr} {fc : Env → M D} (ho : OpD C X (compareOp op) sem) (ho' : OpD C X (compareOp op') sem') (ha : SR C X W a fa) (hb : SR C X W b fb) (hc : SR C X W c fc)
    (hm : lastMarks [op, op'] [b, c] = false) : SE C X W (.Compare a [op, op'] [b, c] pos) (chainF sem sem' fa fb fc) := by
  obtain ⟨t, p, k⟩ := se_chainG (P := fun t => PE X (.Compare a [op, op'] [b, c] pos) t) ho ho' ha hb hc fun r r' ta tb tc o o' pa pb pc => pe_chain o o' pa pb pc hm
  exact ⟨t, p, k⟩
theorem st_test {t : TE} {f : Env → M D} (pt : PT X e (tTest t)) (k : ∀ σ F H ρ g Q, SRe C σ F H ρ g → Want C W σ F H (relD C) (f ρ g) Q → t σ H Q) : ST C X W e (fun ρ => M.bind (f ρ) fun x => lft (blD x)) := by
  refine ⟨_, pt, fun σ F H ρ g Q s hw => k σ F H ρ g _ s (hw.bind.mono ?_)⟩
  rintro x H1 ⟨F1, g1, dx, x1, t1, r1, w1⟩
  cases dx with
  | bl i => cases r1; exact ⟨i, rfl, Want.ret (g := g1) w1 t1 rfl⟩
  | _ => exact w1.elim
theorem st_chain {op op' : CmpOp} {sem sem' : D → D → Option D} {c : Expr} {fc : Env → M D} (ho : OpD C X (compareOp op) sem) (ho' : OpD C X (compareOp op') sem') (ha : SR C X W a fa) (hb : SR C X W b fb) (hc : SR C X W c fc)
    (hm : lastMarks [op, op'] [b, c] = false) : ST C X W (.Compare a [op, op'] [b, c] pos) (fun ρ => M.bind (chainF sem sem' fa fb fc ρ) fun x => lft (blD x)) := by
  obtain ⟨t, p, k⟩ := se_chainG (P := fun t => PT X (.Compare a [op, op'] [b, c] pos) (tTest t)) ho ho' ha hb hc fun r r' ta tb tc o o' pa pb pc => pt_chain o o' pa pb pc hm
  exact st_test p k
end
end DS

set_option Elab.async false
set_option linter.all false
set_option maxRecDepth 100000
set_option maxHeartbeats 4000000
/-! DS, part 3: displays, ==, places, slices, fields, calls -/
namespace DS
open PySem L2
theorem eval_meth {o : Expr} {m : Str} {apos pos : Pos} {es : List Expr} {env : PySem.Env} (hp : (apos.endLine == pos.line) = true) (hs : (backTo pos (starEach es env)).all (!·.1) = true) (hl : es.length < 30) :
    eval (.Call (.Attribute o m apos) es [] pos) env = (do
      let ov ← attributeBase o m env (eval o env)
      standAt apos.atName
      let (f, first) ← holding [ov] (getMethod ov m (do return (← importBound o env).getD true))
      callWith pos f first (backTo pos (starEach es env)) (backToKw pos (keywordEach [] env))) := by
  have hf : methodCallForm (es.length + ([] : List Keyword).length) (backTo pos (starEach es env)) (backToKw pos (keywordEach [] env)) = true := by
    unfold methodCallForm
    rw [hs]
    simp [keywordEach, backToKw, hl]
  rw [show eval (.Call (.Attribute o m apos) es [] pos) env = (do
      let ov ← attributeBase o m env (eval o env)
      standAt apos.atName
      methodCall o m apos pos env ov (es.length + ([] : List Keyword).length) (backTo pos (starEach es env)) (backToKw pos (keywordEach [] env))) from rfl]
  unfold methodCall
  rw [hf]
  simp only [calleeOf, methodCallPos, hp, if_true, Bool.not_true, Bool.false_or, pure_bind]
section
variable {C : Cfg} {X : Cx} {W : WX} {e a b : Expr} {es : List Expr} {pos : Pos} {rel : Hp → Hp → V → D → Prop} {f fa fb : Env → M D}

/-! ### argument lists -/
theorem sa_nil : SA C X W [] (fun _ => M.ret []) := ⟨tNil, pa_nil, fun σ F H ρ g Q s hw => Want.ret (g := g) hw s.st .nil⟩
theorem sa_cons {fs : Env → M (List D)} (ha : SE C X W a fa) (hr : SA C X W es fs) (hs : starEach (a :: es) X.env = (false, eval a X.env) :: starEach es X.env) :
    SA C X W (a :: es) (fun ρ => M.bind (fa ρ) fun x => M.bind (fs ρ) fun r => M.ret (x :: r)) := by
  obtain ⟨ta, pa, ka⟩ := ha
  obtain ⟨tb, pb, kb⟩ := hr
  refine ⟨_, pa_cons pa pb hs, fun σ F H ρ g Q s hw => ka σ F H ρ g _ s (hw.bind.mono ?_)⟩
  rintro x H1 ⟨F1, g1, dx, x1, t1, r1, w1⟩
  refine kb σ F1 H1 ρ g1 _ (s.ext x1 t1) (w1.bind.mono ?_)
  rintro y H2 ⟨F2, g2, dy, x2, t2, r2, w2⟩
  exact Want.ret (g := g2) w2 t2 (.cons (r1.mono x2.sub) r2)
theorem sar_nil : SAr C X W [] (fun _ => M.ret []) := ⟨tNil, pa_nil, fun σ F H ρ g Q s hw => Want.ret (g := g) hw s.st .nil⟩
theorem sar_cons {fs : Env → M (List D)} (ha : SR C X W a fa) (hr : SAr C X W es fs) (hs : starEach (a :: es) X.env = (false, eval a X.env) :: starEach es X.env) :
    SAr C X W (a :: es) (fun ρ => M.bind (fa ρ) fun x => M.bind (fs ρ) fun r => M.ret (x :: r)) := by
  obtain ⟨ta, pa, ka⟩ := ha
  obtain ⟨tb, pb, kb⟩ := hr
  refine ⟨_, pa_cons pa pb hs, fun σ F H ρ g Q s hw => ka σ F H ρ g _ s (hw.bind.mono ?_)⟩
  rintro x H1 ⟨F1, g1, dx, x1, t1, r1, w1⟩
  refine kb σ F1 H1 ρ g1 _ (s.ext x1 t1) (w1.bind.mono ?_)
  rintro y H2 ⟨F2, g2, dy, x2, t2, r2, w2⟩
  exact Want.ret (g := g2) w2 t2 (.cons (r1.ext x2) r2)
theorem se_tup {k : Nat} {fs : Env → M (List D)} (h : SA C X W es fs) : SE C X W (.Tuple es k pos) (fun ρ => M.bind (fs ρ) fun r => lft (if r.length ≤ sizeLine then some (.tup r) else none)) := by
  obtain ⟨ta, pa, ka⟩ := h
  refine ⟨_, pe_tup pa, fun σ F H ρ g Q s hw => ka σ F H ρ g _ s (hw.bind.mono ?_)⟩
  rintro x H1 ⟨F1, g1, dx, x1, t1, r1, w1⟩
  by_cases c : dx.length ≤ sizeLine
  · rw [if_pos c] at w1
    refine ⟨by rw [r1.length]; exact c, fun p np => ?_⟩
    obtain ⟨x2, t2⟩ := Ext.lay t1 np (.tup x)
    exact w1 _ _ _ x2 t2 (.tup (.inl (.inl upd_same)) (r1.mono x2.sub))
  · rw [if_neg c] at w1; exact w1.elim
theorem se_lst {fs : Env → M (List D)} (h : SA C X W es fs) : SE C X W (.List es pos) (fun ρ => M.bind (fs ρ) fun r => lft (if r.length ≤ sizeLine then some (.lst r) else none)) := by
  obtain ⟨ta, pa, ka⟩ := h
  refine ⟨_, pe_lst pa, fun σ F H ρ g Q s hw => ka σ F H ρ g _ s (hw.bind.mono ?_)⟩
  rintro x H1 ⟨F1, g1, dx, x1, t1, r1, w1⟩
  by_cases c : dx.length ≤ sizeLine
  · rw [if_pos c] at w1
    refine ⟨by rw [r1.length]; exact c, fun p np => ?_⟩
    obtain ⟨x2, t2⟩ := Ext.lay t1 np (.lst x)
    exact w1 _ _ _ x2 t2 (.lst upd_same (r1.mono x2.sub))
  · rw [if_neg c] at w1; exact w1.elim

/-! ### == and != -/
mutual
def toPy : D → Option PyData
  | .non => some .none
  | .bl b => some (.bool b)
  | .int i => some (.int i)
  | .str x => some (.str x)
  | .tup ds => (toPyL ds).map .tuple
  | .lst ds => (toPyL ds).map .list
  | _ => none
def toPyL : List D → Option (List PyData)
  | [] => some []
  | d :: ds => match toPy d, toPyL ds with
    | some p, some ps => some (p :: ps)
    | _, _ => none
end
mutual
theorem Dv.dp {F H : Hp} (s : Sub F H) : ∀ {v : V} {d : D} {p : PyData}, Dv C F v d → toPy d = some p → Dp C.K H v p
  | _, _, _, .non, e => by cases e; exact .non
  | _, _, _, .bl b, e => by cases e; exact .bl b
  | _, _, _, .int i, e => by cases e; exact .int i
  | _, _, _, .str x, e => by cases e; exact .str x
  | _, .tup ds, p, .tup h l, e => by
    rw [toPy] at e
    cases q : toPyL ds with
    | none => rw [q] at e; cases e
    | some ps => rw [q] at e; cases e; exact .tup (s.sqt h) (DvL.dp s l q)
  | _, .lst ds, p, .lst h l, e => by
    rw [toPy] at e
    cases q : toPyL ds with
    | none => rw [q] at e; cases e
    | some ps => rw [q] at e; cases e; exact .lst (.inl (.inl (s _ _ h))) (DvL.dp s l q)
  | _, _, _, .ins h l, e => by cases e
  | _, _, _, .fn i, e => by cases e
  | _, _, _, .cls i, e => by cases e
  | _, _, _, .ty i, e => by cases e
  | _, _, _, .row, e => by cases e
  | _, _, _, .scr, e => by cases e
theorem DvL.dp {F H : Hp} (s : Sub F H) : ∀ {vs : List V} {ds : List D} {ps : List PyData}, DvL C F vs ds → toPyL ds = some ps → DpAll C.K H vs ps
  | _, _, _, .nil, e => by cases e; exact .nil
  | _, d :: ds, ps, .cons h t, e => by
    rw [toPyL] at e
    cases q1 : toPy d with
    | none => rw [q1] at e; cases e
    | some p =>
      cases q2 : toPyL ds with
      | none => rw [q1, q2] at e; cases e
      | some ps' => rw [q1, q2] at e; cases e; exact .cons (Dv.dp s h q1) (DvL.dp s t q2)
end
theorem Dr.dp {F H : Hp} {v : V} {d : D} {p : PyData} (s : Sub F H) (h : Dr C F H v d) (e : toPy d = some p) : Dp C.K H v p := by
  rcases h with h | ⟨a, vs, ds, h1, h2, h3, h4, h5⟩ | ⟨a, dx, fs, c, ds, h1, h2, h3, h4, h5⟩
  · exact h.dp s e
  · subst h1; subst h2
    rw [toPy] at e
    cases q : toPyL ds with
    | none => rw [q] at e; cases e
    | some ps => rw [q] at e; cases e; exact .lst (.inl (.inl h3)) (DvL.dp s h5 q)
  · subst h2; cases e
def eqS (n : Bool) (a b : D) : Option D := match toPy a, toPy b with
  | some p, some q => if SeqAt.shaped p = true ∧ SeqAt.shaped q = true then some (.bl (xor n (PyData.eqv p q))) else none
  | _, _ => none
theorem opD_eq (hK : X.K = C.K) (hu : X.A.units + 64 < cLine) : OpD C X (compareOp .Eq) (eqS false) := by
  refine ⟨_, op_eqD hu, fun F H g x y dx dy W σ Q st rx ry hw => ?_⟩
  unfold eqS at hw
  cases e1 : toPy dx with
  | none => rw [e1] at hw; exact hw.elim
  | some p =>
    cases e2 : toPy dy with
    | none => rw [e1, e2] at hw; exact hw.elim
    | some q =>
      rw [e1, e2] at hw
      by_cases c : SeqAt.shaped p = true ∧ SeqAt.shaped q = true
      · simp only [c, and_self, if_true, Bool.false_xor] at hw
        refine ⟨p, q, by rw [hK]; exact rx.dp st.sub e1, by rw [hK]; exact ry.dp st.sub e2, c.1, c.2, Want.ret (g := g) hw st (.bl _)⟩
      · simp only [c, if_false] at hw; exact hw.elim
theorem opD_ne (hK : X.K = C.K) (hu : X.A.units + 64 < cLine) : OpD C X (compareOp .NotEq) (eqS true) := by
  refine ⟨_, op_neD hu, fun F H g x y dx dy W σ Q st rx ry hw => ?_⟩
  unfold eqS at hw
  cases e1 : toPy dx with
  | none => rw [e1] at hw; exact hw.elim
  | some p =>
    cases e2 : toPy dy with
    | none => rw [e1, e2] at hw; exact hw.elim
    | some q =>
      rw [e1, e2] at hw
      by_cases c : SeqAt.shaped p = true ∧ SeqAt.shaped q = true
      · simp only [c, and_self, if_true, Bool.true_xor] at hw
        refine ⟨p, q, by rw [hK]; exact rx.dp st.sub e1, by rw [hK]; exact ry.dp st.sub e2, c.1, c.2, Want.ret (g := g) hw st (.bl _)⟩
      · simp only [c, if_false] at hw; exact hw.elim

/-! ### places -/
/-- what `o[i]` gives -/
def ixS (scr : List Int) : D → D → M D
  | .tup ds, .int i => lft (atI ds i)
  | .lst ds, .int i => lft (atI ds i)
  | .str z, .int i => lft (if z.length ≤ sizeLine then (atI z.cps.toList i).map fun c => .str ⟨#[c]⟩ else none)
  | .scr, .int i => lft ((atI scr i).map .int)
  | .row, .int i => fun g => if i = 0 then .ok .scr g else if i = 1 then .ok (.int g.i) g else if i = 2 then .ok (.int g.m) g else if i = 3 then .ok (.int g.r) g else .stuck
  | _, _ => fun _ => .stuck
theorem atI_dv {F : Hp} {vs : List V} {ds : List D} {i : Int} {d : D} (l : DvL C F vs ds) (h : atI ds i = some d) : ∃ v, atI vs i = some v ∧ Dv C F v d := by
  unfold atI at h ⊢
  rw [l.length]
  cases q : ixN ds.length i with
  | none => rw [q] at h; cases h
  | some j => rw [q] at h; exact l.get h
theorem Dr.row_inv {F H : Hp} {v : V} (h : Dr C F H v .row) : v = .ref C.R := by
  rcases h with h | ⟨_, _, _, _, h, _⟩ | ⟨_, _, _, _, _, _, h, _⟩
  · cases h; rfl
  · cases h
  · cases h
theorem Dr.scr_inv {F H : Hp} {v : V} (h : Dr C F H v .scr) : v = .ref C.S := by
  rcases h with h | ⟨_, _, _, _, h, _⟩ | ⟨_, _, _, _, _, _, h, _⟩
  · cases h; rfl
  · cases h
  · cases h
theorem ix_ok (hK : X.K = C.K) {F H : Hp} {g : G} {x y : V} {dx dy : D} {W : WX} {σ : St} {Q : VK} (st : St0 C F H g) (rx : Dr C F H x dx) (ry : Dr C F H y dy) (hw : Want C W σ F H (relD C) (ixS C.scr dx dy g) Q) : rIx X.K x y H Q := by
  cases dy with
  | int i =>
    cases ry.int_inv
    cases dx with
    | tup ds =>
      obtain ⟨a, vs, rfl, ha, la⟩ := rx.tup_inv st.sub
      unfold ixS at hw; dsimp only at hw
      cases q : atI ds i with
      | none => rw [q] at hw; exact hw.elim
      | some d =>
        rw [q] at hw
        obtain ⟨v, e, r⟩ := atI_dv la q
        exact .inr (.inl ⟨a, vs, i, v, rfl, rfl, by rw [hK]; exact st.sub.sqt ha, e, Want.ret (g := g) hw st r⟩)
    | lst ds =>
      obtain ⟨a, vs, rfl, ha, la⟩ := rx.lst_inv st.sub
      unfold ixS at hw; dsimp only at hw
      cases q : atI ds i with
      | none => rw [q] at hw; exact hw.elim
      | some d =>
        rw [q] at hw
        obtain ⟨v, e, r⟩ := atI_dv la q
        exact .inl ⟨a, vs, i, v, rfl, rfl, .inl (.inl ha), e, Want.ret (g := g) hw st r⟩
    | str z =>
      cases rx.str_inv
      unfold ixS at hw; dsimp only at hw
      by_cases c : z.length ≤ sizeLine
      · simp only [c, if_true] at hw
        cases q : atI z.cps.toList i with
        | none => rw [q] at hw; exact hw.elim
        | some d =>
          rw [q] at hw
          exact .inr (.inr ⟨z, i, d, rfl, rfl, c, q, Want.ret (g := g) hw st (.str _)⟩)
      · simp only [c, if_false] at hw; exact hw.elim
    | scr =>
      cases rx.scr_inv
      unfold ixS at hw; dsimp only at hw
      cases q : atI C.scr i with
      | none => rw [q] at hw; exact hw.elim
      | some d =>
        rw [q] at hw
        refine .inl ⟨C.S, _, i, .int d, rfl, rfl, by rw [hK]; exact st.sub.sql st.scr, ?_, Want.ret (g := g) hw st (.int _)⟩
        unfold atI at q ⊢
        rw [List.length_map]
        cases q2 : ixN C.scr.length i with
        | none => rw [q2] at q; cases q
        | some j =>
          rw [q2] at q
          have q' : C.scr[j]? = some d := q
          show (C.scr.map V.int)[j]? = some (V.int d)
          rw [List.getElem?_map, q']
          rfl
    | row =>
      cases rx.row_inv
      unfold ixS at hw; dsimp only at hw
      by_cases c0 : i = 0
      · simp only [c0, if_true] at hw
        refine .inl ⟨C.R, _, i, _, rfl, rfl, .inl (.inl st.rowH), by rw [c0]; rfl, Want.ret (g := g) hw st .scr⟩
      · by_cases c1 : i = 1
        · simp only [c0, c1, if_true, if_false] at hw
          refine .inl ⟨C.R, _, i, _, rfl, rfl, .inl (.inl st.rowH), by rw [c1]; rfl, Want.ret (g := g) hw st (.int _)⟩
        · by_cases c2 : i = 2
          · subst c2
            refine .inl ⟨C.R, _, 2, _, rfl, rfl, .inl (.inl st.rowH), by rfl, Want.ret (g := g) hw st (.int _)⟩
          · by_cases c3 : i = 3
            · subst c3
              refine .inl ⟨C.R, _, 3, _, rfl, rfl, .inl (.inl st.rowH), by rfl, Want.ret (g := g) hw st (.int _)⟩
            · simp only [c0, c1, c2, c3, if_false] at hw
              exact hw.elim
    | _ => exact hw.elim
  | _ => cases dx <;> exact hw.elim
theorem se_ix (hK : X.K = C.K) (ha : SR C X W a fa) (hb : SR C X W b fb) (hs : PlainIx b) :
    SE C X W (.Subscript a b pos) (fun ρ => M.bind (fa ρ) fun x => M.bind (fb ρ) fun y => ixS C.scr x y) := by
  obtain ⟨ta, pa, ka⟩ := ha
  obtain ⟨tb, pb, kb⟩ := hb
  refine ⟨_, pe_ix ix_seq pa pb hs, fun σ F H ρ g Q s hw => ka σ F H ρ g _ s (hw.bind.mono ?_)⟩
  rintro x H1 ⟨F1, g1, dx, x1, t1, r1, w1⟩
  refine kb σ F1 H1 ρ g1 _ (s.ext x1 t1) (w1.bind.mono ?_)
  rintro y H2 ⟨F2, g2, dy, x2, t2, r2, w2⟩
  exact ix_ok hK t2 (r1.ext x2) r2 w2

/-! ### slices -/
def SO (C : Cfg) (X : Cx) (W : WX) (e : Option Expr) (f : Env → M (Option Int)) : Prop :=
  ∃ t, PO X e t ∧ ∀ σ F H ρ g Q, SRe C σ F H ρ g → Want C W σ F H (fun _ _ (a b : Option Int) => a = b) (f ρ g) Q → t σ H Q
theorem so_none : SO C X W none (fun _ => M.ret none) := ⟨tNoPart, po_none, fun σ F H ρ g Q s hw => Want.ret (g := g) hw s.st rfl⟩
theorem so_some (ha : SR C X W a fa) : SO C X W (some a) (fun ρ => M.bind (fa ρ) fun x => lft (match x with | .int i => some (some i) | _ => none)) := by
  obtain ⟨ta, pa, ka⟩ := ha
  refine ⟨_, po_some pa, fun σ F H ρ g Q s hw => ka σ F H ρ g _ s (hw.bind.mono ?_)⟩
  rintro x H1 ⟨F1, g1, dx, x1, t1, r1, w1⟩
  cases dx with
  | int i => cases r1.int_inv; exact ⟨i, rfl, Want.ret (g := g1) w1 t1 rfl⟩
  | _ => exact w1.elim
def cutD (xs : List D) (lo hi : Option Int) : List D := (xs.drop (HT.sIx xs.length 0 lo)).take (HT.sIx xs.length xs.length hi - HT.sIx xs.length 0 lo)
def slS (x : D) (lo hi : Option Int) : Option D := match x with
  | .lst ds => some (.lst (cutD ds lo hi))
  | .tup ds => some (.tup (cutD ds lo hi))
  | .str z => if z.length ≤ sizeLine then some (.str (Txt.slice z lo hi)) else none
  | _ => none
theorem DvL.cut {F : Hp} {vs : List V} {ds : List D} (l : DvL C F vs ds) (lo hi : Option Int) : DvL C F (cutV vs lo hi) (cutD ds lo hi) := by
  unfold cutV cutD
  rw [l.length]
  exact (l.drop _).take _
theorem cut_whole (xs : List D) (lo hi : Option Int) (h : HT.sIx xs.length 0 lo = 0 ∧ HT.sIx xs.length xs.length hi = xs.length) : cutD xs lo hi = xs := by
  unfold cutD
  rw [h.1, h.2]
  simp
theorem se_slice {lo hi : Option Expr} {p2 : Pos} {fl fh : Env → M (Option Int)} (hK : X.K = C.K) (ha : SR C X W a fa) (hl : SO C X W lo fl) (hh : SO C X W hi fh) :
    SE C X W (.Subscript a (.Slice lo hi none p2) pos) (fun ρ => M.bind (fa ρ) fun x => M.bind (fl ρ) fun l => M.bind (fh ρ) fun h => lft (slS x l h)) := by
  obtain ⟨ta, pa, ka⟩ := ha
  obtain ⟨tl, pl, kl⟩ := hl
  obtain ⟨th, ph, kh⟩ := hh
  refine ⟨_, pe_slice (sl_list.or (sl_tupA.or C8.sl_txt)) pa pl ph, fun σ F H ρ g Q s hw => ka σ F H ρ g _ s (hw.bind.mono ?_)⟩
  rintro x H1 ⟨F1, g1, dx, x1, t1, r1, w1⟩
  have s1 := s.ext x1 t1
  refine kl σ F1 H1 ρ g1 _ s1 (w1.bind.mono ?_)
  rintro l H2 ⟨F2, g2, dl, x2, t2, r2, w2⟩
  subst r2
  refine kh σ F2 H2 ρ g2 _ (s1.ext x2 t2) (w2.bind.mono ?_)
  rintro h H3 ⟨F3, g3, dh, x3, t3, r3, w3⟩
  subst r3
  have rx := (r1.ext x2).ext x3
  cases dx with
  | lst ds =>
    obtain ⟨a, vs, rfl, ha, la⟩ := rx.lst_inv t3.sub
    refine .inl ⟨a, vs, rfl, .inl (.inl ha), fun p np => ?_⟩
    obtain ⟨x4, t4⟩ := Ext.lay t3 np (.lst (cutV vs l h))
    exact w3 _ _ _ x4 t4 (.lst upd_same ((la.cut l h).mono x4.sub))
  | tup ds =>
    obtain ⟨a, vs, rfl, ha, la⟩ := rx.tup_inv t3.sub
    refine .inr (.inl ⟨a, vs, rfl, by rw [hK]; exact t3.sub.sqt ha, fun c => ?_, fun c p np => ?_⟩)
    · rw [la.length] at c
      have w4 : Want C W σ F3 H3 (relD C) (lft (some (D.tup (cutD ds l h))) g3) Q := w3
      rw [cut_whole ds l h c] at w4
      exact Want.ret (g := g3) w4 t3 (.tup ha la)
    · obtain ⟨x4, t4⟩ := Ext.lay t3 np (.tup (cutV vs l h))
      exact w3 _ _ _ x4 t4 (.tup (.inl (.inl upd_same)) ((la.cut l h).mono x4.sub))
  | str z =>
    cases rx.str_inv
    unfold slS at w3; dsimp only at w3
    by_cases c : z.length ≤ sizeLine
    · simp only [c, if_true] at w3
      exact .inr (.inr ⟨z, rfl, c, Want.ret (g := g3) w3 t3 (.str _)⟩)
    · simp only [c, if_false] at w3; exact w3.elim
  | _ => exact w3.elim

/-! ### fields -/
/-- what type() and isinstance ask of an own class -/
structure OwnTy (K : PySem.W.Frag) (Ca : Addr) : Prop where
  cls : Cls K Ca
  ha : PySem.W.findIn K (.ref Ca) "__class__" = some (some (.builtin "object.__class__"))
  hn : PySem.W.specialIn K (.builtin "object.__class__") "__get__" = some (some (.builtin "getset_descriptor.__get__"))
  htk : PySem.W.takesIn K (.builtin "object.__class__") = some true
  hm : PySem.W.mroIn K Ca (.type "object") = some true
/-- what is known of the classes -/
structure Fx (C : Cfg) : Prop where
  cls : ∀ c f, f ∈ C.flds c → Cls C.K (C.cad c) ∧ NoAttr C.K (C.cad c) f
  mt : ∀ c m i, C.mts c m = some i → Cls C.K (C.cad c) ∧ Meth C.K (C.cad c) m (C.fad i)
  mkr : ∀ c i, C.ini c = some i → Mk C.K (C.cad c) (C.fad i)
  own : ∀ c, C.kit (.c c) c = some true → OwnTy C.K (C.cad c)
  kit : ∀ t c k, C.kit t c = some k → PySem.W.kitOne C.K (t.val C.cad) (.ref (C.cad c)) = some k
  eqo : ∀ c j, C.mts c "__eq__" = some j → PySem.W.findIn C.K (.ref (C.cad c)) "__ne__" = some (some (.builtin "object.__ne__")) ∧ PySem.W.mroIn C.K (C.cad c) (.type "object") = some true
def fldS (C : Cfg) (f : Str) : D → Option D
  | .ins c ds => if f ∈ C.flds c then ds.lookup f else none
  | _ => none
theorem se_fld (hK : X.K = C.K) (T : Fx C) {f : Str} (ha : SR C X W a fa) (hb : attributeBase a f X.env (eval a X.env) = eval a X.env) :
    SE C X W (.Attribute a f pos) (fun ρ => M.bind (fa ρ) fun x => lft (fldS C f x)) := by
  obtain ⟨ta, pa, ka⟩ := ha
  refine ⟨_, pe_fld pa hb, fun σ F H ρ g Q s hw => ka σ F H ρ g _ s (hw.bind.mono ?_)⟩
  rintro x H1 ⟨F1, g1, dx, x1, t1, r1, w1⟩
  cases dx with
  | ins c ds =>
    obtain ⟨a, dx, vs, rfl, ha, la⟩ := r1.ins_inv t1.sub
    unfold fldS at w1; dsimp only at w1
    by_cases m : f ∈ C.flds c
    · simp only [m, if_true] at w1
      cases q : ds.lookup f with
      | none => rw [q] at w1; exact w1.elim
      | some d =>
        rw [q] at w1
        obtain ⟨v, e, r⟩ := la.look q
        obtain ⟨t2, t3⟩ := T.cls c f m
        exact ⟨a, _, dx, vs, v, rfl, ha, by rw [hK]; exact t2, by rw [hK]; exact t3, e, Want.ret (g := g1) w1 t1 r⟩
    · simp only [m, if_false] at w1; exact w1.elim
  | _ => exact w1.elim
end
end DS

set_option Elab.async false
set_option linter.all false
set_option maxRecDepth 100000
set_option maxHeartbeats 4000000
/-! DS, errors: class E(Base): def __init__(self, f): super().__init__(f); self.f = f  -- made, its own dict told -/
namespace PySem
namespace ErX
open PySem.W PySem.Calls PyProof.Rows PySem.HandSPX
def eA (fl : Str) (p1 p2 : Pos) : Arguments := { posonlyargs := [], args := [{ arg := "self", annotation := none, pos := p1 }, { arg := fl, annotation := none, pos := p2 }], vararg := none, kwonlyargs := [], kw_defaults := [], kwarg := none, defaults := [] }
def eB (fl : Str) (p1 p2 p3 p4 p5 p6 p7 p8 p9 p10 : Pos) : List Stmt :=
  [.Expr (.Call (.Attribute (.Call (.Name "super" p1) [] [] p2) "__init__" p3) [.Name fl p4] [] p5) p6, .Assign [.Attribute (.Name "self" p7) fl p8] (.Name fl p9) p10]
def eS (fl : Str) : Scope := { kind := .function, names := [(PySem.Str.ofString "self", .local), (fl, .local), (PySem.Str.ofString "__class__", .free), (PySem.Str.ofString "super", .globalImplicit)], isGenerator := false, isCoroutine := false, more := [] }
structure ErrTxt (P : Program) (K : Frag) (mg : Str → Option Value) (cn fl : Str) (C fI : Addr) : Prop where
  gC : mg cn = some (.ref C)
  cls : ∃ nm q N bs bm sn sub ab col dd k0 k1 k2 k3 k5, K.lookup C = some (excClassObj nm q C N bs bm true sn sub ab col dd k0 k1 k2 k3 k5 "ValueError.__new__") ∧ refsVE bm = true
  sa : findIn K (.ref C) "__setattr__" = some (some (.builtin "object.__setattr__"))
  ga : findIn K (.ref C) "__getattribute__" = some (some (.builtin "BaseException.__getattribute__"))
  gg : findIn K (.ref C) "__getattr__" = some none
  noN : findIn K (.ref C) fl = some none
  iC : findIn K (.ref C) "__init__" = some (some (.ref fI))
  tC : typeIn K (.ref fI) = some (.type "function")
  kC : keepIn K (.ref C) = true
  exC : subIn K (.ref C) (.type "BaseException") = some true
  tyC : typeIn K (.ref C) = some (.type "type")
  hdC : hasDictIn K C = true
  veC : subIn K (.ref C) (.type "ValueError") = some true
  me : mroIn K C (.ref C) = some true
  al : ks_superIn K C C "__init__" = some (some (.builtin "ValueError.__init__"))
  op : nsIn K cStatics "thirdparty.any" = some none
  sup : nsIn K mainGlobals "super" = some none
  top : (P.main.scope.names.lookup ("super" : Str)).isSome = false
  fn : ∃ (qual : Str) (oc : Value) (od : Option Addr) (doc pm : Value) (an : Option Addr) (cda cc : Addr) (ct : Value) (osl : Array (Option Value)) (r1 r2 p1 p2 p3 p4 p5 p6 p7 p8 p9 p10 : Pos),
    K.lookup fI = some ⟨oc, od, .func (ksFn "__init__" qual (eA fl r1 r2) (eB fl p1 p2 p3 p4 p5 p6 p7 p8 p9 p10) (eS fl) .none .none doc pm an (.ref cda) ct cc), osl⟩ ∧ codeIn K (.ref cda) qual = true ∧
    (∃ ccl cdd vs ccs file tf, K.lookup cda = some ⟨ccl, cdd, .fields vs, ccs⟩ ∧ vs[2]? = some (.str file tf) ∧ ((P.main.file : Str) == file) = true) ∧
    (p3.endLine == p5.line) = true ∧ (∃ cl cld csl, K.lookup cc = some ⟨cl, cld, .cell (some (.ref C)), csl⟩) ∧
    (∀ a b : Value, bindArgs (ksFn "__init__" qual (eA fl r1 r2) (eB fl p1 p2 p3 p4 p5 p6 p7 p8 p9 p10) (eS fl) .none .none doc pm an (.ref cda) ct cc) ⟨[a, b], []⟩ = pure ([(("self" : Str), a), (fl, b)] : List (Str × Value)))
  l1 : (eS fl).names.lookup fl = some .local
  l2 : (fl == ("__debug__" : Str)) = false
  l4 : (fl == ("self" : Str)) = false
  l5 : (eS fl).names.lookup ("__class__" : Str) = some .free
  l6 : (eS fl).names.lookup ("super" : Str) = some .globalImplicit
/-- what stands behind the module's entry, for «super» -/
structure SupOk (base : Heap) (mg : Str → Option Value) : Prop where
  g : base.Ns mainGlobals mg
  b : ∃ mb, base.Ns builtinsNs mb ∧ ∀ x : Str, x ≠ "__name__" → mb x = bootBuiltins x
/-- what __init__ leaves of a fresh error at x -/
structure InitEnd (h h' : Heap) (x C dx t1 : Addr) (fl : Str) (v : Value) : Prop where
  keep : ∀ b o, b ≠ x → h.get? b = some o → h'.get? b = some o
  obj : h'.get? x = some { cls := .ref C, dict := some dx, data := .fields #[.ref t1, .none, .none, .none, .bool false, .none] }
  dbig : h.objs.size ≤ dx
  dne : dx ≠ x
  ns : h'.Ns1 dx (fun y => if y = fl then some v else none)
theorem one_size (v : Value) : [v].length ≤ sizeLine := by
  rw [sizeLine_eq]
  exact (by decide : 1 ≤ 16777216)
section
variable {prog : Program} {w : World} {A : Around} {E : Value → Shared → Prop} {R : Result → Shared → Prop} {s : Shared} {K : Frag} {mg : Str → Option Value} {C fI : Addr} {cn fl : Str}
theorem er_init (T : ErrTxt prog K mg cn fl C fI) {x t0 : Addr} {v : Value} (X : K.In s.heap) (SO : SupOk s.heap mg) (hlim : s.heap.NoLimit) (hx : s.heap.get? x = some (excO C t0)) (hnx : K.lookup x = none) (hroom : A.depth < recursionLimit)
    (hq : ∀ h' tk dx t1, InitEnd s.heap h' x C dx t1 fl v → R (.ok (.ret .none)) { s with heap := h', toks := tk }) :
    codeAny (model prog w) A (.call (.ref fI) ⟨[.ref x, v], []⟩) R s := by
  obtain ⟨qual, oc, od, doc, pm, an, cda, cc, ct, osl, r1, r2, p1, p2, p3, p4, p5, p6, p7, p8, p9, p10, ho, hcd, ⟨ccl, cdd, vs, ccs, file, tf, hcode, hvs, hfile⟩, hpos, ⟨cl, cld, csl, hcell⟩, hbd⟩ := T.fn
  obtain ⟨nm, q, N, bs, bm, sn, sub, ab, col, dd, k0, k1, k2, k3, k5, hC, hbm⟩ := T.cls
  have hcl : clsIn K C = some { name := nm, bases := bs, mro := .ref C :: bm, ns := N, qualname := q, hasDict := true, slotNames := sn, subclasses := sub, abstract := ab, collection := col, hasDel := false } := by unfold clsIn; rw [hC] <;> rfl
  have bnd : BindsTo s (ksFn "__init__" qual (eA fl r1 r2) (eB fl p1 p2 p3 p4 p5 p6 p7 p8 p9 p10) (eS fl) .none .none doc pm an (.ref cda) ct cc) ⟨[.ref x, v], []⟩ [("self", .ref x), (fl, v)] := BindsTo.of_eq (hbd _ _)
  have ls : (([("self", Value.ref x), (fl, v)] : List (Str × Value)).reverse.lookup ("self" : Str)) = some (.ref x) := by
    show List.lookup ("self" : Str) [(fl, v), ("self", Value.ref x)] = _
    have q : (("self" : Str) == fl) = false := by
      rw [Bool.eq_false_iff]
      intro z
      have z' := eq_of_beq z
      have := T.l4
      rw [← z'] at this
      simp at this
    rw [List.lookup_cons, q]
    rfl
  have lv : (([("self", Value.ref x), (fl, v)] : List (Str × Value)).reverse.lookup fl) = some v := by
    show List.lookup fl [(fl, v), ("self", Value.ref x)] = _
    rw [List.lookup_cons]
    simp
  refine ks_codeAny_call_defAt (body := eB fl p1 p2 p3 p4 p5 p6 p7 p8 p9 p10) (binds := [("self", .ref x), (fl, v)]) hroom (X _ _ ho) rfl hlim (codeRec_of X hcd) rfl bnd (fun y hy => ?_) (fun y hy => ?_) (fun h₁ hns k => ?_)
  · rcases List.mem_cons.mp hy with rfl | hy
    · intro z; cases z
    · rcases List.mem_cons.mp hy with rfl | hy
      · intro z; cases z
      · rcases List.mem_cons.mp hy with rfl | hy
        · intro z; cases z
        · rcases List.mem_cons.mp hy with rfl | hy
          · intro z; cases z
          · cases hy
  · rcases List.mem_cons.mp hy with rfl | hy
    · rfl
    · rcases List.mem_cons.mp hy with rfl | hy
      · exact T.l1
      · cases hy
  · have hxL : s.heap.objs.size ≠ x := Nat.ne_of_gt (Heap.lt_size hx)
    have X₁ : K.In h₁ := X.keeps k
    have hx₁ := k _ _ hx
    have I₁ : InstAt h₁ x (excO C t0) C none := ⟨hx₁, rfl, rfl, trivial⟩
    have hD1 : h₁.get? C = some _ := X₁ _ _ hC
    have xC : x ≠ C := ks_ne X₁ I₁ hcl
    -- super().__init__(v)
    refine ks_wpAt_execs_cons (ks_wpAt_Expr_any (ks_wpAt_MethodCall (he := DS.eval_meth hpos rfl (by show 1 < 30; decide)) ?_))
    refine ks_wpAt_super_base (of := ⟨oc, od, .func (ksFn "__init__" qual (eA fl r1 r2) (eB fl p1 p2 p3 p4 p5 p6 p7 p8 p9 p10) (eS fl) .none .none doc pm an (.ref cda) ct cc), osl⟩) T.l6 T.l5 (by decide) rfl (X₁ _ _ ho) rfl (ar := { arg := "self", annotation := none, pos := r1 }) rfl rfl (X₁ _ _ hcode) rfl hvs hfile T.top ?_
    obtain ⟨mb, hb1, hb2⟩ := SO.b
    refine ks_loadName_global rfl T.l6 (loadGlobal_builtin (SO.g.keeps k) (mg_none_of X SO.g T.sup) (hb1.keeps k) ((hb2 _ (by decide +kernel)).trans (by decide +kernel)) ⟨rfl, ?_⟩)
    refine wpAny_loadName_free rfl T.l5 rfl ⟨_, X₁ _ _ hcell, rfl⟩ ?_
    refine wpAny_loadName_local rfl rfl hns ls ?_
    refine ks_wpAny_isType_cls hD1 rfl ⟨rfl, ?_⟩
    refine ks_wpAny_call_super hD1 rfl hx₁ rfl (fun c e => by cases e) (looks_mroIn X₁ T.me) (fun h₂ e2 k2 => ?_)
    have X₂ : K.In h₂ := X₁.keeps k2
    have hx₂ := k2 _ _ hx₁
    have I₂ : InstAt h₂ x (excO C t0) C none := ⟨hx₂, rfl, rfl, trivial⟩
    have hin : Looks (model prog w) h₂ (isInstance (.ref x) (.type "ValueError")) true := I₂.type.andThen (looks_subIn X₂ T.veC)
    have hmr : Looks (model prog w) h₂ (mroOf (.ref C)) (.ref C :: bm) := (looks_clsIn X₂ hcl).andThen .now
    have hal : alongIn K "__init__" bm = some (some (.builtin "ValueError.__init__")) := by
      have z := T.al
      unfold ks_superIn at z
      rw [hcl] at z
      have z' : alongIn K "__init__" (((Value.ref C :: bm).dropWhile (· != .ref C)).drop 1) = some (some (.builtin "ValueError.__init__")) := z
      rw [ESX.drop_own] at z'
      exact z'
    refine kxs_getMethod kxs_ValueError e2 (looks_opaque X₂ T.op) hmr (ESX.drop_own C bm) X₂ hal hin xC (by decide) ?_
    have k3 : ∀ b o, h₂.get? b = some o → (h₂.push (kxs_mw "ValueError.__init__" x)).get? b = some o := fun b o e => Heap.get?_push_of_some _ e
    have hu : (h₂.push (kxs_mw "ValueError.__init__" x)).get? h₂.objs.size = some (kxs_mw "ValueError.__init__" x) := Heap.get?_push_size _ rfl
    have hns3 : (h₂.push (kxs_mw "ValueError.__init__" x)).Ns s.heap.objs.size _ := (hns.keeps k2).keeps k3
    show wpAny _ _ (callWith _ (.ref h₂.objs.size) [] (backTo _ (starEach [.Name fl p4] _)) []) _ _ _
    rw [show starEach [Expr.Name fl p4] (callEnv (ksFn "__init__" qual (eA fl r1 r2) (eB fl p1 p2 p3 p4 p5 p6 p7 p8 p9 p10) (eS fl) .none .none doc pm an (.ref cda) ct cc) s.heap.objs.size fI) = (false, eval (.Name fl p4) (callEnv (ksFn "__init__" qual (eA fl r1 r2) (eB fl p1 p2 p3 p4 p5 p6 p7 p8 p9 p10) (eS fl) .none .none doc pm an (.ref cda) ct cc) s.heap.objs.size fI)) :: starEach [] _ from rfl]
    refine kxs_callWith (i := "ValueError.__init__") (x := x) rfl (evalArgs_plain ?_)
    refine Calls.spliced_cons (wpAny_Name (wpAny_loadName_local rfl T.l1 hns3 lv ?_) T.l2)
    refine Calls.spliced_nil ⟨hu, ?_⟩
    -- the wrapper's call: the args are laid anew
    have hx3 := k3 _ _ hx₂
    have hC3 := k3 _ _ (k2 _ _ hD1)
    refine wpAny_call (codeAny_of_tree ?_)
    show wpAny _ (A.deeper _).in1 (callAny (.ref h₂.objs.size) ⟨[v], []⟩) _ _ _
    simp only [callAny]
    refine wpAny_bind (wpAny_load hu ?_)
    simp only [kxs_mw, show (Value.type "method-wrapper" == Value.type "method" || Value.type "method-wrapper" == Value.type "builtin_function_or_method" || Value.type "method-wrapper" == Value.type "method-wrapper") = true by decide, if_true]
    refine KFB.if_so (by decide) ?_
    refine wpAny_bind (check_bound_init PySem.F.excBase_ValueError.toExcCallFacts hC3 hx3 rfl ?_)
    refine wpAny_bind (wpAny_pure (wpAny_pure ?_))
    refine ⟨plainId_quiet PySem.F.excBase_ValueError.init.plain _, codeAny_builtin PySem.F.excBase_ValueError.initEntry ?_⟩
    refine exc_init_tree (cls := .ref C) (t0 := t0) (dv := none) (c2 := .none) (c3 := .none) (b4 := .bool false) hx3 (one_size v) (fun h₄ k4 e4 t4 => ?_)
    have kx : ∀ b o, b ≠ x → s.heap.get? b = some o → h₄.get? b = some o := fun b o hb e => k4 b o hb (k3 b o (k2 b o (k b o e)))
    have X₄ : K.In h₄ := fun b o e => kx b o (fun z => by rw [z, hnx] at e; cases e) (X _ _ e)
    have hns4 : h₄.Ns s.heap.objs.size (fun y => ([("self", Value.ref x), (fl, v)] : List (Str × Value)).reverse.lookup y) := by
      obtain ⟨oL, es, ep, hL, r⟩ := hns3
      exact ⟨oL, es, ep, k4 _ _ hxL hL, r⟩
    -- self.f = v
    refine wpAt_of_wpAny ?_
    refine wpAny_execs_cons (plainObj_wpAny_Assign_Attribute ?_)
    refine wpAny_Name (wpAny_loadName_local rfl T.l1 hns4 lv ?_) T.l2
    refine wpAny_Name (wpAny_loadName_local rfl rfl hns4 ls ?_) (by decide)
    refine set_plain X₄ (ox := excO C (h₂.push (kxs_mw "ValueError.__init__" x)).objs.size) (od := none) ⟨e4, rfl, rfl, trivial⟩ T.sa ?_
    refine exc_osa X₄ e4 hcl (show refsVE (.ref C :: bm) = true from hbm) rfl T.noN (fun h₅ tk₅ dx k₅ dn dne hx₅ hn₅ => ?_)
    show wpAny _ _ (execs _ _) _ _ _
    have sz : s.heap.objs.size ≤ h₄.objs.size := by
      obtain ⟨oL, es, ep, hL, r⟩ := hns4
      exact Nat.le_of_lt (Heap.lt_size hL)
    exact wpAny_execs_nil (hq h₅ tk₅ dx _ ⟨fun b o hb e => k₅ b o hb (kx b o hb e), hx₅, Nat.le_trans sz dn, dne, hn₅⟩)
/-- a made error -/
structure OwnMade (h h' : Heap) (e C d : Addr) (fl : Str) (v : Value) : Prop where
  keep : ∀ b o, h.get? b = some o → h'.get? b = some o
  new : h.objs.size ≤ e
  obj : ∃ oe vs, h'.get? e = some oe ∧ oe.cls = .ref C ∧ oe.dict = some d ∧ oe.data = .fields vs ∧ vs[1]? = some .none
  dbig : h.objs.size ≤ d
  dne : d ≠ e
  ns : h'.Ns1 d (fun y => if y = fl then some v else none)
theorem er_made (T : ErrTxt prog K mg cn fl C fI) {v : Value} (X : K.In s.heap) (SO : SupOk s.heap mg) (hlim : s.heap.NoLimit) (hroom : A.depth + 1 < recursionLimit)
    (hq : ∀ h' tk e d, OwnMade s.heap h' e C d fl v → R (.ok (.ret (.ref e))) { s with heap := h', toks := tk }) :
    codeAny (model prog w) A (.call (.ref C) ⟨[v], []⟩) R s := by
  obtain ⟨nm, q, N, bs, bm, sn, sub, ab, col, dd, k0, k1, k2, k3, k5, hC, hbm⟩ := T.cls
  obtain ⟨hp, g, dr, tk, os⟩ := s
  have k : ∀ b o, hp.get? b = some o → ((hp.push (kdv_tup [v])).push (excO C hp.objs.size)).get? b = some o := fun b o e => Heap.get?_push_of_some _ (Heap.get?_push_of_some _ e)
  have hget : ((hp.push (kdv_tup [v])).push (excO C hp.objs.size)).get? (hp.objs.size + 1) = some (excO C hp.objs.size) := by heap_get
  have hnx : K.lookup (hp.objs.size + 1) = none := by
    cases e : K.lookup (hp.objs.size + 1) with
    | none => rfl
    | some o =>
      have z : hp.get? (hp.objs.size + 1) = some o := X _ _ e
      exact absurd (Nat.lt_of_succ_lt (Heap.lt_size z)) (Nat.lt_irrefl _)
  refine call_own PySem.F.excBase_ValueError (fun X => refsVE_contains X bm hbm) (X _ _ hC) (looks_findIn X T.iC) (fun self => bind_fn X self T.tC) (one_size v) ?_
  refine er_init (s := ⟨(hp.push (kdv_tup [v])).push (excO C hp.objs.size), g, dr, tk, os⟩) T (X.keeps k) ⟨SO.g.keeps k, let ⟨mb, h1, h2⟩ := SO.b; ⟨mb, h1.keeps k, h2⟩⟩ (hlim.keeps k) hget hnx ?_ fun h' tk' dx t1 ⟨k', hx, dn, dne, hns⟩ => ?_
  · show A.depth + 1 < recursionLimit
    exact hroom
  · have old : ∀ b o, hp.get? b = some o → h'.get? b = some o := fun b o e => k' b o (Nat.ne_of_lt (Nat.lt_succ_of_lt (Heap.lt_size e))) (k b o e)
    have z : hp.objs.size + 1 + 1 ≤ dx := by
      first
        | (simpa only [Heap.size_push] using dn)
        | exact dn
        | (have q := dn; rw [Heap.size_push, Heap.size_push] at q; exact q)
    exact ⟨rfl, hq h' tk' (hp.objs.size + 1) dx ⟨old, Nat.le_succ _, ⟨_, _, hx, rfl, rfl, rfl, rfl⟩, Nat.le_trans (Nat.le_trans (Nat.le_succ _) (Nat.le_succ _)) z, dne, hns⟩⟩
end
end ErX
end PySem
namespace L2
open PySem PySem.Spec PyProof.Rows
theorem relO_er {v : V} {v' : Value} (r : RelV v v') (fl f : Str) : RelO (List.lookup f [(fl, v)]) (if f = fl then some v' else none) := by
  by_cases hw : f = fl
  · subst hw
    rw [if_pos rfl]
    have q : List.lookup f [(f, v)] = some v := by simp [List.lookup]
    rw [q]
    exact r
  · rw [if_neg hw]
    have qw : (f == fl) = false := by simpa using hw
    have q2 : List.lookup f [(fl, v)] = none := by simp [List.lookup, qw]
    rw [q2]
    trivial
section
variable {X : Cx} {C fI : Addr} {cn fl : Str}
/-- E(e) -/
def tMkE (fl : Str) (C : Addr) (ta : TA) : St → Hp → XK → Prop := fun σ H Q => ta σ H fun vs H1 => ∃ v, vs = [v] ∧ ∀ d, H1 d = none → Q (.ref C) (some d) (upd H1 d (.xd [(fl, v)]))
theorem pmk_err {a : Expr} {ta : TA} {p pos : Pos} {k : Nat} (T : PySem.ErX.ErrTxt X.prog X.K X.mg cn fl C fI) (hr : Room k X.A) (ha : PA X [a] ta) (hg : Gl X cn)
    (he : starEach (a :: []) X.env = (false, eval a X.env) :: starEach [] X.env) (hdb : (cn == ("__debug__" : Str)) = false) (hpl : (backTo pos (starEach [] X.env)).any (·.1) = false := by rfl) :
    PMk X (.Call (.Name cn p) [a] [] pos) (tMkE fl C ta) := by
  intro pins s σ H Q I h
  refine wpAny_Call_Name_kw (ld_glob I hg T.gC ?_ hdb)
  refine PySem.W.callWith_K (h₀ := X.base) I.ok.mod.kin T.kC (thn (ha.run pos pins s σ H _ I h) fun us s1 hh => ?_) he hpl
  obtain ⟨vs, H1, I1, r1, v, ev, q1⟩ := hh
  subst ev
  refine ⟨I1.kIn, ?_⟩
  cases r1 with
  | cons rv rn =>
    rename_i v' us'
    cases rn
    show wpAny _ _ (call (.ref C) [v']) _ _ _
    have hlim := I1.nolimit
    have SO : PySem.ErX.SupOk s1.heap X.mg := ⟨I1.mod.glob.keeps I1.bk, let ⟨mb, h1, h2⟩ := I1.mod.blt; ⟨mb, h1.keeps I1.bk, h2⟩⟩
    obtain ⟨hp, g, dr, tk, os⟩ := s1
    refine wpAny_call (PySem.ErX.er_made T I1.kIn SO hlim (by have := hr.dp; omega) fun h' tk' e d M => ?_)
    show MkP X pins σ Q (.ref e) ⟨h', g, dr, tk', os⟩
    obtain ⟨oe, fv, hoe, hc, hd, hdat, h1⟩ := M.obj
    have hns := M.ns
    obtain ⟨G', g1, g2⟩ := restrict h' fun b => decide (b ≠ e)
    have gk : ∀ b, b ≠ e → G'.get? b = h'.get? b := fun b hb => g1 b (decide_eq_true hb)
    have ge : G'.get? e = none := g2 e (by simp)
    have old : ∀ b o, hp.get? b = some o → G'.get? b = some o := fun b o q => (gk b (Nat.ne_of_lt (Nat.lt_of_lt_of_le (Heap.lt_size q) M.new))).trans (M.keep b o q)
    have ob : ObjOk X.prog X.w (upd H1 d (.xd [(fl, v)])) G' d (.xd [(fl, v)]) :=
      ⟨_, hns.at (fun o q => (gk d M.dne).trans q), fun f => relO_er rv fl f⟩
    have J : Inv X pins σ (upd H1 d (.xd [(fl, v)])) ⟨G', g, dr, tk', os⟩ := I1.laid (t' := tk') old M.dbig ob
    refine ⟨e, oe, fv, ⟨G', g, dr, tk', os⟩, _, .ref C, some d, rfl, J, fun b o q => ?_, ge, hoe, ⟨hc, hd⟩, hdat, h1, ?_, rfl, I1.bare, raises_own T.exC T.tyC, q1 d (I1.hok.fresh M.dbig)⟩
    · by_cases hb : b = e
      · have q' : G'.get? b = some o := q
        rw [hb, ge] at q'; cases q'
      · exact (gk b hb).symm.trans q
    · rw [upd_ne (Ne.symm M.dne)]
      exact I1.hok.fresh M.new
end
end L2

set_option Elab.async false
set_option linter.all false
set_option maxRecDepth 100000
set_option maxHeartbeats 4000000
/-! DS: defs where nothing is being shown (no repr is under way): what repr of nested data asks -/
namespace L2
open PySem PySem.Spec PyProof.Rows
structure RoomG (k : Nat) (A : Around) : Prop where
  rm : Room k A
  gd : A.guards = some []
theorem RoomG.mono {j k : Nat} {A : Around} (r : RoomG k A) (h : j ≤ k) : RoomG j A := ⟨r.rm.mono h, r.gd⟩
theorem RoomG.deeper {k : Nat} {A : Around} (r : RoomG (k + 1) A) (env : Env) : RoomG k (A.deeper env) := ⟨r.rm.deeper env, r.gd⟩
theorem make_guards {A : Around} {C : Addr} {us : List Value} {kw : List (Str × Value)} : (A.under (.builtin "type.__call__" ⟨.ref C :: us, kw⟩)).guards = A.guards := by
  first | rfl | (cases A with | mk h d fr gs u => cases gs <;> simp [Around.under, pushGuards, Code.guards, Code.isGuard, guardIds])
theorem RoomG.make {k : Nat} {A : Around} (r : RoomG (k + 1) A) (C : Addr) (us : List Value) (kw : List (Str × Value)) : RoomG k (A.under (.builtin "type.__call__" ⟨.ref C :: us, kw⟩)) :=
  ⟨r.rm.make C us kw, by rw [make_guards]; exact r.gd⟩
/-- a def keeps its promise wherever no repr is under way -/
structure FnG (P : Program) (w : World) (K : PySem.W.Frag) (mg : Str → Option Value) (base : Heap) (k : Nat) (f : Addr) (fd : FuncData) (ps : List Str) (sp : Sp) : Prop where
  len : ∀ vs H Q E, sp vs H Q E → vs.length = ps.length
  go : ∀ (B : Around) (up : List Env) (s : Shared) (H : Hp) (ar : Args) (us : List Value) (vs : List V) (Q : VK) (E : XK), RoomG k B → Env0 P w K mg base B up s H → BindsTo s fd ar (ps.zip us) → Vals vs us → sp vs H Q E →
    codeAny (model P w) B (.call (.ref f) ar) (CR (L2.CX P w) up P w H s Q E) s
section
variable {P : Program} {w : World} {K : PySem.W.Frag} {mg : Str → Option Value} {base : Heap}
theorem FnG.mono {j k : Nat} {f : Addr} {fd : FuncData} {ps : List Str} {sp : Sp} (F : FnG P w K mg base j f fd ps sp) (h : j ≤ k) : FnG P w K mg base k f fd ps sp :=
  ⟨F.len, fun B up s H ar us vs Q E r => F.go B up s H ar us vs Q E (r.mono h)⟩
theorem FnG.imp {k : Nat} {f : Addr} {fd : FuncData} {ps : List Str} {sp sp' : Sp} (F : FnG P w K mg base k f fd ps sp) (h : ∀ vs H Q E, sp' vs H Q E → sp vs H Q E) : FnG P w K mg base k f fd ps sp' :=
  ⟨fun vs H Q E q => F.len vs H Q E (h _ _ _ _ q), fun B up s H ar us vs Q E r e b rv q => F.go B up s H ar us vs Q E r e b rv (h _ _ _ _ q)⟩
/-- from the body -/
theorem Fun.okG {x qual : Str} {st : Stmt} {f : Addr} {fd : FuncData} {N ps : List Str} {k : Nat} {sp : Sp} (F : Fun K x qual st f fd) (S : FnScope N ps (defScope st)) (len : ∀ vs H Q E, sp vs H Q E → vs.length = ps.length)
    (body : ∀ (cv : Value) (B : Around) (up : List Env) (s : Shared) (H : Hp) (vs : List V) (Q : VK) (E : XK), RoomG k (B.deeper (envOfC qual (defScope st) s.heap.objs.size f cv)) → sp vs H Q E →
      ∃ t, PSs (cxOf (L2.CX P w) P w K mg base N qual (defScope st) f cv B up s H E) (defBody st) t ∧ t { nx := fun _ H' => Q .non H', rt := Q } (start N vs) H) : FnG P w K mg base (k + 1) f fd ps sp := by
  obtain ⟨oc, od, kV, doc, pm, an, cv, ct, osl, rfl, lk, hc⟩ := F.ex
  refine ⟨len, fun B up s H ar us vs Q E room e0 bd rv q0 => ?_⟩
  have nlen := len _ _ _ _ q0
  have kIn : K.In s.heap := e0.mod.kin.keeps fun a o h => (e0.bs a o h).1
  refine codeAny_call_function room.rm.depth (kIn _ _ lk) rfl S.co S.gen rfl (PySem.W.codeRec_of kIn hc) (bd _ _ _ _ ?_)
  refine wpAny_newFunctionEnv_cells S.kind (fun y hy => ?_) fun env he s1 ic => ?_
  · rcases S.par y.1 (List.of_mem_zip (show (y.1, y.2) ∈ ps.zip us from hy)).1 with z | z
    · exact Or.inl z
    · exact Or.inr ⟨z, PySem.W.cellsFrom_some _ _ _ (Or.inl z)⟩
  · subst he
    refine ⟨PySem.Heap.NoLimit.keeps (e0.mod.nolimit.keeps fun a o h => (e0.bs a o h).1) ic.toInCall.keep, codeAny_func ?_⟩
    obtain ⟨t, pt, qt⟩ := body cv B up s H vs Q E (room.deeper _) q0
    have J0 : Inv (cxOf (L2.CX P w) P w K mg base N qual (defScope st) f cv B up s H E) [] (start N vs) H s1 := inv_start S room.rm.hd e0 nlen rv ic
    refine wpAny_mono (pt.run [] s1 (start N vs) H _ J0 qt) (fun fl s' hs => ?_) fun _ _ z => z
    match fl, hs with
    | .ret u, ⟨v, σ', H', J, ru, q⟩ => exact ⟨v, H', J.os, J.bare, J.base, J.hok, ru, q⟩
    | .next, ⟨σ', H', J, q⟩ => exact ⟨V.non, H', J.os, J.bare, J.base, J.hok, (rfl : RelV V.non Value.none), q⟩
    | .brk, ⟨_, _, _, q⟩ => exact q.elim
    | .cont, ⟨_, _, _, q⟩ => exact q.elim
end
section
variable {X : Cx} {k : Nat} {f C : Addr} {fd : FuncData} {ps : List Str} {sp : Sp} {E : L2.St → XK} {x m : Str} {p pos apos : Pos} {e o : Expr} {es : List Expr} {ta : TE} {t : TA}
theorem run_G {pins : List (Addr × Obj)} {σ : L2.St} {H : Hp} {s : Shared} {Q : VK} {us : List Value} {vs : List V} (F : FnG X.prog X.w X.K X.mg X.base k f fd ps sp) (hr : RoomG k X.A) (hb : Binds X.K fd ps []) (hx : PassesAt (L2.CX X.prog X.w) X σ (E σ))
    (I : Inv X pins σ H s) (r : Vals vs us) (h : sp vs H Q (E σ)) : wpAny (model X.prog X.w) X.A (call (.ref f) us) (EP X pins σ Q) X.xe s := by
  have nlen : (us ++ []).length = ps.length := by rw [List.append_nil, ← r.length]; exact F.len _ _ _ _ h
  have bd := hb s us I.kIn nlen
  rw [List.append_nil] at bd
  refine wpAny_call (codeAny_mono (F.go X.A X.stack s H ⟨us, []⟩ us vs Q (E σ) hr I.env0 bd r h) fun res s' hq => ?_)
  match res, hq with
  | .error e, hq => exact hx pins H s e s' I hq
  | .ok (.ret u), hq => exact I.after hq
  | .ok .next, hq => exact hq.elim
  | .ok .brk, hq => exact hq.elim
  | .ok .cont, hq => exact hq.elim
theorem pe_callG (F : FnG X.prog X.w X.K X.mg X.base k f fd ps sp) (hr : RoomG k X.A) (hg : Gl X x) (hm : X.mg x = some (.ref f)) (hk : PySem.W.keepIn X.K (.ref f) = true) (hb : Binds X.K fd ps []) (hx : ∀ σ, PassesAt (L2.CX X.prog X.w) X σ (E σ))
    (ha : PA X (e :: es) t) (hdb : (x == ("__debug__" : Str)) = false) (he : starEach (e :: es) X.env = (false, eval e X.env) :: starEach es X.env) (hpl : (backTo pos (starEach es X.env)).any (·.1) = false) :
    PE X (.Call (.Name x p) (e :: es) [] pos) (fun σ H Q => t σ H fun vs H1 => sp vs H1 Q (E σ)) := by
  refine ⟨fun pins s σ H Q I h => ?_⟩
  refine wpAny_Call_Name_kw (ld_glob I hg hm (PySem.W.callWith_K (h₀ := X.base) I.ok.mod.kin hk (thn (ha.run pos pins s σ H _ I h) fun us s1 ⟨vs, H1, I1, r, q⟩ => ⟨I1.kIn, ?_⟩) he hpl) hdb)
  exact run_G F hr hb (hx σ) I1 r q
end
/-- the law, called by whoever asks it -/
theorem law_G {P : Program} {w : World} {K : PySem.W.Frag} {mg mb : Str → Option Value} {k : Nat} {fa a : Addr} {fd : FuncData} {x : Str} {sp : Sp} {sh : Shared} {vs : List Value} {ns : List Int}
    (kx : K.In sh.heap) (nsM : sh.heap.Ns mainGlobals mg) (nsB : sh.heap.Ns builtinsNs mb) (hbb : ∀ x : Str, x ≠ "__name__" → mb x = bootBuiltins x) (lim : sh.heap.NoLimit) (hgn : sh.gens = #[])
    (ha : sh.heap.get? a = some { cls := .type "list", data := .seq vs.toArray }) (hi : IntsAre vs ns) (hl : ns.length ≤ sizeLine) (hr : Room k callerA)
    (F : ∀ base : Heap, K.In base → base.Ns mainGlobals mg → FnG P w K mg base k fa fd [x] sp) (hbind : ∀ (s : Shared) (u : Value), BindsTo s fd ⟨[u], []⟩ [(x, u)])
    (hsp : ∀ H : Hp, Only H → SqL K H a (ns.map V.int) → sp [.ref a] H (fun v _ => v = .bl true) fun _ _ _ => False) :
    codeAny (model P w) callerA (.call (.ref fa) ⟨[.ref a], []⟩) (fun r s' => r = .ok (.ret (.bool true)) ∧ OldK sh.heap s'.heap ∧ s'.os = sh.os ∧ AllBare s'.gens) sh := by
  -- H tracks nothing, or the script
  have mid : ∀ T : Hp, Only T → SqL K T a (ns.map V.int) → HOk P w T sh.heap → (∀ b, T b ≠ none → b = a) → (T a ≠ none → K.lookup a = none) →
      codeAny (model P w) callerA (.call (.ref fa) ⟨[.ref a], []⟩) (fun r s' => r = .ok (.ret (.bool true)) ∧ OldK sh.heap s'.heap ∧ s'.os = sh.os ∧ AllBare s'.gens) sh := by
    intro T only sq hok tA tK
    have un : ∀ {b : Addr} {o : Obj}, sh.heap.get? b = some o → T b = none → (hidT sh.heap T).get? b = some o := fun e n => hidT_get e n
    have nsOf : ∀ {b : Addr} {m : Str → Option Value}, sh.heap.Ns b m → (hidT sh.heap T).Ns b m := fun {b m} ⟨o, es, ep, e, d, r⟩ => by
      refine ⟨o, es, ep, un e ?_, d, r⟩
      cases q : T b with
      | none => rfl
      | some u =>
        have z : b = a := tA b (by rw [q]; simp)
        subst z
        rw [ha] at e
        cases e
        exact nomatch (show Data.seq vs.toArray _ = Data.dict es ep from d)
    have kIn : K.In (hidT sh.heap T) := fun b o e => un (kx b o e) (by
      cases q : T b with
      | none => rfl
      | some u =>
        have z : b = a := tA b (by rw [q]; simp)
        subst z
        exact nomatch (tK (by rw [q]; simp)).symm.trans e)
    have e0 : Env0 P w K mg (hidT sh.heap T) callerA [] sh T :=
      ⟨rfl, ⟨kIn, nsOf nsM, ⟨mb, nsOf nsB, hbb⟩, let ⟨mc, h1, h2⟩ := lim; ⟨mc, nsOf h1, h2⟩⟩, fun b o e => of_hidT e, Nat.le_of_eq (hidT_size _ _), trivial, fun b z => absurd z (List.not_mem_nil (a := b)), hok, .of_eq hgn⟩
    refine codeAny_mono ((F _ kIn (nsOf nsM)).go callerA [] sh T ⟨[.ref a], []⟩ [.ref a] [.ref a] _ _ ⟨hr, rfl⟩ e0 (hbind sh (.ref a)) (.cons rfl .nil) (hsp T only sq)) fun res s' hq => ?_
    match res, hq with
    | .error e, hq =>
      obtain ⟨_, _, _, _, _, _, _, _, _, _, _, _, z⟩ := hq
      exact z.elim
    | .ok .next, hq => exact hq.elim
    | .ok .brk, hq => exact hq.elim
    | .ok .cont, hq => exact hq.elim
    | .ok (.ret u), ⟨v, H', os, bare, ub, hok', rv, (q : v = .bl true)⟩ =>
      subst q
      obtain rfl : u = Value.bool true := rv
      refine ⟨rfl, OldK.of_keep fun b o e => ?_, os, bare⟩
      cases q : T b with
      | none => exact ub.keep b o e q (List.not_mem_nil (a := b)) (List.not_mem_nil (a := b))
      | some u =>
        rcases only b with z | ⟨ob, xs, z⟩
        · exact nomatch q.symm.trans z
        · obtain ⟨e1, _⟩ := hok b _ z
          obtain ⟨e2, _⟩ := hok' b _ (ub.frzs b ob _ z)
          exact (Option.some.inj (e1.symm.trans e)) ▸ e2
  have rv := vals_ints hi
  cases hk : K.lookup a with
  | some o =>
    have e := kx a o hk
    rw [ha] at e
    cases e
    exact mid (fun _ => none) (fun _ => Or.inl rfl) (Or.inr ⟨_, vs.toArray, _, hk, rfl, rfl, rfl, by rw [List.size_toArray, hi.length]; exact hl, by simpa using rv⟩) (fun b u z => nomatch (show (none : Option HO) = some u from z)) (fun b z => absurd rfl z) fun z => absurd rfl z
  | none =>
    have at_ : ∀ {b : Addr} {u : HO}, (if b = a then some (HO.frz { cls := .type "list", data := .seq vs.toArray } (.lst (ns.map V.int))) else none) = some u → b = a ∧ u = HO.frz { cls := .type "list", data := .seq vs.toArray } (.lst (ns.map V.int)) := fun {b u} z => by
      by_cases hb : b = a
      · rw [if_pos hb] at z; exact ⟨hb, (Option.some.inj z).symm⟩
      · rw [if_neg hb] at z; cases z
    refine mid (fun b => if b = a then some (.frz { cls := .type "list", data := .seq vs.toArray } (.lst (ns.map V.int))) else none) (fun b => ?_) (Or.inl (Or.inr ⟨{ cls := .type "list", data := .seq vs.toArray }, if_pos rfl⟩)) (fun b u z => ?_) (fun b z => ?_) fun _ => hk
    · cases q : (if b = a then some (HO.frz { cls := .type "list", data := .seq vs.toArray } (.lst (ns.map V.int))) else none) with
      | none => exact Or.inl q
      | some u => obtain ⟨h1, h2⟩ := at_ q; exact Or.inr ⟨_, _, q.trans (congrArg some h2)⟩
    · obtain ⟨h1, h2⟩ := at_ z
      subst h1; subst h2
      exact ⟨ha, by rw [List.length_map]; exact hl, vs, _, rv, ha⟩
    · cases q : (if b = a then some (HO.frz { cls := .type "list", data := .seq vs.toArray } (.lst (ns.map V.int))) else none) with
      | none => exact absurd q z
      | some u => exact (at_ q).1
theorem walk_G {l : PySem.W.OpenLaw} {n k : Nat} {q : Program} {loose : List Str} {XP : (Str → Option Value) → Heap → Prop} {YP : World → Heap → Prop} {d : DefRec} {K : Params → PySem.W.Frag} {sp : World → Sp} {x : Str}
    (hn : l.most = some n) (hn2 : n ≤ sizeLine) (hdf : d.params.defaults = []) (hr : Room k callerA) (hY : ∀ (w : World) (h : Heap), YP w h → (K w.params).In h)
    (F : ∀ (w : World) (mg : Str → Option Value) (fa : Addr) (h : Heap), (K w.params).In h → h.Ns mainGlobals mg → mg d.name = some (.ref fa) →
      ∃ fd : FuncData, (∀ (s : Shared) (u : Value), BindsTo s fd ⟨[u], []⟩ [(x, u)]) ∧ ∀ base : Heap, (K w.params).In base → base.Ns mainGlobals mg → FnG l.prog w (K w.params) mg base k fa fd [x] (sp w))
    (hsp : ∀ (w : World) (H : Hp) (a : Addr) (ns : List Int), ns.length ≤ n → (∀ z ∈ ns, Builtin.Int.intBits z ≤ 1048576) → Only H → SqL (K w.params) H a (ns.map V.int) → sp w [.ref a] H (fun v _ => v = .bl true) fun _ _ _ => False) :
    PySem.W.WalkO q loose XP YP l.row.toRowW d [] (fun f vs => PySem.call f vs) := by
  refine Att.attach_callB hn hdf fun w s₀ sh mg mb fa o pm cd doc a vs ns G Y ho hd hcd hmg hobj hints hlen hbits hg => ?_
  obtain ⟨fd, hb, hF⟩ := F w mg fa _ (hY w _ Y) G.T.g hmg
  exact law_G (hY w _ Y) G.T.g G.T.b G.T.builtins G.T.nolimit hg hobj hints (Nat.le_trans hlen hn2) hr hF hb fun H hO hS => hsp w H a ns hlen hbits hO hS
end L2

set_option Elab.async false
set_option linter.all false
set_option maxRecDepth 100000
set_option maxHeartbeats 4000000
/-! DS, part 4: calls of defs, methods, classes -/
namespace L2
open PySem PySem.Spec PyProof.Rows
section
variable {X : Cx} {k : Nat} {f C : Addr} {fd : FuncData} {ps : List Str} {sp : Sp} {E : L2.St → XK} {x m : Str} {p pos apos : Pos} {e o : Expr} {es : List Expr} {ta : TE} {t : TA}
def tMethSD (C : Addr) (m : Str) (sp : Sp) (E : L2.St → XK) (ta : TE) (t : TA) : TE := fun σ H Q => ta σ H fun x H1 => ∃ a dx fs, x = .ref a ∧ H1 a = some (.ins C dx fs) ∧ fs.lookup m = none ∧
  t σ H1 fun vs H2 => sp (x :: vs) H2 Q (E σ)
/-- of several classes: the object's own class tells the def -/
structure MtAt (X : Cx) (k : Nat) (m : Str) (C : Addr) (sp : Sp) : Prop where
  ex : ∃ (f : Addr) (fd : FuncData) (ps : List Str), Cls X.K C ∧ Meth X.K C m f ∧ FnG X.prog X.w X.K X.mg X.base k f fd ps sp ∧ Binds X.K fd ps []
def tMethA (m : Str) (S : Addr → Sp → Prop) (E : L2.St → XK) (ta : TE) (t : TA) : TE := fun σ H Q => ta σ H fun x H1 => ∃ a C dx fs sp, x = .ref a ∧ H1 a = some (.ins C dx fs) ∧ fs.lookup m = none ∧ S C sp ∧
  t σ H1 fun vs H2 => sp (x :: vs) H2 Q (E σ)
theorem pe_methA {S : Addr → Sp → Prop} {pl : Sem Bool} (he : PE X o ta) (hS : ∀ C sp, S C sp → MtAt X k m C sp) (hr : RoomG k X.A) (hx : ∀ σ, PassesAt (L2.CX X.prog X.w) X σ (E σ)) (ha : PA X (e :: es) t)
    (hst : starEach (e :: es) X.env = (false, eval e X.env) :: starEach es X.env) (hpl : (backTo pos (starEach es X.env)).any (·.1) = false)
    (ht : eval (.Call (.Attribute o m apos) (e :: es) [] pos) X.env = (do
      let ov ← eval o X.env
      standAt apos.atName
      let (f, first) ← holding [ov] (getMethod ov m pl)
      callWith pos f first (backTo pos (starEach (e :: es) X.env)) (backToKw pos (keywordEach [] X.env)))) :
    PE X (.Call (.Attribute o m apos) (e :: es) [] pos) (tMethA m S E ta t) := by
  refine ⟨fun pins s σ H Q I h => ?_⟩
  refine PySem.W.methodCall_KW (pl := pl) (thn (he.run pins s σ H _ I h) fun u s1 ⟨x, H1, I1, rx, a, C, dx, fs, sp, ex, ea, l, hs, q⟩ => ?_) ht
  subst ex
  obtain rfl : u = Value.ref a := rx
  obtain ⟨f, fd, ps, c, hm, F, hb⟩ := (hS C sp hs).ex
  refine getmeth_ok I1 ea c hm l ?_
  refine PySem.W.callWith_K (first := [.ref a]) (h₀ := X.base) I.ok.mod.kin hm.kp (thn (ha.run pos pins s1 σ H1 _ I1 q) fun us s2 ⟨vs, H2, I2, r, q2⟩ => ⟨I2.kIn, ?_⟩) hst hpl
  exact run_G (us := .ref a :: us) (vs := .ref a :: vs) F hr hb (hx σ) I2 (.cons rfl r) q2
theorem pe_methA0 {S : Addr → Sp → Prop} {pl : Sem Bool} (he : PE X o ta) (hS : ∀ C sp, S C sp → MtAt X k m C sp) (hr : RoomG k X.A) (hx : ∀ σ, PassesAt (L2.CX X.prog X.w) X σ (E σ))
    (ht : eval (.Call (.Attribute o m apos) [] [] pos) X.env = (do
      let ov ← eval o X.env
      standAt apos.atName
      let (f, first) ← holding [ov] (getMethod ov m pl)
      callWith pos f first (backTo pos (starEach [] X.env)) (backToKw pos (keywordEach [] X.env)))) :
    PE X (.Call (.Attribute o m apos) [] [] pos) (tMethA m S E ta tNil) := by
  refine ⟨fun pins s σ H Q I h => ?_⟩
  refine PySem.W.methodCall_KW (pl := pl) (thn (he.run pins s σ H _ I h) fun u s1 ⟨x, H1, I1, rx, a, C, dx, fs, sp, ex, ea, l, hs, q⟩ => ?_) ht
  subst ex
  obtain rfl : u = Value.ref a := rx
  obtain ⟨f, fd, ps, c, hm, F, hb⟩ := (hS C sp hs).ex
  refine getmeth_ok I1 ea c hm l ?_
  exact PySem.W.callWith_K0 (first := [.ref a]) I1.kIn hm.kp (run_G (us := [.ref a]) (vs := [.ref a]) F hr hb (hx σ) I1 (.cons rfl .nil) q)
def tMakeSD (C : Addr) (sp : Sp) (E : L2.St → XK) (t : TA) : TE := fun σ H Q => t σ H fun vs H1 => ∀ x dx, H1 x = none → H1 dx = none → dx ≠ x →
  sp (.ref x :: vs) (upd (upd H1 dx (.own x)) x (.ins C dx [])) (fun v H2 => v = .non ∧ Q (.ref x) H2) (E σ)
theorem run_makeSD {pins : List (Addr × Obj)} {σ : L2.St} {H : Hp} {s : Shared} {Q : VK} {us : List Value} {vs : List V} (M : Mk X.K C f) (F : FnG X.prog X.w X.K X.mg X.base k f fd ps sp) (hr : RoomG (k + 1) X.A) (hb : Binds X.K fd ps [])
    (hx : PassesAt (L2.CX X.prog X.w) X σ (E σ)) (I : Inv X pins σ H s) (r : Vals vs us)
    (h : ∀ x dx, H x = none → H dx = none → dx ≠ x → sp (.ref x :: vs) (upd (upd H dx (.own x)) x (.ins C dx [])) (fun v H2 => v = .non ∧ Q (.ref x) H2) (E σ)) :
    wpAny (model X.prog X.w) X.A (call (.ref C) us) (EP X pins σ Q) X.xe s := by
  have hq := h (s.heap.objs.size + 1) s.heap.objs.size (I.hok.fresh (Nat.le_succ _)) (I.hok.fresh (Nat.le_refl _)) (Nat.ne_of_lt (Nat.lt_succ_self _))
  have I2 := Inv.made (C := C) I
  have r2 : Vals (V.ref (s.heap.objs.size + 1) :: vs) (Value.ref (s.heap.objs.size + 1) :: us) := .cons rfl r
  have hl : (Value.ref (s.heap.objs.size + 1) :: us ++ []).length = ps.length := by
    have e := r2.length
    rw [F.len _ _ _ _ hq] at e
    rw [List.append_nil]
    exact e.symm
  have b := hb _ (Value.ref (s.heap.objs.size + 1) :: us) I2.kIn hl
  rw [List.append_nil] at b
  refine wpAny_call (make_map (f := f) I.kIn M.makes M.init (beq_iff_eq.mp M.fn) (codeAny_mono (F.go _ X.stack _ _ ⟨Value.ref (s.heap.objs.size + 1) :: us, []⟩ (Value.ref (s.heap.objs.size + 1) :: us) _ _ (E σ) (hr.make C us [])
    (I2.env0.make C us []) b r2 hq) fun r s' hq' => ?_))
  cases r with
  | error e => exact hx pins _ _ e s' I2 hq'
  | ok fl =>
    cases fl with
    | ret u =>
      obtain ⟨v, H', I3, rv, ev, q3⟩ := I2.after hq'
      subst ev
      exact ⟨rv, ⟨V.ref (s.heap.objs.size + 1), H', I3, rfl, q3⟩⟩
    | next => exact False.elim hq'
    | brk => exact False.elim hq'
    | cont => exact False.elim hq'
theorem pe_makeSD (M : Mk X.K C f) (F : FnG X.prog X.w X.K X.mg X.base k f fd ps sp) (hr : RoomG (k + 1) X.A) (hg : Gl X x) (hm : X.mg x = some (.ref C)) (hb : Binds X.K fd ps []) (hx : ∀ σ, PassesAt (L2.CX X.prog X.w) X σ (E σ))
    (ha : PA X (e :: es) t) (hdb : (x == ("__debug__" : Str)) = false) (he : starEach (e :: es) X.env = (false, eval e X.env) :: starEach es X.env) (hpl : (backTo pos (starEach es X.env)).any (·.1) = false) :
    PE X (.Call (.Name x p) (e :: es) [] pos) (tMakeSD C sp E t) := by
  refine ⟨fun pins s σ H Q I h => ?_⟩
  refine wpAny_Call_Name_kw (ld_glob I hg hm ?_ hdb)
  refine PySem.W.callWith_K (h₀ := X.base) I.ok.mod.kin M.kp (thn (ha.run pos pins s σ H _ I h) fun us s1 ⟨vs, H1, I1, r, q⟩ => ⟨I1.kIn, ?_⟩) he hpl
  exact run_makeSD M F hr hb (hx σ) I1 r q
theorem pe_callSD0 (F : FnG X.prog X.w X.K X.mg X.base k f fd ps sp) (hr : RoomG k X.A) (hg : Gl X x) (hm : X.mg x = some (.ref f)) (hk : PySem.W.keepIn X.K (.ref f) = true) (hb : Binds X.K fd ps []) (hx : ∀ σ, PassesAt (L2.CX X.prog X.w) X σ (E σ))
    (hdb : (x == ("__debug__" : Str)) = false) : PE X (.Call (.Name x p) [] [] pos) (fun σ H Q => sp [] H Q (E σ)) := by
  refine ⟨fun pins s σ H Q I h => ?_⟩
  refine wpAny_Call_Name_kw (ld_glob I hg hm ?_ hdb)
  exact PySem.W.callWith_K0 I.kIn hk (run_G (us := []) F hr hb (hx σ) I .nil h)
/-- a local that holds a def -/
def tCallLA (i : Nat) (S : Addr → Sp → Prop) (E : L2.St → XK) (t : TA) : TE := fun σ H Q => ∃ f sp, σ[i]? = some (some (.ref f)) ∧ S f sp ∧ t σ H fun vs H1 => sp vs H1 Q (E σ)
structure FnAt (X : Cx) (k : Nat) (f : Addr) (sp : Sp) : Prop where
  ex : ∃ (fd : FuncData) (ps : List Str), FnG X.prog X.w X.K X.mg X.base k f fd ps sp ∧ PySem.W.keepIn X.K (.ref f) = true ∧ Binds X.K fd ps []
theorem pe_callLA {i : Nat} {S : Addr → Sp → Prop} (hS : ∀ f sp, S f sp → FnAt X k f sp) (hr : RoomG k X.A) (hN : X.N[i]? = some x) (hv : Vis X.env.scope x) (hx : ∀ σ, PassesAt (L2.CX X.prog X.w) X σ (E σ)) (ha : PA X (e :: es) t)
    (hdb : (x == ("__debug__" : Str)) = false) (hcd : (x == ("__classdict__" : Str)) = false)
    (he : starEach (e :: es) X.env = (false, eval e X.env) :: starEach es X.env) (hpl : (backTo pos (starEach es X.env)).any (·.1) = false) : PE X (.Call (.Name x p) (e :: es) [] pos) (tCallLA i S E t) := by
  refine ⟨fun pins s σ H Q I h => ?_⟩
  obtain ⟨f, sp, hs, hsp, ht⟩ := h
  obtain ⟨fd, ps, F, hk, hb⟩ := (hS f sp hsp).ex
  refine wpAny_Call_Name_kw (thn ((pe_var (pos := p) hN hv hdb hcd).run pins s σ H (fun v H1 => v = .ref f ∧ H1 = H) I ⟨.ref f, hs, rfl, rfl⟩) fun u s1 ⟨v, H1, I1, r1, q1⟩ => ?_)
  obtain ⟨rfl, rfl⟩ := q1
  cases r1
  refine PySem.W.callWith_K (h₀ := X.base) I.ok.mod.kin hk (thn (ha.run pos pins s1 σ _ _ I1 ht) fun us s2 ⟨vs, H2, I2, r, q⟩ => ⟨I2.kIn, ?_⟩) he hpl
  exact run_G F hr hb (hx σ) I2 r q
end
end L2
namespace DS
open PySem L2
/-- a def's promise by what it is worth: n parameters -/
def spF (C : Cfg) (n : Nat) (f : List D → M D) : Sp := fun vs H Q E => vs.length = n ∧ ∃ F ds g, St0 C F H g ∧ DvL C F vs ds ∧ Want C (fun c d _ H' => E c d H') [] F H (relD C) (f ds g) Q
def hide (x : Addr) (H : Hp) : Hp := fun a => if a = x then none else H a
theorem hide_ne {x a : Addr} {H : Hp} (h : a ≠ x) : hide x H a = H a := by unfold hide; rw [if_neg h]
theorem hide_same {x : Addr} {H : Hp} : hide x H x = none := by unfold hide; rw [if_pos rfl]
/-- __init__'s promise: of the new object, the fields that it is to have -/
def spI (C : Cfg) (n : Nat) (c : Nat) (f : List D → M (List (Str × D))) : Sp := fun vs H Q E => vs.length = n ∧ ∃ x dx ws F ds g, vs = .ref x :: ws ∧ H x = some (.ins (C.cad c) dx []) ∧ x ≠ C.R ∧ St0 C F (hide x H) g ∧ DvL C F ws ds ∧
  match f ds g with
  | .ok fs g' => ∀ F' H' dy vs', Ext C.R F (hide x H) F' H' → St0 C F' H' g' → H' x = some (.ins (C.cad c) dy vs') → F' x = none → DvF C F' vs' fs → Q .non H'
  | .err e fs g' => ∀ dd F' H', Ext C.R F (hide x H) F' H' → St0 C F' H' g' → XD C F' e fs dd → E (.ref (C.cad e)) (some dd) H'
  | .stuck => False
theorem Ext.shrink {R : Addr} {F H H1 F' H' : Hp} (x : Ext R F H F' H') (h : ∀ a o, H1 a = some o → H a = some o) : Ext R F H1 F' H' :=
  ⟨x.sub, fun a o n e => x.frm a o n (h a o e), fun a o e => by
    rcases x.new a o e with z | ⟨z, n⟩
    · exact .inl z
    · refine .inr ⟨?_, n⟩
      cases q : H1 a with
      | none => rfl
      | some u => rw [h a u q] at z; cases z⟩
section
variable {C : Cfg} {X : Cx} {W : WX} {k : Nat} {e a b : Expr} {es : List Expr} {pos p apos : Pos} {x m : Str} {fa : Env → M D} {fs : Env → M (List D)}
theorem want_E {σ : St} {F H : Hp} {r : Res D} {Q : VK} (h : Want C W σ F H (relD C) r Q) : Want C (fun c d _ H' => W c d σ H') [] F H (relD C) r Q := by
  cases r with
  | ok d g => exact h
  | err c fs g => exact h
  | stuck => exact h
/-- how a def is called by its name -/
structure FnOf (C : Cfg) (X : Cx) (k : Nat) (i n : Nat) (f : List D → M D) : Prop where
  ex : ∃ (fd : FuncData) (ps : List Str), FnG X.prog X.w X.K X.mg X.base k (C.fad i) fd ps (spF C n f) ∧ Binds X.K fd ps []
  kp : PySem.W.keepIn X.K (.ref (C.fad i)) = true
@[irreducible] def callN (n : Nat) (f : List D → M D) (ds : List D) : M D := if ds.length = n then f ds else fun _ => .stuck
theorem se_call {i n : Nat} {f : List D → M D} (Fn : FnOf C X k i n f) (hr : RoomG k X.A) (tk : Takes X W) (hg : Gl X x) (hm : X.mg x = some (.ref (C.fad i))) (ha : SA C X W (a :: es) fs)
    (hdb : (x == ("__debug__" : Str)) = false) (he : starEach (a :: es) X.env = (false, eval a X.env) :: starEach es X.env) (hpl : (backTo pos (starEach es X.env)).any (·.1) = false) :
    SE C X W (.Call (.Name x p) (a :: es) [] pos) (fun ρ => M.bind (fs ρ) fun ds => callN n f ds) := by
  obtain ⟨fd, ps, F, hb⟩ := Fn.ex
  obtain ⟨t, pa, ka⟩ := ha
  refine ⟨_, pe_callG (E := fun σ c d H => W c d σ H) F hr hg hm Fn.kp hb (fun σ => passAt tk σ) pa hdb he hpl, fun σ F H ρ g Q s hw => ka σ F H ρ g _ s (hw.bind.mono ?_)⟩
  rintro vs H1 ⟨F1, g1, ds, x1, t1, r1, w1⟩
  unfold callN at w1
  by_cases c : ds.length = n
  · rw [if_pos c] at w1
    exact ⟨by rw [r1.length]; exact c, F1, ds, g1, t1, r1, want_E w1⟩
  · rw [if_neg c] at w1; exact w1.elim
theorem se_call0 {i : Nat} {f : List D → M D} (Fn : FnOf C X k i 0 f) (hr : RoomG k X.A) (tk : Takes X W) (hg : Gl X x) (hm : X.mg x = some (.ref (C.fad i)))
    (hdb : (x == ("__debug__" : Str)) = false) : SE C X W (.Call (.Name x p) [] [] pos) (fun _ => f []) := by
  obtain ⟨fd, ps, F, hb⟩ := Fn.ex
  refine ⟨_, pe_callSD0 (E := fun σ c d H => W c d σ H) F hr hg hm Fn.kp hb (fun σ => passAt tk σ) hdb, fun σ F H ρ g Q s hw => ?_⟩
  exact ⟨rfl, F, [], g, s.st, .nil, want_E hw⟩
/-- a parameter that holds a def -/
def envF (ρ : Env) (i : Nat) : Option Nat := match ρ[i]? with
  | some (.v (.fn j)) => some j
  | _ => none
theorem se_callv {i : Nat} {call : Nat → List D → M D} {nps : Nat → Nat} (Fn : ∀ i, FnOf C X k i (nps i) (call i)) (hr : RoomG k X.A) (tk : Takes X W) (hN : X.N[i]? = some x) (hv : Vis X.env.scope x) (ha : SA C X W (a :: es) fs)
    (hdb : (x == ("__debug__" : Str)) = false) (hcd : (x == ("__classdict__" : Str)) = false) (he : starEach (a :: es) X.env = (false, eval a X.env) :: starEach es X.env) (hpl : (backTo pos (starEach es X.env)).any (·.1) = false) :
    SE C X W (.Call (.Name x p) (a :: es) [] pos) (fun ρ => M.bind (lft (envF ρ i)) fun j => M.bind (fs ρ) fun ds => callN (nps j) (call j) ds) := by
  obtain ⟨t, pa, ka⟩ := ha
  refine ⟨_, pe_callLA (E := fun σ c d H => W c d σ H) (S := fun f sp => ∃ i, f = C.fad i ∧ sp = spF C (nps i) (call i)) (fun f sp ⟨i, h1, h2⟩ => ?_) hr hN hv (fun σ => passAt tk σ) pa hdb hcd he hpl, fun σ F H ρ g Q s hw => ?_⟩
  · subst h1; subst h2
    obtain ⟨fd, ps, F, hb⟩ := (Fn i).ex
    exact ⟨fd, ps, F, (Fn i).kp, hb⟩
  · cases e : ρ[i]? with
    | none => simp only [envF, e] at hw; exact hw.elim
    | some q =>
      have z := s.slot i q e
      cases q with
      | v d =>
        obtain ⟨v, e1, h1⟩ := z
        cases d with
        | fn j =>
          simp only [envF, e] at hw
          have hw : Want C W σ F H (relD C) (M.bind (fs ρ) (fun ds => callN (nps j) (call j) ds) g) Q := hw
          cases h1
          refine ⟨_, _, e1, ⟨j, rfl, rfl⟩, ka σ F H ρ g _ s (hw.bind.mono ?_)⟩
          rintro vs H1 ⟨F1, g1, ds, x1, t1, r1, w1⟩
          unfold callN at w1
          by_cases c : ds.length = nps j
          · rw [if_pos c] at w1
            exact ⟨by rw [r1.length]; exact c, F1, ds, g1, t1, r1, want_E w1⟩
          · rw [if_neg c] at w1; exact w1.elim
        | _ => simp only [envF, e] at hw; exact hw.elim
      | no => simp only [envF, e] at hw; exact hw.elim
      | ol ds => simp only [envF, e] at hw; exact hw.elim
      | oi c ds => simp only [envF, e] at hw; exact hw.elim
      | ex c ds => simp only [envF, e] at hw; exact hw.elim
/-- which def a method is -/
def mtD (C : Cfg) (m : Str) : D → Option Nat
  | .ins c fs => if fs.lookup m = none then C.mts c m else none
  | _ => none
theorem mtD_inv {m : Str} {d : D} {j : Nat} (h : mtD C m d = some j) : ∃ c fs, d = .ins c fs ∧ fs.lookup m = none ∧ C.mts c m = some j := by
  cases d with
  | ins c fs =>
    unfold mtD at h
    by_cases q : fs.lookup m = none
    · simp only [q, if_true] at h; exact ⟨c, fs, rfl, q, h⟩
    · simp only [q, if_false] at h; cases h
  | _ => cases h
theorem se_meth {call : Nat → List D → M D} {nps : Nat → Nat} (hK : X.K = C.K) (T : Fx C) (Fn : ∀ i, FnOf C X k i (nps i) (call i)) (hr : RoomG k X.A) (tk : Takes X W) {o : Expr} {fo : Env → M D} (ho : SE C X W o fo) (ha : SA C X W (a :: es) fs)
    (hb : attributeBase o m X.env (eval o X.env) = eval o X.env) (hp : (apos.endLine == pos.line) = true) (hs : (backTo pos (starEach (a :: es) X.env)).all (!·.1) = true) (hl : (a :: es).length < 30)
    (he : starEach (a :: es) X.env = (false, eval a X.env) :: starEach es X.env) (hpl : (backTo pos (starEach es X.env)).any (·.1) = false) :
    SE C X W (.Call (.Attribute o m apos) (a :: es) [] pos) (fun ρ => M.bind (fo ρ) fun o => M.bind (lft (mtD C m o)) fun j => M.bind (fs ρ) fun ds => callN (nps j) (call j) (o :: ds)) := by
  obtain ⟨to, po, ko⟩ := ho
  obtain ⟨t, pa, ka⟩ := ha
  have ht := eval_meth (o := o) (m := m) (es := a :: es) (env := X.env) hp hs hl
  rw [hb] at ht
  refine ⟨_, pe_methA (E := fun σ c d H => W c d σ H) (S := fun Ca sp => ∃ c j, Ca = C.cad c ∧ C.mts c m = some j ∧ sp = spF C (nps j) (call j)) po (fun Ca sp ⟨c, j, h1, h2, h3⟩ => ?_) hr (fun σ => passAt tk σ) pa he hpl ht, fun σ F H ρ g Q s hw => ko σ F H ρ g _ s (hw.bind.mono ?_)⟩
  · subst h1; subst h3
    obtain ⟨fd, ps, F, hb⟩ := (Fn j).ex
    obtain ⟨t1, t2⟩ := T.mt c m j h2
    exact ⟨C.fad j, fd, ps, by rw [hK]; exact t1, by rw [hK]; exact t2, F, hb⟩
  · rintro x H1 ⟨F1, g1, od, x1, t1, r1, w1⟩
    cases q : mtD C m od with
    | none => rw [q] at w1; exact w1.elim
    | some j =>
      rw [q] at w1
      obtain ⟨c, fds, rfl, lk, q2⟩ := mtD_inv q
      have w1 : Want C W σ F1 H1 (relD C) (M.bind (fs ρ) (fun ds => callN (nps j) (call j) (.ins c fds :: ds)) g1) Q := w1
      have r0 := r1
      cases r1 with
      | ins hi l =>
        refine ⟨_, _, _, _, _, rfl, t1.sub _ _ hi, l.lookN lk, ⟨c, j, rfl, q2, rfl⟩, ka σ F1 H1 ρ g1 _ (s.ext x1 t1) (w1.bind.mono ?_)⟩
        rintro vs H2 ⟨F2, g2, ds, x2, t2, r2, w2⟩
        unfold callN at w2
        by_cases c : (D.ins c fds :: ds).length = nps j
        · rw [if_pos c] at w2
          exact ⟨by simp only [List.length_cons] at c ⊢; rw [r2.length]; exact c, F2, _, g2, t2, .cons (r0.mono x2.sub) r2, want_E w2⟩
        · rw [if_neg c] at w2; exact w2.elim
theorem se_meth0 {call : Nat → List D → M D} {nps : Nat → Nat} (hK : X.K = C.K) (T : Fx C) (Fn : ∀ i, FnOf C X k i (nps i) (call i)) (hr : RoomG k X.A) (tk : Takes X W) {o : Expr} {fo : Env → M D} (ho : SE C X W o fo)
    (hb : attributeBase o m X.env (eval o X.env) = eval o X.env) (hp : (apos.endLine == pos.line) = true) :
    SE C X W (.Call (.Attribute o m apos) [] [] pos) (fun ρ => M.bind (fo ρ) fun o => M.bind (lft (mtD C m o)) fun j => callN (nps j) (call j) [o]) := by
  obtain ⟨to, po, ko⟩ := ho
  have ht := eval_meth (o := o) (m := m) (es := []) (env := X.env) hp rfl (by decide)
  rw [hb] at ht
  refine ⟨_, pe_methA0 (E := fun σ c d H => W c d σ H) (S := fun Ca sp => ∃ c j, Ca = C.cad c ∧ C.mts c m = some j ∧ sp = spF C (nps j) (call j)) po (fun Ca sp ⟨c, j, h1, h2, h3⟩ => ?_) hr (fun σ => passAt tk σ) ht, fun σ F H ρ g Q s hw => ko σ F H ρ g _ s (hw.bind.mono ?_)⟩
  · subst h1; subst h3
    obtain ⟨fd, ps, F, hb⟩ := (Fn j).ex
    obtain ⟨t1, t2⟩ := T.mt c m j h2
    exact ⟨C.fad j, fd, ps, by rw [hK]; exact t1, by rw [hK]; exact t2, F, hb⟩
  · rintro x H1 ⟨F1, g1, od, x1, t1, r1, w1⟩
    cases q : mtD C m od with
    | none => rw [q] at w1; exact w1.elim
    | some j =>
      rw [q] at w1
      obtain ⟨c, fds, rfl, lk, q2⟩ := mtD_inv q
      have w1 : Want C W σ F1 H1 (relD C) (callN (nps j) (call j) [.ins c fds] g1) Q := w1
      have r0 := r1
      cases r1 with
      | ins hi l =>
        refine ⟨_, _, _, _, _, rfl, t1.sub _ _ hi, l.lookN lk, ⟨c, j, rfl, q2, rfl⟩, ?_⟩
        show spF C (nps j) (call j) _ _ _ _
        unfold callN at w1
        by_cases c : [D.ins c fds].length = nps j
        · rw [if_pos c] at w1
          exact ⟨c, F1, _, g1, t1, .cons r0 .nil, want_E w1⟩
        · rw [if_neg c] at w1; exact w1.elim
/-- how a class is called: its __init__ takes n parameters, self among them -/
structure InOf (C : Cfg) (X : Cx) (k : Nat) (c i n : Nat) (f : List D → M (List (Str × D))) : Prop where
  ex : ∃ (fd : FuncData) (ps : List Str), FnG X.prog X.w X.K X.mg X.base k (C.fad i) fd ps (spI C n c f) ∧ Binds X.K fd ps []
  ini : C.ini c = some i
def makeN (c n : Nat) (f : List D → M (List (Str × D))) (ds : List D) : M D := if ds.length + 1 = n then M.bind (f ds) fun fs => M.ret (.ins c fs) else fun _ => .stuck
theorem se_make {c i n : Nat} {f : List D → M (List (Str × D))} (hK : X.K = C.K) (T : Fx C) (In : InOf C X k c i n f) (hr : RoomG (k + 1) X.A) (tk : Takes X W) (hg : Gl X x) (hm : X.mg x = some (.ref (C.cad c))) (ha : SA C X W (a :: es) fs)
    (hdb : (x == ("__debug__" : Str)) = false) (he : starEach (a :: es) X.env = (false, eval a X.env) :: starEach es X.env) (hpl : (backTo pos (starEach es X.env)).any (·.1) = false) :
    SE C X W (.Call (.Name x p) (a :: es) [] pos) (fun ρ => M.bind (fs ρ) fun ds => makeN c n f ds) := by
  obtain ⟨fd, ps, F, hb⟩ := In.ex
  obtain ⟨t, pa, ka⟩ := ha
  have mk : Mk X.K (C.cad c) (C.fad i) := by rw [hK]; exact T.mkr c i In.ini
  refine ⟨_, pe_makeSD (E := fun σ c d H => W c d σ H) mk F hr hg hm hb (fun σ => passAt tk σ) pa hdb he hpl, fun σ F H ρ g Q s hw => ka σ F H ρ g _ s (hw.bind.mono ?_)⟩
  rintro vs H1 ⟨F1, g1, ds, x1, t1, r1, w1⟩
  intro y dy ny ndy ndn
  unfold makeN at w1
  by_cases c1 : ds.length + 1 = n
  · rw [if_pos c1] at w1
    have yR : y ≠ C.R := fun z => by rw [z, t1.rowH] at ny; cases ny
    have dR : dy ≠ C.R := fun z => by rw [z, t1.rowH] at ndy; cases ndy
    have up : ∀ a o, H1 a = some o → hide y (upd (upd H1 dy (.own y)) y (.ins (C.cad c) dy [])) a = some o := fun a o e => by
      rw [hide_ne (ne_of_none e ny), upd_ne (ne_of_none e ny), upd_ne (ne_of_none e ndy)]; exact e
    have nF : F1 y = none := by
      cases q : F1 y with
      | none => rfl
      | some u => rw [t1.sub y u q] at ny; cases ny
    refine ⟨by simp only [List.length_cons]; rw [r1.length]; exact c1, y, dy, vs, F1, ds, g1, rfl, upd_same, yR, ⟨fun a o e => up a o (t1.sub a o e), t1.rowF, up _ _ t1.rowH, t1.scr⟩, r1, ?_⟩
    unfold M.bind at w1
    cases q : f ds g1 with
    | ok flds g2 =>
      rw [q] at w1
      intro F' H' dz vs' e1 t2 hy nF' l
      refine ⟨rfl, ?_⟩
      have e2 := e1.shrink up
      have t3 : St0 C (upd F' y (.ins (C.cad c) dz vs')) H' g2 := ⟨fun a o e => ?_, by rw [upd_ne (Ne.symm yR)]; exact t2.rowF, t2.rowH, Sub.sql (fun a o e => by rw [upd_ne (ne_of_none e nF')]; exact e) t2.scr⟩
      · refine w1 (.ref y) (upd F' y (.ins (C.cad c) dz vs')) H' ⟨fun a o e => ?_, e2.frm, fun a o e => ?_⟩ t3 (.ins upd_same (l.mono fun a o e => by rw [upd_ne (ne_of_none e nF')]; exact e))
        · have e' := e2.sub a o e
          rw [upd_ne (ne_of_none e' nF')]; exact e'
        · by_cases h : a = y
          · subst h; exact .inr ⟨ny, yR⟩
          · rw [upd_ne h] at e; exact e2.new a o e
      · by_cases h : a = y
        · subst h; rw [upd_same] at e; cases e; exact hy
        · rw [upd_ne h] at e; exact t2.sub a o e
    | err ce fe g2 =>
      rw [q] at w1
      intro dd F' H' e1 t2 xd
      exact w1 dd F' H' (e1.shrink up) t2 xd
    | stuck => rw [q] at w1; exact w1.elim
  · rw [if_neg c1] at w1; exact w1.elim
end
end DS

set_option Elab.async false
set_option linter.all false
set_option maxRecDepth 100000
set_option maxHeartbeats 4000000
/-! DS, enumerate of a tuple -/
namespace PySem
open AutoSeq1 (wpAny_loadPart')
open Builtin.SmallTypes in
theorem ds_meets_enum_newT (l : Addr) (items : Array Value) :
    Meets (Builtin.«enumerate.__new__» ⟨[.type "enumerate", .ref l], []⟩) (fun _ R s => s.heap.IsTuple l items ∧
      R (.ok (.ret (.ref (s.heap.push { cls := .type "tuple_iterator", data := .fields #[.ref l, .int 0 0] }).objs.size)))
        { s with heap := (s.heap.push { cls := .type "tuple_iterator", data := .fields #[.ref l, .int 0 0] }).push { cls := .type "enumerate", data := .fields #[.none, .bool false, .ref s.heap.objs.size, rawInt 0, .none, .none] } }) :=
  .of_wp fun prog w A R s h => by
    obtain ⟨hp, g, d, tk, os⟩ := s; obtain ⟨hl, h⟩ := h
    have hsub := sub_enumerate
    have hL : Heap.IsTuple (Shared.heap ⟨hp, g, d, tk, os⟩) l items := hl
    wp_walk using wpAny_pyIter_tuple hL
    refine wpAny_stack_any fun st => wpAny_pure ?_
    split
    · rename_i c _ _ _ _ _
      cases (c == Value.type "enumerate")
      · wp_walk using wpAny_pyIter_tuple hL
        exact ⟨_, rfl, h⟩
      · wp_walk using wpAny_pyIter_tuple hL
        exact ⟨_, rfl, h⟩
    · wp_walk using wpAny_pyIter_tuple hL
      exact ⟨_, rfl, h⟩
section
variable {prog : Program} {w : World} {A : Around} {E : Value → Shared → Prop} {s : Shared}
theorem ds_call_enum_tuple {l : Addr} {items : Array Value} {Q : Value → Shared → Prop} (hL : s.heap.IsTuple l items)
    (h : ∀ h', IsEnum h' (s.heap.objs.size + 1) s.heap.objs.size 0 .none → h'.IsTupleIter s.heap.objs.size l 0 → h'.objs.size = s.heap.objs.size + 2 →
      (∀ b o, s.heap.get? b = some o → h'.get? b = some o) → Q (.ref (s.heap.objs.size + 1)) { s with heap := h' }) :
    wpAny (model prog w) A (call (.type "enumerate") [.ref l]) Q E s := by
  refine callType_new F.called_enumerate (by decide) (F.typeCall_enumerate_1 _) (F.newCall_enumerate_1 _) (fun obj => F.args_object_init_2 obj _) F.entry_enumerate_new
    (ds_meets_enum_newT l items) ⟨hL, ?_⟩
  have hz : (s.heap.push { cls := .type "tuple_iterator", data := .fields #[.ref l, .int 0 0] }).objs.size = s.heap.objs.size + 1 := Heap.size_push ..
  show _ ∧ _
  rw [hz]
  have he : IsEnum ((s.heap.push { cls := .type "tuple_iterator", data := .fields #[.ref l, .int 0 0] }).push
      { cls := .type "enumerate", data := .fields #[.none, .bool false, .ref s.heap.objs.size, rawInt 0, .none, .none] }) (s.heap.objs.size + 1) s.heap.objs.size 0 .none := by
    have := Heap.get?_push_size (s.heap.push { cls := .type "tuple_iterator", data := .fields #[.ref l, .int 0 0] })
      (o := { cls := .type "enumerate", data := .fields #[.none, .bool false, .ref s.heap.objs.size, rawInt 0, .none, .none] }) rfl
    rw [hz] at this; exact this
  refine ⟨⟨_, he, rfl⟩, h _ he ⟨_, Heap.get?_push_of_some _ (Heap.get?_push_size _ rfl), rfl, rfl⟩ (by rw [Heap.size_push, hz]) fun b o x => Heap.get?_push_of_some _ (Heap.get?_push_of_some _ x)⟩
end
end PySem
namespace L2
open PySem PySem.Spec PyProof.Rows
/-- the tuple at a, each item in a new pair -/
def IteT (K : PySem.W.Frag) (a : Addr) : It :=
  ⟨fun i H => ∃ (xs : List V) (x : V), SqT K H a xs ∧ xs[i]? = some x, fun i H v H' => ∃ T x, v = .ref T ∧ H T = none ∧ H' = upd H T (.tup [.int (i : Nat), x]) ∧ ∀ xs, SqT K H a xs → xs[i]? = some x, fun i H => ∃ xs : List V, SqT K H a xs ∧ xs.length ≤ i⟩
theorem turn_enumT {P : Program} {w : World} {K : PySem.W.Frag} {elts : List Expr} {kk : Nat} {tpos : Pos} (a e it : Addr) (hea : e ≠ a) (hia : it ≠ a) :
    Turn P w K (.Tuple elts kk tpos) (IteT K a) [e, it] e (fun i h => (∃ old, IsEnum h e it ((i : Nat) : Int) old) ∧ h.IsTupleIter it a i ∧ e ≠ it) where
  mem := by simp
  obj := fun i h st b hb => by
    obtain ⟨⟨old, he⟩, ⟨o, ho, hc, hd⟩, _⟩ := st
    have e' : b = e ∨ b = it := by simpa using hb
    rcases e' with z | z
    · rw [z]; exact ⟨_, he, fun v q => nomatch q⟩
    · rw [z]; exact ⟨o, ho, fun v q => by rw [hd] at q; cases q⟩
  keep := fun i h h' st k => let ⟨⟨old, he⟩, hi, hne⟩ := st; ⟨⟨old, k e (by simp) _ he⟩, hi.at fun o q => k it (by simp) o q, hne⟩
  item := by
    intro X hP hw hK hc i pins s σ H E I hf st hg
    subst hP hw hK
    obtain ⟨⟨old, he⟩, hit, hne⟩ := st
    obtain ⟨xs, x, hq, hx⟩ := hg
    obtain ⟨its, rv, p, hz⟩ := I.tuple hq
    obtain ⟨u, hu, ru⟩ := rv.get hx
    have hel : e < s.heap.objs.size := Heap.lt_size he
    have hil : it < s.heap.objs.size := by obtain ⟨_, q, _⟩ := hit; exact Heap.lt_size q
    have hh : X.A.in1.handled = none := I.ok.hd hc
    have DT := Draws.tuple (prog := X.prog) (w := X.w) (A := X.A.in1) hh it a (Ne.symm hia) its.toArray
    have hlt : i < its.toArray.size := by
      have := (List.getElem?_eq_some_iff.mp hu).1
      simpa using this
    refine wpAny_pyNext_enum_itemD DT he ⟨hit, p⟩ hlt hne (by simp [hne, hea]) fun y h' tk hy ho hit' hT hsz hk => ?_
    have hyu : y = u := by
      have q : its.toArray[i]? = some u := by simpa using hu
      rw [q] at hy
      exact (Option.some.inj hy).symm
    subst hyu
    refine ⟨_, rfl, wpAny_letOwnedTupleGo_enum (s := { s with heap := h', toks := tk + 1 }) ho fun h'' he' sb => ?_⟩
    have hT2 : h''.get? s.heap.objs.size = some { cls := .type "tuple", data := .seq #[.int i tk, y] } := (sb.2 _ (Nat.ne_of_gt hel)).trans hT
    have new : ObjOk X.prog X.w (upd H s.heap.objs.size (.tup [.int (i : Nat), x])) h'' s.heap.objs.size (.tup [.int (i : Nat), x]) :=
      ⟨by show 2 ≤ sizeLine; decide, [.int i tk, y], .cons ⟨_, rfl⟩ (.cons ru .nil), ⟨_, hT2, rfl, _, rfl⟩⟩
    have I1 : Inv X pins σ (upd H s.heap.objs.size (.tup [.int (i : Nat), x])) { s with heap := h'', toks := tk + 1 } :=
      I.turnedNew (ch := [e, it]) (fun b ob hb q => (sb.2 b (fun z => hb (by simp [z]))).trans (hk b ob (fun z => hb (by simp [z])) (fun z => hb (by simp [z])) q)) hf (Nat.le_refl _) new
    refine ⟨.ref s.heap.objs.size, _, I1, rfl, ⟨_, x, rfl, I.hok.fresh (Nat.le_refl _), rfl, fun ys hy => by rw [I.tuple_inj hy hq]; exact hx⟩, ⟨⟨y, ?_⟩, hit'.1.at fun o q => (sb.2 it (Ne.symm hne)).trans q, hne⟩, fun b hb => ?_⟩
    · have e1 : ((i + 1 : Nat) : Int) = (i : Int) + 1 := by omega
      rw [e1]; exact he'
    · have hb' : b < s.heap.objs.size := by
        have e' : b = e ∨ b = it := by simpa using hb
        rcases e' with z | z
        · rw [z]; exact hel
        · rw [z]; exact hil
      rw [upd_ne (Nat.ne_of_lt hb')]
      exact (hf b hb).1
  done := by
    intro X hP hw hK hc i pins s σ H E I hf st hg
    subst hP hw hK
    obtain ⟨⟨old, he⟩, hit, hne⟩ := st
    obtain ⟨xs, hq, hx⟩ := hg
    obtain ⟨its, rv, p, hz⟩ := I.tuple hq
    obtain ⟨f0, f1, f2, f3, f4, f5⟩ := hf it (by simp)
    have hl := rv.length
    have hh : X.A.in1.handled = none := I.ok.hd hc
    -- the iterator has run out: i is the length
    have hT : s.TypeIs (.ref e) "enumerate" := ⟨_, he, rfl⟩
    unfold pyNext
    refine wpAny_bind (wpAny_attempt (wpAny_callSpecial?_slot (name := Str.ofString "__next__") hT F.slot_enumerate_next
      (wpAny_call_entry F.slot_enumerate_next hT F.entry_enumerate_next ?_ (F.args_enumerate_next_1 _))))
    show wpAny _ _ (field (.ref e) 2 >>= _) _ _ _
    refine wpAny_bind (wpAny_field he rfl (x := .ref it) rfl ?_)
    refine wpAny_bind (wpAny_nextOf_tuple_end hh hit p (by simp; omega) fun h' x he' hx' => ?_)
    obtain ⟨o, ho, hc'⟩ := hx'
    refine wpAny_bind (wpAny_isInstance (T := "StopIteration") (b := true) ⟨o, ho, hc'⟩ isSubtype_stop ?_)
    exact wpAny_pure ⟨rfl, I.turned (t' := s.toks) (fun b o hb q => he' b o hb q) f0 f1 f3 f4 f5⟩
  self := fun A i s Q E st h => let ⟨⟨_, he⟩, _⟩ := st; wpAny_pyIter_enum he h
def iEnumA (K : PySem.W.Frag) (ta : TA) : TI := fun σ H R => ta σ H fun vs H1 => ∃ a xs, vs = [.ref a] ∧ ((SqL K H1 a xs ∧ R (Ite K a) H1) ∨ (SqT K H1 a xs ∧ R (IteT K a) H1))
theorem pi_enumA {X : Cx} {e : Expr} {ta : TA} {p pos tpos : Pos} {elts : List Expr} {kk : Nat} (hg : Gl X "enumerate") (hm : X.mg "enumerate" = none) (ha : PA X [e] ta) (hs : starEach [e] X.env = [(false, eval e X.env)]) :
    PI X (.Tuple elts kk tpos) (.Call (.Name "enumerate" p) [e] [] pos) (iEnumA X.K ta) := by
  refine ⟨fun pins s σ H R I h => ?_⟩
  refine Call_ (ld_blt I hg hm boot_enumerate (PyProof.Rows.callWith_type1 (thn (ha.run pos pins s σ H _ I h) fun us s1 ⟨vs, H1, I1, r1, q1⟩ => ?_) hs rfl))
  obtain ⟨a, xs, ex, q1⟩ := q1
  subst ex
  have fr : ∀ b ∈ [s1.heap.objs.size + 1, s1.heap.objs.size], FpOk X pins H1 b := fun b hb => by
    have e' : b = s1.heap.objs.size + 1 ∨ b = s1.heap.objs.size := by simpa using hb
    have hle : s1.heap.objs.size ≤ b := by
      rcases e' with z | z
      · rw [z]; exact Nat.le_add_right _ _
      · rw [z]; exact Nat.le_refl _
    exact I1.fpOk hle (I1.hok.fresh hle)
  cases r1 with
  | cons r rr =>
    cases rr
    cases r
    rcases q1 with ⟨hq, q⟩ | ⟨hq, q⟩
    · obtain ⟨its, rv, p', hz⟩ := I1.list hq
      refine call_enumerate_list p'.isList fun h' he hit hsz hk => wpAny_pyIter_enum he ?_
      have I2 : Inv X pins σ H1 { s1 with heap := h' } := I1.kept (t' := s1.toks) hk
      exact ⟨s1.heap.objs.size + 1, [s1.heap.objs.size + 1, s1.heap.objs.size], _, _, H1, rfl, I2, turn_enum a (s1.heap.objs.size + 1) s1.heap.objs.size, ⟨⟨.none, he⟩, hit, Nat.succ_ne_self _⟩, fr, q⟩
    · obtain ⟨its, rv, p', hz⟩ := I1.tuple hq
      have lt : a < s1.heap.objs.size := p'.lt
      refine ds_call_enum_tuple p' fun h' he hit hsz hk => wpAny_pyIter_enum he ?_
      have I2 : Inv X pins σ H1 { s1 with heap := h' } := I1.kept (t' := s1.toks) hk
      exact ⟨s1.heap.objs.size + 1, [s1.heap.objs.size + 1, s1.heap.objs.size], _, _, H1, rfl, I2, turn_enumT a (s1.heap.objs.size + 1) s1.heap.objs.size (Nat.ne_of_gt (Nat.lt_succ_of_lt lt)) (Nat.ne_of_gt lt), ⟨⟨.none, he⟩, hit, Nat.succ_ne_self _⟩, fr, q⟩
theorem walk_enumT {K : PySem.W.Frag} {a : Addr} {xs : List V} : Walk (IteT K a) xs.length (fun H => SqT K H a xs) (YPair (fun i => some (.int (i : Nat))) (fun i => xs[i]?)) := by
  refine ⟨fun i _ hi q => ⟨xs, xs[i], q, by simp [hi]⟩, fun _ q => ⟨xs, q, Nat.le_refl _⟩, fun i H v H' _ q y => ?_⟩
  obtain ⟨T, x, h1, h2, h3, h4⟩ := y
  exact ⟨T, .int (i : Nat), x, h1, h2, h3, rfl, h4 xs q⟩
end L2

set_option Elab.async false
set_option linter.all false
set_option maxRecDepth 100000
set_option maxHeartbeats 4000000
/-! DS, part 5: what is walked, comprehensions -/
namespace L2
open PySem PySem.Spec PyProof.Rows
/-- a list, a tuple or a text, as it comes -/
def iAny (K : PySem.W.Frag) (tl : TE) : TI := fun σ H R => tl σ H fun x H1 => (∃ a, x = .ref a ∧ (∃ xs, SqL K H1 a xs) ∧ R (Itl K a) H1) ∨ (∃ a, x = .ref a ∧ (∃ xs, SqT K H1 a xs) ∧ R (Itt K a) H1) ∨ (∃ z, x = .str z ∧ R (Its z) H1)
theorem pi_any {X : Cx} {tg l : Expr} {tl : TE} (hl : PE X l tl) : PI X tg l (iAny X.K tl) := by
  refine ⟨fun pins s σ H R I h => ?_⟩
  refine thn (hl.run pins s σ H _ I h) fun v s1 ⟨x, H1, I1, r1, q1⟩ => ?_
  rcases q1 with ⟨a, e, ⟨xs, hq⟩, q⟩ | ⟨a, e, ⟨xs, hq⟩, q⟩ | ⟨z, e, q⟩
  · subst e
    cases r1
    obtain ⟨its, rv, p, hz⟩ := I1.list hq
    refine wpAny_pyIter_list p.isList ?_
    refine ⟨s1.heap.objs.size, [s1.heap.objs.size], _, _, H1, rfl, I1.kept (t' := s1.toks) fun b o e => Heap.get?_push_of_some _ e, turn_list a _, ⟨_, Heap.get?_push_size _ rfl, rfl, rfl⟩, fun b hb => ?_, q⟩
    have e : b = s1.heap.objs.size := by simpa using hb
    subst e
    exact I1.fpOk (Nat.le_refl _) (I1.hok.fresh (Nat.le_refl _))
  · subst e
    cases r1
    obtain ⟨its, rv, p, hz⟩ := I1.tuple hq
    refine wpAny_pyIter_tuple (show s1.heap.IsTuple a its.toArray from p) ?_
    refine ⟨s1.heap.objs.size, [s1.heap.objs.size], _, _, H1, rfl, I1.kept (t' := s1.toks) fun b o e => Heap.get?_push_of_some _ e, turn_tuple a _, ⟨_, Heap.get?_push_size _ rfl, rfl, rfl⟩, fun b hb => ?_, q⟩
    have e : b = s1.heap.objs.size := by simpa using hb
    subst e
    exact I1.fpOk (Nat.le_refl _) (I1.hok.fresh (Nat.le_refl _))
  · subst e
    obtain ⟨t, rfl⟩ := r1
    cases ha : z.cps.all (· < 128)
    · exact wpAny_pyIter_wide ha (pi_one (tk := s1.toks) I1 _ (turn_str _ z t "str_iterator" (.inr rfl)) ⟨_, Heap.get?_push_size _ rfl, rfl, rfl⟩ q)
    · exact wpAny_pyIter_ascii ha (pi_one (tk := s1.toks) I1 _ (turn_str _ z t "str_ascii_iterator" (.inl rfl)) ⟨_, Heap.get?_push_size _ rfl, rfl, rfl⟩ q)
end L2
namespace DS
open PySem L2
def PresB (R : Addr) (fr : Bool) (F H F1 H1 : Hp) : Prop := Sub F F1 ∧ Sub F1 H1 ∧ (fr = false → ∀ a o, a ≠ R → H a = some o → H1 a = some o)
structure RelJ (C : Cfg) (fr : Bool) (F H : Hp) (J : It) (ds : List D) : Prop where
  ex : ∃ (Gh : Hp → Prop) (Y : Nat → Hp → V → Hp → Prop), Walk J ds.length Gh Y ∧ (∀ F1 H1, PresB C.R fr F H F1 H1 → Gh H1) ∧
    ∀ i H1 x H2 F1 g1, i < ds.length → PresB C.R fr F H F1 H1 → St0 C F1 H1 g1 → Y i H1 x H2 → ∃ F2 d, Ext C.R F1 H1 F2 H2 ∧ St0 C F2 H2 g1 ∧ ds[i]? = some d ∧ Dv C F2 x d
def SI (C : Cfg) (X : Cx) (W : WX) (fr : Bool) (tg it : Expr) (f : Env → M (List D)) : Prop :=
  ∃ wi, PI X tg it wi ∧ ∀ σ F H ρ g R, SRe C σ F H ρ g → Want C W σ F H (fun F' H' J ds => RelJ C fr F' H' J ds) (f ρ g) R → wi σ H R
section
variable {C : Cfg} {X : Cx} {W : WX} {e a b : Expr} {es : List Expr} {pos p : Pos} {tg : Expr} {f fa fb : Env → M D} {fr : Bool}
def oneStr (c : Nat) : D := .str ⟨#[c]⟩
/-- what a value gives when it is walked -/
def itemsD : D → Option (List D)
  | .lst ds => some ds
  | .tup ds => some ds
  | .str z => some (z.cps.toList.map oneStr)
  | _ => none
theorem relJ_lst {F H : Hp} {a : Addr} {vs : List V} {ds : List D} (hK : X.K = C.K) (h : ∀ F1 H1, PresB C.R fr F H F1 H1 → H1 a = some (.lst vs)) (l : DvL C F vs ds) : RelJ C fr F H (Itl X.K a) ds := by
  refine ⟨fun H => SqL X.K H a vs, YAt vs, by rw [← l.length]; exact walk_list, fun F1 H1 p => .inl (.inl (h F1 H1 p)), fun i H1 x H2 F1 g1 hi p st y => ?_⟩
  obtain ⟨e, y⟩ := y
  subst e
  obtain ⟨d, h1, h2⟩ := l.getV y
  exact ⟨F1, d, Ext.refl _ _ _, st, h1, h2.mono p.1⟩
theorem relJ_tup {F H : Hp} {a : Addr} {vs : List V} {ds : List D} (hK : X.K = C.K) (h : SqT C.K F a vs) (l : DvL C F vs ds) : RelJ C fr F H (Itt X.K a) ds := by
  refine ⟨fun H => SqT X.K H a vs, YAt vs, by rw [← l.length]; exact walk_tup, fun F1 H1 p => by rw [hK]; exact p.2.1.sqt (p.1.sqt h), fun i H1 x H2 F1 g1 hi p st y => ?_⟩
  obtain ⟨e, y⟩ := y
  subst e
  obtain ⟨d, h1, h2⟩ := l.getV y
  exact ⟨F1, d, Ext.refl _ _ _, st, h1, h2.mono p.1⟩
theorem relJ_str {F H : Hp} {z : Str} : RelJ C fr F H (Its z) (z.cps.toList.map oneStr) := by
  refine ⟨fun _ => True, fun i H v H' => H' = H ∧ ∃ c, z.cps[i]? = some c ∧ v = .str ⟨#[c]⟩, by rw [List.length_map, Array.length_toList]; exact walk_str, fun F1 H1 p => trivial, fun i H1 x H2 F1 g1 hi p st y => ?_⟩
  obtain ⟨e, c, hc, hx⟩ := y
  subst e
  subst hx
  refine ⟨F1, oneStr c, Ext.refl _ _ _, st, ?_, .str _⟩
  rw [List.getElem?_map, Array.getElem?_toList, hc]
  rfl
/-- a frozen thing, walked by a loop -/
theorem si_any (hK : X.K = C.K) (ha : SE C X W a fa) : SI C X W fr tg a (fun ρ => M.bind (fa ρ) fun x => lft (itemsD x)) := by
  obtain ⟨ta, pa, ka⟩ := ha
  refine ⟨_, pi_any pa, fun σ F H ρ g R s hw => ka σ F H ρ g _ s (hw.bind.mono ?_)⟩
  rintro x H1 ⟨F1, g1, dx, x1, t1, r1, w1⟩
  cases dx with
  | lst ds =>
    cases r1 with
    | lst h l => exact .inl ⟨_, rfl, ⟨_, .inl (.inl (t1.sub _ _ h))⟩, Want.ret (g := g1) w1 t1 (relJ_lst hK (fun F2 H2 p => p.2.1 _ _ (p.1 _ _ h)) l)⟩
  | tup ds =>
    cases r1 with
    | tup h l => exact .inr (.inl ⟨_, rfl, ⟨_, by rw [hK]; exact t1.sub.sqt h⟩, Want.ret (g := g1) w1 t1 (relJ_tup hK h l)⟩)
  | str z => cases r1; exact .inr (.inr ⟨z, rfl, Want.ret (g := g1) w1 t1 relJ_str⟩)
  | _ => exact w1.elim
/-- walked by a comprehension: the list may be one's own -/
theorem si_anyR (hK : X.K = C.K) (ha : SR C X W a fa) : SI C X W false tg a (fun ρ => M.bind (fa ρ) fun x => lft (itemsD x)) := by
  obtain ⟨ta, pa, ka⟩ := ha
  refine ⟨_, pi_any pa, fun σ F H ρ g R s hw => ka σ F H ρ g _ s (hw.bind.mono ?_)⟩
  rintro x H1 ⟨F1, g1, dx, x1, t1, r1, w1⟩
  cases dx with
  | lst ds =>
    rcases r1 with r1 | ⟨a, vs, ds', h1, h2, h3, h4, h5⟩ | ⟨_, _, _, _, _, _, h, _⟩
    · cases r1 with
      | lst h l => exact .inl ⟨_, rfl, ⟨_, .inl (.inl (t1.sub _ _ h))⟩, Want.ret (g := g1) w1 t1 (relJ_lst hK (fun F2 H2 p => p.2.1 _ _ (p.1 _ _ h)) l)⟩
    · subst h1; cases h2
      exact .inl ⟨_, rfl, ⟨_, .inl (.inl h3)⟩, Want.ret (g := g1) w1 t1 (relJ_lst hK (fun F2 H2 p => p.2.2 rfl _ _ h4 h3) h5)⟩
    · cases h
  | tup ds =>
    obtain ⟨a, vs, rfl, h, l⟩ := r1.tup_inv t1.sub
    exact .inr (.inl ⟨_, rfl, ⟨_, by rw [hK]; exact t1.sub.sqt h⟩, Want.ret (g := g1) w1 t1 (relJ_tup hK h l)⟩)
  | str z => cases r1.str_inv; exact .inr (.inr ⟨z, rfl, Want.ret (g := g1) w1 t1 relJ_str⟩)
  | _ => exact w1.elim
/-! ranges -/
def rngD (lo : Int) (n : Nat) : List D := (List.range n).map fun i => .int (lo + (i : Nat))
theorem relJ_rng {F H : Hp} {lo : Int} {n : Nat} : RelJ C fr F H (Itr lo n) (rngD lo n) := by
  refine ⟨fun _ => True, YFn fun i => .int (lo + (i : Nat)), by unfold rngD; rw [List.length_map, List.length_range]; exact walk_range, fun F1 H1 p => trivial, fun i H1 x H2 F1 g1 hi p st y => ?_⟩
  obtain ⟨e, hx⟩ := y
  subst e
  subst hx
  refine ⟨F1, .int (lo + (i : Nat)), Ext.refl _ _ _, st, ?_, .int _⟩
  unfold rngD at hi ⊢
  rw [List.length_map, List.length_range] at hi
  rw [List.getElem?_map, List.getElem?_range hi]
  rfl
def okR (i : Int) : Bool := decide (-(2 ^ 62) ≤ i ∧ i < 2 ^ 62)
def rng1 : D → Option (List D)
  | .int j => if okR j = true then some (rngD 0 j.toNat) else none
  | _ => none
def rng2 : D → D → Option (List D)
  | .int i, .int j => if okR i = true ∧ okR j = true then some (rngD i (j - i).toNat) else none
  | _, _ => none
theorem si_rng1 (hg : Gl X "range") (hm : X.mg "range" = none) (ha : SR C X W a fa) (hs : starEach [a] X.env = [(false, eval a X.env)]) :
    SI C X W fr tg (.Call (.Name "range" p) [a] [] pos) (fun ρ => M.bind (fa ρ) fun x => lft (rng1 x)) := by
  obtain ⟨ta, pa, ka⟩ := ha
  refine ⟨_, pi_range1 hg hm (pa_cons pa pa_nil hs) hs, fun σ F H ρ g R s hw => ka σ F H ρ g _ s (hw.bind.mono ?_)⟩
  rintro x H1 ⟨F1, g1, dx, x1, t1, r1, w1⟩
  cases dx with
  | int j =>
    cases r1.int_inv
    unfold rng1 at w1; dsimp only at w1
    by_cases c : okR j = true
    · rw [if_pos c] at w1
      have c' := of_decide_eq_true c
      exact ⟨j, rfl, c'.1, c'.2, Want.ret (g := g1) w1 t1 relJ_rng⟩
    · rw [if_neg c] at w1; exact w1.elim
  | _ => exact w1.elim
theorem si_rng2 (hg : Gl X "range") (hm : X.mg "range" = none) (ha : SR C X W a fa) (hb : SR C X W b fb) (hs : starEach [a, b] X.env = [(false, eval a X.env), (false, eval b X.env)]) (hs2 : starEach [b] X.env = [(false, eval b X.env)]) :
    SI C X W fr tg (.Call (.Name "range" p) [a, b] [] pos) (fun ρ => M.bind (fa ρ) fun x => M.bind (fb ρ) fun y => lft (rng2 x y)) := by
  obtain ⟨ta, pa, ka⟩ := ha
  obtain ⟨tb, pb, kb⟩ := hb
  refine ⟨_, pi_range2 hg hm (pa_cons pa (pa_cons pb pa_nil hs2) (by rw [hs, hs2])) hs hs2, fun σ F H ρ g R s hw => ka σ F H ρ g _ s (hw.bind.mono ?_)⟩
  rintro x H1 ⟨F1, g1, dx, x1, t1, r1, w1⟩
  refine kb σ F1 H1 ρ g1 _ (s.ext x1 t1) (w1.bind.mono ?_)
  rintro y H2 ⟨F2, g2, dy, x2, t2, r2, w2⟩
  cases dx with
  | int i =>
    cases dy with
    | int j =>
      cases r1.int_inv
      cases r2.int_inv
      unfold rng2 at w2; dsimp only at w2
      by_cases c : okR i = true ∧ okR j = true
      · rw [if_pos c] at w2
        have c1 := of_decide_eq_true c.1
        have c2 := of_decide_eq_true c.2
        exact ⟨i, j, rfl, ⟨c1.1, c1.2, c2.1, c2.2⟩, Want.ret (g := g2) w2 t2 relJ_rng⟩
      · rw [if_neg c] at w2; exact w2.elim
    | _ => exact w2.elim
  | _ => exact w2.elim
/-! enumerate -/
def enumD (k : Nat) : List D → List D
  | [] => []
  | d :: ds => .tup [.int (k : Nat), d] :: enumD (k + 1) ds
theorem enumD_length : ∀ (k : Nat) (ds : List D), (enumD k ds).length = ds.length
  | _, [] => rfl
  | k, _ :: ds => by simp [enumD, enumD_length (k + 1) ds]
theorem enumD_get : ∀ (k : Nat) (ds : List D) (i : Nat) (d : D), ds[i]? = some d → (enumD k ds)[i]? = some (.tup [.int ((k + i : Nat) : Int), d])
  | _, [], _, _, h => by simp at h
  | k, d :: ds, 0, _, h => by
    simp only [List.getElem?_cons_zero, Option.some.injEq] at h
    subst h
    simp [enumD]
  | k, _ :: ds, i + 1, d, h => by
    have := enumD_get (k + 1) ds i d (by simpa using h)
    simp only [enumD, List.getElem?_cons_succ, this]
    rw [show k + 1 + i = k + (i + 1) by omega]
def listD : D → Option (List D)
  | .lst ds => some ds
  | .tup ds => some ds
  | _ => none
theorem enum_pair {F1 H1 H2 : Hp} {g1 : G} {vs : List V} {ds : List D} {i : Nat} {x : V} (st : St0 C F1 H1 g1) (l : DvL C F1 vs ds) (y : YPair (fun i => some (.int (i : Nat))) (fun i => vs[i]?) i H1 x H2) :
    ∃ F2 d, Ext C.R F1 H1 F2 H2 ∧ St0 C F2 H2 g1 ∧ (enumD 0 ds)[i]? = some d ∧ Dv C F2 x d := by
  obtain ⟨T, u, v, hx, nT, hH, hu, hv⟩ := y
  subst hx; subst hH
  cases hu
  obtain ⟨d, h1, h2⟩ := l.getV hv
  obtain ⟨x1, t1⟩ := Ext.lay st nT (.tup [.int (i : Nat), v])
  refine ⟨_, _, x1, t1, enumD_get 0 ds i d h1, .tup (.inl (.inl upd_same)) (.cons ?_ (.cons (h2.mono x1.sub) .nil))⟩
  rw [Nat.zero_add]
  exact .int _
theorem relJ_enumL {F H : Hp} {a : Addr} {vs : List V} {ds : List D} (h : F a = some (.lst vs)) (l : DvL C F vs ds) : RelJ C fr F H (Ite X.K a) (enumD 0 ds) := by
  refine ⟨fun H => SqL X.K H a vs, YPair (fun i => some (.int (i : Nat))) (fun i => vs[i]?), by rw [enumD_length, ← l.length]; exact walk_enum, fun F2 H2 p => .inl (.inl (p.2.1 _ _ (p.1 _ _ h))), fun i H2 x H3 F2 g2 hi p st y => enum_pair st (l.mono p.1) y⟩
theorem relJ_enumT {F H : Hp} {a : Addr} {vs : List V} {ds : List D} (hK : X.K = C.K) (h : SqT C.K F a vs) (l : DvL C F vs ds) : RelJ C fr F H (IteT X.K a) (enumD 0 ds) := by
  refine ⟨fun H => SqT X.K H a vs, YPair (fun i => some (.int (i : Nat))) (fun i => vs[i]?), by rw [enumD_length, ← l.length]; exact walk_enumT, fun F2 H2 p => by rw [hK]; exact p.2.1.sqt (p.1.sqt h), fun i H2 x H3 F2 g2 hi p st y => enum_pair st (l.mono p.1) y⟩
theorem si_enum {elts : List Expr} {kk : Nat} {tpos : Pos} (hK : X.K = C.K) (hg : Gl X "enumerate") (hm : X.mg "enumerate" = none) (ha : SE C X W a fa) (hs : starEach [a] X.env = [(false, eval a X.env)]) :
    SI C X W fr (.Tuple elts kk tpos) (.Call (.Name "enumerate" p) [a] [] pos) (fun ρ => M.bind (fa ρ) fun x => M.bind (lft (listD x)) fun ds => M.ret (enumD 0 ds)) := by
  obtain ⟨ta, pa, ka⟩ := ha
  refine ⟨_, pi_enumA hg hm (pa_cons pa pa_nil hs) hs, fun σ F H ρ g R s hw => ka σ F H ρ g _ s (hw.bind.mono ?_)⟩
  rintro x H1 ⟨F1, g1, dx, x1, t1, r1, w1⟩
  cases dx with
  | lst ds =>
    cases r1 with
    | lst h l => exact ⟨_, _, rfl, .inl ⟨.inl (.inl (t1.sub _ _ h)), Want.ret (g := g1) w1 t1 (relJ_enumL h l)⟩⟩
  | tup ds =>
    cases r1 with
    | tup h l => exact ⟨_, _, rfl, .inr ⟨by rw [hK]; exact t1.sub.sqt h, Want.ret (g := g1) w1 t1 (relJ_enumT hK h l)⟩⟩
  | _ => exact w1.elim

/-! ### targets -/
/-- x, or (a, b, ..) of names: the slots that are bound -/
inductive Tg where
  | one (i : Nat) | many (is : List Nat)
def bindL : List Nat → List D → Env → Option Env
  | [], [], ρ => some ρ
  | i :: is, d :: ds, ρ => bindL is ds (ρ.set i (.v d))
  | _, _, _ => none
theorem bindL_length : ∀ {is : List Nat} {ds : List D} {ρ ρ' : Env}, bindL is ds ρ = some ρ' → ds.length = is.length
  | [], [], _, _, _ => rfl
  | [], _ :: _, _, _, e => by cases e
  | _ :: _, [], _, _, e => by cases e
  | i :: is, d :: ds, ρ, ρ', e => by simp [bindL_length (is := is) (ds := ds) e]
def Tg.bind : Tg → D → Env → Option Env
  | .one i, d, ρ => some (ρ.set i (.v d))
  | .many is, .tup ds, ρ => bindL is ds ρ
  | _, _, _ => none
def Tg.slots : Tg → List Nat
  | .one i => [i]
  | .many is => is
/-- a target, from values to data -/
def SG (C : Cfg) (X : Cx) (tg : Expr) (t : Tg) : Prop :=
  ∃ g, PG X tg g ∧ ∀ σ F H ρ gg v d ρ' Q, SRe C σ F H ρ gg → Dv C F v d → t.bind d ρ = some ρ' → (∀ σ', SRe C σ' F H ρ' gg → (∀ j, j ∉ t.slots → σ'[j]? = σ[j]?) → Q σ' H) → g v σ H Q
theorem SRe.set {σ : St} {F H : Hp} {ρ : Env} {g : G} {i : Nat} {v : V} {d : D} (s : SRe C σ F H ρ g) (h : Dv C F v d) : SRe C (σ.set i (some v)) F H (ρ.set i (.v d)) g := by
  refine ⟨s.st, by simpa using s.len, fun j q e => ?_⟩
  by_cases hj : i = j
  · subst hj
    by_cases hl : i < ρ.length
    · rw [List.getElem?_set_self hl] at e
      cases e
      exact ⟨v, by rw [List.getElem?_set_self (by rw [← s.len]; exact hl)], h⟩
    · rw [List.getElem?_eq_none (by simpa using hl)] at e; cases e
  · rw [List.getElem?_set_ne hj] at e
    have z := s.slot j q e
    cases q with
    | no => trivial
    | v d' => obtain ⟨v', e1, h1⟩ := z; exact ⟨v', by rw [List.getElem?_set_ne hj]; exact e1, h1⟩
    | ol ds => obtain ⟨a, vs, e1, h1⟩ := z; exact ⟨a, vs, by rw [List.getElem?_set_ne hj]; exact e1, h1⟩
    | oi c ds => obtain ⟨a, dx, fs, e1, h1⟩ := z; exact ⟨a, dx, fs, by rw [List.getElem?_set_ne hj]; exact e1, h1⟩
    | ex c ds => obtain ⟨a, dd, h1, e1, h2⟩ := z; exact ⟨a, dd, h1, by rw [List.getElem?_set_ne hj]; exact e1, h2⟩
theorem sg_one {i : Nat} {x : Str} (hN : X.N.Nodup) (hi : X.N[i]? = some x) (hx : Loc X.env.scope x) (hf : X.fn x = true ∨ X.env.scope.names.lookup x = some .local) : SG C X (.Name x pos) (.one i) := by
  refine ⟨_, pg_name hN hi hx hf, fun σ F H ρ gg v d ρ' Q s h e k => ?_⟩
  cases e
  exact k _ (s.set h) fun j hj => by rw [List.getElem?_set_ne (by intro z; subst z; exact hj (by simp [Tg.slots]))]
/-- several names, one after another -/
def SGs (C : Cfg) (X : Cx) (ts : List Expr) (is : List Nat) : Prop :=
  ∃ g, PGs X ts g ∧ ∀ σ F H ρ gg vs ds ρ' Q, SRe C σ F H ρ gg → DvL C F vs ds → bindL is ds ρ = some ρ' → (∀ σ', SRe C σ' F H ρ' gg → (∀ j, j ∉ is → σ'[j]? = σ[j]?) → Q σ' H) → g vs σ H Q
theorem sgs_nil : SGs C X [] [] := by
  refine ⟨_, pgs_nil, fun σ F H ρ gg vs ds ρ' Q s l e k => ?_⟩
  cases l with
  | nil => cases e; exact ⟨rfl, k _ s fun _ _ => rfl⟩
  | cons h t => cases e
theorem sgs_cons {i : Nat} {x : Str} {ts : List Expr} {is : List Nat} (hN : X.N.Nodup) (hi : X.N[i]? = some x) (hx : Loc X.env.scope x) (hf : X.fn x = true ∨ X.env.scope.names.lookup x = some .local) (h2 : SGs C X ts is)
    (hs : (assignEach (Expr.Name x pos :: ts) X.env).map (·.2) = assign (.Name x pos) X.env :: (assignEach ts X.env).map (·.2)) : SGs C X (.Name x pos :: ts) (i :: is) := by
  obtain ⟨g2, p2, k2⟩ := h2
  refine ⟨_, pgs_cons (pg_name hN hi hx hf) p2 hs, fun σ F H ρ gg vs ds ρ' Q s l e k => ?_⟩
  cases l with
  | nil => cases e
  | cons h t =>
    refine ⟨_, _, rfl, k2 _ F H _ gg _ _ ρ' Q (s.set h) t e fun σ' s' fr => k σ' s' fun j hj => ?_⟩
    rw [fr j (fun z => hj (List.mem_cons_of_mem _ z)), List.getElem?_set_ne (by intro z; subst z; exact hj List.mem_cons_self)]
theorem sg_many {es : List Expr} {k : Nat} {is : List Nat} (hK : X.K = C.K) (hc : X.calm = true) (h : SGs C X es is) (hn : (assignEach es X.env).length = is.length) (hst : (assignEach es X.env).findIdx? (·.1) = none) : SG C X (.Tuple es k pos) (.many is) := by
  obtain ⟨g, p, kk⟩ := h
  refine ⟨_, pg_tup hc p hn hst, fun σ F H ρ gg v d ρ' Q s hd e k => ?_⟩
  cases d with
  | tup ds =>
    cases hd with
    | tup h l =>
      have e' : bindL is ds ρ = some ρ' := e
      refine ⟨_, _, rfl, by rw [hK]; exact s.st.sub.sqt h, ?_, kk σ F H ρ gg _ _ ρ' Q s l e' k⟩
      rw [l.length]
      exact bindL_length e'
  | _ => cases e
end
end DS

set_option Elab.async false
set_option linter.all false
set_option maxRecDepth 100000
set_option maxHeartbeats 4000000
/-! DS, part 6: list comprehensions -/
namespace DS
open PySem L2
/-! ### a list just made: one's own -/
def relO (C : Cfg) (H0 : Hp) : Hp → Hp → V → List D → Prop := fun F H v ds => ∃ a vs, v = .ref a ∧ H0 a = none ∧ H a = some (.lst vs) ∧ F a = none ∧ a ≠ C.R ∧ DvL C F vs ds
def SL (C : Cfg) (X : Cx) (W : WX) (e : Expr) (f : Env → M (List D)) : Prop :=
  ∃ t, PE X e t ∧ ∀ σ F H ρ g Q, SRe C σ F H ρ g → Want C W σ F H (relO C H) (f ρ g) Q → t σ H Q
/-- frozen from now on -/
theorem Ext.fz {C : Cfg} {F0 H0 F H : Hp} {g : G} {a : Addr} {vs : List V} (x : Ext C.R F0 H0 F H) (t : St0 C F H g) (h0 : H0 a = none) (h : H a = some (.lst vs)) (hF : F a = none) (hR : a ≠ C.R) : Ext C.R F0 H0 (upd F a (.lst vs)) H ∧ St0 C (upd F a (.lst vs)) H g ∧ Sub F (upd F a (.lst vs)) := by
  have sb : Sub F (upd F a (.lst vs)) := fun b o e => by rw [upd_ne (ne_of_none e hF)]; exact e
  refine ⟨⟨x.sub.trans sb, x.frm, fun b o e => ?_⟩, ⟨fun b o e => ?_, by rw [upd_ne (Ne.symm hR)]; exact t.rowF, t.rowH, Sub.sql sb t.scr⟩, sb⟩
  · by_cases hb : b = a
    · subst hb; exact .inr ⟨h0, hR⟩
    · rw [upd_ne hb] at e; exact x.new b o e
  · by_cases hb : b = a
    · subst hb; rw [upd_same] at e; cases e; exact h
    · rw [upd_ne hb] at e; exact t.sub b o e
def M.lst (m : M (List D)) : M D := M.bind m fun ds => M.ret (.lst ds)
section
variable {C : Cfg} {X : Cx} {W : WX} {e : Expr} {es : List Expr} {pos : Pos}
theorem SL.fz {f : Env → M (List D)} (h : SL C X W e f) : SE C X W e (fun ρ => (f ρ).lst) := by
  obtain ⟨t, p, k⟩ := h
  refine ⟨t, p, fun σ F H ρ g Q s hw => k σ F H ρ g Q s ?_⟩
  have hw : Want C W σ F H (relD C) (M.bind (f ρ) (fun ds => M.ret (.lst ds)) g) Q := hw
  unfold M.bind at hw
  cases q : f ρ g with
  | ok ds g1 =>
    rw [q] at hw
    have hw : Want C W σ F H (relD C) (Res.ok (DS.D.lst ds) g1) Q := hw
    rintro v F' H' x t ⟨a, vs, rfl, h0, h1, h2, h3, h4⟩
    obtain ⟨x2, t2, sb⟩ := Ext.fz x t h0 h1 h2 h3
    exact hw _ _ _ x2 t2 (.lst upd_same (h4.mono sb))
  | err c fs g1 => rw [q] at hw; exact hw
  | stuck => rw [q] at hw; exact hw.elim
def szM (ds : List D) : M (List D) := lft (if ds.length ≤ sizeLine then some ds else none)
theorem sl_lst {fs : Env → M (List D)} (h : SA C X W es fs) : SL C X W (.List es pos) (fun ρ => M.bind (fs ρ) szM) := by
  obtain ⟨ta, pa, ka⟩ := h
  refine ⟨_, pe_lst pa, fun σ F H ρ g Q s hw => ka σ F H ρ g _ s ?_⟩
  have hw : Want C W σ F H (relO C H) (M.bind (fs ρ) szM g) Q := hw
  unfold M.bind at hw
  cases q : fs ρ g with
  | ok ds g1 =>
    rw [q] at hw
    rintro v F' H' x t r
    have hw : Want C W σ F H (relO C H) (szM ds g1) Q := hw
    unfold szM at hw
    by_cases c : ds.length ≤ sizeLine
    · rw [if_pos c] at hw
      have hw : Want C W σ F H (relO C H) (Res.ok ds g1) Q := hw
      refine ⟨by rw [r.length]; exact c, fun p np => ?_⟩
      have pR : p ≠ C.R := fun z => by rw [z, t.rowH] at np; cases np
      have nF : F' p = none := by
        cases q : F' p with
        | none => rfl
        | some u => rw [t.sub p u q] at np; cases np
      have n0 : H p = none := by
        cases q : H p with
        | none => rfl
        | some u => rw [x.frm p u pR q] at np; cases np
      obtain ⟨x2, t2⟩ := Ext.own t np (.lst v)
      exact hw _ _ _ (x.trans x2) t2 ⟨p, v, rfl, n0, upd_same, nF, pR, r⟩
    · rw [if_neg c] at hw; exact hw.elim
  | err c fs g1 => rw [q] at hw; exact hw
  | stuck => rw [q] at hw; exact hw.elim
end
abbrev WF : WX := fun _ _ _ _ => False
def noErr {α : Type} (m : M α) : M α := fun g => match m g with
  | .ok a g' => .ok a g'
  | _ => .stuck
def wipeE (ρ : Env) : List Nat → Env
  | [] => ρ
  | v :: vs => (wipeE ρ vs).set v .no
/-- the items kept, one after another -/
def compM (bd : D → Env → Option Env) (cond : Env → M Bool) (elt : Env → M D) (ρ : Env) : List D → M (List D)
  | [] => M.ret []
  | d :: ds => M.bind (lft (bd d ρ)) fun ρ1 => M.bind (noErr (cond ρ1)) fun b =>
      if b = true then M.bind (noErr (elt ρ1)) fun y => M.bind (compM bd cond elt ρ ds) fun r => M.ret (y :: r) else compM bd cond elt ρ ds
section
variable {C : Cfg} {X : Cx} {W : WX} {e a b : Expr} {es : List Expr} {pos p : Pos} {rel : Hp → Hp → V → D → Prop}
theorem SEx.unif {Xs : Cx → Prop} {f : Env → M D} (h : ∀ X, Xs X → SEx C X W rel e f) : ∃ t, (∀ X, Xs X → PE X e t) ∧ ∀ σ F H ρ g Q, SRe C σ F H ρ g → Want C W σ F H rel (f ρ g) Q → t σ H Q :=
  ⟨fun σ H Q => ∀ X, Xs X → ∀ pins s, Inv X pins σ H s → wpAny (model X.prog X.w) X.A (eval e X.env) (EP X pins σ Q) X.xe s, fun X hX => ⟨fun pins s σ H Q I h => h X hX pins s I⟩,
    fun σ F H ρ g Q s hw X hX pins st I => by obtain ⟨t, p, k⟩ := h X hX; exact p.run pins st σ H Q I (k σ F H ρ g Q s hw)⟩
theorem SG.unif {Xs : Cx → Prop} {tg : Expr} {t : Tg} (h : ∀ X, Xs X → SG C X tg t) : ∃ g, (∀ X, Xs X → PG X tg g) ∧ ∀ σ F H ρ gg v d ρ' Q, SRe C σ F H ρ gg → Dv C F v d → t.bind d ρ = some ρ' → (∀ σ', SRe C σ' F H ρ' gg → (∀ j, j ∉ t.slots → σ'[j]? = σ[j]?) → Q σ' H) → g v σ H Q :=
  ⟨fun v σ H Q => ∀ X, Xs X → ∀ pins s u, Inv X pins σ H s → RelV v u → wpAny (model X.prog X.w) X.A (assign tg X.env u) (fun _ s' => ∃ σ' H', Inv X pins σ' H' s' ∧ Q σ' H') X.xe s, fun X hX => ⟨fun pins s σ H v u Q I r h => h X hX pins s u I r⟩,
    fun σ F H ρ gg v d ρ' Q s hd e k X hX pins st u I r => by obtain ⟨t, p, kk⟩ := h X hX; exact p.run pins st σ H v u Q I r (kk σ F H ρ gg v d ρ' Q s hd e k)⟩
/-- a clause's tests -/
def STs (C : Cfg) (X : Cx) (W : WX) (ifs : List Expr) (f : Env → M Bool) : Prop :=
  ∃ t, PTs X ifs t ∧ ∀ σ F H ρ g Q, SRe C σ F H ρ g → Want C W σ F H relB (f ρ g) Q → t σ H Q
theorem sts_nil : STs C X W [] (fun _ => M.ret true) := ⟨_, pts_nil, fun σ F H ρ g Q s hw => Want.ret (g := g) hw s.st rfl⟩
theorem sts_one {f : Env → M Bool} (h : ST C X W a f) : STs C X W [a] f := by
  obtain ⟨t, p, k⟩ := h
  exact ⟨t, pts_one p, k⟩
theorem STs.unif {Xs : Cx → Prop} {ifs : List Expr} {f : Env → M Bool} (h : ∀ X, Xs X → STs C X W ifs f) : ∃ t, (∀ X, Xs X → PTs X ifs t) ∧ ∀ σ F H ρ g Q, SRe C σ F H ρ g → Want C W σ F H relB (f ρ g) Q → t σ H Q :=
  ⟨fun σ H Q => ∀ X, Xs X → ∀ pins s, Inv X pins σ H s → wpAny (model X.prog X.w) X.A (forIn ifs true fun c r => if r = true then do let ok ← isTrue c X.env (eval c X.env); pure (ForInStep.yield ok) else pure (ForInStep.yield r)) (TP X pins σ Q) X.xe s,
    fun X hX => ⟨fun pins s σ H Q I h => h X hX pins s I⟩,
    fun σ F H ρ g Q s hw X hX pins st I => by obtain ⟨t, p, k⟩ := h X hX; exact p.run pins st σ H Q I (k σ F H ρ g Q s hw)⟩

theorem wipe_get (σ : St) : ∀ (vs : List Nat) (j : Nat), (wipe σ vs)[j]? = if j ∈ vs ∧ j < σ.length then some none else σ[j]?
  | [], j => by simp [wipe]
  | v :: vs, j => by
    have ih := wipe_get σ vs j
    unfold wipe
    by_cases h : v = j
    · subst h
      by_cases hl : v < σ.length
      · rw [List.getElem?_set_self (by rw [wipe_length]; exact hl)]
        simp [hl]
      · rw [List.getElem?_eq_none (by simp [wipe_length]; omega), if_neg (by omega), List.getElem?_eq_none (by omega)]
    · rw [List.getElem?_set_ne h, ih]
      have hne : ¬ j = v := fun z => h z.symm
      simp [hne]
theorem wipe_same {σ σ2 : St} {vs : List Nat} (hl : σ2.length = σ.length) (h : ∀ j, j ∉ vs → σ2[j]? = (wipe σ vs)[j]?) : wipe σ2 vs = wipe σ vs := by
  refine List.ext_getElem? fun j => ?_
  rw [wipe_get, wipe_get, hl]
  by_cases hj : j ∈ vs
  · by_cases hlt : j < σ.length
    · simp [hj, hlt]
    · rw [if_neg (by simp [hlt]), if_neg (by simp [hlt]), List.getElem?_eq_none (by omega), List.getElem?_eq_none (by omega)]
  · rw [if_neg (by simp [hj]), if_neg (by simp [hj]), h j hj, wipe_get, if_neg (by simp [hj])]
theorem wipeE_length (ρ : Env) : ∀ vs : List Nat, (wipeE ρ vs).length = ρ.length
  | [] => rfl
  | v :: vs => by unfold wipeE; rw [List.length_set, wipeE_length ρ vs]
theorem wipeE_some {ρ : Env} {i : Nat} {x : Sl} : ∀ {vs : List Nat}, (wipeE ρ vs)[i]? = some x → x ≠ .no → ρ[i]? = some x ∧ i ∉ vs
  | [], h, _ => ⟨h, by simp⟩
  | v :: vs, h, hx => by
    unfold wipeE at h
    by_cases hi : v = i
    · subst hi
      by_cases hv : v < (wipeE ρ vs).length
      · rw [List.getElem?_set_self hv] at h; cases h; exact absurd rfl hx
      · rw [List.getElem?_eq_none (by simpa using hv)] at h; cases h
    · rw [List.getElem?_set_ne hi] at h
      obtain ⟨h1, h2⟩ := wipeE_some h hx
      exact ⟨h1, by simp only [List.mem_cons, not_or]; exact ⟨fun e => hi e.symm, h2⟩⟩
theorem SRe.wipe {σ : St} {F H : Hp} {ρ : Env} {g : G} (s : SRe C σ F H ρ g) (vs : List Nat) : SRe C (L2.wipe σ vs) F H (wipeE ρ vs) g := by
  refine ⟨s.st, by rw [wipeE_length, wipe_length]; exact s.len, fun i q e => ?_⟩
  by_cases hq : q = .no
  · subst hq; trivial
  · obtain ⟨e1, hi⟩ := wipeE_some e hq
    have z := s.slot i q e1
    have w : (L2.wipe σ vs)[i]? = σ[i]? := by rw [wipe_get, if_neg (by simp [hi])]
    cases q with
    | no => trivial
    | v d => obtain ⟨v, e2, h⟩ := z; exact ⟨v, by rw [w]; exact e2, h⟩
    | ol ds => obtain ⟨a, vs', e2, h⟩ := z; exact ⟨a, vs', by rw [w]; exact e2, h⟩
    | oi c ds => obtain ⟨a, dx, fs, e2, h⟩ := z; exact ⟨a, dx, fs, by rw [w]; exact e2, h⟩
    | ex c ds => obtain ⟨a, dd, h1, e2, h⟩ := z; exact ⟨a, dd, h1, by rw [w]; exact e2, h⟩
theorem noErr_ok {α : Type} {m : M α} {g g' : G} {x : α} (h : noErr m g = .ok x g') : m g = .ok x g' := by
  unfold noErr at h
  cases e : m g with
  | ok a g1 => rw [e] at h; exact h
  | err c fs g1 => rw [e] at h; cases h
  | stuck => rw [e] at h; cases h
theorem noErr_cases {α : Type} (m : M α) (g : G) : (∃ x g', noErr m g = .ok x g') ∨ noErr m g = .stuck := by
  unfold noErr
  cases m g with
  | ok a g1 => exact .inl ⟨_, _, rfl⟩
  | err c fs g1 => exact .inr rfl
  | stuck => exact .inr rfl
/-- r behind what is done -/
def pre (acc : List D) (r : Res (List D)) : Res (List D) := match r with
  | .ok l g => .ok (acc ++ l) g
  | .err c fs g => .err c fs g
  | .stuck => .stuck
theorem pre_nil (r : Res (List D)) : pre [] r = r := by cases r <;> rfl
theorem compM_step {bd : D → Env → Option Env} {cond : Env → M Bool} {elt : Env → M D} {ρ : Env} {d : D} {ds : List D} {g : G} (h : compM bd cond elt ρ (d :: ds) g ≠ .stuck) :
    ∃ ρ1 b g1, bd d ρ = some ρ1 ∧ cond ρ1 g = .ok b g1 ∧ ((b = true ∧ ∃ y g2, elt ρ1 g1 = .ok y g2 ∧ compM bd cond elt ρ (d :: ds) g = pre [y] (compM bd cond elt ρ ds g2)) ∨ (b = false ∧ compM bd cond elt ρ (d :: ds) g = compM bd cond elt ρ ds g1)) := by
  have ec : compM bd cond elt ρ (d :: ds) g = M.bind (lft (bd d ρ)) (fun ρ1 => M.bind (noErr (cond ρ1)) fun b =>
      if b = true then M.bind (noErr (elt ρ1)) fun y => M.bind (compM bd cond elt ρ ds) fun r => M.ret (y :: r) else compM bd cond elt ρ ds) g := rfl
  rw [ec] at h ⊢
  clear ec
  cases e1 : bd d ρ with
  | none => rw [e1] at h; exact absurd rfl h
  | some ρ1 =>
    rw [e1] at h
    have h : M.bind (noErr (cond ρ1)) (fun b => if b = true then M.bind (noErr (elt ρ1)) fun y => M.bind (compM bd cond elt ρ ds) fun r => M.ret (y :: r) else compM bd cond elt ρ ds) g ≠ .stuck := h
    unfold M.bind at h
    rcases noErr_cases (cond ρ1) g with ⟨b, g1, q⟩ | q
    · rw [q] at h
      refine ⟨ρ1, b, g1, rfl, noErr_ok q, ?_⟩
      have e2 : M.bind (lft (some ρ1)) (fun ρ1 => M.bind (noErr (cond ρ1)) fun b => if b = true then M.bind (noErr (elt ρ1)) fun y => M.bind (compM bd cond elt ρ ds) fun r => M.ret (y :: r) else compM bd cond elt ρ ds) g
          = (if b = true then M.bind (noErr (elt ρ1)) fun y => M.bind (compM bd cond elt ρ ds) fun r => M.ret (y :: r) else compM bd cond elt ρ ds) g1 := by
        show M.bind (noErr (cond ρ1)) _ g = _
        unfold M.bind
        rw [q]
      rw [e2]
      cases b with
      | false => exact .inr ⟨rfl, rfl⟩
      | true =>
        refine .inl ⟨rfl, ?_⟩
        have h : M.bind (noErr (elt ρ1)) (fun y => M.bind (compM bd cond elt ρ ds) fun r => M.ret (y :: r)) g1 ≠ .stuck := h
        show ∃ y g2, _ ∧ M.bind (noErr (elt ρ1)) (fun y => M.bind (compM bd cond elt ρ ds) fun r => M.ret (y :: r)) g1 = _
        unfold M.bind at h ⊢
        rcases noErr_cases (elt ρ1) g1 with ⟨y, g2, q2⟩ | q2
        · refine ⟨y, g2, noErr_ok q2, ?_⟩
          rw [q2]
          dsimp only
          cases compM bd cond elt ρ ds g2 <;> rfl
        · rw [q2] at h; exact absurd rfl h
    · rw [q] at h; exact absurd rfl h
theorem pre_pre (a b : List D) (r : Res (List D)) : pre a (pre b r) = pre (a ++ b) r := by cases r <;> simp [pre]
theorem Ext.upd {F H F' H' : Hp} {g : G} {p : Addr} {o u : HO} (st : St0 C F H g) (hp : H p = some o) (hF : F p = none) (hR : p ≠ C.R) : St0 C F (L2.upd H p u) g :=
  ⟨fun a v e => by
    by_cases h : a = p
    · subst h; rw [hF] at e; cases e
    · rw [upd_ne h]; exact st.sub a v e, st.rowF, by rw [upd_ne (Ne.symm hR)]; exact st.rowH, st.scr⟩
theorem bindL_len : ∀ {is : List Nat} {ds : List D} {ρ ρ' : Env}, bindL is ds ρ = some ρ' → ρ'.length = ρ.length
  | [], [], _, _, e => by cases e; rfl
  | [], _ :: _, _, _, e => by cases e
  | _ :: _, [], _, _, e => by cases e
  | i :: is, d :: ds, ρ, ρ', e => by
    have := bindL_len (is := is) (ds := ds) e
    rw [this, List.length_set]
theorem Tg.bind_len {t : Tg} {d : D} {ρ ρ' : Env} (h : t.bind d ρ = some ρ') : ρ'.length = ρ.length := by
  cases t with
  | one k => cases h; simp
  | many is =>
    cases d with
    | tup dd => exact bindL_len h
    | _ => cases h
/-- [elt for tg in src if cond] -/
theorem sl_lc {elt tg iter : Expr} {ifs : List Expr} {scope : Scope} {own : List (Str × Nat)} {fs : Env → M (List D)} {t : Tg} {fc : Env → M Bool} {fe : Env → M D}
    (hc : X.calm = true) (hN : X.N.Nodup) (hi : SI C X W false tg iter fs) (ok : BlkOk X.N X.env.scope scope own) (hown : own.map (·.2) = t.slots)
    (hg : ∀ (s : Shared) (H : Hp) (Ca : Addr) (cl : List (Str × Addr)) (fp : List Addr), SG C (X.blk s H scope (compEnvC scope cl Ca X.env) fp) tg t)
    (ht : ∀ (s : Shared) (H : Hp) (Ca : Addr) (cl : List (Str × Addr)) (fp : List Addr), STs C (X.blk s H scope (compEnvC scope cl Ca X.env) fp) WF ifs fc)
    (he : ∀ (s : Shared) (H : Hp) (Ca : Addr) (cl : List (Str × Addr)) (fp : List Addr), SE C (X.blk s H scope (compEnvC scope cl Ca X.env) fp) WF elt fe) (hs : ∀ x, foldedSetIterable iter X.env x = pure x) :
    ∃ (tw : TE), (PE X (.ListComp elt [⟨tg, iter, ifs, 0⟩] scope pos) tw ∧ ∀ (i : Nat) (y : Str) (py spos : Pos), X.N[i]? = some y → X.env.scope.names.lookup y = some .local →
        swapsWith (.ListComp elt [⟨tg, iter, ifs, 0⟩] scope pos) (some (.Name y py)) spos.line X.env = pure true → PS X (.Assign [.Name y py] (.ListComp elt [⟨tg, iter, ifs, 0⟩] scope pos) spos) (tAsg tw (gName i))) ∧
      ∀ σ F H ρ g Q, SRe C σ F H ρ g → Want C W σ F H (relO C H) (M.bind (fs ρ) (fun ds => M.bind (szM ds) fun ds => compM t.bind fc fe (wipeE ρ t.slots) ds) g) Q → tw σ H Q := by
  obtain ⟨wi, pi, ki⟩ := hi
  obtain ⟨gg, pg, kg⟩ := SG.unif (Xs := fun Y => ∃ s H Ca cl fp, Y = X.blk s H scope (compEnvC scope cl Ca X.env) fp) fun Y ⟨s, H, Ca, cl, fp, e⟩ => by rw [e]; exact hg s H Ca cl fp
  obtain ⟨tt, pt, kt⟩ := STs.unif (Xs := fun Y => ∃ s H Ca cl fp, Y = X.blk s H scope (compEnvC scope cl Ca X.env) fp) fun Y ⟨s, H, Ca, cl, fp, e⟩ => by rw [e]; exact ht s H Ca cl fp
  obtain ⟨te, pe, ke⟩ := SEx.unif (Xs := fun Y => ∃ s H Ca cl fp, Y = X.blk s H scope (compEnvC scope cl Ca X.env) fp) fun Y ⟨s, H, Ca, cl, fp, e⟩ => by rw [e]; exact he s H Ca cl fp
  refine ⟨tLc wi gg tt te (own.map (·.2)), ⟨pe_lc hc hN pi ok (fun s H Ca cl fp => pg _ ⟨s, H, Ca, cl, fp, rfl⟩) (fun s H Ca cl fp => pt _ ⟨s, H, Ca, cl, fp, rfl⟩) (fun s H Ca cl fp => pe _ ⟨s, H, Ca, cl, fp, rfl⟩) hs, fun i y py spos h1 h2 h3 =>
    ps_setLc hc hN h1 h2 h3 pi ok (fun s H Ca cl fp => pg _ ⟨s, H, Ca, cl, fp, rfl⟩) (fun s H Ca cl fp => pt _ ⟨s, H, Ca, cl, fp, rfl⟩) (fun s H Ca cl fp => pe _ ⟨s, H, Ca, cl, fp, rfl⟩) hs⟩, fun σ F H ρ g Q s hw => ?_⟩
  rw [hown]
  refine ki σ F H ρ g _ s (hw.bind.mono ?_)
  rintro J H1 ⟨F1, g1, ds, x1, t1, ⟨Gh, Y, wk, hG, hY⟩, w1⟩
  have s1 := s.ext x1 t1
  unfold szM at w1
  by_cases hz : ds.length ≤ sizeLine
  · rw [if_pos hz] at w1
    have w1 : Want C W σ F1 H1 (relO C H) (compM t.bind fc fe (wipeE ρ t.slots) ds g1) Q := w1
    generalize hρ : wipeE ρ t.slots = ρ0 at w1
    intro D nD
    have DR : D ≠ C.R := fun z => by rw [z, t1.rowH] at nD; cases nD
    have nF1 : F1 D = none := by
      cases q : F1 D with
      | none => rfl
      | some u => rw [t1.sub D u q] at nD; cases nD
    have nH : H D = none := by
      cases q : H D with
      | none => rfl
      | some u => rw [x1.frm D u DR q] at nD; cases nD
    have ns : compM t.bind fc fe ρ0 ds g1 ≠ .stuck := fun z => by
      rw [z] at w1
      exact w1
    refine lc_it (vs := t.slots) (σ := σ) wk (fun i H2 => ∃ F2 g2 acc ad, Ext C.R F1 H1 F2 H2 ∧ St0 C F2 H2 g2 ∧ H2 D = some (.lst acc) ∧ F2 D = none ∧ DvL C F2 acc ad ∧ ad.length ≤ i ∧ compM t.bind fc fe ρ0 ds g1 = pre ad (compM t.bind fc fe ρ0 (ds.drop i) g2)) ?_ ?_ ?_ ?_
    · obtain ⟨x2, t2⟩ := Ext.own t1 nD (.lst [])
      exact ⟨F1, g1, [], [], x2, t2, upd_same, nF1, .nil, Nat.le_refl _, by rw [pre_nil, List.drop_zero]⟩
    · rintro i H2 hi ⟨F2, g2, acc, ad, x2, t2, hD, hF, la, hl, hm⟩
      exact hG F2 H2 ⟨x2.sub, t2.sub, fun _ => x2.frm⟩
    · rintro i x H2 H3 hi ⟨F2, g2, acc, ad, x2, t2, hD, hF, la, hl, hm⟩ hy
      obtain ⟨F3, d, x3, t3, hd, rd⟩ := hY i H2 x H3 F2 g2 hi ⟨x2.sub, t2.sub, fun _ => x2.frm⟩ t2 hy
      have hdr : ds.drop i = d :: ds.drop (i + 1) := by
        obtain ⟨hlt, e⟩ := List.getElem?_eq_some_iff.mp hd
        rw [List.drop_eq_getElem_cons hlt, e]
      rw [hdr] at hm
      have ns2 : compM t.bind fc fe ρ0 (d :: ds.drop (i + 1)) g2 ≠ .stuck := fun z => by rw [z] at hm; exact ns hm
      obtain ⟨ρ1, bb, g3, hb, hcnd, hrest⟩ := compM_step ns2
      have keepD : ∀ {F3 H3 : Hp}, Ext C.R F2 H2 F3 H3 → H3 D = some (.lst acc) ∧ F3 D = none := fun {F3 H3} x => by
        refine ⟨x.frm D _ DR hD, ?_⟩
        cases q : F3 D with
        | none => rfl
        | some u =>
          rcases x.new D u q with z | ⟨z, _⟩
          · rw [hF] at z; cases z
          · rw [hD] at z; cases z
      have sw : SRe C (L2.wipe σ t.slots) F3 H3 ρ0 g2 := by
        rw [← hρ]
        exact (s1.wipe t.slots).ext (x2.trans x3) t3
      refine kg _ F3 H3 ρ0 g2 x d ρ1 _ sw rd hb fun σ2 s2 fr => ⟨?_, ?_⟩
      · exact wipe_same (by rw [← s2.len, show ρ1.length = ρ0.length from Tg.bind_len hb, sw.len, wipe_length]) fr
      · refine kt _ F3 H3 ρ1 g2 _ s2 ?_
        rw [hcnd]
        intro b' F4 H4 x4 t4 eb
        subst eb
        have x24 := x3.trans x4
        rcases hrest with ⟨hb1, y, g4, hel, hr⟩ | ⟨hb1, hr⟩
        · subst hb1
          rw [if_pos rfl]
          refine ke _ F4 H4 ρ1 g3 _ (s2.ext x4 t4) ?_
          rw [hel]
          intro v F5 H5 x5 t5 rv
          have x25 := x24.trans x5
          obtain ⟨hD5, hF5⟩ := keepD x25
          have hz2 : acc.length < sizeLine := by rw [la.length]; omega
          refine ⟨acc, hD5, hz2, F5, g4, acc ++ [v], ad ++ [y], ?_, Ext.upd (F' := F5) (H' := H5) t5 hD5 hF5 DR, upd_same, hF5, (la.mono x25.sub).append (.cons rv .nil), by simp; omega, ?_⟩
          · refine ⟨x2.sub.trans x25.sub, fun a o n e => ?_, (x2.trans x25).new⟩
            rw [upd_ne (ne_of_none e nD)]
            exact (x2.trans x25).frm a o n e
          · rw [hm, hr, pre_pre]
        · subst hb1
          rw [if_neg Bool.false_ne_true]
          obtain ⟨hD4, hF4⟩ := keepD x24
          exact ⟨F4, g3, acc, ad, x2.trans x24, t4, hD4, hF4, la.mono x24.sub, by omega, by rw [hm, hr]⟩
    · rintro H2 ⟨F2, g2, acc, ad, x2, t2, hD, hF, la, hl, hm⟩
      rw [List.drop_length] at hm
      have hm : compM t.bind fc fe ρ0 ds g1 = .ok (ad ++ []) g2 := hm
      rw [List.append_nil] at hm
      rw [hm] at w1
      exact w1 (.ref D) F2 H2 x2 t2 ⟨D, acc, rfl, nH, hD, hF, DR, la⟩
  · rw [if_neg hz] at w1; exact w1.elim
end
end DS

set_option Elab.async false
set_option linter.all false
set_option maxRecDepth 100000
set_option maxHeartbeats 4000000
/-! DS, part 7: statements -/
namespace L2
open PySem PySem.Spec PyProof.Rows
theorem PSs.imp {X : Cx} {sts : List Stmt} {t u : TS} (h : PSs X sts t) (k : ∀ D σ H, u D σ H → t D σ H) : PSs X sts u := ⟨fun pins s σ H D I q => h.run pins s σ H D I (k D σ H q)⟩
theorem PS.imp {X : Cx} {st : Stmt} {t u : TS} (h : PS X st t) (k : ∀ D σ H, u D σ H → t D σ H) : PS X st u := ⟨fun pins s σ H D I q => h.run pins s σ H D I (k D σ H q)⟩
end L2
namespace DS
open PySem L2
/-- what a block comes to -/
inductive Rs where
  | nx (ρ : Env) (g : G) | rt (d : D) (g : G) | er (c : Nat) (fs : List D) (ρ : Env) (g : G) | stuck
abbrev MS := Env → G → Rs
def Sl.isO : Sl → Bool
  | .ol _ => true
  | .oi _ _ => true
  | _ => false
structure SRs (C : Cfg) (F0 H0 : Hp) (σ : St) (F H : Hp) (ρ : Env) (g : G) : Prop where
  re : SRe C σ F H ρ g
  ex : Ext C.R F0 H0 F H
  dis : ∀ (i j : Nat) (s t : Sl) (a : Addr), ρ[i]? = some s → ρ[j]? = some t → s.isO = true → t.isO = true → σ[i]? = some (some (.ref a)) → σ[j]? = some (some (.ref a)) → i = j
  fr : ∀ (i : Nat) (s : Sl) (a : Addr), ρ[i]? = some s → s.isO = true → σ[i]? = some (some (.ref a)) → H0 a = none
section
variable {C : Cfg} {F0 H0 : Hp} {σ : St} {F H F' H' : Hp} {ρ : Env} {g g' : G}
theorem SRs.ext (s : SRs C F0 H0 σ F H ρ g) (x : Ext C.R F H F' H') (t : St0 C F' H' g') : SRs C F0 H0 σ F' H' ρ g' := ⟨s.re.ext x t, s.ex.trans x, s.dis, s.fr⟩
/-- a slot is set -/
theorem SRe.put {i : Nat} {v : Option V} {sl : Sl} (s : SRe C σ F H ρ g) (h : i < σ.length → SlR C F H (σ.set i v) i sl) : SRe C (σ.set i v) F H (ρ.set i sl) g := by
  refine ⟨s.st, by simpa using s.len, fun j q e => ?_⟩
  by_cases hj : i = j
  · subst hj
    by_cases hl : i < ρ.length
    · rw [List.getElem?_set_self hl] at e
      cases e
      exact h (by rw [← s.len]; exact hl)
    · rw [List.getElem?_eq_none (by simpa using hl)] at e; cases e
  · rw [List.getElem?_set_ne hj] at e
    have z := s.slot j q e
    cases q with
    | no => trivial
    | v d' => obtain ⟨v', e1, h1⟩ := z; exact ⟨v', by rw [List.getElem?_set_ne hj]; exact e1, h1⟩
    | ol ds => obtain ⟨a, vs, e1, h1⟩ := z; exact ⟨a, vs, by rw [List.getElem?_set_ne hj]; exact e1, h1⟩
    | oi c ds => obtain ⟨a, dx, fs, e1, h1⟩ := z; exact ⟨a, dx, fs, by rw [List.getElem?_set_ne hj]; exact e1, h1⟩
    | ex c ds => obtain ⟨a, dd, h1, e1, h2⟩ := z; exact ⟨a, dd, h1, by rw [List.getElem?_set_ne hj]; exact e1, h2⟩
theorem SRs.put {i : Nat} {v : Option V} {sl : Sl} (s : SRs C F0 H0 σ F H ρ g) (h : i < σ.length → SlR C F H (σ.set i v) i sl) (ns : sl.isO = false) : SRs C F0 H0 (σ.set i v) F H (ρ.set i sl) g := by
  have old : ∀ {j : Nat} {t : Sl}, (ρ.set i sl)[j]? = some t → t.isO = true → i ≠ j ∧ ρ[j]? = some t := fun {j t} e ho => by
    by_cases hj : i = j
    · subst hj
      by_cases hl : i < ρ.length
      · rw [List.getElem?_set_self hl] at e; cases e; rw [ns] at ho; cases ho
      · rw [List.getElem?_eq_none (by simpa using hl)] at e; cases e
    · rw [List.getElem?_set_ne hj] at e; exact ⟨hj, e⟩
  refine ⟨s.re.put h, s.ex, fun j k a b x e1 e2 o1 o2 h1 h2 => ?_, fun j a x e o h1 => ?_⟩
  · obtain ⟨n1, e1'⟩ := old e1 o1
    obtain ⟨n2, e2'⟩ := old e2 o2
    rw [List.getElem?_set_ne n1] at h1
    rw [List.getElem?_set_ne n2] at h2
    exact s.dis j k a b x e1' e2' o1 o2 h1 h2
  · obtain ⟨n1, e1'⟩ := old e o
    rw [List.getElem?_set_ne n1] at h1
    exact s.fr j a x e1' o h1
theorem SRs.setV {i : Nat} {v : V} {d : D} (s : SRs C F0 H0 σ F H ρ g) (h : Dv C F v d) : SRs C F0 H0 (σ.set i (some v)) F H (ρ.set i (.v d)) g :=
  s.put (fun hl => ⟨v, by rw [List.getElem?_set_self hl], h⟩) rfl
theorem SRs.setN {i : Nat} {v : Option V} (s : SRs C F0 H0 σ F H ρ g) : SRs C F0 H0 (σ.set i v) F H (ρ.set i .no) g := s.put (fun _ => trivial) rfl
/-- an own thing's place -/
theorem SlR.own {i : Nat} {s : Sl} (h : SlR C F H σ i s) (o : s.isO = true) : ∃ a ho, σ[i]? = some (some (.ref a)) ∧ H a = some ho ∧ F a = none ∧ a ≠ C.R := by
  cases s with
  | ol ds => obtain ⟨a, vs, e, h1, h2, h3, h4⟩ := h; exact ⟨a, _, e, h1, h2, h3⟩
  | oi c ds => obtain ⟨a, dx, fs, e, h1, h2, h3, h4⟩ := h; exact ⟨a, _, e, h1, h2, h3⟩
  | _ => cases o
/-- own things set: a new one -/
theorem SRs.putO {i : Nat} {a : Addr} {sl : Sl} (s : SRs C F0 H0 σ F H ρ g) (h : i < σ.length → SlR C F H (σ.set i (some (.ref a))) i sl) (h0 : H0 a = none)
    (nw : ∀ j t, j ≠ i → ρ[j]? = some t → t.isO = true → σ[j]? ≠ some (some (.ref a))) : SRs C F0 H0 (σ.set i (some (.ref a))) F H (ρ.set i sl) g := by
  have get : ∀ {j : Nat} {t : Sl} {x : Addr}, (ρ.set i sl)[j]? = some t → (σ.set i (some (V.ref a)))[j]? = some (some (.ref x)) → (i = j ∧ x = a) ∨ (i ≠ j ∧ ρ[j]? = some t ∧ σ[j]? = some (some (.ref x))) := fun {j t x} e h1 => by
    by_cases hj : i = j
    · subst hj
      by_cases hl : i < σ.length
      · rw [List.getElem?_set_self hl] at h1; cases h1; exact .inl ⟨rfl, rfl⟩
      · rw [List.getElem?_eq_none (by simpa using hl)] at h1; cases h1
    · rw [List.getElem?_set_ne hj] at e h1; exact .inr ⟨hj, e, h1⟩
  refine ⟨s.re.put h, s.ex, fun j k t u x e1 e2 o1 o2 h1 h2 => ?_, fun j t x e o h1 => ?_⟩
  · rcases get e1 h1 with ⟨q1, z1⟩ | ⟨n1, p1, r1⟩
    · rcases get e2 h2 with ⟨q2, z2⟩ | ⟨n2, p2, r2⟩
      · exact q1.symm.trans q2
      · subst z1; exact absurd r2 (nw k u (Ne.symm n2) p2 o2)
    · rcases get e2 h2 with ⟨q2, z2⟩ | ⟨n2, p2, r2⟩
      · subst z2; exact absurd r1 (nw j t (Ne.symm n1) p1 o1)
      · exact s.dis j k t u x p1 p2 o1 o2 r1 r2
  · rcases get e h1 with ⟨q1, z1⟩ | ⟨n1, p1, r1⟩
    · subst z1; exact h0
    · exact s.fr j t x p1 o r1
theorem SRs.newL {i : Nat} {a : Addr} {vs : List V} {ds : List D} {H1 : Hp} {F1 : Hp} {g1 : G} (s1 : SRs C F0 H0 σ F1 H1 ρ g1) (n1 : H1 a = none) (s : SRs C F0 H0 σ F H ρ g) (h : H a = some (.lst vs)) (hF : F a = none) (hR : a ≠ C.R) (l : DvL C F vs ds) : SRs C F0 H0 (σ.set i (some (.ref a))) F H (ρ.set i (.ol ds)) g := by
  refine s.putO (fun hl => ⟨a, vs, by rw [List.getElem?_set_self hl], h, hF, hR, l⟩) ?_ fun j t hj e o z => ?_
  · cases q : H0 a with
    | none => rfl
    | some u => rw [s1.ex.frm a u hR q] at n1; cases n1
  · obtain ⟨x, ho, e1, h1, h2, h3⟩ := (s1.re.slot j t e).own o
    rw [z] at e1
    cases e1
    rw [n1] at h1; cases h1
/-- an own list written -/
theorem SRs.modL {i : Nat} {a : Addr} {vs' : List V} {ds ds' : List D} (s : SRs C F0 H0 σ F H ρ g) (e : ρ[i]? = some (.ol ds)) (ea : σ[i]? = some (some (.ref a))) (l : DvL C F vs' ds') :
    SRs C F0 H0 σ F (upd H a (.lst vs')) (ρ.set i (.ol ds')) g := by
  obtain ⟨a', vs, ea', h1, h2, h3, h4⟩ := s.re.slot i _ e
  rw [ea] at ea'
  cases ea'
  have h0 := s.fr i _ a e rfl ea
  have hl : i < σ.length := by
    rcases Nat.lt_or_ge i σ.length with z | z
    · exact z
    · rw [List.getElem?_eq_none (by simpa using z)] at ea; cases ea
  have old : ∀ {j : Nat} {t : Sl}, (ρ.set i (.ol ds'))[j]? = some t → (i = j ∧ t = .ol ds') ∨ (i ≠ j ∧ ρ[j]? = some t) := fun {j t} e => by
    by_cases hj : i = j
    · subst hj
      rw [List.getElem?_set_self (by rw [s.re.len]; exact hl)] at e; cases e; exact .inl ⟨rfl, rfl⟩
    · rw [List.getElem?_set_ne hj] at e; exact .inr ⟨hj, e⟩
  have oth : ∀ {j : Nat} {t : Sl}, i ≠ j → ρ[j]? = some t → SlR C F (upd H a (.lst vs')) σ j t := fun {j t} hj ej => by
    have z := s.re.slot j t ej
    cases t with
    | no => trivial
    | v d => exact z
    | ol ds => obtain ⟨b, ws, e1, q1, q2, q3, q4⟩ := z; exact ⟨b, ws, e1, by rw [upd_ne (fun z => hj (s.dis i j _ _ a e ej rfl rfl ea (by rw [e1, z])))]; exact q1, q2, q3, q4⟩
    | oi c fs => obtain ⟨b, dx, ws, e1, q1, q2, q3, q4⟩ := z; exact ⟨b, dx, ws, e1, by rw [upd_ne (fun z => hj (s.dis i j _ _ a e ej rfl rfl ea (by rw [e1, z])))]; exact q1, q2, q3, q4⟩
    | ex c fs => exact z
  refine ⟨⟨Ext.upd (F' := F) (H' := H) (o := .lst vs) s.re.st h1 h2 h3, by rw [List.length_set]; exact s.re.len, fun j t ej => ?_⟩, ⟨s.ex.sub, fun b o n q => ?_, s.ex.new⟩, fun j k t u x e1 e2 o1 o2 q1 q2 => ?_, fun j t x e1 o1 q1 => ?_⟩
  · rcases old ej with ⟨q, z⟩ | ⟨n, q⟩
    · subst q; subst z
      exact ⟨a, vs', ea, upd_same, h2, h3, l⟩
    · exact oth n q
  · rw [upd_ne (ne_of_none q h0)]; exact s.ex.frm b o n q
  · rcases old e1 with ⟨w1, z1⟩ | ⟨n1, p1⟩
    · rcases old e2 with ⟨w2, z2⟩ | ⟨n2, p2⟩
      · exact w1.symm.trans w2
      · subst w1; exact s.dis i k _ u x e p2 rfl o2 q1 q2
    · rcases old e2 with ⟨w2, z2⟩ | ⟨n2, p2⟩
      · subst w2; exact s.dis j i t _ x p1 e o1 rfl q1 q2
      · exact s.dis j k t u x p1 p2 o1 o2 q1 q2
  · rcases old e1 with ⟨w1, z1⟩ | ⟨n1, p1⟩
    · subst w1; exact s.fr i _ x e rfl q1
    · exact s.fr j t x p1 o1 q1
/-- .. is frozen -/
theorem SRs.frz {i : Nat} {ds : List D} (s : SRs C F0 H0 σ F H ρ g) (e : ρ[i]? = some (.ol ds)) : ∃ F', Sub F F' ∧ SRs C F0 H0 σ F' H (ρ.set i (.v (.lst ds))) g := by
  obtain ⟨a, vs, ea, h1, h2, h3, h4⟩ := s.re.slot i _ e
  have h0 := s.fr i _ a e rfl ea
  obtain ⟨x, t, sb⟩ := Ext.fz s.ex s.re.st h0 h1 h2 h3
  have hl : i < ρ.length := by
    rcases Nat.lt_or_ge i ρ.length with z | z
    · exact z
    · rw [List.getElem?_eq_none (by simpa using z)] at e; cases e
  have old : ∀ {j : Nat} {t : Sl}, (ρ.set i (.v (.lst ds)))[j]? = some t → (i = j ∧ t = .v (.lst ds)) ∨ (i ≠ j ∧ ρ[j]? = some t) := fun {j t} e => by
    by_cases hj : i = j
    · subst hj
      rw [List.getElem?_set_self hl] at e; cases e; exact .inl ⟨rfl, rfl⟩
    · rw [List.getElem?_set_ne hj] at e; exact .inr ⟨hj, e⟩
  refine ⟨_, sb, ⟨t, by rw [List.length_set]; exact s.re.len, fun j t ej => ?_⟩, x, fun j k t u x e1 e2 o1 o2 q1 q2 => ?_, fun j t x e1 o1 q1 => ?_⟩
  · rcases old ej with ⟨q, z⟩ | ⟨n, q⟩
    · subst q; subst z
      exact ⟨.ref a, ea, .lst upd_same (h4.mono sb)⟩
    · have z := s.re.slot j t q
      cases t with
      | no => trivial
      | v d => obtain ⟨v, e1, hv⟩ := z; exact ⟨v, e1, hv.mono sb⟩
      | ol es => obtain ⟨b, ws, e1, q1, q2, q3, q4⟩ := z; exact ⟨b, ws, e1, q1, by rw [upd_ne (fun z => n (s.dis i j _ _ a e q rfl rfl ea (by rw [e1, z])))]; exact q2, q3, q4.mono sb⟩
      | oi c fs => obtain ⟨b, dx, ws, e1, q1, q2, q3, q4⟩ := z; exact ⟨b, dx, ws, e1, q1, by rw [upd_ne (fun z => n (s.dis i j _ _ a e q rfl rfl ea (by rw [e1, z])))]; exact q2, q3, ⟨q4.1.mono sb, q4.2⟩⟩
      | ex c fs => obtain ⟨b, dd, q1, e1, q2⟩ := z; exact ⟨b, dd, q1, e1, q2.mono sb⟩
  · rcases old e1 with ⟨w1, z1⟩ | ⟨n1, p1⟩
    · subst z1; cases o1
    · rcases old e2 with ⟨w2, z2⟩ | ⟨n2, p2⟩
      · subst z2; cases o2
      · exact s.dis j k t u x p1 p2 o1 o2 q1 q2
  · rcases old e1 with ⟨w1, z1⟩ | ⟨n1, p1⟩
    · subst z1; cases o1
    · exact s.fr j t x p1 o1 q1
/-- the draws' list written -/
theorem SRs.row (s : SRs C F0 H0 σ F H ρ g) : SRs C F0 H0 σ F (upd H C.R (.lst [.ref C.S, .int g'.i, .int g'.m, .int g'.r])) ρ g' := by
  have st := s.re.st
  refine ⟨⟨⟨fun b o e => ?_, st.rowF, upd_same, st.scr⟩, s.re.len, fun j t ej => ?_⟩, ⟨s.ex.sub, fun b o n q => by rw [upd_ne n]; exact s.ex.frm b o n q, s.ex.new⟩, s.dis, s.fr⟩
  · rw [upd_ne (ne_of_none e st.rowF)]; exact st.sub b o e
  · have z := s.re.slot j t ej
    cases t with
    | no => trivial
    | v d => exact z
    | ol es => obtain ⟨b, ws, e1, q1, q2, q3, q4⟩ := z; exact ⟨b, ws, e1, by rw [upd_ne q3]; exact q1, q2, q3, q4⟩
    | oi c fs => obtain ⟨b, dx, ws, e1, q1, q2, q3, q4⟩ := z; exact ⟨b, dx, ws, e1, by rw [upd_ne q3]; exact q1, q2, q3, q4⟩
    | ex c fs => exact z
/-- from a later ground -/
theorem SRs.rb {F1 : Hp} (s : SRs C F0 H0 σ F H ρ g) (x : Sub F0 F1) (y : Sub F1 F) : SRs C F1 H0 σ F H ρ g :=
  ⟨s.re, ⟨y, s.ex.frm, fun a o e => (s.ex.new a o e).imp (x a o) id⟩, s.dis, s.fr⟩
theorem SRs.un {F1 H1 : Hp} (s : SRs C F1 H0 σ F H ρ g) (x : Ext C.R F0 H0 F1 H1) : SRs C F0 H0 σ F H ρ g :=
  ⟨s.re, ⟨x.sub.trans s.ex.sub, s.ex.frm, fun a o e => by
    rcases s.ex.new a o e with h | h
    · exact x.new a o h
    · exact .inr h⟩, s.dis, s.fr⟩
end

/-! ### what is wanted of a block -/
def WantS (C : Cfg) (W : WX) (F0 H0 : Hp) (r : Rs) (D : Ends) : Prop :=
  match r with
  | .nx ρ g => ∀ σ F H, SRs C F0 H0 σ F H ρ g → D.nx σ H
  | .rt d g => ∀ v F H, Ext C.R F0 H0 F H → St0 C F H g → Dv C F v d → D.rt v H
  | .er c fs ρ g => ∀ dd σ F H, SRs C F0 H0 σ F H ρ g → XD C F c fs dd → W (.ref (C.cad c)) (some dd) σ H
  | .stuck => False
def tSC (C : Cfg) (W : WX) (f : MS) : TS := fun D σ H => ∃ F0 H0 F ρ g, SRs C F0 H0 σ F H ρ g ∧ WantS C W F0 H0 (f ρ g) D
def S1 (C : Cfg) (X : Cx) (W : WX) (st : Stmt) (f : MS) : Prop := PS X st (tSC C W f)
def SC (C : Cfg) (X : Cx) (W : WX) (sts : List Stmt) (f : MS) : Prop := PSs X sts (tSC C W f)
def bindS {α : Type} (m : M α) (ρ : Env) (k : α → G → Rs) : G → Rs := fun g => match m g with
  | .ok a g' => k a g'
  | .err c fs g' => .er c fs ρ g'
  | .stuck => .stuck
def nxS (ρ : Env) : G → Rs := fun g => .nx ρ g
def liftS {α : Type} (o : Option α) (k : α → G → Rs) : G → Rs := fun g => match o with
  | some a => k a g
  | none => .stuck
theorem WantS.bind {C : Cfg} {W : WX} {F0 H0 : Hp} {σ : St} {F H : Hp} {ρ : Env} {g : G} {α β : Type} {rel : Hp → Hp → β → α → Prop} {m : M α} {k : α → G → Rs} {D : Ends} (h : WantS C W F0 H0 (bindS m ρ k g) D) (s : SRs C F0 H0 σ F H ρ g) :
    Want C W σ F H rel (m g) fun v H1 => ∃ F1 g1 d, Ext C.R F H F1 H1 ∧ St0 C F1 H1 g1 ∧ SRs C F0 H0 σ F1 H1 ρ g1 ∧ rel F1 H1 v d ∧ WantS C W F0 H0 (k d g1) D := by
  unfold bindS at h
  cases e : m g with
  | ok d g1 =>
    rw [e] at h
    exact fun v F1 H1 x t q => ⟨F1, g1, d, x, t, s.ext x t, q, h⟩
  | err c fs g1 => rw [e] at h; exact fun dd F1 H1 x t q => h dd σ F1 H1 (s.ext x t) q
  | stuck => rw [e] at h; exact h
theorem WantS.un {C : Cfg} {W : WX} {F0 H0 F1 H1 : Hp} {r : Rs} {D : Ends} (h : WantS C W F0 H0 r D) (x : Ext C.R F0 H0 F1 H1) : WantS C W F1 H0 r D := by
  cases r with
  | nx ρ g => exact fun σ F H s => h σ F H (s.un x)
  | rt d g => exact fun v F H y t q => h v F H ⟨x.sub.trans y.sub, y.frm, fun a o e => by
      rcases y.new a o e with z | z
      · exact x.new a o z
      · exact .inr z⟩ t q
  | er c fs ρ g => exact fun dd σ F H s q => h dd σ F H (s.un x) q
  | stuck => exact h
theorem WantS.ends {C : Cfg} {W : WX} {F0 H0 : Hp} {r : Rs} {D D' : Ends} (h : WantS C W F0 H0 r D) (n : ∀ ρ g, r = .nx ρ g → ∀ σ F H, SRs C F0 H0 σ F H ρ g → D'.nx σ H) (rt : ∀ v H, D.rt v H → D'.rt v H) : WantS C W F0 H0 r D' := by
  cases r with
  | nx ρ g => exact fun σ F H s => n ρ g rfl σ F H s
  | rt d g => exact fun v F H y t q => rt _ _ (h v F H y t q)
  | er c fs ρ g => exact h
  | stuck => exact h

section
variable {C : Cfg} {X : Cx} {W : WX} {e a b : Expr} {es : List Expr} {pos p : Pos} {st : Stmt} {rest sts sts' : List Stmt} {f f1 f2 : MS} {fa : Env → M D} {fs : Env → M (List D)} {fc : Env → M Bool} {i j l : Nat} {x y z : Str}
def seqS (f1 f2 : MS) : MS := fun ρ g => match f1 ρ g with
  | .nx ρ' g' => f2 ρ' g'
  | r => r
theorem sc_nil : SC C X W [] (fun ρ => nxS ρ) := pss_nil.imp fun D σ H ⟨F0, H0, F, ρ, g, s, w⟩ => w _ _ _ s
theorem sc_cons (h1 : S1 C X W st f1) (h2 : SC C X W rest f2) : SC C X W (st :: rest) (seqS f1 f2) := by
  refine (pss_cons h1 h2).imp ?_
  rintro D σ H ⟨F0, H0, F, ρ, g, s, w⟩
  refine ⟨F0, H0, F, ρ, g, s, ?_⟩
  unfold seqS at w
  cases q : f1 ρ g with
  | nx ρ' g' =>
    rw [q] at w
    exact fun σ1 F1 H1 s1 => ⟨F0, H0, F1, ρ', g', s1, w⟩
  | rt d g' => rw [q] at w; exact w
  | er c fs ρ' g' => rw [q] at w; exact w
  | stuck => rw [q] at w; exact w
theorem sc_one (h1 : S1 C X W st f1) : SC C X W [st] f1 := pss_one h1
theorem s_pass : S1 C X W (.Pass pos) (fun ρ => nxS ρ) := ps_pass.imp fun D σ H ⟨F0, H0, F, ρ, g, s, w⟩ => w _ _ _ s
theorem s_doc {j : Nat} : S1 C X W (.Expr (.Constant (.str x) j pos) p) (fun ρ => nxS ρ) := ps_doc.imp fun D σ H ⟨F0, H0, F, ρ, g, s, w⟩ => w _ _ _ s
theorem s_expr (h : SE C X W e fa) (hs : swapsWith e none pos.line X.env = pure false) : S1 C X W (.Expr e pos) (fun ρ => bindS (fa ρ) ρ fun _ => nxS ρ) := by
  obtain ⟨t, pe, k⟩ := h
  refine (ps_expr pe hs).imp ?_
  rintro D σ H ⟨F0, H0, F, ρ, g, s, w⟩
  refine k σ F H ρ g _ s.re ((w.bind s).mono ?_)
  rintro v H1 ⟨F1, g1, d, x1, t1, s1, r1, w1⟩
  exact w1 _ _ _ s1
def rtS (d : D) : G → Rs := fun g => .rt d g
theorem s_ret (h : SE C X W e fa) : S1 C X W (.Return (some e) pos) (fun ρ => bindS (fa ρ) ρ rtS) := by
  obtain ⟨t, pe, k⟩ := h
  refine (ps_ret pe).imp ?_
  rintro D σ H ⟨F0, H0, F, ρ, g, s, w⟩
  refine k σ F H ρ g _ s.re ((w.bind s).mono ?_)
  rintro v H1 ⟨F1, g1, d, x1, t1, s1, r1, w1⟩
  exact w1 _ _ _ s1.ex t1 r1
theorem s_retN : S1 C X W (.Return none pos) (fun _ => rtS .non) := ps_retN.imp fun D σ H ⟨F0, H0, F, ρ, g, s, w⟩ => w _ _ _ s.ex s.re.st .non
theorem s_if {c : Expr} (hc : ST C X W c fc) (ha : SC C X W sts f1) (hb : SC C X W sts' f2) : S1 C X W (.If c sts sts' pos) (fun ρ => bindS (fc ρ) ρ fun b => if b = true then f1 ρ else f2 ρ) := by
  obtain ⟨t, pt, k⟩ := hc
  refine (ps_if pt ha hb).imp ?_
  rintro D σ H ⟨F0, H0, F, ρ, g, s, w⟩
  refine k σ F H ρ g _ s.re ((w.bind s).mono ?_)
  rintro v H1 ⟨F1, g1, d, x1, t1, s1, r1, w1⟩
  subst r1
  cases v with
  | true => exact ⟨F0, H0, F1, ρ, g1, s1, w1⟩
  | false => exact ⟨F0, H0, F1, ρ, g1, s1, w1⟩
/-! name = e -/
theorem s_setG {t : TE} (ps : PS X st (tAsg t (gName i))) (k : ∀ σ F H ρ g Q, SRe C σ F H ρ g → Want C W σ F H (relD C) (fa ρ g) Q → t σ H Q) : S1 C X W st (fun ρ => bindS (fa ρ) ρ fun d => nxS (ρ.set i (.v d))) := by
  refine ps.imp ?_
  rintro D σ H ⟨F0, H0, F, ρ, g, s, w⟩
  refine k σ F H ρ g _ s.re ((w.bind s).mono ?_)
  rintro v H1 ⟨F1, g1, d, x1, t1, s1, r1, w1⟩
  exact w1 _ _ _ (s1.setV r1)
theorem s_setGL {t : TE} (ps : PS X st (tAsg t (gName i))) (k : ∀ σ F H ρ g Q, SRe C σ F H ρ g → Want C W σ F H (relO C H) (fs ρ g) Q → t σ H Q) : S1 C X W st (fun ρ => bindS (fs ρ) ρ fun d => nxS (ρ.set i (.ol d))) := by
  refine ps.imp ?_
  rintro D σ H ⟨F0, H0, F, ρ, g, s, w⟩
  refine k σ F H ρ g _ s.re ((w.bind (rel := relO C H) s).mono ?_)
  rintro v H1 ⟨F1, g1, d, x1, t1, s1, ⟨a, vs, rfl, h0, h1, h2, h3, h4⟩, w1⟩
  exact w1 _ _ _ (SRs.newL s h0 s1 h1 h2 h3 h4)
theorem fzK {t : TE} (k : ∀ σ F H ρ g Q, SRe C σ F H ρ g → Want C W σ F H (relO C H) (fs ρ g) Q → t σ H Q) : ∀ σ F H ρ g Q, SRe C σ F H ρ g → Want C W σ F H (relD C) ((fs ρ).lst g) Q → t σ H Q := by
  intro σ F H ρ g Q s hw
  refine k σ F H ρ g Q s ?_
  have hw : Want C W σ F H (relD C) (M.bind (fs ρ) (fun ds => M.ret (.lst ds)) g) Q := hw
  unfold M.bind at hw
  cases q : fs ρ g with
  | ok ds g1 =>
    rw [q] at hw
    have hw : Want C W σ F H (relD C) (Res.ok (DS.D.lst ds) g1) Q := hw
    rintro v F' H' x t ⟨a, vs, rfl, h0, h1, h2, h3, h4⟩
    obtain ⟨x2, t2, sb⟩ := Ext.fz x t h0 h1 h2 h3
    exact hw _ _ _ x2 t2 (.lst upd_same (h4.mono sb))
  | err c fs g1 => rw [q] at hw; exact hw
  | stuck => rw [q] at hw; exact hw.elim
/-! a, b = x, y -/
def par2 (i j : Nat) (ρ : Env) : List D → G → Rs
  | [d, e] => nxS ((ρ.set i (.v d)).set j (.v e))
  | _ => fun _ => .stuck
theorem s_par {px py pt : Pos} {kt k2 : Nat} {pt2 : Pos} (hc : X.calm = true) (hN : X.N.Nodup) (hi : X.N[i]? = some x) (hj : X.N[j]? = some y) (hij : i ≠ j) (hx : X.env.scope.names.lookup x = some .local) (hy : X.env.scope.names.lookup y = some .local) (ha : SA C X W [a, b] fs)
    (hw : swappedStores [.Tuple [.Name x px, .Name y py] kt pt] (.Tuple [a, b] k2 pt2) X.env = pure (some [x, y]))
    (hs : swapsWithSole [.Tuple [.Name x px, .Name y py] kt pt] (.Tuple [a, b] k2 pt2) pos.line X.env = pure false) :
    S1 C X W (.Assign [.Tuple [.Name x px, .Name y py] kt pt] (.Tuple [a, b] k2 pt2) pos) (fun ρ => bindS (fs ρ) ρ (par2 i j ρ)) := by
  obtain ⟨t, pa, k⟩ := ha
  refine (ps_par hc hN hi hj hij hx hy pa hw hs).imp ?_
  rintro D σ H ⟨F0, H0, F, ρ, g, s, w⟩
  refine k σ F H ρ g _ s.re ((w.bind s).mono ?_)
  rintro v H1 ⟨F1, g1, d, x1, t1, s1, r1, w1⟩
  match d, v, r1 with
  | [d1, d2], _, .cons r1 (.cons r2 .nil) => exact ⟨_, _, rfl, w1 _ _ _ ((s1.setV r1).setV r2)⟩
def par3 (i j l : Nat) (ρ : Env) : List D → G → Rs
  | [d, e, f] => nxS (((ρ.set i (.v d)).set j (.v e)).set l (.v f))
  | _ => fun _ => .stuck
theorem s_par3 {c : Expr} {px py pz pt : Pos} {kt k2 : Nat} {pt2 : Pos} (hc : X.calm = true) (hN : X.N.Nodup) (hi : X.N[i]? = some x) (hj : X.N[j]? = some y) (hl : X.N[l]? = some z) (hij : i ≠ j) (hil : i ≠ l) (hjl : j ≠ l) (hx : X.env.scope.names.lookup x = some .local) (hy : X.env.scope.names.lookup y = some .local) (hz : X.env.scope.names.lookup z = some .local) (ha : SA C X W [a, b, c] fs)
    (hw : swappedStores [.Tuple [.Name x px, .Name y py, .Name z pz] kt pt] (.Tuple [a, b, c] k2 pt2) X.env = pure (some [x, y, z]))
    (hs : swapsWithSole [.Tuple [.Name x px, .Name y py, .Name z pz] kt pt] (.Tuple [a, b, c] k2 pt2) pos.line X.env = pure false) :
    S1 C X W (.Assign [.Tuple [.Name x px, .Name y py, .Name z pz] kt pt] (.Tuple [a, b, c] k2 pt2) pos) (fun ρ => bindS (fs ρ) ρ (par3 i j l ρ)) := by
  obtain ⟨t, pa, k⟩ := ha
  refine (ps_par3 hc hN hi hj hl hij hil hjl hx hy hz pa hw hs).imp ?_
  rintro D σ H ⟨F0, H0, F, ρ, g, s, w⟩
  refine k σ F H ρ g _ s.re ((w.bind s).mono ?_)
  rintro v H1 ⟨F1, g1, d, x1, t1, s1, r1, w1⟩
  match d, v, r1 with
  | [d1, d2, d3], _, .cons r1 (.cons r2 (.cons r3 .nil)) => exact ⟨_, _, _, rfl, w1 _ _ _ (((s1.setV r1).setV r2).setV r3)⟩
/-! (a, b, ..) = e -/
theorem bindL_own : ∀ {is : List Nat} {ds : List D} {ρ ρ' : Env} {j : Nat} {s : Sl}, bindL is ds ρ = some ρ' → ρ'[j]? = some s → s.isO = true → ρ[j]? = some s ∧ j ∉ is
  | [], [], _, _, _, _, e, h, _ => by cases e; exact ⟨h, by simp⟩
  | [], _ :: _, _, _, _, _, e, _, _ => by cases e
  | _ :: _, [], _, _, _, _, e, _, _ => by cases e
  | i :: is, d :: ds, ρ, ρ', j, s, e, h, o => by
    obtain ⟨h1, h2⟩ := bindL_own (is := is) (ds := ds) e h o
    by_cases hj : i = j
    · subst hj
      by_cases hl : i < ρ.length
      · rw [List.getElem?_set_self hl] at h1; cases h1; cases o
      · rw [List.getElem?_eq_none (by simpa using hl)] at h1; cases h1
    · rw [List.getElem?_set_ne hj] at h1
      exact ⟨h1, by simp only [List.mem_cons, not_or]; exact ⟨fun e => hj e.symm, h2⟩⟩
theorem Tg.bind_own {t : Tg} {d : D} {ρ ρ' : Env} {j : Nat} {s : Sl} (e : t.bind d ρ = some ρ') (h : ρ'[j]? = some s) (o : s.isO = true) : ρ[j]? = some s ∧ j ∉ t.slots := by
  cases t with
  | one i => exact bindL_own (is := [i]) (ds := [d]) e h o
  | many is =>
    cases d with
    | tup ds => exact bindL_own (is := is) (ds := ds) e h o
    | _ => cases e
theorem SRs.bind {F0 H0 : Hp} {σ σ' : St} {F H : Hp} {ρ ρ' : Env} {g : G} {t : Tg} {d : D} (s : SRs C F0 H0 σ F H ρ g) (e : t.bind d ρ = some ρ') (s' : SRe C σ' F H ρ' g) (fr : ∀ j, j ∉ t.slots → σ'[j]? = σ[j]?) : SRs C F0 H0 σ' F H ρ' g := by
  refine ⟨s', s.ex, fun i j a b x e1 e2 o1 o2 h1 h2 => ?_, fun i a x e1 o1 h1 => ?_⟩
  · obtain ⟨q1, n1⟩ := Tg.bind_own e e1 o1
    obtain ⟨q2, n2⟩ := Tg.bind_own e e2 o2
    rw [fr i n1] at h1
    rw [fr j n2] at h2
    exact s.dis i j a b x q1 q2 o1 o2 h1 h2
  · obtain ⟨q1, n1⟩ := Tg.bind_own e e1 o1
    rw [fr i n1] at h1
    exact s.fr i a x q1 o1 h1
theorem s_asg {tg : Expr} {t : Tg} (h : SE C X W e fa) (hg : SG C X tg t) (hs : swapsWithSole [tg] e pos.line X.env = pure false) (hw : swappedStores [tg] e X.env = pure none)
    (h1 : (assignEach [tg] X.env).map (·.2) = [assign tg X.env]) : S1 C X W (.Assign [tg] e pos) (fun ρ => bindS (fa ρ) ρ fun d => liftS (t.bind d ρ) nxS) := by
  obtain ⟨te, pe, k⟩ := h
  obtain ⟨gg, pg, kg⟩ := hg
  refine (ps_asg pe pg hs hw h1).imp ?_
  rintro D σ H ⟨F0, H0, F, ρ, g, s, w⟩
  refine k σ F H ρ g _ s.re ((w.bind s).mono ?_)
  rintro v H1 ⟨F1, g1, d, x1, t1, s1, r1, w1⟩
  cases q : t.bind d ρ with
  | none => rw [q] at w1; exact w1.elim
  | some ρ' =>
    rw [q] at w1
    exact kg σ F1 H1 ρ g1 v d ρ' _ s1.re r1 q fun σ' s' fr => w1 _ _ _ (s1.bind q s' fr)
/-! x[i] = e, x the draws' list or one's own -/
def rowAt (g : G) (n : Int) : Int → Option G
  | 1 => some { g with i := n }
  | 2 => some { g with m := n }
  | 3 => some { g with r := n }
  | _ => none
def setAt (i : Nat) (ρ : Env) (d ix : D) : G → Rs := fun g => match ρ[i]?, ix with
  | some (.v .row), .int k => (match d with
    | .int n => (match rowAt g n k with
      | some g' => .nx ρ g'
      | none => .stuck)
    | _ => .stuck)
  | some (.ol ds), .int k => (match ixN ds.length k with
    | some j => .nx (ρ.set i (.ol (ds.set j d))) g
    | none => .stuck)
  | _, _ => .stuck
def own1 (ρ : Env) (i : Nat) : Option Unit := match ρ[i]? with
  | some (.v .row) => some ()
  | some (.ol _) => some ()
  | _ => none
theorem s_setAt {fi : Env → M D} {tp : Pos} (hN : X.N[i]? = some x) (hv : Vis X.env.scope x) (hdb : (x == ("__debug__" : Str)) = false) (hcd : (x == ("__classdict__" : Str)) = false) (h : SE C X W e fa) (hi : SR C X W b fi)
    (hs : swapsWithSole [.Subscript (.Name x p) b tp] e pos.line X.env = pure false) (hw : swappedStores [.Subscript (.Name x p) b tp] e X.env = pure none)
    (hsl : ∀ v, assign (.Subscript (.Name x p) b tp) X.env v = (do
      let ov ← holding [v] (eval (.Name x p) X.env)
      let iv ← holding [v, ov] (eval b X.env)
      standAt tp
      holding [v, ov, iv] (setItem ov iv v)
      release [v, ov, iv] [])) : S1 C X W (.Assign [.Subscript (.Name x p) b tp] e pos) (fun ρ => bindS (fa ρ) ρ fun d => liftS (own1 ρ i) fun _ => bindS (fi ρ) ρ fun ix => setAt i ρ d ix) := by
  obtain ⟨te, pe, k⟩ := h
  obtain ⟨ti, pi, ki⟩ := hi
  refine (ps_asg pe (pg_sub (pe_var hN hv hdb hcd) pi set_list hsl) hs hw rfl).imp ?_
  rintro D σ H ⟨F0, H0, F, ρ, g, s, w⟩
  refine k σ F H ρ g _ s.re ((w.bind s).mono ?_)
  rintro v H1 ⟨F1, g1, d, x1, t1, s1, r1, w1⟩
  show ∃ u, σ[i]? = some (some u) ∧ _
  cases q : ρ[i]? with
  | none => simp only [own1, q] at w1; exact w1.elim
  | some sl =>
    cases sl with
    | v dd =>
      cases dd with
      | row =>
        simp only [own1, q] at w1
        have w1 : WantS C W F0 H0 (bindS (fi ρ) ρ (fun ix => setAt i ρ d ix) g1) D := w1
        obtain ⟨u, hu, rr⟩ := s1.re.slot i _ q
        cases rr
        refine ⟨_, hu, ki σ F1 H1 ρ g1 _ s1.re ((w1.bind s1).mono ?_)⟩
        rintro iv H2 ⟨F2, g2, ix, x2, t2, s2, r2, w2⟩
        unfold setAt at w2
        rw [q] at w2
        cases ix with
        | int kk =>
          cases r2.int_inv
          cases d with
          | int n =>
            cases r1
            dsimp only at w2
            cases qq : rowAt g2 n kk with
            | none => rw [qq] at w2; exact w2.elim
            | some g' =>
              rw [qq] at w2
              have fin : ∀ (jj : Nat) (l : List V), ixN 4 kk = some jj → [V.ref C.S, .int g2.i, .int g2.m, .int g2.r].set jj (.int n) = [V.ref C.S, .int g'.i, .int g'.m, .int g'.r] → rSetL (.ref C.R) (.int kk) (.int n) H2 fun H3 => D.nx σ H3 := fun jj l e1 e2 =>
                ⟨C.R, _, kk, jj, rfl, rfl, s2.re.st.rowH, e1, by rw [e2]; exact w2 _ _ _ s2.row⟩
              unfold rowAt at qq
              split at qq
              · cases qq; exact fin 1 [] rfl rfl
              · cases qq; exact fin 2 [] rfl rfl
              · cases qq; exact fin 3 [] rfl rfl
              · cases qq
          | _ => exact w2.elim
        | _ => exact w2.elim
      | _ => simp only [own1, q] at w1; exact w1.elim
    | ol ds =>
      simp only [own1, q] at w1
      have w1 : WantS C W F0 H0 (bindS (fi ρ) ρ (fun ix => setAt i ρ d ix) g1) D := w1
      obtain ⟨aa, vs, hu, h1, h2, h3, h4⟩ := s1.re.slot i _ q
      refine ⟨_, hu, ki σ F1 H1 ρ g1 _ s1.re ((w1.bind s1).mono ?_)⟩
      rintro iv H2 ⟨F2, g2, ix, x2, t2, s2, r2, w2⟩
      unfold setAt at w2
      rw [q] at w2
      cases ix with
      | int kk =>
        cases r2.int_inv
        dsimp only at w2
        cases qq : ixN ds.length kk with
        | none => rw [qq] at w2; exact w2.elim
        | some jj =>
          rw [qq] at w2
          refine ⟨aa, vs, kk, jj, rfl, rfl, x2.frm _ _ h3 h1, by rw [h4.length]; exact qq, w2 _ _ _ (s2.modL q hu ?_)⟩
          exact (h4.mono x2.sub).set jj (r1.mono x2.sub)
      | _ => exact w2.elim
    | _ => simp only [own1, q] at w1; exact w1.elim
/-! x.append(e), x.insert(i, e), x.extend(e): x one's own -/
def ownL (ρ : Env) (i : Nat) : Option (List D) := match ρ[i]? with
  | some (.ol ds) => some ds
  | _ => none
theorem ownL_inv {ρ : Env} {i : Nat} {ds : List D} (h : ownL ρ i = some ds) : ρ[i]? = some (.ol ds) := by
  unfold ownL at h
  split at h
  · cases h; assumption
  · cases h
def mtL (i : Nat) (m : List D → List D → Option (List D)) (ρ : Env) (args : List D) : G → Rs := liftS (ownL ρ i) fun ds => liftS (m ds args) fun ds' => nxS (ρ.set i (.ol ds'))
theorem s_mtL {id : String} {nm : Str} {apos cpos : Pos} {r : V → List V → Hp → VK → Prop} {m : List D → List D → Option (List D)} (slot : Slot "list" nm id) (hty : typeOf (.builtin id) = pure (.type "method_descriptor")) (hm : MtR X id r)
    (hr : ∀ a vs ds args vargs F H ds' Q, H a = some (.lst vs) → F a = none → Sub F H → DvL C F vs ds → DvL C F vargs args → m ds args = some ds' → (∀ vs', DvL C F vs' ds' → Q .non (upd H a (.lst vs'))) → r (.ref a) vargs H Q)
    (hN : X.N[i]? = some x) (hv : Vis X.env.scope x) (hdb : (x == ("__debug__" : Str)) = false) (hcd : (x == ("__classdict__" : Str)) = false) (ha : SA C X W (a :: es) fs)
    (hfew : ((backTo cpos (starEach (a :: es) X.env)).all (fun x => !x.1) && (backToKw cpos (keywordEach [] X.env)).all (fun x => x.1.isSome)
      && decide ((a :: es).length + ([] : List Keyword).length + (if ([] : List Keyword).isEmpty then 0 else 1) < 30)) = true)
    (hline : (apos.endLine == cpos.line) = true) (hs : starEach (a :: es) X.env = (false, eval a X.env) :: starEach es X.env) (hplain : (backTo cpos (starEach es X.env)).any (·.1) = false)
    (hsw : swapsWith (.Call (.Attribute (.Name x p) nm apos) (a :: es) [] cpos) none pos.line X.env = pure false) :
    S1 C X W (.Expr (.Call (.Attribute (.Name x p) nm apos) (a :: es) [] cpos) pos) (fun ρ => liftS (ownL ρ i) fun _ => bindS (fs ρ) ρ fun args => mtL i m ρ args) := by
  obtain ⟨ta, pa, ka⟩ := ha
  refine (ps_expr (pe_bm PySem.F.plainAttrs_list slot hty hm (pe_var hN hv hdb hcd) pa rfl hfew hline hs hplain) hsw).imp ?_
  rintro D σ H ⟨F0, H0, F, ρ, g, s, w⟩
  have w : WantS C W F0 H0 (liftS (ownL ρ i) (fun _ => bindS (fs ρ) ρ fun args => mtL i m ρ args) g) D := w
  cases q : ownL ρ i with
  | none => rw [q] at w; exact w.elim
  | some ds =>
    rw [q] at w
    have w : WantS C W F0 H0 (bindS (fs ρ) ρ (fun args => mtL i m ρ args) g) D := w
    have q' := ownL_inv q
    obtain ⟨aa, vs, hu, h1, h2, h3, h4⟩ := s.re.slot i _ q'
    refine ⟨_, hu, .inl ⟨rfl, _, SqL.of h1⟩, ka σ F H ρ g _ s.re ((w.bind s).mono ?_)⟩
    rintro vargs H1 ⟨F1, g1, args, x1, t1, s1, r1, w1⟩
    unfold mtL at w1
    rw [q] at w1
    cases qq : m ds args with
    | none =>
      have w1 : WantS C W F0 H0 (liftS (m ds args) (fun ds' => nxS (ρ.set i (.ol ds'))) g1) D := w1
      rw [qq] at w1
      exact w1.elim
    | some ds' =>
      have w1 : WantS C W F0 H0 (liftS (m ds args) (fun ds' => nxS (ρ.set i (.ol ds'))) g1) D := w1
      rw [qq] at w1
      have h1' := x1.frm _ _ h3 h1
      have hF1 : F1 aa = none := by
        obtain ⟨a2, vs2, hu2, k1, k2, k3, k4⟩ := s1.re.slot i _ q'
        rw [hu] at hu2; cases hu2; exact k2
      exact hr aa vs ds args vargs F1 H1 ds' _ h1' hF1 t1.sub (h4.mono x1.sub) r1 qq fun vs' l => w1 _ _ _ (s1.modL q' hu l)
def appM (ds args : List D) : Option (List D) := match args with
  | [d] => if ds.length < sizeLine then some (ds ++ [d]) else none
  | _ => none
theorem app_ok {F : Hp} (a : Addr) (vs : List V) (ds args : List D) (vargs : List V) (F H : Hp) (ds' : List D) (Q : VK) (h : H a = some (.lst vs)) (hF : F a = none) (sb : Sub F H) (l : DvL C F vs ds) (la : DvL C F vargs args) (e : appM ds args = some ds')
    (k : ∀ vs', DvL C F vs' ds' → Q .non (upd H a (.lst vs'))) : rAppend (.ref a) vargs H Q := by
  cases la with
  | nil => cases e
  | cons r t =>
    cases t with
    | nil =>
      unfold appM at e
      dsimp only at e
      split at e
      · cases e
        exact ⟨a, vs, _, rfl, rfl, h, by rw [l.length]; assumption, k _ (l.append (.cons r .nil))⟩
      · cases e
    | cons _ _ => cases e
def insM (ds args : List D) : Option (List D) := match args with
  | [.int i, d] => if ds.length < sizeLine ∧ 0 ≤ i ∧ i < 2 ^ 63 then some (ds.take i.toNat ++ [d] ++ ds.drop i.toNat) else none
  | _ => none
def rInsert : V → List V → Hp → VK → Prop := fun x vs H Q => ∃ (l : Addr) (xs : List V) (i : Int) (y : V), x = .ref l ∧ vs = [.int i, y] ∧ H l = some (.lst xs) ∧ xs.length < sizeLine ∧ 0 ≤ i ∧ i < 2 ^ 63 ∧
    Q .non (upd H l (.lst (xs.take i.toNat ++ [y] ++ xs.drop i.toNat)))
theorem ins_ok (a : Addr) (vs : List V) (ds args : List D) (vargs : List V) (F H : Hp) (ds' : List D) (Q : VK) (h : H a = some (.lst vs)) (hF : F a = none) (sb : Sub F H) (l : DvL C F vs ds) (la : DvL C F vargs args) (e : insM ds args = some ds')
    (k : ∀ vs', DvL C F vs' ds' → Q .non (upd H a (.lst vs'))) : rInsert (.ref a) vargs H Q := by
  unfold insM at e
  split at e
  · rename_i i d
    split at e
    · rename_i c
      cases e
      cases la with
      | cons r t =>
        cases r
        cases t with
        | cons r2 t2 =>
          cases t2
          exact ⟨a, vs, i, _, rfl, rfl, h, by rw [l.length]; exact c.1, c.2.1, c.2.2, k _ (((l.take _).append (.cons r2 .nil)).append (l.drop _))⟩
    · cases e
  · cases e
def extM (ds args : List D) : Option (List D) := match args with
  | [.lst es] => if ds.length + es.length ≤ sizeLine then some (ds ++ es) else none
  | _ => none
theorem ext_ok (a : Addr) (vs : List V) (ds args : List D) (vargs : List V) (F H : Hp) (ds' : List D) (Q : VK) (h : H a = some (.lst vs)) (hF : F a = none) (sb : Sub F H) (l : DvL C F vs ds) (la : DvL C F vargs args) (e : extM ds args = some ds')
    (k : ∀ vs', DvL C F vs' ds' → Q .non (upd H a (.lst vs'))) : rExtend (.ref a) vargs H Q := by
  unfold extM at e
  split at e
  · rename_i es
    split at e
    · rename_i c
      cases e
      cases la with
      | cons r t =>
        cases t
        cases r with
        | lst hb lb => exact ⟨a, _, vs, _, rfl, rfl, h, sb _ _ hb, by rw [l.length, lb.length]; exact c, k _ (l.append lb)⟩
    · cases e
  · cases e
/-- frozen: nothing runs -/
def frzE (i : Nat) (ρ : Env) : Env := match ownL ρ i with
  | some ds => ρ.set i (.v (.lst ds))
  | none => ρ
def frzS (i : Nat) (f : MS) : MS := fun ρ => f (frzE i ρ)
theorem tSC_frz {D : Ends} {σ : St} {H : Hp} (h : tSC C W (frzS i f) D σ H) : tSC C W f D σ H := by
  obtain ⟨F0, H0, F, ρ, g, s, w⟩ := h
  unfold frzS frzE at w
  cases q : ownL ρ i with
  | some ds =>
    rw [q] at w
    obtain ⟨F', sb, s'⟩ := s.frz (ownL_inv q)
    exact ⟨F0, H0, F', _, g, s', w⟩
  | none =>
    rw [q] at w
    exact ⟨F0, H0, F, ρ, g, s, w⟩
theorem sc_frz (h : SC C X W sts f) : SC C X W sts (frzS i f) := h.imp fun D σ H q => tSC_frz q
/-! for, while -/
def forS (bd : D → Env → Option Env) (f : MS) : List D → MS
  | [] => fun ρ => nxS ρ
  | d :: ds => fun ρ => liftS (bd d ρ) fun ρ1 => fun g => match f ρ1 g with
    | .nx ρ2 g2 => forS bd f ds ρ2 g2
    | r => r
theorem s_for {tg iter : Expr} {t : Tg} {fi : Env → M (List D)} (hp : PassesOwn (model X.prog X.w) X.A X.env X.xe) (hc : X.calm = true) (hi : SI C X W true tg iter fi) (hg : SG C X tg t) (hb : SC C X W sts f)
    (hs : ∀ x, foldedSetIterable iter X.env x = pure x) : S1 C X W (.For tg iter sts [] pos) (fun ρ => bindS (fi ρ) ρ fun ds => forS t.bind f ds ρ) := by
  obtain ⟨wi, pi, ki⟩ := hi
  obtain ⟨gg, pg, kg⟩ := hg
  refine (ps_for hp hc pi pg hb hs).imp ?_
  rintro D σ H ⟨F0, H0, F, ρ, g, s, w⟩
  refine ki σ F H ρ g _ s.re ((w.bind s).mono ?_)
  rintro J H1 ⟨F1, g1, ds, x1, t1, s1, ⟨Gh, Y, wk, hG, hY⟩, w1⟩
  have w1 := w1.un s1.ex
  have s1 := s1.rb s1.ex.sub (Sub.refl _)
  have keep : ∀ {σ F2 H2 ρ2 g2}, SRs C F1 H0 σ F2 H2 ρ2 g2 → PresB C.R true F1 H1 F2 H2 := fun s => ⟨s.ex.sub, s.re.st.sub, fun z => by cases z⟩
  refine for_it wk (fun i σ H2 => ∃ F2 ρ2 g2, SRs C F1 H0 σ F2 H2 ρ2 g2 ∧ WantS C W F1 H0 (forS t.bind f (ds.drop i) ρ2 g2) D) ⟨F1, ρ, g1, s1, by rw [List.drop_zero]; exact w1⟩ ?_ ?_ ?_
  · rintro i σ2 H2 hi ⟨F2, ρ2, g2, s2, w2⟩
    exact hG F2 H2 (keep s2)
  · rintro i x σ2 H2 H3 hi ⟨F2, ρ2, g2, s2, w2⟩ hy
    obtain ⟨F3, d, x3, t3, hd, rd⟩ := hY i H2 x H3 F2 g2 hi (keep s2) s2.re.st hy
    have hdr : ds.drop i = d :: ds.drop (i + 1) := by
      obtain ⟨hlt, e⟩ := List.getElem?_eq_some_iff.mp hd
      rw [List.drop_eq_getElem_cons hlt, e]
    rw [hdr] at w2
    have s3 := s2.ext x3 t3
    unfold forS at w2
    cases q : t.bind d ρ2 with
    | none => rw [q] at w2; exact w2.elim
    | some ρ3 =>
      rw [q] at w2
      refine kg σ2 F3 H3 ρ2 g2 x d ρ3 _ s3.re rd q fun σ4 s4 fr => ?_
      refine ⟨F1, H0, F3, ρ3, g2, s3.bind q s4 fr, ?_⟩
      have w2 : WantS C W F1 H0 (match f ρ3 g2 with
        | .nx ρ2 g2 => forS t.bind f (ds.drop (i + 1)) ρ2 g2
        | r => r) D := w2
      cases qq : f ρ3 g2 with
      | nx ρ4 g4 => rw [qq] at w2; exact fun σ5 F5 H5 s5 => ⟨F5, ρ4, g4, s5, w2⟩
      | rt d' g' => rw [qq] at w2; exact w2
      | er c fs ρ' g' => rw [qq] at w2; exact w2
      | stuck => rw [qq] at w2; exact w2
  · rintro σ2 H2 ⟨F2, ρ2, g2, s2, w2⟩
    rw [List.drop_length] at w2
    exact w2 _ _ _ s2
def whileS (c : Env → M Bool) (f : MS) : Nat → MS
  | 0 => fun _ _ => .stuck
  | n + 1 => fun ρ => bindS (c ρ) ρ fun b => if b = true then fun g => (match f ρ g with
    | .nx ρ' g' => whileS c f n ρ' g'
    | r => r) else nxS ρ
open Classical in
noncomputable def whileW (c : Env → M Bool) (f : MS) : MS := fun ρ g => if h : ∃ n, whileS c f n ρ g ≠ .stuck then whileS c f h.choose ρ g else .stuck
theorem s_while {c : Expr} (hp : PassesOwn (model X.prog X.w) X.A X.env X.xe) (hc : ST C X W c fc) (hb : SC C X W sts f) : S1 C X W (.While c sts [] pos) (whileW fc f) := by
  obtain ⟨t, pt, k⟩ := hc
  refine (ps_while hp pt hb).imp ?_
  rintro D σ H ⟨F0, H0, F, ρ, g, s, w⟩
  obtain ⟨n, w⟩ : ∃ n, WantS C W F0 H0 (whileS fc f n ρ g) D := by
    unfold whileW at w
    split at w
    · exact ⟨_, w⟩
    · exact w.elim
  refine ⟨fun m σ H => ∃ F ρ g, SRs C F0 H0 σ F H ρ g ∧ WantS C W F0 H0 (whileS fc f m ρ g) D, ⟨n, F, ρ, g, s, w⟩, ?_⟩
  rintro m σ2 H2 ⟨F2, ρ2, g2, s2, w2⟩
  cases m with
  | zero => exact w2.elim
  | succ m =>
    unfold whileS at w2
    refine k σ2 F2 H2 ρ2 g2 _ s2.re ((w2.bind s2).mono ?_)
    rintro b H3 ⟨F3, g3, b', x3, t3, s3, r3, w3⟩
    subst r3
    cases b with
    | false => exact w3 _ _ _ s3
    | true =>
      refine ⟨fun σ' H' => ∃ F ρ g, SRs C F0 H0 σ' F H' ρ g ∧ WantS C W F0 H0 (whileS fc f m ρ g) D, fun σ' H' q => ⟨m, Nat.lt_succ_self _, q⟩, F0, H0, F3, ρ2, g3, s3, ?_⟩
      have w3 : WantS C W F0 H0 (match f ρ2 g3 with
        | .nx ρ' g' => whileS fc f m ρ' g'
        | r => r) D := w3
      cases qq : f ρ2 g3 with
      | nx ρ4 g4 => rw [qq] at w3; exact fun σ5 F5 H5 s5 => ⟨F5, ρ4, g4, s5, w3⟩
      | rt d' g' => rw [qq] at w3; exact w3
      | er c fs ρ' g' => rw [qq] at w3; exact w3
      | stuck => rw [qq] at w3; exact w3
end
end DS

set_option Elab.async false
set_option linter.all false
set_option maxRecDepth 100000
set_option maxHeartbeats 4000000
/-! DS, part 8: raise, try, an error's fields, self.f = e -/
namespace DS
open PySem L2
def Sl.clr : Sl → Sl
  | .ex _ _ => .no
  | .oi _ _ => .no
  | s => s
def clr (ρ : Env) : Env := ρ.map Sl.clr
section
variable {C : Cfg} {F0 H0 : Hp} {σ : St} {F H F' H' : Hp} {ρ : Env} {g g' : G} {z : Option (Addr × Value × Addr)}
theorem clr_get {i : Nat} {s : Sl} (h : (clr ρ)[i]? = some s) : ∃ t, ρ[i]? = some t ∧ s = t.clr := by
  unfold clr at h
  rw [List.getElem?_map] at h
  cases q : ρ[i]? with
  | none => rw [q] at h; cases h
  | some t => rw [q] at h; cases h; exact ⟨t, rfl, rfl⟩
theorem clr_own {t : Sl} (h : t.clr.isO = true) : t.clr = t := by
  cases t with
  | ex c fs => cases h
  | oi c fs => cases h
  | _ => rfl
/-- the same data, another error in hand -/
theorem SRs.at (s : SRs C F0 H0 σ F H ρ g) : SRs (C.at z) F0 H0 σ F H (clr ρ) g := by
  refine ⟨⟨s.re.st.at, by unfold clr; rw [List.length_map]; exact s.re.len, fun i sl e => ?_⟩, s.ex, fun i j a b x e1 e2 o1 o2 h1 h2 => ?_, fun i a x e o h => ?_⟩
  · obtain ⟨t, e1, rfl⟩ := clr_get e
    have w := s.re.slot i t e1
    cases t with
    | no => trivial
    | v d => obtain ⟨v, e2, h⟩ := w; exact ⟨v, e2, h.at⟩
    | ol ds => obtain ⟨a, vs, e2, h1, h2, h3, h4⟩ := w; exact ⟨a, vs, e2, h1, h2, h3, h4.at⟩
    | oi c ds => trivial
    | ex c ds => trivial
  · obtain ⟨t, q1, rfl⟩ := clr_get e1
    obtain ⟨u, q2, rfl⟩ := clr_get e2
    rw [clr_own o1] at o1
    rw [clr_own o2] at o2
    exact s.dis i j t u x q1 q2 o1 o2 h1 h2
  · obtain ⟨t, q1, rfl⟩ := clr_get e
    rw [clr_own o] at o
    exact s.fr i t x q1 o h
theorem Ext.atR (x : Ext (C.at z).R F0 H0 F H) : Ext C.R F0 H0 F H := x
end
section
variable {C : Cfg} {X : Cx} {W : WX} {e a b : Expr} {es : List Expr} {pos p : Pos} {st : Stmt} {rest sts sts' : List Stmt} {f f1 f2 : MS} {fa : Env → M D} {fs : Env → M (List D)} {i j : Nat} {x : Str}
/-! raise E(e) -/
def errS (c n : Nat) (ds : List D) (ρ : Env) : G → Rs := fun g => if ds.length = n then .er c ds ρ g else .stuck
theorem s_raise {c k : Nat} {cn fl : Str} {fI : Addr} {pos2 : Pos} (hc : X.calm = true) (tk : Takes X W) (T : PySem.ErX.ErrTxt X.prog X.K X.mg cn fl (C.cad c) fI) (hxn : C.xn c = [fl]) (hr : Room k X.A) (ha : SA C X W [a] fs) (hg : Gl X cn)
    (he : starEach (a :: []) X.env = (false, eval a X.env) :: starEach [] X.env) (hdb : (cn == ("__debug__" : Str)) = false) (hpl : (backTo pos (starEach [] X.env)).any (·.1) = false) :
    S1 C X W (.Raise (some (.Call (.Name cn p) [a] [] pos)) none pos2) (fun ρ => bindS (fs ρ) ρ fun ds => errS c 1 ds ρ) := by
  obtain ⟨ta, pa, ka⟩ := ha
  refine (ps_raise hc tk (pmk_err T hr pa hg he hdb hpl)).imp ?_
  rintro D σ H ⟨F0, H0, F, ρ, g, s, w⟩
  refine ka σ F H ρ g _ s.re ((w.bind s).mono ?_)
  rintro vs H1 ⟨F1, g1, ds, x1, t1, s1, r1, w1⟩
  unfold errS at w1
  by_cases q : ds.length = 1
  · rw [if_pos q] at w1
    match ds, vs, r1 with
    | [d], _, .cons (v := v) r .nil =>
      refine ⟨v, rfl, fun dd nd => ?_⟩
      obtain ⟨x2, t2⟩ := Ext.lay t1 nd (.xd [(fl, v)])
      exact w1 dd σ _ _ (s1.ext x2 t2) ⟨[v], by rw [hxn]; exact upd_same, .cons (r.mono x2.sub) .nil, by rw [hxn]; rfl⟩
  · rw [if_neg q] at w1; exact w1.elim
/-! try: body except E as n: suite -/
def tryS (sb : Nat → Nat → Option Bool) (j i : Nat) (f1 f2 : MS) : MS := fun ρ g => match f1 ρ g with
  | .er c fs ρ1 g1 => (match sb c j with
    | some true => (match f2 ((clr ρ1).set i (.ex c fs)) g1 with
      | .nx ρ2 g2 => .nx (clr (ρ2.set i .no)) g2
      | .rt d g2 => .rt d g2
      | _ => .stuck)
    | some false => .er c fs ρ1 g1
    | none => .stuck)
  | r => r
theorem s_try {n : Str} {b₀ : Stmt} {suite body : List Stmt} {np pos' : Pos} (hs : X.stack = X.env :: X.outer) (hf : X.env.frame = some X.env.locals) (hN : X.N.Nodup) (hi : X.N[i]? = some n) (hln : X.env.kindOf n = some .local) (hc : Names X x (.ref (C.cad j))) (tk : Takes X W)
    (hsub : ∀ c b, C.sub c j = some b → PySem.W.exmOne X.K (.ref (C.cad c)) (.ref (C.cad j)) = some b)
    (hb : ∀ (W' : WX) (pn : List (Addr × Obj)) (xe : Value → Shared → Prop), Takes (X.tr pn xe) W' → PassesOwn (model X.prog X.w) X.A X.env xe → SC C (X.tr pn xe) W' body f1)
    (hsu : ∀ (a : Addr) (oe : Obj) (c : Nat) (dd : Addr) (pn : List (Addr × Obj)), Zc (.ref (C.cad c)) (some dd) oe → (∃ vs, oe.data = .fields vs) → SC (C.at (some (a, .ref (C.cad c), dd))) (X.suite a ((a, oe) :: pn)) WF (b₀ :: suite) f2) :
    S1 C X W (.Try body [.ExceptHandler (some (.Name x np)) (some n) (b₀ :: suite) pos'] [] [] pos) (tryS C.sub j i f1 f2) := by
  refine (ps_try_as (tb := fun W' => tSC C W' f1) (ts := fun a cls d D σ H => ∃ c dd, cls = .ref (C.cad c) ∧ d = some dd ∧ tSC (C.at (some (a, .ref (C.cad c), dd))) WF f2 D σ H) hs hf hN hi hln hc tk hb (fun a oe cls d pn hz hd => ⟨fun pins s σ H D I h => ?_⟩)).imp ?_
  · obtain ⟨c, dd, rfl, rfl, h⟩ := h
    exact (hsu a oe c dd pn hz hd).run pins s σ H D I h
  · rintro D σ H ⟨F0, H0, F, ρ, g, s, w⟩
    refine ⟨F0, H0, F, ρ, g, s, ?_⟩
    unfold tryS at w
    cases q : f1 ρ g with
    | nx ρ1 g1 => rw [q] at w; exact w
    | rt d g1 => rw [q] at w; exact w
    | stuck => rw [q] at w; exact w
    | er c fs ρ1 g1 =>
      rw [q] at w
      intro dd σ1 F1 H1 s1 xd
      dsimp only at w
      cases q2 : C.sub c j with
      | none => rw [q2] at w; exact w.elim
      | some b =>
        rw [q2] at w
        refine ⟨b, hsub c b q2, fun hb1 a na => ?_, fun hb1 => ?_⟩
        · subst hb1
          dsimp only at w
          have s2 : SRs (C.at (some (a, .ref (C.cad c), dd))) F0 H0 (σ1.set i (some (.ref a))) F1 H1 ((clr ρ1).set i (.ex c fs)) g1 :=
            s1.at.put (fun hl => ⟨a, dd, rfl, by rw [List.getElem?_set_self hl], xd.at⟩) rfl
          refine ⟨c, dd, rfl, rfl, F0, H0, F1, _, g1, s2, ?_⟩
          cases q3 : f2 ((clr ρ1).set i (.ex c fs)) g1 with
          | nx ρ2 g2 =>
            rw [q3] at w
            intro σ3 F3 H3 s3
            exact w _ _ _ ((s3.setN (i := i) (v := none)).at (z := C.xa))
          | rt d g2 =>
            rw [q3] at w
            intro v F3 H3 x3 t3 r3
            exact w v F3 H3 x3 (t3.at (z := C.xa)) (r3.at (z := C.xa))
          | er c' fs' ρ' g' => rw [q3] at w; exact w.elim
          | stuck => rw [q3] at w; exact w.elim
        · subst hb1
          exact w dd σ1 F1 H1 s1 xd
/-! e.f, e the error in hand -/
def exF (C : Cfg) (ρ : Env) (i : Nat) (f : Str) : Option D := match ρ[i]? with
  | some (.ex c fs) => ((C.xn c).zip fs).lookup f
  | _ => none
theorem zip_look {F : Hp} : ∀ {ns : List Str} {vs : List V} {fs : List D} {f : Str} {d : D}, DvL C F vs fs → (ns.zip fs).lookup f = some d → ∃ v, (ns.zip vs).lookup f = some v ∧ Dv C F v d
  | [], _, _, _, _, _, e => by simp at e
  | _ :: _, _, _, _, _, .nil, e => by simp at e
  | n :: ns, _, _, f, d, .cons r t, e => by
    rw [List.zip_cons_cons, List.lookup_cons] at e ⊢
    cases h : f == n with
    | true => rw [h] at e; cases e; exact ⟨_, rfl, r⟩
    | false => rw [h] at e; exact zip_look t e
theorem zip_mem {α : Type} : ∀ {ns : List Str} {vs : List α} {f : Str} {v : α}, (ns.zip vs).lookup f = some v → f ∈ ns
  | [], _, _, _, e => by simp at e
  | _ :: _, [], _, _, e => by simp at e
  | n :: ns, _ :: vs, f, v, e => by
    rw [List.zip_cons_cons, List.lookup_cons] at e
    cases h : f == n with
    | true => rw [eq_of_beq h]; exact List.mem_cons_self
    | false => rw [h] at e; exact List.mem_cons_of_mem _ (zip_mem e)
theorem se_exf {X0 : Cx} {ad : Addr} {oe : Obj} {cl : Nat} {dd : Addr} {pn : List (Addr × Obj)} {f : Str} (hX : X = X0.suite ad ((ad, oe) :: pn)) (hxa : C.xa = some (ad, .ref (C.cad cl), dd)) (hz : Zc (.ref (C.cad cl)) (some dd) oe) (hd : ∃ vs, oe.data = .fields vs)
    (T : f ∈ C.xn cl → XfC X.K (C.cad cl) ∧ PySem.W.findIn X.K (.ref (C.cad cl)) f = some none) (hinj : ∀ c, C.cad c = C.cad cl → C.xn c = C.xn cl)
    (hN : X.N[i]? = some x) (hv : Vis X.env.scope x) (hdb : (x == ("__debug__" : Str)) = false) (hcd : (x == ("__classdict__" : Str)) = false) :
    SE C X W (.Attribute (.Name x p) f pos) (fun ρ => lft (exF C ρ i f)) := by
  have inv : ∀ {σ F H ρ g Q}, SRe C σ F H ρ g → Want C W σ F H (relD C) (lft (exF C ρ i f) g) Q → ∃ (vs : List V) (v : V), F dd = some (.xd ((C.xn cl).zip vs)) ∧ ((C.xn cl).zip vs).lookup f = some v ∧ σ[i]? = some (some (.ref ad)) ∧ f ∈ C.xn cl ∧ Q v H := by
    intro σ F H ρ g Q s hw
    unfold exF at hw
    cases q : ρ[i]? with
    | none => rw [q] at hw; exact hw.elim
    | some sl =>
      rw [q] at hw
      cases sl with
      | ex c fs =>
        obtain ⟨a, d2, h1, h2, vs, h3, h4, h5⟩ := s.slot i _ q
        rw [hxa] at h1
        obtain ⟨e1, e2, e3⟩ : ad = a ∧ C.cad cl = C.cad c ∧ dd = d2 := by
          have := Option.some.inj h1
          injection this with z1 z2
          injection z2 with z3 z4
          injection z3 with z5
          exact ⟨z1, z5, z4⟩
        subst e1; subst e3
        have en := hinj c e2.symm
        cases q2 : ((C.xn c).zip fs).lookup f with
        | none =>
          have hw : Want C W σ F H (relD C) (lft (((C.xn c).zip fs).lookup f) g) Q := hw
          rw [q2] at hw; exact hw.elim
        | some d =>
          have hw : Want C W σ F H (relD C) (lft (((C.xn c).zip fs).lookup f) g) Q := hw
          rw [q2] at hw
          obtain ⟨v, l1, l2⟩ := zip_look h4 q2
          have hm : f ∈ C.xn cl := by
            rw [← en]
            exact zip_mem l1
          exact ⟨vs, v, by rw [← en]; exact h3, by rw [← en]; exact l1, h2, hm, Want.ret (g := g) hw s.st l2⟩
      | _ => exact hw.elim
  by_cases hm : f ∈ C.xn cl
  · obtain ⟨T1, T2⟩ := T hm
    subst hX
    refine ⟨_, pe_xf T1 T2 hz hd (pe_var hN hv hdb hcd) rfl, fun σ F H ρ g Q s hw => ?_⟩
    obtain ⟨vs, v, h1, h2, h3, h4, h5⟩ := inv s hw
    exact ⟨_, h3, rfl, rfl, dd, _, v, rfl, s.st.sub _ _ h1, h2, h5⟩
  · refine ⟨fun _ _ _ => False, ⟨fun _ _ _ _ _ _ h => h.elim⟩, fun σ F H ρ g Q s hw => ?_⟩
    obtain ⟨vs, v, h1, h2, h3, h4, h5⟩ := inv s hw
    exact hm h4
/-! self.f = e within __init__ -/
def setF (C : Cfg) (i : Nat) (f : Str) (ρ : Env) (d : D) : G → Rs := fun g => match ρ[i]? with
  | some (.oi c fs) => if f ∈ C.flds c ∧ fs.length < 1000 then .nx (ρ.set i (.oi c (putD f d fs))) g else .stuck
  | _ => .stuck
theorem DvF.put {C : Cfg} {F : Hp} {f : Str} {v : V} {d : D} : ∀ {vs : List (Str × V)} {ds : List (Str × D)}, DvF C F vs ds → Dv C F v d → DvF C F (putF f v vs) (putD f d ds)
  | _, _, .nil, h => .cons h .nil
  | _, _, .cons (n := n) r t, h => by
    unfold putF putD
    by_cases q : n = f
    · rw [if_pos q, if_pos q]; subst q; exact .cons h t
    · rw [if_neg q, if_neg q]; exact .cons r (DvF.put t h)
theorem SRs.modI {F0 H0 : Hp} {σ : St} {F H : Hp} {ρ : Env} {g : G} {a dx : Addr} {c : Nat} {vs' : List (Str × V)} {ds ds' : List (Str × D)} (s : SRs C F0 H0 σ F H ρ g) (e : ρ[i]? = some (.oi c ds)) (ea : σ[i]? = some (some (.ref a))) (l : DvF C F vs' ds') :
    SRs C F0 H0 σ F (upd H a (.ins (C.cad c) dx vs')) (ρ.set i (.oi c ds')) g := by
  obtain ⟨a', dx', vs, ea', h1, h2, h3, h4⟩ := s.re.slot i _ e
  rw [ea] at ea'
  cases ea'
  have h0 := s.fr i _ a e rfl ea
  have hl : i < σ.length := by
    rcases Nat.lt_or_ge i σ.length with z | z
    · exact z
    · rw [List.getElem?_eq_none (by simpa using z)] at ea; cases ea
  have old : ∀ {j : Nat} {t : Sl}, (ρ.set i (.oi c ds'))[j]? = some t → (i = j ∧ t = .oi c ds') ∨ (i ≠ j ∧ ρ[j]? = some t) := fun {j t} e => by
    by_cases hj : i = j
    · subst hj
      rw [List.getElem?_set_self (by rw [s.re.len]; exact hl)] at e; cases e; exact .inl ⟨rfl, rfl⟩
    · rw [List.getElem?_set_ne hj] at e; exact .inr ⟨hj, e⟩
  have oth : ∀ {j : Nat} {t : Sl}, i ≠ j → ρ[j]? = some t → SlR C F (upd H a (.ins (C.cad c) dx vs')) σ j t := fun {j t} hj ej => by
    have z := s.re.slot j t ej
    cases t with
    | no => trivial
    | v d => exact z
    | ol ds => obtain ⟨b, ws, e1, q1, q2, q3, q4⟩ := z; exact ⟨b, ws, e1, by rw [upd_ne (fun z => hj (s.dis i j _ _ a e ej rfl rfl ea (by rw [e1, z])))]; exact q1, q2, q3, q4⟩
    | oi c fs => obtain ⟨b, dx, ws, e1, q1, q2, q3, q4⟩ := z; exact ⟨b, dx, ws, e1, by rw [upd_ne (fun z => hj (s.dis i j _ _ a e ej rfl rfl ea (by rw [e1, z])))]; exact q1, q2, q3, q4⟩
    | ex c fs => exact z
  refine ⟨⟨Ext.upd (F' := F) (H' := H) (o := .ins (C.cad c) dx' vs) s.re.st h1 h2 h3, by rw [List.length_set]; exact s.re.len, fun j t ej => ?_⟩, ⟨s.ex.sub, fun b o n q => ?_, s.ex.new⟩, fun j k t u x e1 e2 o1 o2 q1 q2 => ?_, fun j t x e1 o1 q1 => ?_⟩
  · rcases old ej with ⟨q, z⟩ | ⟨n, q⟩
    · subst q; subst z
      exact ⟨a, dx, vs', ea, upd_same, h2, h3, l, h4.2⟩
    · exact oth n q
  · rw [upd_ne (ne_of_none q h0)]; exact s.ex.frm b o n q
  · rcases old e1 with ⟨w1, z1⟩ | ⟨n1, p1⟩
    · rcases old e2 with ⟨w2, z2⟩ | ⟨n2, p2⟩
      · exact w1.symm.trans w2
      · subst w1; exact s.dis i k _ u x e p2 rfl o2 q1 q2
    · rcases old e2 with ⟨w2, z2⟩ | ⟨n2, p2⟩
      · subst w2; exact s.dis j i t _ x p1 e o1 rfl q1 q2
      · exact s.dis j k t u x p1 p2 o1 o2 q1 q2
  · rcases old e1 with ⟨w1, z1⟩ | ⟨n1, p1⟩
    · subst w1; exact s.fr i _ x e rfl q1
    · exact s.fr j t x p1 o1 q1
theorem s_setF {f : Str} {pos' : Pos} (hK : X.K = C.K) (T : Fx C) (hN : X.N[i]? = some x) (hv : Vis X.env.scope x) (hdb : (x == ("__debug__" : Str)) = false) (hcd : (x == ("__classdict__" : Str)) = false) (h : SE C X W e fa)
    (hs : swapsWith e (some (.Attribute (.Name x p) f pos')) pos.line X.env = pure false) :
    S1 C X W (.Assign [.Attribute (.Name x p) f pos'] e pos) (fun ρ => bindS (fa ρ) ρ fun d => setF C i f ρ d) := by
  obtain ⟨t, pe, k⟩ := h
  refine (ps_fld (pe_var hN hv hdb hcd) pe hs).imp ?_
  rintro D σ H ⟨F0, H0, F, ρ, g, s, w⟩
  refine k σ F H ρ g _ s.re ((w.bind s).mono ?_)
  rintro v H1 ⟨F1, g1, d, x1, t1, s1, r1, w1⟩
  unfold setF at w1
  cases q : ρ[i]? with
  | none => rw [q] at w1; exact w1.elim
  | some sl =>
    rw [q] at w1
    cases sl with
    | oi c ds =>
      dsimp only at w1
      by_cases c1 : f ∈ C.flds c ∧ ds.length < 1000
      · rw [if_pos c1] at w1
        obtain ⟨a, dx, vs, hu, h1, h2, h3, h4⟩ := s1.re.slot i _ q
        obtain ⟨T1, T2⟩ := T.cls c f c1.1
        exact ⟨_, hu, a, C.cad c, dx, vs, rfl, h1, by rw [hK]; exact T1, by rw [hK]; exact T2, by rw [h4.1.length]; exact c1.2, w1 _ _ _ (s1.modI q hu (h4.1.put r1))⟩
      · rw [if_neg c1] at w1; exact w1.elim
    | _ => exact w1.elim
end
end DS

set_option Elab.async false
set_option linter.all false
set_option maxRecDepth 100000
set_option maxHeartbeats 4000000
/-! DS, part 9: built-in functions -/
namespace DS
open PySem L2
/-- what a built-in function (or type) f gives: m, of data -/
def BR (C : Cfg) (X : Cx) (f : Value) (m : List D → Option D) : Prop :=
  ∃ r, CallR X f r ∧ ∀ vs ds F H g Q d, DrL C F H vs ds → St0 C F H g → m ds = some d → (∀ v F' H', Ext C.R F H F' H' → St0 C F' H' g → Dv C F' v d → Q v H') → r vs H Q
/-- .. a new list -/
def BL (C : Cfg) (X : Cx) (f : Value) (m : List D → Option (List D)) : Prop :=
  ∃ r, CallR X f r ∧ ∀ vs ds F H g Q d, DrL C F H vs ds → St0 C F H g → m ds = some d → (∀ v F' H', Ext C.R F H F' H' → St0 C F' H' g → relO C H F' H' v d → Q v H') → r vs H Q
def orM {α : Type} (s t : List D → Option α) (a : List D) : Option α := match s a with
  | some d => some d
  | none => t a
section
variable {C : Cfg} {X : Cx} {W : WX} {e a b : Expr} {es : List Expr} {pos p : Pos} {fa : Env → M D} {fs : Env → M (List D)} {x : Str} {f : Value}
theorem BR.or {s t : List D → Option D} (h : BR C X f s) (k : BR C X f t) : BR C X f (orM s t) := by
  obtain ⟨r1, c1, h1⟩ := h
  obtain ⟨r2, c2, h2⟩ := k
  refine ⟨_, CallR.or c1 c2, fun vs ds F H g Q d l st e q => ?_⟩
  unfold orM at e
  cases e1 : s ds with
  | some d1 => rw [e1] at e; cases e; exact .inl (h1 vs ds F H g Q _ l st e1 q)
  | none => rw [e1] at e; exact .inr (h2 vs ds F H g Q d l st e q)
theorem BL.or {s t : List D → Option (List D)} (h : BL C X f s) (k : BL C X f t) : BL C X f (orM s t) := by
  obtain ⟨r1, c1, h1⟩ := h
  obtain ⟨r2, c2, h2⟩ := k
  refine ⟨_, CallR.or c1 c2, fun vs ds F H g Q d l st e q => ?_⟩
  unfold orM at e
  cases e1 : s ds with
  | some d1 => rw [e1] at e; cases e; exact .inl (h1 vs ds F H g Q _ l st e1 q)
  | none => rw [e1] at e; exact .inr (h2 vs ds F H g Q d l st e q)
/-- a name of the built-in functions, types -/
inductive BN (x : Str) : Value → Prop
  | fn (id : String) : bootBuiltins x = some (.builtin id) → BN x (.builtin id)
  | ty (T : String) : bootBuiltins x = some (.type T) → BN x (.type T)
theorem pe_bi {r : List V → Hp → VK → Prop} {t : TA} (hc : CallR X f r) (bn : BN x f) (hg : Gl X x) (hm : X.mg x = none) (ha : PA X (a :: es) t) (hn : x ≠ "__name__") (hdb : (x == ("__debug__" : Str)) = false)
    (he : starEach (a :: es) X.env = (false, eval a X.env) :: starEach es X.env) (hpl : (backTo pos (starEach es X.env)).any (·.1) = false) : PE X (.Call (.Name x p) (a :: es) [] pos) (tCB r t) := by
  cases bn with
  | fn id h => exact pe_callB hc hg hm h ha hn hdb he hpl
  | ty T h => exact pe_callTy hc hg hm h ha hn hdb he hpl
theorem se_bi {m : List D → Option D} (B : BR C X f m) (bn : BN x f) (hg : Gl X x) (hm : X.mg x = none) (ha : SAr C X W (a :: es) fs) (hn : x ≠ "__name__") (hdb : (x == ("__debug__" : Str)) = false)
    (he : starEach (a :: es) X.env = (false, eval a X.env) :: starEach es X.env) (hpl : (backTo pos (starEach es X.env)).any (·.1) = false) :
    SE C X W (.Call (.Name x p) (a :: es) [] pos) (fun ρ => M.bind (fs ρ) fun ds => lft (m ds)) := by
  obtain ⟨r, c, h⟩ := B
  obtain ⟨t, pa, ka⟩ := ha
  refine ⟨_, pe_bi c bn hg hm pa hn hdb he hpl, fun σ F H ρ g Q s hw => ka σ F H ρ g _ s (hw.bind.mono ?_)⟩
  rintro vs H1 ⟨F1, g1, ds, x1, t1, r1, w1⟩
  cases q : m ds with
  | none => rw [q] at w1; exact w1.elim
  | some d => rw [q] at w1; exact h vs ds F1 H1 g1 Q d r1 t1 q fun v F' H' x t r => w1 v F' H' x t r
theorem sl_bi {m : List D → Option (List D)} (B : BL C X f m) (bn : BN x f) (hg : Gl X x) (hm : X.mg x = none) (ha : SAr C X W (a :: es) fs) (hn : x ≠ "__name__") (hdb : (x == ("__debug__" : Str)) = false)
    (he : starEach (a :: es) X.env = (false, eval a X.env) :: starEach es X.env) (hpl : (backTo pos (starEach es X.env)).any (·.1) = false) :
    SL C X W (.Call (.Name x p) (a :: es) [] pos) (fun ρ => M.bind (fs ρ) fun ds => lft (m ds)) := by
  obtain ⟨r, c, h⟩ := B
  obtain ⟨t, pa, ka⟩ := ha
  refine ⟨_, pe_bi c bn hg hm pa hn hdb he hpl, fun σ F H ρ g Q s hw => ka σ F H ρ g _ s ?_⟩
  have hw : Want C W σ F H (relO C H) (M.bind (fs ρ) (fun ds => lft (m ds)) g) Q := hw
  unfold M.bind at hw
  cases q0 : fs ρ g with
  | ok ds g1 =>
    rw [q0] at hw
    have hw : Want C W σ F H (relO C H) (lft (m ds) g1) Q := hw
    intro vs F1 H1 x1 t1 r1
    cases q : m ds with
    | none => rw [q] at hw; exact hw.elim
    | some d =>
      rw [q] at hw
      refine h vs ds F1 H1 g1 Q d r1 t1 q fun v F' H' x t ⟨aa, ws, e1, e2, e3, e4, e5, e6⟩ => hw v F' H' (x1.trans x) t ⟨aa, ws, e1, ?_, e3, e4, e5, e6⟩
      cases qq : H aa with
      | none => rfl
      | some u => rw [x1.frm aa u e5 qq] at e2; cases e2
  | err c fs g1 => rw [q0] at hw; exact hw
  | stuck => rw [q0] at hw; exact hw.elim
/-- a built-in type by its name -/
theorem se_ty {T : String} (hg : Gl X x) (hm : X.mg x = none) (hv : bootBuiltins x = some (.type T)) (hn : x ≠ "__name__") (hdb : (x == ("__debug__" : Str)) = false) : SE C X W (.Name x pos) (fun _ => M.ret (.ty T)) :=
  ⟨_, pe_bltn hg hm hv (v := .ty T) rfl hn hdb, fun σ F H ρ g Q s hw => Want.ret (g := g) hw s.st (.ty T)⟩
/-! len, abs, max, min, sum, any, all -/
def lenD : List D → Option D
  | [.lst ds] => some (.int (ds.length : Int))
  | [.tup ds] => some (.int (ds.length : Int))
  | [.str z] => if z.length ≤ sizeLine then some (.int (z.length : Int)) else none
  | _ => none
theorem lenD_two (a b : D) (c : List D) : lenD (a :: b :: c) = none := by cases a <;> rfl
theorem br_len (hK : X.K = C.K) : BR C X (.builtin "len") lenD := by
  refine ⟨_, call_len, fun vs ds F H g Q d l st e q => ?_⟩
  cases l with
  | nil => cases e
  | cons r t =>
    cases t with
    | cons r' t' => rw [lenD_two] at e; cases e
    | nil =>
      rename_i v d0
      cases d0 with
      | lst xs =>
        obtain ⟨a, ws, rfl, h1, h2⟩ := r.lst_inv st.sub
        cases e
        exact ⟨_, ws.length, rfl, .inl ⟨ws, .inl (.inl h1), rfl⟩, by rw [h2.length]; exact q _ _ _ (Ext.refl _ _ _) st (.int _)⟩
      | tup xs =>
        obtain ⟨a, ws, rfl, h1, h2⟩ := r.tup_inv st.sub
        cases e
        exact ⟨_, ws.length, rfl, .inr ⟨ws, by rw [hK]; exact st.sub.sqt h1, rfl⟩, by rw [h2.length]; exact q _ _ _ (Ext.refl _ _ _) st (.int _)⟩
      | str z =>
        cases r.str_inv
        unfold lenD at e
        dsimp only at e
        split at e
        · rename_i c
          cases e
          exact ⟨_, z.length, rfl, ⟨c, rfl⟩, q _ _ _ (Ext.refl _ _ _) st (.int _)⟩
        · cases e
      | _ => cases e
def lenS (scr : List Int) : List D → Option D
  | [.scr] => some (.int (scr.length : Int))
  | _ => none
theorem br_lenS (hK : X.K = C.K) : BR C X (.builtin "len") (lenS C.scr) := by
  refine ⟨_, call_len, fun vs ds F H g Q d l st e q => ?_⟩
  unfold lenS at e
  split at e
  · cases e
    cases l with
    | cons r t =>
      cases t
      cases r.scr_inv
      exact ⟨_, (C.scr.map V.int).length, rfl, .inl ⟨_, by rw [hK]; exact st.sub.sql st.scr, rfl⟩, by rw [List.length_map]; exact q _ _ _ (Ext.refl _ _ _) st (.int _)⟩
  · cases e
def absD : List D → Option D
  | [.int i] => some (.int (if i < 0 then -i else i))
  | _ => none
theorem br_abs : BR C X (.builtin "abs") absD := by
  refine ⟨_, call_abs, fun vs ds F H g Q d l st e q => ?_⟩
  unfold absD at e
  split at e
  · rename_i i
    cases e
    cases l with
    | cons r t =>
      cases t
      cases r.int_inv
      exact ⟨i, rfl, q _ _ _ (Ext.refl _ _ _) st (.int _)⟩
  · cases e
def int2D (f : Int → Int → Int) : List D → Option D
  | [.int i, .int j] => some (.int (f i j))
  | _ => none
theorem br_max2 (hc : X.calm = true) : BR C X (.builtin "max") (int2D fun i j => if j > i then j else i) := by
  refine ⟨_, call_max2 hc, fun vs ds F H g Q d l st e q => ?_⟩
  unfold int2D at e
  split at e
  · rename_i i j
    cases e
    cases l with
    | cons r t =>
      cases t with
      | cons r2 t2 =>
        cases t2
        cases r.int_inv
        cases r2.int_inv
        exact ⟨i, j, rfl, q _ _ _ (Ext.refl _ _ _) st (.int _)⟩
  · cases e
theorem br_min2 (hc : X.calm = true) : BR C X (.builtin "min") (int2D fun i j => if j < i then j else i) := by
  refine ⟨_, call_min2 hc, fun vs ds F H g Q d l st e q => ?_⟩
  unfold int2D at e
  split at e
  · rename_i i j
    cases e
    cases l with
    | cons r t =>
      cases t with
      | cons r2 t2 =>
        cases t2
        cases r.int_inv
        cases r2.int_inv
        exact ⟨i, j, rfl, q _ _ _ (Ext.refl _ _ _) st (.int _)⟩
  · cases e
def intsD : List D → Option (List Int)
  | [] => some []
  | .int i :: ds => (intsD ds).map (i :: ·)
  | _ :: _ => none
theorem intsD_ok {F : Hp} : ∀ {vs : List V} {ds : List D} {ns : List Int}, DvL C F vs ds → intsD ds = some ns → vs = ns.map V.int
  | _, _, _, .nil, e => by cases e; rfl
  | _, d :: ds, ns, .cons r t, e => by
    cases d with
    | int i =>
      cases r
      unfold intsD at e
      cases q : intsD ds with
      | none => rw [q] at e; cases e
      | some ms => rw [q] at e; cases e; rw [intsD_ok t q]; rfl
    | _ => cases e
theorem intsD_map : ∀ ns : List Int, intsD (ns.map D.int) = some ns
  | [] => rfl
  | n :: ns => by rw [List.map_cons, intsD, intsD_map ns]; rfl
def maxI : List Int → Option Int
  | [] => none
  | i :: is => some (is.foldl (fun a b => if b > a then b else a) i)
def minI : List Int → Option Int
  | [] => none
  | i :: is => some (is.foldl (fun a b => if b < a then b else a) i)
theorem max_fold : ∀ (is : List Int) (i : Int), (is.foldl (fun a b => if b > a then b else a) i) ∈ i :: is ∧ ∀ y ∈ i :: is, y ≤ is.foldl (fun a b => if b > a then b else a) i
  | [], i => by simp
  | j :: is, i => by
    obtain ⟨h1, h2⟩ := max_fold is (if j > i then j else i)
    rw [List.foldl_cons]
    constructor
    · rcases List.mem_cons.mp h1 with h | h
      · rw [h]; split <;> simp
      · exact List.mem_cons_of_mem _ (List.mem_cons_of_mem _ h)
    · intro y hy
      have h3 := h2 _ List.mem_cons_self
      rcases List.mem_cons.mp hy with h | h
      · subst h; split at h3 <;> split <;> omega
      · rcases List.mem_cons.mp h with h | h
        · subst h; split at h3 <;> split <;> omega
        · exact h2 y (List.mem_cons_of_mem _ h)
theorem min_fold : ∀ (is : List Int) (i : Int), (is.foldl (fun a b => if b < a then b else a) i) ∈ i :: is ∧ ∀ y ∈ i :: is, is.foldl (fun a b => if b < a then b else a) i ≤ y
  | [], i => by simp
  | j :: is, i => by
    obtain ⟨h1, h2⟩ := min_fold is (if j < i then j else i)
    rw [List.foldl_cons]
    constructor
    · rcases List.mem_cons.mp h1 with h | h
      · rw [h]; split <;> simp
      · exact List.mem_cons_of_mem _ (List.mem_cons_of_mem _ h)
    · intro y hy
      have h3 := h2 _ List.mem_cons_self
      rcases List.mem_cons.mp hy with h | h
      · subst h; split at h3 <;> split <;> omega
      · rcases List.mem_cons.mp h with h | h
        · subst h; split at h3 <;> split <;> omega
        · exact h2 y (List.mem_cons_of_mem _ h)
def onInts (f : List Int → Option Int) : List D → Option D
  | [.lst ds] => (intsD ds).bind fun ns => (f ns).map D.int
  | _ => none
theorem onInts_inv {fI : List Int → Option Int} {vs : List V} {ds : List D} {F H : Hp} {g : G} {d : D} (l : DrL C F H vs ds) (st : St0 C F H g) (e : onInts fI ds = some d) : ∃ a ns m, vs = [.ref a] ∧ SqL X.K H a (ns.map V.int) ∧ fI ns = some m ∧ d = .int m := by
  unfold onInts at e
  split at e
  · rename_i xs
    cases l with
    | cons r t =>
      cases t
      obtain ⟨a, ws, rfl, h1, h2⟩ := r.lst_inv st.sub
      cases q : intsD xs with
      | none => rw [q] at e; cases e
      | some ns =>
        rw [q] at e
        cases q2 : fI ns with
        | none => rw [show (some ns).bind (fun ns => (fI ns).map D.int) = (fI ns).map D.int from rfl, q2] at e; cases e
        | some m =>
          rw [show (some ns).bind (fun ns => (fI ns).map D.int) = (fI ns).map D.int from rfl, q2] at e
          cases e
          refine ⟨a, ns, m, rfl, .inl (.inl ?_), q2, rfl⟩
          rw [← intsD_ok h2 q]
          exact h1
  · cases e
theorem br_max (hc : X.calm = true) : BR C X (.builtin "max") (onInts maxI) := by
  refine ⟨_, cr_max hc, fun vs ds F H g Q d l st e q => ?_⟩
  obtain ⟨a, ns, m, rfl, h1, h2, rfl⟩ := onInts_inv (X := X) l st e
  cases ns with
  | nil => cases h2
  | cons i is =>
    cases h2
    obtain ⟨f1, f2⟩ := max_fold is i
    refine ⟨a, i :: is, rfl, h1, by simp, fun m hm hle => ?_⟩
    have : m = is.foldl (fun a b => if b > a then b else a) i := Int.le_antisymm (f2 m hm) (hle _ f1)
    rw [this]
    exact q _ _ _ (Ext.refl _ _ _) st (.int _)
theorem br_min (hc : X.calm = true) : BR C X (.builtin "min") (onInts minI) := by
  refine ⟨_, cr_min hc, fun vs ds F H g Q d l st e q => ?_⟩
  obtain ⟨a, ns, m, rfl, h1, h2, rfl⟩ := onInts_inv (X := X) l st e
  cases ns with
  | nil => cases h2
  | cons i is =>
    cases h2
    obtain ⟨f1, f2⟩ := min_fold is i
    refine ⟨a, i :: is, rfl, h1, by simp, fun m hm hle => ?_⟩
    have : m = is.foldl (fun a b => if b < a then b else a) i := Int.le_antisymm (hle _ f1) (f2 m hm)
    rw [this]
    exact q _ _ _ (Ext.refl _ _ _) st (.int _)
theorem br_sum (hc : X.calm = true) : BR C X (.builtin "sum") (onInts fun ns => some ns.sum) := by
  refine ⟨_, cr_sum hc, fun vs ds F H g Q d l st e q => ?_⟩
  obtain ⟨a, ns, m, rfl, h1, h2, rfl⟩ := onInts_inv (X := X) l st e
  cases h2
  exact ⟨a, ns, rfl, h1, q _ _ _ (Ext.refl _ _ _) st (.int _)⟩
def blsD : List D → Option (List Bool)
  | [] => some []
  | .bl i :: ds => (blsD ds).map (i :: ·)
  | _ :: _ => none
theorem blsD_ok {F : Hp} : ∀ {vs : List V} {ds : List D} {ns : List Bool}, DvL C F vs ds → blsD ds = some ns → vs = ns.map V.bl
  | _, _, _, .nil, e => by cases e; rfl
  | _, d :: ds, ns, .cons r t, e => by
    cases d with
    | bl i =>
      cases r
      unfold blsD at e
      cases q : blsD ds with
      | none => rw [q] at e; cases e
      | some ms => rw [q] at e; cases e; rw [blsD_ok t q]; rfl
    | _ => cases e
theorem blsD_map : ∀ ns : List Bool, blsD (ns.map D.bl) = some ns
  | [] => rfl
  | n :: ns => by rw [List.map_cons, blsD, blsD_map ns]; rfl
def onBls (f : List Bool → Bool) : List D → Option D
  | [.lst ds] => (blsD ds).map fun ns => D.bl (f ns)
  | _ => none
theorem onBls_inv {fI : List Bool → Bool} {vs : List V} {ds : List D} {F H : Hp} {g : G} {d : D} (l : DrL C F H vs ds) (st : St0 C F H g) (e : onBls fI ds = some d) : ∃ a ns, vs = [.ref a] ∧ SqL X.K H a (ns.map V.bl) ∧ d = .bl (fI ns) := by
  unfold onBls at e
  split at e
  · rename_i xs
    cases l with
    | cons r t =>
      cases t
      obtain ⟨a, ws, rfl, h1, h2⟩ := r.lst_inv st.sub
      cases q : blsD xs with
      | none => rw [q] at e; cases e
      | some ns =>
        rw [q] at e
        cases e
        refine ⟨a, ns, rfl, .inl (.inl ?_), rfl⟩
        rw [← blsD_ok h2 q]
        exact h1
  · cases e
theorem br_any (hc : X.calm = true) : BR C X (.builtin "any") (onBls fun bs => bs.any id) := by
  refine ⟨_, cr_any hc, fun vs ds F H g Q d l st e q => ?_⟩
  obtain ⟨a, ns, rfl, h1, rfl⟩ := onBls_inv (X := X) l st e
  exact ⟨a, ns, rfl, h1, q _ _ _ (Ext.refl _ _ _) st (.bl _)⟩
theorem br_all (hc : X.calm = true) : BR C X (.builtin "all") (onBls fun bs => bs.all id) := by
  refine ⟨_, cr_all hc, fun vs ds F H g Q d l st e q => ?_⟩
  obtain ⟨a, ns, rfl, h1, rfl⟩ := onBls_inv (X := X) l st e
  exact ⟨a, ns, rfl, h1, q _ _ _ (Ext.refl _ _ _) st (.bl _)⟩
/-! int, str, repr -/
def intD : List D → Option D
  | [.int i] => some (.int i)
  | [.bl k] => some (.int (if k then 1 else 0))
  | _ => none
theorem br_int : BR C X (.type "int") intD := by
  refine ⟨_, call_int1, fun vs ds F H g Q d l st e q => ?_⟩
  unfold intD at e
  split at e
  · cases e
    cases l with
    | cons r t =>
      cases t
      cases r.int_inv
      exact .inl ⟨_, rfl, q _ _ _ (Ext.refl _ _ _) st (.int _)⟩
  · cases e
    cases l with
    | cons r t =>
      cases t
      cases r.bl_inv
      exact .inr ⟨_, rfl, q _ _ _ (Ext.refl _ _ _) st (.int _)⟩
  · cases e
def strD : List D → Option D
  | [.int i] => if i.natAbs.log2 < 1920 then some (.str (toString i)) else none
  | _ => none
theorem br_str : BR C X (.type "str") strD := by
  refine ⟨_, call_str_int, fun vs ds F H g Q d l st e q => ?_⟩
  unfold strD at e
  split at e
  · split at e
    · rename_i c
      cases e
      cases l with
      | cons r t =>
        cases t
        cases r.int_inv
        exact ⟨_, rfl, c, q _ _ _ (Ext.refl _ _ _) st (.str _)⟩
    · cases e
  · cases e
def strS : List D → Option D
  | [.str z] => some (.str z)
  | _ => none
theorem br_strS : BR C X (.type "str") strS := by
  refine ⟨_, SkE.call_str_str, fun vs ds F H g Q d l st e q => ?_⟩
  unfold strS at e
  split at e
  · cases e
    cases l with
    | cons r t =>
      cases t
      cases r.str_inv
      exact ⟨_, rfl, q _ _ _ (Ext.refl _ _ _) st (.str _)⟩
  · cases e
theorem call_reprD (hg : X.A.guards = some []) (hu : X.A.units + 80 < cLine) : CallR X (.builtin "repr") (fun xs H Q => ∃ v d, xs = [v] ∧ Dp X.K H v d ∧ SeqAt.shaped d = true ∧ d.showable = true ∧ d.shown.length ≤ sizeLine ∧ Q (.str d.shown) H) := by
  intro pins s σ H xs us Q I r h
  obtain ⟨v, d, rfl, hd, h1, h2, h4, q⟩ := h
  obtain ⟨u, rfl, ru⟩ := vals1 r
  obtain ⟨as, rd⟩ := Dp.reads I d v u hd ru
  have fin : ∀ a, u = .ref a → wpAny (model X.prog X.w) X.A (call (.builtin "repr") [u]) (EP X pins σ Q) X.xe s := by
    intro a e
    subst e
    refine repr_of_reads' rd h2 (PyData.noDict_hsm (PyData.hasDict_of_canLay d (SeqAt.canLay_of_shaped h1))) hg (by have := SeqAt.depth_of_shaped h1; omega) (fun _ _ e => e) (fun h' t tk hk => ?_) h4
    exact ⟨.str d.shown, H, I.kept hk, ⟨t, rfl⟩, q⟩
  cases rd with
  | none => exact P.repr_of_none ⟨.str _, H, I.tok _, ⟨_, rfl⟩, q⟩
  | bool b => exact P.repr_of_bool ⟨.str _, H, I.tok _, ⟨_, rfl⟩, q⟩
  | int i t => exact P.repr_of_int (of_decide_eq_true h2) ⟨.str _, H, I.tok _, ⟨_, rfl⟩, q⟩
  | str x t => exact P.repr_of_str ⟨.str _, H, I.tok _, ⟨_, rfl⟩, q⟩ h4
  | list => exact fin _ rfl
  | tuple => exact fin _ rfl
  | dict => exact fin _ rfl
def reprD : List D → Option D
  | [d] => (toPy d).bind fun p => if SeqAt.shaped p = true ∧ p.showable = true ∧ p.shown.length ≤ sizeLine then some (.str p.shown) else none
  | _ => none
theorem br_repr (hK : X.K = C.K) (hg : X.A.guards = some []) (hu : X.A.units + 80 < cLine) : BR C X (.builtin "repr") reprD := by
  refine ⟨_, call_reprD hg hu, fun vs ds F H g Q d l st e q => ?_⟩
  unfold reprD at e
  split at e
  · rename_i d0
    cases q1 : toPy d0 with
    | none => rw [q1] at e; cases e
    | some pp =>
      rw [q1] at e
      have e : (if SeqAt.shaped pp = true ∧ pp.showable = true ∧ pp.shown.length ≤ sizeLine then some (DS.D.str pp.shown) else none) = some d := e
      split at e
      · rename_i c
        cases e
        cases l with
        | cons r t =>
          cases t
          exact ⟨_, pp, rfl, by rw [hK]; exact r.dp st.sub q1, c.1, c.2.1, c.2.2, q _ _ _ (Ext.refl _ _ _) st (.str _)⟩
      · cases e
  · cases e
/-! tuple, list -/
def tupleD : List D → Option D
  | [.lst ds] => some (.tup ds)
  | [.tup ds] => some (.tup ds)
  | _ => none
theorem br_tuple (hK : X.K = C.K) : BR C X (.type "tuple") tupleD := by
  refine ⟨_, call_tuple_of, fun vs ds F H g Q d l st e q => ?_⟩
  unfold tupleD at e
  split at e
  · cases e
    cases l with
    | cons r t =>
      cases t
      obtain ⟨a, ws, rfl, h1, h2⟩ := r.lst_inv st.sub
      refine ⟨a, ws, rfl, .inl ⟨.inl (.inl h1), fun l nl => ?_⟩⟩
      obtain ⟨x, t2⟩ := Ext.lay st nl (.tup ws)
      exact q _ _ _ x t2 (.tup (.inl (.inl upd_same)) (h2.mono x.sub))
  · cases e
    cases l with
    | cons r t =>
      cases t
      obtain ⟨a, ws, rfl, h1, h2⟩ := r.tup_inv st.sub
      exact ⟨a, ws, rfl, .inr ⟨by rw [hK]; exact st.sub.sqt h1, q _ _ _ (Ext.refl _ _ _) st (.tup h1 h2)⟩⟩
  · cases e
theorem relO_new {F H : Hp} {g : G} {l : Addr} {ws : List V} {ds : List D} (st : St0 C F H g) (nl : H l = none) (h2 : DvL C F ws ds) : Ext C.R F H F (upd H l (.lst ws)) ∧ St0 C F (upd H l (.lst ws)) g ∧ relO C H F (upd H l (.lst ws)) (.ref l) ds := by
  obtain ⟨x, t2⟩ := Ext.own st nl (.lst ws)
  have nF : F l = none := by
    cases q : F l with
    | none => rfl
    | some u => rw [st.sub l u q] at nl; cases nl
  have nR : l ≠ C.R := fun z => by rw [z, st.rowH] at nl; cases nl
  exact ⟨x, t2, l, ws, rfl, nl, upd_same, nF, nR, h2⟩
def listDL : List D → Option (List D)
  | [.lst ds] => some ds
  | [.tup ds] => some ds
  | _ => none
theorem bl_list (hK : X.K = C.K) : BL C X (.type "list") listDL := by
  refine ⟨_, call_list_of, fun vs ds F H g Q d l st e q => ?_⟩
  unfold listDL at e
  split at e
  · cases e
    cases l with
    | cons r t =>
      cases t
      obtain ⟨a, ws, rfl, h1, h2⟩ := r.lst_inv st.sub
      refine ⟨a, ws, rfl, .inl (.inl (.inl h1)), fun l nl => ?_⟩
      obtain ⟨x, t2, k⟩ := relO_new st nl h2
      exact q _ _ _ x t2 k
  · cases e
    cases l with
    | cons r t =>
      cases t
      obtain ⟨a, ws, rfl, h1, h2⟩ := r.tup_inv st.sub
      refine ⟨a, ws, rfl, .inr (by rw [hK]; exact st.sub.sqt h1), fun l nl => ?_⟩
      obtain ⟨x, t2, k⟩ := relO_new st nl h2
      exact q _ _ _ x t2 k
  · cases e
/-! list(range(..)), tuple(range(..)) -/
def SRg (C : Cfg) (X : Cx) (W : WX) (e : Expr) (f : Env → M (Int × Int)) : Prop :=
  ∃ t, PRg X e t ∧ ∀ σ F H ρ g Q, SRe C σ F H ρ g → Want C W σ F H (fun _ _ (a : Int × Int) (b : Int × Int) => a = b) (f ρ g) (fun (v : Int × Int) H' => Q v.1 v.2 H') → t σ H Q
def toI : D → Option Int
  | .int i => some i
  | _ => none
theorem srg1 (hg : Gl X "range") (hm : X.mg "range" = none) (ha : SR C X W a fa) (na : starEach [a] X.env = (false, eval a X.env) :: starEach [] X.env) :
    SRg C X W (.Call (.Name "range" p) [a] [] pos) (fun ρ => M.bind (fa ρ) fun x => M.bind (lft (toI x)) fun n => M.ret (0, n)) := by
  obtain ⟨ta, pa, ka⟩ := ha
  refine ⟨_, prg_1 hg hm pa na, fun σ F H ρ g Q s hw => ka σ F H ρ g _ s (hw.bind.mono ?_)⟩
  rintro x H1 ⟨F1, g1, dx, x1, t1, r1, w1⟩
  cases dx with
  | int n =>
    cases r1.int_inv
    exact ⟨n, rfl, Want.ret (v := ((0, n) : Int × Int)) (g := g1) w1 t1 rfl⟩
  | _ => exact w1.elim
theorem srg2 {fb : Env → M D} (hg : Gl X "range") (hm : X.mg "range" = none) (ha : SR C X W a fa) (hb : SR C X W b fb) (na : starEach [a, b] X.env = (false, eval a X.env) :: starEach [b] X.env) (nb : starEach [b] X.env = (false, eval b X.env) :: starEach [] X.env) (hp : (backTo pos (starEach [b] X.env)).any (·.1) = false) :
    SRg C X W (.Call (.Name "range" p) [a, b] [] pos) (fun ρ => M.bind (fa ρ) fun x => M.bind (fb ρ) fun y => M.bind (lft (toI x)) fun n => M.bind (lft (toI y)) fun m => M.ret (n, m)) := by
  obtain ⟨ta, pa, ka⟩ := ha
  obtain ⟨tb, pb, kb⟩ := hb
  refine ⟨_, prg_2 hg hm pa pb na nb hp, fun σ F H ρ g Q s hw => ka σ F H ρ g _ s (hw.bind.mono ?_)⟩
  rintro x H1 ⟨F1, g1, dx, x1, t1, r1, w1⟩
  refine kb σ F1 H1 ρ g1 _ (s.ext x1 t1) (w1.bind.mono ?_)
  rintro y H2 ⟨F2, g2, dy, x2, t2, r2, w2⟩
  cases dx with
  | int n =>
    cases dy with
    | int m =>
      cases r1.int_inv
      cases r2.int_inv
      exact ⟨n, m, rfl, rfl, Want.ret (v := ((n, m) : Int × Int)) (g := g2) w2 t2 rfl⟩
    | _ => exact w2.elim
  | _ =>
    cases dy <;> exact w2.elim
def okRg (a b : Int) : Bool := decide (-(2 ^ 62) ≤ a ∧ a < 2 ^ 62 ∧ -(2 ^ 62) ≤ b ∧ b < 2 ^ 62 ∧ (b - a).toNat ≤ 2 ^ 24)
def rngL (v : Int × Int) : Option (List D) := if okRg v.1 v.2 = true then some (rngD v.1 (v.2 - v.1).toNat) else none
theorem rg_dv {F : Hp} {a b : Int} : DvL C F (rgV a b) (rngD a (b - a).toNat) := by
  unfold rgV rngD
  induction (List.range (b - a).toNat) with
  | nil => exact .nil
  | cons i is ih => exact .cons (.int _) ih
theorem sl_rg {fr : Env → M (Int × Int)} (hc : X.calm = true) (hg : Gl X "list") (hm : X.mg "list" = none) (he : SRg C X W e fr) (na : starEach [e] X.env = (false, eval e X.env) :: starEach [] X.env) :
    SL C X W (.Call (.Name "list" p) [e] [] pos) (fun ρ => M.bind (fr ρ) fun v => lft (rngL v)) := by
  obtain ⟨t, pt, k⟩ := he
  refine ⟨_, pe_listRg hc hg hm pt na, fun σ F H ρ g Q s hw => k σ F H ρ g _ s ?_⟩
  have hw : Want C W σ F H (relO C H) (M.bind (fr ρ) (fun v => lft (rngL v)) g) Q := hw
  unfold M.bind at hw
  cases q0 : fr ρ g with
  | ok v g1 =>
    rw [q0] at hw
    have hw : Want C W σ F H (relO C H) (lft (rngL v) g1) Q := hw
    rintro v' F1 H1 x1 t1 e1
    subst e1
    unfold rngL at hw
    by_cases c : okRg v'.1 v'.2 = true
    · rw [if_pos c] at hw
      have c' := of_decide_eq_true c
      refine ⟨c', fun l nl => ?_⟩
      obtain ⟨x, t2, aa, ws, e1, e2, e3, e4, e5, e6⟩ := relO_new t1 nl (rg_dv (a := v'.1) (b := v'.2))
      refine hw _ _ _ (x1.trans x) t2 ⟨aa, ws, e1, ?_, e3, e4, e5, e6⟩
      cases qq : H aa with
      | none => rfl
      | some u => rw [x1.frm aa u e5 qq] at e2; cases e2
    · rw [if_neg c] at hw; exact hw.elim
  | err c fs g1 => rw [q0] at hw; exact hw
  | stuck => rw [q0] at hw; exact hw.elim
theorem se_tuprg {fr : Env → M (Int × Int)} (hc : X.calm = true) (hg : Gl X "tuple") (hm : X.mg "tuple" = none) (he : SRg C X W e fr) (na : starEach [e] X.env = (false, eval e X.env) :: starEach [] X.env) :
    SE C X W (.Call (.Name "tuple" p) [e] [] pos) (fun ρ => M.bind (fr ρ) fun v => M.bind (lft (rngL v)) fun ds => M.ret (.tup ds)) := by
  obtain ⟨t, pt, k⟩ := he
  refine ⟨_, pe_tupRg hc hg hm pt na, fun σ F H ρ g Q s hw => k σ F H ρ g _ s (hw.bind.mono ?_)⟩
  rintro v H1 ⟨F1, g1, v', x1, t1, r1, w1⟩
  subst r1
  unfold rngL at w1
  by_cases c : okRg v.1 v.2 = true
  · rw [if_pos c] at w1
    have w1 : Want C W σ F1 H1 (relD C) (Res.ok (DS.D.tup (rngD v.1 (v.2 - v.1).toNat)) g1) Q := w1
    have c' := of_decide_eq_true c
    refine ⟨c', fun l nl => ?_⟩
    obtain ⟨x, t2⟩ := Ext.lay t1 nl (.tup (rgV v.1 v.2))
    exact w1 _ _ _ x t2 (.tup (.inl (.inl upd_same)) rg_dv)
  · rw [if_neg c] at w1; exact w1.elim
/-! isinstance -/
def tyD : D → Option String
  | .non => some "NoneType"
  | .bl _ => some "bool"
  | .int _ => some "int"
  | .str _ => some "str"
  | .tup _ => some "tuple"
  | .lst _ => some "list"
  | _ => none
theorem tyD_ok {F H : Hp} {v : V} {d : D} {T : String} (hK : X.K = C.K) (sb : Sub F H) (r : Dr C F H v d) (e : tyD d = some T) : TyX X.K H v (.type T) := by
  cases d with
  | non => cases e; rcases r with r | ⟨_, _, _, _, h, _⟩ | ⟨_, _, _, _, _, _, h, _⟩
           · cases r; exact .base .non
           · cases h
           · cases h
  | bl b => cases e; cases r.bl_inv; exact .base (.bl _)
  | int b => cases e; cases r.int_inv; exact .base (.int _)
  | str b => cases e; cases r.str_inv; exact .base (.str _)
  | lst ds =>
    cases e
    obtain ⟨a, ws, rfl, h1, h2⟩ := r.lst_inv sb
    exact .base (.lst h1)
  | tup ds =>
    cases e
    obtain ⟨a, ws, rfl, h1, h2⟩ := r.tup_inv sb
    rcases sb.sqt h1 with (h | ⟨o, h⟩) | ⟨o, its, n, hk, hc, _⟩
    · exact .base (.tup h)
    · exact .fTuple h
    · exact .kTuple (by rw [hK]; exact hk) hc
  | _ => cases e
def isiD : List D → Option D
  | [d, .ty T] => (tyD d).bind fun t => (kitB t T).map D.bl
  | _ => none
theorem br_isi (hK : X.K = C.K) : BR C X (.builtin "isinstance") isiD := by
  refine ⟨_, call_isi, fun vs ds F H g Q d l st e q => ?_⟩
  unfold isiD at e
  split at e
  · rename_i d0 T
    cases q1 : tyD d0 with
    | none => rw [q1] at e; cases e
    | some t =>
      rw [q1] at e
      cases q2 : kitB t T with
      | none => rw [show (some t).bind (fun t => (kitB t T).map DS.D.bl) = (kitB t T).map DS.D.bl from rfl, q2] at e; cases e
      | some b =>
        rw [show (some t).bind (fun t => (kitB t T).map DS.D.bl) = (kitB t T).map DS.D.bl from rfl, q2] at e
        cases e
        cases l with
        | cons r t2 =>
          cases t2 with
          | cons r2 t3 =>
            cases t3
            rcases r2 with r2 | ⟨_, _, _, _, h, _⟩ | ⟨_, _, _, _, _, _, h, _⟩
            · cases r2
              exact ⟨_, _, _, _, b, rfl, .ty T, tyD_ok hK st.sub r q1, kit_ty q2, q _ _ _ (Ext.refl _ _ _) st (.bl _)⟩
            · cases h
            · cases h
  · cases e
/-- .. of several types -/
def tysD : List D → Option (List String)
  | [] => some []
  | .ty T :: ds => (tysD ds).map (T :: ·)
  | _ :: _ => none
theorem tysD_ok {F : Hp} : ∀ {vs : List V} {ds : List D} {ns : List String}, DvL C F vs ds → tysD ds = some ns → vs = ns.map V.ty
  | _, _, _, .nil, e => by cases e; rfl
  | _, d :: ds, ns, .cons r t, e => by
    cases d with
    | ty i =>
      cases r
      unfold tysD at e
      cases q : tysD ds with
      | none => rw [q] at e; cases e
      | some ms => rw [q] at e; cases e; rw [tysD_ok t q]; rfl
    | _ => cases e
def kitS (t : String) : List String → Option Bool
  | [] => some false
  | T :: Ts => match kitB t T with
    | some true => some true
    | some false => kitS t Ts
    | none => none
theorem kitS_ok {K : PySem.W.Frag} {t : String} : ∀ {Ts : List String} {b : Bool}, kitS t Ts = some b → PySem.W.kitAny K (.type t) (Ts.map Value.type) = some b
  | [], _, e => by cases e; rfl
  | T :: Ts, b, e => by
    unfold kitS at e
    cases q : kitB t T with
    | none => rw [q] at e; cases e
    | some bb =>
      rw [q] at e
      cases bb with
      | true => cases e; exact kitAny_cons (kit_ty q) (fun z => by cases z) (fun _ => rfl)
      | false => exact kitAny_cons (kit_ty q) (fun _ => kitS_ok e) (fun z => by cases z)
theorem paired_ty : ∀ Ts : List String, Paired ClsV (Ts.map V.ty) (Ts.map Value.type)
  | [] => .nil
  | T :: Ts => .cons (.ty T) (paired_ty Ts)
def isiT (d : D) (ts : List D) : Option D := (tyD d).bind fun t => (tysD ts).bind fun Ts => (kitS t Ts).map D.bl
theorem se_isiT {ts : List Expr} {ft : Env → M (List D)} {kk : Nat} {tp : Pos} (hK : X.K = C.K) (hg : Gl X "isinstance") (hm : X.mg "isinstance" = none) (ha : SR C X W a fa) (ht : SA C X W ts ft)
    (he : starEach [a, .Tuple ts kk tp] X.env = (false, eval a X.env) :: starEach [.Tuple ts kk tp] X.env) (hpl : (backTo pos (starEach [.Tuple ts kk tp] X.env)).any (·.1) = false) :
    SE C X W (.Call (.Name "isinstance" p) [a, .Tuple ts kk tp] [] pos) (fun ρ => M.bind (fa ρ) fun d => M.bind (ft ρ) fun ds => M.bind (szM ds) fun ds => lft (isiT d ds)) := by
  obtain ⟨ta, pa, ka⟩ := ha
  obtain ⟨tt, pt, kt⟩ := ht
  refine ⟨_, pe_callB call_isiT hg hm (by decide +kernel) (pa_cons pa (pa_cons (pe_tup pt) pa_nil rfl) he) (by decide) (by decide) he hpl, fun σ F H ρ g Q s hw => ka σ F H ρ g _ s (hw.bind.mono ?_)⟩
  rintro x H1 ⟨F1, g1, dx, x1, t1, r1, w1⟩
  refine kt σ F1 H1 ρ g1 _ (s.ext x1 t1) (w1.bind.mono ?_)
  rintro vs H2 ⟨F2, g2, ds, x2, t2, r2, w2⟩
  unfold szM at w2
  by_cases c : ds.length ≤ sizeLine
  · rw [if_pos c] at w2
    have w2 : Want C W σ F2 H2 (relD C) (lft (isiT dx ds) g2) Q := w2
    refine ⟨by rw [r2.length]; exact c, fun l nl => ?_⟩
    obtain ⟨x3, t3⟩ := Ext.lay t2 nl (.tup vs)
    unfold isiT at w2
    cases q1 : tyD dx with
    | none => rw [q1] at w2; exact w2.elim
    | some t =>
      cases q2 : tysD ds with
      | none => rw [q1, q2] at w2; exact w2.elim
      | some Ts =>
        cases q3 : kitS t Ts with
        | none => rw [q1, q2, show (some t).bind (fun t => (some Ts).bind fun Ts => (kitS t Ts).map DS.D.bl) = (kitS t Ts).map DS.D.bl from rfl, q3] at w2; exact w2.elim
        | some b =>
          rw [q1, q2, show (some t).bind (fun t => (some Ts).bind fun Ts => (kitS t Ts).map DS.D.bl) = (kitS t Ts).map DS.D.bl from rfl, q3] at w2
          refine ⟨x, l, vs, _, Ts.map Value.type, b, rfl, upd_same, ?_, tyD_ok hK t3.sub ((r1.ext x2).ext x3) q1, kitS_ok q3, w2 _ _ _ x3 t3 (.bl _)⟩
          rw [tysD_ok r2 q2]
          exact paired_ty Ts
  · rw [if_neg c] at w2; exact w2.elim
/-! in, not in: a list -/
def inS (n : Bool) (a b : D) : Option D := match b with
  | .lst ds => (match toPy a, toPyL ds with
    | some p, some ps => if SeqAt.shaped p = true ∧ SeqAt.shaped (.list ps) = true then some (.bl (xor n (ps.any fun z => PyData.eqv z p))) else none
    | _, _ => none)
  | _ => none
theorem opD_in (hK : X.K = C.K) (hu : X.A.units + 65 < cLine) : OpD C X (compareOp .In) (inS false) := by
  refine ⟨_, op_inD hu, fun F H g x y dx dy W σ Q st rx ry hw => ?_⟩
  unfold inS at hw
  cases dy with
  | lst ds =>
    dsimp only at hw
    cases e1 : toPy dx with
    | none => rw [e1] at hw; exact hw.elim
    | some p =>
      cases e2 : toPyL ds with
      | none => rw [e1, e2] at hw; exact hw.elim
      | some q =>
        rw [e1, e2] at hw
        by_cases c : SeqAt.shaped p = true ∧ SeqAt.shaped (.list q) = true
        · simp only [c, and_self, if_true, Bool.false_xor] at hw
          exact ⟨p, q, by rw [hK]; exact rx.dp st.sub e1, by rw [hK]; exact ry.dp st.sub (by rw [toPy, e2]; rfl), c.1, c.2, Want.ret (g := g) hw st (.bl _)⟩
        · simp only [c, if_false] at hw; exact hw.elim
  | _ => exact hw.elim
theorem opD_notin (hK : X.K = C.K) (hu : X.A.units + 65 < cLine) : OpD C X (compareOp .NotIn) (inS true) := by
  refine ⟨_, op_notInD hu, fun F H g x y dx dy W σ Q st rx ry hw => ?_⟩
  unfold inS at hw
  cases dy with
  | lst ds =>
    dsimp only at hw
    cases e1 : toPy dx with
    | none => rw [e1] at hw; exact hw.elim
    | some p =>
      cases e2 : toPyL ds with
      | none => rw [e1, e2] at hw; exact hw.elim
      | some q =>
        rw [e1, e2] at hw
        by_cases c : SeqAt.shaped p = true ∧ SeqAt.shaped (.list q) = true
        · simp only [c, and_self, if_true, Bool.true_xor] at hw
          exact ⟨p, q, by rw [hK]; exact rx.dp st.sub e1, by rw [hK]; exact ry.dp st.sub (by rw [toPy, e2]; rfl), c.1, c.2, Want.ret (g := g) hw st (.bl _)⟩
        · simp only [c, if_false] at hw; exact hw.elim
  | _ => exact hw.elim
end
end DS

set_option Elab.async false
set_option linter.all false
set_option maxRecDepth 100000
set_option maxHeartbeats 4000000
/-! DS: == and != of objects with the text's own __eq__ -/
namespace L2
open PySem PySem.Spec PyProof.Rows
section
variable {prog : Program} {w : World} {A : Around} {E : Value → Shared → Prop} {s : Shared} {K : PySem.W.Frag} {x Ca fa : Addr} {ox : Obj} {od : Option Obj} {name : Str} {b tb : Value}
/-- a special name that is a built-in of object's -/
theorem special_bi {M : Model} {bid : String} {args : List Value} {Q : Option Value → Shared → Prop} (X : K.In s.heap) (I : PySem.W.InstAt s.heap x ox Ca od) (at_ : PySem.W.findIn K (.ref Ca) name = some (some (.builtin bid)))
    (bd : ∀ self, bindSpecial (.builtin bid) self = pure (.builtin bid, [self])) (go : wpAny M A (call (.builtin bid) (.ref x :: args)) (fun v => Q (some v)) E s) : wpAny M A (callSpecialIfBound? (.ref x) name args) Q E s := by
  unfold callSpecialIfBound? bindSpecialIfBound?
  have last : wpAny M A (do let v ← call (.builtin bid) ([.ref x] ++ args); pure (some v)) Q E s := wpAny_bind (wpAny_mono go (fun _ _ z => wpAny_pure z) fun _ _ z => z)
  refine wpAny_holding (wpAny_bind (wpAny_bind (wpAny_bind (I.type.here ((PySem.W.looks_findIn X at_).here ?_)))))
  simp only [bd]
  refine wpAny_bind (wpAny_askSetting (wpAny_ite ?_))
  split
  · exact wpAny_bind (wpAny_pure (wpAny_pure last))
  · exact wpAny_tryCatch (wpAny_bind (wpAny_pure (wpAny_pure last)))
theorem body_ne {Q : Fin → Shared → Prop} (X : K.In s.heap) (I : PySem.W.InstAt s.heap x ox Ca od) (at_ : PySem.W.findIn K (.ref Ca) "__eq__" = some (some (.ref fa))) (hf : PySem.W.isFn K (.ref fa) = true) (room : A.units < cLine)
    (go : wpAny (model prog w) A (call (.ref fa) [.ref x, b]) (fun v s' => ∃ c, v = .bool c ∧ Q (.done (.ret (.bool (!c)))) s') E s) : wpAny (model prog w) A (Builtin.«object.__ne__» ⟨[.ref x, b], []⟩) Q E s := by
  obtain ⟨hp, g, d, t, os⟩ := s
  unfold Builtin.«object.__ne__»
  repeat (first
    | with_reducible refine wpAny_cRoomFor room ?_
    | (refine wpAny_bind (m := callSpecialIfBound? (.ref x) (Str.ofString "__eq__") [b]) (PySem.W.ifBound_K X I at_ hf (wpAny_mono go (fun v s' z => ?_) fun _ _ z => z))
       obtain ⟨c, rfl, q⟩ := z
       repeat (first | exact q | exact wpAny_pure q | exact wpAny_truthy_bool q | (refine wpAny_bind (m := truthy (.bool _)) (wpAny_truthy_bool ?_)) | wp_step))
    | wp_step)
theorem rich_ne {Q : Value → Shared → Prop} (X : K.In s.heap) (I : PySem.W.InstAt s.heap x ox Ca od) (room : A.units + 1 < cLine) (look : PySem.W.Looks (model prog w) s.heap (typeOf b) tb) (nf : PySem.W.notFirst K Ca tb = true)
    (at_ : PySem.W.findIn K (.ref Ca) "__eq__" = some (some (.ref fa))) (hf : PySem.W.isFn K (.ref fa) = true) (atN : PySem.W.findIn K (.ref Ca) "__ne__" = some (some (.builtin "object.__ne__"))) (ob : PySem.W.mroIn K Ca (.type "object") = some true)
    (go : wpAny (model prog w) A.in1 (call (.ref fa) [.ref x, b]) (fun v s' => ∃ c, v = .bool c ∧ Q (.bool (!c)) s') E s) : wpAny (model prog w) A (richCompare .NotEq (.ref x) b) Q E s := by
  have inst : PySem.W.Looks (model prog w) s.heap (isInstance (.ref x) (.type "object")) true := I.type.andThen (PySem.W.looks_subIn X (t := .ref Ca) ob)
  have callN : wpAny (model prog w) A (call (.builtin "object.__ne__") [.ref x, b]) (fun v s' => v ≠ .notImplemented ∧ Q v s') E s := by
    refine wpAny_call (codeAny_call_builtin F.cmp_object.ne.plain F.cmpEntry_ne (PySem.W.check_slot F.cmpKind_ne F.cmpSplit_ne inst (F.cmpArgs_ne _ _) (body_ne (A := A.in1) X I at_ hf (by show A.units + 1 < cLine; exact room) (wpAny_mono go (fun v s' z => ?_) fun _ _ z => z))))
    obtain ⟨c, e, q⟩ := z
    exact ⟨c, e, by simp, q⟩
  have one : wpAny (model prog w) A (tryCompare (.ref x) "__ne__" b) (fun r s' => ∃ v, r = some v ∧ Q v s') E s := by
    unfold tryCompare
    refine wpAny_bind (special_bi X I atN F.cmp_object.ne.bind (wpAny_mono callN (fun v s' z => ?_) fun _ _ z => z))
    obtain ⟨z1, z2⟩ := z
    cases v <;> first | exact absurd rfl z1 | exact wpAny_pure ⟨_, rfl, z2⟩
  unfold richCompare
  simp only [oneThing_ref]
  refine wpAny_holding (wpAny_bind (wpAny_cRoomFor (by omega) ?_))
  refine wpAny_bind (I.type.here (wpAny_bind (look.here ?_)))
  have fin : ∀ {k : Option Value → Sem Value}, (∀ v, k (some v) = pure v) → wpAny (model prog w) A (tryCompare (.ref x) "__ne__" b >>= k) Q E s := fun {k} hk => wpAny_bind (wpAny_mono one (fun r s' z => by
    obtain ⟨v, e, q⟩ := z
    subst e
    rw [hk]
    exact wpAny_pure q) fun _ _ z => z)
  split
  · rename_i q
    have sb : PySem.W.subIn K tb (.ref Ca) = some false := (Bool.or_eq_true_iff.mp nf).elim (fun z => by rw [beq_iff_eq.mp z] at q; simp at q) fun z => beq_iff_eq.mp z
    refine wpAny_bind ((PySem.W.looks_subIn X sb).here ?_)
    simp only [Bool.false_eq_true, if_false]
    exact fin fun v => rfl
  · refine wpAny_bind (wpAny_pure ?_)
    simp only [Bool.false_eq_true, if_false]
    exact fin fun v => rfl
end
end L2
namespace DS
open PySem L2
def tyX (kit : Tk → Nat → Option Bool) : D → Option Tk
  | .ins c _ => if kit (.c c) c = some true then some (.c c) else none
  | d => (tyD d).map Tk.b
/-- isinstance(x, an own class) -/
def isCd (kit : Tk → Nat → Option Bool) (c : Nat) (d : D) : Option D := (tyX kit d).bind fun t => (kit t c).map D.bl
/-- which def compares x with y -/
def eqJ (mts : Nat → Str → Option Nat) (kit : Tk → Nat → Option Bool) (x y : D) : Option Nat := match x with
  | .ins c _ => (match tyX kit y with
    | some (.c i) => if i = c ∨ kit (.c i) c = some false then mts c "__eq__" else none
    | some (.b _) => mts c "__eq__"
    | none => none)
  | _ => none
section
variable {C : Cfg} {X : Cx} {W : WX} {k : Nat} {e a b : Expr} {es : List Expr} {pos p : Pos} {fa fb : Env → M D} {x : Str}
theorem tyX_ok {F H : Hp} {v : V} {d : D} {t : Tk} (hK : X.K = C.K) (T : Fx C) (sb : Sub F H) (r : Dr C F H v d) (q : tyX C.kit d = some t) : TyX X.K H v (t.val C.cad) := by
  cases d with
  | ins c fs =>
    have q : (if C.kit (.c c) c = some true then some (Tk.c c) else none) = some t := q
    by_cases hk : C.kit (.c c) c = some true
    · rw [if_pos hk] at q
      cases q
      have o := T.own c hk
      rw [← hK] at o
      rcases r with r | ⟨_, _, _, _, h, _⟩ | ⟨a, dx, fs', c', ds, h1, h2, h3, _⟩
      · cases r with
        | ins h l => exact .base (.ins (sb _ _ h) o.cls o.ha o.hn o.htk o.hm)
      · cases h
      · cases h2
        subst h1
        exact .base (.ins h3 o.cls o.ha o.hn o.htk o.hm)
    · rw [if_neg hk] at q; cases q
  | _ =>
    unfold tyX at q
    obtain ⟨n, h1, h2⟩ := Option.map_eq_some_iff.mp q
    subst h2
    exact tyD_ok hK sb r h1
theorem br_isC (hK : X.K = C.K) (T : Fx C) : BR C X (.builtin "isinstance") (fun ds => match ds with | [d, .cls c] => isCd C.kit c d | _ => none) := by
  refine ⟨_, call_isi, fun vs ds F H g Q d l st e q => ?_⟩
  dsimp only at e
  split at e
  · rename_i d0 c
    unfold isCd at e
    obtain ⟨t, h1, h2⟩ := Option.bind_eq_some_iff.mp e
    obtain ⟨u, h3, h4⟩ := Option.map_eq_some_iff.mp h2
    subst h4
    cases l with
    | cons r t2 =>
      cases t2 with
      | cons r2 t3 =>
        cases t3
        rcases r2 with r2 | ⟨_, _, _, _, h, _⟩ | ⟨_, _, _, _, _, _, h, _⟩
        · cases r2
          exact ⟨_, _, _, _, u, rfl, .own _, tyX_ok hK T st.sub r h1, by rw [hK]; exact T.kit t c u h3, q _ _ _ (Ext.refl _ _ _) st (.bl _)⟩
        · cases h
        · cases h
  · cases e
theorem mro_base {K : PySem.W.Frag} {n : String} {d : D} (h : tyD d = some n) (a : Addr) : PySem.W.subIn K (.type n) (.ref a) = some false := by
  have one : ∀ m ∈ ["NoneType", "bool", "int", "str", "tuple", "list"], ∃ l, PySem.fastBuiltinMro m = some l ∧ ∀ v ∈ l, ∃ q, v = Value.type q := by
    intro m hm
    simp only [List.mem_cons, List.not_mem_nil, or_false] at hm
    rcases hm with h | h | h | h | h | h <;> subst h <;> exact ⟨_, rfl, by simp⟩
  have hm : n ∈ ["NoneType", "bool", "int", "str", "tuple", "list"] := by
    cases d <;> first | (cases h; simp) | cases h
  obtain ⟨l, h1, h2⟩ := one n hm
  show (PySem.fastBuiltinMro n).map (·.contains (.ref a)) = some false
  rw [h1]
  show some (l.contains (.ref a)) = some false
  cases q : l.contains (Value.ref a) with
  | false => rfl
  | true =>
    obtain ⟨q, e⟩ := h2 _ (List.contains_iff_mem.mp q)
    cases e
theorem sub_of_kit {K : PySem.W.Frag} {t : Value} {a : Addr} (h : PySem.W.kitOne K t (.ref a) = some false) : PySem.W.subIn K t (.ref a) = some false := by
  unfold PySem.W.kitOne at h
  split at h
  · cases h
  · unfold PySem.W.kitCls at h
    dsimp only at h
    split at h
    · exact h
    · cases h
theorem notFirst_ok (hK : X.K = C.K) (T : Fx C) {d : D} {t : Tk} {c : Nat} (q : tyX C.kit d = some t) (h : ∀ i, t = .c i → i = c ∨ C.kit (.c i) c = some false) : PySem.W.notFirst X.K (C.cad c) (t.val C.cad) = true := by
  unfold PySem.W.notFirst
  cases t with
  | b n =>
    have : tyD d = some n := by
      cases d with
      | ins c2 fs =>
        have q : (if C.kit (.c c2) c2 = some true then some (Tk.c c2) else none) = some (Tk.b n) := q
        by_cases hk : C.kit (.c c2) c2 = some true
        · rw [if_pos hk] at q; cases q
        · rw [if_neg hk] at q; cases q
      | _ => unfold tyX at q; obtain ⟨m, h1, h2⟩ := Option.map_eq_some_iff.mp q; cases h2; exact h1
    show (_ || PySem.W.subIn X.K (.type n) (.ref (C.cad c)) == some false) = true
    rw [mro_base this]
    simp
  | c i =>
    rcases h i rfl with z | z
    · subst z
      show (Value.ref (C.cad i) == .ref (C.cad i) || _) = true
      simp
    · have e : PySem.W.subIn C.K (.ref (C.cad i)) (.ref (C.cad c)) = some false := sub_of_kit (T.kit _ _ _ z)
      show (_ || PySem.W.subIn X.K (.ref (C.cad i)) (.ref (C.cad c)) == some false) = true
      rw [hK, e]
      simp
/-- a def, called somewhere below -/
theorem run_G1 {A1 : Around} {f : Addr} {fd : FuncData} {ps : List Str} {sp : Sp} {E : XK} {pins : List (Addr × Obj)} {σ : L2.St} {H : Hp} {s : Shared} {Q : VK} {us : List Value} {vs : List V} (F : FnG X.prog X.w X.K X.mg X.base k f fd ps sp) (hr : RoomG k A1) (hfr : A1.frames = X.A.frames)
    (hb : Binds X.K fd ps []) (hx : PassesAt (L2.CX X.prog X.w) X σ E) (I : Inv X pins σ H s) (r : Vals vs us) (h : sp vs H Q E) : wpAny (model X.prog X.w) A1 (call (.ref f) us) (EP X pins σ Q) X.xe s := by
  have n1 : (us ++ []).length = ps.length := by rw [List.append_nil, ← r.length]; exact F.len _ _ _ _ h
  have b1 := hb s us I.kIn n1
  rw [List.append_nil] at b1
  have e0 := I.env0
  have e1 : Env0 X.prog X.w X.K X.mg X.base A1 X.stack s H := ⟨by rw [hfr]; exact e0.frames, e0.mod, e0.bs, e0.bsz, e0.funs, e0.frf, e0.hok, e0.bare⟩
  refine wpAny_call (codeAny_mono (F.go A1 X.stack s H ⟨us, []⟩ us vs Q E hr e1 b1 r h) fun res s' hq => ?_)
  match res, hq with
  | .error er, hq => exact hx pins H s er s' I hq
  | .ok (.ret u), hq => exact I.after hq
  | .ok .next, hq => exact hq.elim
  | .ok .brk, hq => exact hq.elim
  | .ok .cont, hq => exact hq.elim
def eqO (n : Bool) : CmpOp := if n = true then .NotEq else .Eq
def rOwn (C : Cfg) (X : Cx) (nps : Nat → Nat) (call : Nat → List D → M D) (n : Bool) : R2 := fun x y H Q => ∃ c j a dx fs t, x = .ref a ∧ H a = some (.ins (C.cad c) dx fs) ∧ C.mts c "__eq__" = some j ∧ TyX X.K H y t ∧ PySem.W.notFirst X.K (C.cad c) t = true ∧
  spF C (nps j) (call j) [x, y] H (fun v H' => ∃ k, v = .bl k ∧ Q (.bl (xor n k)) H') (fun _ _ _ => False)
theorem op_own {n : Bool} {nps : Nat → Nat} {call : Nat → List D → M D} (hK : X.K = C.K) (T : Fx C) (Fn : ∀ i, FnOf C X k i (nps i) (call i)) (hr : RoomG (k + 1) X.A) : OpR X (compareOp (eqO n)) (rOwn C X nps call n) := by
  intro pins s σ H x y v u Q I rx ry hqq
  obtain ⟨c, j, a, dx, fs, t, rfl, ha, hj, ty, nf, sp⟩ := hqq
  cases rx
  obtain ⟨mA, J, _⟩ := ins_get I.hok ha
  obtain ⟨od, J, _⟩ := J.look
  obtain ⟨P, Z, p, _⟩ := kit_of I ry ty
  have look := Z.ty (model X.prog X.w) s.heap I.kIn p
  obtain ⟨t1, t2⟩ := T.mt c "__eq__" j hj
  obtain ⟨t3, t4⟩ := T.eqo c j hj
  rw [← hK] at t1 t2 t3 t4
  obtain ⟨fd, ps, F, hb⟩ := (Fn j).ex
  have hx : PassesAt (L2.CX X.prog X.w) X σ (fun _ _ _ => False) := passAt (W := WF) takes0 σ
  have r2 : Vals [V.ref a, y] [Value.ref a, u] := .cons rfl (.cons ry .nil)
  have hu : X.A.units + 1 < cLine := by have := hr.rm.un; omega
  cases n with
  | false =>
    obtain ⟨m, hF⟩ := I.fr
    show wpAny (model X.prog X.w) X.A (richCompare .Eq (.ref a) u) (EP X pins σ Q) X.xe s
    refine PySem.W.cmp_K (op := .Eq) (by omega) hF I.ok.mod.kin J look nf t2.at_ t2.fn (wpAny_mono (run_G1 F (hr.mono (Nat.le_succ _)) rfl hb hx I r2 sp) (fun r s' z => ?_) fun _ _ z => z)
    obtain ⟨z, H', I', rz, kk, ez, q⟩ := z
    subst ez
    cases rz
    exact ⟨.bl kk, H', I', rfl, by simpa using q⟩
  | true =>
    show wpAny (model X.prog X.w) X.A (richCompare .NotEq (.ref a) u) (EP X pins σ Q) X.xe s
    refine rich_ne I.kIn J hu look nf t2.at_ t2.fn t3 t4 (wpAny_mono (run_G1 F ⟨hr.rm.in1, hr.gd⟩ rfl hb hx I r2 sp) (fun r s' z => ?_) fun _ _ z => z)
    obtain ⟨z, H', I', rz, kk, ez, q⟩ := z
    subst ez
    cases rz
    exact ⟨kk, rfl, .bl (!kk), H', I', rfl, by simpa using q⟩
/-- x == y, x != y: by the text's own __eq__, or of data -/
def ownM (mts : Nat → Str → Option Nat) (kit : Tk → Nat → Option Bool) (nps : Nat → Nat) (call : Nat → List D → M D) (n : Bool) (x y : D) : M D := match eqJ mts kit x y with
  | some j => M.bind (noErr (callN (nps j) (call j) [x, y])) fun r => lft ((blD r).map fun k => D.bl (xor n k))
  | none => lft (eqS n x y)
def OpM (C : Cfg) (X : Cx) (f : Value → Value → Sem Value) (sem : D → D → M D) : Prop :=
  ∃ r : R2, OpR X f r ∧ ∀ F H g x y dx dy W σ Q, St0 C F H g → Dv C F x dx → Dv C F y dy → Want C W σ F H (relD C) (sem dx dy g) Q → r x y H Q
theorem opM_own {n : Bool} {nps : Nat → Nat} {call : Nat → List D → M D} (hK : X.K = C.K) (T : Fx C) (Fn : ∀ i, FnOf C X k i (nps i) (call i)) (hr : RoomG (k + 1) X.A) (D0 : OpD C X (compareOp (eqO n)) (eqS n)) : OpM C X (compareOp (eqO n)) (ownM C.mts C.kit nps call n) := by
  obtain ⟨r0, o0, h0⟩ := D0
  refine ⟨_, (op_own (n := n) hK T Fn hr).or o0, fun F H g x y dx dy W σ Q st rx ry hw => ?_⟩
  unfold ownM at hw
  cases q : eqJ C.mts C.kit dx dy with
  | none => rw [q] at hw; exact .inr (h0 F H g x y dx dy W σ Q st (.inl rx) (.inl ry) hw)
  | some j =>
    rw [q] at hw
    refine .inl ?_
    unfold eqJ at q
    cases dx with
    | ins c fs =>
      dsimp only at q
      have rx0 := rx
      cases rx with
      | ins hi l =>
        cases q2 : tyX C.kit dy with
        | none => rw [q2] at q; cases q
        | some t =>
          rw [q2] at q
          have ty := tyX_ok hK T st.sub (.inl ry) q2
          have hj : C.mts c "__eq__" = some j := by
            cases t with
            | b m => exact q
            | c i => dsimp only at q; split at q <;> first | exact q | cases q
          have nf : PySem.W.notFirst X.K (C.cad c) (t.val C.cad) = true := notFirst_ok hK T q2 fun i e => by
            subst e
            dsimp only at q
            split at q
            · assumption
            · cases q
          refine ⟨c, j, _, _, _, _, rfl, st.sub _ _ hi, hj, ty, nf, ?_⟩
          have hw : Want C W σ F H (relD C) (M.bind (noErr (callN (nps j) (call j) [.ins c fs, dy])) (fun r => lft ((blD r).map fun k => D.bl (xor n k))) g) Q := hw
          by_cases c1 : [D.ins c fs, dy].length = nps j
          · have e1 : callN (nps j) (call j) [.ins c fs, dy] = call j [.ins c fs, dy] := by unfold callN; exact if_pos c1
            rw [e1] at hw
            refine ⟨c1, F, _, g, st, .cons rx0 (.cons ry .nil), ?_⟩
            unfold M.bind noErr at hw
            cases q3 : call j [.ins c fs, dy] g with
            | ok d g1 =>
              rw [q3] at hw
              cases d with
              | bl kk =>
                have hw : Want C W σ F H (relD C) (Res.ok (DS.D.bl (xor n kk)) g1) Q := hw
                intro v F' H' x t2 r2
                cases r2
                exact ⟨kk, rfl, hw _ _ _ x t2 (.bl _)⟩
              | _ => exact hw.elim
            | err _ _ _ => rw [q3] at hw; exact hw.elim
            | stuck => rw [q3] at hw; exact hw.elim
          · have e1 : callN (nps j) (call j) [.ins c fs, dy] = fun _ => Res.stuck := by unfold callN; exact if_neg c1
            rw [e1] at hw
            exact hw.elim
    | _ => cases q
theorem se_cmpM {op : CmpOp} {sem : D → D → M D} (ho : OpM C X (compareOp op) sem) (ha : SE C X W a fa) (hb : SE C X W b fb) (hm : behindInMarks op b = false) :
    SE C X W (.Compare a [op] [b] pos) (fun ρ => M.bind (fa ρ) fun x => M.bind (fb ρ) fun y => sem x y) := by
  obtain ⟨r, o, h⟩ := ho
  obtain ⟨ta, pa, ka⟩ := ha
  obtain ⟨tb, pb, kb⟩ := hb
  refine ⟨_, pe_cmpR o pa pb hm, fun σ F H ρ g Q s hw => ka σ F H ρ g _ s (hw.bind.mono ?_)⟩
  rintro x H1 ⟨F1, g1, dx, x1, t1, r1, w1⟩
  refine kb σ F1 H1 ρ g1 _ (s.ext x1 t1) (w1.bind.mono ?_)
  rintro y H2 ⟨F2, g2, dy, x2, t2, r2, w2⟩
  exact h F2 H2 g2 x y dx dy W σ Q t2 (r1.mono x2.sub) r2 w2
theorem want_bM {σ : St} {F H : Hp} {m : M D} {g : G} {Q : Bool → Hp → Prop} (h : Want C W σ F H relB (M.bind m (fun x => lft (blD x)) g) Q) : Want C W σ F H (relD C) (m g) (fun z H' => ∃ k, z = .bl k ∧ Q k H') := by
  unfold M.bind at h
  cases q : m g with
  | ok d g1 =>
    rw [q] at h
    cases d with
    | bl k =>
      have h : Want C W σ F H relB (Res.ok k g1) Q := h
      intro v F' H' x t r
      cases r
      exact ⟨k, rfl, h k F' H' x t rfl⟩
    | _ => exact (h : False).elim
  | err c fs g1 => rw [q] at h; exact h
  | stuck => rw [q] at h; exact h
theorem st_cmpM {op : CmpOp} {sem : D → D → M D} (ho : OpM C X (compareOp op) sem) (ha : SE C X W a fa) (hb : SE C X W b fb) (hm : behindInMarks op b = false) :
    ST C X W (.Compare a [op] [b] pos) (fun ρ => M.bind (fa ρ) fun x => M.bind (fb ρ) fun y => M.bind (sem x y) fun z => lft (blD z)) := by
  obtain ⟨r, o, h⟩ := ho
  obtain ⟨ta, pa, ka⟩ := ha
  obtain ⟨tb, pb, kb⟩ := hb
  refine ⟨_, pt_cmpR o pa pb hm, fun σ F H ρ g Q s hw => ka σ F H ρ g _ s (hw.bind.mono ?_)⟩
  rintro x H1 ⟨F1, g1, dx, x1, t1, r1, w1⟩
  refine kb σ F1 H1 ρ g1 _ (s.ext x1 t1) (w1.bind.mono ?_)
  rintro y H2 ⟨F2, g2, dy, x2, t2, r2, w2⟩
  exact h F2 H2 g2 x y dx dy W σ _ t2 (r1.mono x2.sub) r2 (want_bM w2)
end
end DS

set_option Elab.async false
set_option linter.all false
set_option maxRecDepth 100000
set_option maxHeartbeats 4000000
/-! DS: more built-ins: max and min of a tuple, of three; sorted -/
namespace DS
open PySem L2
section
variable {C : Cfg} {X : Cx} {W : WX}
def onIntsT (f : List Int → Option Int) : List D → Option D
  | [.tup ds] => (intsD ds).bind fun ns => (f ns).map D.int
  | _ => none
theorem onIntsT_inv {fI : List Int → Option Int} {vs : List V} {ds : List D} {F H : Hp} {g : G} {d : D} (l : DrL C F H vs ds) (st : St0 C F H g) (e : onIntsT fI ds = some d) : ∃ a ns m, vs = [.ref a] ∧ SqT C.K H a (ns.map V.int) ∧ fI ns = some m ∧ d = .int m := by
  unfold onIntsT at e
  split at e
  · rename_i xs
    cases l with
    | cons r t =>
      cases t
      obtain ⟨a, ws, rfl, h1, h2⟩ := r.tup_inv st.sub
      obtain ⟨ns, q1, q2⟩ := Option.bind_eq_some_iff.mp e
      obtain ⟨m, q3, q4⟩ := Option.map_eq_some_iff.mp q2
      refine ⟨a, ns, m, rfl, ?_, q3, q4.symm⟩
      rw [← intsD_ok h2 q1]
      exact st.sub.sqt h1
  · cases e
theorem hold_ints {h : Heap} : ∀ {ns : List Int} {us : List Value}, Vals (ns.map V.int) us → PySem.W.HoldAll h us ns
  | [], _, r => by
    cases r
    exact ⟨[], .nil⟩
  | n :: ns, _, r => by
    rw [List.map_cons] at r
    cases r with
    | cons r t =>
      obtain ⟨tk, rfl⟩ := (show ∃ t, _ = Value.int n t from r)
      exact PySem.W.HoldAll.cons (PySem.W.holds_int n tk) (hold_ints t)
def rFoldT (K : PySem.W.Frag) (f : List Int → Option Int) : List V → Hp → VK → Prop := fun vs H Q => ∃ (a : Addr) (ns : List Int) (m : Int), vs = [V.ref a] ∧ SqT K H a (ns.map V.int) ∧ f ns = some m ∧ Q (.int m) H
theorem max_same (x : Int) (xs : List Int) : PySem.W.maxOf x xs = xs.foldl (fun a b => if b > a then b else a) x := by
  unfold PySem.W.maxOf
  congr 1
  funext a y
  show (if decide (a < y) = true then y else a) = _
  simp
theorem min_same (x : Int) (xs : List Int) : PySem.W.minOf x xs = xs.foldl (fun a b => if b < a then b else a) x := by
  unfold PySem.W.minOf
  congr 1
  funext a y
  show (if decide (y < a) = true then y else a) = _
  simp
theorem cr_maxT (hc : X.calm = true) (hu : X.A.units + 100 < cLine) : CallR X (.builtin "max") (rFoldT X.K maxI) := by
  intro pn sh st Hh vs us QQ I r hh
  obtain ⟨a, ns, m, rfl, hs, e, q⟩ := hh
  obtain ⟨its, rv, hl, _⟩ := I.tuple hs
  rw [Vals.ref1 r]
  cases ns with
  | nil => cases e
  | cons x xs =>
    refine PySem.W.max_tuple_datum (I.ok.hd hc) hl (by simpa using hold_ints rv) (by show X.A.units + 1 + 0 < cLine; omega) fun i v h' tk hi hv k => ?_
    obtain ⟨t, ev⟩ := PySem.W.int_of_holds hv
    subst ev
    refine ⟨.int m, Hh, I.kept k, ⟨t, ?_⟩, q⟩
    have : some (xs.foldl (fun a b => if b > a then b else a) x) = some m := e
    rw [max_same, Option.some.inj this]
theorem cr_minT (hc : X.calm = true) (hu : X.A.units + 100 < cLine) : CallR X (.builtin "min") (rFoldT X.K minI) := by
  intro pn sh st Hh vs us QQ I r hh
  obtain ⟨a, ns, m, rfl, hs, e, q⟩ := hh
  obtain ⟨its, rv, hl, _⟩ := I.tuple hs
  rw [Vals.ref1 r]
  cases ns with
  | nil => cases e
  | cons x xs =>
    refine PySem.W.min_tuple_datum (I.ok.hd hc) hl (by simpa using hold_ints rv) (by show X.A.units + 1 + 0 < cLine; omega) fun i v h' tk hi hv k => ?_
    obtain ⟨t, ev⟩ := PySem.W.int_of_holds hv
    subst ev
    refine ⟨.int m, Hh, I.kept k, ⟨t, ?_⟩, q⟩
    have : some (xs.foldl (fun a b => if b < a then b else a) x) = some m := e
    rw [min_same, Option.some.inj this]
theorem br_maxT (hK : X.K = C.K) (hc : X.calm = true) (hu : X.A.units + 100 < cLine) : BR C X (.builtin "max") (onIntsT maxI) := by
  refine ⟨_, cr_maxT hc hu, fun vs ds F H g Q d l st e q => ?_⟩
  obtain ⟨a, ns, m, rfl, h1, h2, rfl⟩ := onIntsT_inv l st e
  exact ⟨a, ns, m, rfl, by rw [hK]; exact h1, h2, q _ _ _ (Ext.refl _ _ _) st (.int _)⟩
theorem br_minT (hK : X.K = C.K) (hc : X.calm = true) (hu : X.A.units + 100 < cLine) : BR C X (.builtin "min") (onIntsT minI) := by
  refine ⟨_, cr_minT hc hu, fun vs ds F H g Q d l st e q => ?_⟩
  obtain ⟨a, ns, m, rfl, h1, h2, rfl⟩ := onIntsT_inv l st e
  exact ⟨a, ns, m, rfl, by rw [hK]; exact h1, h2, q _ _ _ (Ext.refl _ _ _) st (.int _)⟩
def int3D (f : Int → Int → Int) : List D → Option D
  | [.int i, .int j, .int k] => some (.int (f (f i j) k))
  | _ => none
theorem br_max3 (hc : X.calm = true) : BR C X (.builtin "max") (int3D fun i j => if j > i then j else i) := by
  refine ⟨_, call_max3Nu hc, fun vs ds F H g Q d l st e q => ?_⟩
  unfold int3D at e
  split at e
  · rename_i i j k
    cases e
    cases l with
    | cons r t => cases t with
      | cons r2 t => cases t with
        | cons r3 t =>
          cases t
          cases r.int_inv
          cases r2.int_inv
          cases r3.int_inv
          have e2 : ∀ i j : Int, nuMax2 (.int i) (.int j) = some (.int (if j > i then j else i)) := fun i j => by
            show some (if decide (i < j) = true then V.int j else V.int i) = _
            by_cases c : i < j <;> simp [c]
          exact ⟨_, _, _, _, rfl, by show (nuMax2 _ _).bind _ = _; rw [e2]; exact e2 _ _, q _ _ _ (Ext.refl _ _ _) st (.int _)⟩
  · cases e
theorem br_min3 (hc : X.calm = true) : BR C X (.builtin "min") (int3D fun i j => if j < i then j else i) := by
  refine ⟨_, call_min3Nu hc, fun vs ds F H g Q d l st e q => ?_⟩
  unfold int3D at e
  split at e
  · rename_i i j k
    cases e
    cases l with
    | cons r t => cases t with
      | cons r2 t => cases t with
        | cons r3 t =>
          cases t
          cases r.int_inv
          cases r2.int_inv
          cases r3.int_inv
          have e2 : ∀ i j : Int, nuMin2 (.int i) (.int j) = some (.int (if j < i then j else i)) := fun i j => by
            show some (if decide (j < i) = true then V.int j else V.int i) = _
            by_cases c : j < i <;> simp [c]
          exact ⟨_, _, _, _, rfl, by show (nuMin2 _ _).bind _ = _; rw [e2]; exact e2 _ _, q _ _ _ (Ext.refl _ _ _) st (.int _)⟩
  · cases e
/-- sorted(ints) -/
def srtI (ns : List Int) : List Int := ns.mergeSort fun a b => decide (a ≤ b)
theorem srtI_perm (ns : List Int) : (srtI ns).Perm ns := List.mergeSort_perm _ _
theorem srtI_pw (ns : List Int) : (srtI ns).Pairwise (· ≤ ·) := by
  have := List.pairwise_mergeSort (le := fun a b : Int => decide (a ≤ b)) (fun a b c h1 h2 => by simp only [decide_eq_true_eq] at *; omega) (fun a b => by simp only [Bool.or_eq_true, decide_eq_true_eq]; omega) ns
  exact this.imp fun h => by simpa using h
def sortedD : List D → Option (List D)
  | [.lst ds] => (intsD ds).map fun ns => (srtI ns).map D.int
  | _ => none
theorem dv_ints {F : Hp} : ∀ ns : List Int, DvL C F (ns.map V.int) (ns.map D.int)
  | [] => .nil
  | n :: ns => .cons (.int n) (dv_ints ns)
theorem bl_sorted (hK : X.K = C.K) : BL C X (.builtin "sorted") sortedD := by
  refine ⟨_, cr_sortedI, fun vs ds F H g Q d l st e q => ?_⟩
  unfold sortedD at e
  split at e
  · rename_i xs
    cases l with
    | cons r t =>
      cases t
      obtain ⟨a, ws, rfl, h1, h2⟩ := r.lst_inv st.sub
      obtain ⟨ns, q1, q2⟩ := Option.map_eq_some_iff.mp e
      subst q2
      refine ⟨a, ns, rfl, .inl (.inl (by rw [← intsD_ok h2 q1]; exact h1)), fun ns' p hp hs np => ?_⟩
      have en : ns' = srtI ns := List.Perm.eq_of_pairwise (le := (· ≤ ·)) (fun a b _ _ h1 h2 => Int.le_antisymm h1 h2) hs (srtI_pw ns) (hp.trans (srtI_perm ns).symm)
      subst en
      obtain ⟨x, t2⟩ := Ext.own st np (.lst ((srtI ns).map V.int))
      refine q _ _ _ x t2 ⟨p, _, rfl, np, upd_same, ?_, ?_, dv_ints _⟩
      · cases q3 : F p with
        | none => rfl
        | some u => rw [st.sub p u q3] at np; cases np
      · exact fun z => by rw [z, st.rowH] at np; cases np
  · cases e
/-! in, not in: a tuple -/
def inT (n : Bool) (a b : D) : Option D := match b with
  | .tup ds => (match toPy a, toPyL ds with
    | some p, some ps => if SeqAt.shaped p = true ∧ SeqAt.shaped (.tuple ps) = true then some (.bl (xor n (ps.any fun z => PyData.eqv z p))) else none
    | _, _ => none)
  | _ => none
def rInTu (K : PySem.W.Frag) (n : Bool) : R2 := fun x y H Q => ∃ d ds, Dp K H x d ∧ Dp K H y (.tuple ds) ∧ SeqAt.shaped d = true ∧ SeqAt.shaped (.tuple ds) = true ∧ Q (.bl (xor n (ds.any fun z => PyData.eqv z d))) H
def inO (n : Bool) : CmpOp := if n = true then .NotIn else .In
theorem op_inTu {n : Bool} (hu : X.A.units + 100 < cLine) : OpR X (compareOp (inO n)) (rInTu X.K n) := by
  intro pn sh st Hh x y va ub QQ I rx ry hh
  obtain ⟨d, ds, hd, hy, s1, s2, q⟩ := hh
  obtain ⟨l1, r1⟩ := Dp.reads I d x va hd rx
  obtain ⟨l2, r2⟩ := Dp.reads I (.tuple ds) y ub hy ry
  have p1 := PyData.plain_of_canLay0 d (SeqAt.canLay_of_shaped s1)
  have p2 : PyData.plainAll ds = true := by
    have := PyData.plain_of_canLay0 (.tuple ds) (SeqAt.canLay_of_shaped s2)
    simpa only [PyData.plain] using this
  have dp := SeqAt.depth_of_shaped s1
  have room : X.A.units + 1 + min (PyData.depthAll ds) d.depth < cLine := by
    have : min (PyData.depthAll ds) d.depth ≤ d.depth := Nat.min_le_right _ _
    omega
  cases n with
  | false =>
    refine PySem.SeqAt.in_tuple_data r2 r1 p2 p1 room ⟨.bl _, Hh, I, rfl, ?_⟩
    simpa using q
  | true =>
    refine PySem.SeqAt.notIn_tuple_data r2 r1 p2 p1 room ⟨.bl _, Hh, I, rfl, ?_⟩
    simpa using q
theorem opD_inT {n : Bool} (hK : X.K = C.K) (hu : X.A.units + 100 < cLine) : OpD C X (compareOp (inO n)) (inT n) := by
  refine ⟨_, op_inTu (n := n) hu, fun F H g x y dx dy W σ Q st rx ry hw => ?_⟩
  unfold inT at hw
  cases dy with
  | tup ds =>
    dsimp only at hw
    cases e1 : toPy dx with
    | none => rw [e1] at hw; exact hw.elim
    | some p =>
      cases e2 : toPyL ds with
      | none => rw [e1, e2] at hw; exact hw.elim
      | some q =>
        rw [e1, e2] at hw
        by_cases c : SeqAt.shaped p = true ∧ SeqAt.shaped (.tuple q) = true
        · simp only [c, and_self, if_true] at hw
          exact ⟨p, q, by rw [hK]; exact rx.dp st.sub e1, by rw [hK]; exact ry.dp st.sub (by rw [toPy, e2]; rfl), c.1, c.2, Want.ret (g := g) hw st (.bl _)⟩
        · simp only [c, if_false] at hw; exact hw.elim
  | _ => exact hw.elim
end
end DS

set_option Elab.async false
set_option linter.all false
set_option maxRecDepth 100000
set_option maxHeartbeats 4000000
/-! DS: try with several clauses, each with its name -/
namespace DS
open PySem PySem.Spec PyProof.Rows L2
abbrev Hsem := Addr → Value → Option Addr → TS
/-- the wish of the clauses, one after another -/
def wEach (K : PySem.W.Frag) (Wo : WX) (D : Ends) : List (Value × Nat × Hsem) → WX
  | [] => Wo
  | (k, i, ts) :: r => fun cl od σ H => ∃ b, PySem.W.exmOne K cl k = some b ∧
      (b = true → ∀ p, H p = none → ts p cl od ⟨fun τ J => D.nx (τ.set i none) J, D.rt, fun τ J => D.bk (τ.set i none) J, fun τ J => D.ct (τ.set i none) J⟩ (σ.set i (some (.ref p))) H) ∧
      (b = false → wEach K Wo D r cl od σ H)
inductive HdsAs (X : Cx) : List ExceptHandler → List (Value × Nat × Hsem) → Prop
  | nil : HdsAs X [] []
  | cons {x n : Str} {k : Value} {i : Nat} {ts : Hsem} {y : Stmt} {ys : List Stmt} {p q : Pos} {hs : List ExceptHandler} {l : List (Value × Nat × Hsem)}
      (hi : X.N[i]? = some n) (hn : X.env.kindOf n = some .local) (hk : Names X x k)
      (hb : ∀ (p : Addr) (ob : Obj) (cl : Value) (od : Option Addr) (pn : List (Addr × Obj)), Zc cl od ob → (∃ us, ob.data = .fields us) → PSs (X.suite p ((p, ob) :: pn)) (y :: ys) (ts p cl od)) (r : HdsAs X hs l) :
      HdsAs X (.ExceptHandler (some (.Name x p)) (some n) (y :: ys) q :: hs) ((k, i, ts) :: l)
section
variable {X : Cx} {sts : List Stmt} {hd : ExceptHandler} {tl : List ExceptHandler} {l : List (Value × Nat × Hsem)} {ps : Pos} {tb : WX → TS} {Wo : WX}
theorem ps_try_each (e1 : X.stack = X.env :: X.outer) (e2 : X.env.frame = some X.env.locals) (nd : X.N.Nodup) (tk : Takes X Wo)
    (bd : ∀ (V : WX) (pn : List (Addr × Obj)) (xe : Value → Shared → Prop), Takes (X.tr pn xe) V → PassesOwn (model X.prog X.w) X.A X.env xe → PSs (X.tr pn xe) sts (tb V))
    (hh : HdsAs X (hd :: tl) l) : PS X (.Try sts (hd :: tl) [] [] ps) (fun D σ H => tb (wEach X.K Wo D l) D σ H) := by
  refine ⟨fun pins s0 σ0 H0 D I w0 => ?_⟩
  have ok := I.ok
  have fr : X.A.frames = some (X.env :: X.outer) := ok.frames.trans (by rw [e1])
  refine wpAny_Try_except ?_
  have body := (bd (wEach X.K Wo D l) (X.pn ++ pins) (fun e t1 => wpAny (model X.prog X.w) X.A (noteFrame e X.env) (fun _ t2 => wpAny (model X.prog X.w) X.A (setFlight e none) (fun _ t3 =>
    wpAny (model X.prog X.w) X.A (handleBy e X.env (hd :: tl)) (SP X pins D) X.xe t3) X.xe t2) X.xe t1) (fun u t caught => ?_) PassesOwn.looking).run [] s0 σ0 H0 D (I.toTry _) w0
  · refine wpAny_mono body (fun f t out => ?_) fun e t he => he
    cases f with
    | ret u => obtain ⟨v, τ, J, Jt, rr, qq⟩ := out; exact ⟨v, τ, J, Jt.ofTry ok, rr, qq⟩
    | next => obtain ⟨τ, J, Jt, qq⟩ := out; exact wpAny_execs_nil ⟨τ, J, Jt.ofTry ok, qq⟩
    | brk => obtain ⟨τ, J, Jt, qq⟩ := out; exact ⟨τ, J, Jt.ofTry ok, qq⟩
    | cont => obtain ⟨τ, J, Jt, qq⟩ := out; exact ⟨τ, J, Jt.ofTry ok, qq⟩
  obtain ⟨p, B, sI, pins', τ, J, cl, od, rfl, It, nb, up, sky, na, os, ag, w⟩ := caught
  have I1 : Inv X pins τ J sI := It.ofTry ok
  have sky1 : Sky B (X.env :: X.outer) p (Zc cl od) X.env.locals t.heap := e1 ▸ sky
  show wpAny (model X.prog X.w) X.A (noteFrame (.ref p) X.env) _ _ _
  refine Sky.land Zc.steady fr e2 sky1 fun h3 fl up3 => ?_
  have I3 : Inv X pins τ J { t with heap := h3 } := I1.landed nb fl.1 (up.trans up3) os ag
  obtain ⟨ob, us, hob, hz, hdat⟩ := fl.there
  have nfr : p ∉ frs (X.env :: X.outer) := fun hm => by
    obtain ⟨_, o', g1, g2⟩ := fl.2.2.1.mem hm
    rw [hob] at g1; cases g1
    exact g2 _ hdat
  have nL : p ≠ X.env.locals := fun z => nfr (List.mem_filterMap.mpr ⟨_, List.mem_cons_self, z ▸ e2⟩)
  have nF : p ∉ X.fs := fun hm => by
    obtain ⟨e, he, q⟩ := List.mem_filterMap.mp hm
    exact nfr (List.mem_filterMap.mpr ⟨_, List.mem_cons_of_mem _ he, q⟩)
  have S3 := I3.suite hob hdat na nL nF
  have walk : ∀ {hs : List ExceptHandler} {m : List (Value × Nat × Hsem)}, HdsAs X hs m → wEach X.K Wo D m cl od τ J →
      wpAny (model X.prog X.w) X.A (handleBy (.ref p) X.env hs) (SP X pins D) X.xe { t with heap := h3 } := by
    intro hs m hk
    induction hk with
    | nil =>
      intro w
      refine wpAny_handleBy_nil ?_
      obtain ⟨_, _, _, ob', us', U, oU, ts', he, hz', hd', h1, hr⟩ := id fl
      unfold PySem.passOn
      refine wpAny_bind (wpAny_field he hd' h1 ?_)
      rw [if_neg (show ¬ ((Value.ref U == Value.none) = true) by simp)]
      have last : wpAny (model X.prog X.w) X.A (setFlight (.ref p) X.env.frame) (fun _ t4 => wpAny (model X.prog X.w) X.A (throw (.ref p) : Sem Flow) (SP X pins D) X.xe t4) X.xe { t with heap := h3 } := by
        rw [e2]
        refine HandSPX.setFlight_upZ fl fun h4 z4 up4 => wpAny_throw (tk _ _ ⟨p, B, sI, pins, τ, J, cl, od, rfl, I1, nb, (up.trans up3).trans up4, .inr (.inr (e1 ▸ z4)), na, os, ag, w⟩)
      first
        | exact wpAny_bind (wpAny_pure (wpAny_bind last))
        | exact wpAny_bind last
    | @cons x n k i ts y ys pp qq hs2 l2 hi hn hk hb r ih =>
      intro w
      obtain ⟨b, x1, yes, no⟩ := w
      refine wpAny_handleBy_cons (codeAny_handlers_test ?_) (by intro q; cases q)
      have L1 : PySem.W.Looks (model X.prog X.w) h3 (typeOf (.ref p)) cl := fun A Q E s k q => wpAny_typeOf_ref (k _ _ hob) (by rw [hz.1]; exact q)
      have L2 := PySem.W.exm_one (M := model X.prog X.w) I3.kIn L1 x1
      have name : ∀ {Q : Value → Shared → Prop} {E : Value → Shared → Prop}, Q k { t with heap := h3 } → wpAny (model X.prog X.w) (X.A.mark (some (.ref p))) (eval (.Name x pp) X.env) Q E { t with heap := h3 } := fun {Q E} q => by
        obtain ⟨z1, z2, z3 | ⟨z3, z4, z5⟩⟩ := hk
        · exact ld_glob (X := X.suite p ((p, ob) :: (X.pn ++ pins))) S3 z1 z3 q z2
        · exact ld_blt (X := X.suite p ((p, ob) :: (X.pn ++ pins))) S3 z1 z3 z4 q z5 z2
      refine name (L2.here ?_)
      cases b with
      | false =>
        show wpAny _ X.A (handleBy (.ref p) X.env hs2) _ _ _
        exact ih (no rfl)
      | true =>
        refine codeAny_handlers_suite_as ?_
        refine HandSPX.lands_againZ fl fun h4 fl4 up4 => ?_
        have I4 : Inv X pins τ J { t with heap := h4 } := I1.landed nb fl4.1 ((up.trans up3).trans up4) os ag
        obtain ⟨ob4, us4, hob4, hz4, hdat4⟩ := fl4.there
        have S4 := I4.suite hob4 hdat4 na nL nF
        refine store_ok (X := X.suite p ((p, ob4) :: (X.pn ++ pins))) (v := .ref p) S4 nd hi (.inl hn) rfl (fun t5 S5 => ?_) (.inr hn)
        refine wpAny_mono ((hb p ob4 cl od (X.pn ++ pins) hz4 ⟨_, hdat4⟩).run [] t5 _ J _ S5 (yes rfl p na)) (fun f t6 out => ?_) fun _ _ z => z.elim
        have gone : ∀ {τ6 : St} {J6 : Hp} {Q : Shared → Prop}, Inv (X.suite p ((p, ob4) :: (X.pn ++ pins))) [] τ6 J6 t6 → (∀ t7, Inv X pins (τ6.set i none) J6 t7 → Q t7) →
            wpAny (model X.prog X.w) X.A (do bindName X.env n .none; unbindBehindTheSuite X.env n qq) (fun _ t7 => Q t7) X.xe t6 := fun S6 hq => gone_ok (S6.unsuite ok) nd hi hn hq
        cases f with
        | ret u => obtain ⟨v6, τ6, J6, S6, r6, q6⟩ := out; exact gone S6 fun t7 I7 => ⟨_, _, _, I7, r6, q6⟩
        | next => obtain ⟨τ6, J6, S6, q6⟩ := out; exact gone S6 fun t7 I7 => ⟨_, _, I7, q6⟩
        | brk => obtain ⟨τ6, J6, S6, q6⟩ := out; exact gone S6 fun t7 I7 => ⟨_, _, I7, q6⟩
        | cont => obtain ⟨τ6, J6, S6, q6⟩ := out; exact gone S6 fun t7 I7 => ⟨_, _, I7, q6⟩
  exact walk hh w
end
/-! .. from values to data -/
def hndl (sb : Nat → Nat → Option Bool) : List (Nat × Nat × MS) → Nat → List D → Env → G → Rs
  | [], c, fs, ρ, g => .er c fs ρ g
  | (j, i, f) :: r, c, fs, ρ, g => match sb c j with
    | some true => (match f ((clr ρ).set i (.ex c fs)) g with
      | .nx ρ2 g2 => .nx (clr (ρ2.set i .no)) g2
      | .rt d g2 => .rt d g2
      | _ => .stuck)
    | some false => hndl sb r c fs ρ g
    | none => .stuck
def tryEach (sb : Nat → Nat → Option Bool) (hs : List (Nat × Nat × MS)) (f : MS) : MS := fun ρ g => match f ρ g with
  | .er c fs ρ1 g1 => hndl sb hs c fs ρ1 g1
  | r => r
inductive HdsD (C : Cfg) (X : Cx) : List ExceptHandler → List (Nat × Nat × MS) → Prop
  | nil : HdsD C X [] []
  | cons {x n : Str} {j i : Nat} {f : MS} {y : Stmt} {ys : List Stmt} {p q : Pos} {hs : List ExceptHandler} {l : List (Nat × Nat × MS)}
      (hi : X.N[i]? = some n) (hn : X.env.kindOf n = some .local) (hk : Names X x (.ref (C.cad j)))
      (hb : ∀ (a : Addr) (ob : Obj) (c : Nat) (dd : Addr) (pn : List (Addr × Obj)), Zc (.ref (C.cad c)) (some dd) ob → (∃ us, ob.data = .fields us) → SC (C.at (some (a, .ref (C.cad c), dd))) (X.suite a ((a, ob) :: pn)) WF (y :: ys) f) (r : HdsD C X hs l) :
      HdsD C X (.ExceptHandler (some (.Name x p)) (some n) (y :: ys) q :: hs) ((j, i, f) :: l)
section
variable {C : Cfg} {X : Cx} {W : WX} {sts : List Stmt} {hd : ExceptHandler} {tl : List ExceptHandler} {l : List (Nat × Nat × MS)} {ps : Pos} {f1 : MS}
def hsem (C : Cfg) (l : List (Nat × Nat × MS)) : List (Value × Nat × Hsem) := l.map fun h => (.ref (C.cad h.1), h.2.1, fun a cls d D σ H => ∃ c dd, cls = .ref (C.cad c) ∧ d = some dd ∧ tSC (C.at (some (a, .ref (C.cad c), dd))) WF h.2.2 D σ H)
theorem HdsD.sem : ∀ {hs : List ExceptHandler} {l : List (Nat × Nat × MS)}, HdsD C X hs l → HdsAs X hs (hsem C l)
  | _, _, .nil => .nil
  | _, _, .cons hi hn hk hb r => .cons hi hn hk (fun p ob cl od pn hz hd => ⟨fun pins s σ H D I h => by
      obtain ⟨c, dd, rfl, rfl, h⟩ := h
      exact (hb p ob c dd pn hz hd).run pins s σ H D I h⟩) r.sem
theorem s_try_each (e1 : X.stack = X.env :: X.outer) (e2 : X.env.frame = some X.env.locals) (nd : X.N.Nodup) (tk : Takes X W)
    (hsub : ∀ c j b, C.sub c j = some b → PySem.W.exmOne X.K (.ref (C.cad c)) (.ref (C.cad j)) = some b)
    (bd : ∀ (V : WX) (pn : List (Addr × Obj)) (xe : Value → Shared → Prop), Takes (X.tr pn xe) V → PassesOwn (model X.prog X.w) X.A X.env xe → SC C (X.tr pn xe) V sts f1)
    (hh : HdsD C X (hd :: tl) l) : S1 C X W (.Try sts (hd :: tl) [] [] ps) (tryEach C.sub l f1) := by
  refine (ps_try_each (tb := fun V => tSC C V f1) e1 e2 nd tk bd hh.sem).imp ?_
  rintro D σ H ⟨F0, H0, F, ρ, g, s, w⟩
  refine ⟨F0, H0, F, ρ, g, s, ?_⟩
  unfold tryEach at w
  cases q : f1 ρ g with
  | nx ρ1 g1 => rw [q] at w; exact w
  | rt d g1 => rw [q] at w; exact w
  | stuck => rw [q] at w; exact w
  | er c fs ρ1 g1 =>
    rw [q] at w
    intro dd σ1 F1 H1 s1 xd
    dsimp only at w
    clear hh q
    induction l with
    | nil => exact w dd σ1 F1 H1 s1 xd
    | cons h l ih =>
      obtain ⟨j, i, f2⟩ := h
      unfold hndl at w
      cases q2 : C.sub c j with
      | none => rw [q2] at w; exact w.elim
      | some b =>
        rw [q2] at w
        refine ⟨b, hsub c j b q2, fun hb1 a na => ?_, fun hb1 => ?_⟩
        · subst hb1
          dsimp only at w
          have s2 : SRs (C.at (some (a, .ref (C.cad c), dd))) F0 H0 (σ1.set i (some (.ref a))) F1 H1 ((clr ρ1).set i (.ex c fs)) g1 :=
            s1.at.put (fun hl => ⟨a, dd, rfl, by rw [List.getElem?_set_self hl], xd.at⟩) rfl
          refine ⟨c, dd, rfl, rfl, F0, H0, F1, _, g1, s2, ?_⟩
          show WantS _ _ F0 H0 (f2 ((clr ρ1).set i (.ex c fs)) g1) _
          cases q3 : f2 ((clr ρ1).set i (.ex c fs)) g1 with
          | nx ρ2 g2 =>
            rw [q3] at w
            intro σ3 F3 H3 s3
            exact w _ _ _ ((s3.setN (i := i) (v := none)).at (z := C.xa))
          | rt d g2 =>
            rw [q3] at w
            intro v F3 H3 x3 t3 r3
            exact w v F3 H3 x3 (t3.at (z := C.xa)) (r3.at (z := C.xa))
          | er c' fs' ρ' g' => rw [q3] at w; exact w.elim
          | stuck => rw [q3] at w; exact w.elim
        · subst hb1
          exact ih w
end
end DS

set_option Elab.async false
set_option linter.all false
set_option maxRecDepth 100000
set_option maxHeartbeats 4000000
/-! DS: rows repeated; least, greatest, sorted rows of plain data -/
namespace DS
open PySem PySem.Spec PyProof.Rows L2
section
variable {C : Cfg} {X : Cx} {W : WX}
def repS : D → D → Option D
  | .lst a, .int k => if -(2 ^ 63) ≤ k ∧ k < 2 ^ 63 ∧ a.length * k.toNat ≤ sizeLine then some (.lst (List.replicate k.toNat a).flatten) else none
  | .tup a, .int k => if a ≠ [] ∧ 2 ≤ k ∧ k ≤ 1000 ∧ a.length ≤ 1000 then some (.tup (List.replicate k.toNat a).flatten) else none
  | _, _ => none
theorem DvL.rep {F : Hp} {vs : List V} {ds : List D} (l : DvL C F vs ds) : ∀ n : Nat, DvL C F (List.replicate n vs).flatten (List.replicate n ds).flatten
  | 0 => .nil
  | n + 1 => by
    rw [List.replicate_succ, List.replicate_succ, List.flatten_cons, List.flatten_cons]
    exact l.append (l.rep n)
theorem opD_rep (hK : X.K = C.K) : OpD C X (binaryOp .Mult) repS := by
  refine ⟨_, op_rep.or op_repT, fun F H g x y dx dy W σ Q st rx ry hw => ?_⟩
  cases dx with
  | lst ds =>
    cases dy with
    | int k =>
      obtain ⟨a, vs, rfl, ha, la⟩ := rx.lst_inv st.sub
      cases ry.int_inv
      unfold repS at hw
      by_cases c : -(2 ^ 63) ≤ k ∧ k < 2 ^ 63 ∧ ds.length * k.toNat ≤ sizeLine
      · simp only [c, and_self, if_true] at hw
        refine .inl ⟨a, k, vs, rfl, rfl, ha, c.1, c.2.1, by rw [la.length]; exact c.2.2, fun p np => ?_⟩
        obtain ⟨x1, t1⟩ := Ext.lay st np (.lst (List.replicate k.toNat vs).flatten)
        exact hw _ _ _ x1 t1 (.lst upd_same ((la.rep _).mono x1.sub))
      · dsimp only at hw; rw [if_neg c] at hw; exact hw.elim
    | _ => exact hw.elim
  | tup ds =>
    cases dy with
    | int k =>
      obtain ⟨a, vs, rfl, ha, la⟩ := rx.tup_inv st.sub
      cases ry.int_inv
      unfold repS at hw
      by_cases c : ds ≠ [] ∧ 2 ≤ k ∧ k ≤ 1000 ∧ ds.length ≤ 1000
      · dsimp only at hw
        rw [if_pos c] at hw
        refine .inr ⟨a, k, vs, rfl, rfl, by rw [hK]; exact st.sub.sqt ha, fun e => c.1 ?_, c.2.1, c.2.2.1, by rw [la.length]; exact c.2.2.2, fun p np => ?_⟩
        · subst e; cases la; rfl
        · obtain ⟨x1, t1⟩ := Ext.lay st np (.tup (List.replicate k.toNat vs).flatten)
          exact hw _ _ _ x1 t1 (.tup (.inl (.inl upd_same)) ((la.rep _).mono x1.sub))
      · dsimp only at hw; rw [if_neg c] at hw; exact hw.elim
    | _ => exact hw.elim
  | _ => exact hw.elim
/-! least, greatest -/
def pyD (d : D) : PyData := (toPy d).getD .none
def alB (ps : List PyData) : Bool := ps.all fun x => ps.all fun y => PySem.W.alike x y
def nnB : PyData → Bool
  | .none => false
  | _ => true
def dlt (x y : D) : Bool := PySem.W.dataLt (pyD x) (pyD y)
def minF (x : D) (xs : List D) : D := xs.foldl (fun a y => if dlt y a then y else a) x
def maxF (x : D) (xs : List D) : D := xs.foldl (fun a y => if dlt a y then y else a) x
def okP (ps : List PyData) : Bool := alB ps && ps.all nnB && PyData.canLayAll0 ps && decide (PyData.depthAll ps ≤ 64)
def onDat (f : D → List D → D) : List D → Option D
  | [.lst (d :: ds)] => (toPyL (d :: ds)).bind fun ps => if okP ps = true then some (f d ds) else none
  | [.tup (d :: ds)] => (toPyL (d :: ds)).bind fun ps => if okP ps = true then some (f d ds) else none
  | _ => none
theorem toPyL_map : ∀ {ds : List D} {ps : List PyData}, toPyL ds = some ps → ps = ds.map pyD ∧ ∀ d ∈ ds, ∃ p, toPy d = some p
  | [], ps, h => by cases h; exact ⟨rfl, fun _ z => by cases z⟩
  | d :: ds, ps, h => by
    rw [toPyL] at h
    cases q : toPy d with
    | none => rw [q] at h; cases h
    | some p =>
      cases q2 : toPyL ds with
      | none => rw [q, q2] at h; cases h
      | some qs =>
        rw [q, q2] at h
        cases h
        obtain ⟨e, k⟩ := toPyL_map q2
        refine ⟨by rw [List.map_cons, ← e]; unfold pyD; rw [q]; rfl, fun x hx => ?_⟩
        rcases List.mem_cons.mp hx with z | z
        · subst z; exact ⟨p, q⟩
        · exact k x z
theorem okP_al {ps : List PyData} (h : okP ps = true) : PySem.W.AlikeAll ps ∧ PyData.canLayAll0 ps = true ∧ PyData.depthAll ps ≤ 64 := by
  unfold okP alB at h
  simp only [Bool.and_eq_true, List.all_eq_true, decide_eq_true_eq] at h
  exact ⟨⟨fun x hx y hy => h.1.1.1 x hx y hy, fun x hx e => by have := h.1.1.2 x hx; rw [e] at this; cases this⟩, h.1.2, h.2⟩
theorem minF_py (x : D) (xs : List D) : pyD (minF x xs) = PySem.W.minD (pyD x) (xs.map pyD) := by
  unfold minF PySem.W.minD
  induction xs generalizing x with
  | nil => rfl
  | cons y ys ih =>
    rw [List.foldl_cons, List.map_cons, List.foldl_cons, ih]
    congr 1
    unfold dlt
    cases PySem.W.dataLt (pyD y) (pyD x) <;> rfl
theorem minF_mem (x : D) (xs : List D) : minF x xs ∈ x :: xs := by
  unfold minF
  induction xs generalizing x with
  | nil => exact List.mem_cons_self
  | cons y ys ih =>
    rw [List.foldl_cons]
    cases q : dlt y x with
    | true =>
      rw [if_pos rfl]
      rcases List.mem_cons.mp (ih y) with z | z
      · rw [z]; exact List.mem_cons_of_mem _ List.mem_cons_self
      · exact List.mem_cons_of_mem _ (List.mem_cons_of_mem _ z)
    | false =>
      rw [if_neg (by simp)]
      rcases List.mem_cons.mp (ih x) with z | z
      · rw [z]; exact List.mem_cons_self
      · exact List.mem_cons_of_mem _ (List.mem_cons_of_mem _ z)
theorem maxF_py (x : D) (xs : List D) : pyD (maxF x xs) = PySem.W.maxD (pyD x) (xs.map pyD) := by
  unfold maxF PySem.W.maxD
  induction xs generalizing x with
  | nil => rfl
  | cons y ys ih =>
    rw [List.foldl_cons, List.map_cons, List.foldl_cons, ih]
    congr 1
    unfold dlt
    cases PySem.W.dataLt (pyD x) (pyD y) <;> rfl
theorem maxF_mem (x : D) (xs : List D) : maxF x xs ∈ x :: xs := by
  unfold maxF
  induction xs generalizing x with
  | nil => exact List.mem_cons_self
  | cons y ys ih =>
    rw [List.foldl_cons]
    cases q : dlt x y with
    | true =>
      rw [if_pos rfl]
      rcases List.mem_cons.mp (ih y) with z | z
      · rw [z]; exact List.mem_cons_of_mem _ List.mem_cons_self
      · exact List.mem_cons_of_mem _ (List.mem_cons_of_mem _ z)
    | false =>
      rw [if_neg (by simp)]
      rcases List.mem_cons.mp (ih x) with z | z
      · rw [z]; exact List.mem_cons_self
      · exact List.mem_cons_of_mem _ (List.mem_cons_of_mem _ z)
/-- one of a row, by its datum -/
def rPick (K : PySem.W.Frag) (f : PyData → List PyData → PyData) : List V → Hp → VK → Prop := fun vs H Q => ∃ (a : Addr) (ws : List V) (p : PyData) (ps : List PyData), vs = [V.ref a] ∧ (SqL K H a ws ∨ SqT K H a ws) ∧ DpAll K H ws (p :: ps) ∧ okP (p :: ps) = true ∧
  ∀ (i : Nat) (v : V), ws[i]? = some v → (p :: ps)[i]? = some (f p ps) → Q v H
theorem reads_at {h : Heap} : ∀ {us : List Value} {ds : List PyData} {as : List Addr} {i : Nat} {u : Value}, ReadsAll h us ds as → us[i]? = some u → ∃ d bs, ds[i]? = some d ∧ Reads h u d bs
  | _, _, _, _, _, .nil, e => by simp at e
  | _, _, _, 0, _, .cons r _, e => by simp at e; subst e; exact ⟨_, _, rfl, r⟩
  | _, _, _, i + 1, _, .cons _ t, e => by
    obtain ⟨d, bs, h1, h2⟩ := reads_at (i := i) t (by simpa using e)
    exact ⟨d, bs, by simpa using h1, h2⟩
theorem vals_at : ∀ {vs : List V} {us : List Value} {i : Nat} {u : Value}, Vals vs us → us[i]? = some u → ∃ v, vs[i]? = some v ∧ RelV v u
  | _, _, _, _, .nil, e => by simp at e
  | _, _, 0, _, .cons r _, e => by simp at e; subst e; exact ⟨_, rfl, r⟩
  | _, _, i + 1, _, .cons _ t, e => by
    obtain ⟨v, h1, h2⟩ := vals_at (i := i) t (by simpa using e)
    exact ⟨v, by simpa using h1, h2⟩
theorem pick_end {pins : List (Addr × Obj)} {s : Shared} {σ : L2.St} {H : Hp} {Q : VK} {f : PyData → List PyData → PyData} {p : PyData} {ps : List PyData} {ws : List V} {its : List Value} {as : List Addr} (I : L2.Inv X pins σ H s) (rv : Vals ws its) (hr : ReadsAll s.heap its (p :: ps) as)
    (q : ∀ (i : Nat) (v : V), ws[i]? = some v → (p :: ps)[i]? = some (f p ps) → Q v H) {i : Nat} {v : Value} {h' : Heap} {tk : Nat} {bs : List Addr} (hi : its.toArray[i]? = some v) (hv : Reads h' v (f p ps) bs)
    (k : ∀ b o, s.heap.get? b = some o → h'.get? b = some o) : EP X pins σ Q v { s with heap := h', toks := tk } := by
  rw [List.getElem?_toArray] at hi
  obtain ⟨d, cs, e1, r1⟩ := reads_at hr hi
  obtain ⟨w, e2, r2⟩ := vals_at rv hi
  have e3 := (Reads.unique (Reads.keeps k r1) _ _ hv).1
  subst e3
  exact ⟨w, H, I.kept k, r2, q i w e2 e1⟩
theorem cr_minD (hc : X.calm = true) (hu : X.A.units + 100 < cLine) : CallR X (.builtin "min") (rPick X.K PySem.W.minD) := by
  intro pn sh st Hh vs us QQ I r hh
  obtain ⟨a, ws, p, ps, rfl, hs, hd, ok, q⟩ := hh
  obtain ⟨al, _, dp⟩ := okP_al ok
  rw [Vals.ref1 r]
  rcases hs with hs | hs
  · obtain ⟨its, rv, hl, _⟩ := I.list hs
    obtain ⟨as, hr⟩ := Dp.readsAll I _ _ _ hd rv
    exact PySem.W.min_list_data (I.ok.hd hc) hl.isList (by simpa using hr) al (by omega) fun i v h' tk bs hi hv k => pick_end I rv hr q hi hv k
  · obtain ⟨its, rv, hl, _⟩ := I.tuple hs
    obtain ⟨as, hr⟩ := Dp.readsAll I _ _ _ hd rv
    exact PySem.W.min_tuple_data (I.ok.hd hc) hl (by simpa using hr) al (by omega) fun i v h' tk bs hi hv k => pick_end I rv hr q hi hv k
theorem cr_maxD (hc : X.calm = true) (hu : X.A.units + 100 < cLine) : CallR X (.builtin "max") (rPick X.K PySem.W.maxD) := by
  intro pn sh st Hh vs us QQ I r hh
  obtain ⟨a, ws, p, ps, rfl, hs, hd, ok, q⟩ := hh
  obtain ⟨al, _, dp⟩ := okP_al ok
  rw [Vals.ref1 r]
  rcases hs with hs | hs
  · obtain ⟨its, rv, hl, _⟩ := I.list hs
    obtain ⟨as, hr⟩ := Dp.readsAll I _ _ _ hd rv
    exact PySem.W.max_list_data (I.ok.hd hc) hl.isList (by simpa using hr) al (by omega) fun i v h' tk bs hi hv k => pick_end I rv hr q hi hv k
  · obtain ⟨its, rv, hl, _⟩ := I.tuple hs
    obtain ⟨as, hr⟩ := Dp.readsAll I _ _ _ hd rv
    exact PySem.W.max_tuple_data (I.ok.hd hc) hl (by simpa using hr) al (by omega) fun i v h' tk bs hi hv k => pick_end I rv hr q hi hv k
theorem dp_all {F H : Hp} (s : Sub F H) : ∀ {vs : List V} {ds : List D} {ps : List PyData}, DvL C F vs ds → toPyL ds = some ps → DpAll C.K H vs ps
  | _, _, _, .nil, e => by cases e; exact .nil
  | _, d :: ds, ps, .cons r t, e => by
    rw [toPyL] at e
    cases q : toPy d with
    | none => rw [q] at e; cases e
    | some p =>
      cases q2 : toPyL ds with
      | none => rw [q, q2] at e; cases e
      | some qs =>
        rw [q, q2] at e
        cases e
        exact .cons (Dv.dp s r q) (dp_all s t q2)
theorem py_inj_mem {ds : List D} {x y : D} {i : Nat} {p : PyData} (h : ds[i]? = some x) (e : (ds.map pyD)[i]? = some p) : p = pyD x := by
  rw [List.getElem?_map, h] at e
  exact (Option.some.inj e).symm
mutual
theorem toPy_inj : ∀ {x y : D} {p : PyData}, toPy x = some p → toPy y = some p → x = y
  | .tup xs, y, p, h1, h2 => by
    rw [toPy] at h1
    obtain ⟨ps, e1, rfl⟩ := Option.map_eq_some_iff.mp h1
    cases y with
    | tup ys => rw [toPy] at h2; obtain ⟨qs, e2, q⟩ := Option.map_eq_some_iff.mp h2; cases q; rw [toPyL_inj e1 e2]
    | lst ys => rw [toPy] at h2; obtain ⟨qs, e2, q⟩ := Option.map_eq_some_iff.mp h2; cases q
    | _ => cases h2
  | .lst xs, y, p, h1, h2 => by
    rw [toPy] at h1
    obtain ⟨ps, e1, rfl⟩ := Option.map_eq_some_iff.mp h1
    cases y with
    | lst ys => rw [toPy] at h2; obtain ⟨qs, e2, q⟩ := Option.map_eq_some_iff.mp h2; cases q; rw [toPyL_inj e1 e2]
    | tup ys => rw [toPy] at h2; obtain ⟨qs, e2, q⟩ := Option.map_eq_some_iff.mp h2; cases q
    | _ => cases h2
  | .non, y, p, h1, h2 => by
    cases h1
    cases y with
    | lst ys => rw [toPy] at h2; obtain ⟨qs, e2, q⟩ := Option.map_eq_some_iff.mp h2; cases q
    | tup ys => rw [toPy] at h2; obtain ⟨qs, e2, q⟩ := Option.map_eq_some_iff.mp h2; cases q
    | _ => cases h2; try rfl
  | .bl b, y, p, h1, h2 => by
    cases h1
    cases y with
    | lst ys => rw [toPy] at h2; obtain ⟨qs, e2, q⟩ := Option.map_eq_some_iff.mp h2; cases q
    | tup ys => rw [toPy] at h2; obtain ⟨qs, e2, q⟩ := Option.map_eq_some_iff.mp h2; cases q
    | _ => cases h2; try rfl
  | .int b, y, p, h1, h2 => by
    cases h1
    cases y with
    | lst ys => rw [toPy] at h2; obtain ⟨qs, e2, q⟩ := Option.map_eq_some_iff.mp h2; cases q
    | tup ys => rw [toPy] at h2; obtain ⟨qs, e2, q⟩ := Option.map_eq_some_iff.mp h2; cases q
    | _ => cases h2; try rfl
  | .str b, y, p, h1, h2 => by
    cases h1
    cases y with
    | lst ys => rw [toPy] at h2; obtain ⟨qs, e2, q⟩ := Option.map_eq_some_iff.mp h2; cases q
    | tup ys => rw [toPy] at h2; obtain ⟨qs, e2, q⟩ := Option.map_eq_some_iff.mp h2; cases q
    | _ => cases h2; try rfl
  | .ins _ _, _, _, h1, _ => by cases h1
  | .fn _, _, _, h1, _ => by cases h1
  | .cls _, _, _, h1, _ => by cases h1
  | .ty _, _, _, h1, _ => by cases h1
  | .row, _, _, h1, _ => by cases h1
  | .scr, _, _, h1, _ => by cases h1
theorem toPyL_inj : ∀ {xs ys : List D} {ps : List PyData}, toPyL xs = some ps → toPyL ys = some ps → xs = ys
  | [], ys, ps, h1, h2 => by
    cases h1
    cases ys with
    | nil => rfl
    | cons y ys =>
      rw [toPyL] at h2
      cases q : toPy y <;> cases q2 : toPyL ys <;> rw [q, q2] at h2 <;> cases h2
  | x :: xs, ys, ps, h1, h2 => by
    rw [toPyL] at h1
    cases q : toPy x with
    | none => rw [q] at h1; cases h1
    | some p =>
      cases q2 : toPyL xs with
      | none => rw [q, q2] at h1; cases h1
      | some qs =>
        rw [q, q2] at h1
        cases h1
        cases ys with
        | nil => cases h2
        | cons y ys =>
          rw [toPyL] at h2
          cases r : toPy y with
          | none => rw [r] at h2; cases h2
          | some p' =>
            cases r2 : toPyL ys with
            | none => rw [r, r2] at h2; cases h2
            | some qs' =>
              rw [r, r2] at h2
              cases h2
              rw [toPy_inj q r, toPyL_inj q2 r2]
end
theorem pyD_inj {x y : D} {p q : PyData} (h1 : toPy x = some p) (h2 : toPy y = some q) (e : pyD x = pyD y) : x = y := by
  unfold pyD at e
  rw [h1, h2] at e
  exact toPy_inj h1 (by rw [h2]; exact congrArg some e.symm)
theorem onDat_br {f : D → List D → D} {fp : PyData → List PyData → PyData} {b : Value} (hf : ∀ x xs, pyD (f x xs) = fp (pyD x) (xs.map pyD)) (hm : ∀ x xs, f x xs ∈ x :: xs) (hK : X.K = C.K) (cr : CallR X b (rPick X.K fp)) : BR C X b (onDat f) := by
  refine ⟨_, cr, fun vs es F H g Q d l st e q => ?_⟩
  have go : ∀ (x : D) (xs : List D) (a : Addr) (ws : List V), DvL C F ws (x :: xs) → (SqL X.K H a ws ∨ SqT X.K H a ws) → ((toPyL (x :: xs)).bind fun ps => if okP ps = true then some (f x xs) else none) = some d → vs = [.ref a] → rPick X.K fp vs H Q := by
    intro x xs a ws h2 hs e hv
    obtain ⟨ps, q1, q2⟩ := Option.bind_eq_some_iff.mp e
    by_cases ok : okP ps = true
    · rw [if_pos ok] at q2
      cases q2
      obtain ⟨e1, e2⟩ := toPyL_map q1
      rw [List.map_cons] at e1
      subst e1
      refine ⟨a, ws, pyD x, xs.map pyD, hv, hs, by rw [hK]; exact dp_all st.sub h2 q1, ok, fun i v hi hp => ?_⟩
      obtain ⟨d0, k1, k2⟩ := h2.getV hi
      have k3 : pyD d0 = pyD (f x xs) := by
        rw [hf, ← py_inj_mem (y := d0) k1 (by rw [List.map_cons]; exact hp)]
      obtain ⟨p1, z1⟩ := e2 d0 (List.mem_of_getElem? k1)
      obtain ⟨p2, z2⟩ := e2 _ (hm x xs)
      have := pyD_inj z1 z2 k3
      subst this
      exact q v F H (Ext.refl _ _ _) st k2
    · rw [if_neg ok] at q2; cases q2
  unfold onDat at e
  split at e
  · rename_i x xs
    cases l with
    | cons r t =>
      cases t
      obtain ⟨a, ws, rfl, h1, h2⟩ := r.lst_inv st.sub
      exact go x xs a ws h2 (.inl (.inl (.inl h1))) e rfl
  · rename_i x xs
    cases l with
    | cons r t =>
      cases t
      obtain ⟨a, ws, rfl, h1, h2⟩ := r.tup_inv st.sub
      exact go x xs a ws h2 (.inr (by rw [hK]; exact st.sub.sqt h1)) e rfl
  · cases e
theorem br_minD (hK : X.K = C.K) (hc : X.calm = true) (hu : X.A.units + 100 < cLine) : BR C X (.builtin "min") (onDat minF) := onDat_br minF_py minF_mem hK (cr_minD hc hu)
theorem br_maxD (hK : X.K = C.K) (hc : X.calm = true) (hu : X.A.units + 100 < cLine) : BR C X (.builtin "max") (onDat maxF) := onDat_br maxF_py maxF_mem hK (cr_maxD hc hu)
/-! sorted -/
def tupNe : PyData → Bool
  | .tuple (_ :: _) => true
  | _ => false
def plainB : PyData → Bool
  | .none => false
  | .tuple _ => false
  | _ => true
def okQ (ps : List PyData) : Bool := alB ps && (ps.all tupNe || ps.all plainB) && decide (PyData.depthAll ps ≤ 64)
theorem okQ_al {ps : List PyData} (h : okQ ps = true) : PySem.W.AllAlike ps ∧ PySem.W.Sortable ps ∧ PyData.depthAll ps ≤ 64 := by
  unfold okQ alB at h
  simp only [Bool.and_eq_true, Bool.or_eq_true, List.all_eq_true, decide_eq_true_eq] at h
  refine ⟨fun x hx y hy => h.1.1 x hx y hy, ?_, h.2⟩
  rcases h.1.2 with q | q
  · refine .inl fun d hd => ?_
    have := q d hd
    cases d with
    | tuple xs => cases xs with
      | nil => cases this
      | cons x r => exact ⟨x, r, rfl⟩
    | _ => cases this
  · refine .inr fun d hd => ?_
    have := q d hd
    cases d with
    | none => cases this
    | tuple xs => cases this
    | _ => exact ⟨(by intro z; cases z), (by intro xs z; cases z)⟩
theorem depth_mem {d : PyData} : ∀ {ps : List PyData}, d ∈ ps → d.depth ≤ PyData.depthAll ps
  | [], h => by cases h
  | p :: ps, h => by
    rw [PyData.depthAll]
    rcases List.mem_cons.mp h with z | z
    · subst z; exact Nat.le_max_left _ _
    · exact Nat.le_trans (depth_mem z) (Nat.le_max_right _ _)
/-! sorted(tuple): the same road as for a list, from a tuple's items -/
section
variable {pg : Program} {wo : World} {Ar : Around} {Ex : Value → Shared → Prop} {st : Shared}
theorem collect_tup {t : Addr} {us : List Value} {K : List Value → Shared → Prop} (ht : IsTup st.heap t us.toArray) (hz : us.length ≤ sizeLine)
    (k : K us { st with heap := (st.heap.push (seqObj "list" #[] 0)).update st.heap.objs.size (Obj.mapSeq (· ++ us.toArray)) }) :
    wpAny (model pg wo) Ar (collect (.ref t)) K Ex st := by
  obtain ⟨ob, hob, hcl, m, hda⟩ := id ht
  have fresh : (st.heap.push (seqObj "list" #[] 0)).get? st.heap.objs.size = some (seqObj "list" #[] 0) := Heap.get?_push_size _ rfl
  unfold collect; refine wpAny_bind (wpAny_runValue (codeAny_builtin entry_proto_collect' ?_))
  show wpAny (model pg wo) _ (do again (.builtin "list.__iadd__" ⟨[← newList [], .ref t], []⟩)) _ _ st
  refine wpAny_bind (wpAny_newList (wpAny_pure ⟨Code.quiet_builtin _ (by decide +kernel), codeAny_builtin entry_list_iadd' ?_⟩) (by simp))
  show wpAny (model pg wo) _ (Builtin.List.listExtendWith (.ref st.heap.objs.size) (.ref t) (.ref st.heap.objs.size)) _ _ { st with heap := st.heap.push (seqObj "list" #[] 0) }
  have hob' : (st.heap.push (seqObj "list" #[] 0)).get? t = some ob := Heap.get?_push_of_some _ hob
  unfold Builtin.List.listExtendWith; refine wpAny_bind (wpAny_typeOf (T := "tuple") ⟨ob, hob', hcl⟩ ?_)
  have hty : (Value.type "tuple" == Value.type "tuple") = true := by rfl
  rw [if_pos (by rw [hty]; simp)]; refine wpAny_bind (listItems_at hob' hda ?_)
  refine wpAny_bind (listItems_at (o := seqObj "list" #[] 0) (xs := #[]) (n := 0) fresh rfl ?_); rw [if_neg (by simp)]
  refine wpAny_bind (listUpdate_at (o := seqObj "list" #[] 0) (xs := #[]) (n := 0) fresh rfl ?_ (Nat.zero_le _) (by show (#[] ++ us.toArray).size ≤ sizeLine + 1; simp; omega))
  refine wpAny_pure ?_; show wpAny (model pg wo) _ (do
      let ob ← load st.heap.objs.size
      match ob.data with
      | .seq ys _ => pure ys.toList
      | _ => unsupported "internal:collect") K Ex { st with heap := (st.heap.push (seqObj "list" #[] 0)).update st.heap.objs.size (Obj.mapSeq (· ++ us.toArray)) }
  refine wpAny_bind (wpAny_load (get?_update_seq fresh _) ?_); show wpAny (model pg wo) _ (pure ((#[] : Array Value) ++ us.toArray).toList) K Ex _
  rw [show ((#[] : Array Value) ++ us.toArray).toList = us by simp]; exact wpAny_pure k
open PySem.W in
theorem sorted_tup {t : Addr} {us : List Value} {κ : PyProof.Rows.KeyKind} {K : Value → Shared → Prop} (ht : IsTup st.heap t us.toArray) (S : SortsAt pg wo Ar.in1.in1 { st with heap := sortingHeap (copyHeap st.heap us) (st.heap.objs.size + 1) us } κ us) (hz : us.length ≤ sizeLine)
    (k : K (.ref (st.heap.objs.size + 1)) { st with heap := sortedAll st.heap us (sortVals κ false us us).toArray }) : wpAny (model pg wo) Ar (call (.builtin "sorted") [.ref t]) K Ex st := by
  refine call_function_entry_kw kind_sorted plain_sorted entry_sorted (args_sorted1 _) ?_
  unfold Builtin.«sorted»; refine wpAny_bind (m := checkCount "sorted" 1 1 _) (wpAny_pure ?_)
  refine wpAny_bind (collect_tup ht hz ?_); refine wpAny_bind (wpAny_newList ?_ hz)
  have hs : ((st.heap.push (seqObj "list" #[] 0)).update st.heap.objs.size (Obj.mapSeq (· ++ us.toArray))).objs.size = st.heap.objs.size + 1 := (Heap.size_update ..).trans (size_push' ..)
  show wpAny (model pg wo) _ _ _ _ { st with heap := copyHeap st.heap us }
  rw [hs]; refine wpAny_bind (wpAny_holding (wpAny_call_entry_kw slot_list_sort ⟨_, copyHeap_at st.heap us, rfl⟩ entry_list_sort ?go (args_list_sort _)))
  case go =>
    refine wpAny_mono (list_sort_vals (s := { st with heap := copyHeap st.heap us }) (P := fun f s' => f = .done (.ret .none) ∧ K (.ref (st.heap.objs.size + 1)) s') (copyHeap_at st.heap us) S hz ⟨rfl, k⟩) (fun f s' hf => ?_) fun _ _ e => e
    obtain ⟨rfl, hq⟩ := hf
    exact ⟨_, rfl, wpAny_pure ⟨_, rfl, hq⟩⟩
open PySem.W in
theorem sorted_tup_data {β : Type} {R : Value → β → Prop} {enc : β → PyData} {us : List Value} {bs : List β} {t : Addr} {K : Value → Shared → Prop} (ht : IsTup st.heap t us.toArray) (e : EachIs R us bs) (er : EachIs (fun v b => ∃ as, Reads st.heap v (enc b) as) us bs) (hal : AllAlike (bs.map enc)) (hk : Sortable (bs.map enc)) (hL : bs.length ≤ sizeLine)
    (hu : ∀ b, b ∈ bs → Ar.units + 2 + (enc b).depth < cLine) (k : ∀ out, out.length = bs.length → EachIs R out (bs.mergeSort (dataLe false enc)) → K (.ref (st.heap.objs.size + 1)) { st with heap := sortedAll st.heap us (List.toArray out) }) :
    wpAny (model pg wo) Ar (call (.builtin "sorted") [.ref t]) K Ex st := by
  have er2 : EachIs (fun v b => ∃ as, Reads (sortingHeap (copyHeap st.heap us) (st.heap.objs.size + 1) us) v (enc b) as) us bs := er.mono fun _ _ ⟨as, r⟩ => ⟨as, PyProof.Rows.Reads.keeps (fun _ _ => sorting_copy_old) r⟩
  exact sorted_tup ht (SortsAt.data (s := { st with heap := sortingHeap (copyHeap st.heap us) (st.heap.objs.size + 1) us }) (each_map (R := fun v d => ∃ as, Reads (sortingHeap (copyHeap st.heap us) (st.heap.objs.size + 1) us) v d as) enc er2) hal hk (bound_map hu)) (by rw [e.length]; exact hL) (k _ (by rw [sortVals_length false rfl]; exact e.length) (sortVals_data false e er2 hal))
end
def rSortD (K : PySem.W.Frag) : List V → Hp → VK → Prop := fun vs H Q => ∃ (a : Addr) (ws : List V) (ps : List PyData), vs = [V.ref a] ∧ (SqL K H a ws ∨ SqT K H a ws) ∧ DpAll K H ws ps ∧ okQ ps = true ∧
  ∀ p, H p = none → Q (.ref p) (upd H p (.lst (((ws.zip ps).mergeSort (PySem.W.dataLe false fun b => b.2)).map fun b => b.1)))
theorem each_zip {h : Heap} : ∀ {ws : List V} {its : List Value} {ps : List PyData} {as : List Addr}, Vals ws its → ReadsAll h its ps as → PySem.W.EachIs (fun v (b : V × PyData) => RelV b.1 v) its (ws.zip ps) ∧ PySem.W.EachIs (fun v (b : V × PyData) => ∃ as, Reads h v b.2 as) its (ws.zip ps) ∧ (ws.zip ps).map (fun b => b.2) = ps ∧ ws.length = ps.length
  | _, _, _, _, .nil, .nil => ⟨.nil, .nil, rfl, rfl⟩
  | _, _, _, _, .cons r t, .cons k m => by
    obtain ⟨h1, h2, h3, h4⟩ := each_zip t m
    exact ⟨.cons r h1, .cons ⟨_, k⟩ h2, by rw [List.zip_cons_cons, List.map_cons, h3], by rw [List.length_cons, List.length_cons, h4]⟩
theorem each_vals : ∀ {its : List Value} {bs : List (V × PyData)}, PySem.W.EachIs (fun v (b : V × PyData) => RelV b.1 v) its bs → Vals (bs.map fun b => b.1) its
  | _, _, .nil => .nil
  | _, _, .cons r t => .cons r (each_vals t)
theorem cr_sortD (hu : X.A.units + 100 < cLine) : CallR X (.builtin "sorted") (rSortD X.K) := by
  intro pn s σ Hh vs us QQ I r hh
  obtain ⟨a, ws, ps, rfl, hs, hd, ok, q⟩ := hh
  obtain ⟨al, so, dp⟩ := okQ_al ok
  rw [Vals.ref1 r]
  have fin : ∀ its : List Value, Vals ws its → ∀ out : List Value, (ws.zip ps).length ≤ sizeLine → PySem.W.EachIs (fun v (b : V × PyData) => RelV b.1 v) out ((ws.zip ps).mergeSort (PySem.W.dataLe false fun b => b.2)) → ∃ (v : V) (H' : Hp), L2.Inv X pn σ H' { s with heap := sortedAll s.heap its out.toArray } ∧ RelV v (.ref (s.heap.objs.size + 1)) ∧ QQ v H' := by
    intro its rv out hL eo
    obtain ⟨ep, he'⟩ := PyProof.Rows.sortedAll_at s.heap its out.toArray
    have hlen : (((ws.zip ps).mergeSort (PySem.W.dataLe false fun b => b.2)).map fun b => b.1).length ≤ sizeLine := by
      rw [List.length_map, List.length_mergeSort]
      exact hL
    exact ⟨.ref _, upd Hh (s.heap.objs.size + 1) (.lst (((ws.zip ps).mergeSort (PySem.W.dataLe false fun b => b.2)).map fun b => b.1)), I.laid (t' := s.toks) (fun _ _ => PyProof.Rows.sortedAll_old) (Nat.le_succ _) ⟨hlen, out, ep, each_vals eo, he'⟩, rfl, q _ (I.hok.fresh (Nat.le_succ _))⟩
  rcases hs with hs | hs
  · obtain ⟨its, rv, hl, hz⟩ := I.list hs
    obtain ⟨as, hr⟩ := Dp.readsAll I _ _ _ hd rv
    obtain ⟨e1, e2, e3, e4⟩ := each_zip rv hr
    have hL : (ws.zip ps).length ≤ sizeLine := by rw [List.length_zip, ← e4, Nat.min_self]; exact hz
    refine PySem.W.sorted_data (enc := fun b => b.2) hl.isList e1 e2 (by rw [e3]; exact al) (by rw [e3]; exact so) hL (fun b hb => ?_) fun out ho eo => fin its rv out hL eo
    have := depth_mem (ps := ps) (d := b.2) (by rw [← e3]; exact List.mem_map.mpr ⟨b, hb, rfl⟩)
    omega
  · obtain ⟨its, rv, hl, hz⟩ := I.tuple hs
    obtain ⟨as, hr⟩ := Dp.readsAll I _ _ _ hd rv
    obtain ⟨e1, e2, e3, e4⟩ := each_zip rv hr
    have hL : (ws.zip ps).length ≤ sizeLine := by rw [List.length_zip, ← e4, Nat.min_self]; exact hz
    refine sorted_tup_data (enc := fun b => b.2) hl e1 e2 (by rw [e3]; exact al) (by rw [e3]; exact so) hL (fun b hb => ?_) fun out ho eo => fin its rv out hL eo
    have := depth_mem (ps := ps) (d := b.2) (by rw [← e3]; exact List.mem_map.mpr ⟨b, hb, rfl⟩)
    omega
def srtD (ds : List D) : List D := ds.mergeSort (PySem.W.dataLe false pyD)
def sortedDD : List D → Option (List D)
  | [.lst ds] => (toPyL ds).bind fun ps => if okQ ps = true then some (srtD ds) else none
  | [.tup ds] => (toPyL ds).bind fun ps => if okQ ps = true then some (srtD ds) else none
  | _ => none
theorem dv_pairs {F : Hp} : ∀ {l : List (V × D)}, (∀ t ∈ l, Dv C F t.1 t.2) → DvL C F (l.map fun t => t.1) (l.map fun t => t.2)
  | [], _ => .nil
  | t :: l, h => .cons (h t List.mem_cons_self) (dv_pairs fun x hx => h x (List.mem_cons_of_mem _ hx))
theorem dv_zip {F : Hp} : ∀ {vs : List V} {ds : List D}, DvL C F vs ds → (∀ t ∈ vs.zip ds, Dv C F t.1 t.2) ∧ (vs.zip ds).map (fun t => t.2) = ds ∧ vs.zip (ds.map pyD) = (vs.zip ds).map fun t => (t.1, pyD t.2)
  | _, _, .nil => ⟨fun _ h => (by cases h), rfl, rfl⟩
  | _, _, .cons r t => by
    obtain ⟨h1, h2, h3⟩ := dv_zip t
    refine ⟨fun x hx => ?_, by rw [List.zip_cons_cons, List.map_cons, h2], by rw [List.map_cons, List.zip_cons_cons, h3]; rfl⟩
    rw [List.zip_cons_cons] at hx
    rcases List.mem_cons.mp hx with z | z
    · subst z; exact r
    · exact h1 x z
theorem dv_sort {F : Hp} {vs : List V} {ds : List D} (l : DvL C F vs ds) : DvL C F (((vs.zip (ds.map pyD)).mergeSort (PySem.W.dataLe false fun b => b.2)).map fun b => b.1) (srtD ds) := by
  obtain ⟨h1, h2, h3⟩ := dv_zip l
  have e1 : ((vs.zip (ds.map pyD)).mergeSort (PySem.W.dataLe false fun b => b.2)) = (((vs.zip ds).mergeSort (PySem.W.dataLe false fun t => pyD t.2)).map fun t => (t.1, pyD t.2)) := by
    rw [h3]
    exact (List.map_mergeSort (r := PySem.W.dataLe false fun t : V × D => pyD t.2) (s := PySem.W.dataLe false fun b : V × PyData => b.2) (f := fun t : V × D => (t.1, pyD t.2)) fun a _ b _ => rfl).symm
  have e2 : srtD ds = ((vs.zip ds).mergeSort (PySem.W.dataLe false fun t => pyD t.2)).map fun t => t.2 := by
    unfold srtD
    rw [List.map_mergeSort (r := PySem.W.dataLe false fun t : V × D => pyD t.2) (s := PySem.W.dataLe false pyD) (f := fun t : V × D => t.2) fun a _ b _ => rfl, h2]
  rw [e1, e2, List.map_map]
  exact dv_pairs fun t ht => h1 t ((List.mergeSort_perm _ _).mem_iff.mp ht)
theorem bl_sortD (hK : X.K = C.K) (hu : X.A.units + 100 < cLine) : BL C X (.builtin "sorted") sortedDD := by
  refine ⟨_, cr_sortD hu, fun vs es F H g Q d l st e q => ?_⟩
  have go : ∀ (ds : List D) (a : Addr) (ws : List V), DvL C F ws ds → (SqL X.K H a ws ∨ SqT X.K H a ws) → ((toPyL ds).bind fun ps => if okQ ps = true then some (srtD ds) else none) = some d → vs = [.ref a] → rSortD X.K vs H Q := by
    intro ds a ws h2 hs e hv
    obtain ⟨ps, q1, q2⟩ := Option.bind_eq_some_iff.mp e
    by_cases ok : okQ ps = true
    · rw [if_pos ok] at q2
      cases q2
      obtain ⟨e1, e2⟩ := toPyL_map q1
      subst e1
      refine ⟨a, ws, _, hv, hs, by rw [hK]; exact dp_all st.sub h2 q1, ok, fun p np => ?_⟩
      obtain ⟨x, t2⟩ := Ext.own st np (.lst (((ws.zip (ds.map pyD)).mergeSort (PySem.W.dataLe false fun b => b.2)).map fun b => b.1))
      refine q _ _ _ x t2 ⟨p, _, rfl, np, upd_same, ?_, ?_, dv_sort h2⟩
      · cases q3 : F p with
        | none => rfl
        | some u => rw [st.sub p u q3] at np; cases np
      · exact fun z => by rw [z, st.rowH] at np; cases np
    · rw [if_neg ok] at q2; cases q2
  unfold sortedDD at e
  split at e
  · rename_i xs
    cases l with
    | cons r t =>
      cases t
      obtain ⟨a, ws, rfl, h1, h2⟩ := r.lst_inv st.sub
      exact go xs a ws h2 (.inl (.inl (.inl h1))) e rfl
  · rename_i xs
    cases l with
    | cons r t =>
      cases t
      obtain ⟨a, ws, rfl, h1, h2⟩ := r.tup_inv st.sub
      exact go xs a ws h2 (.inr (by rw [hK]; exact st.sub.sqt h1)) e rfl
  · cases e
/-! order of rows -/
def ordS (b n : Bool) (x y : D) : Option D := match toPy x, toPy y with
  | some p, some q => if PySem.W.alike p q = true ∧ nnB p = true ∧ p.depth ≤ 64 then some (.bl (xor n (if b then PySem.W.dataLt q p else PySem.W.dataLt p q))) else none
  | _, _ => none
def rOrd (K : PySem.W.Frag) (b n : Bool) : R2 := fun x y H Q => ∃ d e, Dp K H x d ∧ Dp K H y e ∧ PySem.W.alike d e = true ∧ nnB d = true ∧ d.depth ≤ 64 ∧ Q (.bl (xor n (if b then PySem.W.dataLt e d else PySem.W.dataLt d e))) H
theorem nn_ne {p : PyData} (h : nnB p = true) : p ≠ .none := fun e => by rw [e] at h; cases h
theorem op_ltR (hu : X.A.units + 100 < cLine) : OpR X (compareOp .Lt) (rOrd X.K false false) := by
  intro pins s σ H x y v u Q I rx ry h
  obtain ⟨d, e, hd, he, al, nn, dp, q⟩ := h
  obtain ⟨as, r1⟩ := Dp.reads I d x v hd rx
  obtain ⟨bs, r2⟩ := Dp.reads I e y u he ry
  exact PySem.W.lt_data r1 r2 al (nn_ne nn) (by have := Nat.min_le_left d.depth e.depth; omega) ⟨.bl _, H, I, rfl, by simpa using q⟩
theorem op_gtR (hu : X.A.units + 100 < cLine) : OpR X (compareOp .Gt) (rOrd X.K true false) := by
  intro pins s σ H x y v u Q I rx ry h
  obtain ⟨d, e, hd, he, al, nn, dp, q⟩ := h
  obtain ⟨as, r1⟩ := Dp.reads I d x v hd rx
  obtain ⟨bs, r2⟩ := Dp.reads I e y u he ry
  exact PySem.W.gt_data r1 r2 al (nn_ne nn) (by have := Nat.min_le_left d.depth e.depth; omega) ⟨.bl _, H, I, rfl, by simpa using q⟩
theorem op_leR (hu : X.A.units + 100 < cLine) : OpR X (compareOp .LtE) (rOrd X.K true true) := by
  intro pins s σ H x y v u Q I rx ry h
  obtain ⟨d, e, hd, he, al, nn, dp, q⟩ := h
  obtain ⟨as, r1⟩ := Dp.reads I d x v hd rx
  obtain ⟨bs, r2⟩ := Dp.reads I e y u he ry
  exact PySem.W.le_data r1 r2 al (nn_ne nn) (by have := Nat.min_le_left d.depth e.depth; omega) ⟨.bl _, H, I, rfl, by simpa using q⟩
theorem op_geR (hu : X.A.units + 100 < cLine) : OpR X (compareOp .GtE) (rOrd X.K false true) := by
  intro pins s σ H x y v u Q I rx ry h
  obtain ⟨d, e, hd, he, al, nn, dp, q⟩ := h
  obtain ⟨as, r1⟩ := Dp.reads I d x v hd rx
  obtain ⟨bs, r2⟩ := Dp.reads I e y u he ry
  exact PySem.W.ge_data r1 r2 al (nn_ne nn) (by have := Nat.min_le_left d.depth e.depth; omega) ⟨.bl _, H, I, rfl, by simpa using q⟩
theorem opD_ord {op : Value → Value → Sem Value} {b n : Bool} (hK : X.K = C.K) (o : OpR X op (rOrd X.K b n)) : OpD C X op (ordS b n) := by
  refine ⟨_, o, fun F H g x y dx dy W σ Q st rx ry hw => ?_⟩
  unfold ordS at hw
  cases e1 : toPy dx with
  | none => rw [e1] at hw; exact hw.elim
  | some p =>
    cases e2 : toPy dy with
    | none => rw [e1, e2] at hw; exact hw.elim
    | some q =>
      rw [e1, e2] at hw
      dsimp only at hw
      by_cases c : PySem.W.alike p q = true ∧ nnB p = true ∧ p.depth ≤ 64
      · rw [if_pos c] at hw
        exact ⟨p, q, by rw [hK]; exact rx.dp st.sub e1, by rw [hK]; exact ry.dp st.sub e2, c.1, c.2.1, c.2.2, Want.ret (g := g) hw st (.bl _)⟩
      · rw [if_neg c] at hw; exact hw.elim
end
end DS

set_option Elab.async false
set_option linter.all false
set_option maxRecDepth 100000
set_option maxHeartbeats 4000000
/-! DS, part 10: what the text's form gives: no stars, no comprehension as a dropped value, and so on -/
namespace DS
open PySem L2
abbrev PEnv := PySem.Env
def nst : Expr → Bool
  | .Starred .. => false
  | _ => true
def ncomp : Expr → Bool
  | .ListComp .. => false
  | .SetComp .. => false
  | .DictComp .. => false
  | _ => true
def nset : Expr → Bool
  | .Set .. => false
  | _ => true
def nslice : Expr → Bool
  | .Slice .. => false
  | _ => true
def ncall : Expr → Bool
  | .Call (.Name _ _) [] [] _ => false
  | _ => true
/-- a test that is its value's truth -/
def plainT : Expr → Bool
  | .UnaryOp .Not _ _ => false
  | .BoolOp .. => false
  | .IfExp .. => false
  | .Compare .. => false
  | _ => true
theorem star_cons {e : Expr} {es : List Expr} {env : PEnv} (h : nst e = true) : starEach (e :: es) env = (false, eval e env) :: starEach es env := by
  cases e <;> first | rfl | (cases h)
theorem star_any {pos : Pos} {env : PEnv} : ∀ {es : List Expr}, es.all nst = true → (backTo pos (starEach es env)).any (·.1) = false
  | [], _ => rfl
  | e :: es, h => by
    rw [List.all_cons, Bool.and_eq_true] at h
    rw [star_cons h.1]
    exact star_any (es := es) h.2
theorem star_all {pos : Pos} {env : PEnv} : ∀ {es : List Expr}, es.all nst = true → (backTo pos (starEach es env)).all (!·.1) = true
  | [], _ => rfl
  | e :: es, h => by
    rw [List.all_cons, Bool.and_eq_true] at h
    rw [star_cons h.1]
    exact star_all (es := es) h.2
theorem few_ok {pos : Pos} {env : PEnv} {es : List Expr} (h : es.all nst = true) (hl : es.length < 30) : ((backTo pos (starEach es env)).all (fun x => !x.1) && (backToKw pos (keywordEach [] env)).all (fun x => x.1.isSome)
      && decide (es.length + ([] : List Keyword).length + (if ([] : List Keyword).isEmpty then 0 else 1) < 30)) = true := by
  rw [star_all h]
  simp [keywordEach, backToKw, hl]
theorem swap_no {e : Expr} {t : Option Expr} {n : Nat} {env : PEnv} (h : ncomp e = true) : swapsWith e t n env = pure false := by
  cases e <;> first | rfl | (cases h)
theorem sole_no {t e : Expr} {n : Nat} {env : PEnv} (h : ncomp e = true) : swapsWithSole [t] e n env = pure false := swap_no h
theorem fold_no {e : Expr} {env : PEnv} (h : nset e = true) : ∀ x, foldedSetIterable e env x = pure x := by
  intro x
  cases e <;> first | rfl | (cases h)
theorem plain_ix {b : Expr} (h : nslice b = true) : PlainIx b := by
  intro o i
  cases b <;> first | rfl | (cases h)
theorem attr_base {o : Expr} {m : Str} {env : PEnv} (h : ncall o = true) : attributeBase o m env (eval o env) = eval o env := by
  generalize eval o env = w
  unfold attributeBase
  split
  · cases h
  · rfl
theorem plain_true {e : Expr} {env : PEnv} (h : plainT e = true) : ∀ whole, isTrue e env whole = (do let v ← whole; standAt e.pos; holding [v] (truthy v)) := by
  intro whole
  cases e with
  | UnaryOp op x p => cases op <;> first | rfl | (cases h)
  | _ => first | rfl | (cases h)
theorem marks_no {op : CmpOp} {e : Expr} (h : nset e = true) : behindInMarks op e = false := by
  cases e <;> first | rfl | (cases h)
theorem sub_assign {o i : Expr} {pos : Pos} {env : PEnv} (h : nslice i = true) : ∀ v, assign (.Subscript o i pos) env v = (do
      let ov ← holding [v] (eval o env)
      let iv ← holding [v, ov] (eval i env)
      standAt pos
      holding [v, ov, iv] (setItem ov iv v)
      release [v, ov, iv] []) := by
  intro v
  cases i <;> first | rfl | (cases h)
theorem assign_one {t : Expr} {env : PEnv} (h : nst t = true) : (assignEach [t] env).map (·.2) = [assign t env] := by
  cases t <;> first | rfl | (cases h)
theorem assign_cons {t : Expr} {ts : List Expr} {env : PEnv} (h : nst t = true) : (assignEach (t :: ts) env).map (·.2) = assign t env :: (assignEach ts env).map (·.2) := by
  cases t <;> first | rfl | (cases h)
theorem assign_len {env : PEnv} : ∀ ts : List Expr, (assignEach ts env).length = ts.length
  | [] => rfl
  | t :: ts => by
    have := assign_len (env := env) ts
    cases t <;> simp [assignEach, this]
theorem assign_nst {env : PEnv} : ∀ ts : List Expr, ts.all nst = true → (assignEach ts env).findIdx? (·.1) = none
  | [], _ => rfl
  | t :: ts, h => by
    rw [List.all_cons, Bool.and_eq_true] at h
    have := assign_nst (env := env) ts h.2
    cases t <;> first | (simp [assignEach, List.findIdx?_cons, this]; done) | (cases h.1)
/-! the names stored in one go, the other way round -/
def nmT (sc : Scope) (line : Nat) : Expr → Option Str
  | .Name id pos => if sc.names.lookup id == some .local && pos.line == line then some id else none
  | _ => none
/-- (ts) = (vs): none: nothing is known; some r: what swappedStores gives -/
def swT (sc : Scope) (ts vs : List Expr) : Option (Option (List Str)) :=
    if (!(ts.length == 2 || ts.length == 3) || vs.length != ts.length) = true then some none
    else if !(vs.all nst) then some none
    else
      if ((ts.filterMap (nmT sc ((ts.head?.map (·.pos.line)).getD 0))).length != ts.length || (ts.filterMap (nmT sc ((ts.head?.map (·.pos.line)).getD 0))).eraseDups.length != (ts.filterMap (nmT sc ((ts.head?.map (·.pos.line)).getD 0))).length) = true then some none
      else if vs.all (foldedForSure 8) = true then some none
      else if vs.all (constantsAlone 8) = true then none
      else some (some (ts.filterMap (nmT sc ((ts.head?.map (·.pos.line)).getD 0))))
theorem any_star (vs : List Expr) : (vs.any fun | .Starred .. => true | _ => false) = !(vs.all nst) := by
  induction vs with
  | nil => rfl
  | cons v vs ih =>
    rw [List.any_cons, List.all_cons, Bool.not_and, ih]
    cases v <;> rfl
theorem swT_ok {ts vs : List Expr} {k k2 : Nat} {p p2 : Pos} {env : PEnv} {r : Option (List Str)} (hb : env.blockKind = .function) (h : swT env.scope ts vs = some r) : swappedStores [.Tuple ts k p] (.Tuple vs k2 p2) env = pure r := by
  have e1 : swappedStores [.Tuple ts k p] (.Tuple vs k2 p2) env = (do
    if (!(ts.length == 2 || ts.length == 3) || vs.length != ts.length || env.blockKind != .function) = true then return none
    if (vs.any fun | .Starred .. => true | _ => false) = true then return none
    let names := ts.filterMap (nmT env.scope ((ts.head?.map (·.pos.line)).getD 0))
    if (names.length != ts.length || names.eraseDups.length != names.length) = true then return none
    if vs.all (foldedForSure 8) = true then return none
    if vs.all (constantsAlone 8) = true then unsupported "assign.tuple-of-constant-expressions:order-of-the-stores"
    return some names) := by
    first | rfl | (unfold swappedStores; rfl)
  rw [e1]
  unfold swT at h
  have hbk : (env.blockKind != .function) = false := by rw [hb]; rfl
  rw [hbk, Bool.or_false, any_star]
  split at h
  · rename_i c; cases h; rw [if_pos c]
  · rename_i c
    rw [if_neg c]
    split at h
    · rename_i c2; cases h; simp only [pure_bind]; rw [if_pos c2]
    · rename_i c2
      simp only [pure_bind]
      rw [if_neg c2]
      split at h
      · rename_i c3; cases h; rw [if_pos c3]
      · rename_i c3
        rw [if_neg c3]
        split at h
        · rename_i c4; cases h; rw [if_pos c4]
        · rename_i c4
          rw [if_neg c4]
          split at h
          · cases h
          · rename_i c5
            cases h
            rw [if_neg c5]
def isTupE : Expr → Bool
  | .Tuple .. => true
  | _ => false
theorem sw_other {t e : Expr} {env : PEnv} (h : isTupE e = false) : swappedStores [t] e env = pure none := by
  cases e with
  | Tuple => cases h
  | _ => cases t <;> rfl
theorem sw_name {x : Str} {p : Pos} {e : Expr} {env : PEnv} : swappedStores [.Name x p] e env = pure none := by
  cases e <;> rfl
theorem sw_sub {o i : Expr} {p : Pos} {e : Expr} {env : PEnv} : swappedStores [.Subscript o i p] e env = pure none := by
  cases e <;> rfl
end DS

set_option Elab.async false
set_option linter.all false
set_option maxRecDepth 100000
set_option maxHeartbeats 4000000
/-! DS, part 11: expressions as terms of their own: what they are worth, and the check against the text -/
namespace DS
open PySem L2
structure Tab where
  scr : List Int
  call : Nat → List D → M D
  nps : Nat → Nat
  mak : Nat → Option (Nat × (List D → M (List (Str × D))))
  mts : Nat → Str → Option Nat
  flds : Nat → List Str
  xn : Nat → List Str
  sub : Nat → Nat → Option Bool
  con : Nat → D
  kit : Tk → Nat → Option Bool
/-- what a name of the module is: a def, a class, an error's class, not there, a constant -/
inductive Gk where
  | fn (i : Nat) | cl (c : Nat) | er (c : Nat) | non | con (k : Nat)
  deriving DecidableEq
structure Z where
  N : List Str
  sc : Scope
  calm : Bool
  gm : List (Str × Gk)
  asg : Option Scope
inductive Md where
  | s | r | t
  deriving DecidableEq
inductive Bop where
  | add | sub | mul | fdiv | mod | pow
inductive Bi where
  | len | abs | max | min | sum | any | all | int | str | repr | tuple | isinst
inductive Bl where
  | list | sorted
mutual
inductive Ex where
  | v (i : Nat) | o (i : Nat) | gv (k : Nat)
  | non | bl (b : Bool) | int (i : Int) | str (s : Str)
  | neg (a : Ex) | not (a : Ex) | bin (op : Bop) (a b : Ex) | cmp (op : CmpOp) (a b : Ex) | chain (op op' : CmpOp) (a b c : Ex)
  | one (a : Ex) | and (a b : Ex) | or (a b : Ex) | ite (c a b : Ex)
  | tup (as : Exs) | ow (l : Lx)
  | ix (a b : Ex) | sl (a : Ex) (l h : Ox)
  | fld (a : Ex) (f : Str) | exf (i : Nat) (f : Str)
  | call (i : Nat) (as : Exs) | callv (i : Nat) (as : Exs) | meth (a : Ex) (m : Str) (as : Exs) | make (c : Nat) (as : Exs)
  | bi (b : Bi) (as : Exs) | isT (a : Ex) (ts : Exs) | ty (T : String) | trg (r : Rx)
  | gf (i : Nat) | gc (c : Nat) | isC (a : Ex) (c : Nat) | eqI (n : Bool) (a b : Ex)
inductive Exs where
  | nil | cons (a : Ex) (as : Exs)
inductive Ox where
  | no | ex (a : Ex)
inductive Lx where
  | lst (as : Exs) | bl (b : Bl) (as : Exs) | rg (r : Rx) | lc (elt : Ex) (tg : Tg) (it : Ix) (cond : Ox)
inductive Rx where
  | r1 (a : Ex) | r2 (a b : Ex)
inductive Ix where
  | any (a : Ex) | rg (r : Rx) | enum (a : Ex)
end
/-! ### worth -/
def bopS : Bop → D → D → Option D
  | .add => orS addI addT
  | .sub => subI
  | .mul => orS mulI repS
  | .fdiv => divI
  | .mod => modI
  | .pow => powI
def bopO : Bop → Operator
  | .add => .Add
  | .sub => .Sub
  | .mul => .Mult
  | .fdiv => .FloorDiv
  | .mod => .Mod
  | .pow => .Pow
def cmpS : CmpOp → D → D → Option D
  | .Eq => eqS false
  | .NotEq => eqS true
  | .Lt => orS (intS (fun _ _ => true) fun i j => .bl (decide (i < j))) (ordS false false)
  | .LtE => orS (intS (fun _ _ => true) fun i j => .bl (decide (i ≤ j))) (ordS true true)
  | .Gt => orS (intS (fun _ _ => true) fun i j => .bl (decide (j < i))) (ordS true false)
  | .GtE => orS (intS (fun _ _ => true) fun i j => .bl (decide (j ≤ i))) (ordS false true)
  | .Is => isNS false
  | .IsNot => isNS true
  | .In => orS (inS false) (inT false)
  | .NotIn => orS (inS true) (inT true)
def biN : Bi → Str
  | .len => "len"
  | .abs => "abs"
  | .max => "max"
  | .min => "min"
  | .sum => "sum"
  | .any => "any"
  | .all => "all"
  | .int => "int"
  | .str => "str"
  | .repr => "repr"
  | .tuple => "tuple"
  | .isinst => "isinstance"
def biV : Bi → Value
  | .len => .builtin "len"
  | .abs => .builtin "abs"
  | .max => .builtin "max"
  | .min => .builtin "min"
  | .sum => .builtin "sum"
  | .any => .builtin "any"
  | .all => .builtin "all"
  | .int => .type "int"
  | .str => .type "str"
  | .repr => .builtin "repr"
  | .tuple => .type "tuple"
  | .isinst => .builtin "isinstance"
/-- asks that no error is in hand -/
def biC : Bi → Bool
  | .max => true
  | .min => true
  | .sum => true
  | .any => true
  | .all => true
  | _ => false
def biS (scr : List Int) : Bi → List D → Option D
  | .len => orM lenD (lenS scr)
  | .abs => absD
  | .max => orM (int2D fun i j => if j > i then j else i) (orM (onInts maxI) (orM (onIntsT maxI) (orM (int3D fun i j => if j > i then j else i) (onDat maxF))))
  | .min => orM (int2D fun i j => if j < i then j else i) (orM (onInts minI) (orM (onIntsT minI) (orM (int3D fun i j => if j < i then j else i) (onDat minF))))
  | .sum => onInts fun ns => some ns.sum
  | .any => onBls fun bs => bs.any id
  | .all => onBls fun bs => bs.all id
  | .int => intD
  | .str => orM strD strS
  | .repr => reprD
  | .tuple => tupleD
  | .isinst => isiD
def blN : Bl → Str
  | .list => "list"
  | .sorted => "sorted"
def blV : Bl → Value
  | .list => .type "list"
  | .sorted => .builtin "sorted"
def blS : Bl → List D → Option (List D)
  | .list => listDL
  | .sorted => orM sortedD sortedDD
def negD : D → Option D
  | .int i => some (.int (-i))
  | _ => none
def notD : D → Option D
  | .bl i => some (.bl (!i))
  | _ => none
def fldX (flds : Nat → List Str) (f : Str) : D → Option D
  | .ins c ds => if f ∈ flds c then ds.lookup f else none
  | _ => none
def mtX (mts : Nat → Str → Option Nat) (m : Str) : D → Option Nat
  | .ins c fs => if fs.lookup m = none then mts c m else none
  | _ => none
def exX (xn : Nat → List Str) (ρ : Env) (i : Nat) (f : Str) : Option D := match ρ[i]? with
  | some (.ex c fs) => ((xn c).zip fs).lookup f
  | _ => none
def optI : D → Option (Option Int)
  | .int i => some (some i)
  | _ => none
def makeX (T : Tab) (c : Nat) (ds : List D) : M D := match T.mak c with
  | some (n, f) => makeN c n f ds
  | none => fun _ => .stuck
mutual
def evE (T : Tab) : Ex → Env → M D
  | .v i, ρ => lft (envV ρ i)
  | .o i, ρ => lft (envO ρ i)
  | .gv k, _ => M.ret (T.con k)
  | .non, _ => M.ret .non
  | .bl b, _ => M.ret (.bl b)
  | .int i, _ => M.ret (.int i)
  | .str s, _ => M.ret (.str s)
  | .neg a, ρ => M.bind (evE T a ρ) fun x => lft (negD x)
  | .not a, ρ => M.bind (evE T a ρ) fun x => lft (notD x)
  | .bin op a b, ρ => M.bind (evE T a ρ) fun x => M.bind (evE T b ρ) fun y => lft (bopS op x y)
  | .cmp op a b, ρ => M.bind (evE T a ρ) fun x => M.bind (evE T b ρ) fun y => lft (cmpS op x y)
  | .chain op op' a b c, ρ => chainF (cmpS op) (cmpS op') (evE T a) (evE T b) (evE T c) ρ
  | .one a, ρ => evE T a ρ
  | .and a b, ρ => M.bind (evE T a ρ) fun x => M.bind (lft (blD x)) fun c => if c = true then evE T b ρ else M.ret (.bl false)
  | .or a b, ρ => M.bind (evE T a ρ) fun x => M.bind (lft (blD x)) fun c => if c = true then M.ret (.bl true) else evE T b ρ
  | .ite c a b, ρ => M.bind (M.bind (evE T c ρ) fun x => lft (blD x)) fun c => if c = true then evE T a ρ else evE T b ρ
  | .tup as, ρ => M.bind (evEs T as ρ) fun r => lft (if r.length ≤ sizeLine then some (.tup r) else none)
  | .ow l, ρ => (evL T l ρ).lst
  | .ix a b, ρ => M.bind (evE T a ρ) fun x => M.bind (evE T b ρ) fun y => ixS T.scr x y
  | .sl a l h, ρ => M.bind (evE T a ρ) fun x => M.bind (evO T l ρ) fun l => M.bind (evO T h ρ) fun h => lft (slS x l h)
  | .fld a f, ρ => M.bind (evE T a ρ) fun x => lft (fldX T.flds f x)
  | .exf i f, ρ => lft (exX T.xn ρ i f)
  | .call i as, ρ => M.bind (evEs T as ρ) fun ds => callN (T.nps i) (T.call i) ds
  | .callv i as, ρ => M.bind (lft (envF ρ i)) fun j => M.bind (evEs T as ρ) fun ds => callN (T.nps j) (T.call j) ds
  | .meth a m as, ρ => M.bind (evE T a ρ) fun o => M.bind (lft (mtX T.mts m o)) fun j => M.bind (evEs T as ρ) fun ds => callN (T.nps j) (T.call j) (o :: ds)
  | .make c as, ρ => M.bind (evEs T as ρ) fun ds => makeX T c ds
  | .bi b as, ρ => M.bind (evEs T as ρ) fun ds => lft (biS T.scr b ds)
  | .isT a ts, ρ => M.bind (evE T a ρ) fun d => M.bind (evEs T ts ρ) fun ds => M.bind (szM ds) fun ds => lft (isiT d ds)
  | .ty t, _ => M.ret (.ty t)
  | .trg r, ρ => M.bind (evR T r ρ) fun v => M.bind (lft (rngL v)) fun ds => M.ret (.tup ds)
  | .gf i, _ => M.ret (.fn i)
  | .gc c, _ => M.ret (.cls c)
  | .isC a c, ρ => M.bind (evE T a ρ) fun x => lft (isCd T.kit c x)
  | .eqI n a b, ρ => M.bind (evE T a ρ) fun x => M.bind (evE T b ρ) fun y => ownM T.mts T.kit T.nps T.call n x y
def evEs (T : Tab) : Exs → Env → M (List D)
  | .nil, _ => M.ret []
  | .cons a as, ρ => M.bind (evE T a ρ) fun x => M.bind (evEs T as ρ) fun r => M.ret (x :: r)
def evO (T : Tab) : Ox → Env → M (Option Int)
  | .no, _ => M.ret none
  | .ex a, ρ => M.bind (evE T a ρ) fun x => lft (optI x)
def evC (T : Tab) : Ox → Env → M Bool
  | .no, _ => M.ret true
  | .ex a, ρ => M.bind (evE T a ρ) fun x => lft (blD x)
def evL (T : Tab) : Lx → Env → M (List D)
  | .lst as, ρ => M.bind (evEs T as ρ) szM
  | .bl b as, ρ => M.bind (evEs T as ρ) fun ds => lft (blS b ds)
  | .rg r, ρ => M.bind (evR T r ρ) fun v => lft (rngL v)
  | .lc elt tg it cond, ρ => M.bind (evI T it ρ) fun ds => M.bind (szM ds) fun ds => compM tg.bind (evC T cond) (evE T elt) (wipeE ρ tg.slots) ds
def evR (T : Tab) : Rx → Env → M (Int × Int)
  | .r1 a, ρ => M.bind (evE T a ρ) fun x => M.bind (lft (toI x)) fun n => M.ret (0, n)
  | .r2 a b, ρ => M.bind (evE T a ρ) fun x => M.bind (evE T b ρ) fun y => M.bind (lft (toI x)) fun n => M.bind (lft (toI y)) fun m => M.ret (n, m)
def evI (T : Tab) : Ix → Env → M (List D)
  | .any a, ρ => M.bind (evE T a ρ) fun x => lft (itemsD x)
  | .rg (.r1 a), ρ => M.bind (evE T a ρ) fun x => lft (rng1 x)
  | .rg (.r2 a b), ρ => M.bind (evE T a ρ) fun x => M.bind (evE T b ρ) fun y => lft (rng2 x y)
  | .enum a, ρ => M.bind (evE T a ρ) fun x => M.bind (lft (listD x)) fun ds => M.ret (enumD 0 ds)
end
def evT (T : Tab) (a : Ex) (ρ : Env) : M Bool := M.bind (evE T a ρ) fun x => lft (blD x)
end DS

set_option Elab.async false
set_option linter.all false
set_option maxRecDepth 100000
set_option maxHeartbeats 4000000
/-! DS, part 12: the check of expressions against the text, and why it is enough -/
namespace DS
open PySem L2
def gate (m : Md) (e : Expr) : Bool := m != .t || plainT e
def visB (sc : Scope) (x : Str) : Bool := sc.names.lookup x == some .local || sc.names.lookup x == some .cell || sc.names.lookup x == some .free
def okName (x : Str) : Bool := !(x == ("__debug__" : Str)) && !(x == ("__classdict__" : Str)) && !(x == ("__name__" : Str))
def isV (z : Z) (i : Nat) (x : Str) : Bool := z.N[i]? == some x && visB z.sc x && okName x
def isG (z : Z) (x : Str) (k : Gk) : Bool := z.sc.names.lookup x == some .globalImplicit && z.gm.lookup x == some k && okName x
/-- a name that may be stored -/
def isL (z : Z) (i : Nat) (x : Str) : Bool := z.N[i]? == some x && (z.sc.names.lookup x == some .local || (z.sc.names.lookup x == some .cell && (match z.asg with
  | none => true
  | some s => s.names.lookup x == some .cell)))
def okTs (z : Z) : List Nat → List Expr → Bool
  | [], [] => true
  | i :: is, .Name x _ :: es => isL z i x && okTs z is es
  | _, _ => false
def okT (z : Z) : Tg → Expr → Bool
  | .one i, .Name x _ => isL z i x
  | .many is, .Tuple es _ _ => z.calm && okTs z is es
  | _, _ => false
/-- the scope of a comprehension as it is laid -/
def relS (sc scope : Scope) : Scope := { scope with names := scope.names.map fun (n, k) => if (k == .free && sc.kind == .function && sc.names.lookup n == some .cell) then (n, .cell) else (n, k) }
def Z.blk (z : Z) (scope : Scope) : Z := { z with sc := relS z.sc scope, asg := some scope }
def ownOf (N : List Str) (is : List Nat) : List (Str × Nat) := is.filterMap fun i => (N[i]?).map fun x => (x, i)
def blkB (N : List Str) (sc scope : Scope) (is : List Nat) : Bool :=
  decide (scope.kind = .function) && decide (∀ y ∈ scope.names, scope.names.lookup y.1 = some y.2) && decide ((ownOf N is).map (·.2) = is) && decide (∀ p ∈ ownOf N is, N[p.2]? = some p.1) &&
  decide (∀ y ∈ scope.names, y.2 = .free → sc.names.lookup y.1 = some .cell ∨ sc.names.lookup y.1 = some .free) && decide (∀ y ∈ scope.names, y.2 = .local ∨ y.2 = .cell → y.1 ∈ (ownOf N is).map (·.1) ∨ y.1 ∉ N)
mutual
def okE (z : Z) : Md → Ex → Expr → Bool
  | m, .v i, e => (match e with | .Name x _ => isV z i x | _ => false)
  | m, .o i, e => m != .s && (match e with | .Name x _ => isV z i x | _ => false)
  | m, .gv k, e => (match e with | .Name x _ => isG z x (.con k) | _ => false)
  | m, .non, e => (match e with | .Constant .none _ _ => true | _ => false)
  | m, .bl b, e => (match e with | .Constant (.bool c) _ _ => b == c | _ => false)
  | m, .int i, e => (match e with | .Constant (.int j) _ _ => i == j | _ => false)
  | m, .str s, e => (match e with | .Constant (.str t) _ _ => s == t | _ => false)
  | m, .neg a, e => (match e with | .UnaryOp .USub x _ => okE z .r a x | _ => false)
  | m, .not a, e => (match e with | .UnaryOp .Not x _ => okE z (if m = .t then .t else .r) a x | _ => false)
  | m, .bin op a b, e => (match e with | .BinOp x o y _ => bopO op == o && okE z .r a x && okE z .r b y | _ => false)
  | m, .cmp op a b, e => (match e with | .Compare x [o] [y] _ => op == o && nset y && okE z .r a x && okE z .r b y | _ => false)
  | m, .chain op op' a b c, e => (match e with | .Compare x [o, o'] [y, w] _ => op == o && op' == o' && nset w && okE z .r a x && okE z .r b y && okE z .r c w | _ => false)
  | m, .one a, e => (match e with | .BoolOp _ [x] _ => okE z (if m = .t then .t else .s) a x | _ => false)
  | m, .and a b, e => (match e with | .BoolOp .And (x :: y :: r) p => okE z (if m = .t then .t else .r) a x && okE z (if m = .t then .t else .s) b (.BoolOp .And (y :: r) p) && (match b with | .one _ => true | .and _ _ => true | _ => false) | _ => false)
  | m, .or a b, e => (match e with | .BoolOp .Or (x :: y :: r) p => okE z (if m = .t then .t else .r) a x && okE z (if m = .t then .t else .s) b (.BoolOp .Or (y :: r) p) && (match b with | .one _ => true | .or _ _ => true | _ => false) | _ => false)
  | m, .ite c a b, e => m != .t && (match e with | .IfExp x y w _ => okE z .t c x && okE z .s a y && okE z .s b w | _ => false)
  | m, .tup as, e => (match e with | .Tuple es _ _ => okEs z .s as es | _ => false) && gate m e
  | m, .ow l, e => okL z l e && gate m e
  | m, .ix a b, e => (match e with | .Subscript x y _ => nslice y && okE z .r a x && okE z .r b y | _ => false)
  | m, .sl a l h, e => (match e with | .Subscript x (.Slice lo hi none _) _ => okE z .r a x && okO z l lo && okO z h hi | _ => false)
  | m, .fld a f, e => (match e with | .Attribute x g _ => f == g && ncall x && okE z .r a x | _ => false)
  | m, .exf i f, e => (match e with | .Attribute (.Name x _) g _ => f == g && isV z i x && !z.calm | _ => false)
  | m, .call i as, e => (match e with | .Call (.Name x _) es [] _ => z.calm && isG z x (.fn i) && okEs z .s as es | _ => false)
  | m, .callv i as, e => (match e with | .Call (.Name x _) (y :: es) [] _ => z.calm && isV z i x && okEs z .s as (y :: es) | _ => false)
  | m, .meth a n as, e => (match e with | .Call (.Attribute x n' ap) es [] p => z.calm && n == n' && ncall x && ap.endLine == p.line && decide (es.length < 30) && okE z .s a x && okEs z .s as es | _ => false)
  | m, .make c as, e => (match e with | .Call (.Name x _) (y :: es) [] _ => z.calm && isG z x (.cl c) && okEs z .s as (y :: es) | _ => false)
  | m, .bi b as, e => (match e with | .Call (.Name x _) (y :: es) [] _ => x == biN b && (!biC b || z.calm) && isG z x .non && okEs z .r as (y :: es) | _ => false)
  | m, .isT a ts, e => (match e with | .Call (.Name x _) [y, .Tuple ws _ _] [] _ => x == ("isinstance" : Str) && isG z x .non && nst y && okE z .r a y && okEs z .s ts ws | _ => false)
  | m, .ty t, e => (match e with | .Name x _ => isG z x .non && decide (bootBuiltins x = some (.type t)) | _ => false)
  | m, .trg r, e => (match e with | .Call (.Name x _) [y] [] _ => z.calm && x == ("tuple" : Str) && isG z x .non && nst y && okRx z r y | _ => false)
  | m, .gf i, e => (match e with | .Name x _ => isG z x (.fn i) | _ => false)
  | m, .gc c, e => (match e with | .Name x _ => isG z x (.cl c) | _ => false)
  | m, .isC a c, e => (match e with | .Call (.Name x _) [y, .Name w _] [] _ => x == ("isinstance" : Str) && isG z x .non && nst y && okE z .r a y && isG z w (.cl c) | _ => false)
  | m, .eqI n a b, e => (match e with | .Compare x [o] [y] _ => z.calm && eqO n == o && nset y && okE z .s a x && okE z .s b y | _ => false)
def okEs (z : Z) : Md → Exs → List Expr → Bool
  | m, .nil, es => (match es with | [] => true | _ => false)
  | m, .cons a as, es => (match es with | x :: xs => nst x && okE z m a x && okEs z m as xs | _ => false)
def okO (z : Z) : Ox → Option Expr → Bool
  | .no, e => (match e with | none => true | _ => false)
  | .ex a, e => (match e with | some x => okE z .r a x | _ => false)
def okC (z : Z) : Ox → List Expr → Bool
  | .no, e => (match e with | [] => true | _ => false)
  | .ex a, e => (match e with | [x] => okE z .t a x | _ => false)
def okL (z : Z) : Lx → Expr → Bool
  | .lst as, e => (match e with | .List es _ => okEs z .s as es | _ => false)
  | .bl b as, e => (match e with | .Call (.Name x _) (y :: es) [] _ => x == blN b && isG z x .non && okEs z .r as (y :: es) | _ => false)
  | .rg r, e => (match e with | .Call (.Name x _) [y] [] _ => z.calm && x == ("list" : Str) && isG z x .non && nst y && okRx z r y | _ => false)
  | .lc elt tg it cond, e => (match e with | .ListComp x [⟨g, i, ifs, 0⟩] scope _ => z.calm && nset i && blkB z.N z.sc scope tg.slots && okT (z.blk scope) tg g && okI z .r it g i && okC (z.blk scope) cond ifs && okE (z.blk scope) .s elt x | _ => false)
def okRx (z : Z) : Rx → Expr → Bool
  | .r1 a, e => (match e with | .Call (.Name x _) [y] [] _ => x == ("range" : Str) && isG z x .non && nst y && okE z .r a y | _ => false)
  | .r2 a b, e => (match e with | .Call (.Name x _) [y, w] [] _ => x == ("range" : Str) && isG z x .non && nst y && nst w && okE z .r a y && okE z .r b w | _ => false)
def okI (z : Z) : Md → Ix → Expr → Expr → Bool
  | m, .any a, g, e => okE z (if m = .r then .r else .s) a e
  | m, .rg (.r1 a), g, e => (match e with | .Call (.Name x _) [y] [] _ => x == ("range" : Str) && isG z x .non && nst y && okE z .r a y | _ => false)
  | m, .rg (.r2 a b), g, e => (match e with | .Call (.Name x _) [y, w] [] _ => x == ("range" : Str) && isG z x .non && nst y && nst w && okE z .r a y && okE z .r b w | _ => false)
  | m, .enum a, g, e => (match g with | .Tuple _ _ _ => true | _ => false) && (match e with | .Call (.Name x _) [y] [] _ => x == ("enumerate" : Str) && isG z x .non && nst y && okE z .s a y | _ => false)
end
/-- what a name of the module stands for -/
def GkOk (C : Cfg) (T : Tab) (X : Cx) (x : Str) : Gk → Prop
  | .fn i => X.mg x = some (.ref (C.fad i))
  | .cl c => X.mg x = some (.ref (C.cad c)) ∧ ∃ v, T.mak c = some v
  | .er c => X.mg x = some (.ref (C.cad c)) ∧ ∃ fl fI, PySem.ErX.ErrTxt X.prog X.K X.mg x fl (C.cad c) fI ∧ T.xn c = [fl]
  | .non => X.mg x = none
  | .con k => ∃ u v, X.mg x = some u ∧ RelV v u ∧ ∀ F, Dv C F v (T.con k)
/-- what must hold of a body's context -/
structure XE (C : Cfg) (T : Tab) (z : Z) (X : Cx) (W : WX) : Prop where
  hK : X.K = C.K
  hN : X.N = z.N
  nd : z.N.Nodup
  sc : X.env.scope = z.sc
  gm : ∀ x k, z.gm.lookup x = some k → GkOk C T X x k
  asg : match z.asg with
    | none => ∀ x, X.fn x = true
    | some s => ∀ x, s.names.lookup x = some .cell → X.fn x = true
  calm : X.calm = z.calm
  gd : X.A.guards = some []
  un : X.A.units + 100 < cLine
  fx : Fx C
  scr : C.scr = T.scr
  mts : C.mts = T.mts
  flds : C.flds = T.flds
  kit : C.kit = T.kit
  xn : C.xn = T.xn
  tk : Takes X W
  cal : z.calm = true → ∃ k, RoomG (k + 1) X.A ∧ (∀ i, FnOf C X k i (T.nps i) (T.call i)) ∧ ∀ c n f, T.mak c = some (n, f) → ∃ i, InOf C X k c i n f
  exf : z.calm = false → ∃ X0 ad oe cl dd pn, X = Cx.suite X0 ad ((ad, oe) :: pn) ∧ C.xa = some (ad, .ref (C.cad cl), dd) ∧ Zc (.ref (C.cad cl)) (some dd) oe ∧ (∃ vs, oe.data = .fields vs)
  erf : ∀ c f, f ∈ C.xn c → XfC C.K (C.cad c) ∧ PySem.W.findIn C.K (.ref (C.cad c)) f = some none
  eri : ∀ c c', C.cad c = C.cad c' → C.xn c = C.xn c'
theorem okName_ok {x : Str} (h : okName x = true) : (x == ("__debug__" : Str)) = false ∧ (x == ("__classdict__" : Str)) = false ∧ x ≠ "__name__" := by
  unfold okName at h
  simp only [Bool.and_eq_true, Bool.not_eq_true'] at h
  obtain ⟨⟨h1, h2⟩, h3⟩ := h
  exact ⟨h1, h2, fun e => by rw [e] at h3; exact absurd h3 (by decide)⟩
section
variable {C : Cfg} {T : Tab} {z : Z} {X : Cx} {W : WX} {x : Str} {i : Nat}
theorem XE.isV (E : XE C T z X W) (h : isV z i x = true) : X.N[i]? = some x ∧ Vis X.env.scope x ∧ (x == ("__debug__" : Str)) = false ∧ (x == ("__classdict__" : Str)) = false := by
  unfold DS.isV visB at h
  simp only [Bool.and_eq_true, Bool.or_eq_true, beq_iff_eq] at h
  obtain ⟨⟨h1, h2⟩, h3⟩ := h
  obtain ⟨n1, n2, n3⟩ := okName_ok h3
  exact ⟨by rw [E.hN]; exact h1, by rw [E.sc]; exact h2.elim (fun h => h.elim .inl fun h => .inr (.inl h)) fun h => .inr (.inr h), n1, n2⟩
theorem XE.isG (E : XE C T z X W) {k : Gk} (h : isG z x k = true) : Gl X x ∧ GkOk C T X x k ∧ (x == ("__debug__" : Str)) = false ∧ x ≠ "__name__" := by
  unfold DS.isG at h
  simp only [Bool.and_eq_true, beq_iff_eq] at h
  obtain ⟨⟨h1, h2⟩, h3⟩ := h
  obtain ⟨n1, n2, n3⟩ := okName_ok h3
  refine ⟨?_, E.gm x k h2, n1, n3⟩
  show X.env.scope.names.lookup x = some .globalImplicit
  rw [E.sc]; exact h1
theorem XE.isL (E : XE C T z X W) (h : isL z i x = true) : X.N[i]? = some x ∧ Loc X.env.scope x ∧ (X.fn x = true ∨ X.env.scope.names.lookup x = some .local) := by
  unfold DS.isL at h
  simp only [Bool.and_eq_true, Bool.or_eq_true, beq_iff_eq] at h
  obtain ⟨h1, h2⟩ := h
  refine ⟨by rw [E.hN]; exact h1, ?_, ?_⟩
  · rw [E.sc]; exact h2.elim .inl fun h => .inr h.1
  · rcases h2 with h | ⟨h, hx⟩
    · exact .inr (by rw [E.sc]; exact h)
    · refine .inl ?_
      have a := E.asg
      cases q : z.asg with
      | none => rw [q] at a; exact a x
      | some s => rw [q] at a hx; exact a x (by simpa using hx)
theorem XE.ndX (E : XE C T z X W) : X.N.Nodup := by rw [E.hN]; exact E.nd
theorem XE.sgs (E : XE C T z X W) : ∀ {is : List Nat} {es : List Expr}, okTs z is es = true → SGs C X es is ∧ es.length = is.length ∧ es.all nst = true
  | [], [], _ => ⟨sgs_nil, rfl, rfl⟩
  | [], _ :: _, h => by cases h
  | _ :: _, [], h => by cases h
  | i :: is, e :: es, h => by
    cases e with
    | Name x p =>
      unfold okTs at h
      rw [Bool.and_eq_true] at h
      obtain ⟨g, hl, ha⟩ := XE.sgs E (is := is) (es := es) h.2
      obtain ⟨h1, h2, h3⟩ := E.isL h.1
      exact ⟨sgs_cons E.ndX h1 h2 h3 g (assign_cons rfl), by simp [hl], by rw [List.all_cons, ha]; rfl⟩
    | _ => cases h
theorem XE.sg (E : XE C T z X W) {t : Tg} {e : Expr} (h : okT z t e = true) : SG C X e t ∧ nst e = true := by
  cases t with
  | one i =>
    cases e with
    | Name x p => obtain ⟨h1, h2, h3⟩ := E.isL h; exact ⟨sg_one E.ndX h1 h2 h3, rfl⟩
    | _ => cases h
  | many is =>
    cases e with
    | Tuple es k p =>
      unfold okT at h
      rw [Bool.and_eq_true] at h
      obtain ⟨g, hl, ha⟩ := E.sgs h.2
      exact ⟨sg_many E.hK (by rw [E.calm]; exact h.1) g (by rw [assign_len]; exact hl) (assign_nst es ha), rfl⟩
    | _ => cases h
theorem XE.blk (E : XE C T z X W) (hc : z.calm = true) {scope : Scope} (s : Shared) (H : Hp) (Ca : Addr) (cl : List (Str × Addr)) (fp : List Addr) : XE C T (z.blk scope) (X.blk s H scope (compEnvC scope cl Ca X.env) fp) WF where
  hK := E.hK
  hN := E.hN
  nd := E.nd
  sc := by
    show relabel scope X.env = relS z.sc scope
    rw [← E.sc]
    rfl
  gm := fun x k h => by
    have := E.gm x k h
    cases k <;> exact this
  asg := fun x h => by
    show (scope.names.lookup x == some .cell) = true
    rw [h]; rfl
  calm := E.calm
  gd := E.gd
  un := E.un
  fx := E.fx
  scr := E.scr
  mts := E.mts
  flds := E.flds
  kit := E.kit
  xn := E.xn
  tk := takes0
  cal := fun h => by
    obtain ⟨k, r, f, m⟩ := E.cal h
    exact ⟨k, r, fun i => ⟨(f i).ex, (f i).kp⟩, fun c n g q => by obtain ⟨i, w⟩ := m c n g q; exact ⟨i, w.ex, w.ini⟩⟩
  exf := fun h => by
    have : z.calm = false := h
    rw [hc] at this; cases this
  erf := E.erf
  eri := E.eri
end
end DS

set_option Elab.async false
set_option linter.all false
set_option maxRecDepth 100000
set_option maxHeartbeats 4000000
/-! DS, part 13: a checked expression is worth what its term says -/
namespace DS
open PySem L2
def bo : Ex → Bool
  | .one _ => true
  | .and _ _ => true
  | .or _ _ => true
  | _ => false
def Sm (C : Cfg) (X : Cx) (W : WX) (T : Tab) (m : Md) (a : Ex) (e : Expr) : Prop :=
  match m with
  | .s => SE C X W e (evE T a)
  | .r => SR C X W e (evE T a)
  | .t => ST C X W e (evT T a) ∧ (bo a = true → SW C X W e (evT T a))
def Sms (C : Cfg) (X : Cx) (W : WX) (T : Tab) (m : Md) (as : Exs) (es : List Expr) : Prop :=
  match m with
  | .s => SA C X W es (evEs T as)
  | .r => SAr C X W es (evEs T as)
  | .t => True
theorem bind_assoc {α β γ : Type} (m : M α) (f : α → M β) (k : β → M γ) : M.bind (M.bind m f) k = M.bind m fun x => M.bind (f x) k := by
  funext g
  unfold M.bind
  cases m g <;> rfl
theorem lft_bind {α β : Type} (a : α) (k : α → M β) : M.bind (lft (some a)) k = k a := rfl
theorem none_bind {α β : Type} (k : α → M β) : M.bind (lft (none : Option α)) k = fun _ => .stuck := rfl
theorem ret_bind {α β : Type} (a : α) (k : α → M β) : M.bind (M.ret a) k = k a := rfl
section
variable {C : Cfg} {T : Tab} {z : Z} {X : Cx} {W : WX} {x : Str} {i : Nat} {m : Md} {a b : Ex} {e : Expr}
theorem gate_p (h : plainT e = true) : gate m e = true := by unfold gate; rw [h]; simp
theorem Sm.of (h : SE C X W e (evE T a)) (g : gate m e = true) (nb : bo a = false) : Sm C X W T m a e := by
  cases m with
  | s => exact h
  | r => exact h.read
  | t =>
    have hp : plainT e = true := by simpa [gate] using g
    exact ⟨st_val h.read (plain_true hp), fun q => by rw [nb] at q; cases q⟩
theorem Sm.r (h : Sm C X W T .s a e) : Sm C X W T .r a e := SE.read h
theorem bopD (E : XE C T z X W) (op : Bop) : OpD C X (binaryOp (bopO op)) (bopS op) := by
  cases op with
  | add => exact opD_addI.or (opD_addT E.hK)
  | sub => exact opD_subI
  | mul => exact opD_mulI.or (opD_rep E.hK)
  | fdiv => exact opD_divI
  | mod => exact opD_modI
  | pow => exact opD_powI
theorem cmpD (E : XE C T z X W) (op : CmpOp) : OpD C X (compareOp op) (cmpS op) := by
  have u := E.un
  cases op with
  | Eq => exact opD_eq E.hK (by omega)
  | NotEq => exact opD_ne E.hK (by omega)
  | Lt => exact opD_lt.or (opD_ord E.hK (op_ltR u))
  | LtE => exact opD_le.or (opD_ord E.hK (op_leR u))
  | Gt => exact opD_gt.or (opD_ord E.hK (op_gtR u))
  | GtE => exact opD_ge.or (opD_ord E.hK (op_geR u))
  | Is => exact opD_isN
  | IsNot => exact opD_notN
  | In => exact (opD_in E.hK (by omega)).or (opD_inT (n := false) E.hK u)
  | NotIn => exact (opD_notin E.hK (by omega)).or (opD_inT (n := true) E.hK u)
theorem biD (E : XE C T z X W) (k : Bi) (hc : biC k = true → z.calm = true) : BR C X (biV k) (biS T.scr k) := by
  have u := E.un
  have cal : biC k = true → X.calm = true := fun h => by rw [E.calm]; exact hc h
  cases k with
  | len => rw [← E.scr]; exact (br_len E.hK).or (br_lenS E.hK)
  | abs => exact br_abs
  | max => exact (br_max2 (cal rfl)).or ((br_max (cal rfl)).or ((br_maxT E.hK (cal rfl) u).or ((br_max3 (cal rfl)).or (br_maxD E.hK (cal rfl) u))))
  | min => exact (br_min2 (cal rfl)).or ((br_min (cal rfl)).or ((br_minT E.hK (cal rfl) u).or ((br_min3 (cal rfl)).or (br_minD E.hK (cal rfl) u))))
  | sum => exact br_sum (cal rfl)
  | any => exact br_any (cal rfl)
  | all => exact br_all (cal rfl)
  | int => exact br_int
  | str => exact br_str.or br_strS
  | repr => exact br_repr E.hK E.gd (by omega)
  | tuple => exact br_tuple E.hK
  | isinst => exact br_isi E.hK
theorem biBN (k : Bi) : BN (biN k) (biV k) := by
  cases k with
  | len => exact .fn _ (by decide +kernel)
  | abs => exact .fn _ (by decide +kernel)
  | max => exact .fn _ (by decide +kernel)
  | min => exact .fn _ (by decide +kernel)
  | sum => exact .fn _ (by decide +kernel)
  | any => exact .fn _ (by decide +kernel)
  | all => exact .fn _ (by decide +kernel)
  | int => exact .ty _ (by decide +kernel)
  | str => exact .ty _ (by decide +kernel)
  | repr => exact .fn _ (by decide +kernel)
  | tuple => exact .ty _ (by decide +kernel)
  | isinst => exact .fn _ (by decide +kernel)
theorem blD' (E : XE C T z X W) (k : Bl) : BL C X (blV k) (blS k) := by
  cases k with
  | list => exact bl_list E.hK
  | sorted => exact (bl_sorted E.hK).or (bl_sortD E.hK E.un)
theorem blBN (k : Bl) : BN (blN k) (blV k) := by
  cases k with
  | list => exact .ty _ (by decide +kernel)
  | sorted => exact .fn _ (by decide +kernel)
theorem fldX_eq (f : Str) : fldS C f = fldX C.flds f := by funext d; cases d <;> rfl
theorem mtX_eq (m : Str) : mtD C m = mtX C.mts m := by funext d; cases d <;> rfl
theorem exX_eq (ρ : Env) (i : Nat) (f : Str) : exF C ρ i f = exX C.xn ρ i f := by
  unfold exF exX
  cases ρ[i]? with
  | none => rfl
  | some s => cases s <;> rfl
/-- a call with no arguments -/
theorem se_call0' {k n : Nat} {f : List D → M D} {pos p : Pos} (Fn : FnOf C X k i n f) (hr : RoomG k X.A) (tk : Takes X W) (hg : Gl X x) (hm : X.mg x = some (.ref (C.fad i)))
    (hdb : (x == ("__debug__" : Str)) = false) : SE C X W (.Call (.Name x p) [] [] pos) (fun _ => callN n f []) := by
  cases n with
  | zero =>
    have h := se_call0 (pos := pos) (p := p) Fn hr tk hg hm hdb
    have e : (fun _ : Env => callN 0 f []) = fun _ => f [] := by funext _; unfold callN; exact if_pos rfl
    rw [e]
    exact h
  | succ n => exact ⟨fun _ _ _ => False, ⟨fun _ _ _ _ _ _ h => h.elim⟩, fun σ F H ρ g Q s hw => by have hw : Want C W σ F H (relD C) (callN (n + 1) f [] g) Q := hw; unfold callN at hw; rw [if_neg (by simp)] at hw; exact hw.elim⟩
theorem blk_ok (E : XE C T z X W) {scope : Scope} {is : List Nat} (h : blkB z.N z.sc scope is = true) : BlkOk X.N X.env.scope scope (ownOf z.N is) ∧ (ownOf z.N is).map (·.2) = is := by
  unfold blkB at h
  simp only [Bool.and_eq_true, decide_eq_true_eq] at h
  obtain ⟨⟨⟨⟨⟨h1, h2⟩, h3⟩, h4⟩, h5⟩, h6⟩ := h
  exact ⟨⟨h1, h2, by rw [E.hN]; exact h4, by rw [E.sc]; exact h5, by rw [E.hN]; exact h6⟩, h3⟩
end
/-- a list just made: as a value, or stored in a name at once -/
def SLs (C : Cfg) (X : Cx) (W : WX) (e : Expr) (f : Env → M (List D)) : Prop :=
  ∃ t, (PE X e t ∧ ∀ (i : Nat) (y : Str) (py spos : Pos), X.N[i]? = some y → Loc X.env.scope y → (X.fn y = true ∨ X.env.scope.names.lookup y = some .local) → PS X (.Assign [.Name y py] e spos) (tAsg t (gName i))) ∧
    ∀ σ F H ρ g Q, SRe C σ F H ρ g → Want C W σ F H (relO C H) (f ρ g) Q → t σ H Q
theorem SLs.sl {C : Cfg} {X : Cx} {W : WX} {e : Expr} {f : Env → M (List D)} (h : SLs C X W e f) : SL C X W e f := let ⟨t, ⟨p, _⟩, k⟩ := h; ⟨t, p, k⟩
theorem SL.sls {C : Cfg} {X : Cx} {W : WX} {e : Expr} {f : Env → M (List D)} (h : SL C X W e f) (hN : X.N.Nodup) (hc : ncomp e = true) : SLs C X W e f := by
  obtain ⟨t, p, k⟩ := h
  exact ⟨t, ⟨p, fun i y py spos h1 h2 h3 => ps_set hN h1 h2 p (swap_no hc) h3⟩, k⟩
theorem bind_congr {α β : Type} {m : M α} {f g : α → M β} (h : ∀ x, f x = g x) : M.bind m f = M.bind m g := by rw [funext h]
section
variable {C : Cfg} {T : Tab} {X : Cx} {W : WX} {a b c : Ex}
theorem evT_not : evT T (.not a) = fun ρ => M.bind (evT T a ρ) fun x => M.ret (!x) := by
  funext ρ
  unfold evT
  rw [evE, bind_assoc, bind_assoc]
  refine bind_congr fun x => ?_
  cases x <;> rfl
theorem evT_and : evT T (.and a b) = fun ρ => M.bind (evT T a ρ) fun x => if x = true then evT T b ρ else M.ret false := by
  funext ρ
  unfold evT
  rw [evE, bind_assoc, bind_assoc]
  refine bind_congr fun x => ?_
  rw [bind_assoc]
  refine bind_congr fun c => ?_
  cases c <;> rfl
theorem evT_or : evT T (.or a b) = fun ρ => M.bind (evT T a ρ) fun x => if x = true then M.ret true else evT T b ρ := by
  funext ρ
  unfold evT
  rw [evE, bind_assoc, bind_assoc]
  refine bind_congr fun x => ?_
  rw [bind_assoc]
  refine bind_congr fun c => ?_
  cases c <;> rfl
theorem evT_one : evT T (.one a) = evT T a := by
  funext ρ
  unfold evT
  rw [evE]
theorem evT_cmp {op : CmpOp} : evT T (.cmp op a b) = fun ρ => M.bind (evE T a ρ) fun x => M.bind (evE T b ρ) fun y => M.bind (lft (cmpS op x y)) fun z => lft (blD z) := by
  funext ρ
  unfold evT
  rw [evE, bind_assoc]
  refine bind_congr fun x => ?_
  rw [bind_assoc]
theorem evT_chain {op op' : CmpOp} : evT T (.chain op op' a b c) = fun ρ => M.bind (chainF (cmpS op) (cmpS op') (evE T a) (evE T b) (evE T c) ρ) fun x => lft (blD x) := by
  funext ρ
  unfold evT
  rw [evE]
end
end DS

set_option Elab.async false
set_option linter.all false
set_option maxRecDepth 100000
set_option maxHeartbeats 4000000
/-! DS, part 14: a checked expression is worth what its term says: the induction -/
namespace DS
open PySem L2
theorem Sm.rd {C : Cfg} {X : Cx} {W : WX} {T : Tab} {a : Ex} {e : Expr} (h : Sm C X W T .r a e) : SR C X W e (evE T a) := h
theorem plain_of {P : Prop} {m : Md} {e : Expr} (h : P ∧ gate m e = true) : gate m e = true := h.2
set_option maxHeartbeats 0 in
mutual
theorem sndE (T : Tab) : ∀ (a : Ex) (C : Cfg) (z : Z) (X : Cx) (W : WX), XE C T z X W → ∀ (m : Md) (e : Expr), okE z m a e = true → Sm C X W T m a e
  | .v i, C, z, X, W, E, m, e, h => by
    unfold okE at h
    split at h
    · obtain ⟨h1, h2, h3, h4⟩ := E.isV h
      exact Sm.of (a := .v i) (se_var h1 h2 h3 h4) (gate_p rfl) rfl
    · cases h
  | .o i, C, z, X, W, E, m, e, h => by
    unfold okE at h
    rw [Bool.and_eq_true] at h
    obtain ⟨hm, h⟩ := h
    split at h
    · obtain ⟨h1, h2, h3, h4⟩ := E.isV h
      have k := sr_var (C := C) (X := X) (W := W) (pos := by assumption) h1 h2 h3 h4
      cases m with
      | s => cases hm
      | r => exact k
      | t => exact ⟨st_val k (plain_true rfl), fun q => by cases q⟩
    · cases h
  | .gv k, C, z, X, W, E, m, e, h => by
    unfold okE at h
    split at h
    · obtain ⟨h1, ⟨u, v, h2, h3, h4⟩, h5, h6⟩ := E.isG h
      exact Sm.of (a := .gv k) (se_c (pe_glob h1 h2 h3 h5) h4) (gate_p rfl) rfl
    · cases h
  | .non, C, z, X, W, E, m, e, h => by
    unfold okE at h
    split at h
    · exact Sm.of (a := .non) (se_c pe_non fun _ => .non) (gate_p rfl) rfl
    · cases h
  | .bl b, C, z, X, W, E, m, e, h => by
    unfold okE at h
    split at h
    · have h := eq_of_beq h
      subst h
      exact Sm.of (a := .bl b) (se_c pe_bl fun _ => .bl _) (gate_p rfl) rfl
    · cases h
  | .int i, C, z, X, W, E, m, e, h => by
    unfold okE at h
    split at h
    · have h := eq_of_beq h
      subst h
      exact Sm.of (a := .int i) (se_c pe_int fun _ => .int _) (gate_p rfl) rfl
    · cases h
  | .str i, C, z, X, W, E, m, e, h => by
    unfold okE at h
    split at h
    · have h := eq_of_beq h
      subst h
      exact Sm.of (a := .str i) (se_c pe_str fun _ => .str _) (gate_p rfl) rfl
    · cases h
  | .neg a, C, z, X, W, E, m, e, h => by
    unfold okE at h
    split at h
    · have k : SR C X W _ (evE T a) := sndE T a C z X W E .r _ h
      have w := se_neg (pos := by assumption) k
      refine Sm.of (a := .neg a) ?_ (gate_p rfl) rfl
      have e1 : evE T (.neg a) = fun ρ => M.bind (evE T a ρ) fun x => lft (match x with | .int i => some (.int (-i)) | _ => none) := by
        funext ρ
        rw [evE]
        refine bind_congr fun x => ?_
        cases x <;> rfl
      rw [e1]
      exact w
    · cases h
  | .not a, C, z, X, W, E, m, e, h => by
    unfold okE at h
    split at h
    · cases m with
      | t =>
        have k := (sndE T a C z X W E .t _ h).1
        refine ⟨?_, fun q => by cases q⟩
        rw [evT_not]
        exact st_not k
      | s =>
        have k : SR C X W _ (evE T a) := sndE T a C z X W E .r _ h
        have e1 : evE T (.not a) = fun ρ => M.bind (evE T a ρ) fun x => lft (match x with | .bl i => some (.bl (!i)) | _ => none) := by
          funext ρ
          rw [evE]
          refine bind_congr fun x => ?_
          cases x <;> rfl
        show SE C X W _ _
        rw [e1]
        exact se_not k
      | r =>
        have k : SR C X W _ (evE T a) := sndE T a C z X W E .r _ h
        have e1 : evE T (.not a) = fun ρ => M.bind (evE T a ρ) fun x => lft (match x with | .bl i => some (.bl (!i)) | _ => none) := by
          funext ρ
          rw [evE]
          refine bind_congr fun x => ?_
          cases x <;> rfl
        show SR C X W _ _
        rw [e1]
        exact SE.read (se_not k)
    · cases h
  | .bin op a b, C, z, X, W, E, m, e, h => by
    unfold okE at h
    split at h
    · simp only [Bool.and_eq_true, beq_iff_eq] at h
      obtain ⟨⟨h1, h2⟩, h3⟩ := h
      subst h1
      have k1 : SR C X W _ (evE T a) := sndE T a C z X W E .r _ h2
      have k2 : SR C X W _ (evE T b) := sndE T b C z X W E .r _ h3
      refine Sm.of (a := .bin op a b) ?_ (gate_p rfl) rfl
      have w := se_op (pos := by assumption) (bopD E op) k1 k2
      exact w
    · cases h
  | .cmp op a b, C, z, X, W, E, m, e, h => by
    unfold okE at h
    split at h
    · simp only [Bool.and_eq_true, beq_iff_eq] at h
      obtain ⟨⟨⟨h1, h2⟩, h3⟩, h4⟩ := h
      subst h1
      have k1 : SR C X W _ (evE T a) := sndE T a C z X W E .r _ h3
      have k2 : SR C X W _ (evE T b) := sndE T b C z X W E .r _ h4
      cases m with
      | t =>
        refine ⟨?_, fun q => by cases q⟩
        rw [evT_cmp]
        exact st_cmp (cmpD E op) k1 k2 (marks_no h2)
      | s => exact se_cmp (cmpD E op) k1 k2 (marks_no h2)
      | r => exact SE.read (se_cmp (cmpD E op) k1 k2 (marks_no h2))
    · cases h
  | .chain op op' a b c, C, z, X, W, E, m, e, h => by
    unfold okE at h
    split at h
    · simp only [Bool.and_eq_true, beq_iff_eq] at h
      obtain ⟨⟨⟨⟨⟨h1, h1'⟩, h2⟩, h3⟩, h4⟩, h5⟩ := h
      subst h1; subst h1'
      rename_i x y w pos
      have k1 : SR C X W x (evE T a) := sndE T a C z X W E .r _ h3
      have k2 : SR C X W y (evE T b) := sndE T b C z X W E .r _ h4
      have k3 : SR C X W w (evE T c) := sndE T c C z X W E .r _ h5
      have hm : lastMarks [op, op'] [y, w] = false := marks_no h2
      cases m with
      | t =>
        refine ⟨?_, fun q => by cases q⟩
        rw [evT_chain]
        exact st_chain (cmpD E op) (cmpD E op') k1 k2 k3 hm
      | s => exact se_chain (cmpD E op) (cmpD E op') k1 k2 k3 hm
      | r => exact SE.read (se_chain (cmpD E op) (cmpD E op') k1 k2 k3 hm)
    · cases h
  | .one a, C, z, X, W, E, m, e, h => by
    unfold okE at h
    split at h
    · rename_i op x p
      cases m with
      | t =>
        have k := (sndE T a C z X W E .t _ h).1
        have w : SW C X W (.BoolOp op [x] p) (evT T (.one a)) := by
          rw [evT_one]
          cases op with
          | And => exact sw_and1 k
          | Or => exact sw_or1 k
        exact ⟨w.st, fun _ => w⟩
      | s =>
        have k : SE C X W _ (evE T a) := sndE T a C z X W E .s _ h
        exact se_one k
      | r =>
        have k : SE C X W _ (evE T a) := sndE T a C z X W E .s _ h
        exact SE.read (se_one k)
    · cases h
  | .and a b, C, z, X, W, E, m, e, h => by
    unfold okE at h
    split at h
    · simp only [Bool.and_eq_true] at h
      obtain ⟨⟨h1, h2⟩, h3⟩ := h
      cases m with
      | t =>
        have k1 := (sndE T a C z X W E .t _ h1).1
        have k2 := (sndE T b C z X W E .t _ h2).2 (by cases b <;> first | rfl | cases h3)
        have w := sw_and k1 k2
        rw [← evT_and] at w
        exact ⟨w.st, fun _ => w⟩
      | s =>
        have k1 : SR C X W _ (evE T a) := sndE T a C z X W E .r _ h1
        have k2 : SE C X W _ (evE T b) := sndE T b C z X W E .s _ h2
        exact se_and k1 k2
      | r =>
        have k1 : SR C X W _ (evE T a) := sndE T a C z X W E .r _ h1
        have k2 : SE C X W _ (evE T b) := sndE T b C z X W E .s _ h2
        exact SE.read (se_and k1 k2)
    · cases h
  | .or a b, C, z, X, W, E, m, e, h => by
    unfold okE at h
    split at h
    · simp only [Bool.and_eq_true] at h
      obtain ⟨⟨h1, h2⟩, h3⟩ := h
      cases m with
      | t =>
        have k1 := (sndE T a C z X W E .t _ h1).1
        have k2 := (sndE T b C z X W E .t _ h2).2 (by cases b <;> first | rfl | cases h3)
        have w := sw_or k1 k2
        rw [← evT_or] at w
        exact ⟨w.st, fun _ => w⟩
      | s =>
        have k1 : SR C X W _ (evE T a) := sndE T a C z X W E .r _ h1
        have k2 : SE C X W _ (evE T b) := sndE T b C z X W E .s _ h2
        exact se_or k1 k2
      | r =>
        have k1 : SR C X W _ (evE T a) := sndE T a C z X W E .r _ h1
        have k2 : SE C X W _ (evE T b) := sndE T b C z X W E .s _ h2
        exact SE.read (se_or k1 k2)
    · cases h
  | .ite c a b, C, z, X, W, E, m, e, h => by
    unfold okE at h
    rw [Bool.and_eq_true] at h
    obtain ⟨hm, h⟩ := h
    split at h
    · simp only [Bool.and_eq_true] at h
      obtain ⟨⟨h1, h2⟩, h3⟩ := h
      have k1 := (sndE T c C z X W E .t _ h1).1
      have k2 : SE C X W _ (evE T a) := sndE T a C z X W E .s _ h2
      have k3 : SE C X W _ (evE T b) := sndE T b C z X W E .s _ h3
      have w := se_ite (pos := by assumption) k1 k2 k3
      cases m with
      | t => cases hm
      | s => exact w
      | r => exact SE.read w
    · cases h
  | .tup as, C, z, X, W, E, m, e, h => by
    unfold okE at h
    rw [Bool.and_eq_true] at h
    obtain ⟨h, hg⟩ := h
    refine Sm.of (a := .tup as) ?_ hg rfl
    split at h
    · have k : SA C X W _ (evEs T as) := sndEs T as C z X W E .s _ h
      exact se_tup k
    · cases h
  | .ow l, C, z, X, W, E, m, e, h => by
    unfold okE at h
    rw [Bool.and_eq_true] at h
    obtain ⟨h, hg⟩ := h
    refine Sm.of (a := .ow l) ?_ hg rfl
    exact SL.fz (sndL T l C z X W E _ h).sl
  | .ix a b, C, z, X, W, E, m, e, h => by
    unfold okE at h
    split at h
    · simp only [Bool.and_eq_true] at h
      obtain ⟨⟨h1, h2⟩, h3⟩ := h
      have k1 : SR C X W _ (evE T a) := sndE T a C z X W E .r _ h2
      have k2 : SR C X W _ (evE T b) := sndE T b C z X W E .r _ h3
      refine Sm.of (a := .ix a b) ?_ (gate_p rfl) rfl
      have w := se_ix (pos := by assumption) E.hK k1 k2 (plain_ix h1)
      rw [E.scr] at w
      exact w
    · cases h
  | .sl a l u, C, z, X, W, E, m, e, h => by
    unfold okE at h
    split at h
    · simp only [Bool.and_eq_true] at h
      obtain ⟨⟨h1, h2⟩, h3⟩ := h
      have k1 : SR C X W _ (evE T a) := sndE T a C z X W E .r _ h1
      have k2 := sndO T l C z X W E _ h2
      have k3 := sndO T u C z X W E _ h3
      refine Sm.of (a := .sl a l u) ?_ (gate_p rfl) rfl
      exact se_slice E.hK k1 k2 k3
    · cases h
  | .fld a f, C, z, X, W, E, m, e, h => by
    unfold okE at h
    split at h
    · simp only [Bool.and_eq_true, beq_iff_eq] at h
      obtain ⟨⟨h1, h2⟩, h3⟩ := h
      subst h1
      have k1 : SR C X W _ (evE T a) := sndE T a C z X W E .r _ h3
      refine Sm.of (a := .fld a f) ?_ (gate_p rfl) rfl
      have w := se_fld (pos := by assumption) E.hK E.fx (f := f) k1 (attr_base h2)
      rw [fldX_eq, E.flds] at w
      exact w
    · cases h
  | .exf i f, C, z, X, W, E, m, e, h => by
    unfold okE at h
    split at h
    · simp only [Bool.and_eq_true, beq_iff_eq, Bool.not_eq_true'] at h
      obtain ⟨⟨h1, h2⟩, h3⟩ := h
      subst h1
      rename_i x p1 p2
      obtain ⟨v1, v2, v3, v4⟩ := E.isV h2
      obtain ⟨X0, ad, oe, cl, dd, pn, q1, q2, q3, q4⟩ := E.exf h3
      refine Sm.of (a := .exf i f) ?_ (gate_p rfl) rfl
      have w := se_exf (C := C) (X := X) (W := W) (i := i) (f := f) (x := x) (p := p1) (pos := p2) q1 q2 q3 q4 (fun hf => by rw [E.hK]; exact E.erf cl f hf) (fun c hc => E.eri c cl hc) v1 v2 v3 v4
      have e1 : (fun ρ => lft (exF C ρ i f)) = evE T (.exf i f) := by
        funext ρ
        rw [evE, exX_eq, E.xn]
      rw [e1] at w
      exact w
    · cases h
  | .call i as, C, z, X, W, E, m, e, h => by
    unfold okE at h
    split at h
    · simp only [Bool.and_eq_true] at h
      obtain ⟨⟨h1, h2⟩, h3⟩ := h
      rename_i x p es pos
      obtain ⟨k, hr, Fn, Mk⟩ := E.cal h1
      obtain ⟨g1, g2, g3, g4⟩ := E.isG h2
      refine Sm.of (a := .call i as) ?_ (gate_p rfl) rfl
      have ka : SA C X W es (evEs T as) := sndEs T as C z X W E .s _ h3
      have hst := okEs_nst as .s es h3
      cases es with
      | nil =>
        cases as with
        | nil => exact se_call0' (Fn i) (hr.mono (Nat.le_succ _)) E.tk g1 g2 g3
        | cons a as => unfold okEs at h3; cases h3
      | cons y es =>
        rw [List.all_cons, Bool.and_eq_true] at hst
        exact se_call (Fn i) (hr.mono (Nat.le_succ _)) E.tk g1 g2 ka g3 (star_cons hst.1) (star_any hst.2)
    · cases h
  | .callv i as, C, z, X, W, E, m, e, h => by
    unfold okE at h
    split at h
    · simp only [Bool.and_eq_true] at h
      obtain ⟨⟨h1, h2⟩, h3⟩ := h
      obtain ⟨k, hr, Fn, Mk⟩ := E.cal h1
      obtain ⟨v1, v2, v3, v4⟩ := E.isV h2
      refine Sm.of (a := .callv i as) ?_ (gate_p rfl) rfl
      have ka : SA C X W _ (evEs T as) := sndEs T as C z X W E .s _ h3
      have hst := okEs_nst as .s _ h3
      rw [List.all_cons, Bool.and_eq_true] at hst
      exact se_callv (nps := T.nps) (call := T.call) Fn (hr.mono (Nat.le_succ _)) E.tk v1 v2 ka v3 v4 (star_cons hst.1) (star_any hst.2)
    · cases h
  | .meth a n as, C, z, X, W, E, m, e, h => by
    unfold okE at h
    split at h
    · simp only [Bool.and_eq_true, beq_iff_eq, decide_eq_true_eq] at h
      obtain ⟨⟨⟨⟨⟨⟨h1, h2⟩, h3⟩, h4⟩, h5⟩, h6⟩, h7⟩ := h
      subst h2
      rename_i x ap es pos
      obtain ⟨k, hr, Fn, Mk⟩ := E.cal h1
      refine Sm.of (a := .meth a n as) ?_ (gate_p rfl) rfl
      have ko : SE C X W _ (evE T a) := sndE T a C z X W E .s _ h6
      have ka : SA C X W es (evEs T as) := sndEs T as C z X W E .s _ h7
      have hst := okEs_nst as .s es h7
      have hl : (ap.endLine == pos.line) = true := by rw [h4]; simp
      cases es with
      | nil =>
        cases as with
        | nil =>
          have w := se_meth0 (nps := T.nps) (call := T.call) (pos := pos) E.hK E.fx Fn (hr.mono (Nat.le_succ _)) E.tk (m := n) ko (attr_base h3) hl
          rw [mtX_eq, E.mts] at w
          exact w
        | cons a as => unfold okEs at h7; cases h7
      | cons y es =>
        have hst' := hst
        rw [List.all_cons, Bool.and_eq_true] at hst
        have w := se_meth (nps := T.nps) (call := T.call) (pos := pos) E.hK E.fx Fn (hr.mono (Nat.le_succ _)) E.tk (m := n) ko ka (attr_base h3) hl (star_all hst') h5 (star_cons hst.1) (star_any hst.2)
        rw [mtX_eq, E.mts] at w
        exact w
    · cases h
  | .make c as, C, z, X, W, E, m, e, h => by
    unfold okE at h
    split at h
    · simp only [Bool.and_eq_true] at h
      obtain ⟨⟨h1, h2⟩, h3⟩ := h
      obtain ⟨k, hr, Fn, Mk⟩ := E.cal h1
      obtain ⟨g1, g2, g3, g4⟩ := E.isG h2
      refine Sm.of (a := .make c as) ?_ (gate_p rfl) rfl
      have ka : SA C X W _ (evEs T as) := sndEs T as C z X W E .s _ h3
      have hst := okEs_nst as .s _ h3
      rw [List.all_cons, Bool.and_eq_true] at hst
      have e1 : evE T (.make c as) = fun ρ => M.bind (evEs T as ρ) fun ds => makeX T c ds := by
        funext ρ
        rw [evE]
      rw [e1]
      unfold makeX
      obtain ⟨g2, v, q⟩ := g2
      obtain ⟨n, f⟩ := v
      rw [q]
      obtain ⟨i, In⟩ := Mk c n f q
      exact se_make E.hK E.fx In hr E.tk g1 g2 ka g3 (star_cons hst.1) (star_any hst.2)
    · cases h
  | .bi k as, C, z, X, W, E, m, e, h => by
    unfold okE at h
    split at h
    · simp only [Bool.and_eq_true, beq_iff_eq] at h
      obtain ⟨⟨⟨h1, h2⟩, h3⟩, h4⟩ := h
      subst h1
      obtain ⟨g1, g2, g3, g4⟩ := E.isG h3
      refine Sm.of (a := .bi k as) ?_ (gate_p rfl) rfl
      have ka : SAr C X W _ (evEs T as) := sndEs T as C z X W E .r _ h4
      have hst := okEs_nst as .r _ h4
      rw [List.all_cons, Bool.and_eq_true] at hst
      refine se_bi (biD E k fun q => ?_) (biBN k) g1 g2 ka g4 g3 (star_cons hst.1) (star_any hst.2)
      rw [q] at h2
      simpa using h2
    · cases h
  | .isT a ts, C, z, X, W, E, m, e, h => by
    unfold okE at h
    split at h
    · simp only [Bool.and_eq_true, beq_iff_eq] at h
      obtain ⟨⟨⟨⟨h1, h2⟩, h3⟩, h4⟩, h5⟩ := h
      subst h1
      obtain ⟨g1, g2, g3, g4⟩ := E.isG h2
      refine Sm.of (a := .isT a ts) ?_ (gate_p rfl) rfl
      have ka : SR C X W _ (evE T a) := sndE T a C z X W E .r _ h4
      have kt : SA C X W _ (evEs T ts) := sndEs T ts C z X W E .s _ h5
      exact se_isiT E.hK g1 g2 ka kt (star_cons h3) rfl
    · cases h
  | .ty t, C, z, X, W, E, m, e, h => by
    unfold okE at h
    split at h
    · simp only [Bool.and_eq_true, decide_eq_true_eq] at h
      obtain ⟨g1, g2, g3, g4⟩ := E.isG h.1
      exact Sm.of (a := .ty t) (se_ty g1 g2 h.2 g4 g3) (gate_p rfl) rfl
    · cases h
  | .trg r, C, z, X, W, E, m, e, h => by
    unfold okE at h
    split at h
    · simp only [Bool.and_eq_true, beq_iff_eq] at h
      obtain ⟨⟨⟨⟨h1, h2⟩, h3⟩, h4⟩, h5⟩ := h
      subst h2
      obtain ⟨g1, g2, g3, g4⟩ := E.isG h3
      refine Sm.of (a := .trg r) ?_ (gate_p rfl) rfl
      exact se_tuprg (by rw [E.calm]; exact h1) g1 g2 (sndR T r C z X W E _ h5) (star_cons h4)
    · cases h
  | .gf i, C, z, X, W, E, m, e, h => by
    unfold okE at h
    split at h
    · obtain ⟨h1, h2, h5, h6⟩ := E.isG h
      exact Sm.of (a := .gf i) (se_c (pe_glob (v := .ref (C.fad i)) h1 h2 rfl h5) fun _ => .fn i) (gate_p rfl) rfl
    · cases h
  | .gc c, C, z, X, W, E, m, e, h => by
    unfold okE at h
    split at h
    · obtain ⟨h1, h2, h5, h6⟩ := E.isG h
      exact Sm.of (a := .gc c) (se_c (pe_glob (v := .ref (C.cad c)) h1 h2.1 rfl h5) fun _ => .cls c) (gate_p rfl) rfl
    · cases h
  | .isC a c, C, z, X, W, E, m, e, h => by
    unfold okE at h
    split at h
    · rename_i xx pa yy ww pw pc
      simp only [Bool.and_eq_true, beq_iff_eq] at h
      obtain ⟨⟨⟨⟨h1, h2⟩, h3⟩, h4⟩, h5⟩ := h
      subst h1
      obtain ⟨g1, g2, g3, g4⟩ := E.isG h2
      obtain ⟨q1, q2, q5, q6⟩ := E.isG h5
      refine Sm.of (a := .isC a c) ?_ (gate_p rfl) rfl
      have ka : SR C X W _ (evE T a) := sndE T a C z X W E .r _ h4
      have kc : SE C X W (.Name ww pw) (fun _ => M.ret (.cls c)) := se_c (pe_glob (v := .ref (C.cad c)) q1 q2.1 rfl q5) fun _ => .cls c
      have w := se_bi (p := pa) (pos := pc) (br_isC E.hK E.fx) (.fn _ (by decide +kernel)) g1 g2 (sar_cons ka (sar_cons kc.read sar_nil rfl) (star_cons h3)) g4 g3 (star_cons h3) rfl
      have e1 : evE T (.isC a c) = fun ρ => M.bind (M.bind (evE T a ρ) fun x => M.bind (M.bind (M.ret (D.cls c)) fun x => M.bind (M.ret []) fun r => M.ret (x :: r)) fun r => M.ret (x :: r)) fun ds => lft (match ds with | [d, .cls c] => isCd C.kit c d | _ => none) := by
        funext ρ
        rw [evE, bind_assoc, ← E.kit]
        rfl
      rw [e1]
      exact w
    · cases h
  | .eqI n a b, C, z, X, W, E, m, e, h => by
    unfold okE at h
    split at h
    · simp only [Bool.and_eq_true, beq_iff_eq] at h
      obtain ⟨⟨⟨⟨h0, h1⟩, h2⟩, h3⟩, h4⟩ := h
      subst h1
      have k1 : SE C X W _ (evE T a) := sndE T a C z X W E .s _ h3
      have k2 : SE C X W _ (evE T b) := sndE T b C z X W E .s _ h4
      obtain ⟨k, hr, Fn, Mk⟩ := E.cal h0
      have u := E.un
      have d0 : OpD C X (compareOp (eqO n)) (eqS n) := by
        cases n with
        | false => exact opD_eq E.hK (by omega)
        | true => exact opD_ne E.hK (by omega)
      have om := opM_own (n := n) (nps := T.nps) (call := T.call) E.hK E.fx Fn hr d0
      rw [E.mts, E.kit] at om
      cases m with
      | t =>
        refine ⟨?_, fun q => by cases q⟩
        have e1 : evT T (.eqI n a b) = fun ρ => M.bind (evE T a ρ) fun x => M.bind (evE T b ρ) fun y => M.bind (ownM T.mts T.kit T.nps T.call n x y) fun z => lft (blD z) := by
          funext ρ
          unfold evT
          rw [evE, bind_assoc]
          refine bind_congr fun x => ?_
          rw [bind_assoc]
        rw [e1]
        exact st_cmpM om k1 k2 (marks_no h2)
      | s => exact se_cmpM om k1 k2 (marks_no h2)
      | r => exact SE.read (se_cmpM om k1 k2 (marks_no h2))
    · cases h
theorem okEs_nst {z : Z} : ∀ (as : Exs) (m : Md) (es : List Expr), okEs z m as es = true → es.all nst = true
  | .nil, m, es, h => by
    unfold okEs at h
    split at h
    · rfl
    · cases h
  | .cons a as, m, es, h => by
    unfold okEs at h
    split at h
    · simp only [Bool.and_eq_true] at h
      rw [List.all_cons, h.1.1, okEs_nst as m _ h.2]
      rfl
    · cases h
theorem sndEs (T : Tab) : ∀ (as : Exs) (C : Cfg) (z : Z) (X : Cx) (W : WX), XE C T z X W → ∀ (m : Md) (es : List Expr), okEs z m as es = true → Sms C X W T m as es
  | .nil, C, z, X, W, E, m, es, h => by
    unfold okEs at h
    split at h
    · cases m with
      | s => exact sa_nil
      | r => exact sar_nil
      | t => trivial
    · cases h
  | .cons a as, C, z, X, W, E, m, es, h => by
    unfold okEs at h
    split at h
    · simp only [Bool.and_eq_true] at h
      obtain ⟨⟨h1, h2⟩, h3⟩ := h
      cases m with
      | s =>
        have k1 : SE C X W _ (evE T a) := sndE T a C z X W E .s _ h2
        have k2 : SA C X W _ (evEs T as) := sndEs T as C z X W E .s _ h3
        exact sa_cons k1 k2 (star_cons h1)
      | r =>
        have k1 : SR C X W _ (evE T a) := sndE T a C z X W E .r _ h2
        have k2 : SAr C X W _ (evEs T as) := sndEs T as C z X W E .r _ h3
        exact sar_cons k1 k2 (star_cons h1)
      | t => trivial
    · cases h
theorem sndO (T : Tab) : ∀ (o : Ox) (C : Cfg) (z : Z) (X : Cx) (W : WX), XE C T z X W → ∀ (e : Option Expr), okO z o e = true → SO C X W e (evO T o)
  | .no, C, z, X, W, E, e, h => by
    unfold okO at h
    split at h
    · exact so_none
    · cases h
  | .ex a, C, z, X, W, E, e, h => by
    unfold okO at h
    split at h
    · have k : SR C X W _ (evE T a) := sndE T a C z X W E .r _ h
      have w := so_some k
      have e1 : evO T (.ex a) = fun ρ => M.bind (evE T a ρ) fun x => lft (match x with | .int i => some (some i) | _ => none) := by
        funext ρ
        rw [evO]
        refine bind_congr fun x => ?_
        cases x <;> rfl
      rw [e1]
      exact w
    · cases h
theorem sndC (T : Tab) : ∀ (o : Ox) (C : Cfg) (z : Z) (X : Cx) (W : WX), XE C T z X W → ∀ (e : List Expr), okC z o e = true → STs C X W e (evC T o)
  | .no, C, z, X, W, E, e, h => by
    unfold okC at h
    split at h
    · exact sts_nil
    · cases h
  | .ex a, C, z, X, W, E, e, h => by
    unfold okC at h
    split at h
    · exact sts_one (sndE T a C z X W E .t _ h).1
    · cases h
theorem sndL (T : Tab) : ∀ (l : Lx) (C : Cfg) (z : Z) (X : Cx) (W : WX), XE C T z X W → ∀ (e : Expr), okL z l e = true → SLs C X W e (evL T l)
  | .lst as, C, z, X, W, E, e, h => by
    unfold okL at h
    split at h
    · have k : SA C X W _ (evEs T as) := sndEs T as C z X W E .s _ h
      exact (sl_lst k).sls E.ndX rfl
    · cases h
  | .bl k as, C, z, X, W, E, e, h => by
    unfold okL at h
    split at h
    · simp only [Bool.and_eq_true, beq_iff_eq] at h
      obtain ⟨⟨h1, h3⟩, h4⟩ := h
      subst h1
      obtain ⟨g1, g2, g3, g4⟩ := E.isG h3
      have ka : SAr C X W _ (evEs T as) := sndEs T as C z X W E .r _ h4
      have hst := okEs_nst as .r _ h4
      rw [List.all_cons, Bool.and_eq_true] at hst
      exact (sl_bi (blD' E k) (blBN k) g1 g2 ka g4 g3 (star_cons hst.1) (star_any hst.2)).sls E.ndX rfl
    · cases h
  | .rg r, C, z, X, W, E, e, h => by
    unfold okL at h
    split at h
    · simp only [Bool.and_eq_true, beq_iff_eq] at h
      obtain ⟨⟨⟨⟨h1, h2⟩, h3⟩, h4⟩, h5⟩ := h
      subst h2
      obtain ⟨g1, g2, g3, g4⟩ := E.isG h3
      exact (sl_rg (by rw [E.calm]; exact h1) g1 g2 (sndR T r C z X W E _ h5) (star_cons h4)).sls E.ndX rfl
    · cases h
  | .lc elt tg it cond, C, z, X, W, E, e, h => by
    unfold okL at h
    split at h
    · simp only [Bool.and_eq_true] at h
      obtain ⟨⟨⟨⟨⟨⟨h1, h2⟩, h3⟩, h4⟩, h5⟩, h6⟩, h7⟩ := h
      rename_i x g itx ifs scope pos
      obtain ⟨b1, b2⟩ := blk_ok E h3
      have hc : X.calm = true := by rw [E.calm]; exact h1
      have ki := sndI T it C z X W E .r g itx h5
      obtain ⟨t, ⟨p1, p2⟩, k⟩ := sl_lc (pos := pos) hc E.ndX ki b1 b2
        (fun s H Ca cl fp => ((E.blk h1 (scope := scope) s H Ca cl fp).sg h4).1)
        (fun s H Ca cl fp => sndC T cond C _ _ _ (E.blk h1 (scope := scope) s H Ca cl fp) ifs h6)
        (fun s H Ca cl fp => sndE T elt C _ _ _ (E.blk h1 (scope := scope) s H Ca cl fp) .s x h7) (fold_no h2)
      refine ⟨t, ⟨p1, fun i y py spos q1 q2 q3 => ?_⟩, k⟩
      have e1 : swapsWith (.ListComp x [⟨g, itx, ifs, 0⟩] scope pos) (some (.Name y py)) spos.line X.env = pure (X.env.blockKind == .function && X.env.kindOf y == some .local && py.line == pos.line && !(scope.names.any fun (n, k) => n == y && (k == .local || k == .cell))) := rfl
      cases q : (X.env.blockKind == .function && X.env.kindOf y == some .local && py.line == pos.line && !(scope.names.any fun (n, k) => n == y && (k == .local || k == .cell))) with
      | false =>
        rw [q] at e1
        exact ps_set E.ndX q1 q2 p1 e1 q3
      | true =>
        rw [q] at e1
        refine p2 i y py spos q1 ?_ e1
        simp only [Bool.and_eq_true, beq_iff_eq] at q
        exact q.1.1.2
    · cases h
theorem sndR (T : Tab) : ∀ (r : Rx) (C : Cfg) (z : Z) (X : Cx) (W : WX), XE C T z X W → ∀ (e : Expr), okRx z r e = true → SRg C X W e (evR T r)
  | .r1 a, C, z, X, W, E, e, h => by
    unfold okRx at h
    split at h
    · simp only [Bool.and_eq_true, beq_iff_eq] at h
      obtain ⟨⟨⟨h1, h2⟩, h3⟩, h4⟩ := h
      subst h1
      obtain ⟨g1, g2, g3, g4⟩ := E.isG h2
      have k : SR C X W _ (evE T a) := sndE T a C z X W E .r _ h4
      exact srg1 g1 g2 k (star_cons h3)
    · cases h
  | .r2 a b, C, z, X, W, E, e, h => by
    unfold okRx at h
    split at h
    · simp only [Bool.and_eq_true, beq_iff_eq] at h
      obtain ⟨⟨⟨⟨⟨h1, h2⟩, h3⟩, h4⟩, h5⟩, h6⟩ := h
      subst h1
      obtain ⟨g1, g2, g3, g4⟩ := E.isG h2
      have k : SR C X W _ (evE T a) := sndE T a C z X W E .r _ h5
      have k2 : SR C X W _ (evE T b) := sndE T b C z X W E .r _ h6
      exact srg2 g1 g2 k k2 (star_cons h3) (star_cons h4) (star_any (by rw [List.all_cons, h4]; rfl))
    · cases h
theorem sndI (T : Tab) : ∀ (it : Ix) (C : Cfg) (z : Z) (X : Cx) (W : WX), XE C T z X W → ∀ (m : Md) (g e : Expr), okI z m it g e = true → SI C X W (m != .r) g e (evI T it)
  | .any a, C, z, X, W, E, m, g, e, h => by
    unfold okI at h
    cases m with
    | r =>
      have k : SR C X W _ (evE T a) := sndE T a C z X W E .r _ h
      exact si_anyR E.hK k
    | s =>
      have k : SE C X W _ (evE T a) := sndE T a C z X W E .s _ h
      exact si_any E.hK k
    | t =>
      have k : SE C X W _ (evE T a) := sndE T a C z X W E .s _ h
      exact si_any E.hK k
  | .rg (.r1 a), C, z, X, W, E, m, g, e, h => by
    unfold okI at h
    split at h
    · simp only [Bool.and_eq_true, beq_iff_eq] at h
      obtain ⟨⟨⟨h1, h2⟩, h3⟩, h4⟩ := h
      subst h1
      obtain ⟨g1, g2, g3, g4⟩ := E.isG h2
      have k : SR C X W _ (evE T a) := sndE T a C z X W E .r _ h4
      exact si_rng1 g1 g2 k (star_cons h3)
    · cases h
  | .rg (.r2 a b), C, z, X, W, E, m, g, e, h => by
    unfold okI at h
    split at h
    · simp only [Bool.and_eq_true, beq_iff_eq] at h
      obtain ⟨⟨⟨⟨⟨h1, h2⟩, h3⟩, h4⟩, h5⟩, h6⟩ := h
      subst h1
      obtain ⟨g1, g2, g3, g4⟩ := E.isG h2
      have k : SR C X W _ (evE T a) := sndE T a C z X W E .r _ h5
      have k2 : SR C X W _ (evE T b) := sndE T b C z X W E .r _ h6
      exact si_rng2 g1 g2 k k2 (by rw [star_cons h3, star_cons h4]; rfl) (star_cons h4)
    · cases h
  | .enum a, C, z, X, W, E, m, g, e, h => by
    unfold okI at h
    rw [Bool.and_eq_true] at h
    obtain ⟨hg, h⟩ := h
    split at hg
    · split at h
      · simp only [Bool.and_eq_true, beq_iff_eq] at h
        obtain ⟨⟨⟨h1, h2⟩, h3⟩, h4⟩ := h
        subst h1
        obtain ⟨g1, g2, g3, g4⟩ := E.isG h2
        have k : SE C X W _ (evE T a) := sndE T a C z X W E .s _ h4
        exact si_enum E.hK g1 g2 k (star_cons h3)
      · cases h
    · cases hg
end
end DS

set_option Elab.async false
set_option linter.all false
set_option maxRecDepth 100000
set_option maxHeartbeats 4000000
/-! DS, part 15: statements as terms of their own, their check, the induction -/
namespace DS
open PySem L2
inductive Ml where
  | app | ins | ext
mutual
inductive Cm where
  | pass | doc | expr (e : Ex) | ret (e : Ex) | retN
  | ife (c : Ex) (a b : Cms)
  | set (i : Nat) (e : Ex) | setL (i : Nat) (l : Lx) | setW (i : Nat) (l : Lx)
  | par (i j : Nat) (as : Exs) | par3 (i j l : Nat) (as : Exs) | asg (t : Tg) (e : Ex)
  | setAt (i : Nat) (ix e : Ex) | mtL (k : Ml) (i : Nat) (as : Exs) | setF (i : Nat) (f : Str) (e : Ex)
  | for (t : Tg) (it : Ix) (b : Cms) | while (c : Ex) (b : Cms)
  | raise (c : Nat) (as : Exs) | try (j i : Nat) (b s : Cms) | tryM (b hs : Cms) | hd (j i : Nat) (s : Cms)
inductive Cms where
  | nil | cons (s : Cm) (r : Cms) | frz (i : Nat) (r : Cms)
end
def mlN : Ml → Str
  | .app => "append"
  | .ins => "insert"
  | .ext => "extend"
def mlS : Ml → List D → List D → Option (List D)
  | .app => appM
  | .ins => insM
  | .ext => extM
def setFX (flds : Nat → List Str) (i : Nat) (f : Str) (ρ : Env) (d : D) : G → Rs := fun g => match ρ[i]? with
  | some (.oi c fs) => if f ∈ flds c ∧ fs.length < 1000 then .nx (ρ.set i (.oi c (putD f d fs))) g else .stuck
  | _ => .stuck
def hdJI : Cm → Nat × Nat
  | .hd j i _ => (j, i)
  | _ => (0, 0)
mutual
noncomputable def evS (T : Tab) : Cm → MS
  | .pass => fun ρ => nxS ρ
  | .doc => fun ρ => nxS ρ
  | .expr e => fun ρ => bindS (evE T e ρ) ρ fun _ => nxS ρ
  | .ret e => fun ρ => bindS (evE T e ρ) ρ rtS
  | .retN => fun _ => rtS .non
  | .ife c a b => fun ρ => bindS (evT T c ρ) ρ fun k => if k = true then evB T a ρ else evB T b ρ
  | .set i e => fun ρ => bindS (evE T e ρ) ρ fun d => nxS (ρ.set i (.v d))
  | .setL i l => fun ρ => bindS (evL T l ρ) ρ fun d => nxS (ρ.set i (.ol d))
  | .setW i l => fun ρ => bindS ((evL T l ρ).lst) ρ fun d => nxS (ρ.set i (.v d))
  | .par i j as => fun ρ => bindS (evEs T as ρ) ρ (par2 i j ρ)
  | .par3 i j l as => fun ρ => bindS (evEs T as ρ) ρ (DS.par3 i j l ρ)
  | .asg t e => fun ρ => bindS (evE T e ρ) ρ fun d => liftS (t.bind d ρ) nxS
  | .setAt i ix e => fun ρ => bindS (evE T e ρ) ρ fun d => liftS (own1 ρ i) fun _ => bindS (evE T ix ρ) ρ fun ix => DS.setAt i ρ d ix
  | .mtL k i as => fun ρ => liftS (ownL ρ i) fun _ => bindS (evEs T as ρ) ρ fun args => DS.mtL i (mlS k) ρ args
  | .setF i f e => fun ρ => bindS (evE T e ρ) ρ fun d => setFX T.flds i f ρ d
  | .for t it b => fun ρ => bindS (evI T it ρ) ρ fun ds => forS t.bind (evB T b) ds ρ
  | .while c b => whileW (evT T c) (evB T b)
  | .raise c as => fun ρ => bindS (evEs T as ρ) ρ fun ds => errS c 1 ds ρ
  | .try j i b s => tryS T.sub j i (evB T b) (evB T s)
  | .tryM b hs => tryEach T.sub (evH T hs) (evB T b)
  | .hd _ _ s => evB T s
noncomputable def evH (T : Tab) : Cms → List (Nat × Nat × MS)
  | .nil => []
  | .cons s r => ((hdJI s).1, (hdJI s).2, evS T s) :: evH T r
  | .frz _ r => evH T r
noncomputable def evB (T : Tab) : Cms → MS
  | .nil => fun ρ => nxS ρ
  | .cons s r => seqS (evS T s) (evB T r)
  | .frz i r => frzS i (evB T r)
end
def Z.hot (z : Z) : Z := { z with calm := false }
def locB (z : Z) (i : Nat) (x : Str) : Bool := z.N[i]? == some x && z.sc.names.lookup x == some .local
/-- what stands to the right of a row of names -/
def swN (z : Z) (t e : Expr) : Bool := match t, e with
  | .Tuple ts _ _, .Tuple vs _ _ => decide (swT z.sc ts vs = some none)
  | _, .Tuple _ _ _ => false
  | _, _ => true
mutual
def okS (z : Z) : Cm → Stmt → Bool
  | .pass, st => (match st with | .Pass _ => true | _ => false)
  | .doc, st => (match st with | .Expr (.Constant (.str _) _ _) _ => true | _ => false)
  | .expr a, st => (match st with | .Expr e _ => ncomp e && okE z .s a e | _ => false)
  | .ret a, st => (match st with | .Return (some e) _ => okE z .s a e | _ => false)
  | .retN, st => (match st with | .Return none _ => true | _ => false)
  | .ife c a b, st => (match st with | .If e xs ys _ => okE z .t c e && okB z a xs && okB z b ys | _ => false)
  | .set i a, st => (match st with | .Assign [.Name x _] e _ => isL z i x && ncomp e && okE z .s a e | _ => false)
  | .setL i l, st => (match st with | .Assign [.Name x _] e _ => isL z i x && okL z l e | _ => false)
  | .setW i l, st => (match st with | .Assign [.Name x _] e _ => isL z i x && okL z l e | _ => false)
  | .par i j as, st => (match st with | .Assign [.Tuple [.Name x p1, .Name y p2] _ _] (.Tuple [a, b] _ _) _ => z.calm && locB z i x && locB z j y && !(i == j) && decide (swT z.sc [.Name x p1, .Name y p2] [a, b] = some (some [x, y])) && okEs z .s as [a, b] | _ => false)
  | .par3 i j l as, st => (match st with | .Assign [.Tuple [.Name x p1, .Name y p2, .Name w p3] _ _] (.Tuple [a, b, c] _ _) _ => z.calm && locB z i x && locB z j y && locB z l w && !(i == j) && !(i == l) && !(j == l) && decide (swT z.sc [.Name x p1, .Name y p2, .Name w p3] [a, b, c] = some (some [x, y, w])) && okEs z .s as [a, b, c] | _ => false)
  | .asg t a, st => (match st with | .Assign [tg] e _ => okT z t tg && swN z tg e && ncomp e && okE z .s a e | _ => false)
  | .setAt i ix a, st => (match st with | .Assign [.Subscript (.Name x _) y _] e _ => isV z i x && nslice y && ncomp e && okE z .r ix y && okE z .s a e | _ => false)
  | .mtL k i as, st => (match st with | .Expr (.Call (.Attribute (.Name x _) n ap) (y :: es) [] cp) _ => isV z i x && n == mlN k && ap.endLine == cp.line && decide ((y :: es).length < 30) && okEs z .s as (y :: es) | _ => false)
  | .setF i f a, st => (match st with | .Assign [.Attribute (.Name x _) g _] e _ => isV z i x && f == g && ncomp e && okE z .s a e | _ => false)
  | .for t it b, st => (match st with | .For g i xs [] _ => z.calm && nset i && okT z t g && okI z .s it g i && okB z b xs | _ => false)
  | .while c b, st => (match st with | .While e xs [] _ => okE z .t c e && okB z b xs | _ => false)
  | .raise c as, st => (match st with | .Raise (some (.Call (.Name x _) [y] [] _)) none _ => z.calm && isG z x (.er c) && okEs z .s as [y] | _ => false)
  | .try j i b s, st => (match st with | .Try xs [.ExceptHandler (some (.Name x _)) (some n) (y :: ys) _] [] [] _ => z.calm && isG z x (.er j) && locB z i n && okB z b xs && okB z.hot s (y :: ys) | _ => false)
  | .tryM b hs, st => (match st with | .Try xs (h :: tl) [] [] _ => z.calm && okB z b xs && okH z hs (h :: tl) | _ => false)
  | .hd _ _ _, _ => false
def okHd (z : Z) : Cm → ExceptHandler → Bool
  | .hd j i s, h => (match h with | .ExceptHandler (some (.Name x _)) (some n) (y :: ys) _ => isG z x (.er j) && locB z i n && okB z.hot s (y :: ys) | _ => false)
  | _, _ => false
def okH (z : Z) : Cms → List ExceptHandler → Bool
  | .nil, hs => (match hs with | [] => true | _ => false)
  | .cons s r, hs => (match hs with | h :: tl => okHd z s h && okH z r tl | _ => false)
  | .frz _ _, _ => false
def okB (z : Z) : Cms → List Stmt → Bool
  | .nil, st => (match st with | [] => true | _ => false)
  | .cons s r, st => (match st with | x :: xs => okS z s x && okB z r xs | _ => false)
  | .frz i r, st => okB z r st
end
/-- what must hold of a block's context -/
structure XS (C : Cfg) (T : Tab) (z : Z) (X : Cx) (W : WX) : Prop where
  E : XE C T z X W
  stk : z.calm = true → X.stack = X.env :: X.outer ∧ X.env.frame = some X.env.locals
  own : PassesOwn (model X.prog X.w) X.A X.env X.xe
  kd : X.env.blockKind = .function
  hsub : C.sub = T.sub
  sub : ∀ c j b, C.sub c j = some b → PySem.W.exmOne C.K (.ref (C.cad c)) (.ref (C.cad j)) = some b
section
variable {C : Cfg} {T : Tab} {z : Z} {X : Cx} {W : WX} {x : Str} {i : Nat}
theorem XS.loc (S : XS C T z X W) (h : locB z i x = true) : X.N[i]? = some x ∧ X.env.scope.names.lookup x = some .local := by
  unfold locB at h
  simp only [Bool.and_eq_true, beq_iff_eq] at h
  exact ⟨by rw [S.E.hN]; exact h.1, by rw [S.E.sc]; exact h.2⟩
theorem XS.sw (S : XS C T z X W) {ts vs : List Expr} {k k2 : Nat} {p p2 : Pos} {r : Option (List Str)} (h : swT z.sc ts vs = some r) : swappedStores [.Tuple ts k p] (.Tuple vs k2 p2) X.env = pure r :=
  swT_ok S.kd (by rw [S.E.sc]; exact h)
theorem XS.swn (S : XS C T z X W) {t e : Expr} (h : swN z t e = true) : swappedStores [t] e X.env = pure none := by
  by_cases q : isTupE e = false
  · exact sw_other q
  · cases e with
    | Tuple vs k2 p2 =>
      cases t with
      | Tuple ts k p => exact S.sw (of_decide_eq_true h)
      | _ => cases h
    | _ => exact absurd rfl q
theorem XS.tr (S : XS C T z X W) {W' : WX} {pn : List (Addr × Obj)} {xe : Value → Shared → Prop} (tk : Takes (X.tr pn xe) W') (own : PassesOwn (model X.prog X.w) X.A X.env xe) (hc : z.calm = true) : XS C T z (X.tr pn xe) W' where
  E := {
    hK := S.E.hK
    hN := S.E.hN
    nd := S.E.nd
    sc := S.E.sc
    gm := fun x k h => by
      have := S.E.gm x k h
      cases k <;> exact this
    asg := S.E.asg
    calm := S.E.calm
    gd := S.E.gd
    un := S.E.un
    fx := S.E.fx
    scr := S.E.scr
    mts := S.E.mts
    flds := S.E.flds
    kit := S.E.kit
    xn := S.E.xn
    tk := tk
    cal := fun h => by
      obtain ⟨k, r, f, m⟩ := S.E.cal h
      exact ⟨k, r, fun i => ⟨(f i).ex, (f i).kp⟩, fun c n g q => by obtain ⟨i, w⟩ := m c n g q; exact ⟨i, w.ex, w.ini⟩⟩
    exf := fun h => by rw [hc] at h; cases h
    erf := S.E.erf
    eri := S.E.eri }
  stk := S.stk
  own := own
  kd := S.kd
  hsub := S.hsub
  sub := S.sub
theorem XS.suite (S : XS C T z X W) {a : Addr} {oe : Obj} {c : Nat} {dd : Addr} {pn : List (Addr × Obj)} (hz : Zc (.ref (C.cad c)) (some dd) oe) (hd : ∃ vs, oe.data = .fields vs) :
    XS (C.at (some (a, .ref (C.cad c), dd))) T z.hot (X.suite a ((a, oe) :: pn)) WF where
  E := {
    hK := S.E.hK
    hN := S.E.hN
    nd := S.E.nd
    sc := S.E.sc
    gm := fun x k h => by
      have := S.E.gm x k h
      cases k with
      | con k => obtain ⟨u, v, h1, h2, h3⟩ := this; exact ⟨u, v, h1, h2, fun F => (h3 F).at⟩
      | _ => exact this
    asg := S.E.asg
    calm := rfl
    gd := S.E.gd
    un := S.E.un
    fx := ⟨S.E.fx.cls, S.E.fx.mt, S.E.fx.mkr, S.E.fx.own, S.E.fx.kit, S.E.fx.eqo⟩
    scr := S.E.scr
    mts := S.E.mts
    flds := S.E.flds
    kit := S.E.kit
    xn := S.E.xn
    tk := takes0
    cal := fun h => by cases h
    exf := fun _ => ⟨X, a, oe, c, dd, pn, rfl, rfl, hz, hd⟩
    erf := S.E.erf
    eri := S.E.eri }
  stk := fun h => by cases h
  own := PassesOwn.never
  kd := S.kd
  hsub := S.hsub
  sub := S.sub
theorem setFX_eq {f : Str} {ρ : Env} {d : D} : setF C i f ρ d = setFX C.flds i f ρ d := by
  funext g
  unfold setF setFX
  cases ρ[i]? with
  | none => rfl
  | some s => cases s <;> rfl
end
mutual
theorem sndS (T : Tab) : ∀ (s : Cm) (C : Cfg) (z : Z) (X : Cx) (W : WX), XS C T z X W → ∀ (st : Stmt), okS z s st = true → S1 C X W st (evS T s)
  | .pass, C, z, X, W, S, st, h => by
    unfold okS at h
    split at h
    · exact s_pass
    · cases h
  | .doc, C, z, X, W, S, st, h => by
    unfold okS at h
    split at h
    · exact s_doc
    · cases h
  | .expr a, C, z, X, W, S, st, h => by
    unfold okS at h
    split at h
    · simp only [Bool.and_eq_true] at h
      have k : SE C X W _ (evE T a) := sndE T a C z X W S.E .s _ h.2
      exact s_expr k (swap_no h.1)
    · cases h
  | .ret a, C, z, X, W, S, st, h => by
    unfold okS at h
    split at h
    · have k : SE C X W _ (evE T a) := sndE T a C z X W S.E .s _ h
      exact s_ret k
    · cases h
  | .retN, C, z, X, W, S, st, h => by
    unfold okS at h
    split at h
    · exact s_retN
    · cases h
  | .ife c a b, C, z, X, W, S, st, h => by
    unfold okS at h
    split at h
    · simp only [Bool.and_eq_true] at h
      obtain ⟨⟨h1, h2⟩, h3⟩ := h
      exact s_if (sndE T c C z X W S.E .t _ h1).1 (sndB T a C z X W S _ h2) (sndB T b C z X W S _ h3)
    · cases h
  | .set i a, C, z, X, W, S, st, h => by
    unfold okS at h
    split at h
    · simp only [Bool.and_eq_true] at h
      obtain ⟨⟨h1, h2⟩, h3⟩ := h
      obtain ⟨l1, l2, l3⟩ := S.E.isL h1
      obtain ⟨t, p, k⟩ := (sndE T a C z X W S.E .s _ h3 : SE C X W _ (evE T a))
      exact s_setG (ps_set S.E.ndX l1 l2 p (swap_no h2) l3) k
    · cases h
  | .setL i l, C, z, X, W, S, st, h => by
    unfold okS at h
    split at h
    · simp only [Bool.and_eq_true] at h
      obtain ⟨l1, l2, l3⟩ := S.E.isL h.1
      obtain ⟨t, ⟨p, ps⟩, k⟩ := sndL T l C z X W S.E _ h.2
      exact s_setGL (ps i _ _ _ l1 l2 l3) k
    · cases h
  | .setW i l, C, z, X, W, S, st, h => by
    unfold okS at h
    split at h
    · simp only [Bool.and_eq_true] at h
      obtain ⟨l1, l2, l3⟩ := S.E.isL h.1
      obtain ⟨t, ⟨p, ps⟩, k⟩ := sndL T l C z X W S.E _ h.2
      exact s_setG (fa := fun ρ => (evL T l ρ).lst) (ps i _ _ _ l1 l2 l3) (fzK k)
    · cases h
  | .par i j as, C, z, X, W, S, st, h => by
    unfold okS at h
    split at h
    · simp only [Bool.and_eq_true, Bool.not_eq_true', decide_eq_true_eq, beq_eq_false_iff_ne] at h
      obtain ⟨⟨⟨⟨⟨h1, h2⟩, h3⟩, h4⟩, h5⟩, h6⟩ := h
      obtain ⟨l1, l2⟩ := S.loc h2
      obtain ⟨l3, l4⟩ := S.loc h3
      have ka : SA C X W _ (evEs T as) := sndEs T as C z X W S.E .s _ h6
      exact s_par (by rw [S.E.calm]; exact h1) S.E.ndX l1 l3 h4 l2 l4 ka (S.sw h5) (sole_no rfl)
    · cases h
  | .par3 i j l as, C, z, X, W, S, st, h => by
    unfold okS at h
    split at h
    · simp only [Bool.and_eq_true, Bool.not_eq_true', decide_eq_true_eq, beq_eq_false_iff_ne] at h
      obtain ⟨⟨⟨⟨⟨⟨⟨⟨h1, h2⟩, h3⟩, h4⟩, h5⟩, h6⟩, h7⟩, h8⟩, h9⟩ := h
      obtain ⟨l1, l2⟩ := S.loc h2
      obtain ⟨l3, l4⟩ := S.loc h3
      obtain ⟨l5, l6⟩ := S.loc h4
      have ka : SA C X W _ (evEs T as) := sndEs T as C z X W S.E .s _ h9
      exact s_par3 (by rw [S.E.calm]; exact h1) S.E.ndX l1 l3 l5 h5 h6 h7 l2 l4 l6 ka (S.sw h8) (sole_no rfl)
    · cases h
  | .asg t a, C, z, X, W, S, st, h => by
    unfold okS at h
    split at h
    · simp only [Bool.and_eq_true] at h
      obtain ⟨⟨⟨h1, h2⟩, h3⟩, h4⟩ := h
      obtain ⟨g1, g2⟩ := S.E.sg h1
      have k : SE C X W _ (evE T a) := sndE T a C z X W S.E .s _ h4
      exact s_asg k g1 (sole_no h3) (S.swn h2) (assign_one g2)
    · cases h
  | .setAt i ix a, C, z, X, W, S, st, h => by
    unfold okS at h
    split at h
    · simp only [Bool.and_eq_true] at h
      obtain ⟨⟨⟨⟨h1, h2⟩, h3⟩, h4⟩, h5⟩ := h
      obtain ⟨v1, v2, v3, v4⟩ := S.E.isV h1
      have k : SE C X W _ (evE T a) := sndE T a C z X W S.E .s _ h5
      have ki : SR C X W _ (evE T ix) := sndE T ix C z X W S.E .r _ h4
      exact s_setAt v1 v2 v3 v4 k ki (sole_no h3) sw_sub (sub_assign h2)
    · cases h
  | .mtL k i as, C, z, X, W, S, st, h => by
    unfold okS at h
    split at h
    · simp only [Bool.and_eq_true, beq_iff_eq, decide_eq_true_eq] at h
      obtain ⟨⟨⟨⟨h1, h2⟩, h3⟩, h4⟩, h5⟩ := h
      subst h2
      obtain ⟨v1, v2, v3, v4⟩ := S.E.isV h1
      have ka : SA C X W _ (evEs T as) := sndEs T as C z X W S.E .s _ h5
      have hst := okEs_nst as .s _ h5
      have hst' := hst
      rw [List.all_cons, Bool.and_eq_true] at hst
      cases k with
      | app => exact s_mtL (m := appM) PySem.F.slot_list_append PySem.F.type_list_append mt_append (fun a vs ds args vargs F H ds' Q => app_ok (F := F) a vs ds args vargs F H ds' Q) v1 v2 v3 v4 ka (few_ok hst' h4) (by rw [h3]; simp) (star_cons hst.1) (star_any hst.2) (swap_no rfl)
      | ins => exact s_mtL (m := insM) PySem.F.slot_list_insert PySem.F.type_list_insert mt_insert (fun a vs ds args vargs F H ds' Q => ins_ok a vs ds args vargs F H ds' Q) v1 v2 v3 v4 ka (few_ok hst' h4) (by rw [h3]; simp) (star_cons hst.1) (star_any hst.2) (swap_no rfl)
      | ext => exact s_mtL (m := extM) PySem.F.slot_list_extend PySem.F.type_list_extend mt_extend (fun a vs ds args vargs F H ds' Q => ext_ok a vs ds args vargs F H ds' Q) v1 v2 v3 v4 ka (few_ok hst' h4) (by rw [h3]; simp) (star_cons hst.1) (star_any hst.2) (swap_no rfl)
    · cases h
  | .setF i f a, C, z, X, W, S, st, h => by
    unfold okS at h
    split at h
    · simp only [Bool.and_eq_true, beq_iff_eq] at h
      obtain ⟨⟨⟨h1, h2⟩, h3⟩, h4⟩ := h
      subst h2
      obtain ⟨v1, v2, v3, v4⟩ := S.E.isV h1
      have k : SE C X W _ (evE T a) := sndE T a C z X W S.E .s _ h4
      rename_i x p1 p2 e pos
      have w := s_setF (pos := pos) (p := p1) (pos' := p2) S.E.hK S.E.fx v1 v2 v3 v4 (f := f) k (swap_no h3)
      have e1 : (fun ρ => bindS (evE T a ρ) ρ fun d => setF C i f ρ d) = evS T (.setF i f a) := by
        funext ρ
        rw [evS]
        simp only [setFX_eq, S.E.flds]
      rw [e1] at w
      exact w
    · cases h
  | .for t it b, C, z, X, W, S, st, h => by
    unfold okS at h
    split at h
    · simp only [Bool.and_eq_true] at h
      obtain ⟨⟨⟨⟨h1, h2⟩, h3⟩, h4⟩, h5⟩ := h
      obtain ⟨g1, g2⟩ := S.E.sg h3
      have ki := sndI T it C z X W S.E .s _ _ h4
      exact s_for S.own (by rw [S.E.calm]; exact h1) ki g1 (sndB T b C z X W S _ h5) (fold_no h2)
    · cases h
  | .while c b, C, z, X, W, S, st, h => by
    unfold okS at h
    split at h
    · simp only [Bool.and_eq_true] at h
      exact s_while S.own (sndE T c C z X W S.E .t _ h.1).1 (sndB T b C z X W S _ h.2)
    · cases h
  | .raise c as, C, z, X, W, S, st, h => by
    unfold okS at h
    split at h
    · simp only [Bool.and_eq_true] at h
      obtain ⟨⟨h1, h2⟩, h3⟩ := h
      obtain ⟨g1, ⟨g2, fl, fI, g3, g4⟩, g5, g6⟩ := S.E.isG h2
      obtain ⟨k, hr, Fn, Mk⟩ := S.E.cal h1
      have ka : SA C X W _ (evEs T as) := sndEs T as C z X W S.E .s _ h3
      have hst := okEs_nst as .s _ h3
      rw [List.all_cons, Bool.and_eq_true] at hst
      exact s_raise (by rw [S.E.calm]; exact h1) S.E.tk g3 (by rw [S.E.xn]; exact g4) hr.rm ka g1 (star_cons hst.1) g5 rfl
    · cases h
  | .try j i b s, C, z, X, W, S, st, h => by
    unfold okS at h
    split at h
    · rename_i xs x p1 n y ys p2 p3
      simp only [Bool.and_eq_true] at h
      obtain ⟨⟨⟨⟨h1, h2⟩, h3⟩, h4⟩, h5⟩ := h
      obtain ⟨g1, ⟨g2, _⟩, g5, g6⟩ := S.E.isG h2
      obtain ⟨l1, l2⟩ := S.loc h3
      obtain ⟨k1, k2⟩ := S.stk h1
      have w := s_try (np := p1) (pos' := p2) (pos := p3) k1 k2 S.E.ndX l1 l2 ⟨g1, g5, .inl g2⟩ S.E.tk (fun c bb q => by rw [S.E.hK]; exact S.sub c j bb q)
        (fun W' pn xe tk own => sndB T b C z _ W' (S.tr tk own h1) _ h4) (fun a oe c dd pn hz hd => sndB T s _ z.hot _ WF (S.suite hz hd) _ h5)
      rw [S.hsub] at w
      exact w
    · cases h
  | .tryM b hs, C, z, X, W, S, st, h => by
    unfold okS at h
    split at h
    · rename_i xs hd tl p3
      simp only [Bool.and_eq_true] at h
      obtain ⟨⟨h1, h4⟩, h5⟩ := h
      obtain ⟨k1, k2⟩ := S.stk h1
      have w := s_try_each (ps := p3) k1 k2 S.E.ndX S.E.tk (fun c j bb q => by rw [S.E.hK]; exact S.sub c j bb q)
        (fun W' pn xe tk own => sndB T b C z _ W' (S.tr tk own h1) _ h4) (sndH T hs C z X W S _ h5)
      rw [S.hsub] at w
      exact w
    · cases h
  | .hd _ _ _, C, z, X, W, S, st, h => by
    unfold okS at h
    cases h
theorem sndHd (T : Tab) : ∀ (s : Cm) (C : Cfg) (z : Z) (X : Cx) (W : WX), XS C T z X W → ∀ (hd : ExceptHandler) (hs : List ExceptHandler) (l : List (Nat × Nat × MS)), okHd z s hd = true → HdsD C X hs l → HdsD C X (hd :: hs) (((hdJI s).1, (hdJI s).2, evS T s) :: l)
  | .hd j i s, C, z, X, W, S, hd, hs, l, h, r => by
    unfold okHd at h
    split at h
    · rename_i x p1 n y ys p2
      simp only [Bool.and_eq_true] at h
      obtain ⟨⟨h2, h3⟩, h5⟩ := h
      obtain ⟨g1, ⟨g2, _⟩, g5, g6⟩ := S.E.isG h2
      obtain ⟨l1, l2⟩ := S.loc h3
      exact .cons l1 l2 ⟨g1, g5, .inl g2⟩ (fun a oe c dd pn hz hd => sndB T s _ z.hot _ WF (S.suite hz hd) _ h5) r
    · cases h
  | .pass, _, _, _, _, _, _, _, _, h, _ => by unfold okHd at h; cases h
  | .doc, _, _, _, _, _, _, _, _, h, _ => by unfold okHd at h; cases h
  | .expr _, _, _, _, _, _, _, _, _, h, _ => by unfold okHd at h; cases h
  | .ret _, _, _, _, _, _, _, _, _, h, _ => by unfold okHd at h; cases h
  | .retN, _, _, _, _, _, _, _, _, h, _ => by unfold okHd at h; cases h
  | .ife _ _ _, _, _, _, _, _, _, _, _, h, _ => by unfold okHd at h; cases h
  | .set _ _, _, _, _, _, _, _, _, _, h, _ => by unfold okHd at h; cases h
  | .setL _ _, _, _, _, _, _, _, _, _, h, _ => by unfold okHd at h; cases h
  | .setW _ _, _, _, _, _, _, _, _, _, h, _ => by unfold okHd at h; cases h
  | .par _ _ _, _, _, _, _, _, _, _, _, h, _ => by unfold okHd at h; cases h
  | .par3 _ _ _ _, _, _, _, _, _, _, _, _, h, _ => by unfold okHd at h; cases h
  | .asg _ _, _, _, _, _, _, _, _, _, h, _ => by unfold okHd at h; cases h
  | .setAt _ _ _, _, _, _, _, _, _, _, _, h, _ => by unfold okHd at h; cases h
  | .mtL _ _ _, _, _, _, _, _, _, _, _, h, _ => by unfold okHd at h; cases h
  | .setF _ _ _, _, _, _, _, _, _, _, _, h, _ => by unfold okHd at h; cases h
  | .for _ _ _, _, _, _, _, _, _, _, _, h, _ => by unfold okHd at h; cases h
  | .while _ _, _, _, _, _, _, _, _, _, h, _ => by unfold okHd at h; cases h
  | .raise _ _, _, _, _, _, _, _, _, _, h, _ => by unfold okHd at h; cases h
  | .try _ _ _ _, _, _, _, _, _, _, _, _, h, _ => by unfold okHd at h; cases h
  | .tryM _ _, _, _, _, _, _, _, _, _, h, _ => by unfold okHd at h; cases h
theorem sndH (T : Tab) : ∀ (s : Cms) (C : Cfg) (z : Z) (X : Cx) (W : WX), XS C T z X W → ∀ (hs : List ExceptHandler), okH z s hs = true → HdsD C X hs (evH T s)
  | .nil, C, z, X, W, S, hs, h => by
    unfold okH at h
    split at h
    · exact .nil
    · cases h
  | .cons s r, C, z, X, W, S, hs, h => by
    unfold okH at h
    split at h
    · simp only [Bool.and_eq_true] at h
      exact sndHd T s C z X W S _ _ _ h.1 (sndH T r C z X W S _ h.2)
    · cases h
  | .frz _ _, C, z, X, W, S, hs, h => by
    unfold okH at h
    cases h
theorem sndB (T : Tab) : ∀ (s : Cms) (C : Cfg) (z : Z) (X : Cx) (W : WX), XS C T z X W → ∀ (st : List Stmt), okB z s st = true → SC C X W st (evB T s)
  | .nil, C, z, X, W, S, st, h => by
    unfold okB at h
    split at h
    · exact sc_nil
    · cases h
  | .cons s r, C, z, X, W, S, st, h => by
    unfold okB at h
    split at h
    · simp only [Bool.and_eq_true] at h
      exact sc_cons (sndS T s C z X W S _ h.1) (sndB T r C z X W S _ h.2)
    · cases h
  | .frz i r, C, z, X, W, S, st, h => by
    unfold okB at h
    exact sc_frz (sndB T r C z X W S _ h)
end
end DS

set_option Elab.async false
set_option linter.all false
set_option maxRecDepth 100000
set_option maxHeartbeats 4000000
/-! DS, part 16: defs and classes by levels -/
namespace DS
open PySem L2 PyProof.Rows
/-- a def as a term: its names, its parameters, its body; of an __init__ its class -/
structure Dfr where
  N : List Str
  ps : List Str
  b : Cms
  ini : Option Nat
/-- what is written down of a program -/
structure Sta where
  scr : List Int
  defs : List Dfr
  ini : Nat → Option Nat
  mts : Nat → Str → Option Nat
  flds : Nat → List Str
  xn : Nat → List Str
  sub : Nat → Nat → Option Bool
  con : Nat → D
  kit : Tk → Nat → Option Bool := fun _ _ => none
def startE (N : List Str) (ds : List D) : Env := ds.map Sl.v ++ List.replicate (N.length - ds.length) Sl.no
def startI (N : List Str) (c : Nat) (ds : List D) : Env := .oi c [] :: (ds.map Sl.v ++ List.replicate (N.length - (ds.length + 1)) Sl.no)
def endF : Rs → Res D
  | .nx _ g => .ok .non g
  | .rt d g => .ok d g
  | .er c fs _ g => .err c fs g
  | .stuck => .stuck
def endI (c : Nat) : Rs → Res (List (Str × D))
  | .nx ρ g => (match (ρ[0]? : Option Sl) with
    | some (.oi c' fs) => if c' = c then .ok fs g else .stuck
    | _ => .stuck)
  | .er c fs _ g => .err c fs g
  | _ => .stuck
noncomputable def runF (T : Tab) (d : Dfr) (ds : List D) : M D := fun g => endF (evB T d.b (startE d.N ds) g)
noncomputable def runI (T : Tab) (d : Dfr) (c : Nat) (ds : List D) : M (List (Str × D)) := fun g => endI c (evB T d.b (startI d.N c ds) g)
def Sta.nps (S : Sta) (i : Nat) : Nat := match S.defs[i]? with
  | some d => d.ps.length
  | none => 0
noncomputable def callF (T : Tab) (S : Sta) (i : Nat) (ds : List D) : M D := match S.defs[i]? with
  | some d => (match d.ini with
    | none => runF T d ds
    | some _ => fun _ => .stuck)
  | none => fun _ => .stuck
noncomputable def makF (T : Tab) (S : Sta) (c : Nat) (ds : List D) : M (List (Str × D)) := match S.ini c with
  | some i => (match S.defs[i]? with
    | some d => runI T d c ds
    | none => fun _ => .stuck)
  | none => fun _ => .stuck
def mkT (S : Sta) (r : (Nat → List D → M D) × (Nat → Option (Nat × (List D → M (List (Str × D)))))) : Tab :=
  { scr := S.scr, call := r.1, nps := S.nps, mak := r.2, mts := S.mts, flds := S.flds, xn := S.xn, sub := S.sub, con := S.con, kit := S.kit }
noncomputable def recK (S : Sta) : Nat → (Nat → List D → M D) × (Nat → Option (Nat × (List D → M (List (Str × D)))))
  | 0 => (fun _ _ _ => .stuck, fun c => (S.ini c).map fun i => (S.nps i, fun _ _ => .stuck))
  | k + 1 => (callF (mkT S (recK S k)) S, fun c => (S.ini c).map fun i => (S.nps i, makF (mkT S (recK S k)) S c))
/-- the defs, k calls deep; all but the calls is the same at each level -/
noncomputable def tabK (S : Sta) (k : Nat) : Tab := mkT S (recK S k)
theorem tabK_nps (S : Sta) (k : Nat) : (tabK S k).nps = S.nps := by cases k <;> rfl
theorem tabK_scr (S : Sta) (k : Nat) : (tabK S k).scr = S.scr := by cases k <;> rfl
theorem tabK_mts (S : Sta) (k : Nat) : (tabK S k).mts = S.mts := by cases k <;> rfl
theorem tabK_flds (S : Sta) (k : Nat) : (tabK S k).flds = S.flds := by cases k <;> rfl
theorem tabK_xn (S : Sta) (k : Nat) : (tabK S k).xn = S.xn := by cases k <;> rfl
theorem tabK_sub (S : Sta) (k : Nat) : (tabK S k).sub = S.sub := by cases k <;> rfl
theorem tabK_kit (S : Sta) (k : Nat) : (tabK S k).kit = S.kit := by cases k <;> rfl
theorem tabK_con (S : Sta) (k : Nat) : (tabK S k).con = S.con := by cases k <;> rfl
/-- what a name of the module stands for, no body in sight -/
def GkS (C : Cfg) (S : Sta) (P : Program) (K : PySem.W.Frag) (mg : Str → Option Value) (x : Str) : Gk → Prop
  | .fn i => mg x = some (.ref (C.fad i))
  | .cl c => mg x = some (.ref (C.cad c)) ∧ ∃ i, S.ini c = some i
  | .er c => mg x = some (.ref (C.cad c)) ∧ ∃ fl fI, PySem.ErX.ErrTxt P K mg x fl (C.cad c) fI ∧ S.xn c = [fl]
  | .non => mg x = none
  | .con k => ∃ u v, mg x = some u ∧ RelV v u ∧ ∀ F, Dv C F v (S.con k)
structure Pf (P : Program) (w : World) (K : PySem.W.Frag) (mg : Str → Option Value) (base : Heap) (S : Sta) (gm : List (Str × Gk)) (C : Cfg) : Prop where
  hK : K = C.K
  gmk : ∀ x k, gm.lookup x = some k → GkS C S P K mg x k
  fx : Fx C
  scr : C.scr = S.scr
  ini : C.ini = S.ini
  mts : C.mts = S.mts
  flds : C.flds = S.flds
  kit : C.kit = S.kit
  xn : C.xn = S.xn
  hsub : C.sub = S.sub
  erf : ∀ c f, f ∈ C.xn c → XfC C.K (C.cad c) ∧ PySem.W.findIn C.K (.ref (C.cad c)) f = some none
  eri : ∀ c c', C.cad c = C.cad c' → C.xn c = C.xn c'
  sub : ∀ c j b, C.sub c j = some b → PySem.W.exmOne C.K (.ref (C.cad c)) (.ref (C.cad j)) = some b
  defs : ∀ i d, S.defs[i]? = some d → ∃ (x qual : Str) (st : Stmt) (fd : FuncData), Fun K x qual st (C.fad i) fd ∧ FnScope d.N d.ps (defScope st) ∧ Binds K fd d.ps [] ∧
    okB { N := d.N, sc := defScope st, calm := true, gm := gm, asg := none } d.b (defBody st) = true ∧ (∀ c, d.ini = some c → S.ini c = some i ∧ 0 < d.ps.length)
  inis : ∀ c i, S.ini c = some i → ∃ d, S.defs[i]? = some d ∧ d.ini = some c
  out : ∀ i, S.defs[i]? = none → (∃ fd ps, Binds K fd ps []) ∧ PySem.W.keepIn K (.ref (C.fad i)) = true
/-- a def's promise, no body in sight -/
structure FnP (P : Program) (w : World) (K : PySem.W.Frag) (mg : Str → Option Value) (base : Heap) (C : Cfg) (k : Nat) (i n : Nat) (f : List D → M D) : Prop where
  ex : ∃ (fd : FuncData) (ps : List Str), FnG P w K mg base k (C.fad i) fd ps (spF C n f) ∧ Binds K fd ps []
  kp : PySem.W.keepIn K (.ref (C.fad i)) = true
structure InP (P : Program) (w : World) (K : PySem.W.Frag) (mg : Str → Option Value) (base : Heap) (C : Cfg) (k : Nat) (c i n : Nat) (f : List D → M (List (Str × D))) : Prop where
  ex : ∃ (fd : FuncData) (ps : List Str), FnG P w K mg base k (C.fad i) fd ps (spI C n c f) ∧ Binds K fd ps []
  ini : C.ini c = some i
section
variable {C : Cfg} {z : Option (Addr × Value × Addr)}
theorem Want.atB {W : WX} {σ : St} {F H : Hp} {r : Res D} {Q : VK} (h : Want (C.at z) W σ F H (relD (C.at z)) r Q) : Want C W σ F H (relD C) r Q := by
  cases r with
  | ok d g => exact fun v F' H' x t q => h v F' H' x t.at q.at
  | err c fs g => exact fun dd F' H' x t q => h dd F' H' x t.at q.at
  | stuck => exact h
theorem spF_at {n : Nat} {f : List D → M D} (vs : List V) (H : Hp) (Q : VK) (E : XK) (h : spF (C.at z) n f vs H Q E) : spF C n f vs H Q E := by
  obtain ⟨h1, F, ds, g, s, l, w⟩ := h
  exact ⟨h1, F, ds, g, s.at (z := C.xa), l.at (z := C.xa), w.atB⟩
theorem spI_at {n c : Nat} {f : List D → M (List (Str × D))} (vs : List V) (H : Hp) (Q : VK) (E : XK) (h : spI (C.at z) n c f vs H Q E) : spI C n c f vs H Q E := by
  obtain ⟨h1, x, dx, ws, F, ds, g, e1, e2, e3, s, l, w⟩ := h
  refine ⟨h1, x, dx, ws, F, ds, g, e1, e2, e3, s.at (z := C.xa), l.at (z := C.xa), ?_⟩
  cases q : f ds g with
  | ok fs g' => rw [q] at w; exact fun F' H' dy vs' x t h1 h2 l => w F' H' dy vs' x t.at h1 h2 l.at
  | err c fs g' => rw [q] at w; exact fun dd F' H' x t xd => w dd F' H' x t.at xd.at
  | stuck => rw [q] at w; exact w
theorem Pf.at {P : Program} {w : World} {K : PySem.W.Frag} {mg : Str → Option Value} {base : Heap} {S : Sta} {gm : List (Str × Gk)} (h : Pf P w K mg base S gm C) : Pf P w K mg base S gm (C.at z) where
  hK := h.hK
  gmk := fun x k q => by
    have := h.gmk x k q
    cases k with
    | con k => obtain ⟨u, v, h1, h2, h3⟩ := this; exact ⟨u, v, h1, h2, fun F => (h3 F).at⟩
    | _ => exact this
  fx := ⟨h.fx.cls, h.fx.mt, h.fx.mkr, h.fx.own, h.fx.kit, h.fx.eqo⟩
  scr := h.scr
  ini := h.ini
  mts := h.mts
  flds := h.flds
  kit := h.kit
  xn := h.xn
  hsub := h.hsub
  erf := h.erf
  eri := h.eri
  sub := h.sub
  defs := h.defs
  inis := h.inis
  out := h.out
end
section
variable {P : Program} {w : World} {K : PySem.W.Frag} {mg : Str → Option Value} {base : Heap} {S : Sta} {gm : List (Str × Gk)} {C : Cfg}
theorem envOf_kind {qual : Str} {sc : Scope} {n : Nat} {f : Addr} {cv : Value} (h : sc.kind = .function) : (envOfC qual sc n f cv).blockKind = .function := by
  have e : (envOfC qual sc n f cv).scope = sc := rfl
  unfold PySem.Env.blockKind
  rw [e, h]
  rfl
/-- the facts of a body's context -/
theorem Pf.xs (p : Pf P w K mg base S gm C) {k : Nat} (hf : ∀ i, FnP P w K mg base C (2 * k) i (S.nps i) ((tabK S k).call i)) (hi : ∀ c n f, (tabK S k).mak c = some (n, f) → ∃ i, InP P w K mg base C (2 * k) c i n f)
    {N : List Str} {ps : List Str} {qual : Str} {st : Stmt} {f : Addr} {cv : Value} {B : Around} {up : List PEnv} {s : Shared} {H : Hp} {E : XK} (sc : FnScope N ps (defScope st)) (hr : RoomG (2 * k + 1) (B.deeper (envOfC qual (defScope st) s.heap.objs.size f cv))) :
    XS C (tabK S k) { N := N, sc := defScope st, calm := true, gm := gm, asg := none } (cxOf (L2.CX P w) P w K mg base N qual (defScope st) f cv B up s H E) (fun cls d _ H => E cls d H) where
  E := {
    hK := p.hK
    hN := rfl
    nd := sc.nd
    sc := rfl
    gm := fun x kd h => by
      have := p.gmk x kd h
      cases kd with
      | fn i => exact this
      | cl c =>
        obtain ⟨h1, i, h2⟩ := this
        refine ⟨h1, ?_⟩
        cases k with
        | zero => exact ⟨_, by show (S.ini c).map _ = _; rw [h2]; rfl⟩
        | succ k => exact ⟨_, by show (S.ini c).map _ = _; rw [h2]; rfl⟩
      | er c =>
        obtain ⟨h1, fl, fI, h2, h3⟩ := this
        exact ⟨h1, fl, fI, h2, by rw [tabK_xn]; exact h3⟩
      | non => exact this
      | con j =>
        obtain ⟨u, v, h1, h2, h3⟩ := this
        exact ⟨u, v, h1, h2, by rw [tabK_con]; exact h3⟩
    asg := fun _ => rfl
    calm := rfl
    gd := hr.gd
    un := by
      have := hr.rm.un
      show (B.deeper (envOfC qual (defScope st) s.heap.objs.size f cv)).units + 100 < cLine
      omega
    fx := p.fx
    scr := by rw [tabK_scr]; exact p.scr
    mts := by rw [tabK_mts]; exact p.mts
    flds := by rw [tabK_flds]; exact p.flds
    kit := by rw [tabK_kit]; exact p.kit
    xn := by rw [tabK_xn]; exact p.xn
    tk := takes_of rfl rfl rfl rfl
    cal := fun _ => ⟨2 * k, hr, fun i => by
      have h := hf i
      rw [tabK_nps]
      exact ⟨h.ex, h.kp⟩, fun c n g q => by
      obtain ⟨i, h⟩ := hi c n g q
      exact ⟨i, h.ex, h.ini⟩⟩
    exf := fun h => by cases h
    erf := p.erf
    eri := p.eri }
  stk := fun _ => ⟨rfl, rfl⟩
  own := passes_of rfl
  kd := envOf_kind sc.kind
  hsub := by rw [tabK_sub]; exact p.hsub
  sub := p.sub
theorem start_get {vs : List V} {N : List Str} {i : Nat} {v : V} (h : vs[i]? = some v) : (L2.start N vs)[i]? = some (some v) := by
  unfold L2.start
  rw [List.getElem?_append_left (by rw [List.length_map]; exact (List.getElem?_eq_some_iff.mp h).1), List.getElem?_map, h]
  rfl
theorem startE_get {N : List Str} {ds : List D} {i : Nat} {s : Sl} (h : (startE N ds)[i]? = some s) : s = .no ∨ ∃ d, ds[i]? = some d ∧ s = .v d := by
  unfold startE at h
  by_cases hi : i < ds.length
  · rw [List.getElem?_append_left (by rw [List.length_map]; exact hi), List.getElem?_map] at h
    cases q : ds[i]? with
    | none => rw [q] at h; cases h
    | some d => rw [q] at h; cases h; exact .inr ⟨d, rfl, rfl⟩
  · rw [List.getElem?_append_right (by rw [List.length_map]; omega), List.getElem?_replicate] at h
    split at h
    · cases h; exact .inl rfl
    · cases h
theorem startE_own {N : List Str} {ds : List D} {i : Nat} {s : Sl} (h : (startE N ds)[i]? = some s) : s.isO = false := by
  rcases startE_get h with rfl | ⟨d, _, rfl⟩ <;> rfl
/-- a def's entry -/
theorem start_ok {F H : Hp} {N : List Str} {vs : List V} {ds : List D} {g : G} (st : St0 C F H g) (l : DvL C F vs ds) (hl : vs.length ≤ N.length) : SRs C F H (L2.start N vs) F H (startE N ds) g := by
  refine ⟨⟨st, ?_, fun i s e => ?_⟩, Ext.refl _ _ _, fun i j s t a e1 e2 o1 o2 _ _ => ?_, fun i s a e o _ => ?_⟩
  · unfold L2.start startE
    simp [l.length]
  · rcases startE_get e with rfl | ⟨d, hd, rfl⟩
    · trivial
    · obtain ⟨v, h1, h2⟩ := l.get hd
      exact ⟨v, start_get h1, h2⟩
  · rw [startE_own e1] at o1; cases o1
  · rw [startE_own e] at o; cases o
/-- an __init__'s entry -/
theorem startI_ok {F H : Hp} {N : List Str} {x dx : Addr} {c : Nat} {vs : List V} {ds : List D} {g : G} (st : St0 C F (hide x H) g) (l : DvL C F vs ds) (hl : vs.length + 1 ≤ N.length) (hx : H x = some (.ins (C.cad c) dx [])) (hR : x ≠ C.R) :
    SRs (C.at (some (x, .none, 0))) F (hide x H) (L2.start N (.ref x :: vs)) F H (startI N c ds) g := by
  have up : ∀ a o, hide x H a = some o → H a = some o := fun a o h => by
    by_cases q : a = x
    · subst q; rw [hide_same] at h; cases h
    · rw [hide_ne q] at h; exact h
  have nF : F x = none := by
    cases q : F x with
    | none => rfl
    | some o => have := st.sub x o q; rw [hide_same] at this; cases this
  have get : ∀ {i : Nat} {s : Sl}, (startI N c ds)[i]? = some s → (i = 0 ∧ s = .oi c []) ∨ (∃ j, i = j + 1 ∧ (s = .no ∨ ∃ d, ds[j]? = some d ∧ s = .v d)) := fun {i s} h => by
    cases i with
    | zero => exact .inl ⟨rfl, by unfold startI at h; simpa using h.symm⟩
    | succ j =>
      refine .inr ⟨j, rfl, ?_⟩
      have h : (ds.map Sl.v ++ List.replicate (N.length - (ds.length + 1)) Sl.no)[j]? = some s := h
      by_cases hi : j < ds.length
      · rw [List.getElem?_append_left (by rw [List.length_map]; exact hi), List.getElem?_map] at h
        cases q : ds[j]? with
        | none => rw [q] at h; cases h
        | some d => rw [q] at h; cases h; exact .inr ⟨d, rfl, rfl⟩
      · rw [List.getElem?_append_right (by rw [List.length_map]; omega), List.getElem?_replicate] at h
        split at h
        · cases h; exact .inl rfl
        · cases h
  have own0 : ∀ {i : Nat} {s : Sl}, (startI N c ds)[i]? = some s → s.isO = true → i = 0 := fun {i s} h o => by
    rcases get h with ⟨h0, _⟩ | ⟨j, _, h1 | ⟨d, _, h1⟩⟩
    · exact h0
    · subst h1; cases o
    · subst h1; cases o
  refine ⟨⟨⟨fun a o h => up a o (st.sub a o h), st.rowF, up _ _ st.rowH, st.scr⟩, ?_, fun i s e => ?_⟩, ⟨Sub.refl _, fun a o _ h => up a o h, fun a o h => .inl h⟩, fun i j s t a e1 e2 o1 o2 _ _ => by rw [own0 e1 o1, own0 e2 o2], fun i s a e o h => ?_⟩
  · unfold L2.start startI
    have := l.length
    simp only [List.length_cons, List.length_append, List.length_map, List.length_replicate]
    omega
  · rcases get e with ⟨h0, h1⟩ | ⟨j, h0, h1 | ⟨d, hd, h1⟩⟩
    · subst h0; subst h1
      exact ⟨x, dx, [], rfl, hx, nF, hR, .nil, .none, 0, rfl⟩
    · subst h1; trivial
    · subst h0; subst h1
      obtain ⟨v, h1, h2⟩ := l.get hd
      exact ⟨v, start_get (by simpa using h1), h2.at⟩
  · have h0 := own0 e o
    subst h0
    have h : some (some (V.ref x)) = some (some (V.ref a)) := h
    cases h
    exact hide_same
theorem FnG.void {k : Nat} {f : Addr} {fd : FuncData} {ps : List Str} {sp : Sp} (h : ∀ vs H Q E, ¬ sp vs H Q E) : FnG P w K mg base k f fd ps sp :=
  ⟨fun vs H Q E q => (h vs H Q E q).elim, fun B up s H ar us vs Q E _ _ _ _ q => (h vs H Q E q).elim⟩
theorem spF_stuck {n : Nat} (vs : List V) (H : Hp) (Q : VK) (E : XK) : ¬ spF C n (fun _ _ => .stuck) vs H Q E := fun ⟨_, F, ds, g, _, _, w⟩ => w
theorem spI_stuck {n c : Nat} (vs : List V) (H : Hp) (Q : VK) (E : XK) : ¬ spI C n c (fun _ _ => .stuck) vs H Q E := fun ⟨_, x, dx, ws, F, ds, g, _, _, _, _, _, w⟩ => w
theorem Pf.void (p : Pf P w K mg base S gm C) (k i n : Nat) : FnP P w K mg base C k i n (fun _ _ => .stuck) := by
  cases q : S.defs[i]? with
  | some d =>
    obtain ⟨x, qual, st, fd, F, sc, b, _⟩ := p.defs i d q
    exact ⟨⟨fd, d.ps, FnG.void spF_stuck, b⟩, F.kp⟩
  | none =>
    obtain ⟨⟨fd, ps, b⟩, kp⟩ := p.out i q
    exact ⟨⟨fd, ps, FnG.void spF_stuck, b⟩, kp⟩
theorem FnP.at {k i n : Nat} {f : List D → M D} {z : Option (Addr × Value × Addr)} (h : FnP P w K mg base C k i n f) : FnP P w K mg base (C.at z) k i n f := by
  obtain ⟨⟨fd, ps, F, b⟩, kp⟩ := h
  exact ⟨⟨fd, ps, F.imp fun vs H Q E q => spF_at vs H Q E q, b⟩, kp⟩
theorem InP.at {k c i n : Nat} {f : List D → M (List (Str × D))} {z : Option (Addr × Value × Addr)} (h : InP P w K mg base C k c i n f) : InP P w K mg base (C.at z) k c i n f := by
  obtain ⟨⟨fd, ps, F, b⟩, hi⟩ := h
  exact ⟨⟨fd, ps, F.imp fun vs H Q E q => spI_at vs H Q E q, b⟩, hi⟩
theorem wantF {F H : Hp} {r : Rs} {Q : VK} {E : XK} (h : Want C (fun c d _ H' => E c d H') [] F H (relD C) (endF r) Q) : WantS C (fun cls d _ H' => E cls d H') F H r { nx := fun _ H' => Q .non H', rt := Q } := by
  cases r with
  | nx ρ g => exact fun σ F' H' s => h .non F' H' s.ex s.re.st .non
  | rt d g => exact fun v F' H' x t q => h v F' H' x t q
  | er c fs ρ g => exact fun dd σ F' H' s xd => h dd F' H' s.ex s.re.st xd
  | stuck => exact h
theorem callF_none {T : Tab} {i : Nat} (q : S.defs[i]? = none) : callF T S i = fun _ _ => .stuck := by funext ds; unfold callF; rw [q]
theorem callF_ini {T : Tab} {i : Nat} {d : Dfr} {c : Nat} (q : S.defs[i]? = some d) (qi : d.ini = some c) : callF T S i = fun _ _ => .stuck := by funext ds; unfold callF; rw [q]; dsimp only; rw [qi]
theorem callF_some {T : Tab} {i : Nat} {d : Dfr} (q : S.defs[i]? = some d) (qi : d.ini = none) : callF T S i = fun ds => runF T d ds := by funext ds; unfold callF; rw [q]; dsimp only; rw [qi]
theorem makF_some {T : Tab} {i c : Nat} {d : Dfr} (q : S.ini c = some i) (q2 : S.defs[i]? = some d) : makF T S c = fun ds => runI T d c ds := by funext ds; unfold makF; rw [q]; dsimp only; rw [q2]
theorem Pf.step (p : Pf P w K mg base S gm C) {k : Nat} (hf : ∀ i, FnP P w K mg base C (2 * k) i (S.nps i) ((tabK S k).call i)) (hi : ∀ c n f, (tabK S k).mak c = some (n, f) → ∃ i, InP P w K mg base C (2 * k) c i n f) (i : Nat) :
    FnP P w K mg base C (2 * (k + 1)) i (S.nps i) ((tabK S (k + 1)).call i) := by
  show FnP P w K mg base C (2 * (k + 1)) i (S.nps i) (callF (tabK S k) S i)
  cases q : S.defs[i]? with
  | none => rw [callF_none q]; exact p.void _ _ _
  | some d =>
    cases qi : d.ini with
    | some c => rw [callF_ini q qi]; exact p.void _ _ _
    | none =>
      rw [callF_some q qi]
      obtain ⟨x, qual, st, fd, F, sc, b, ok, _⟩ := p.defs i d q
      have np : S.nps i = d.ps.length := by unfold Sta.nps; rw [q]
      have hpl : d.ps.length ≤ d.N.length := by have := congrArg List.length sc.pre; rw [List.length_take] at this; omega
      refine ⟨⟨fd, d.ps, F.okG sc (fun vs H Q E h => by rw [h.1, np]) fun cv B up s H vs Q E hr h => ?_, b⟩, F.kp⟩
      obtain ⟨hl, F0, ds, g, st0, l, w⟩ := h
      refine ⟨_, sndB (tabK S k) d.b C _ _ _ (p.xs hf hi sc hr) _ ok, F0, H, F0, _, g, start_ok st0 l (by rw [hl, np]; exact hpl), ?_⟩
      exact wantF w
theorem Pf.stepI (p : Pf P w K mg base S gm C) {k : Nat} (hf : ∀ i, FnP P w K mg base C (2 * k) i (S.nps i) ((tabK S k).call i)) (hi : ∀ c n f, (tabK S k).mak c = some (n, f) → ∃ i, InP P w K mg base C (2 * k) c i n f) {c n : Nat} {f : List D → M (List (Str × D))}
    (h : (tabK S (k + 1)).mak c = some (n, f)) : ∃ i, InP P w K mg base C (2 * (k + 1)) c i n f := by
  have h : (S.ini c).map (fun i => (S.nps i, makF (tabK S k) S c)) = some (n, f) := h
  cases q : S.ini c with
  | none => rw [q] at h; cases h
  | some i =>
    rw [q] at h
    obtain ⟨d, q2, q3⟩ := p.inis c i q
    obtain ⟨x, qual, st, fd, F, sc, b, ok, hini⟩ := p.defs i d q2
    have np : S.nps i = d.ps.length := by unfold Sta.nps; rw [q2]
    have hpl : d.ps.length ≤ d.N.length := by have := congrArg List.length sc.pre; rw [List.length_take] at this; omega
    have hn : S.nps i = n := by cases h; rfl
    have hfe : f = fun ds => runI (tabK S k) d c ds := by
      have : makF (tabK S k) S c = f := by cases h; rfl
      rw [← this, makF_some q q2]
    subst hfe
    refine ⟨i, ⟨fd, d.ps, F.okG sc (fun vs H Q E h => by rw [h.1, ← hn, np]) fun cv B up s H vs Q E hr h => ?_, b⟩, by rw [p.ini]; exact q⟩
    obtain ⟨hl, x, dx, ws, F0, ds, g, e1, e2, e3, st0, l, w⟩ := h
    subst e1
    have hl' : ws.length + 1 ≤ d.N.length := by
      have : (V.ref x :: ws).length = n := hl
      rw [List.length_cons, ← hn, np] at this
      omega
    refine ⟨_, sndB (tabK S k) d.b (C.at (some (x, .none, 0))) _ _ _ ((p.at (z := some (x, .none, 0))).xs (fun i => (hf i).at) (fun c n f q => by obtain ⟨i, h⟩ := hi c n f q; exact ⟨i, h.at⟩) sc hr) _ ok, F0, hide x H, F0, _, g, startI_ok st0 l hl' e2 e3, ?_⟩
    rw [show (fun ds => runI (tabK S k) d c ds) ds g = endI c (evB (tabK S k) d.b (startI d.N c ds) g) from rfl] at w
    cases qr : evB (tabK S k) d.b (startI d.N c ds) g with
    | nx ρ g' =>
      rw [qr] at w
      unfold endI at w
      dsimp only at w
      intro σ F' H' s
      cases q0 : (ρ[0]? : Option Sl) with
      | none => rw [q0] at w; exact w.elim
      | some sl =>
        rw [q0] at w
        cases sl with
        | oi c' fs =>
          dsimp only at w
          by_cases hc : c' = c
          · subst hc
            rw [if_pos rfl] at w
            obtain ⟨a, dx', fs', h0, h1, h2, h3, h4, v, dd, h5⟩ := s.re.slot 0 _ q0
            have h5 : some (x, Value.none, (0 : Addr)) = some (a, v, dd) := h5
            cases h5
            exact w F' H' dx' fs' s.ex (s.re.st.at (z := C.xa)) h1 h2 (h4.at (z := C.xa))
          · rw [if_neg hc] at w; exact w.elim
        | _ => exact w.elim
    | rt v g' => rw [qr] at w; exact w.elim
    | er ce fs ρ g' => rw [qr] at w; exact fun dd σ F' H' s xd => w dd F' H' s.ex (s.re.st.at (z := C.xa)) (xd.at (z := C.xa))
    | stuck => rw [qr] at w; exact w.elim
theorem Pf.all (p : Pf P w K mg base S gm C) : ∀ k, (∀ i, FnP P w K mg base C (2 * k) i (S.nps i) ((tabK S k).call i)) ∧ ∀ c n f, (tabK S k).mak c = some (n, f) → ∃ i, InP P w K mg base C (2 * k) c i n f
  | 0 => by
    refine ⟨fun i => p.void _ _ _, fun c n f h => ?_⟩
    have h : (S.ini c).map (fun i => (S.nps i, fun _ _ => Res.stuck)) = some (n, f) := h
    cases q : S.ini c with
    | none => rw [q] at h; cases h
    | some i =>
      rw [q] at h
      obtain ⟨d, q2, q3⟩ := p.inis c i q
      obtain ⟨x, qual, st, fd, F, sc, b, ok, hini⟩ := p.defs i d q2
      have hf : f = fun _ _ => Res.stuck := by cases h; rfl
      subst hf
      exact ⟨i, ⟨fd, d.ps, FnG.void spI_stuck, b⟩, by rw [p.ini]; exact q⟩
  | k + 1 => by
    obtain ⟨h1, h2⟩ := Pf.all p k
    exact ⟨p.step h1 h2, fun c n f h => p.stepI h1 h2 h⟩
end
end DS

set_option Elab.async false
set_option linter.all false
set_option maxRecDepth 100000
set_option maxHeartbeats 4000000
/-! DS, part 17: the law, called with a script -/
namespace DS
open PySem L2 PyProof.Rows
/-- row = [script, 0, m, 0], and the rest -/
def lawRest : List Stmt → Option (Int × List Stmt)
  | .Assign [.Name x _] (.List [.Name y _, .Constant (.int a) _ _, .Constant (.int m) _ _, .Constant (.int b) _ _] _) _ :: r => if (x == ("row" : Str) && y == ("script" : Str) && a == 0 && b == 0) = true then some (m, r) else none
  | _ => none
def lawB (z : Z) (m : Int) (b : Cms) (body : List Stmt) : Bool := match lawRest body with
  | some (m', r) => m == m' && isV z 0 "script" && isL z 1 "row" && okB z b r
  | none => false
def spL (K : PySem.W.Frag) (good : List Int → Prop) : Sp := fun vs H Q _ => ∃ (a : Addr) (ns : List Int), vs = [.ref a] ∧ Only H ∧ SqL K H a (ns.map V.int) ∧ good ns ∧ ∀ H', Q (.bl true) H'
/-- the law's frame behind its first statement -/
def law0 (N : List Str) : Env := .v .scr :: .v .row :: List.replicate (N.length - 2) .no
theorem law0_no {N : List Str} {i : Nat} {s : Sl} (h : (law0 N)[i]? = some s) : s.isO = false := by
  unfold law0 at h
  match i, h with
  | 0, h => cases h; rfl
  | 1, h => cases h; rfl
  | i + 2, h =>
    have h : (List.replicate (N.length - 2) Sl.no)[i]? = some s := h
    rw [List.getElem?_replicate] at h
    split at h
    · cases h; rfl
    · cases h
section
variable {P : Program} {w : World} {K : PySem.W.Frag} {mg : Str → Option Value} {base : Heap} {gm : List (Str × Gk)}
theorem law_ok {S : List Int → Sta} {C : List Int → Addr → Addr → Cfg} {good : List Int → Prop} {k : Nat} {N : List Str} {m : Int} {b : Cms} {st : Stmt} {fa : Addr} {fd : FuncData}
    (hp : ∀ ns a R, Pf P w K mg base (S ns) gm (C ns a R)) (hC : ∀ ns a R, (C ns a R).R = R ∧ (C ns a R).S = a ∧ (C ns a R).scr = ns) (F : Fun K "law" "law" st fa fd) (sc : FnScope N ["script"] (defScope st)) (h2 : 2 ≤ N.length)
    (ok : lawB { N := N, sc := defScope st, calm := true, gm := gm, asg := none } m b (defBody st) = true)
    (hlaw : ∀ ns, good ns → ∃ g, evB (tabK (S ns) k) b (law0 N) ⟨0, m, 0⟩ = .rt (.bl true) g) : FnG P w K mg base (2 * k + 2) fa fd ["script"] (spL K good) := by
  refine F.okG sc (fun vs H Q E h => by obtain ⟨a, ns, rfl, _⟩ := h; rfl) fun cv B up s H vs Q E hr h => ?_
  obtain ⟨a, ns, rfl, only, sq, gd, q⟩ := h
  unfold lawB at ok
  split at ok
  · rename_i m' r hrest
    simp only [Bool.and_eq_true, beq_iff_eq] at ok
    obtain ⟨⟨⟨e1, e2⟩, e3⟩, e4⟩ := ok
    subst e1
    unfold lawRest at hrest
    split at hrest
    · rename_i x p1 y p2 a0 j1 p3 mm j2 p4 b0 j3 p5 p6 p7 r0 eb
      split at hrest
      · rename_i hc
        simp only [Bool.and_eq_true, beq_iff_eq] at hc
        obtain ⟨⟨⟨c1, c2⟩, c3⟩, c4⟩ := hc
        subst c1; subst c2; subst c3; subst c4
        cases hrest
        rw [eb]
        have xs := fun R => (hp ns a R).xs ((hp ns a R).all k).1 ((hp ns a R).all k).2 sc (k := k) (cv := cv) (B := B) (up := up) (s := s) (H := H) (E := E) (f := fa) hr
        obtain ⟨v1, v2, v3, v4⟩ := (xs 0).E.isV e2
        obtain ⟨l1, l2, l3⟩ := (xs 0).E.isL e3
        refine ⟨_, pss_cons (ps_set (xs 0).E.ndX l1 l2 (pe_lst (pa_cons (pe_var v1 v2 v3 v4) (pa_cons pe_int (pa_cons pe_int (pa_cons pe_int pa_nil))))) (swap_no rfl) l3)
          (⟨fun pins s' σ H' D I ⟨R, h⟩ => (sndB (tabK (S ns) k) b (C ns a R) _ _ _ (xs R) _ e4).run pins s' σ H' D I h⟩ : PSs _ r (fun D σ H => ∃ R, tSC (C ns a R) _ (evB (tabK (S ns) k) b) D σ H)), ?_⟩
        refine ⟨_, rfl, by show 4 ≤ sizeLine; decide, fun p np => ⟨p, ?_⟩⟩
        obtain ⟨hR, hS, hs⟩ := hC ns a p
        have hKc := (hp ns a p).hK
        obtain ⟨g', hg⟩ := hlaw ns gd
        have st0 : St0 (C ns a p) H (upd H p (.lst [.ref a, .int 0, .int m, .int 0])) ⟨0, m, 0⟩ := ⟨fun b o e => by rw [upd_ne (ne_of_none e np)]; exact e, by rw [hR]; exact np, by rw [hR, hS]; exact upd_same, by rw [hS, hs, ← hKc]; exact sq⟩
        refine ⟨H, H, H, law0 N, ⟨0, m, 0⟩, ⟨⟨st0, ?_, fun i sl e => ?_⟩, ⟨Sub.refl _, fun b o _ e => by rw [upd_ne (ne_of_none e np)]; exact e, fun b o e => .inl e⟩, fun i j t u x e1 e2 o1 o2 _ _ => ?_, fun i t x e o _ => ?_⟩, ?_⟩
        · unfold law0 L2.start
          simp
          omega
        · unfold law0 at e
          match i, e with
          | 0, e =>
            cases e
            refine ⟨.ref a, ?_, by have d := (Dv.scr : Dv (C ns a p) H (.ref (C ns a p).S) .scr); rw [hS] at d; exact d⟩
            rw [List.getElem?_set_ne (by decide)]
            rfl
          | 1, e =>
            cases e
            refine ⟨.ref p, ?_, by have d := (Dv.row : Dv (C ns a p) H (.ref (C ns a p).R) .row); rw [hR] at d; exact d⟩
            rw [List.getElem?_set_self]
            unfold L2.start
            simp
            omega
          | i + 2, e =>
            have e : (List.replicate (N.length - 2) Sl.no)[i]? = some sl := e
            rw [List.getElem?_replicate] at e
            split at e
            · cases e; trivial
            · cases e
        · exact absurd o1 (by rw [law0_no e1]; simp)
        · exact absurd o (by rw [law0_no e]; simp)
        · rw [hg]
          intro v F' H' _ _ dv
          cases dv
          exact q H'
      · cases hrest
    · cases hrest
  · cases ok
end
end DS
namespace DS
open PySem L2 PyProof.Rows
/-! ### the facts, entry by entry -/
def gmAll (C : Cfg) (S : Sta) (P : Program) (K : PySem.W.Frag) (mg : Str → Option Value) : List (Str × Gk) → Prop
  | [] => True
  | p :: r => GkS C S P K mg p.1 p.2 ∧ gmAll C S P K mg r
theorem gmAll.at {C : Cfg} {S : Sta} {P : Program} {K : PySem.W.Frag} {mg : Str → Option Value} : ∀ {l : List (Str × Gk)}, gmAll C S P K mg l → ∀ x k, l.lookup x = some k → GkS C S P K mg x k
  | [], _, _, _, e => by cases e
  | (y, g) :: r, h, x, k, e => by
    rw [List.lookup_cons] at e
    cases q : x == y with
    | true =>
      rw [q] at e
      cases e
      have := eq_of_beq q
      subst this
      exact h.1
    | false => rw [q] at e; exact gmAll.at h.2 x k e
/-- one def stands where it should -/
def DfOk (S : Sta) (K : PySem.W.Frag) (gm : List (Str × Gk)) (fad : Nat → Addr) (i : Nat) (d : Dfr) : Prop :=
  ∃ (x qual : Str) (st : Stmt) (fd : FuncData), Fun K x qual st (fad i) fd ∧ FnScope d.N d.ps (defScope st) ∧ Binds K fd d.ps [] ∧
    okB { N := d.N, sc := defScope st, calm := true, gm := gm, asg := none } d.b (defBody st) = true ∧ (∀ c, d.ini = some c → S.ini c = some i ∧ 0 < d.ps.length)
def dfAll (S : Sta) (K : PySem.W.Frag) (gm : List (Str × Gk)) (fad : Nat → Addr) : Nat → List Dfr → Prop
  | _, [] => True
  | i, d :: r => DfOk S K gm fad i d ∧ dfAll S K gm fad (i + 1) r
theorem dfAll.at {S : Sta} {K : PySem.W.Frag} {gm : List (Str × Gk)} {fad : Nat → Addr} : ∀ {l : List Dfr} {j : Nat}, dfAll S K gm fad j l → ∀ i d, l[i]? = some d → DfOk S K gm fad (j + i) d
  | [], _, _, _, _, e => by simp at e
  | d :: r, j, h, 0, e, q => by simp at q; subst q; exact h.1
  | d :: r, j, h, i + 1, e, q => by
    have := dfAll.at h.2 i e (by simpa using q)
    rw [show j + 1 + i = j + (i + 1) by omega] at this
    exact this
theorem DfOk.mk {S : Sta} {K : PySem.W.Frag} {gm : List (Str × Gk)} {fad : Nat → Addr} {i : Nat} {d : Dfr} {x qual : Str} {st : Stmt} {fd : FuncData} (F : Fun K x qual st (fad i) fd) (sc : FnScope d.N d.ps (defScope st)) (b : Binds K fd d.ps [])
    (ok : okB { N := d.N, sc := defScope st, calm := true, gm := gm, asg := none } d.b (defBody st) = true) (hi : ∀ c, d.ini = some c → S.ini c = some i ∧ 0 < d.ps.length) : DfOk S K gm fad i d := ⟨x, qual, st, fd, F, sc, b, ok, hi⟩
theorem getD_out {α : Type} : ∀ {l : List α} {i : Nat} {a : α}, l.length ≤ i → l.getD i a = a
  | [], _, _, _ => by simp
  | _ :: l, 0, _, h => by simp at h
  | _ :: l, i + 1, a, h => by simpa using getD_out (l := l) (i := i) (a := a) (by simpa using h)
end DS

set_option Elab.async false
set_option linter.all false
set_option maxRecDepth 100000
set_option maxHeartbeats 4000000
/-! DS: the tables of classes and errors, row by row -/
namespace DS
open PySem L2 PyProof.Rows
def allP {α : Type} (P : α → Prop) : List α → Prop
  | [] => True
  | a :: r => P a ∧ allP P r
theorem allP.at {α : Type} {P : α → Prop} : ∀ {l : List α}, allP P l → ∀ a ∈ l, P a
  | [], _, _, h => by cases h
  | b :: r, h, a, m => by
    rcases List.mem_cons.mp m with q | q
    · subst q; exact h.1
    · exact allP.at h.2 a q
def fldF (l : List (Nat × Str)) (c : Nat) : List Str := (l.filter fun p => p.1 == c).map (·.2)
def mtsF (l : List (Nat × Str × Nat)) (c : Nat) (m : Str) : Option Nat := (l.find? fun p => p.1 == c && p.2.1 == m).map (·.2.2)
def iniF (l : List (Nat × Nat)) (c : Nat) : Option Nat := (l.find? fun p => p.1 == c).map (·.2)
def baseT : List String := ["NoneType", "bool", "int", "str", "tuple", "list"]
def kitF (cl : List Nat) : Tk → Nat → Option Bool
  | .c i, c => if i ∈ cl ∧ c ∈ cl then some (i == c) else none
  | .b n, c => if n ∈ baseT ∧ c ∈ cl then some false else none
def subF (n : Nat) (c j : Nat) : Option Bool := if c < n ∧ j < n then some (c == j) else none
theorem fldF_mem {l : List (Nat × Str)} {c : Nat} {f : Str} (h : f ∈ fldF l c) : (c, f) ∈ l := by
  unfold fldF at h
  obtain ⟨p, h1, h2⟩ := List.mem_map.mp h
  obtain ⟨h3, h4⟩ := List.mem_filter.mp h1
  have := eq_of_beq h4
  subst this; subst h2
  exact h3
theorem mtsF_mem {l : List (Nat × Str × Nat)} {c : Nat} {m : Str} {i : Nat} (h : mtsF l c m = some i) : (c, m, i) ∈ l := by
  unfold mtsF at h
  obtain ⟨p, h1, h2⟩ := Option.map_eq_some_iff.mp h
  have h3 := List.find?_some h1
  have h4 := List.mem_of_find?_eq_some h1
  simp only [Bool.and_eq_true, beq_iff_eq] at h3
  obtain ⟨p1, p2, p3⟩ := p
  obtain ⟨q1, q2⟩ := h3
  dsimp only at q1 q2 h2
  subst q1; subst q2; subst h2
  exact h4
theorem iniF_mem {l : List (Nat × Nat)} {c i : Nat} (h : iniF l c = some i) : (c, i) ∈ l := by
  unfold iniF at h
  obtain ⟨p, h1, h2⟩ := Option.map_eq_some_iff.mp h
  have h3 := List.find?_some h1
  have h4 := List.mem_of_find?_eq_some h1
  have := eq_of_beq h3
  subst this; subst h2
  exact h4
theorem kit_self {K : PySem.W.Frag} {a : Addr} : PySem.W.kitOne K (.ref a) (.ref a) = some true := by
  unfold PySem.W.kitOne
  simp
theorem kit_other {K : PySem.W.Frag} {a b : Addr} (ne : a ≠ b) (me : ((PySem.W.clsIn K b).isSome && PySem.W.typeIn K (.ref b) == some (.type "type")) = true) (mo : PySem.W.mroIn K a (.ref b) = some false) : PySem.W.kitOne K (.ref a) (.ref b) = some false := by
  unfold PySem.W.kitOne
  rw [if_neg (by simpa using ne)]
  unfold PySem.W.kitCls
  dsimp only
  rw [if_pos me]
  exact mo
theorem kit_base {K : PySem.W.Frag} {n : String} {b : Addr} (hn : n ∈ baseT) (me : ((PySem.W.clsIn K b).isSome && PySem.W.typeIn K (.ref b) == some (.type "type")) = true) : PySem.W.kitOne K (.type n) (.ref b) = some false := by
  unfold PySem.W.kitOne
  rw [if_neg (by simp)]
  unfold PySem.W.kitCls
  dsimp only
  rw [if_pos me]
  have : ∃ d, tyD d = some n := by
    unfold baseT at hn
    simp only [List.mem_cons, List.not_mem_nil, or_false] at hn
    rcases hn with h | h | h | h | h | h <;> subst h
    · exact ⟨.non, rfl⟩
    · exact ⟨.bl true, rfl⟩
    · exact ⟨.int 0, rfl⟩
    · exact ⟨.str Str.empty, rfl⟩
    · exact ⟨.tup [], rfl⟩
    · exact ⟨.lst [], rfl⟩
  obtain ⟨d, hd⟩ := this
  exact mro_base hd b
theorem fx_of {C : Cfg} {fl : List (Nat × Str)} {ml : List (Nat × Str × Nat)} {il : List (Nat × Nat)} {cl : List Nat} (e1 : C.flds = fldF fl) (e2 : C.mts = mtsF ml) (e3 : C.ini = iniF il) (e4 : C.kit = kitF cl)
    (h1 : allP (fun p : Nat × Str => Cls C.K (C.cad p.1) ∧ NoAttr C.K (C.cad p.1) p.2) fl)
    (h2 : allP (fun p : Nat × Str × Nat => Cls C.K (C.cad p.1) ∧ Meth C.K (C.cad p.1) p.2.1 (C.fad p.2.2)) ml)
    (h3 : allP (fun p : Nat × Nat => Mk C.K (C.cad p.1) (C.fad p.2)) il)
    (h4 : allP (fun c : Nat => OwnTy C.K (C.cad c) ∧ ((PySem.W.clsIn C.K (C.cad c)).isSome && PySem.W.typeIn C.K (.ref (C.cad c)) == some (.type "type")) = true) cl)
    (h5 : allP (fun i : Nat => allP (fun c : Nat => i ≠ c → C.cad i ≠ C.cad c ∧ PySem.W.mroIn C.K (C.cad i) (.ref (C.cad c)) = some false) cl) cl)
    (h6 : allP (fun p : Nat × Str × Nat => p.2.1 = "__eq__" → PySem.W.findIn C.K (.ref (C.cad p.1)) "__ne__" = some (some (.builtin "object.__ne__")) ∧ PySem.W.mroIn C.K (C.cad p.1) (.type "object") = some true) ml) : Fx C where
  cls := fun c f h => by rw [e1] at h; exact h1.at _ (fldF_mem h)
  mt := fun c m i h => by rw [e2] at h; exact h2.at _ (mtsF_mem h)
  mkr := fun c i h => by rw [e3] at h; exact h3.at _ (iniF_mem h)
  own := fun c h => by
    rw [e4] at h
    have h : (if c ∈ cl ∧ c ∈ cl then some (c == c) else none) = some true := h
    split at h
    · rename_i q; exact (h4.at c q.1).1
    · cases h
  kit := fun t c k h => by
    rw [e4] at h
    cases t with
    | c i =>
      have h : (if i ∈ cl ∧ c ∈ cl then some (i == c) else none) = some k := h
      split at h
      · rename_i q
        cases h
        by_cases z : i = c
        · subst z
          rw [beq_self_eq_true]
          exact kit_self
        · rw [beq_eq_false_iff_ne.mpr z]
          obtain ⟨a1, a2⟩ := (h5.at i q.1).at c q.2 z
          exact kit_other a1 (h4.at c q.2).2 a2
      · cases h
    | b n =>
      have h : (if n ∈ baseT ∧ c ∈ cl then some false else none) = some k := h
      split at h
      · rename_i q
        cases h
        exact kit_base q.1 (h4.at c q.2).2
      · cases h
  eqo := fun c j h => by rw [e2] at h; exact h6.at _ (mtsF_mem h) rfl
theorem getD_lt {α : Type} {l : List α} {i : Nat} {a : α} (h : i < l.length) : l.getD i a = l[i] := by simp [h]
theorem getD_ge {α : Type} {l : List α} {i : Nat} {a : α} (h : l.length ≤ i) : l.getD i a = a := by simp [h]
/-- one address, one list of fields -/
theorem eri_of {cs : List Addr} {xs : List (List Str)} {a0 : Addr} {x0 : List Str} (nd : (a0 :: cs).Nodup) (hl : cs.length = xs.length) {c c' : Nat} (h : (a0 :: cs).getD c a0 = (a0 :: cs).getD c' a0) : (x0 :: xs).getD c x0 = (x0 :: xs).getD c' x0 := by
  have key : ∀ i, ∃ j, j < (a0 :: cs).length ∧ (a0 :: cs).getD i a0 = (a0 :: cs).getD j a0 ∧ (x0 :: xs).getD i x0 = (x0 :: xs).getD j x0 := fun i => by
    by_cases q : i < (a0 :: cs).length
    · exact ⟨i, q, rfl, rfl⟩
    · refine ⟨0, by simp, ?_, ?_⟩
      · rw [getD_ge (by omega)]; rfl
      · rw [getD_ge (by simp only [List.length_cons] at *; omega)]; rfl
  obtain ⟨j, h1, h2, h3⟩ := key c
  obtain ⟨j', h1', h2', h3'⟩ := key c'
  rw [h2, h2', getD_lt h1, getD_lt h1'] at h
  have := (List.getElem_inj nd).mp h
  subst this
  rw [h3, h3']
theorem erf_of {K : PySem.W.Frag} {cs : List Addr} {xs : List (List Str)} {a0 : Addr} {x0 : List Str} (hl : cs.length = xs.length) (h : allP (fun p : Addr × List Str => ∀ f ∈ p.2, XfC K p.1 ∧ PySem.W.findIn K (.ref p.1) f = some none) ((a0 :: cs).zip (x0 :: xs))) {c : Nat} {f : Str} (hf : f ∈ (x0 :: xs).getD c x0) :
    XfC K ((a0 :: cs).getD c a0) ∧ PySem.W.findIn K (.ref ((a0 :: cs).getD c a0)) f = some none := by
  by_cases q : c < (a0 :: cs).length
  · have q2 : c < (x0 :: xs).length := by simp only [List.length_cons] at *; omega
    rw [getD_lt q2] at hf
    rw [getD_lt q]
    have m : ((a0 :: cs)[c], (x0 :: xs)[c]) ∈ (a0 :: cs).zip (x0 :: xs) := by
      have hz : c < ((a0 :: cs).zip (x0 :: xs)).length := by rw [List.length_zip]; omega
      have := List.getElem_mem hz
      rwa [List.getElem_zip] at this
    exact h.at _ m f hf
  · rw [getD_ge (by simp only [List.length_cons] at *; omega)] at hf
    rw [getD_ge (by omega)]
    exact h.1 f hf
theorem sub_of {K : PySem.W.Frag} {cad : Nat → Addr} {n : Nat} (h : allP (fun i : Nat => allP (fun j : Nat => PySem.W.exmOne K (.ref (cad i)) (.ref (cad j)) = some (i == j)) (List.range n)) (List.range n)) {c j : Nat} {b : Bool} (e : subF n c j = some b) : PySem.W.exmOne K (.ref (cad c)) (.ref (cad j)) = some b := by
  unfold subF at e
  split at e
  · rename_i q
    cases e
    exact (h.at c (List.mem_range.mpr q.1)).at j (List.mem_range.mpr q.2)
  · cases e
end DS

set_option Elab.async false
set_option linter.all false
set_option maxRecDepth 100000
set_option maxHeartbeats 4000000
/-! DS, part 18: how a term is worked out by simp -/
namespace DS
open PySem L2
def stkM {α : Type} : M α := fun _ => .stuck
section
variable {α β : Type}
@[simp] theorem lft_some' (a : α) : lft (some a) = M.ret a := rfl
@[simp] theorem lft_none' : lft (none : Option α) = stkM := rfl
@[simp] theorem bind_ret (a : α) (f : α → M β) : M.bind (M.ret a) f = f a := rfl
@[simp] theorem bind_stk (f : α → M β) : M.bind stkM f = stkM := rfl
@[simp] theorem bindS_ret (a : α) (ρ : Env) (k : α → G → Rs) : bindS (M.ret a) ρ k = k a := rfl
@[simp] theorem ret_ap (a : α) (g : G) : M.ret a g = .ok a g := rfl
theorem bind_ite {c : Prop} [Decidable c] (a b : M α) (f : α → M β) : M.bind (if c then a else b) f = if c then M.bind a f else M.bind b f := by split <;> rfl
theorem bindS_ite {c : Prop} [Decidable c] (a b : M α) (ρ : Env) (k : α → G → Rs) : bindS (if c then a else b) ρ k = if c then bindS a ρ k else bindS b ρ k := by split <;> rfl
theorem bindS_bind (m : M α) (f : α → M β) (ρ : Env) (k : β → G → Rs) : bindS (M.bind m f) ρ k = bindS m ρ fun a => bindS (f a) ρ k := by
  funext g
  unfold bindS M.bind
  cases m g <;> rfl
end
def thenS (r : G → Rs) (f : MS) : G → Rs := fun g => match r g with
  | .nx ρ' g' => f ρ' g'
  | r => r
theorem evB_nil (T : Tab) (ρ : Env) : evB T .nil ρ = nxS ρ := by rw [evB]
theorem evB_cons (T : Tab) (s : Cm) (r : Cms) (ρ : Env) : evB T (.cons s r) ρ = thenS (evS T s ρ) (evB T r) := by
  rw [evB]
  rfl
theorem evB_frz (T : Tab) (i : Nat) (r : Cms) (ρ : Env) : evB T (.frz i r) ρ = evB T r (frzE i ρ) := by
  rw [evB]
  rfl
@[simp] theorem then_nx (ρ : Env) (f : MS) : thenS (nxS ρ) f = f ρ := rfl
@[simp] theorem then_rt (d : D) (f : MS) : thenS (rtS d) f = rtS d := rfl
theorem then_bind {α : Type} (m : M α) (ρ : Env) (k : α → G → Rs) (f : MS) : thenS (bindS m ρ k) f = bindS m ρ fun a => thenS (k a) f := by
  funext g
  unfold thenS bindS
  cases m g <;> rfl
theorem then_ite {c : Prop} [Decidable c] (a b : G → Rs) (f : MS) : thenS (if c then a else b) f = if c then thenS a f else thenS b f := by split <;> rfl
@[simp] theorem then_lift {α : Type} (o : Option α) (k : α → G → Rs) (f : MS) : thenS (liftS o k) f = liftS o fun a => thenS (k a) f := by
  funext g
  cases o <;> rfl
@[simp] theorem lift_some {α : Type} (a : α) (k : α → G → Rs) : liftS (some a) k = k a := rfl
/-! slots -/
@[simp] theorem envV0 (d : D) (ρ : Env) : envV (.v d :: ρ) 0 = some d := rfl
@[simp] theorem envVs (s : Sl) (ρ : Env) (i : Nat) : envV (s :: ρ) (i + 1) = envV ρ i := rfl
@[simp] theorem envO0 (d : D) (ρ : Env) : envO (.v d :: ρ) 0 = some d := rfl
@[simp] theorem envO0l (ds : List D) (ρ : Env) : envO (.ol ds :: ρ) 0 = some (.lst ds) := rfl
@[simp] theorem envOs (s : Sl) (ρ : Env) (i : Nat) : envO (s :: ρ) (i + 1) = envO ρ i := rfl
@[simp] theorem ownL0 (ds : List D) (ρ : Env) : ownL (.ol ds :: ρ) 0 = some ds := rfl
@[simp] theorem ownLs (s : Sl) (ρ : Env) (i : Nat) : ownL (s :: ρ) (i + 1) = ownL ρ i := rfl
/-! a def's run -/
theorem runF_rt {T : Tab} {d : Dfr} {ds : List D} {v : D} (h : evB T d.b (startE d.N ds) = rtS v) : runF T d ds = M.ret v := by
  funext g
  unfold runF
  rw [h]
  rfl
theorem callN_eq {n : Nat} {f : List D → M D} {ds : List D} (h : ds.length = n) : callN n f ds = f ds := by unfold callN; exact if_pos h
theorem call_step {S : Sta} {k i : Nat} {d : Dfr} {ds : List D} {v : D} (hd : S.defs[i]? = some d) (hi : d.ini = none) (h : evB (tabK S k) d.b (startE d.N ds) = rtS v) : (tabK S (k + 1)).call i ds = M.ret v := by
  show callF (tabK S k) S i ds = _
  rw [callF_some hd hi]
  exact runF_rt h
/-- while, by turns -/
theorem whileS_mono {c : Env → M Bool} {f : MS} : ∀ (n : Nat) (ρ : Env) (g : G), whileS c f n ρ g ≠ .stuck → whileS c f (n + 1) ρ g = whileS c f n ρ g
  | 0, _, _, h => absurd rfl h
  | n + 1, ρ, g, h => by
    have e : ∀ m, whileS c f (m + 1) ρ g = bindS (c ρ) ρ (fun b => if b = true then fun g => (match f ρ g with
      | .nx ρ' g' => whileS c f m ρ' g'
      | r => r) else nxS ρ) g := fun m => rfl
    rw [e (n + 1), e n]
    rw [e n] at h
    unfold bindS at h ⊢
    cases q : c ρ g with
    | ok b g1 =>
      rw [q] at h
      cases b with
      | false => rfl
      | true =>
        simp only [if_true] at h ⊢
        cases q2 : f ρ g1 with
        | nx ρ' g' =>
          rw [q2] at h
          exact whileS_mono n ρ' g' h
        | _ => rfl
    | err _ _ _ => rfl
    | stuck => rfl
theorem whileS_le {c : Env → M Bool} {f : MS} {n m : Nat} (h : n ≤ m) {ρ : Env} {g : G} (hs : whileS c f n ρ g ≠ .stuck) : whileS c f m ρ g = whileS c f n ρ g := by
  induction h with
  | refl => rfl
  | step h ih => rw [← ih, whileS_mono]; rw [ih]; exact hs
theorem whileW_eq {c : Env → M Bool} {f : MS} {n : Nat} {ρ : Env} {g : G} {r : Rs} (h : whileS c f n ρ g = r) (hr : r ≠ .stuck) : whileW c f ρ g = r := by
  unfold whileW
  have ex : ∃ n, whileS c f n ρ g ≠ .stuck := ⟨n, by rw [h]; exact hr⟩
  rw [dif_pos ex]
  have hc := ex.choose_spec
  rcases Nat.le_total ex.choose n with q | q
  · rw [← whileS_le q hc, h]
  · rw [whileS_le q (by rw [h]; exact hr), h]
/-- a turn that is taken -/
theorem while_turn {c : Env → M Bool} {f : MS} {ρ ρ' : Env} {g : G} {r : Rs} (hc : c ρ = M.ret true) (hf : f ρ = nxS ρ') (h : ∃ n, whileS c f n ρ' g = r) : ∃ n, whileS c f n ρ g = r := by
  obtain ⟨n, h⟩ := h
  refine ⟨n + 1, ?_⟩
  unfold whileS
  rw [hc, bindS_ret, if_pos rfl]
  show (match f ρ g with | .nx ρ' g' => whileS c f n ρ' g' | r => r) = r
  rw [hf]
  exact h
theorem while_end {c : Env → M Bool} {f : MS} {ρ : Env} {g : G} (hc : c ρ = M.ret false) : ∃ n, whileS c f n ρ g = .nx ρ g := by
  refine ⟨1, ?_⟩
  unfold whileS
  rw [hc, bindS_ret]
  rfl
/-- for, item by item -/
@[simp] theorem forS_nil (bd : D → Env → Option Env) (f : MS) (ρ : Env) : forS bd f [] ρ = nxS ρ := rfl
theorem forS_cons (bd : D → Env → Option Env) (f : MS) (d : D) (ds : List D) (ρ : Env) : forS bd f (d :: ds) ρ = liftS (bd d ρ) fun ρ1 => thenS (f ρ1) (forS bd f ds) := rfl
theorem compM_nil (bd : D → Env → Option Env) (c : Env → M Bool) (e : Env → M D) (ρ : Env) : compM bd c e ρ [] = M.ret [] := rfl
theorem noErr_ret {α : Type} (a : α) : noErr (M.ret a) = M.ret a := rfl
theorem compM_cons (bd : D → Env → Option Env) (cond : Env → M Bool) (elt : Env → M D) (ρ : Env) (d : D) (ds : List D) : compM bd cond elt ρ (d :: ds) = M.bind (lft (bd d ρ)) fun ρ1 => M.bind (noErr (cond ρ1)) fun b =>
      if b = true then M.bind (noErr (elt ρ1)) fun y => M.bind (compM bd cond elt ρ ds) fun r => M.ret (y :: r) else compM bd cond elt ρ ds := rfl
/-- a comprehension whose items are plain -/
theorem compM_pure {bd : D → Env → Option Env} {cond : Env → M Bool} {elt : Env → M D} {ρ : Env} {p : D → Bool} {f : D → D} : ∀ {ds : List D}, (∀ d ∈ ds, ∃ ρ1, bd d ρ = some ρ1 ∧ cond ρ1 = M.ret (p d) ∧ (p d = true → elt ρ1 = M.ret (f d))) → compM bd cond elt ρ ds = M.ret ((ds.filter p).map f)
  | [], _ => rfl
  | d :: ds, h => by
    obtain ⟨ρ1, h1, h2, h3⟩ := h d List.mem_cons_self
    have ih := compM_pure (p := p) (f := f) (ds := ds) fun x hx => h x (List.mem_cons_of_mem _ hx)
    rw [compM_cons, h1, lft_some', bind_ret, h2, noErr_ret, bind_ret]
    cases q : p d with
    | true => rw [if_pos rfl, h3 q, noErr_ret, bind_ret, ih, bind_ret, List.filter_cons_of_pos q]; rfl
    | false => rw [if_neg (by simp), ih, List.filter_cons_of_neg (by simp [q])]
end DS

set_option Elab.async false
set_option linter.all false
set_option maxRecDepth 100000
set_option maxHeartbeats 4000000
/-! DS, part 19: working a term out, step by step: P what is to hold of the result, X what of an error -/
namespace DS
open PySem L2
def WM {α : Type} (m : M α) (g : G) (P : α → G → Prop) (X : Nat → List D → G → Prop) : Prop := match m g with
  | .ok a g' => P a g'
  | .err c fs g' => X c fs g'
  | .stuck => False
def WR (r : Rs) (N : Env → G → Prop) (R : D → G → Prop) (X : Nat → List D → Env → G → Prop) : Prop := match r with
  | .nx ρ g => N ρ g
  | .rt d g => R d g
  | .er c fs ρ g => X c fs ρ g
  | .stuck => False
section
variable {α β : Type} {T : Tab} {ρ : Env} {g : G} {P : D → G → Prop} {PB : Bool → G → Prop} {PL : List D → G → Prop} {X : Nat → List D → G → Prop} {N : Env → G → Prop} {R : D → G → Prop} {XS : Nat → List D → Env → G → Prop} {a b c : Ex} {as : Exs}
theorem wm_bind {m : M α} {k : α → M β} {P : β → G → Prop} (h : WM m g (fun x g1 => WM (k x) g1 P X) X) : WM (M.bind m k) g P X := by
  unfold WM M.bind at *
  cases q : m g with
  | ok x g1 => rw [q] at h; exact h
  | err _ _ _ => rw [q] at h; exact h
  | stuck => rw [q] at h; exact h.elim
theorem wm_ret {x : α} {P : α → G → Prop} (h : P x g) : WM (M.ret x) g P X := h
theorem wm_lft {o : Option α} {x : α} {P : α → G → Prop} (e : o = some x) (h : P x g) : WM (lft o) g P X := by rw [e]; exact h
theorem wm_mono {m : M α} {P Q : α → G → Prop} {X Y : Nat → List D → G → Prop} (h : WM m g P X) (k : ∀ x g, P x g → Q x g) (l : ∀ c fs g, X c fs g → Y c fs g) : WM m g Q Y := by
  unfold WM at *
  cases q : m g with
  | ok x g1 => rw [q] at h; exact k _ _ h
  | err _ _ _ => rw [q] at h; exact l _ _ _ h
  | stuck => rw [q] at h; exact h
theorem wm_of {m : M α} {x : α} {g' : G} {P : α → G → Prop} (e : m g = .ok x g') (h : P x g') : WM m g P X := by unfold WM; rw [e]; exact h
theorem wm_eq {m m' : M α} {P : α → G → Prop} (e : m = m') (h : WM m' g P X) : WM m g P X := by rw [e]; exact h
theorem wm_get {m : M α} {P : α → G → Prop} (h : WM m g P fun _ _ _ => False) : ∃ x g', m g = .ok x g' ∧ P x g' := by
  unfold WM at h
  cases q : m g with
  | ok x g1 => rw [q] at h; exact ⟨x, g1, rfl, h⟩
  | err _ _ _ => rw [q] at h; exact h.elim
  | stuck => rw [q] at h; exact h.elim
/-! expressions -/
theorem we_v {i : Nat} {d : D} (e : envV ρ i = some d) (h : P d g) : WM (evE T (.v i) ρ) g P X := by rw [evE]; exact wm_lft e h
theorem we_o {i : Nat} {d : D} (e : envO ρ i = some d) (h : P d g) : WM (evE T (.o i) ρ) g P X := by rw [evE]; exact wm_lft e h
theorem we_non (h : P .non g) : WM (evE T .non ρ) g P X := by rw [evE]; exact h
theorem we_bl {k : Bool} (h : P (.bl k) g) : WM (evE T (.bl k) ρ) g P X := by rw [evE]; exact h
theorem we_int {k : Int} (h : P (.int k) g) : WM (evE T (.int k) ρ) g P X := by rw [evE]; exact h
theorem we_str {k : Str} (h : P (.str k) g) : WM (evE T (.str k) ρ) g P X := by rw [evE]; exact h
theorem we_ty {k : String} (h : P (.ty k) g) : WM (evE T (.ty k) ρ) g P X := by rw [evE]; exact h
theorem we_neg (h : WM (evE T a ρ) g (fun x g1 => ∃ i, x = .int i ∧ P (.int (-i)) g1) X) : WM (evE T (.neg a) ρ) g P X := by
  rw [evE]; exact wm_bind (wm_mono h (fun x g1 ⟨i, e, k⟩ => wm_lft (by rw [e]; rfl) k) fun _ _ _ k => k)
theorem we_not (h : WM (evE T a ρ) g (fun x g1 => ∃ i, x = .bl i ∧ P (.bl (!i)) g1) X) : WM (evE T (.not a) ρ) g P X := by
  rw [evE]; exact wm_bind (wm_mono h (fun x g1 ⟨i, e, k⟩ => wm_lft (by rw [e]; rfl) k) fun _ _ _ k => k)
def PO (op : Bop) (x y : D) (K : D → Prop) : Prop := ∃ d, bopS op x y = some d ∧ K d
theorem we_bin {op : Bop} (h : WM (evE T a ρ) g (fun x g1 => WM (evE T b ρ) g1 (fun y g2 => PO op x y fun d => P d g2) X) X) : WM (evE T (.bin op a b) ρ) g P X := by
  rw [evE]; exact wm_bind (wm_mono h (fun x g1 h => wm_bind (wm_mono h (fun y g2 ⟨d, e, k⟩ => wm_lft e k) fun _ _ _ k => k)) fun _ _ _ k => k)
theorem po_add {i j : Int} {K : D → Prop} (h : K (.int (i + j))) : PO .add (.int i) (.int j) K := ⟨_, rfl, h⟩
theorem po_sub {i j : Int} {K : D → Prop} (h : K (.int (i - j))) : PO .sub (.int i) (.int j) K := ⟨_, rfl, h⟩
theorem po_mul {i j : Int} {K : D → Prop} (c : (-(2 ^ 64) < i ∧ i < 2 ^ 64) ∨ (-(2 ^ 64) < j ∧ j < 2 ^ 64)) (h : K (.int (i * j))) : PO .mul (.int i) (.int j) K := by
  have e : okMul i j = true := by
    unfold okMul
    rcases c with c | c
    · rw [decide_eq_true c, Bool.true_or]
    · rw [decide_eq_true c, Bool.or_true]
  have e2 : mulI (.int i) (.int j) = some (.int (i * j)) := by show (if okMul i j = true then some (D.int (i * j)) else none) = _; rw [if_pos e]
  exact ⟨.int (i * j), by show orS mulI repS _ _ = _; unfold orS; rw [e2], h⟩
theorem po_div {i j : Int} {K : D → Prop} (c : 0 < j ∧ j < 1073741824) (h : K (.int (i / j))) : PO .fdiv (.int i) (.int j) K := by
  have e : okDiv i j = true := decide_eq_true (by omega)
  refine ⟨.int (i.fdiv j), by show (if okDiv i j = true then some (D.int (i.fdiv j)) else none) = _; rw [if_pos e], ?_⟩
  rw [Int.fdiv_eq_ediv_of_nonneg _ (by omega)]
  exact h
theorem po_mod {i j : Int} {K : D → Prop} (c : 0 < j) (h : K (.int (i % j))) : PO .mod (.int i) (.int j) K := by
  have e : okMod i j = true := decide_eq_true (by omega)
  refine ⟨.int (i.fmod j), by show (if okMod i j = true then some (D.int (i.fmod j)) else none) = _; rw [if_pos e], ?_⟩
  rw [Int.fmod_eq_emod_of_nonneg _ (by omega)]
  exact h
theorem po_pow {i j : Int} {K : D → Prop} (c : 0 ≤ j ∧ j ≤ 1000000 ∧ i.natAbs < 2 ^ 64) (h : K (.int (i ^ j.toNat))) : PO .pow (.int i) (.int j) K := by
  have e : okPow i j = true := decide_eq_true c
  exact ⟨.int (i ^ j.toNat), by show (if okPow i j = true then some (D.int (i ^ j.toNat)) else none) = _; rw [if_pos e], h⟩
theorem po_lst {x y : List D} {K : D → Prop} (c : x.length + y.length ≤ sizeLine) (h : K (.lst (x ++ y))) : PO .add (.lst x) (.lst y) K :=
  ⟨.lst (x ++ y), by show (if x.length + y.length ≤ sizeLine then some (D.lst (x ++ y)) else none) = _; rw [if_pos c], h⟩
theorem po_tup {x y : List D} {K : D → Prop} (c : x.length + y.length ≤ sizeLine) (h : K (.tup (x ++ y))) : PO .add (.tup x) (.tup y) K :=
  ⟨.tup (x ++ y), by show (if x.length + y.length ≤ sizeLine then some (D.tup (x ++ y)) else none) = _; rw [if_pos c], h⟩
def PC (op : CmpOp) (x y : D) (K : Bool → Prop) : Prop := ∃ k, cmpS op x y = some (.bl k) ∧ K k
theorem we_cmp {op : CmpOp} (h : WM (evE T a ρ) g (fun x g1 => WM (evE T b ρ) g1 (fun y g2 => PC op x y fun d => P (.bl d) g2) X) X) : WM (evE T (.cmp op a b) ρ) g P X := by
  rw [evE]; exact wm_bind (wm_mono h (fun x g1 h => wm_bind (wm_mono h (fun y g2 ⟨d, e, k⟩ => wm_lft e k) fun _ _ _ k => k)) fun _ _ _ k => k)
theorem we_chain {op op' : CmpOp} (h : WM (evE T a ρ) g (fun x g1 => WM (evE T b ρ) g1 (fun y g2 => PC op x y fun d => (d = true → WM (evE T c ρ) g2 (fun z g3 => PC op' y z fun d => P (.bl d) g3) X) ∧ (d = false → P (.bl false) g2)) X) X) : WM (evE T (.chain op op' a b c) ρ) g P X := by
  rw [evE]
  refine wm_bind (wm_mono h (fun x g1 h => wm_bind (wm_mono h (fun y g2 ⟨d, e, k1, k2⟩ => wm_bind (wm_lft e ?_)) fun _ _ _ k => k)) fun _ _ _ k => k)
  refine wm_bind (wm_lft (x := d) rfl ?_)
  cases d with
  | true => rw [if_pos rfl]; exact wm_bind (wm_mono (k1 rfl) (fun z g3 ⟨d, e, k⟩ => wm_lft e k) fun _ _ _ k => k)
  | false => rw [if_neg (by simp)]; exact k2 rfl
theorem pc_lt {i j : Int} {K : Bool → Prop} (h : K (decide (i < j))) : PC .Lt (.int i) (.int j) K := ⟨_, rfl, h⟩
theorem pc_le {i j : Int} {K : Bool → Prop} (h : K (decide (i ≤ j))) : PC .LtE (.int i) (.int j) K := ⟨_, rfl, h⟩
theorem pc_gt {i j : Int} {K : Bool → Prop} (h : K (decide (j < i))) : PC .Gt (.int i) (.int j) K := ⟨_, rfl, h⟩
theorem pc_ge {i j : Int} {K : Bool → Prop} (h : K (decide (j ≤ i))) : PC .GtE (.int i) (.int j) K := ⟨_, rfl, h⟩
theorem we_one (h : WM (evE T a ρ) g P X) : WM (evE T (.one a) ρ) g P X := by rw [evE]; exact h
theorem we_and (h : WM (evE T a ρ) g (fun x g1 => ∃ k, x = .bl k ∧ (k = true → WM (evE T b ρ) g1 P X) ∧ (k = false → P (.bl false) g1)) X) : WM (evE T (.and a b) ρ) g P X := by
  rw [evE]
  refine wm_bind (wm_mono h (fun x g1 ⟨k, e, h1, h2⟩ => wm_bind (wm_lft (x := k) (by rw [e]; rfl) ?_)) fun _ _ _ k => k)
  cases k with
  | true => rw [if_pos rfl]; exact h1 rfl
  | false => rw [if_neg (by simp)]; exact h2 rfl
theorem we_or (h : WM (evE T a ρ) g (fun x g1 => ∃ k, x = .bl k ∧ (k = true → P (.bl true) g1) ∧ (k = false → WM (evE T b ρ) g1 P X)) X) : WM (evE T (.or a b) ρ) g P X := by
  rw [evE]
  refine wm_bind (wm_mono h (fun x g1 ⟨k, e, h1, h2⟩ => wm_bind (wm_lft (x := k) (by rw [e]; rfl) ?_)) fun _ _ _ k => k)
  cases k with
  | true => rw [if_pos rfl]; exact h1 rfl
  | false => rw [if_neg (by simp)]; exact h2 rfl
theorem wt_val (h : WM (evE T a ρ) g (fun x g1 => ∃ k, x = .bl k ∧ PB k g1) X) : WM (evT T a ρ) g PB X :=
  wm_bind (wm_mono h (fun x g1 ⟨k, e, h⟩ => wm_lft (by rw [e]; rfl) h) fun _ _ _ k => k)
theorem wt_one (h : WM (evT T a ρ) g PB X) : WM (evT T (.one a) ρ) g PB X := by rw [evT_one]; exact h
theorem wt_and (h : WM (evT T a ρ) g (fun k g1 => (k = true → WM (evT T b ρ) g1 PB X) ∧ (k = false → PB false g1)) X) : WM (evT T (.and a b) ρ) g PB X := by
  rw [evT_and]
  refine wm_bind (wm_mono h (fun k g1 ⟨h1, h2⟩ => ?_) fun _ _ _ k => k)
  cases k with
  | true => rw [if_pos rfl]; exact h1 rfl
  | false => rw [if_neg (by simp)]; exact h2 rfl
theorem wt_or (h : WM (evT T a ρ) g (fun k g1 => (k = true → PB true g1) ∧ (k = false → WM (evT T b ρ) g1 PB X)) X) : WM (evT T (.or a b) ρ) g PB X := by
  rw [evT_or]
  refine wm_bind (wm_mono h (fun k g1 ⟨h1, h2⟩ => ?_) fun _ _ _ k => k)
  cases k with
  | true => rw [if_pos rfl]; exact h1 rfl
  | false => rw [if_neg (by simp)]; exact h2 rfl
theorem wt_not (h : WM (evT T a ρ) g (fun k g1 => PB (!k) g1) X) : WM (evT T (.not a) ρ) g PB X := by
  rw [evT_not]
  exact wm_bind (wm_mono h (fun k g1 h => h) fun _ _ _ k => k)
theorem we_ite (h : WM (evT T c ρ) g (fun k g1 => (k = true → WM (evE T a ρ) g1 P X) ∧ (k = false → WM (evE T b ρ) g1 P X)) X) : WM (evE T (.ite c a b) ρ) g P X := by
  rw [evE]
  refine wm_bind (wm_mono (show WM (M.bind (evE T c ρ) fun x => lft (blD x)) g _ X from h) (fun k g1 ⟨h1, h2⟩ => ?_) fun _ _ _ k => k)
  cases k with
  | true => rw [if_pos rfl]; exact h1 rfl
  | false => rw [if_neg (by simp)]; exact h2 rfl
theorem we_nil (h : PL [] g) : WM (evEs T .nil ρ) g PL X := by rw [evEs]; exact h
theorem we_cons (h : WM (evE T a ρ) g (fun x g1 => WM (evEs T as ρ) g1 (fun xs g2 => PL (x :: xs) g2) X) X) : WM (evEs T (.cons a as) ρ) g PL X := by
  rw [evEs]; exact wm_bind (wm_mono h (fun x g1 h => wm_bind (wm_mono h (fun y g2 k => k) fun _ _ _ k => k)) fun _ _ _ k => k)
theorem we_tup (h : WM (evEs T as ρ) g (fun ds g1 => ds.length ≤ sizeLine ∧ P (.tup ds) g1) X) : WM (evE T (.tup as) ρ) g P X := by
  rw [evE]; exact wm_bind (wm_mono h (fun ds g1 ⟨c, k⟩ => wm_lft (by rw [if_pos c]) k) fun _ _ _ k => k)
theorem we_ow {l : Lx} (h : WM (evL T l ρ) g (fun ds g1 => P (.lst ds) g1) X) : WM (evE T (.ow l) ρ) g P X := by
  rw [evE]; exact wm_bind (wm_mono h (fun ds g1 k => k) fun _ _ _ k => k)
theorem wl_lst (h : WM (evEs T as ρ) g (fun ds g1 => ds.length ≤ sizeLine ∧ PL ds g1) X) : WM (evL T (.lst as) ρ) g PL X := by
  rw [evL]; exact wm_bind (wm_mono h (fun ds g1 ⟨c, k⟩ => by unfold szM; exact wm_lft (by rw [if_pos c]) k) fun _ _ _ k => k)
theorem wl_lc {elt : Ex} {tg : Tg} {it : Ix} {cond : Ox} (h : WM (evI T it ρ) g (fun ds g1 => ds.length ≤ sizeLine ∧ WM (compM tg.bind (evC T cond) (evE T elt) (wipeE ρ tg.slots) ds) g1 PL X) X) : WM (evL T (.lc elt tg it cond) ρ) g PL X := by
  rw [evL]; exact wm_bind (wm_mono h (fun ds g1 ⟨c, k⟩ => wm_bind (by unfold szM; exact wm_lft (by rw [if_pos c]) k)) fun _ _ _ k => k)
theorem wi_any (h : WM (evE T a ρ) g (fun x g1 => ∃ ds, itemsD x = some ds ∧ PL ds g1) X) : WM (evI T (.any a) ρ) g PL X := by
  rw [evI]; exact wm_bind (wm_mono h (fun x g1 ⟨ds, e, k⟩ => wm_lft e k) fun _ _ _ k => k)
theorem wi_r1 (h : WM (evE T a ρ) g (fun x g1 => ∃ n, x = .int n ∧ (-(2 ^ 62) ≤ n ∧ n < 2 ^ 62) ∧ PL (rngD 0 n.toNat) g1) X) : WM (evI T (.rg (.r1 a)) ρ) g PL X := by
  rw [evI]; exact wm_bind (wm_mono h (fun x g1 ⟨n, e, c, k⟩ => wm_lft (by rw [e]; show (if okR n = true then some _ else none) = _; have c' : okR n = true := decide_eq_true c; rw [if_pos c']) k) fun _ _ _ k => k)
theorem wi_r2 (h : WM (evE T a ρ) g (fun x g1 => WM (evE T b ρ) g1 (fun y g2 => ∃ n m, x = .int n ∧ y = .int m ∧ ((-(2 ^ 62) ≤ n ∧ n < 2 ^ 62) ∧ (-(2 ^ 62) ≤ m ∧ m < 2 ^ 62)) ∧ PL (rngD n (m - n).toNat) g2) X) X) : WM (evI T (.rg (.r2 a b)) ρ) g PL X := by
  rw [evI]; exact wm_bind (wm_mono h (fun x g1 h => wm_bind (wm_mono h (fun y g2 ⟨n, m, e1, e2, c, k⟩ => wm_lft (by rw [e1, e2]; show (if okR n = true ∧ okR m = true then some _ else none) = _; have c1 : okR n = true := decide_eq_true c.1; have c2 : okR m = true := decide_eq_true c.2; rw [if_pos ⟨c1, c2⟩]) k) fun _ _ _ k => k)) fun _ _ _ k => k)
theorem we_ix (h : WM (evE T a ρ) g (fun x g1 => WM (evE T b ρ) g1 (fun y g2 => WM (ixS T.scr x y) g2 P X) X) X) : WM (evE T (.ix a b) ρ) g P X := by
  rw [evE]; exact wm_bind (wm_mono h (fun x g1 h => wm_bind (wm_mono h (fun y g2 k => k) fun _ _ _ k => k)) fun _ _ _ k => k)
theorem ix_tup {scr : List Int} {ds : List D} {i : Int} {d : D} (e : atI ds i = some d) (h : P d g) : WM (ixS scr (.tup ds) (.int i)) g P X := wm_lft e h
theorem ix_lst {scr : List Int} {ds : List D} {i : Int} {d : D} (e : atI ds i = some d) (h : P d g) : WM (ixS scr (.lst ds) (.int i)) g P X := wm_lft e h
theorem ix_scr {scr : List Int} {i d : Int} (e : atI scr i = some d) (h : P (.int d) g) : WM (ixS scr .scr (.int i)) g P X := wm_lft (by rw [e]; rfl) h
theorem ix_row0 {scr : List Int} (h : P .scr g) : WM (ixS scr .row (.int 0)) g P X := h
theorem ix_row1 {scr : List Int} (h : P (.int g.i) g) : WM (ixS scr .row (.int 1)) g P X := h
theorem ix_row2 {scr : List Int} (h : P (.int g.m) g) : WM (ixS scr .row (.int 2)) g P X := h
theorem ix_row3 {scr : List Int} (h : P (.int g.r) g) : WM (ixS scr .row (.int 3)) g P X := h
theorem we_call {i : Nat} (h : WM (evEs T as ρ) g (fun ds g1 => WM (callN (T.nps i) (T.call i) ds) g1 P X) X) : WM (evE T (.call i as) ρ) g P X := by
  rw [evE]; exact wm_bind (wm_mono h (fun ds g1 k => k) fun _ _ _ k => k)
theorem we_bi {k : Bi} (h : WM (evEs T as ρ) g (fun ds g1 => ∃ d, biS T.scr k ds = some d ∧ P d g1) X) : WM (evE T (.bi k as) ρ) g P X := by
  rw [evE]; exact wm_bind (wm_mono h (fun ds g1 ⟨d, e, k⟩ => wm_lft e k) fun _ _ _ k => k)
theorem we_isT {ts : Exs} (h : WM (evE T a ρ) g (fun x g1 => WM (evEs T ts ρ) g1 (fun ds g2 => ds.length ≤ sizeLine ∧ ∃ k, isiT x ds = some (.bl k) ∧ P (.bl k) g2) X) X) : WM (evE T (.isT a ts) ρ) g P X := by
  rw [evE]
  exact wm_bind (wm_mono h (fun x g1 h => wm_bind (wm_mono h (fun ds g2 ⟨c, d, e, k⟩ => wm_bind (by unfold szM; exact wm_lft (by rw [if_pos c]) (wm_lft e k))) fun _ _ _ k => k)) fun _ _ _ k => k)
/-! tests known -/
theorem if_dec {p : Prop} [Decidable p] {A B : Prop} (h1 : p → A) (h2 : ¬ p → B) : (decide p = true → A) ∧ (decide p = false → B) := ⟨fun h => h1 (of_decide_eq_true h), fun h => h2 (of_decide_eq_false h)⟩
theorem if_tt {A B : Prop} (h : A) : (true = true → A) ∧ (true = false → B) := ⟨fun _ => h, fun z => by cases z⟩
theorem if_ff {A B : Prop} (h : B) : (false = true → A) ∧ (false = false → B) := ⟨(fun z => by cases z), fun _ => h⟩
theorem if_not {k : Bool} {A B : Prop} (h : (k = true → B) ∧ (k = false → A)) : ((!k) = true → A) ∧ ((!k) = false → B) := by
  cases k with
  | true => exact ⟨(fun z => by cases z), fun _ => h.1 rfl⟩
  | false => exact ⟨fun _ => h.2 rfl, fun z => by cases z⟩
/-! statements -/
theorem wr_nil (h : N ρ g) : WR (evB T .nil ρ g) N R XS := by rw [evB_nil]; exact h
theorem wr_frz {i : Nat} {r : Cms} (h : WR (evB T r (frzE i ρ) g) N R XS) : WR (evB T (.frz i r) ρ g) N R XS := by rw [evB_frz]; exact h
theorem wr_cons {s : Cm} {r : Cms} (h : WR (evS T s ρ g) (fun ρ1 g1 => WR (evB T r ρ1 g1) N R XS) R XS) : WR (evB T (.cons s r) ρ g) N R XS := by
  rw [evB]
  unfold seqS
  unfold WR at h
  cases q : evS T s ρ g with
  | nx ρ1 g1 => rw [q] at h; exact h
  | rt d g1 => rw [q] at h; exact h
  | er c fs ρ1 g1 => rw [q] at h; exact h
  | stuck => rw [q] at h; exact h
theorem wr_bind {m : M α} {k : α → G → Rs} (h : WM m g (fun x g1 => WR (k x g1) N R XS) (fun c fs g1 => XS c fs ρ g1)) : WR (bindS m ρ k g) N R XS := by
  unfold bindS
  unfold WM at h
  cases q : m g with
  | ok x g1 => rw [q] at h; exact h
  | err _ _ _ => rw [q] at h; exact h
  | stuck => rw [q] at h; exact h.elim
theorem ws_pass (h : N ρ g) : WR (evS T .pass ρ g) N R XS := by rw [evS]; exact h
theorem ws_expr (h : WM (evE T a ρ) g (fun _ g1 => N ρ g1) (fun c fs g1 => XS c fs ρ g1)) : WR (evS T (.expr a) ρ g) N R XS := by rw [evS]; exact wr_bind h
theorem ws_ret (h : WM (evE T a ρ) g R (fun c fs g1 => XS c fs ρ g1)) : WR (evS T (.ret a) ρ g) N R XS := by rw [evS]; exact wr_bind h
theorem ws_ife {x y : Cms} (h : WM (evT T c ρ) g (fun k g1 => (k = true → WR (evB T x ρ g1) N R XS) ∧ (k = false → WR (evB T y ρ g1) N R XS)) (fun c fs g1 => XS c fs ρ g1)) : WR (evS T (.ife c x y) ρ g) N R XS := by
  rw [evS]
  refine wr_bind (wm_mono h (fun k g1 ⟨h1, h2⟩ => ?_) fun _ _ _ k => k)
  cases k with
  | true => rw [if_pos rfl]; exact h1 rfl
  | false => rw [if_neg (by simp)]; exact h2 rfl
theorem ws_set {i : Nat} (h : WM (evE T a ρ) g (fun d g1 => N (ρ.set i (.v d)) g1) (fun c fs g1 => XS c fs ρ g1)) : WR (evS T (.set i a) ρ g) N R XS := by rw [evS]; exact wr_bind h
theorem ws_setL {i : Nat} {l : Lx} (h : WM (evL T l ρ) g (fun d g1 => N (ρ.set i (.ol d)) g1) (fun c fs g1 => XS c fs ρ g1)) : WR (evS T (.setL i l) ρ g) N R XS := by rw [evS]; exact wr_bind h
theorem ws_setW {i : Nat} {l : Lx} (h : WM (evL T l ρ) g (fun d g1 => N (ρ.set i (.v (.lst d))) g1) (fun c fs g1 => XS c fs ρ g1)) : WR (evS T (.setW i l) ρ g) N R XS := by
  rw [evS]; exact wr_bind (wm_bind (wm_mono h (fun d g1 k => k) fun _ _ _ k => k))
theorem ws_par {i j : Nat} (h : WM (evEs T as ρ) g (fun ds g1 => ∃ d e, ds = [d, e] ∧ N ((ρ.set i (.v d)).set j (.v e)) g1) (fun c fs g1 => XS c fs ρ g1)) : WR (evS T (.par i j as) ρ g) N R XS := by
  rw [evS]; exact wr_bind (wm_mono h (fun ds g1 ⟨d, e, q, k⟩ => by rw [q]; exact k) fun _ _ _ k => k)
theorem ws_asg {t : Tg} (h : WM (evE T a ρ) g (fun d g1 => ∃ ρ', t.bind d ρ = some ρ' ∧ N ρ' g1) (fun c fs g1 => XS c fs ρ g1)) : WR (evS T (.asg t a) ρ g) N R XS := by
  rw [evS]; exact wr_bind (wm_mono h (fun d g1 ⟨ρ', q, k⟩ => by rw [q]; exact k) fun _ _ _ k => k)
theorem ws_row {i : Nat} {e : Int} (hr : ρ[i]? = some (.v .row)) (h : WM (evE T a ρ) g (fun d g1 => ∃ n g2, d = .int n ∧ rowAt g1 n e = some g2 ∧ N ρ g2) (fun c fs g1 => XS c fs ρ g1)) : WR (evS T (.setAt i (.int e) a) ρ g) N R XS := by
  rw [evS]
  refine wr_bind (wm_mono h (fun d g1 ⟨n, g2, q1, q2, k⟩ => ?_) fun _ _ _ k => k)
  subst q1
  have e1 : own1 ρ i = some () := by unfold own1; rw [hr]
  rw [e1]
  show WR (bindS (evE T (.int e) ρ) ρ (fun ix => DS.setAt i ρ (.int n) ix) g1) N R XS
  rw [evE]
  show WR (DS.setAt i ρ (.int n) (.int e) g1) N R XS
  unfold DS.setAt
  rw [hr]
  dsimp only
  rw [q2]
  exact k
theorem ws_for {t : Tg} {it : Ix} {b : Cms} (h : WM (evI T it ρ) g (fun ds g1 => WR (forS t.bind (evB T b) ds ρ g1) N R XS) (fun c fs g1 => XS c fs ρ g1)) : WR (evS T (.for t it b) ρ g) N R XS := by rw [evS]; exact wr_bind h
theorem wr_for_nil {bd : D → Env → Option Env} {f : MS} (h : N ρ g) : WR (forS bd f [] ρ g) N R XS := h
theorem wr_for_cons {bd : D → Env → Option Env} {f : MS} {d : D} {ds : List D} {ρ1 : Env} (e : bd d ρ = some ρ1) (h : WR (f ρ1 g) (fun ρ2 g2 => WR (forS bd f ds ρ2 g2) N R XS) R XS) : WR (forS bd f (d :: ds) ρ g) N R XS := by
  rw [forS_cons, e, lift_some]
  unfold thenS
  unfold WR at h
  cases q : f ρ1 g with
  | nx ρ1 g1 => rw [q] at h; exact h
  | rt d g1 => rw [q] at h; exact h
  | er c fs ρ1 g1 => rw [q] at h; exact h
  | stuck => rw [q] at h; exact h
theorem wr_mono {r : Rs} {N N' : Env → G → Prop} {R R' : D → G → Prop} {XS XS' : Nat → List D → Env → G → Prop} (h : WR r N R XS) (k1 : ∀ ρ g, N ρ g → N' ρ g) (k2 : ∀ d g, R d g → R' d g) (k3 : ∀ c fs ρ g, XS c fs ρ g → XS' c fs ρ g) : WR r N' R' XS' := by
  cases r with
  | nx ρ g => exact k1 _ _ h
  | rt d g => exact k2 _ _ h
  | er c fs ρ g => exact k3 _ _ _ _ h
  | stuck => exact h
/-- a loop by its invariant: I of what is left -/
theorem wr_for {bd : D → Env → Option Env} {f : MS} (I : List D → Env → G → Prop) (step : ∀ d ds ρ g, I (d :: ds) ρ g → ∃ ρ1, bd d ρ = some ρ1 ∧ WR (f ρ1 g) (I ds) R XS) (fin : ∀ ρ g, I [] ρ g → N ρ g) : ∀ (ds : List D) (ρ : Env) (g : G), I ds ρ g → WR (forS bd f ds ρ g) N R XS
  | [], ρ, g, h => fin ρ g h
  | d :: ds, ρ, g, h => by
    obtain ⟨ρ1, e, w⟩ := step d ds ρ g h
    exact wr_for_cons e (wr_mono w (fun ρ g k => wr_for I step fin ds ρ g k) (fun _ _ k => k) fun _ _ _ _ k => k)
/-- .. and a while, by a measure -/
theorem wr_while {c : Ex} {b : Cms} (I : Nat → Env → G → Prop) (step : ∀ n ρ g, I n ρ g → WM (evT T c ρ) g (fun k g1 => (k = true → WR (evB T b ρ g1) (fun ρ2 g2 => ∃ m, m < n ∧ I m ρ2 g2) R XS) ∧ (k = false → N ρ g1)) (fun c fs g1 => XS c fs ρ g1)) :
    ∀ (n : Nat) (ρ : Env) (g : G), I n ρ g → WR (evS T (.while c b) ρ g) N R XS := by
  have go : ∀ (n : Nat) (ρ : Env) (g : G), I n ρ g → WR (whileS (evT T c) (evB T b) (n + 1) ρ g) N R XS := by
    intro n
    induction n using Nat.strongRecOn with
    | ind n ih =>
      intro ρ g h
      have w := step n ρ g h
      have e : whileS (evT T c) (evB T b) (n + 1) ρ g = bindS (evT T c ρ) ρ (fun k => if k = true then fun g => (match evB T b ρ g with
        | .nx ρ' g' => whileS (evT T c) (evB T b) n ρ' g'
        | r => r) else nxS ρ) g := rfl
      rw [e]
      refine wr_bind (wm_mono w (fun k g1 ⟨h1, h2⟩ => ?_) fun _ _ _ k => k)
      cases k with
      | false => exact h2 rfl
      | true =>
        rw [if_pos rfl]
        have w1 := h1 rfl
        show WR (match evB T b ρ g1 with
          | .nx ρ' g' => whileS (evT T c) (evB T b) n ρ' g'
          | r => r) N R XS
        unfold WR at w1
        cases q : evB T b ρ g1 with
        | nx ρ2 g2 =>
          rw [q] at w1
          obtain ⟨m, hm, hI⟩ := w1
          have w2 := ih m hm ρ2 g2 hI
          have ns : whileS (evT T c) (evB T b) (m + 1) ρ2 g2 ≠ .stuck := fun z => by rw [z] at w2; exact w2
          show WR (whileS (evT T c) (evB T b) n ρ2 g2) N R XS
          rw [whileS_le (n := m + 1) (m := n) hm ns]
          exact w2
        | rt d g2 => rw [q] at w1; exact w1
        | er c fs ρ2 g2 => rw [q] at w1; exact w1
        | stuck => rw [q] at w1; exact w1
  intro n ρ g h
  have w := go n ρ g h
  rw [evS, whileW_eq rfl (fun z => by rw [z] at w; exact w)]
  exact w
/-- a def's promise in these terms -/
theorem wc_def {S : Sta} {k i : Nat} {d : Dfr} {ds : List D} (hd : S.defs[i]? = some d) (hi : d.ini = none) (hl : ds.length = S.nps i) (h : WR (evB (tabK S k) d.b (startE d.N ds) g) (fun _ g1 => P .non g1) P (fun c fs _ g1 => X c fs g1)) : WM (callN ((tabK S (k + 1)).nps i) ((tabK S (k + 1)).call i) ds) g P X := by
  have e : callN ((tabK S (k + 1)).nps i) ((tabK S (k + 1)).call i) ds = runF (tabK S k) d ds := by
    rw [callN_eq (by rw [tabK_nps]; exact hl)]
    show callF (tabK S k) S i ds = _
    rw [callF_some hd hi]
  rw [e]
  unfold WM runF
  unfold WR at h
  cases q : evB (tabK S k) d.b (startE d.N ds) g with
  | nx ρ1 g1 => rw [q] at h; exact h
  | rt d g1 => rw [q] at h; exact h
  | er c fs ρ1 g1 => rw [q] at h; exact h
  | stuck => rw [q] at h; exact h
theorem pc_eqI {i j : Int} {K : Bool → Prop} (h : K (decide (i = j))) : PC .Eq (.int i) (.int j) K := by
  refine ⟨decide (i = j), ?_, h⟩
  show eqS false (.int i) (.int j) = _
  unfold eqS
  simp only [toPy]
  rw [if_pos ⟨by rfl, by rfl⟩]
  have : PyData.eqv (.int i) (.int j) = decide (i = j) := by
    rw [PyData.eqv]
    by_cases c : i = j <;> simp [c]
  rw [this]
  simp
theorem pc_neI {i j : Int} {K : Bool → Prop} (h : K (!decide (i = j))) : PC .NotEq (.int i) (.int j) K := by
  refine ⟨!decide (i = j), ?_, h⟩
  show eqS true (.int i) (.int j) = _
  unfold eqS
  simp only [toPy]
  rw [if_pos ⟨by rfl, by rfl⟩]
  have : PyData.eqv (.int i) (.int j) = decide (i = j) := by
    rw [PyData.eqv]
    by_cases c : i = j <;> simp [c]
  rw [this]
  simp
theorem pc_eqB {i j : Bool} {K : Bool → Prop} (h : K (i == j)) : PC .Eq (.bl i) (.bl j) K := by
  refine ⟨i == j, ?_, h⟩
  cases i <;> cases j <;> rfl
theorem pc_neB {i j : Bool} {K : Bool → Prop} (h : K (i != j)) : PC .NotEq (.bl i) (.bl j) K := by
  refine ⟨i != j, ?_, h⟩
  cases i <;> cases j <;> rfl
def isNon : D → Bool
  | .non => true
  | _ => false
theorem pc_isN {d : D} {k : Bool} {K : Bool → Prop} (e : isNon d = k) (h : K k) : PC .Is d .non K := by
  refine ⟨k, ?_, h⟩
  subst e
  cases d <;> rfl
theorem pc_notN {d : D} {k : Bool} {K : Bool → Prop} (e : isNon d = k) (h : K (!k)) : PC .IsNot d .non K := by
  refine ⟨!k, ?_, h⟩
  subst e
  cases d <;> rfl
/-- which type a value is of, as isinstance answers -/
def isTy : D → String → Option Bool
  | .non, "int" => some false | .non, "bool" => some false | .non, "str" => some false | .non, "tuple" => some false | .non, "list" => some false
  | .bl _, "int" => some true | .bl _, "bool" => some true | .bl _, "str" => some false | .bl _, "tuple" => some false | .bl _, "list" => some false
  | .int _, "int" => some true | .int _, "bool" => some false | .int _, "str" => some false | .int _, "tuple" => some false | .int _, "list" => some false
  | .str _, "int" => some false | .str _, "bool" => some false | .str _, "str" => some true | .str _, "tuple" => some false | .str _, "list" => some false
  | .tup _, "int" => some false | .tup _, "bool" => some false | .tup _, "str" => some false | .tup _, "tuple" => some true | .tup _, "list" => some false
  | .lst _, "int" => some false | .lst _, "bool" => some false | .lst _, "str" => some false | .lst _, "tuple" => some false | .lst _, "list" => some true
  | _, _ => none
theorem kit_tab : ∀ t ∈ ["NoneType", "bool", "int", "str", "tuple", "list"], ∀ T ∈ ["int", "bool", "str", "tuple", "list"], kitB t T = some (decide (t = T) || (decide (t = "bool") && decide (T = "int"))) := by decide +kernel
theorem isTy_ok {d : D} {n : String} {k : Bool} (e : isTy d n = some k) : (tyD d).bind (fun t => kitB t n) = some k := by
  unfold isTy at e
  split at e <;> first | (cases e; exact kit_tab _ (by simp) _ (by simp)) | cases e
theorem isi_ok {d : D} {n : String} {scr : List Int} {x : D} {k : Bool} {K : D → Prop} (hx : x = .ty n) (e : isTy d n = some k) (h : K (.bl k)) : ∃ r, biS scr .isinst [d, x] = some r ∧ K r := by
  subst hx
  refine ⟨.bl k, ?_, h⟩
  have := isTy_ok e
  show (tyD d).bind (fun t => (kitB t n).map D.bl) = some (.bl k)
  cases q : tyD d with
  | none => rw [q] at this; cases this
  | some t =>
    rw [q] at this
    have this : kitB t n = some k := this
    show (kitB t n).map D.bl = _
    rw [this]
    rfl
def isInt : D → Option Bool
  | .bl _ => some true | .int _ => some true | .non => some false | .str _ => some false | .tup _ => some false | .lst _ => some false | _ => none
def isBool : D → Option Bool
  | .bl _ => some true | .int _ => some false | .non => some false | .str _ => some false | .tup _ => some false | .lst _ => some false | _ => none
def isStr : D → Option Bool
  | .bl _ => some false | .int _ => some false | .non => some false | .str _ => some true | .tup _ => some false | .lst _ => some false | _ => none
def isTup : D → Option Bool
  | .bl _ => some false | .int _ => some false | .non => some false | .str _ => some false | .tup _ => some true | .lst _ => some false | _ => none
def isLst : D → Option Bool
  | .bl _ => some false | .int _ => some false | .non => some false | .str _ => some false | .tup _ => some false | .lst _ => some true | _ => none
def isSeq : D → Option Bool
  | .bl _ => some false | .int _ => some false | .non => some false | .str _ => some false | .tup _ => some true | .lst _ => some true | _ => none
theorem isi_int {d : D} {scr : List Int} {k : Bool} {K : D → Prop} (e : isInt d = some k) (h : K (.bl k)) : ∃ r, biS scr .isinst [d, .ty "int"] = some r ∧ K r := by
  refine isi_ok rfl ?_ h
  cases d <;> first | (cases e; rfl) | cases e
theorem isi_bool {d : D} {scr : List Int} {k : Bool} {K : D → Prop} (e : isBool d = some k) (h : K (.bl k)) : ∃ r, biS scr .isinst [d, .ty "bool"] = some r ∧ K r := by
  refine isi_ok rfl ?_ h
  cases d <;> first | (cases e; rfl) | cases e
theorem isi_str {d : D} {scr : List Int} {k : Bool} {K : D → Prop} (e : isStr d = some k) (h : K (.bl k)) : ∃ r, biS scr .isinst [d, .ty "str"] = some r ∧ K r := by
  refine isi_ok rfl ?_ h
  cases d <;> first | (cases e; rfl) | cases e
theorem isi_tuple {d : D} {scr : List Int} {k : Bool} {K : D → Prop} (e : isTup d = some k) (h : K (.bl k)) : ∃ r, biS scr .isinst [d, .ty "tuple"] = some r ∧ K r := by
  refine isi_ok rfl ?_ h
  cases d <;> first | (cases e; rfl) | cases e
theorem isi_list {d : D} {scr : List Int} {k : Bool} {K : D → Prop} (e : isLst d = some k) (h : K (.bl k)) : ∃ r, biS scr .isinst [d, .ty "list"] = some r ∧ K r := by
  refine isi_ok rfl ?_ h
  cases d <;> first | (cases e; rfl) | cases e
theorem kitS_tl : ∀ t ∈ ["NoneType", "bool", "int", "str", "tuple", "list"], kitS t ["tuple", "list"] = some (decide (t = "tuple") || decide (t = "list")) := by decide +kernel
theorem kitS_lt : ∀ t ∈ ["NoneType", "bool", "int", "str", "tuple", "list"], kitS t ["list", "tuple"] = some (decide (t = "tuple") || decide (t = "list")) := by decide +kernel
theorem isT_of {d : D} {ds : List D} {ns : List String} {k : Bool} {K : Bool → Prop} (hn : tysD ds = some ns) (e : isSeq d = some k) (hk : ∀ t ∈ ["NoneType", "bool", "int", "str", "tuple", "list"], kitS t ns = some (decide (t = "tuple") || decide (t = "list"))) (h : K k) : ∃ k, isiT d ds = some (.bl k) ∧ K k := by
  refine ⟨k, ?_, h⟩
  unfold isiT
  rw [hn]
  cases d <;> first
    | (cases e; show (kitS _ ns).map D.bl = _; rw [hk _ (by simp)]; rfl)
    | cases e
theorem isT_tl {d : D} {k : Bool} {K : Bool → Prop} (e : isSeq d = some k) (h : K k) : ∃ k, isiT d [.ty "tuple", .ty "list"] = some (.bl k) ∧ K k := isT_of rfl e kitS_tl h
theorem isT_lt {d : D} {k : Bool} {K : Bool → Prop} (e : isSeq d = some k) (h : K k) : ∃ k, isiT d [.ty "list", .ty "tuple"] = some (.bl k) ∧ K k := isT_of rfl e kitS_lt h
theorem sz_small {n : Nat} (h : n ≤ 1000) : n ≤ sizeLine := by rw [sizeLine_eq]; omega
/-- a computation that leaves the draws alone -/
theorem wm_pure {α : Type} {m : M α} {x : α} (h : ∀ (g : G) (P : α → G → Prop) (X : Nat → List D → G → Prop), P x g → WM m g P X) : m = M.ret x := by
  funext g
  obtain ⟨y, g', e, h1, h2⟩ := wm_get (h g (fun y g' => y = x ∧ g' = g) (fun _ _ _ => False) ⟨rfl, rfl⟩)
  subst h1; subst h2
  exact e
theorem ex_bl {b : Bool} {K : Bool → Prop} (h : K b) : ∃ k, D.bl b = .bl k ∧ K k := ⟨b, rfl, h⟩
theorem ex_int {b : Int} {K : Int → Prop} (h : K b) : ∃ k, D.int b = .int k ∧ K k := ⟨b, rfl, h⟩
theorem bi_rfl {scr : List Int} {k : Bi} {ds : List D} {d : D} {K : D → Prop} (e : biS scr k ds = some d) (h : K d) : ∃ r, biS scr k ds = some r ∧ K r := ⟨d, e, h⟩
theorem it_rfl {x : D} {ds : List D} {K : List D → Prop} (e : itemsD x = some ds) (h : K ds) : ∃ r, itemsD x = some r ∧ K r := ⟨ds, e, h⟩
theorem par_rfl {a b : D} {K : D → D → Prop} (h : K a b) : ∃ d e, [a, b] = [d, e] ∧ K d e := ⟨a, b, rfl, h⟩
theorem row_rfl {g g2 : G} {n e : Int} {K : G → Prop} (h : rowAt g n e = some g2) (k : K g2) : ∃ m g3, D.int n = .int m ∧ rowAt g m e = some g3 ∧ K g3 := ⟨n, g2, rfl, h, k⟩
theorem asg_rfl {t : Tg} {d : D} {ρ ρ' : Env} {K : Env → Prop} (h : t.bind d ρ = some ρ') (k : K ρ') : ∃ r, t.bind d ρ = some r ∧ K r := ⟨ρ', h, k⟩
theorem r1_rfl {n : Int} {K : Int → Prop} (c : -(2 ^ 62) ≤ n ∧ n < 2 ^ 62) (h : K n) : ∃ m, D.int n = .int m ∧ (-(2 ^ 62) ≤ m ∧ m < 2 ^ 62) ∧ K m := ⟨n, rfl, c, h⟩
theorem r2_rfl {n m : Int} {K : Int → Int → Prop} (c : (-(2 ^ 62) ≤ n ∧ n < 2 ^ 62) ∧ (-(2 ^ 62) ≤ m ∧ m < 2 ^ 62)) (h : K n m) : ∃ a b, D.int n = .int a ∧ D.int m = .int b ∧ ((-(2 ^ 62) ≤ a ∧ a < 2 ^ 62) ∧ (-(2 ^ 62) ≤ b ∧ b < 2 ^ 62)) ∧ K a b := ⟨n, m, rfl, rfl, c, h⟩
theorem ws_raise {c : Nat} (h : WM (evEs T as ρ) g (fun ds g1 => ds.length = 1 ∧ XS c ds ρ g1) (fun c fs g1 => XS c fs ρ g1)) : WR (evS T (.raise c as) ρ g) N R XS := by
  rw [evS]
  exact wr_bind (wm_mono h (fun ds g1 ⟨q, k⟩ => by unfold errS; rw [if_pos q]; exact k) fun _ _ _ k => k)
theorem ws_try {j i : Nat} {b s : Cms} (h : WR (evB T b ρ g) N R (fun c fs ρ1 g1 => (T.sub c j = some true ∧ WR (evB T s ((clr ρ1).set i (.ex c fs)) g1) (fun ρ2 g2 => N (clr (ρ2.set i .no)) g2) R fun _ _ _ _ => False) ∨ (T.sub c j = some false ∧ XS c fs ρ1 g1))) : WR (evS T (.try j i b s) ρ g) N R XS := by
  rw [evS]
  unfold tryS
  unfold WR at h ⊢
  cases q : evB T b ρ g with
  | nx ρ1 g1 => rw [q] at h; exact h
  | rt d g1 => rw [q] at h; exact h
  | stuck => rw [q] at h; exact h
  | er c fs ρ1 g1 =>
    rw [q] at h
    dsimp only at h ⊢
    rcases h with ⟨e, h⟩ | ⟨e, h⟩
    · rw [e]
      dsimp only
      cases q2 : evB T s ((clr ρ1).set i (.ex c fs)) g1 with
      | nx ρ2 g2 => rw [q2] at h; exact h
      | rt d g2 => rw [q2] at h; exact h
      | er _ _ _ _ => rw [q2] at h; exact h.elim
      | stuck => rw [q2] at h; exact h.elim
    · rw [e]; exact h
theorem we_exf {i : Nat} {f : Str} {d : D} (e : exX T.xn ρ i f = some d) (h : P d g) : WM (evE T (.exf i f) ρ) g P X := by rw [evE]; exact wm_lft e h
theorem wc_no (h : PB true g) : WM (evC T .no ρ) g PB X := by rw [evC]; exact h
theorem wc_ex (h : WM (evT T a ρ) g PB X) : WM (evC T (.ex a) ρ) g PB X := by rw [evC]; exact h
theorem pc_eqN {K : Bool → Prop} (h : K true) : PC .Eq .non .non K := ⟨true, rfl, h⟩
theorem pc_eqNil {K : Bool → Prop} (h : K true) : PC .Eq (.lst []) (.lst []) K := ⟨true, rfl, h⟩
/-- a comprehension whose test and whose items leave the draws alone -/
theorem wm_comp {bd : D → Env → Option Env} {cond : Env → M Bool} {elt : Env → M D} {p : D → Bool} {f : D → D} {ds : List D} (h : ∀ d ∈ ds, ∃ ρ1, bd d ρ = some ρ1 ∧ (∀ (g : G) (P : Bool → G → Prop) (X : Nat → List D → G → Prop), P (p d) g → WM (cond ρ1) g P X) ∧ (p d = true → ∀ (g : G) (P : D → G → Prop) (X : Nat → List D → G → Prop), P (f d) g → WM (elt ρ1) g P X))
    (k : PL ((ds.filter p).map f) g) : WM (compM bd cond elt ρ ds) g PL X := by
  rw [compM_pure (p := p) (f := f) fun d hd => by
    obtain ⟨ρ1, h1, h2, h3⟩ := h d hd
    exact ⟨ρ1, h1, wm_pure h2, fun q => wm_pure (h3 q)⟩]
  exact wm_ret k
theorem rngD_mem {lo : Int} {n : Nat} {d : D} (h : d ∈ rngD lo n) : ∃ i : Nat, i < n ∧ d = .int (lo + (i : Int)) := by
  unfold rngD at h
  obtain ⟨i, hi, e⟩ := List.mem_map.mp h
  exact ⟨i, List.mem_range.mp hi, e.symm⟩
theorem rngD_length {lo : Int} {n : Nat} : (rngD lo n).length = n := by unfold rngD; simp
theorem bi_len_t {scr : List Int} {ds : List D} {K : D → Prop} (h : K (.int ds.length)) : ∃ r, biS scr .len [.tup ds] = some r ∧ K r := ⟨_, rfl, h⟩
theorem bi_len_l {scr : List Int} {ds : List D} {K : D → Prop} (h : K (.int ds.length)) : ∃ r, biS scr .len [.lst ds] = some r ∧ K r := ⟨_, rfl, h⟩
theorem wo_no {PO' : Option Int → G → Prop} (h : PO' none g) : WM (evO T .no ρ) g PO' X := by rw [evO]; exact h
theorem wo_ex {PO' : Option Int → G → Prop} (h : WM (evE T a ρ) g (fun x g1 => ∃ i, x = .int i ∧ PO' (some i) g1) X) : WM (evO T (.ex a) ρ) g PO' X := by
  rw [evO]; exact wm_bind (wm_mono h (fun x g1 ⟨i, e, k⟩ => wm_lft (by rw [e]; rfl) k) fun _ _ _ k => k)
theorem we_sl {l hi : Ox} (h : WM (evE T a ρ) g (fun x g1 => WM (evO T l ρ) g1 (fun i g2 => WM (evO T hi ρ) g2 (fun j g3 => ∃ d, slS x i j = some d ∧ P d g3) X) X) X) : WM (evE T (.sl a l hi) ρ) g P X := by
  rw [evE]; exact wm_bind (wm_mono h (fun x g1 h => wm_bind (wm_mono h (fun i g2 h => wm_bind (wm_mono h (fun j g3 ⟨d, e, k⟩ => wm_lft e k) fun _ _ _ k => k)) fun _ _ _ k => k)) fun _ _ _ k => k)
theorem sl_rfl {x d : D} {i j : Option Int} {K : D → Prop} (e : slS x i j = some d) (h : K d) : ∃ r, slS x i j = some r ∧ K r := ⟨d, e, h⟩
theorem ws_mtL {k : Ml} {i : Nat} {ds : List D} (e : ownL ρ i = some ds) (h : WM (evEs T as ρ) g (fun args g1 => ∃ r, mlS k ds args = some r ∧ N (ρ.set i (.ol r)) g1) (fun c fs g1 => XS c fs ρ g1)) : WR (evS T (.mtL k i as) ρ g) N R XS := by
  rw [evS]
  have L : ∀ {α : Type} {o : Option α} {x : α} {k : α → G → Rs} {g : G}, o = some x → liftS o k g = k x g := fun e => by unfold liftS; rw [e]
  show WR (liftS (ownL ρ i) (fun _ => bindS (evEs T as ρ) ρ fun args => mtL i (mlS k) ρ args) g) N R XS
  rw [L e]
  refine wr_bind (wm_mono h (fun args g1 ⟨r, q, k⟩ => ?_) fun _ _ _ k => k)
  unfold mtL
  rw [L e, L q]
  exact k
theorem ml_app {ds : List D} {d : D} {K : List D → Prop} (c : ds.length < sizeLine) (h : K (ds ++ [d])) : ∃ r, mlS .app ds [d] = some r ∧ K r := ⟨_, by show (if _ then _ else _) = _; rw [if_pos c], h⟩
theorem ml_ins {ds : List D} {d : D} {i : Int} {K : List D → Prop} (c : ds.length < sizeLine ∧ 0 ≤ i ∧ i < 2 ^ 63) (h : K (ds.take i.toNat ++ [d] ++ ds.drop i.toNat)) : ∃ r, mlS .ins ds [.int i, d] = some r ∧ K r := ⟨_, by show (if _ then _ else _) = _; rw [if_pos c], h⟩
theorem ml_ext {ds es : List D} {K : List D → Prop} (c : ds.length + es.length ≤ sizeLine) (h : K (ds ++ es)) : ∃ r, mlS .ext ds [.lst es] = some r ∧ K r := ⟨_, by show (if _ then _ else _) = _; rw [if_pos c], h⟩
theorem wl_rg1 (h : WM (evE T a ρ) g (fun x g1 => ∃ n, x = .int n ∧ (-(2 ^ 62) ≤ n ∧ n ≤ 2 ^ 24) ∧ PL (rngD 0 n.toNat) g1) X) : WM (evL T (.rg (.r1 a)) ρ) g PL X := by
  rw [evL, evR]
  refine wm_bind (wm_bind (wm_mono h (fun x g1 ⟨n, e, c, k⟩ => wm_bind (wm_lft (x := n) (by rw [e]; rfl) (wm_ret (wm_lft ?_ k)))) fun _ _ _ k => k))
  unfold rngL
  rw [if_pos (by unfold okRg; exact decide_eq_true (by simp only; omega))]
  simp
theorem wl_rg2 (h : WM (evE T a ρ) g (fun x g1 => WM (evE T b ρ) g1 (fun y g2 => ∃ n m, x = .int n ∧ y = .int m ∧ ((-(2 ^ 62) ≤ n ∧ n < 2 ^ 62) ∧ (-(2 ^ 62) ≤ m ∧ m < 2 ^ 62) ∧ m - n ≤ 2 ^ 24) ∧ PL (rngD n (m - n).toNat) g2) X) X) : WM (evL T (.rg (.r2 a b)) ρ) g PL X := by
  rw [evL, evR]
  refine wm_bind (wm_bind (wm_mono h (fun x g1 h => wm_bind (wm_mono h (fun y g2 ⟨n, m, e1, e2, c, k⟩ => wm_bind (wm_lft (x := n) (by rw [e1]; rfl) (wm_bind (wm_lft (x := m) (by rw [e2]; rfl) (wm_ret (wm_lft ?_ k)))))) fun _ _ _ k => k)) fun _ _ _ k => k))
  unfold rngL
  rw [if_pos (by unfold okRg; exact decide_eq_true (by simp only; omega))]
theorem rg1_rfl {n : Int} {K : Int → Prop} (c : -(2 ^ 62) ≤ n ∧ n ≤ 2 ^ 24) (h : K n) : ∃ m, D.int n = .int m ∧ (-(2 ^ 62) ≤ m ∧ m ≤ 2 ^ 24) ∧ K m := ⟨n, rfl, c, h⟩
theorem rg2_rfl {n m : Int} {K : Int → Int → Prop} (c : (-(2 ^ 62) ≤ n ∧ n < 2 ^ 62) ∧ (-(2 ^ 62) ≤ m ∧ m < 2 ^ 62) ∧ m - n ≤ 2 ^ 24) (h : K n m) : ∃ a b, D.int n = .int a ∧ D.int m = .int b ∧ ((-(2 ^ 62) ≤ a ∧ a < 2 ^ 62) ∧ (-(2 ^ 62) ≤ b ∧ b < 2 ^ 62) ∧ b - a ≤ 2 ^ 24) ∧ K a b := ⟨n, m, rfl, rfl, c, h⟩
theorem wl_bl {k : Bl} (h : WM (evEs T as ρ) g (fun ds g1 => ∃ r, blS k ds = some r ∧ PL r g1) X) : WM (evL T (.bl k as) ρ) g PL X := by
  rw [evL]; exact wm_bind (wm_mono h (fun x g1 ⟨r, e, k⟩ => wm_lft e k) fun _ _ _ k => k)
theorem bl_rfl {k : Bl} {ds r : List D} {K : List D → Prop} (e : blS k ds = some r) (h : K r) : ∃ r, blS k ds = some r ∧ K r := ⟨r, e, h⟩
theorem we_fld {f : Str} (h : WM (evE T a ρ) g (fun x g1 => ∃ d, fldX T.flds f x = some d ∧ P d g1) X) : WM (evE T (.fld a f) ρ) g P X := by
  rw [evE]; exact wm_bind (wm_mono h (fun x g1 ⟨d, e, k⟩ => wm_lft e k) fun _ _ _ k => k)
theorem we_gv {k : Nat} (h : P (T.con k) g) : WM (evE T (.gv k) ρ) g P X := by rw [evE]; exact h
theorem ws_doc (h : N ρ g) : WR (evS T .doc ρ g) N R XS := by rw [evS]; exact h
theorem ws_retN (h : R .non g) : WR (evS T .retN ρ g) N R XS := by rw [evS]; exact h
theorem we_trg1 (h : WM (evE T a ρ) g (fun x g1 => ∃ n, x = .int n ∧ (-(2 ^ 62) ≤ n ∧ n ≤ 2 ^ 24) ∧ P (.tup (rngD 0 n.toNat)) g1) X) : WM (evE T (.trg (.r1 a)) ρ) g P X := by
  rw [evE, evR]
  refine wm_bind (wm_bind (wm_mono h (fun x g1 ⟨n, e, c, k⟩ => wm_bind (wm_lft (x := n) (by rw [e]; rfl) (wm_ret (wm_bind (wm_lft ?_ (wm_ret k)))))) fun _ _ _ k => k))
  unfold rngL
  rw [if_pos (by unfold okRg; exact decide_eq_true (by simp only; omega))]
  simp
theorem wi_enum (h : WM (evE T a ρ) g (fun x g1 => ∃ ds, listD x = some ds ∧ PL (enumD 0 ds) g1) X) : WM (evI T (.enum a) ρ) g PL X := by
  rw [evI]; exact wm_bind (wm_mono h (fun x g1 ⟨d, e, k⟩ => wm_bind (wm_lft e (wm_ret k))) fun _ _ _ k => k)
theorem ls_rfl {x : D} {ds : List D} {K : List D → Prop} (e : listD x = some ds) (h : K ds) : ∃ r, listD x = some r ∧ K r := ⟨ds, e, h⟩
theorem ws_par3 {i j l : Nat} (h : WM (evEs T as ρ) g (fun ds g1 => ∃ d e f, ds = [d, e, f] ∧ N (((ρ.set i (.v d)).set j (.v e)).set l (.v f)) g1) (fun c fs g1 => XS c fs ρ g1)) : WR (evS T (.par3 i j l as) ρ g) N R XS := by
  rw [evS]
  exact wr_bind (wm_mono h (fun ds g1 ⟨d, e, f, q, k⟩ => by rw [q]; exact k) fun _ _ _ k => k)
theorem par3_rfl {a b c : D} {K : D → D → D → Prop} (h : K a b c) : ∃ d e f, [a, b, c] = [d, e, f] ∧ K d e f := ⟨a, b, c, rfl, h⟩
theorem fld_rfl {fl : Nat → List Str} {f : Str} {x d : D} {K : D → Prop} (e : fldX fl f x = some d) (h : K d) : ∃ d, fldX fl f x = some d ∧ K d := ⟨d, e, h⟩
theorem we_gf {i : Nat} (h : P (.fn i) g) : WM (evE T (.gf i) ρ) g P X := by rw [evE]; exact h
theorem we_gc {c : Nat} (h : P (.cls c) g) : WM (evE T (.gc c) ρ) g P X := by rw [evE]; exact h
theorem we_isC {c : Nat} (h : WM (evE T a ρ) g (fun x g1 => ∃ d, isCd T.kit c x = some d ∧ P d g1) X) : WM (evE T (.isC a c) ρ) g P X := by
  rw [evE]; exact wm_bind (wm_mono h (fun x g1 ⟨d, e, k⟩ => wm_lft e k) fun _ _ _ k => k)
theorem isC_rfl {kit : Tk → Nat → Option Bool} {c : Nat} {x d : D} {K : D → Prop} (e : isCd kit c x = some d) (h : K d) : ∃ d, isCd kit c x = some d ∧ K d := ⟨d, e, h⟩
theorem we_eqI {n : Bool} (h : WM (evE T a ρ) g (fun x g1 => WM (evE T b ρ) g1 (fun y g2 => WM (ownM T.mts T.kit T.nps T.call n x y) g2 P X) X) X) : WM (evE T (.eqI n a b) ρ) g P X := by
  rw [evE]; exact wm_bind (wm_mono h (fun x g1 h => wm_bind (wm_mono h (fun y g2 k => k) fun _ _ _ k => k)) fun _ _ _ k => k)
theorem wq_own {n : Bool} {x y : D} {i : Nat} {ds : List D} (hd : ds = [x, y]) (e : eqJ T.mts T.kit x y = some i) (h : WM (callN (T.nps i) (T.call i) ds) g (fun r g1 => ∃ k, r = .bl k ∧ P (.bl (xor n k)) g1) (fun _ _ _ => False)) : WM (ownM T.mts T.kit T.nps T.call n x y) g P X := by
  subst hd
  unfold ownM
  rw [e]
  obtain ⟨r, g1, q, k, er, hk⟩ := wm_get h
  subst er
  refine wm_bind (wm_of (x := .bl k) (g' := g1) ?_ (wm_lft rfl hk))
  unfold noErr
  rw [q]
theorem wq_pl {n : Bool} {x y : D} (e : eqJ T.mts T.kit x y = none) (h : PC (eqO n) x y fun d => P (.bl d) g) : WM (ownM T.mts T.kit T.nps T.call n x y) g P X := by
  unfold ownM
  rw [e]
  obtain ⟨k, q, hk⟩ := h
  exact wm_lft (by cases n <;> exact q) hk
theorem we_callv {i j : Nat} (e : envF ρ j = some i) (h : WM (evEs T as ρ) g (fun ds g1 => WM (callN (T.nps i) (T.call i) ds) g1 P X) X) : WM (evE T (.callv j as) ρ) g P X := by
  rw [evE]; exact wm_bind (wm_lft e (wm_bind (wm_mono h (fun ds g1 k => k) fun _ _ _ k => k)))
theorem we_meth {m : Str} (h : WM (evE T a ρ) g (fun o g1 => ∃ i, mtX T.mts m o = some i ∧ WM (evEs T as ρ) g1 (fun ds0 g2 => ∀ ds, ds = o :: ds0 → WM (callN (T.nps i) (T.call i) ds) g2 P X) X) X) : WM (evE T (.meth a m as) ρ) g P X := by
  rw [evE]
  exact wm_bind (wm_mono h (fun o g1 ⟨j, e, h⟩ => wm_bind (wm_lft e (wm_bind (wm_mono h (fun ds g2 k => k _ rfl) fun _ _ _ k => k)))) fun _ _ _ k => k)
theorem mt_rfl {mts : Nat → Str → Option Nat} {m : Str} {o : D} {i : Nat} {K : Nat → Prop} (e : mtX mts m o = some i) (h : K i) : ∃ i, mtX mts m o = some i ∧ K i := ⟨i, e, h⟩
theorem ds_rfl {ds : List D} {K : List D → Prop} (h : K ds) : ∀ es, es = ds → K es := fun es e => by subst e; exact h
theorem we_make {c : Nat} (h : WM (evEs T as ρ) g (fun ds g1 => WM (makeX T c ds) g1 P X) X) : WM (evE T (.make c as) ρ) g P X := by
  rw [evE]; exact wm_bind (wm_mono h (fun ds g1 k => k) fun _ _ _ k => k)
/-- an __init__'s promise -/
theorem wc_ini {S : Sta} {k i c : Nat} {d : Dfr} {ds : List D} (hd : S.defs[i]? = some d) (hi : S.ini c = some i) (hl : ds.length + 1 = d.ps.length) (h : WR (evB (tabK S k) d.b (startI d.N c ds) g) (fun ρ1 g1 => ∃ fs, ρ1[0]? = some (.oi c fs) ∧ P (.ins c fs) g1) (fun _ _ => False) (fun c fs _ g1 => X c fs g1)) : WM (makeX (tabK S (k + 1)) c ds) g P X := by
  have en : S.nps i = d.ps.length := by unfold Sta.nps; rw [hd]
  have e : makeX (tabK S (k + 1)) c ds = M.bind (runI (tabK S k) d c ds) fun fs => M.ret (.ins c fs) := by
    unfold makeX
    rw [show (tabK S (k + 1)).mak c = some (S.nps i, makF (tabK S k) S c) by show (S.ini c).map _ = _; rw [hi]; rfl]
    show makeN c (S.nps i) (makF (tabK S k) S c) ds = _
    rw [makF_some hi hd]
    unfold makeN
    rw [if_pos (by rw [en]; exact hl)]
  rw [e]
  refine wm_bind ?_
  unfold WM runI
  unfold WR at h
  cases q : evB (tabK S k) d.b (startI d.N c ds) g with
  | nx ρ1 g1 =>
    rw [q] at h
    obtain ⟨fs, h1, h2⟩ := h
    have e2 : endI c (Rs.nx ρ1 g1) = .ok fs g1 := by
      unfold endI
      dsimp only
      rw [h1]
      dsimp only
      rw [if_pos rfl]
    dsimp only
    rw [e2]
    exact h2
  | rt d g1 => rw [q] at h; exact h.elim
  | er c fs ρ1 g1 => rw [q] at h; exact h
  | stuck => rw [q] at h; exact h
theorem ws_setF {i c : Nat} {f : Str} {fs : List (Str × D)} (hr : ρ[i]? = some (.oi c fs)) (h : WM (evE T a ρ) g (fun d g1 => (f ∈ T.flds c ∧ fs.length < 1000) ∧ N (ρ.set i (.oi c (putD f d fs))) g1) (fun c fs g1 => XS c fs ρ g1)) : WR (evS T (.setF i f a) ρ g) N R XS := by
  rw [evS]
  refine wr_bind (wm_mono h (fun d g1 ⟨q, k⟩ => ?_) fun _ _ _ k => k)
  unfold setFX
  rw [hr]
  dsimp only
  rw [if_pos q]
  exact k
theorem we_trg2 (h : WM (evE T a ρ) g (fun x g1 => WM (evE T b ρ) g1 (fun y g2 => ∃ n m, x = .int n ∧ y = .int m ∧ ((-(2 ^ 62) ≤ n ∧ n < 2 ^ 62) ∧ (-(2 ^ 62) ≤ m ∧ m < 2 ^ 62) ∧ m - n ≤ 2 ^ 24) ∧ P (.tup (rngD n (m - n).toNat)) g2) X) X) : WM (evE T (.trg (.r2 a b)) ρ) g P X := by
  rw [evE, evR]
  refine wm_bind (wm_bind (wm_mono h (fun x g1 h => wm_bind (wm_mono h (fun y g2 ⟨n, m, e1, e2, c, k⟩ => wm_bind (wm_lft (x := n) (by rw [e1]; rfl) (wm_bind (wm_lft (x := m) (by rw [e2]; rfl) (wm_ret (wm_bind (wm_lft ?_ (wm_ret k)))))))) fun _ _ _ k => k)) fun _ _ _ k => k))
  unfold rngL
  rw [if_pos (by unfold okRg; exact decide_eq_true (by simp only; omega))]
end
end DS

set_option Elab.async false
set_option linter.all false
set_option maxRecDepth 100000
set_option maxHeartbeats 4000000
/-! DS, part 20: the same rules over words of their own, so that a wrong rule fails at once (printed by mkw2.py) -/
namespace DS
open PySem L2
@[irreducible] def WE (T : Tab) (a : Ex) (ρ : Env) (g : G) (P : D → G → Prop) (X : Nat → List D → G → Prop) : Prop := WM (evE T a ρ) g P X
@[irreducible] def WEs (T : Tab) (a : Exs) (ρ : Env) (g : G) (P : List D → G → Prop) (X : Nat → List D → G → Prop) : Prop := WM (evEs T a ρ) g P X
@[irreducible] def WT (T : Tab) (a : Ex) (ρ : Env) (g : G) (P : Bool → G → Prop) (X : Nat → List D → G → Prop) : Prop := WM (evT T a ρ) g P X
@[irreducible] def WL (T : Tab) (a : Lx) (ρ : Env) (g : G) (P : List D → G → Prop) (X : Nat → List D → G → Prop) : Prop := WM (evL T a ρ) g P X
@[irreducible] def WI (T : Tab) (a : Ix) (ρ : Env) (g : G) (P : List D → G → Prop) (X : Nat → List D → G → Prop) : Prop := WM (evI T a ρ) g P X
@[irreducible] def WC (T : Tab) (a : Ox) (ρ : Env) (g : G) (P : Bool → G → Prop) (X : Nat → List D → G → Prop) : Prop := WM (evC T a ρ) g P X
@[irreducible] def WO (T : Tab) (a : Ox) (ρ : Env) (g : G) (P : Option Int → G → Prop) (X : Nat → List D → G → Prop) : Prop := WM (evO T a ρ) g P X
@[irreducible] def WIx (scr : List Int) (x y : D) (g : G) (P : D → G → Prop) (X : Nat → List D → G → Prop) : Prop := WM (ixS scr x y) g P X
@[irreducible] def WS (T : Tab) (s : Cm) (ρ : Env) (g : G) (N : Env → G → Prop) (R : D → G → Prop) (X : Nat → List D → Env → G → Prop) : Prop := WR (evS T s ρ g) N R X
@[irreducible] def WB (T : Tab) (s : Cms) (ρ : Env) (g : G) (N : Env → G → Prop) (R : D → G → Prop) (X : Nat → List D → Env → G → Prop) : Prop := WR (evB T s ρ g) N R X
@[irreducible] def WD (T : Tab) (i : Nat) (ds : List D) (g : G) (P : D → G → Prop) (X : Nat → List D → G → Prop) : Prop := WM (callN (T.nps i) (T.call i) ds) g P X
@[irreducible] def WQ (T : Tab) (n : Bool) (x y : D) (g : G) (P : D → G → Prop) (X : Nat → List D → G → Prop) : Prop := WM (ownM T.mts T.kit T.nps T.call n x y) g P X
@[irreducible] def WK (T : Tab) (c : Nat) (ds : List D) (g : G) (P : D → G → Prop) (X : Nat → List D → G → Prop) : Prop := WM (makeX T c ds) g P X
@[irreducible] def VO (op : Bop) (x y : D) (K : D → Prop) : Prop := PO op x y K
@[irreducible] def VC (op : CmpOp) (x y : D) (K : Bool → Prop) : Prop := PC op x y K
section
variable {α β : Type} {T : Tab} {ρ : Env} {g : G} {P : D → G → Prop} {PB : Bool → G → Prop} {PL : List D → G → Prop} {X : Nat → List D → G → Prop} {N : Env → G → Prop} {R : D → G → Prop} {XS : Nat → List D → Env → G → Prop} {a b c : Ex} {as : Exs}
theorem vwe_v {i : Nat} {d : D} (e : envV ρ i = some d) (h : P d g) : WE T (.v i) ρ g P X := by
  simp only [WE, WEs, WT, WL, WI, WC, WIx, WS, WB, WD, VO, VC, WO, WQ, WK] at *
  exact we_v e h
theorem vwe_o {i : Nat} {d : D} (e : envO ρ i = some d) (h : P d g) : WE T (.o i) ρ g P X := by
  simp only [WE, WEs, WT, WL, WI, WC, WIx, WS, WB, WD, VO, VC, WO, WQ, WK] at *
  exact we_o e h
theorem vwe_non (h : P .non g) : WE T .non ρ g P X := by
  simp only [WE, WEs, WT, WL, WI, WC, WIx, WS, WB, WD, VO, VC, WO, WQ, WK] at *
  exact we_non h
theorem vwe_bl {k : Bool} (h : P (.bl k) g) : WE T (.bl k) ρ g P X := by
  simp only [WE, WEs, WT, WL, WI, WC, WIx, WS, WB, WD, VO, VC, WO, WQ, WK] at *
  exact we_bl h
theorem vwe_int {k : Int} (h : P (.int k) g) : WE T (.int k) ρ g P X := by
  simp only [WE, WEs, WT, WL, WI, WC, WIx, WS, WB, WD, VO, VC, WO, WQ, WK] at *
  exact we_int h
theorem vwe_str {k : Str} (h : P (.str k) g) : WE T (.str k) ρ g P X := by
  simp only [WE, WEs, WT, WL, WI, WC, WIx, WS, WB, WD, VO, VC, WO, WQ, WK] at *
  exact we_str h
theorem vwe_ty {k : String} (h : P (.ty k) g) : WE T (.ty k) ρ g P X := by
  simp only [WE, WEs, WT, WL, WI, WC, WIx, WS, WB, WD, VO, VC, WO, WQ, WK] at *
  exact we_ty h
theorem vwe_neg (h : WE T a ρ g (fun x g1 => ∃ i, x = .int i ∧ P (.int (-i)) g1) X) : WE T (.neg a) ρ g P X := by
  simp only [WE, WEs, WT, WL, WI, WC, WIx, WS, WB, WD, VO, VC, WO, WQ, WK] at *
  exact we_neg h
theorem vwe_not (h : WE T a ρ g (fun x g1 => ∃ i, x = .bl i ∧ P (.bl (!i)) g1) X) : WE T (.not a) ρ g P X := by
  simp only [WE, WEs, WT, WL, WI, WC, WIx, WS, WB, WD, VO, VC, WO, WQ, WK] at *
  exact we_not h
theorem vwe_bin {op : Bop} (h : WE T a ρ g (fun x g1 => WE T b ρ g1 (fun y g2 => VO op x y fun d => P d g2) X) X) : WE T (.bin op a b) ρ g P X := by
  simp only [WE, WEs, WT, WL, WI, WC, WIx, WS, WB, WD, VO, VC, WO, WQ, WK] at *
  exact we_bin h
theorem vpo_add {i j : Int} {K : D → Prop} (h : K (.int (i + j))) : VO .add (.int i) (.int j) K := by
  simp only [WE, WEs, WT, WL, WI, WC, WIx, WS, WB, WD, VO, VC, WO, WQ, WK] at *
  exact po_add h
theorem vpo_sub {i j : Int} {K : D → Prop} (h : K (.int (i - j))) : VO .sub (.int i) (.int j) K := by
  simp only [WE, WEs, WT, WL, WI, WC, WIx, WS, WB, WD, VO, VC, WO, WQ, WK] at *
  exact po_sub h
theorem vpo_mul {i j : Int} {K : D → Prop} (c : (-(2 ^ 64) < i ∧ i < 2 ^ 64) ∨ (-(2 ^ 64) < j ∧ j < 2 ^ 64)) (h : K (.int (i * j))) : VO .mul (.int i) (.int j) K := by
  simp only [WE, WEs, WT, WL, WI, WC, WIx, WS, WB, WD, VO, VC, WO, WQ, WK] at *
  exact po_mul c h
theorem vpo_div {i j : Int} {K : D → Prop} (c : 0 < j ∧ j < 1073741824) (h : K (.int (i / j))) : VO .fdiv (.int i) (.int j) K := by
  simp only [WE, WEs, WT, WL, WI, WC, WIx, WS, WB, WD, VO, VC, WO, WQ, WK] at *
  exact po_div c h
theorem vpo_mod {i j : Int} {K : D → Prop} (c : 0 < j) (h : K (.int (i % j))) : VO .mod (.int i) (.int j) K := by
  simp only [WE, WEs, WT, WL, WI, WC, WIx, WS, WB, WD, VO, VC, WO, WQ, WK] at *
  exact po_mod c h
theorem vpo_pow {i j : Int} {K : D → Prop} (c : 0 ≤ j ∧ j ≤ 1000000 ∧ i.natAbs < 2 ^ 64) (h : K (.int (i ^ j.toNat))) : VO .pow (.int i) (.int j) K := by
  simp only [WE, WEs, WT, WL, WI, WC, WIx, WS, WB, WD, VO, VC, WO, WQ, WK] at *
  exact po_pow c h
theorem vpo_lst {x y : List D} {K : D → Prop} (c : x.length + y.length ≤ sizeLine) (h : K (.lst (x ++ y))) : VO .add (.lst x) (.lst y) K := by
  simp only [WE, WEs, WT, WL, WI, WC, WIx, WS, WB, WD, VO, VC, WO, WQ, WK] at *
  exact po_lst c h
theorem vpo_tup {x y : List D} {K : D → Prop} (c : x.length + y.length ≤ sizeLine) (h : K (.tup (x ++ y))) : VO .add (.tup x) (.tup y) K := by
  simp only [WE, WEs, WT, WL, WI, WC, WIx, WS, WB, WD, VO, VC, WO, WQ, WK] at *
  exact po_tup c h
theorem vwe_cmp {op : CmpOp} (h : WE T a ρ g (fun x g1 => WE T b ρ g1 (fun y g2 => VC op x y fun d => P (.bl d) g2) X) X) : WE T (.cmp op a b) ρ g P X := by
  simp only [WE, WEs, WT, WL, WI, WC, WIx, WS, WB, WD, VO, VC, WO, WQ, WK] at *
  exact we_cmp h
theorem vwe_chain {op op' : CmpOp} (h : WE T a ρ g (fun x g1 => WE T b ρ g1 (fun y g2 => VC op x y fun d => (d = true → WE T c ρ g2 (fun z g3 => VC op' y z fun d => P (.bl d) g3) X) ∧ (d = false → P (.bl false) g2)) X) X) : WE T (.chain op op' a b c) ρ g P X := by
  simp only [WE, WEs, WT, WL, WI, WC, WIx, WS, WB, WD, VO, VC, WO, WQ, WK] at *
  exact we_chain h
theorem vpc_lt {i j : Int} {K : Bool → Prop} (h : K (decide (i < j))) : VC .Lt (.int i) (.int j) K := by
  simp only [WE, WEs, WT, WL, WI, WC, WIx, WS, WB, WD, VO, VC, WO, WQ, WK] at *
  exact pc_lt h
theorem vpc_le {i j : Int} {K : Bool → Prop} (h : K (decide (i ≤ j))) : VC .LtE (.int i) (.int j) K := by
  simp only [WE, WEs, WT, WL, WI, WC, WIx, WS, WB, WD, VO, VC, WO, WQ, WK] at *
  exact pc_le h
theorem vpc_gt {i j : Int} {K : Bool → Prop} (h : K (decide (j < i))) : VC .Gt (.int i) (.int j) K := by
  simp only [WE, WEs, WT, WL, WI, WC, WIx, WS, WB, WD, VO, VC, WO, WQ, WK] at *
  exact pc_gt h
theorem vpc_ge {i j : Int} {K : Bool → Prop} (h : K (decide (j ≤ i))) : VC .GtE (.int i) (.int j) K := by
  simp only [WE, WEs, WT, WL, WI, WC, WIx, WS, WB, WD, VO, VC, WO, WQ, WK] at *
  exact pc_ge h
theorem vwe_one (h : WE T a ρ g P X) : WE T (.one a) ρ g P X := by
  simp only [WE, WEs, WT, WL, WI, WC, WIx, WS, WB, WD, VO, VC, WO, WQ, WK] at *
  exact we_one h
theorem vwe_and (h : WE T a ρ g (fun x g1 => ∃ k, x = .bl k ∧ (k = true → WE T b ρ g1 P X) ∧ (k = false → P (.bl false) g1)) X) : WE T (.and a b) ρ g P X := by
  simp only [WE, WEs, WT, WL, WI, WC, WIx, WS, WB, WD, VO, VC, WO, WQ, WK] at *
  exact we_and h
theorem vwe_or (h : WE T a ρ g (fun x g1 => ∃ k, x = .bl k ∧ (k = true → P (.bl true) g1) ∧ (k = false → WE T b ρ g1 P X)) X) : WE T (.or a b) ρ g P X := by
  simp only [WE, WEs, WT, WL, WI, WC, WIx, WS, WB, WD, VO, VC, WO, WQ, WK] at *
  exact we_or h
theorem vwt_val (h : WE T a ρ g (fun x g1 => ∃ k, x = .bl k ∧ PB k g1) X) : WT T a ρ g PB X := by
  simp only [WE, WEs, WT, WL, WI, WC, WIx, WS, WB, WD, VO, VC, WO, WQ, WK] at *
  exact wt_val h
theorem vwt_one (h : WT T a ρ g PB X) : WT T (.one a) ρ g PB X := by
  simp only [WE, WEs, WT, WL, WI, WC, WIx, WS, WB, WD, VO, VC, WO, WQ, WK] at *
  exact wt_one h
theorem vwt_and (h : WT T a ρ g (fun k g1 => (k = true → WT T b ρ g1 PB X) ∧ (k = false → PB false g1)) X) : WT T (.and a b) ρ g PB X := by
  simp only [WE, WEs, WT, WL, WI, WC, WIx, WS, WB, WD, VO, VC, WO, WQ, WK] at *
  exact wt_and h
theorem vwt_or (h : WT T a ρ g (fun k g1 => (k = true → PB true g1) ∧ (k = false → WT T b ρ g1 PB X)) X) : WT T (.or a b) ρ g PB X := by
  simp only [WE, WEs, WT, WL, WI, WC, WIx, WS, WB, WD, VO, VC, WO, WQ, WK] at *
  exact wt_or h
theorem vwt_not (h : WT T a ρ g (fun k g1 => PB (!k) g1) X) : WT T (.not a) ρ g PB X := by
  simp only [WE, WEs, WT, WL, WI, WC, WIx, WS, WB, WD, VO, VC, WO, WQ, WK] at *
  exact wt_not h
theorem vwe_ite (h : WT T c ρ g (fun k g1 => (k = true → WE T a ρ g1 P X) ∧ (k = false → WE T b ρ g1 P X)) X) : WE T (.ite c a b) ρ g P X := by
  simp only [WE, WEs, WT, WL, WI, WC, WIx, WS, WB, WD, VO, VC, WO, WQ, WK] at *
  exact we_ite h
theorem vwe_nil (h : PL [] g) : WEs T .nil ρ g PL X := by
  simp only [WE, WEs, WT, WL, WI, WC, WIx, WS, WB, WD, VO, VC, WO, WQ, WK] at *
  exact we_nil h
theorem vwe_cons (h : WE T a ρ g (fun x g1 => WEs T as ρ g1 (fun xs g2 => PL (x :: xs) g2) X) X) : WEs T (.cons a as) ρ g PL X := by
  simp only [WE, WEs, WT, WL, WI, WC, WIx, WS, WB, WD, VO, VC, WO, WQ, WK] at *
  exact we_cons h
theorem vwe_tup (h : WEs T as ρ g (fun ds g1 => ds.length ≤ sizeLine ∧ P (.tup ds) g1) X) : WE T (.tup as) ρ g P X := by
  simp only [WE, WEs, WT, WL, WI, WC, WIx, WS, WB, WD, VO, VC, WO, WQ, WK] at *
  exact we_tup h
theorem vwe_ow {l : Lx} (h : WL T l ρ g (fun ds g1 => P (.lst ds) g1) X) : WE T (.ow l) ρ g P X := by
  simp only [WE, WEs, WT, WL, WI, WC, WIx, WS, WB, WD, VO, VC, WO, WQ, WK] at *
  exact we_ow h
theorem vwl_lst (h : WEs T as ρ g (fun ds g1 => ds.length ≤ sizeLine ∧ PL ds g1) X) : WL T (.lst as) ρ g PL X := by
  simp only [WE, WEs, WT, WL, WI, WC, WIx, WS, WB, WD, VO, VC, WO, WQ, WK] at *
  exact wl_lst h
theorem vwl_lc {elt : Ex} {tg : Tg} {it : Ix} {cond : Ox} (h : WI T it ρ g (fun ds g1 => ds.length ≤ sizeLine ∧ WM (compM tg.bind (evC T cond) (evE T elt) (wipeE ρ tg.slots) ds) g1 PL X) X) : WL T (.lc elt tg it cond) ρ g PL X := by
  simp only [WE, WEs, WT, WL, WI, WC, WIx, WS, WB, WD, VO, VC, WO, WQ, WK] at *
  exact wl_lc h
theorem vwi_any (h : WE T a ρ g (fun x g1 => ∃ ds, itemsD x = some ds ∧ PL ds g1) X) : WI T (.any a) ρ g PL X := by
  simp only [WE, WEs, WT, WL, WI, WC, WIx, WS, WB, WD, VO, VC, WO, WQ, WK] at *
  exact wi_any h
theorem vwi_r1 (h : WE T a ρ g (fun x g1 => ∃ n, x = .int n ∧ (-(2 ^ 62) ≤ n ∧ n < 2 ^ 62) ∧ PL (rngD 0 n.toNat) g1) X) : WI T (.rg (.r1 a)) ρ g PL X := by
  simp only [WE, WEs, WT, WL, WI, WC, WIx, WS, WB, WD, VO, VC, WO, WQ, WK] at *
  exact wi_r1 h
theorem vwi_r2 (h : WE T a ρ g (fun x g1 => WE T b ρ g1 (fun y g2 => ∃ n m, x = .int n ∧ y = .int m ∧ ((-(2 ^ 62) ≤ n ∧ n < 2 ^ 62) ∧ (-(2 ^ 62) ≤ m ∧ m < 2 ^ 62)) ∧ PL (rngD n (m - n).toNat) g2) X) X) : WI T (.rg (.r2 a b)) ρ g PL X := by
  simp only [WE, WEs, WT, WL, WI, WC, WIx, WS, WB, WD, VO, VC, WO, WQ, WK] at *
  exact wi_r2 h
theorem vwe_ix (h : WE T a ρ g (fun x g1 => WE T b ρ g1 (fun y g2 => WIx T.scr x y g2 P X) X) X) : WE T (.ix a b) ρ g P X := by
  simp only [WE, WEs, WT, WL, WI, WC, WIx, WS, WB, WD, VO, VC, WO, WQ, WK] at *
  exact we_ix h
theorem vix_tup {scr : List Int} {ds : List D} {i : Int} {d : D} (e : atI ds i = some d) (h : P d g) : WIx scr (.tup ds) (.int i) g P X := by
  simp only [WE, WEs, WT, WL, WI, WC, WIx, WS, WB, WD, VO, VC, WO, WQ, WK] at *
  exact ix_tup e h
theorem vix_lst {scr : List Int} {ds : List D} {i : Int} {d : D} (e : atI ds i = some d) (h : P d g) : WIx scr (.lst ds) (.int i) g P X := by
  simp only [WE, WEs, WT, WL, WI, WC, WIx, WS, WB, WD, VO, VC, WO, WQ, WK] at *
  exact ix_lst e h
theorem vix_scr {scr : List Int} {i d : Int} (e : atI scr i = some d) (h : P (.int d) g) : WIx scr .scr (.int i) g P X := by
  simp only [WE, WEs, WT, WL, WI, WC, WIx, WS, WB, WD, VO, VC, WO, WQ, WK] at *
  exact ix_scr e h
theorem vix_row0 {scr : List Int} (h : P .scr g) : WIx scr .row (.int 0) g P X := by
  simp only [WE, WEs, WT, WL, WI, WC, WIx, WS, WB, WD, VO, VC, WO, WQ, WK] at *
  exact ix_row0 h
theorem vix_row1 {scr : List Int} (h : P (.int g.i) g) : WIx scr .row (.int 1) g P X := by
  simp only [WE, WEs, WT, WL, WI, WC, WIx, WS, WB, WD, VO, VC, WO, WQ, WK] at *
  exact ix_row1 h
theorem vix_row2 {scr : List Int} (h : P (.int g.m) g) : WIx scr .row (.int 2) g P X := by
  simp only [WE, WEs, WT, WL, WI, WC, WIx, WS, WB, WD, VO, VC, WO, WQ, WK] at *
  exact ix_row2 h
theorem vix_row3 {scr : List Int} (h : P (.int g.r) g) : WIx scr .row (.int 3) g P X := by
  simp only [WE, WEs, WT, WL, WI, WC, WIx, WS, WB, WD, VO, VC, WO, WQ, WK] at *
  exact ix_row3 h
theorem vwe_call {i : Nat} (h : WEs T as ρ g (fun ds g1 => WD T i ds g1 P X) X) : WE T (.call i as) ρ g P X := by
  simp only [WE, WEs, WT, WL, WI, WC, WIx, WS, WB, WD, VO, VC, WO, WQ, WK] at *
  exact we_call h
theorem vwe_bi {k : Bi} (h : WEs T as ρ g (fun ds g1 => ∃ d, biS T.scr k ds = some d ∧ P d g1) X) : WE T (.bi k as) ρ g P X := by
  simp only [WE, WEs, WT, WL, WI, WC, WIx, WS, WB, WD, VO, VC, WO, WQ, WK] at *
  exact we_bi h
theorem vwe_isT {ts : Exs} (h : WE T a ρ g (fun x g1 => WEs T ts ρ g1 (fun ds g2 => ds.length ≤ sizeLine ∧ ∃ k, isiT x ds = some (.bl k) ∧ P (.bl k) g2) X) X) : WE T (.isT a ts) ρ g P X := by
  simp only [WE, WEs, WT, WL, WI, WC, WIx, WS, WB, WD, VO, VC, WO, WQ, WK] at *
  exact we_isT h
theorem vwr_nil (h : N ρ g) : WB T .nil ρ g N R XS := by
  simp only [WE, WEs, WT, WL, WI, WC, WIx, WS, WB, WD, VO, VC, WO, WQ, WK] at *
  exact wr_nil h
theorem vwr_frz {i : Nat} {r : Cms} (h : WB T r (frzE i ρ) g N R XS) : WB T (.frz i r) ρ g N R XS := by
  simp only [WE, WEs, WT, WL, WI, WC, WIx, WS, WB, WD, VO, VC, WO, WQ, WK] at *
  exact wr_frz h
theorem vwr_cons {s : Cm} {r : Cms} (h : WS T s ρ g (fun ρ1 g1 => WB T r ρ1 g1 N R XS) R XS) : WB T (.cons s r) ρ g N R XS := by
  simp only [WE, WEs, WT, WL, WI, WC, WIx, WS, WB, WD, VO, VC, WO, WQ, WK] at *
  exact wr_cons h
theorem vws_pass (h : N ρ g) : WS T .pass ρ g N R XS := by
  simp only [WE, WEs, WT, WL, WI, WC, WIx, WS, WB, WD, VO, VC, WO, WQ, WK] at *
  exact ws_pass h
theorem vws_expr (h : WE T a ρ g (fun _ g1 => N ρ g1) (fun c fs g1 => XS c fs ρ g1)) : WS T (.expr a) ρ g N R XS := by
  simp only [WE, WEs, WT, WL, WI, WC, WIx, WS, WB, WD, VO, VC, WO, WQ, WK] at *
  exact ws_expr h
theorem vws_ret (h : WE T a ρ g R (fun c fs g1 => XS c fs ρ g1)) : WS T (.ret a) ρ g N R XS := by
  simp only [WE, WEs, WT, WL, WI, WC, WIx, WS, WB, WD, VO, VC, WO, WQ, WK] at *
  exact ws_ret h
theorem vws_ife {x y : Cms} (h : WT T c ρ g (fun k g1 => (k = true → WB T x ρ g1 N R XS) ∧ (k = false → WB T y ρ g1 N R XS)) (fun c fs g1 => XS c fs ρ g1)) : WS T (.ife c x y) ρ g N R XS := by
  simp only [WE, WEs, WT, WL, WI, WC, WIx, WS, WB, WD, VO, VC, WO, WQ, WK] at *
  exact ws_ife h
theorem vws_set {i : Nat} (h : WE T a ρ g (fun d g1 => N (ρ.set i (.v d)) g1) (fun c fs g1 => XS c fs ρ g1)) : WS T (.set i a) ρ g N R XS := by
  simp only [WE, WEs, WT, WL, WI, WC, WIx, WS, WB, WD, VO, VC, WO, WQ, WK] at *
  exact ws_set h
theorem vws_setL {i : Nat} {l : Lx} (h : WL T l ρ g (fun d g1 => N (ρ.set i (.ol d)) g1) (fun c fs g1 => XS c fs ρ g1)) : WS T (.setL i l) ρ g N R XS := by
  simp only [WE, WEs, WT, WL, WI, WC, WIx, WS, WB, WD, VO, VC, WO, WQ, WK] at *
  exact ws_setL h
theorem vws_setW {i : Nat} {l : Lx} (h : WL T l ρ g (fun d g1 => N (ρ.set i (.v (.lst d))) g1) (fun c fs g1 => XS c fs ρ g1)) : WS T (.setW i l) ρ g N R XS := by
  simp only [WE, WEs, WT, WL, WI, WC, WIx, WS, WB, WD, VO, VC, WO, WQ, WK] at *
  exact ws_setW h
theorem vws_par {i j : Nat} (h : WEs T as ρ g (fun ds g1 => ∃ d e, ds = [d, e] ∧ N ((ρ.set i (.v d)).set j (.v e)) g1) (fun c fs g1 => XS c fs ρ g1)) : WS T (.par i j as) ρ g N R XS := by
  simp only [WE, WEs, WT, WL, WI, WC, WIx, WS, WB, WD, VO, VC, WO, WQ, WK] at *
  exact ws_par h
theorem vws_asg {t : Tg} (h : WE T a ρ g (fun d g1 => ∃ ρ', t.bind d ρ = some ρ' ∧ N ρ' g1) (fun c fs g1 => XS c fs ρ g1)) : WS T (.asg t a) ρ g N R XS := by
  simp only [WE, WEs, WT, WL, WI, WC, WIx, WS, WB, WD, VO, VC, WO, WQ, WK] at *
  exact ws_asg h
theorem vws_row {i : Nat} {e : Int} (hr : ρ[i]? = some (.v .row)) (h : WE T a ρ g (fun d g1 => ∃ n g2, d = .int n ∧ rowAt g1 n e = some g2 ∧ N ρ g2) (fun c fs g1 => XS c fs ρ g1)) : WS T (.setAt i (.int e) a) ρ g N R XS := by
  simp only [WE, WEs, WT, WL, WI, WC, WIx, WS, WB, WD, VO, VC, WO, WQ, WK] at *
  exact ws_row hr h
theorem vws_for {t : Tg} {it : Ix} {b : Cms} (h : WI T it ρ g (fun ds g1 => WR (forS t.bind (evB T b) ds ρ g1) N R XS) (fun c fs g1 => XS c fs ρ g1)) : WS T (.for t it b) ρ g N R XS := by
  simp only [WE, WEs, WT, WL, WI, WC, WIx, WS, WB, WD, VO, VC, WO, WQ, WK] at *
  exact ws_for h
theorem vwr_while {c : Ex} {b : Cms} (I : Nat → Env → G → Prop) (step : ∀ n ρ g, I n ρ g → WT T c ρ g (fun k g1 => (k = true → WB T b ρ g1 (fun ρ2 g2 => ∃ m, m < n ∧ I m ρ2 g2) R XS) ∧ (k = false → N ρ g1)) (fun c fs g1 => XS c fs ρ g1)) :
    ∀ (n : Nat) (ρ : Env) (g : G), I n ρ g → WS T (.while c b) ρ g N R XS := by
  simp only [WE, WEs, WT, WL, WI, WC, WIx, WS, WB, WD, VO, VC, WO, WQ, WK] at *
  exact wr_while I step
theorem vwc_def {S : Sta} {k i : Nat} {d : Dfr} {ds : List D} (hd : S.defs[i]? = some d) (hi : d.ini = none) (hl : ds.length = S.nps i) (h : WB (tabK S k) d.b (startE d.N ds) g (fun _ g1 => P .non g1) P (fun c fs _ g1 => X c fs g1)) : WD (tabK S (k + 1)) i ds g P X := by
  simp only [WE, WEs, WT, WL, WI, WC, WIx, WS, WB, WD, VO, VC, WO, WQ, WK] at *
  exact wc_def hd hi hl h
theorem vpc_eqI {i j : Int} {K : Bool → Prop} (h : K (decide (i = j))) : VC .Eq (.int i) (.int j) K := by
  simp only [WE, WEs, WT, WL, WI, WC, WIx, WS, WB, WD, VO, VC, WO, WQ, WK] at *
  exact pc_eqI h
theorem vpc_neI {i j : Int} {K : Bool → Prop} (h : K (!decide (i = j))) : VC .NotEq (.int i) (.int j) K := by
  simp only [WE, WEs, WT, WL, WI, WC, WIx, WS, WB, WD, VO, VC, WO, WQ, WK] at *
  exact pc_neI h
theorem vpc_eqB {i j : Bool} {K : Bool → Prop} (h : K (i == j)) : VC .Eq (.bl i) (.bl j) K := by
  simp only [WE, WEs, WT, WL, WI, WC, WIx, WS, WB, WD, VO, VC, WO, WQ, WK] at *
  exact pc_eqB h
theorem vpc_neB {i j : Bool} {K : Bool → Prop} (h : K (i != j)) : VC .NotEq (.bl i) (.bl j) K := by
  simp only [WE, WEs, WT, WL, WI, WC, WIx, WS, WB, WD, VO, VC, WO, WQ, WK] at *
  exact pc_neB h
theorem vpc_isN {d : D} {k : Bool} {K : Bool → Prop} (e : isNon d = k) (h : K k) : VC .Is d .non K := by
  simp only [WE, WEs, WT, WL, WI, WC, WIx, WS, WB, WD, VO, VC, WO, WQ, WK] at *
  exact pc_isN e h
theorem vpc_notN {d : D} {k : Bool} {K : Bool → Prop} (e : isNon d = k) (h : K (!k)) : VC .IsNot d .non K := by
  simp only [WE, WEs, WT, WL, WI, WC, WIx, WS, WB, WD, VO, VC, WO, WQ, WK] at *
  exact pc_notN e h
theorem vws_raise {c : Nat} (h : WEs T as ρ g (fun ds g1 => ds.length = 1 ∧ XS c ds ρ g1) (fun c fs g1 => XS c fs ρ g1)) : WS T (.raise c as) ρ g N R XS := by
  simp only [WE, WEs, WT, WL, WI, WC, WIx, WS, WB, WD, VO, VC, WO, WQ, WK] at *
  exact ws_raise h
theorem vws_try {j i : Nat} {b s : Cms} (h : WB T b ρ g N R (fun c fs ρ1 g1 => (T.sub c j = some true ∧ WB T s ((clr ρ1).set i (.ex c fs)) g1 (fun ρ2 g2 => N (clr (ρ2.set i .no)) g2) R fun _ _ _ _ => False) ∨ (T.sub c j = some false ∧ XS c fs ρ1 g1))) : WS T (.try j i b s) ρ g N R XS := by
  simp only [WE, WEs, WT, WL, WI, WC, WIx, WS, WB, WD, VO, VC, WO, WQ, WK] at *
  exact ws_try h
theorem vwe_exf {i : Nat} {f : Str} {d : D} (e : exX T.xn ρ i f = some d) (h : P d g) : WE T (.exf i f) ρ g P X := by
  simp only [WE, WEs, WT, WL, WI, WC, WIx, WS, WB, WD, VO, VC, WO, WQ, WK] at *
  exact we_exf e h
theorem vwc_no (h : PB true g) : WC T .no ρ g PB X := by
  simp only [WE, WEs, WT, WL, WI, WC, WIx, WS, WB, WD, VO, VC, WO, WQ, WK] at *
  exact wc_no h
theorem vwc_ex (h : WT T a ρ g PB X) : WC T (.ex a) ρ g PB X := by
  simp only [WE, WEs, WT, WL, WI, WC, WIx, WS, WB, WD, VO, VC, WO, WQ, WK] at *
  exact wc_ex h
theorem vpc_eqN {K : Bool → Prop} (h : K true) : VC .Eq .non .non K := by
  simp only [WE, WEs, WT, WL, WI, WC, WIx, WS, WB, WD, VO, VC, WO, WQ, WK] at *
  exact pc_eqN h
theorem vpc_eqNil {K : Bool → Prop} (h : K true) : VC .Eq (.lst []) (.lst []) K := by
  simp only [WE, WEs, WT, WL, WI, WC, WIx, WS, WB, WD, VO, VC, WO, WQ, WK] at *
  exact pc_eqNil h
theorem vwo_no {PO' : Option Int → G → Prop} (h : PO' none g) : WO T .no ρ g PO' X := by
  simp only [WE, WEs, WT, WL, WI, WC, WIx, WS, WB, WD, VO, VC, WO, WQ, WK] at *
  exact wo_no h
theorem vwo_ex {PO' : Option Int → G → Prop} (h : WE T a ρ g (fun x g1 => ∃ i, x = .int i ∧ PO' (some i) g1) X) : WO T (.ex a) ρ g PO' X := by
  simp only [WE, WEs, WT, WL, WI, WC, WIx, WS, WB, WD, VO, VC, WO, WQ, WK] at *
  exact wo_ex h
theorem vwe_sl {l hi : Ox} (h : WE T a ρ g (fun x g1 => WO T l ρ g1 (fun i g2 => WO T hi ρ g2 (fun j g3 => ∃ d, slS x i j = some d ∧ P d g3) X) X) X) : WE T (.sl a l hi) ρ g P X := by
  simp only [WE, WEs, WT, WL, WI, WC, WIx, WS, WB, WD, VO, VC, WO, WQ, WK] at *
  exact we_sl h
theorem vws_mtL {k : Ml} {i : Nat} {ds : List D} (e : ownL ρ i = some ds) (h : WEs T as ρ g (fun args g1 => ∃ r, mlS k ds args = some r ∧ N (ρ.set i (.ol r)) g1) (fun c fs g1 => XS c fs ρ g1)) : WS T (.mtL k i as) ρ g N R XS := by
  simp only [WE, WEs, WT, WL, WI, WC, WIx, WS, WB, WD, VO, VC, WO, WQ, WK] at *
  exact ws_mtL e h
theorem vwl_rg1 (h : WE T a ρ g (fun x g1 => ∃ n, x = .int n ∧ (-(2 ^ 62) ≤ n ∧ n ≤ 2 ^ 24) ∧ PL (rngD 0 n.toNat) g1) X) : WL T (.rg (.r1 a)) ρ g PL X := by
  simp only [WE, WEs, WT, WL, WI, WC, WIx, WS, WB, WD, VO, VC, WO, WQ, WK] at *
  exact wl_rg1 h
theorem vwl_rg2 (h : WE T a ρ g (fun x g1 => WE T b ρ g1 (fun y g2 => ∃ n m, x = .int n ∧ y = .int m ∧ ((-(2 ^ 62) ≤ n ∧ n < 2 ^ 62) ∧ (-(2 ^ 62) ≤ m ∧ m < 2 ^ 62) ∧ m - n ≤ 2 ^ 24) ∧ PL (rngD n (m - n).toNat) g2) X) X) : WL T (.rg (.r2 a b)) ρ g PL X := by
  simp only [WE, WEs, WT, WL, WI, WC, WIx, WS, WB, WD, VO, VC, WO, WQ, WK] at *
  exact wl_rg2 h
theorem vwl_bl {k : Bl} (h : WEs T as ρ g (fun ds g1 => ∃ r, blS k ds = some r ∧ PL r g1) X) : WL T (.bl k as) ρ g PL X := by
  simp only [WE, WEs, WT, WL, WI, WC, WIx, WS, WB, WD, VO, VC, WO, WQ, WK] at *
  exact wl_bl h
theorem vwe_fld {f : Str} (h : WE T a ρ g (fun x g1 => ∃ d, fldX T.flds f x = some d ∧ P d g1) X) : WE T (.fld a f) ρ g P X := by
  simp only [WE, WEs, WT, WL, WI, WC, WIx, WS, WB, WD, VO, VC, WO, WQ, WK] at *
  exact we_fld h
theorem vwe_gv {k : Nat} (h : P (T.con k) g) : WE T (.gv k) ρ g P X := by
  simp only [WE, WEs, WT, WL, WI, WC, WIx, WS, WB, WD, VO, VC, WO, WQ, WK] at *
  exact we_gv h
theorem vws_doc (h : N ρ g) : WS T .doc ρ g N R XS := by
  simp only [WE, WEs, WT, WL, WI, WC, WIx, WS, WB, WD, VO, VC, WO, WQ, WK] at *
  exact ws_doc h
theorem vws_retN (h : R .non g) : WS T .retN ρ g N R XS := by
  simp only [WE, WEs, WT, WL, WI, WC, WIx, WS, WB, WD, VO, VC, WO, WQ, WK] at *
  exact ws_retN h
theorem vwe_trg1 (h : WE T a ρ g (fun x g1 => ∃ n, x = .int n ∧ (-(2 ^ 62) ≤ n ∧ n ≤ 2 ^ 24) ∧ P (.tup (rngD 0 n.toNat)) g1) X) : WE T (.trg (.r1 a)) ρ g P X := by
  simp only [WE, WEs, WT, WL, WI, WC, WIx, WS, WB, WD, VO, VC, WO, WQ, WK] at *
  exact we_trg1 h
theorem vwi_enum (h : WE T a ρ g (fun x g1 => ∃ ds, listD x = some ds ∧ PL (enumD 0 ds) g1) X) : WI T (.enum a) ρ g PL X := by
  simp only [WE, WEs, WT, WL, WI, WC, WIx, WS, WB, WD, VO, VC, WO, WQ, WK] at *
  exact wi_enum h
theorem vws_par3 {i j l : Nat} (h : WEs T as ρ g (fun ds g1 => ∃ d e f, ds = [d, e, f] ∧ N (((ρ.set i (.v d)).set j (.v e)).set l (.v f)) g1) (fun c fs g1 => XS c fs ρ g1)) : WS T (.par3 i j l as) ρ g N R XS := by
  simp only [WE, WEs, WT, WL, WI, WC, WIx, WS, WB, WD, VO, VC, WO, WQ, WK] at *
  exact ws_par3 h
theorem vwe_gf {i : Nat} (h : P (.fn i) g) : WE T (.gf i) ρ g P X := by
  simp only [WE, WEs, WT, WL, WI, WC, WIx, WS, WB, WD, VO, VC, WO, WQ, WK] at *
  exact we_gf h
theorem vwe_gc {c : Nat} (h : P (.cls c) g) : WE T (.gc c) ρ g P X := by
  simp only [WE, WEs, WT, WL, WI, WC, WIx, WS, WB, WD, VO, VC, WO, WQ, WK] at *
  exact we_gc h
theorem vwe_isC {c : Nat} (h : WE T a ρ g (fun x g1 => ∃ d, isCd T.kit c x = some d ∧ P d g1) X) : WE T (.isC a c) ρ g P X := by
  simp only [WE, WEs, WT, WL, WI, WC, WIx, WS, WB, WD, VO, VC, WO, WQ, WK] at *
  exact we_isC h
theorem vwe_eqI {n : Bool} (h : WE T a ρ g (fun x g1 => WE T b ρ g1 (fun y g2 => WQ T n x y g2 P X) X) X) : WE T (.eqI n a b) ρ g P X := by
  simp only [WE, WEs, WT, WL, WI, WC, WIx, WS, WB, WD, VO, VC, WO, WQ, WK] at *
  exact we_eqI h
theorem vwq_own {n : Bool} {x y : D} {i : Nat} {ds : List D} (hd : ds = [x, y]) (e : eqJ T.mts T.kit x y = some i) (h : WD T i ds g (fun r g1 => ∃ k, r = .bl k ∧ P (.bl (xor n k)) g1) (fun _ _ _ => False)) : WQ T n x y g P X := by
  simp only [WE, WEs, WT, WL, WI, WC, WIx, WS, WB, WD, VO, VC, WO, WQ, WK] at *
  exact wq_own hd e h
theorem vwq_pl {n : Bool} {x y : D} (e : eqJ T.mts T.kit x y = none) (h : VC (eqO n) x y fun d => P (.bl d) g) : WQ T n x y g P X := by
  simp only [WE, WEs, WT, WL, WI, WC, WIx, WS, WB, WD, VO, VC, WO, WQ, WK] at *
  exact wq_pl e h
theorem vwe_callv {i j : Nat} (e : envF ρ j = some i) (h : WEs T as ρ g (fun ds g1 => WD T i ds g1 P X) X) : WE T (.callv j as) ρ g P X := by
  simp only [WE, WEs, WT, WL, WI, WC, WIx, WS, WB, WD, VO, VC, WO, WQ, WK] at *
  exact we_callv e h
theorem vwe_meth {m : Str} (h : WE T a ρ g (fun o g1 => ∃ i, mtX T.mts m o = some i ∧ WEs T as ρ g1 (fun ds0 g2 => ∀ ds, ds = o :: ds0 → WD T i ds g2 P X) X) X) : WE T (.meth a m as) ρ g P X := by
  simp only [WE, WEs, WT, WL, WI, WC, WIx, WS, WB, WD, VO, VC, WO, WQ, WK] at *
  exact we_meth h
theorem vwe_make {c : Nat} (h : WEs T as ρ g (fun ds g1 => WK T c ds g1 P X) X) : WE T (.make c as) ρ g P X := by
  simp only [WE, WEs, WT, WL, WI, WC, WIx, WS, WB, WD, VO, VC, WO, WQ, WK] at *
  exact we_make h
theorem vwc_ini {S : Sta} {k i c : Nat} {d : Dfr} {ds : List D} (hd : S.defs[i]? = some d) (hi : S.ini c = some i) (hl : ds.length + 1 = d.ps.length) (h : WB (tabK S k) d.b (startI d.N c ds) g (fun ρ1 g1 => ∃ fs, ρ1[0]? = some (.oi c fs) ∧ P (.ins c fs) g1) (fun _ _ => False) (fun c fs _ g1 => X c fs g1)) : WK (tabK S (k + 1)) c ds g P X := by
  simp only [WE, WEs, WT, WL, WI, WC, WIx, WS, WB, WD, VO, VC, WO, WQ, WK] at *
  exact wc_ini hd hi hl h
theorem vws_setF {i c : Nat} {f : Str} {fs : List (Str × D)} (hr : ρ[i]? = some (.oi c fs)) (h : WE T a ρ g (fun d g1 => (f ∈ T.flds c ∧ fs.length < 1000) ∧ N (ρ.set i (.oi c (putD f d fs))) g1) (fun c fs g1 => XS c fs ρ g1)) : WS T (.setF i f a) ρ g N R XS := by
  simp only [WE, WEs, WT, WL, WI, WC, WIx, WS, WB, WD, VO, VC, WO, WQ, WK] at *
  exact ws_setF hr h
theorem vwe_trg2 (h : WE T a ρ g (fun x g1 => WE T b ρ g1 (fun y g2 => ∃ n m, x = .int n ∧ y = .int m ∧ ((-(2 ^ 62) ≤ n ∧ n < 2 ^ 62) ∧ (-(2 ^ 62) ≤ m ∧ m < 2 ^ 62) ∧ m - n ≤ 2 ^ 24) ∧ P (.tup (rngD n (m - n).toNat)) g2) X) X) : WE T (.trg (.r2 a b)) ρ g P X := by
  simp only [WE, WEs, WT, WL, WI, WC, WIx, WS, WB, WD, VO, VC, WO, WQ, WK] at *
  exact we_trg2 h
theorem vfor {t : Tg} {b : Cms} (I : List D → Env → G → Prop) (step : ∀ d ds ρ g, I (d :: ds) ρ g → ∃ ρ1, t.bind d ρ = some ρ1 ∧ WB T b ρ1 g (I ds) R XS) (fin : ∀ ρ g, I [] ρ g → N ρ g) : ∀ (ds : List D) (ρ : Env) (g : G), I ds ρ g → WR (forS t.bind (evB T b) ds ρ g) N R XS := by
  simp only [WB] at *
  exact wr_for I step fin
theorem vfor_nil {bd : D → Env → Option Env} {f : MS} (h : N ρ g) : WR (forS bd f [] ρ g) N R XS := h
theorem vfor_cons {bd : D → Env → Option Env} {b : Cms} {d : D} {ds : List D} {ρ1 : Env} (e : bd d ρ = some ρ1) (h : WB T b ρ1 g (fun ρ2 g2 => WR (forS bd (evB T b) ds ρ2 g2) N R XS) R XS) : WR (forS bd (evB T b) (d :: ds) ρ g) N R XS := by
  simp only [WB] at *
  exact wr_for_cons e h
theorem vcomp {bd : D → Env → Option Env} {cond : Ox} {elt : Ex} {p : D → Bool} {f : D → D} {ds : List D} (h : ∀ d ∈ ds, ∃ ρ1, bd d ρ = some ρ1 ∧ (∀ (g : G) (P : Bool → G → Prop) (X : Nat → List D → G → Prop), P (p d) g → WC T cond ρ1 g P X) ∧ (p d = true → ∀ (g : G) (P : D → G → Prop) (X : Nat → List D → G → Prop), P (f d) g → WE T elt ρ1 g P X))
    (h2 : PL ((ds.filter p).map f) g) : WM (compM bd (evC T cond) (evE T elt) ρ ds) g PL X := by
  simp only [WC, WE] at *
  exact wm_comp h h2
theorem vmono {P Q : D → G → Prop} {i : Nat} {ds : List D} {X Y : Nat → List D → G → Prop} (h : WD T i ds g P X) (k : ∀ x g, P x g → Q x g) (l : ∀ c fs g, X c fs g → Y c fs g) : WD T i ds g Q Y := by
  simp only [WD] at *
  exact wm_mono h k l
theorem vlaw {s : Cms} (h : WB T s ρ g (fun _ _ => False) (fun d _ => d = .bl true) fun _ _ _ _ => False) : ∃ g', evB T s ρ g = .rt (.bl true) g' := by
  unfold WB WR at h
  cases q : evB T s ρ g with
  | rt d g' => rw [q] at h; exact ⟨g', by rw [show d = .bl true from h]⟩
  | nx _ _ => rw [q] at h; exact h.elim
  | er _ _ _ _ => rw [q] at h; exact h.elim
  | stuck => rw [q] at h; exact h.elim
end
end DS

set_option Elab.async false
set_option linter.all false
set_option maxRecDepth 100000
set_option maxHeartbeats 4000000
/-! plain numbers: lowest terms -/
namespace NT
/-- lowest terms: top, bottom -/
def rt (a b : Int) : Int := a / (Int.gcd a b : Int)
def rb (a b : Int) : Int := b / (Int.gcd a b : Int)
theorem gpos {a b : Int} (h : 0 < b) : 0 < (Int.gcd a b : Int) := by
  have : Int.gcd a b ≠ 0 := fun z => by
    have := Int.gcd_eq_zero_iff.mp z
    omega
  omega
theorem rt_mul {a b : Int} : rt a b * (Int.gcd a b : Int) = a := Int.ediv_mul_cancel (Int.gcd_dvd_left ..)
theorem rb_mul {a b : Int} : rb a b * (Int.gcd a b : Int) = b := Int.ediv_mul_cancel (Int.gcd_dvd_right ..)
theorem rb_pos {a b : Int} (h : 0 < b) : 0 < rb a b := by
  have h1 := rb_mul (a := a) (b := b)
  have h2 := gpos (a := a) h
  by_cases c : 0 < rb a b
  · exact c
  · have h3 : rb a b * (Int.gcd a b : Int) ≤ 0 := Int.mul_nonpos_of_nonpos_of_nonneg (by omega) (by omega)
    omega
theorem gcd_scale {k a b : Int} (h : 0 < k) : (Int.gcd (k * a) (k * b) : Int) = k * (Int.gcd a b : Int) := by
  rw [Int.gcd_mul_left]
  have : (k.natAbs : Int) = k := by omega
  push_cast
  rw [this]
theorem rt_scale {k a b : Int} (h : 0 < k) (hb : 0 < b) : rt (k * a) (k * b) = rt a b := by
  unfold rt
  rw [gcd_scale h]
  exact Int.mul_ediv_mul_of_pos _ _ h
theorem rb_scale {k a b : Int} (h : 0 < k) (hb : 0 < b) : rb (k * a) (k * b) = rb a b := by
  unfold rb
  rw [gcd_scale h]
  exact Int.mul_ediv_mul_of_pos _ _ h
theorem gcd_red {a b : Int} (h : 0 < b) : Int.gcd (rt a b) (rb a b) = 1 := by
  have g := gpos (a := a) h
  have e := gcd_scale (k := (Int.gcd a b : Int)) (a := rt a b) (b := rb a b) g
  rw [Int.mul_comm, rt_mul, Int.mul_comm, rb_mul] at e
  have : (Int.gcd (rt a b) (rb a b) : Int) = 1 := by
    have e2 : (Int.gcd a b : Int) * (Int.gcd (rt a b) (rb a b) : Int) = (Int.gcd a b : Int) * 1 := by rw [← e]; omega
    exact Int.eq_of_mul_eq_mul_left (by omega) e2
  omega
theorem rt_one {a b : Int} (h : Int.gcd a b = 1) : rt a b = a ∧ rb a b = b := by
  unfold rt rb
  rw [h]
  simp
/-- .. of lowest terms again -/
theorem red_red {a b : Int} (h : 0 < b) : rt (rt a b) (rb a b) = rt a b ∧ rb (rt a b) (rb a b) = rb a b := rt_one (gcd_red h)
/-- top and bottom taken k-fold -/
theorem red_eq {a b c d k : Int} (hk : 0 < k) (h1 : a = k * c) (h2 : b = k * d) (hd : 0 < d) : rt a b = rt c d ∧ rb a b = rb c d := by
  subst h1; subst h2
  exact ⟨rt_scale hk hd, rb_scale hk hd⟩
theorem rb_le {a b : Int} (h : 0 < b) : rb a b ≤ b := by
  have h1 := rb_mul (a := a) (b := b)
  have h2 := gpos (a := a) h
  have h3 := rb_pos (a := a) h
  have : rb a b * 1 ≤ rb a b * (Int.gcd a b : Int) := Int.mul_le_mul_of_nonneg_left (by omega) (by omega)
  omega
theorem rt_abs {a b m : Int} (h : 0 < b) (h1 : -m ≤ a) (h2 : a ≤ m) : -m ≤ rt a b ∧ rt a b ≤ m := by
  have e := rt_mul (a := a) (b := b)
  have g := gpos (a := a) h
  generalize rt a b = x at *
  generalize (Int.gcd a b : Int) = y at *
  subst e
  by_cases c : 0 ≤ x
  · have : x * 1 ≤ x * y := Int.mul_le_mul_of_nonneg_left (by omega) c
    omega
  · have : x * y ≤ x * 1 := Int.mul_le_mul_of_nonpos_left (by omega) (by omega)
    omega
/-- a common part above 0 that is the greatest -/
theorem gcd_max {a b d : Int} (hb : 0 < b) (hd : 0 < d) (h1 : d ∣ a) (h2 : d ∣ b) : d ≤ (Int.gcd a b : Int) := by
  have := Int.dvd_coe_gcd h1 h2
  exact Int.le_of_dvd (gpos hb) this
theorem gcd_mod (x y : Int) : Int.gcd (x % y) y = Int.gcd x y := by
  have := Int.emod_add_mul_ediv x y
  rw [Int.gcd_comm, Int.gcd_comm x]
  conv => rhs; rw [← this]
  rw [Int.gcd_add_mul_left_right]
end NT

set_option Elab.async false
set_option linter.all false
set_option maxRecDepth 100000
set_option maxHeartbeats 4000000
/-! DS: lists of a Lean type as data: comprehensions over them, sums, least, greatest; plain data equal to itself -/
namespace DS
open PySem L2
section
variable {T : Tab} {ρ : Env} {g : G} {X : Nat → List D → G → Prop} {PL : List D → G → Prop}
/-- a comprehension over a typed list -/
theorem vcompT {α : Type} {L : List α} {e : α → D} {p : α → Bool} {f : α → D} {bd : D → Env → Option Env} {cond : Ox} {elt : Ex}
    (h : ∀ x ∈ L, ∃ ρ1, bd (e x) ρ = some ρ1 ∧ (∀ (g : G) (P : Bool → G → Prop) (X : Nat → List D → G → Prop), P (p x) g → WC T cond ρ1 g P X) ∧ (p x = true → ∀ (g : G) (P : D → G → Prop) (X : Nat → List D → G → Prop), P (f x) g → WE T elt ρ1 g P X))
    (k : PL ((L.filter p).map f) g) : WM (compM bd (evC T cond) (evE T elt) ρ (L.map e)) g PL X := by
  have go : ∀ {L : List α}, (∀ x ∈ L, ∃ ρ1, bd (e x) ρ = some ρ1 ∧ (∀ (g : G) (P : Bool → G → Prop) (X : Nat → List D → G → Prop), P (p x) g → WC T cond ρ1 g P X) ∧ (p x = true → ∀ (g : G) (P : D → G → Prop) (X : Nat → List D → G → Prop), P (f x) g → WE T elt ρ1 g P X)) →
      compM bd (evC T cond) (evE T elt) ρ (L.map e) = M.ret ((L.filter p).map f) := by
    intro L
    induction L with
    | nil => intro _; rfl
    | cons x L ih =>
      intro h
      obtain ⟨ρ1, h1, h2, h3⟩ := h x List.mem_cons_self
      have ih := ih fun y hy => h y (List.mem_cons_of_mem _ hy)
      simp only [WC, WE] at h2 h3
      rw [List.map_cons, compM_cons, h1, lft_some', bind_ret, wm_pure h2, noErr_ret, bind_ret]
      cases q : p x with
      | true => rw [if_pos rfl, wm_pure (h3 q), noErr_ret, bind_ret, ih, bind_ret, List.filter_cons_of_pos q]; rfl
      | false => rw [if_neg (by simp), ih, List.filter_cons_of_neg (by simp [q])]
  rw [go h]
  exact wm_ret k
/-- .. that keeps all items -/
theorem vcompA {α : Type} {L : List α} {e : α → D} {f : α → D} {bd : D → Env → Option Env} {elt : Ex}
    (h : ∀ x ∈ L, ∃ ρ1, bd (e x) ρ = some ρ1 ∧ (∀ (g : G) (P : D → G → Prop) (X : Nat → List D → G → Prop), P (f x) g → WE T elt ρ1 g P X))
    (k : PL (L.map f) g) : WM (compM bd (evC T .no) (evE T elt) ρ (L.map e)) g PL X := by
  refine vcompT (p := fun _ => true) (f := f) (fun x hx => ?_) ?_
  · obtain ⟨ρ1, h1, h2⟩ := h x hx
    exact ⟨ρ1, h1, fun g P X hP => by simp only [WC]; exact wc_no hP, fun _ => h2⟩
  · rw [List.filter_eq_self.mpr fun _ _ => rfl]
    exact k
theorem rng_map (lo : Int) (n : Nat) : rngD lo n = (List.range n).map fun i : Nat => D.int (lo + (i : Int)) := rfl
end
theorem ints_map {α : Type} (f : α → Int) (L : List α) : (L.map fun x => D.int (f x)) = (L.map f).map D.int := by rw [List.map_map]; rfl
theorem intsD_of {α : Type} (f : α → Int) (L : List α) : intsD (L.map fun x => D.int (f x)) = some (L.map f) := by rw [ints_map, intsD_map]
theorem blsD_of {α : Type} (f : α → Bool) (L : List α) : blsD (L.map fun x => D.bl (f x)) = some (L.map f) := by
  rw [show (L.map fun x => D.bl (f x)) = (L.map f).map D.bl by rw [List.map_map]; rfl, blsD_map]
theorem biS_max {scr : List Int} : biS scr .max = orM (int2D fun i j => if j > i then j else i) (orM (onInts maxI) (orM (onIntsT maxI) (orM (int3D fun i j => if j > i then j else i) (onDat maxF)))) := rfl
theorem biS_min {scr : List Int} : biS scr .min = orM (int2D fun i j => if j < i then j else i) (orM (onInts minI) (orM (onIntsT minI) (orM (int3D fun i j => if j < i then j else i) (onDat minF)))) := rfl
theorem orM_none {s t : List D → Option D} {a : List D} (h : s a = none) : orM s t a = t a := by unfold orM; rw [h]
theorem orM_some {s t : List D → Option D} {a : List D} {d : D} (h : s a = some d) : orM s t a = some d := by unfold orM; rw [h]
section
variable {scr : List Int} {K : D → Prop} {α : Type} {L : List α}
theorem sum_rfl {f : α → Int} (h : K (.int (L.map f).sum)) : ∃ r, biS scr .sum [.lst (L.map fun x => D.int (f x))] = some r ∧ K r := by
  refine ⟨_, ?_, h⟩
  have : onInts (fun ns => some ns.sum) [.lst (L.map fun x => D.int (f x))] = some (.int (L.map f).sum) := by
    unfold onInts
    dsimp only
    rw [intsD_of]
    rfl
  exact this
theorem max_rfl {f : α → Int} {m : Int} (e : maxI (L.map f) = some m) (h : K (.int m)) : ∃ r, biS scr .max [.lst (L.map fun x => D.int (f x))] = some r ∧ K r := by
  refine ⟨_, ?_, h⟩
  have : onInts maxI [.lst (L.map fun x => D.int (f x))] = some (.int m) := by
    unfold onInts
    dsimp only
    rw [intsD_of]
    show (maxI (L.map f)).map D.int = _
    rw [e]
    rfl
  rw [biS_max]
  rw [orM_none rfl, orM_some this]
theorem min_rfl {f : α → Int} {m : Int} (e : minI (L.map f) = some m) (h : K (.int m)) : ∃ r, biS scr .min [.lst (L.map fun x => D.int (f x))] = some r ∧ K r := by
  refine ⟨_, ?_, h⟩
  have : onInts minI [.lst (L.map fun x => D.int (f x))] = some (.int m) := by
    unfold onInts
    dsimp only
    rw [intsD_of]
    show (minI (L.map f)).map D.int = _
    rw [e]
    rfl
  rw [biS_min]
  rw [orM_none rfl, orM_some this]
theorem maxT_rfl {f : α → Int} {m : Int} (e : maxI (L.map f) = some m) (h : K (.int m)) : ∃ r, biS scr .max [.tup (L.map fun x => D.int (f x))] = some r ∧ K r := by
  refine ⟨_, ?_, h⟩
  have : onIntsT maxI [.tup (L.map fun x => D.int (f x))] = some (.int m) := by
    unfold onIntsT
    dsimp only
    rw [intsD_of]
    show (maxI (L.map f)).map D.int = _
    rw [e]
    rfl
  rw [biS_max]
  rw [orM_none rfl, orM_none rfl, orM_some this]
theorem minT_rfl {f : α → Int} {m : Int} (e : minI (L.map f) = some m) (h : K (.int m)) : ∃ r, biS scr .min [.tup (L.map fun x => D.int (f x))] = some r ∧ K r := by
  refine ⟨_, ?_, h⟩
  have : onIntsT minI [.tup (L.map fun x => D.int (f x))] = some (.int m) := by
    unfold onIntsT
    dsimp only
    rw [intsD_of]
    show (minI (L.map f)).map D.int = _
    rw [e]
    rfl
  rw [biS_min]
  rw [orM_none rfl, orM_none rfl, orM_some this]
theorem all_rfl {f : α → Bool} (h : K (.bl (L.all f))) : ∃ r, biS scr .all [.lst (L.map fun x => D.bl (f x))] = some r ∧ K r := by
  refine ⟨_, ?_, h⟩
  have : onBls (fun bs => bs.all id) [.lst (L.map fun x => D.bl (f x))] = some (.bl (L.all f)) := by
    unfold onBls
    dsimp only
    rw [blsD_of]
    show some (D.bl ((L.map f).all id)) = _
    rw [List.all_map]
    rfl
  exact this
theorem any_rfl {f : α → Bool} (h : K (.bl (L.any f))) : ∃ r, biS scr .any [.lst (L.map fun x => D.bl (f x))] = some r ∧ K r := by
  refine ⟨_, ?_, h⟩
  have : onBls (fun bs => bs.any id) [.lst (L.map fun x => D.bl (f x))] = some (.bl (L.any f)) := by
    unfold onBls
    dsimp only
    rw [blsD_of]
    show some (D.bl ((L.map f).any id)) = _
    rw [List.any_map]
    rfl
  exact this
end
theorem maxI_some {ns : List Int} (h : ns ≠ []) : ∃ m, maxI ns = some m ∧ m ∈ ns ∧ ∀ y ∈ ns, y ≤ m := by
  cases ns with
  | nil => exact absurd rfl h
  | cons i is => obtain ⟨h1, h2⟩ := max_fold is i; exact ⟨_, rfl, h1, h2⟩
theorem minI_some {ns : List Int} (h : ns ≠ []) : ∃ m, minI ns = some m ∧ m ∈ ns ∧ ∀ y ∈ ns, m ≤ y := by
  cases ns with
  | nil => exact absurd rfl h
  | cons i is => obtain ⟨h1, h2⟩ := min_fold is i; exact ⟨_, rfl, h1, h2⟩
/-! plain data -/
def strok (x : Str) : Bool := PyData.strOk x
def pn : Nat → D → Prop
  | _, .non => True
  | _, .bl _ => True
  | _, .int _ => True
  | _, .str x => strok x = true
  | n + 1, .tup ds => ∀ d ∈ ds, pn n d
  | n + 1, .lst ds => ∀ d ∈ ds, pn n d
  | _, _ => False
theorem pn_tup {n : Nat} {ds : List D} (h : ∀ d ∈ ds, pn n d) : pn (n + 1) (.tup ds) := by unfold pn; exact h
theorem pn_lst {n : Nat} {ds : List D} (h : ∀ d ∈ ds, pn n d) : pn (n + 1) (.lst ds) := by unfold pn; exact h
theorem pn_int {n : Nat} {i : Int} : pn n (.int i) := by unfold pn; trivial
theorem pn_bl {n : Nat} {i : Bool} : pn n (.bl i) := by unfold pn; trivial
theorem pn_non {n : Nat} : pn n .non := by unfold pn; trivial
theorem pn_nil {n : Nat} : ∀ d ∈ ([] : List D), pn n d := fun _ h => by cases h
theorem pn_cons {n : Nat} {d : D} {ds : List D} (h : pn n d) (t : ∀ x ∈ ds, pn n x) : ∀ x ∈ d :: ds, pn n x := fun x hx => by
  rcases List.mem_cons.mp hx with q | q
  · subst q; exact h
  · exact t x q
theorem pn_map {n : Nat} {α : Type} {L : List α} {f : α → D} (h : ∀ x ∈ L, pn n (f x)) : ∀ d ∈ L.map f, pn n d := fun d hd => by
  obtain ⟨x, hx, rfl⟩ := List.mem_map.mp hd
  exact h x hx
theorem py_all : ∀ {ds : List D} {n : Nat}, (∀ d ∈ ds, ∃ p, toPy d = some p ∧ p.canLay0 = true ∧ p.depth ≤ n ∧ PyData.eqv p p = true) → ∃ ps, toPyL ds = some ps ∧ PyData.canLayAll0 ps = true ∧ PyData.depthAll ps ≤ n ∧ PyData.eqvAll ps ps = true
  | [], n, _ => ⟨[], rfl, by simp [PyData.canLayAll0], by simp [PyData.depthAll], by simp [PyData.eqvAll]⟩
  | d :: ds, n, h => by
    obtain ⟨p, h1, h2, h3, h4⟩ := h d List.mem_cons_self
    obtain ⟨ps, k1, k2, k3, k4⟩ := py_all (ds := ds) (n := n) fun x hx => h x (List.mem_cons_of_mem _ hx)
    refine ⟨p :: ps, by rw [toPyL, h1, k1], ?_, ?_, ?_⟩
    · simp [PyData.canLayAll0, h2, k2]
    · simp only [PyData.depthAll]; omega
    · simp [PyData.eqvAll, h4, k4]
theorem py_ok : ∀ (n : Nat) (d : D), pn n d → ∃ p, toPy d = some p ∧ p.canLay0 = true ∧ p.depth ≤ n ∧ PyData.eqv p p = true := by
  intro n
  induction n with
  | zero =>
    intro d h
    cases d with
    | non => exact ⟨_, rfl, by simp [PyData.canLay0], by simp [PyData.depth], by simp [PyData.eqv]⟩
    | bl b => exact ⟨_, rfl, by simp [PyData.canLay0], by simp [PyData.depth], by simp [PyData.eqv]⟩
    | int i => exact ⟨_, rfl, by simp [PyData.canLay0], by simp [PyData.depth], by simp [PyData.eqv]⟩
    | str x => exact ⟨_, rfl, by simpa [PyData.canLay0, pn, strok] using h, by simp [PyData.depth], by simp [PyData.eqv]⟩
    | _ => unfold pn at h; exact h.elim
  | succ n ih =>
    intro d h
    cases d with
    | non => exact ⟨_, rfl, by simp [PyData.canLay0], by simp [PyData.depth], by simp [PyData.eqv]⟩
    | bl b => exact ⟨_, rfl, by simp [PyData.canLay0], by simp [PyData.depth], by simp [PyData.eqv]⟩
    | int i => exact ⟨_, rfl, by simp [PyData.canLay0], by simp [PyData.depth], by simp [PyData.eqv]⟩
    | str x => exact ⟨_, rfl, by simpa [PyData.canLay0, pn, strok] using h, by simp [PyData.depth], by simp [PyData.eqv]⟩
    | tup ds =>
      unfold pn at h
      obtain ⟨ps, k1, k2, k3, k4⟩ := py_all (ds := ds) (n := n) fun x hx => ih x (h x hx)
      exact ⟨.tuple ps, by rw [toPy, k1]; rfl, by simp [PyData.canLay0, k2], by simp only [PyData.depth]; omega, by simp [PyData.eqv, k4]⟩
    | lst ds =>
      unfold pn at h
      obtain ⟨ps, k1, k2, k3, k4⟩ := py_all (ds := ds) (n := n) fun x hx => ih x (h x hx)
      exact ⟨.list ps, by rw [toPy, k1]; rfl, by simp [PyData.canLay0, k2], by simp only [PyData.depth]; omega, by simp [PyData.eqv, k4]⟩
    | _ => unfold pn at h; exact h.elim
theorem eqS_self {b : Bool} {n : Nat} {d : D} (hp : pn n d) (hn : n ≤ 64) : eqS b d d = some (.bl (!b)) := by
  obtain ⟨p, h1, h2, h3, h4⟩ := py_ok n d hp
  have sh : SeqAt.shaped p = true := by
    unfold SeqAt.shaped
    rw [h2, Bool.true_and]
    exact decide_eq_true (by omega)
  unfold eqS
  rw [h1]
  dsimp only
  rw [if_pos ⟨sh, sh⟩, h4]
  cases b <;> rfl
theorem vpc_eqSelf {n : Nat} {x y : D} {K : Bool → Prop} (e : x = y) (hp : pn n y) (hn : n ≤ 64) (h : K true) : VC .Eq x y K := by
  subst e
  unfold VC
  exact ⟨true, eqS_self (b := false) hp hn, h⟩
theorem vpc_neSelf {n : Nat} {x y : D} {K : Bool → Prop} (e : x = y) (hp : pn n y) (hn : n ≤ 64) (h : K false) : VC .NotEq x y K := by
  subst e
  unfold VC
  exact ⟨false, eqS_self (b := true) hp hn, h⟩
theorem vpc_eqO {n : Bool} {x y : D} {K : Bool → Prop} (e : VC (if n = true then .NotEq else .Eq) x y K) : VC (eqO n) x y K := e
/-! repr -/
def rpB (p : PyData) : Bool := SeqAt.shaped p && p.showable && decide (p.shown.length ≤ 1000) && PyData.strOk p.shown
def RpB (d : D) : Prop := ∃ p, toPy d = some p ∧ rpB p = true
theorem rp_ok {d : D} (h : RpB d) : ∃ s, reprD [d] = some (.str s) ∧ ∀ K : Bool → Prop, K false → VC .NotEq (.str s) (.str s) K := by
  obtain ⟨p, e, h⟩ := h
  unfold rpB at h
  simp only [Bool.and_eq_true, decide_eq_true_eq] at h
  obtain ⟨⟨⟨h1, h2⟩, h3⟩, h4⟩ := h
  refine ⟨p.shown, ?_, fun K hK => ?_⟩
  · show (toPy d).bind _ = _
    rw [e]
    show (if _ then _ else _) = _
    rw [if_pos ⟨h1, h2, sz_small h3⟩]
  · exact vpc_neSelf (n := 0) rfl (by unfold pn; exact h4) (by omega) hK
theorem rp_small : ∀ n : Nat, n < 60 → rpB (.int ((n : Int) - 20)) = true := by decide +kernel
theorem rp_int {i : Int} (h : -20 ≤ i ∧ i < 40) : RpB (.int i) := by
  refine ⟨_, rfl, ?_⟩
  have := rp_small (i + 20).toNat (by omega)
  rwa [show (((i + 20).toNat : Nat) : Int) - 20 = i by omega] at this
/-! items by place -/
theorem atI_ex {α : Type} {l : List α} {i : Int} (h0 : 0 ≤ i) (h1 : i < l.length) : ∃ d, atI l i = some d ∧ l[i.toNat]? = some d := by
  have e : l[i.toNat]? = some (l[i.toNat]'(by omega)) := List.getElem?_eq_getElem _
  refine ⟨_, ?_, e⟩
  unfold atI ixN
  rw [if_pos h0, if_pos h1]
  exact e
theorem cut_take (ds : List D) (n : Nat) : cutD ds none (some (n : Int)) = ds.take n := by
  unfold cutD
  rw [HT.sIx_none, HT.sIx_nat, List.drop_zero, Nat.sub_zero]
  by_cases c : n ≤ ds.length
  · rw [Nat.min_eq_left c]
  · rw [Nat.min_eq_right (by omega), List.take_of_length_le (by omega), List.take_of_length_le (by omega)]
theorem cut_takeI (ds : List D) (i : Int) (h : 0 ≤ i) : cutD ds none (some i) = ds.take i.toNat := by
  obtain ⟨n, rfl⟩ : ∃ n : Nat, i = (n : Int) := ⟨i.toNat, by omega⟩
  rw [cut_take, Int.toNat_natCast]
/-! pieces of a block -/
def dropC : Nat → Cms → Cms
  | 0, s => s
  | n + 1, .cons _ r => dropC n r
  | n + 1, .frz i r => dropC (n + 1) r
  | _, s => s
def glueC : Nat → Cms → Cms → Cms
  | 0, _, T => T
  | n + 1, .cons s r, T => .cons s (glueC n r T)
  | n + 1, .frz i r, T => .frz i (glueC (n + 1) r T)
  | _, s, _ => s
theorem clr_v (d : D) : (Sl.v d).clr = .v d := rfl
theorem clr_no : Sl.no.clr = .no := rfl
/-- a comprehension with draws: J stays, each item keeps Q -/
theorem vcompD {T : Tab} {bd : D → DS.Env → Option DS.Env} {elt : Ex} {ρ : DS.Env} {J : G → Prop} {Q : D → Prop} {X : Nat → List D → G → Prop} : ∀ {ds : List D} {g : G} {PL : List D → G → Prop}, (∀ d ∈ ds, ∀ g, J g → ∃ ρ1, bd d ρ = some ρ1 ∧ WE T elt ρ1 g (fun y g2 => Q y ∧ J g2) fun _ _ _ => False) → J g → (∀ rs g', rs.length = ds.length → (∀ r ∈ rs, Q r) → J g' → PL rs g') → WM (compM bd (evC T .no) (evE T elt) ρ ds) g PL X
  | [], g, PL, _, hJ, h => h [] g rfl (fun _ z => by cases z) hJ
  | d :: ds, g, PL, hs, hJ, h => by
    obtain ⟨ρ1, e, w⟩ := hs d List.mem_cons_self g hJ
    rw [compM_cons, e, lft_some', bind_ret]
    rw [show evC T .no ρ1 = M.ret true by rw [evC], noErr_ret, bind_ret, if_pos rfl]
    simp only [DS.WE] at w
    obtain ⟨y, g1, e2, hy, hJ1⟩ := wm_get w
    refine wm_bind (wm_of (x := y) (g' := g1) ?_ ?_)
    · unfold noErr
      rw [e2]
    · refine wm_bind (vcompD (fun d hd => hs d (List.mem_cons_of_mem _ hd)) hJ1 fun rs g' hl hr hJ' => ?_)
      refine h _ _ (by rw [List.length_cons, List.length_cons, hl]) (fun r hr' => ?_) hJ'
      rcases List.mem_cons.mp hr' with q | q
      · subst q; exact hy
      · exact hr r q
theorem list_of {α : Type} {Q : D → Prop} {e : α → D} {R : α → Prop} (h : ∀ d, Q d → ∃ x, d = e x ∧ R x) : ∀ {rs : List D}, (∀ r ∈ rs, Q r) → ∃ L : List α, rs = L.map e ∧ L.length = rs.length ∧ ∀ x ∈ L, R x
  | [], _ => ⟨[], rfl, rfl, fun _ z => by cases z⟩
  | r :: rs, hr => by
    obtain ⟨L, e1, e2, e3⟩ := list_of h fun x hx => hr x (List.mem_cons_of_mem _ hx)
    obtain ⟨x, ex, hx⟩ := h r (hr r List.mem_cons_self)
    refine ⟨x :: L, by rw [e1, ex]; rfl, by rw [List.length_cons, List.length_cons, e2], fun y hy => ?_⟩
    rcases List.mem_cons.mp hy with z | z
    · subst z; exact hx
    · exact e3 y z
end DS

set_option Elab.async false
set_option linter.all false
set_option maxRecDepth 100000
set_option maxHeartbeats 4000000
/-! DS: plain comparison of data, membership, literal walks -/
namespace DS
open PySem L2
theorem if_yes {p : Prop} {_ : Decidable p} {A B : Prop} (hp : p) (h : A) : (decide p = true → A) ∧ (decide p = false → B) := ⟨fun _ => h, fun q => absurd hp (of_decide_eq_false q)⟩
theorem if_nay {p : Prop} {_ : Decidable p} {A B : Prop} (hp : ¬ p) (h : B) : (decide p = true → A) ∧ (decide p = false → B) := ⟨fun q => absurd (of_decide_eq_true q) hp, fun _ => h⟩
theorem if_bl {b : Bool} {A B : Prop} (h1 : b = true → A) (h2 : b = false → B) : (b = true → A) ∧ (b = false → B) := ⟨h1, h2⟩
mutual
def deq : D → D → Bool
  | .non, .non => true
  | .bl a, .bl b => a == b
  | .bl a, .int j => (if a then 1 else 0) == j
  | .int i, .bl b => i == (if b then 1 else 0)
  | .int i, .int j => i == j
  | .str x, .str y => x == y
  | .tup xs, .tup ys => deqL xs ys
  | .lst xs, .lst ys => deqL xs ys
  | _, _ => false
def deqL : List D → List D → Bool
  | [], [] => true
  | x :: xs, y :: ys => deq x y && deqL xs ys
  | _, _ => false
end
theorem toPyL_tup {xs : List D} {p : PyData} (h : toPy (.tup xs) = some p) : ∃ ps, toPyL xs = some ps ∧ p = .tuple ps := by
  rw [toPy] at h
  cases q : toPyL xs with
  | none => rw [q] at h; cases h
  | some ps => rw [q] at h; cases h; exact ⟨ps, rfl, rfl⟩
theorem toPyL_lst {xs : List D} {p : PyData} (h : toPy (.lst xs) = some p) : ∃ ps, toPyL xs = some ps ∧ p = .list ps := by
  rw [toPy] at h
  cases q : toPyL xs with
  | none => rw [q] at h; cases h
  | some ps => rw [q] at h; cases h; exact ⟨ps, rfl, rfl⟩
theorem toPyL_cons {x : D} {xs : List D} {ps : List PyData} (h : toPyL (x :: xs) = some ps) : ∃ p qs, toPy x = some p ∧ toPyL xs = some qs ∧ ps = p :: qs := by
  rw [toPyL] at h
  cases q : toPy x with
  | none => rw [q] at h; cases h
  | some p =>
    cases q2 : toPyL xs with
    | none => rw [q, q2] at h; cases h
    | some qs => rw [q, q2] at h; cases h; exact ⟨p, qs, rfl, rfl, rfl⟩
mutual
theorem deq_py : ∀ (x y : D) (p q : PyData), toPy x = some p → toPy y = some q → PyData.eqv p q = deq x y
  | .tup xs, y, p, q, h1, h2 => by
    obtain ⟨ps, e1, rfl⟩ := toPyL_tup h1
    cases y with
    | tup ys => obtain ⟨qs, e2, rfl⟩ := toPyL_tup h2; simp only [PyData.eqv, deq]; exact deqL_py xs ys ps qs e1 e2
    | lst ys => obtain ⟨qs, e2, rfl⟩ := toPyL_lst h2; simp [PyData.eqv, deq]
    | _ => cases h2 <;> simp [PyData.eqv, deq]
  | .lst xs, y, p, q, h1, h2 => by
    obtain ⟨ps, e1, rfl⟩ := toPyL_lst h1
    cases y with
    | lst ys => obtain ⟨qs, e2, rfl⟩ := toPyL_lst h2; simp only [PyData.eqv, deq]; exact deqL_py xs ys ps qs e1 e2
    | tup ys => obtain ⟨qs, e2, rfl⟩ := toPyL_tup h2; simp [PyData.eqv, deq]
    | _ => cases h2 <;> simp [PyData.eqv, deq]
  | .non, y, p, q, h1, h2 => by
    cases h1
    cases y with
    | lst ys => obtain ⟨qs, e2, rfl⟩ := toPyL_lst h2; simp [PyData.eqv, deq]
    | tup ys => obtain ⟨qs, e2, rfl⟩ := toPyL_tup h2; simp [PyData.eqv, deq]
    | _ => cases h2 <;> simp [PyData.eqv, deq]
  | .bl b, y, p, q, h1, h2 => by
    cases h1
    cases y with
    | lst ys => obtain ⟨qs, e2, rfl⟩ := toPyL_lst h2; simp [PyData.eqv, deq]
    | tup ys => obtain ⟨qs, e2, rfl⟩ := toPyL_tup h2; simp [PyData.eqv, deq]
    | _ => cases h2 <;> simp [PyData.eqv, deq]
  | .int b, y, p, q, h1, h2 => by
    cases h1
    cases y with
    | lst ys => obtain ⟨qs, e2, rfl⟩ := toPyL_lst h2; simp [PyData.eqv, deq]
    | tup ys => obtain ⟨qs, e2, rfl⟩ := toPyL_tup h2; simp [PyData.eqv, deq]
    | _ => cases h2 <;> simp [PyData.eqv, deq]
  | .str b, y, p, q, h1, h2 => by
    cases h1
    cases y with
    | lst ys => obtain ⟨qs, e2, rfl⟩ := toPyL_lst h2; simp [PyData.eqv, deq]
    | tup ys => obtain ⟨qs, e2, rfl⟩ := toPyL_tup h2; simp [PyData.eqv, deq]
    | _ => cases h2 <;> simp [PyData.eqv, deq]
  | .ins _ _, _, _, _, h1, _ => by cases h1
  | .fn _, _, _, _, h1, _ => by cases h1
  | .cls _, _, _, _, h1, _ => by cases h1
  | .ty _, _, _, _, h1, _ => by cases h1
  | .row, _, _, _, h1, _ => by cases h1
  | .scr, _, _, _, h1, _ => by cases h1
theorem deqL_py : ∀ (xs ys : List D) (ps qs : List PyData), toPyL xs = some ps → toPyL ys = some qs → PyData.eqvAll ps qs = deqL xs ys
  | [], [], ps, qs, h1, h2 => by cases h1; cases h2; simp [PyData.eqvAll, deqL]
  | [], y :: ys, ps, qs, h1, h2 => by cases h1; obtain ⟨_, _, _, _, rfl⟩ := toPyL_cons h2; simp [PyData.eqvAll, deqL]
  | x :: xs, [], ps, qs, h1, h2 => by cases h2; obtain ⟨_, _, _, _, rfl⟩ := toPyL_cons h1; simp [PyData.eqvAll, deqL]
  | x :: xs, y :: ys, ps, qs, h1, h2 => by
    obtain ⟨p, ps, a1, a2, rfl⟩ := toPyL_cons h1
    obtain ⟨q, qs, b1, b2, rfl⟩ := toPyL_cons h2
    simp only [PyData.eqvAll, deqL]
    rw [deq_py x y p q a1 b1, deqL_py xs ys ps qs a2 b2]
end
theorem eqS_deq {b : Bool} {n m : Nat} {x y : D} (hx : pn n x) (hy : pn m y) (hn : n ≤ 64) (hm : m ≤ 64) : eqS b x y = some (.bl (xor b (deq x y))) := by
  obtain ⟨p, h1, h2, h3, h4⟩ := py_ok n x hx
  obtain ⟨q, k1, k2, k3, k4⟩ := py_ok m y hy
  have sh : SeqAt.shaped p = true := by unfold SeqAt.shaped; rw [h2, Bool.true_and]; exact decide_eq_true (by omega)
  have sh2 : SeqAt.shaped q = true := by unfold SeqAt.shaped; rw [k2, Bool.true_and]; exact decide_eq_true (by omega)
  unfold eqS
  rw [h1, k1]
  dsimp only
  rw [if_pos ⟨sh, sh2⟩, deq_py x y p q h1 k1]
/-- no truths inside -/
def pm : Nat → D → Prop
  | _, .non => True
  | _, .int _ => True
  | _, .str x => strok x = true
  | n + 1, .tup ds => ∀ d ∈ ds, pm n d
  | n + 1, .lst ds => ∀ d ∈ ds, pm n d
  | _, _ => False
theorem pm_tup {n : Nat} {ds : List D} (h : ∀ d ∈ ds, pm n d) : pm (n + 1) (.tup ds) := by unfold pm; exact h
theorem pm_lst {n : Nat} {ds : List D} (h : ∀ d ∈ ds, pm n d) : pm (n + 1) (.lst ds) := by unfold pm; exact h
theorem pm_int {n : Nat} {i : Int} : pm n (.int i) := by unfold pm; trivial
theorem pm_non {n : Nat} : pm n .non := by unfold pm; trivial
theorem pm_str {n : Nat} {x : Str} (h : strok x = true) : pm n (.str x) := by unfold pm; exact h
theorem pm_nil {n : Nat} : ∀ d ∈ ([] : List D), pm n d := fun _ h => by cases h
theorem pm_cons {n : Nat} {d : D} {ds : List D} (h : pm n d) (t : ∀ x ∈ ds, pm n x) : ∀ x ∈ d :: ds, pm n x := fun x hx => by
  rcases List.mem_cons.mp hx with q | q
  · subst q; exact h
  · exact t x q
theorem pm_map {n : Nat} {α : Type} {L : List α} {f : α → D} (h : ∀ x ∈ L, pm n (f x)) : ∀ d ∈ L.map f, pm n d := fun d hd => by
  obtain ⟨x, hx, rfl⟩ := List.mem_map.mp hd
  exact h x hx
theorem pm_app {n : Nat} {xs ys : List D} (h : ∀ d ∈ xs, pm n d) (k : ∀ d ∈ ys, pm n d) : ∀ d ∈ xs ++ ys, pm n d := fun d hd => by
  rcases List.mem_append.mp hd with q | q
  · exact h d q
  · exact k d q
theorem pn_app {n : Nat} {xs ys : List D} (h : ∀ d ∈ xs, pn n d) (k : ∀ d ∈ ys, pn n d) : ∀ d ∈ xs ++ ys, pn n d := fun d hd => by
  rcases List.mem_append.mp hd with q | q
  · exact h d q
  · exact k d q
theorem pn_str {n : Nat} {x : Str} (h : strok x = true) : pn n (.str x) := by unfold pn; exact h
theorem pn_one {n : Nat} {x : D} (h : pn n x) : ∀ d ∈ [x], pn n d := pn_cons h pn_nil
theorem pn_mono : ∀ {n m : Nat} {x : D}, n ≤ m → pn n x → pn m x := by
  intro n
  induction n with
  | zero =>
    intro m x _ h
    cases x with
    | tup => unfold pn at h; exact h.elim
    | lst => unfold pn at h; exact h.elim
    | str => unfold pn at h ⊢; exact h
    | _ => unfold pn at h ⊢; exact h
  | succ n ih =>
    intro m x hm h
    cases m with
    | zero => omega
    | succ m =>
      cases x with
      | tup ds => unfold pn at h ⊢; exact fun d hd => ih (by omega) (h d hd)
      | lst ds => unfold pn at h ⊢; exact fun d hd => ih (by omega) (h d hd)
      | _ => unfold pn at h ⊢; exact h
theorem pm_pn : ∀ {n : Nat} {x : D}, pm n x → pn n x := by
  intro n
  induction n with
  | zero => intro x h; cases x <;> (unfold pm at h; unfold pn; first | exact h | exact h.elim)
  | succ n ih =>
    intro x h
    cases x with
    | tup ds => unfold pm at h; unfold pn; exact fun d hd => ih (h d hd)
    | lst ds => unfold pm at h; unfold pn; exact fun d hd => ih (h d hd)
    | non => unfold pn; trivial
    | int => unfold pn; trivial
    | str => unfold pm at h; unfold pn; exact h
    | _ => unfold pm at h; exact h.elim
mutual
theorem deq_iff : ∀ (x y : D) (n m : Nat), pm n x → pm m y → (deq x y = true ↔ x = y)
  | .tup xs, y, n, m, hx, hy => by
    cases n with
    | zero => unfold pm at hx; exact hx.elim
    | succ n =>
      unfold pm at hx
      cases y with
      | tup ys =>
        cases m with
        | zero => unfold pm at hy; exact hy.elim
        | succ m => unfold pm at hy; simp only [deq, D.tup.injEq]; exact deqL_iff xs ys n m hx hy
      | _ => simp [deq]
  | .lst xs, y, n, m, hx, hy => by
    cases n with
    | zero => unfold pm at hx; exact hx.elim
    | succ n =>
      unfold pm at hx
      cases y with
      | lst ys =>
        cases m with
        | zero => unfold pm at hy; exact hy.elim
        | succ m => unfold pm at hy; simp only [deq, D.lst.injEq]; exact deqL_iff xs ys n m hx hy
      | _ => simp [deq]
  | .non, y, n, m, hx, hy => by cases y <;> simp [deq]
  | .int i, y, n, m, hx, hy => by
    cases y with
    | bl => cases m <;> (unfold pm at hy; exact hy.elim)
    | _ => simp [deq]
  | .str i, y, n, m, hx, hy => by cases y <;> simp [deq]
  | .bl _, _, n, _, h, _ => by cases n <;> (unfold pm at h; exact h.elim)
  | .ins _ _, _, n, _, h, _ => by cases n <;> (unfold pm at h; exact h.elim)
  | .fn _, _, n, _, h, _ => by cases n <;> (unfold pm at h; exact h.elim)
  | .cls _, _, n, _, h, _ => by cases n <;> (unfold pm at h; exact h.elim)
  | .ty _, _, n, _, h, _ => by cases n <;> (unfold pm at h; exact h.elim)
  | .row, _, n, _, h, _ => by cases n <;> (unfold pm at h; exact h.elim)
  | .scr, _, n, _, h, _ => by cases n <;> (unfold pm at h; exact h.elim)
theorem deqL_iff : ∀ (xs ys : List D) (n m : Nat), (∀ d ∈ xs, pm n d) → (∀ d ∈ ys, pm m d) → (deqL xs ys = true ↔ xs = ys)
  | [], [], _, _, _, _ => by simp [deqL]
  | [], y :: ys, _, _, _, _ => by simp [deqL]
  | x :: xs, [], _, _, _, _ => by simp [deqL]
  | x :: xs, y :: ys, n, m, hx, hy => by
    simp only [deqL, Bool.and_eq_true, List.cons.injEq]
    rw [deq_iff x y n m (hx x List.mem_cons_self) (hy y List.mem_cons_self), deqL_iff xs ys n m (fun d hd => hx d (List.mem_cons_of_mem _ hd)) (fun d hd => hy d (List.mem_cons_of_mem _ hd))]
end
/-- x == y by deq -/
theorem vpc_eqQ {n m : Nat} {x y : D} {K : Bool → Prop} (hx : pn n x) (hy : pn m y) (hn : n ≤ 64) (hm : m ≤ 64) (h : K (deq x y)) : VC .Eq x y K := by
  unfold VC
  exact ⟨deq x y, by show eqS false x y = _; rw [eqS_deq hx hy hn hm, Bool.false_xor], h⟩
theorem vpc_neQ {n m : Nat} {x y : D} {K : Bool → Prop} (hx : pn n x) (hy : pn m y) (hn : n ≤ 64) (hm : m ≤ 64) (h : K (!deq x y)) : VC .NotEq x y K := by
  unfold VC
  exact ⟨!deq x y, by show eqS true x y = _; rw [eqS_deq hx hy hn hm, Bool.true_xor], h⟩
/-- x == y where no truth is inside: p says when they are the same -/
theorem vpc_eqP {n m : Nat} {x y : D} {p : Prop} [Decidable p] {K : Bool → Prop} (hx : pm n x) (hy : pm m y) (hn : n ≤ 64) (hm : m ≤ 64) (e : x = y ↔ p) (h : K (decide p)) : VC .Eq x y K := by
  refine vpc_eqQ (pm_pn hx) (pm_pn hy) hn hm ?_
  rw [show deq x y = decide p by rw [Bool.eq_iff_iff, deq_iff x y n m hx hy, e, decide_eq_true_iff]]
  exact h
theorem vpc_neP {n m : Nat} {x y : D} {p : Prop} [Decidable p] {K : Bool → Prop} (hx : pm n x) (hy : pm m y) (hn : n ≤ 64) (hm : m ≤ 64) (e : x = y ↔ p) (h : K (!decide p)) : VC .NotEq x y K := by
  refine vpc_neQ (pm_pn hx) (pm_pn hy) hn hm ?_
  rw [show deq x y = decide p by rw [Bool.eq_iff_iff, deq_iff x y n m hx hy, e, decide_eq_true_iff]]
  exact h
/-! membership -/
theorem any_py {d : D} {p : PyData} (hp : toPy d = some p) : ∀ {ds : List D} {ps : List PyData}, toPyL ds = some ps → (ps.any fun z => PyData.eqv z p) = ds.any fun z => deq z d
  | [], ps, h => by cases h; rfl
  | x :: xs, ps, h => by
    obtain ⟨q, qs, a1, a2, rfl⟩ := toPyL_cons h
    rw [List.any_cons, List.any_cons, deq_py x d q p a1 hp, any_py hp a2]
theorem shaped_of {n : Nat} {x : D} (hx : pn n x) (hn : n ≤ 64) : ∃ p, toPy x = some p ∧ SeqAt.shaped p = true := by
  obtain ⟨p, h1, h2, h3, h4⟩ := py_ok n x hx
  exact ⟨p, h1, by unfold SeqAt.shaped; rw [h2, Bool.true_and]; exact decide_eq_true (by omega)⟩
theorem inT_deq {b : Bool} {n m : Nat} {x : D} {ds : List D} (hx : pn n x) (hy : ∀ d ∈ ds, pn m d) (hn : n ≤ 64) (hm : m < 64) : inT b x (.tup ds) = some (.bl (xor b (ds.any fun z => deq z x))) := by
  obtain ⟨p, h1, h2⟩ := shaped_of hx hn
  obtain ⟨q, k1, k2⟩ := shaped_of (pn_tup hy) (by omega)
  obtain ⟨qs, e, rfl⟩ := toPyL_tup k1
  unfold inT
  dsimp only
  rw [h1, e]
  dsimp only
  rw [if_pos ⟨h2, k2⟩, any_py h1 e]
theorem inS_deq {b : Bool} {n m : Nat} {x : D} {ds : List D} (hx : pn n x) (hy : ∀ d ∈ ds, pn m d) (hn : n ≤ 64) (hm : m < 64) : inS b x (.lst ds) = some (.bl (xor b (ds.any fun z => deq z x))) := by
  obtain ⟨p, h1, h2⟩ := shaped_of hx hn
  obtain ⟨q, k1, k2⟩ := shaped_of (pn_lst hy) (by omega)
  obtain ⟨qs, e, rfl⟩ := toPyL_lst k1
  unfold inS
  dsimp only
  rw [h1, e]
  dsimp only
  rw [if_pos ⟨h2, k2⟩, any_py h1 e]
section
variable {n m : Nat} {x : D} {ds : List D} {K : Bool → Prop}
theorem vpc_inT (hx : pn n x) (hy : ∀ d ∈ ds, pn m d) (hn : n ≤ 64) (hm : m < 64) (h : K (ds.any fun z => deq z x)) : VC .In x (.tup ds) K := by
  unfold VC
  refine ⟨_, ?_, h⟩
  show orS (inS false) (inT false) x (.tup ds) = _
  unfold orS
  rw [inT_deq hx hy hn hm, Bool.false_xor]
  rfl
theorem vpc_ninT (hx : pn n x) (hy : ∀ d ∈ ds, pn m d) (hn : n ≤ 64) (hm : m < 64) (h : K (!ds.any fun z => deq z x)) : VC .NotIn x (.tup ds) K := by
  unfold VC
  refine ⟨_, ?_, h⟩
  show orS (inS true) (inT true) x (.tup ds) = _
  unfold orS
  rw [inT_deq hx hy hn hm, Bool.true_xor]
  rfl
theorem vpc_inL (hx : pn n x) (hy : ∀ d ∈ ds, pn m d) (hn : n ≤ 64) (hm : m < 64) (h : K (ds.any fun z => deq z x)) : VC .In x (.lst ds) K := by
  unfold VC
  refine ⟨_, ?_, h⟩
  show orS (inS false) (inT false) x (.lst ds) = _
  unfold orS
  rw [inS_deq hx hy hn hm, Bool.false_xor]
theorem vpc_ninL (hx : pn n x) (hy : ∀ d ∈ ds, pn m d) (hn : n ≤ 64) (hm : m < 64) (h : K (!ds.any fun z => deq z x)) : VC .NotIn x (.lst ds) K := by
  unfold VC
  refine ⟨_, ?_, h⟩
  show orS (inS true) (inT true) x (.lst ds) = _
  unfold orS
  rw [inS_deq hx hy hn hm, Bool.true_xor]
end
theorem any_int {i : Int} {L : List Int} : ((L.map D.int).any fun z => deq z (.int i)) = decide (i ∈ L) := by
  rw [List.any_map, Bool.eq_iff_iff, List.any_eq_true, decide_eq_true_iff]
  constructor
  · rintro ⟨x, h1, h2⟩
    have : x = i := by simpa [deq] using h2
    exact this ▸ h1
  · exact fun h => ⟨i, h, by simp [deq]⟩
theorem any_str {i : Str} {L : List Str} : ((L.map D.str).any fun z => deq z (.str i)) = decide (i ∈ L) := by
  rw [List.any_map, Bool.eq_iff_iff, List.any_eq_true, decide_eq_true_iff]
  constructor
  · rintro ⟨x, h1, h2⟩
    have : x = i := by simpa [deq] using h2
    exact this ▸ h1
  · exact fun h => ⟨i, h, by simp [deq]⟩
section
variable {i : Int} {L : List Int} {K : Bool → Prop}
theorem vpc_inTI (h : K (decide (i ∈ L))) : VC .In (.int i) (.tup (L.map D.int)) K := vpc_inT (n := 0) (m := 0) pn_int (pn_map fun _ _ => pn_int) (by omega) (by omega) (by rw [any_int]; exact h)
theorem vpc_inLI (h : K (decide (i ∈ L))) : VC .In (.int i) (.lst (L.map D.int)) K := vpc_inL (n := 0) (m := 0) pn_int (pn_map fun _ _ => pn_int) (by omega) (by omega) (by rw [any_int]; exact h)
theorem vpc_ninTI (h : K (!decide (i ∈ L))) : VC .NotIn (.int i) (.tup (L.map D.int)) K := vpc_ninT (n := 0) (m := 0) pn_int (pn_map fun _ _ => pn_int) (by omega) (by omega) (by rw [any_int]; exact h)
theorem vpc_ninLI (h : K (!decide (i ∈ L))) : VC .NotIn (.int i) (.lst (L.map D.int)) K := vpc_ninL (n := 0) (m := 0) pn_int (pn_map fun _ _ => pn_int) (by omega) (by omega) (by rw [any_int]; exact h)
end
/-! a comprehension over a literal row, item by item -/
section
variable {T : Tab} {ρ : Env} {g : G} {X : Nat → List D → G → Prop} {PL : List D → G → Prop} {bd : D → Env → Option Env} {cond : Ox} {elt : Ex}
theorem vcm_nil {c : Env → M Bool} {e : Env → M D} (h : PL [] g) : WM (compM bd c e ρ []) g PL X := wm_ret h
theorem vcm_cons {d : D} {ds : List D} {ρ1 : Env} (e : bd d ρ = some ρ1)
    (h : WC T cond ρ1 g (fun b g1 => (b = true → WE T elt ρ1 g1 (fun y g2 => WM (compM bd (evC T cond) (evE T elt) ρ ds) g2 (fun ys g3 => PL (y :: ys) g3) X) fun _ _ _ => False) ∧ (b = false → WM (compM bd (evC T cond) (evE T elt) ρ ds) g1 PL X)) fun _ _ _ => False) :
    WM (compM bd (evC T cond) (evE T elt) ρ (d :: ds)) g PL X := by
  rw [compM_cons, e, lft_some', bind_ret]
  simp only [WC, WE] at h
  obtain ⟨b, g1, e1, h1, h2⟩ := wm_get h
  refine wm_bind (wm_of (x := b) (g' := g1) (by unfold noErr; rw [e1]) ?_)
  cases b with
  | false => rw [if_neg (by simp)]; exact h2 rfl
  | true =>
    rw [if_pos rfl]
    obtain ⟨y, g2, e2, h3⟩ := wm_get (h1 rfl)
    refine wm_bind (wm_of (x := y) (g' := g2) (by unfold noErr; rw [e2]) ?_)
    exact wm_bind (wm_mono h3 (fun ys g3 k => wm_ret k) fun _ _ _ k => k)
/-- a typed comprehension whose items' worth is found on the way -/
theorem vcompF {α : Type} {L : List α} {e : α → D} {f : α → D}
    (h : ∀ x ∈ L, ∃ ρ1, bd (e x) ρ = some ρ1 ∧ (∀ (g : G) (P : D → G → Prop) (X : Nat → List D → G → Prop), P (f x) g → WE T elt ρ1 g P X))
    (k : PL (L.map f) g) : WM (compM bd (evC T .no) (evE T elt) ρ (L.map e)) g PL X := vcompA h k
end
/-! least and greatest, by what they are -/
theorem max_is {L : List Int} {m : Int} (h : m ∈ L) (k : ∀ x ∈ L, x ≤ m) : maxI L = some m := by
  obtain ⟨u, e, h1, h2⟩ := maxI_some (ns := L) (fun q => by subst q; cases h)
  rw [e]; have := h2 m h; have := k u h1; congr 1; omega
theorem min_is {L : List Int} {m : Int} (h : m ∈ L) (k : ∀ x ∈ L, m ≤ x) : minI L = some m := by
  obtain ⟨u, e, h1, h2⟩ := minI_some (ns := L) (fun q => by subst q; cases h)
  rw [e]; have := h2 m h; have := k u h1; congr 1; omega
theorem rng_int (lo : Int) (n : Nat) : rngD lo n = ((List.range n).map fun i : Nat => lo + (i : Int)).map D.int := by rw [List.map_map]; rfl
end DS

set_option Elab.async false
set_option linter.all false
set_option maxRecDepth 100000
set_option maxHeartbeats 4000000
/-! DS: comprehensions and walks under words of their own, slots kept as literal rows -/
namespace DS
open PySem L2
@[irreducible] def WCm (T : Tab) (tg : Tg) (cond : Ox) (elt : Ex) (ρ : Env) (ds : List D) (g : G) (P : List D → G → Prop) (X : Nat → List D → G → Prop) : Prop := WM (compM tg.bind (evC T cond) (evE T elt) ρ ds) g P X
@[irreducible] def WFo (T : Tab) (t : Tg) (b : Cms) (ds : List D) (ρ : Env) (g : G) (N : Env → G → Prop) (R : D → G → Prop) (X : Nat → List D → Env → G → Prop) : Prop := WR (forS t.bind (evB T b) ds ρ g) N R X
@[irreducible] def VCh (op op' : CmpOp) (x y z : D) (K : Bool → Prop) : Prop := ∃ p q, cmpS op x y = some (.bl p) ∧ cmpS op' y z = some (.bl q) ∧ K (p && q)
@[irreducible] def CF (i : Nat) (T : Tab) (ds : List D) (g : G) (P : D → G → Prop) (X : Nat → List D → G → Prop) : Prop := WD T i ds g P X
@[irreducible] def CN (c : Nat) (T : Tab) (ds : List D) (g : G) (P : D → G → Prop) (X : Nat → List D → G → Prop) : Prop := WK T c ds g P X
/-- the slots as a literal row -/
@[irreducible] def EnvIs (ρ : Env) (K : Env → Prop) : Prop := K ρ
theorem env_is {ρ ρ' : Env} {K : Env → Prop} (e : ρ = ρ') (h : K ρ') : EnvIs ρ K := by unfold EnvIs; rw [e]; exact h
section
variable {T : Tab} {ρ : Env} {g : G} {P : D → G → Prop} {PB : Bool → G → Prop} {PL : List D → G → Prop} {X : Nat → List D → G → Prop} {N : Env → G → Prop} {R : D → G → Prop} {XS : Nat → List D → Env → G → Prop} {a b c : Ex} {as : Exs}
theorem zwl_lc {elt : Ex} {tg : Tg} {it : Ix} {cond : Ox} (h : WI T it ρ g (fun ds g1 => ds.length ≤ sizeLine ∧ EnvIs (wipeE ρ tg.slots) fun ρ' => WCm T tg cond elt ρ' ds g1 PL X) X) : WL T (.lc elt tg it cond) ρ g PL X := by
  refine vwl_lc ?_
  simp only [WCm, EnvIs] at h
  exact h
theorem zws_for {t : Tg} {it : Ix} {b : Cms} (h : WI T it ρ g (fun ds g1 => WFo T t b ds ρ g1 N R XS) (fun c fs g1 => XS c fs ρ g1)) : WS T (.for t it b) ρ g N R XS := by
  refine vws_for ?_
  simp only [WFo] at h
  exact h
theorem zws_try {j i : Nat} {b s : Cms} (h : WB T b ρ g N R (fun c fs ρ1 g1 => (T.sub c j = some true ∧ EnvIs ((clr ρ1).set i (.ex c fs)) fun ρ' => WB T s ρ' g1 (fun ρ2 g2 => EnvIs (clr (ρ2.set i .no)) fun ρ' => N ρ' g2) R fun _ _ _ _ => False) ∨ (T.sub c j = some false ∧ XS c fs ρ1 g1))) : WS T (.try j i b s) ρ g N R XS := by
  simp only [EnvIs] at h
  exact vws_try h
theorem zws_set {i : Nat} (h : WE T a ρ g (fun d g1 => EnvIs (ρ.set i (.v d)) fun ρ' => N ρ' g1) (fun c fs g1 => XS c fs ρ g1)) : WS T (.set i a) ρ g N R XS := by
  simp only [EnvIs] at h
  exact vws_set h
theorem zws_setL {i : Nat} {l : Lx} (h : WL T l ρ g (fun d g1 => EnvIs (ρ.set i (.ol d)) fun ρ' => N ρ' g1) (fun c fs g1 => XS c fs ρ g1)) : WS T (.setL i l) ρ g N R XS := by
  simp only [EnvIs] at h
  exact vws_setL h
theorem zws_setW {i : Nat} {l : Lx} (h : WL T l ρ g (fun d g1 => EnvIs (ρ.set i (.v (.lst d))) fun ρ' => N ρ' g1) (fun c fs g1 => XS c fs ρ g1)) : WS T (.setW i l) ρ g N R XS := by
  simp only [EnvIs] at h
  exact vws_setW h
theorem zws_par {i j : Nat} (h : WEs T as ρ g (fun ds g1 => ∃ d e, ds = [d, e] ∧ EnvIs ((ρ.set i (.v d)).set j (.v e)) fun ρ' => N ρ' g1) (fun c fs g1 => XS c fs ρ g1)) : WS T (.par i j as) ρ g N R XS := by
  simp only [EnvIs] at h
  exact vws_par h
theorem zws_par3 {i j l : Nat} (h : WEs T as ρ g (fun ds g1 => ∃ d e f, ds = [d, e, f] ∧ EnvIs (((ρ.set i (.v d)).set j (.v e)).set l (.v f)) fun ρ' => N ρ' g1) (fun c fs g1 => XS c fs ρ g1)) : WS T (.par3 i j l as) ρ g N R XS := by
  simp only [EnvIs] at h
  exact vws_par3 h
theorem zws_mtL {k : Ml} {i : Nat} {ds : List D} (e : ownL ρ i = some ds) (h : WEs T as ρ g (fun args g1 => ∃ r, mlS k ds args = some r ∧ EnvIs (ρ.set i (.ol r)) fun ρ' => N ρ' g1) (fun c fs g1 => XS c fs ρ g1)) : WS T (.mtL k i as) ρ g N R XS := by
  simp only [EnvIs] at h
  exact vws_mtL e h
theorem zws_setF {i c : Nat} {f : Str} {fs : List (Str × D)} (hr : ρ[i]? = some (.oi c fs)) (h : WE T a ρ g (fun d g1 => (f ∈ T.flds c ∧ fs.length < 1000) ∧ EnvIs (ρ.set i (.oi c (putD f d fs))) fun ρ' => N ρ' g1) (fun c fs g1 => XS c fs ρ g1)) : WS T (.setF i f a) ρ g N R XS := by
  simp only [EnvIs] at h
  exact vws_setF hr h
theorem zwr_frz {i : Nat} {r : Cms} (h : EnvIs (frzE i ρ) fun ρ' => WB T r ρ' g N R XS) : WB T (.frz i r) ρ g N R XS := by
  simp only [EnvIs] at h
  exact vwr_frz h
theorem zasg {t : Tg} {d : D} {ρ' : Env} {K : Env → Prop} (h : t.bind d ρ = some ρ') (k : EnvIs ρ' K) : ∃ r, t.bind d ρ = some r ∧ K r := by
  simp only [EnvIs] at k
  exact ⟨ρ', h, k⟩
theorem zwe_chain {op op' : CmpOp} (h : WE T a ρ g (fun x g1 => WE T b ρ g1 (fun y g2 => WE T c ρ g2 (fun z g3 => g3 = g2 ∧ VCh op op' x y z fun d => P (.bl d) g2) fun _ _ _ => False) X) X) : WE T (.chain op op' a b c) ρ g P X := by
  refine vwe_chain ?_
  simp only [WE, VC, VCh, PC] at h ⊢
  refine wm_mono h (fun x g1 h => wm_mono h (fun y g2 h => ?_) fun _ _ _ k => k) fun _ _ _ k => k
  obtain ⟨z, g3, e, e2, p, q, h1, h2, k⟩ := wm_get h
  subst e2
  refine ⟨p, h1, fun hp => ?_, fun hp => ?_⟩
  · subst hp
    exact wm_of e ⟨q, h2, by simpa using k⟩
  · subst hp
    simpa using k
theorem vch_ii {p q : Prop} [Decidable p] [Decidable q] {op op' : CmpOp} {x y z : D} {K : Bool → Prop} (h1 : cmpS op x y = some (.bl (decide p))) (h2 : cmpS op' y z = some (.bl (decide q))) (h : K (decide (p ∧ q))) : VCh op op' x y z K := by
  unfold VCh
  refine ⟨_, _, h1, h2, ?_⟩
  rwa [Bool.decide_and] at h
theorem vch_le_le {i j l : Int} {K : Bool → Prop} (h : K (decide (i ≤ j ∧ j ≤ l))) : VCh .LtE .LtE (.int i) (.int j) (.int l) K := vch_ii (p := i ≤ j) (q := j ≤ l) rfl rfl h
theorem vch_le_lt {i j l : Int} {K : Bool → Prop} (h : K (decide (i ≤ j ∧ j < l))) : VCh .LtE .Lt (.int i) (.int j) (.int l) K := vch_ii (p := i ≤ j) (q := j < l) rfl rfl h
theorem vch_lt_le {i j l : Int} {K : Bool → Prop} (h : K (decide (i < j ∧ j ≤ l))) : VCh .Lt .LtE (.int i) (.int j) (.int l) K := vch_ii (p := i < j) (q := j ≤ l) rfl rfl h
theorem vch_lt_lt {i j l : Int} {K : Bool → Prop} (h : K (decide (i < j ∧ j < l))) : VCh .Lt .Lt (.int i) (.int j) (.int l) K := vch_ii (p := i < j) (q := j < l) rfl rfl h
theorem g_rfl {A : Prop} (h : A) : g = g ∧ A := ⟨rfl, h⟩
/-- both sides are worked out: for tests that can't fail -/
theorem zwt_and (h : WT T a ρ g (fun k g1 => WT T b ρ g1 (fun l g2 => g2 = g1 ∧ PB (k && l) g1) fun _ _ _ => False) X) : WT T (.and a b) ρ g PB X := by
  refine vwt_and ?_
  simp only [WT] at h ⊢
  refine wm_mono h (fun k g1 h => ?_) fun _ _ _ k => k
  obtain ⟨z, g3, e, e2, k1⟩ := wm_get h
  subst e2
  refine ⟨fun hp => ?_, fun hp => ?_⟩
  · subst hp
    exact wm_of e (by simpa using k1)
  · subst hp
    simpa using k1
theorem zwt_or (h : WT T a ρ g (fun k g1 => WT T b ρ g1 (fun l g2 => g2 = g1 ∧ PB (k || l) g1) fun _ _ _ => False) X) : WT T (.or a b) ρ g PB X := by
  refine vwt_or ?_
  simp only [WT] at h ⊢
  refine wm_mono h (fun k g1 h => ?_) fun _ _ _ k => k
  obtain ⟨z, g3, e, e2, k1⟩ := wm_get h
  subst e2
  refine ⟨fun hp => ?_, fun hp => ?_⟩
  · subst hp
    simpa using k1
  · subst hp
    exact wm_of e (by simpa using k1)
theorem zwe_and (h : WE T a ρ g (fun x g1 => ∃ k, x = .bl k ∧ WE T b ρ g1 (fun y g2 => g2 = g1 ∧ ∃ l, y = .bl l ∧ P (.bl (k && l)) g1) fun _ _ _ => False) X) : WE T (.and a b) ρ g P X := by
  refine vwe_and ?_
  simp only [WE] at h ⊢
  refine wm_mono h (fun x g1 h => ?_) fun _ _ _ k => k
  obtain ⟨k, rfl, h⟩ := h
  obtain ⟨z, g3, e, e2, l, rfl, k1⟩ := wm_get h
  subst e2
  refine ⟨k, rfl, fun hp => ?_, fun hp => ?_⟩
  · subst hp
    exact wm_of e (by simpa using k1)
  · subst hp
    simpa using k1
theorem zwe_or (h : WE T a ρ g (fun x g1 => ∃ k, x = .bl k ∧ WE T b ρ g1 (fun y g2 => g2 = g1 ∧ ∃ l, y = .bl l ∧ P (.bl (k || l)) g1) fun _ _ _ => False) X) : WE T (.or a b) ρ g P X := by
  refine vwe_or ?_
  simp only [WE] at h ⊢
  refine wm_mono h (fun x g1 h => ?_) fun _ _ _ k => k
  obtain ⟨k, rfl, h⟩ := h
  obtain ⟨z, g3, e, e2, l, rfl, k1⟩ := wm_get h
  subst e2
  refine ⟨k, rfl, fun hp => ?_, fun hp => ?_⟩
  · subst hp
    simpa using k1
  · subst hp
    exact wm_of e (by simpa using k1)
/-! calls, the def's number ahead (so that a wrong rule fails at once) -/
theorem zwe_call {i : Nat} (h : WEs T as ρ g (fun ds g1 => CF i T ds g1 P X) X) : WE T (.call i as) ρ g P X := by
  simp only [CF] at h
  exact vwe_call h
theorem zwe_callv {i j : Nat} (e : envF ρ j = some i) (h : WEs T as ρ g (fun ds g1 => CF i T ds g1 P X) X) : WE T (.callv j as) ρ g P X := by
  simp only [CF] at h
  exact vwe_callv e h
theorem zwe_meth {m : Str} (h : WE T a ρ g (fun o g1 => ∃ i, mtX T.mts m o = some i ∧ WEs T as ρ g1 (fun ds0 g2 => CF i T (o :: ds0) g2 P X) X) X) : WE T (.meth a m as) ρ g P X := by
  refine vwe_meth ?_
  simp only [WE, WEs, CF] at h ⊢
  refine wm_mono h (fun o g1 ⟨i, e, h⟩ => ⟨i, e, wm_mono h (fun ds g2 h ds' q => ?_) fun _ _ _ k => k⟩) fun _ _ _ k => k
  subst q; exact h
theorem zwe_make {c : Nat} (h : WEs T as ρ g (fun ds g1 => CN c T ds g1 P X) X) : WE T (.make c as) ρ g P X := by
  simp only [CN] at h
  exact vwe_make h
theorem zwq_own {n : Bool} {x y : D} {i : Nat} (e : eqJ T.mts T.kit x y = some i) (h : CF i T [x, y] g (fun r g1 => ∃ k, r = .bl k ∧ P (.bl (xor n k)) g1) (fun _ _ _ => False)) : WQ T n x y g P X := by
  simp only [CF] at h
  exact vwq_own rfl e h
theorem zwq_eq {x y : D} {i : Nat} (e : eqJ T.mts T.kit x y = some i) (h : CF i T [x, y] g (fun r g1 => ∃ k, r = .bl k ∧ P (.bl k) g1) (fun _ _ _ => False)) : WQ T false x y g P X := by
  refine zwq_own e ?_
  simp only [Bool.false_xor]
  exact h
theorem zwq_ne {x y : D} {i : Nat} (e : eqJ T.mts T.kit x y = some i) (h : CF i T [x, y] g (fun r g1 => ∃ k, r = .bl k ∧ P (.bl (!k)) g1) (fun _ _ _ => False)) : WQ T true x y g P X := by
  refine zwq_own e ?_
  simp only [Bool.true_xor]
  exact h
theorem zwc_def {S : Sta} {k i : Nat} {d : Dfr} {ds : List D} (hd : S.defs[i]? = some d) (hi : d.ini = none) (hl : ds.length = S.nps i) (h : WB (tabK S k) d.b (startE d.N ds) g (fun _ g1 => P .non g1) P (fun c fs _ g1 => X c fs g1)) : CF i (tabK S (k + 1)) ds g P X := by
  simp only [CF]
  exact vwc_def hd hi hl h
theorem zwc_ini {S : Sta} {k i c : Nat} {d : Dfr} {ds : List D} (hd : S.defs[i]? = some d) (hi : S.ini c = some i) (hl : ds.length + 1 = d.ps.length) (h : WB (tabK S k) d.b (startI d.N c ds) g (fun ρ1 g1 => ∃ fs, ρ1[0]? = some (.oi c fs) ∧ P (.ins c fs) g1) (fun _ _ => False) (fun c fs _ g1 => X c fs g1)) : CN c (tabK S (k + 1)) ds g P X := by
  simp only [CN]
  exact vwc_ini hd hi hl h
theorem zf_mono {P Q : D → G → Prop} {i : Nat} {ds : List D} {X Y : Nat → List D → G → Prop} (h : CF i T ds g P X) (k : ∀ x g, P x g → Q x g) (l : ∀ c fs g, X c fs g → Y c fs g) : CF i T ds g Q Y := by
  simp only [CF] at h ⊢
  exact vmono h k l
/-! comprehensions -/
section
variable {tg : Tg} {cond : Ox} {elt : Ex}
theorem zcm_nil (h : PL [] g) : WCm T tg cond elt ρ [] g PL X := by unfold WCm; exact wm_ret h
theorem zcm_cons {d : D} {ds : List D} {ρ1 : Env} (e : tg.bind d ρ = some ρ1)
    (h : EnvIs ρ1 fun ρ1 => WC T cond ρ1 g (fun b g1 => (b = true → WE T elt ρ1 g1 (fun y g2 => WCm T tg cond elt ρ ds g2 (fun ys g3 => PL (y :: ys) g3) X) fun _ _ _ => False) ∧ (b = false → WCm T tg cond elt ρ ds g1 PL X)) fun _ _ _ => False) :
    WCm T tg cond elt ρ (d :: ds) g PL X := by
  simp only [WCm, EnvIs] at h ⊢
  exact vcm_cons e h
theorem zcmT {α : Type} {L : List α} {e : α → D} {p : α → Bool} {f : α → D}
    (h : ∀ x ∈ L, ∃ ρ1, tg.bind (e x) ρ = some ρ1 ∧ (∀ (g : G) (P : Bool → G → Prop) (X : Nat → List D → G → Prop), P (p x) g → WC T cond ρ1 g P X) ∧ (p x = true → ∀ (g : G) (P : D → G → Prop) (X : Nat → List D → G → Prop), P (f x) g → WE T elt ρ1 g P X))
    (k : PL ((L.filter p).map f) g) : WCm T tg cond elt ρ (L.map e) g PL X := by unfold WCm; exact vcompT h k
theorem zcmA {α : Type} {L : List α} {e : α → D} {f : α → D}
    (h : ∀ x ∈ L, ∃ ρ1, tg.bind (e x) ρ = some ρ1 ∧ (∀ (g : G) (P : D → G → Prop) (X : Nat → List D → G → Prop), P (f x) g → WE T elt ρ1 g P X))
    (k : PL (L.map f) g) : WCm T tg .no elt ρ (L.map e) g PL X := by unfold WCm; exact vcompA h k
theorem zcm {p : D → Bool} {f : D → D} {ds : List D} (h : ∀ d ∈ ds, ∃ ρ1, tg.bind d ρ = some ρ1 ∧ (∀ (g : G) (P : Bool → G → Prop) (X : Nat → List D → G → Prop), P (p d) g → WC T cond ρ1 g P X) ∧ (p d = true → ∀ (g : G) (P : D → G → Prop) (X : Nat → List D → G → Prop), P (f d) g → WE T elt ρ1 g P X))
    (h2 : PL ((ds.filter p).map f) g) : WCm T tg cond elt ρ ds g PL X := by unfold WCm; exact vcomp h h2
theorem zcm_none {α : Type} {L : List α} {e : α → D} (h : ∀ x ∈ L, ∃ ρ1, tg.bind (e x) ρ = some ρ1 ∧ (∀ (g : G) (P : Bool → G → Prop) (X : Nat → List D → G → Prop), P false g → WC T cond ρ1 g P X)) (k : PL [] g) : WCm T tg cond elt ρ (L.map e) g PL X := by
  refine zcmT (p := fun _ => false) (f := fun _ => .non) (fun x hx => ?_) ?_
  · obtain ⟨ρ1, h1, h2⟩ := h x hx
    exact ⟨ρ1, h1, h2, fun q => by cases q⟩
  · rw [List.filter_eq_nil_iff.mpr (by simp)]
    exact k
theorem zcmD {J : G → Prop} {Q : D → Prop} {ds : List D} (h : ∀ d ∈ ds, ∀ g, J g → ∃ ρ1, tg.bind d ρ = some ρ1 ∧ WE T elt ρ1 g (fun y g2 => Q y ∧ J g2) fun _ _ _ => False) (hJ : J g)
    (k : ∀ rs g', rs.length = ds.length → (∀ r ∈ rs, Q r) → J g' → PL rs g') : WCm T tg .no elt ρ ds g PL X := by unfold WCm; exact vcompD h hJ k
end
/-! walks -/
theorem zfor {t : Tg} {b : Cms} (I : List D → Env → G → Prop) {ds : List D} (h0 : I ds ρ g) (step : ∀ d ds ρ g, I (d :: ds) ρ g → ∃ ρ1, t.bind d ρ = some ρ1 ∧ WB T b ρ1 g (I ds) R XS) (fin : ∀ ρ g, I [] ρ g → N ρ g) : WFo T t b ds ρ g N R XS := by
  unfold WFo; exact vfor I step fin ds ρ g h0
theorem zfor_nil {t : Tg} {b : Cms} (h : N ρ g) : WFo T t b [] ρ g N R XS := by unfold WFo; exact h
theorem zfor_cons {t : Tg} {b : Cms} {d : D} {ds : List D} {ρ1 : Env} (e : t.bind d ρ = some ρ1) (h : EnvIs ρ1 fun ρ1 => WB T b ρ1 g (fun ρ2 g2 => WFo T t b ds ρ2 g2 N R XS) R XS) : WFo T t b (d :: ds) ρ g N R XS := by
  simp only [WFo, EnvIs] at h ⊢; exact vfor_cons e h
/-- a walk over a typed row: I of what is done and what is left, of the slots -/
theorem zforT {α : Type} {e : α → D} {t : Tg} {b : Cms} {L : List α} (I : List α → List α → Env → Prop) (h0 : I [] L ρ) (step : ∀ u x v ρ, u ++ x :: v = L → I u (x :: v) ρ → ∃ ρ1, t.bind (e x) ρ = some ρ1 ∧ WB T b ρ1 g (fun ρ2 g2 => g2 = g ∧ I (u ++ [x]) v ρ2) R XS)
    (fin : ∀ ρ, I L [] ρ → N ρ g) : WFo T t b (L.map e) ρ g N R XS := by
  refine zfor (fun ds ρ g' => g' = g ∧ ∃ u v, u ++ v = L ∧ ds = v.map e ∧ I u v ρ) ⟨rfl, [], L, rfl, rfl, h0⟩ ?_ ?_
  · rintro d ds ρ g' ⟨rfl, u, v, hL, hd, hI⟩
    cases v with
    | nil => cases hd
    | cons x v =>
      cases hd
      obtain ⟨ρ1, e1, w⟩ := step u x v ρ hL hI
      refine ⟨ρ1, e1, ?_⟩
      simp only [WB] at w ⊢
      exact wr_mono w (fun ρ2 g2 ⟨q, h⟩ => ⟨q, u ++ [x], v, by rw [List.append_assoc]; exact hL, rfl, h⟩) (fun _ _ k => k) fun _ _ _ _ k => k
  · rintro ρ g' ⟨rfl, u, v, hL, hd, hI⟩
    cases v with
    | cons x v => cases hd
    | nil => rw [List.append_nil] at hL; subst hL; exact fin ρ hI
theorem pb {b c : Bool} (e : b = c) (h : P (.bl c) g) : P (.bl b) g := e ▸ h
theorem pi {b c : Int} (e : b = c) (h : P (.int c) g) : P (.int b) g := e ▸ h
theorem pd {b c : D} (e : b = c) (h : P c g) : P b g := e ▸ h
end
theorem set_fld {f : Str} {L : List Str} {n : Nat} {A : Prop} (a : f ∈ L) (b : n < 1000) (c : A) : (f ∈ L ∧ n < 1000) ∧ A := ⟨⟨a, b⟩, c⟩
/-! try: the error in hand is the one that is awaited -/
theorem try_yes {A B C : Prop} (a : A) (b : B) : (A ∧ B) ∨ C := .inl ⟨a, b⟩
theorem try_no {A B C : Prop} (a : B) (b : C) : A ∨ (B ∧ C) := .inr ⟨a, b⟩
theorem len1 {d : D} {A : Prop} (h : A) : [d].length = 1 ∧ A := ⟨rfl, h⟩
/-! short walks by numbers -/
section
variable {K : List D → Prop}
theorem rr2 (h : K [.int 0, .int 1]) : ∃ n, D.int 2 = .int n ∧ (-(2 ^ 62) ≤ n ∧ n < 2 ^ 62) ∧ K (rngD 0 n.toNat) := ⟨2, rfl, by omega, h⟩
theorem rr3 (h : K [.int 0, .int 1, .int 2]) : ∃ n, D.int 3 = .int n ∧ (-(2 ^ 62) ≤ n ∧ n < 2 ^ 62) ∧ K (rngD 0 n.toNat) := ⟨3, rfl, by omega, h⟩
theorem rr4 (h : K [.int 0, .int 1, .int 2, .int 3]) : ∃ n, D.int 4 = .int n ∧ (-(2 ^ 62) ≤ n ∧ n < 2 ^ 62) ∧ K (rngD 0 n.toNat) := ⟨4, rfl, by omega, h⟩
theorem rr5 (h : K [.int 0, .int 1, .int 2, .int 3, .int 4]) : ∃ n, D.int 5 = .int n ∧ (-(2 ^ 62) ≤ n ∧ n < 2 ^ 62) ∧ K (rngD 0 n.toNat) := ⟨5, rfl, by omega, h⟩
end
theorem all1 {scr : List Int} {a : Bool} {K : D → Prop} (h : K (.bl a)) : ∃ r, biS scr .all [.lst [.bl a]] = some r ∧ K r := ⟨_, rfl, by show K (.bl (a && true)); rwa [Bool.and_true]⟩
theorem all2 {scr : List Int} {a b : Bool} {K : D → Prop} (h : K (.bl (a && b))) : ∃ r, biS scr .all [.lst [.bl a, .bl b]] = some r ∧ K r := ⟨_, rfl, by show K (.bl (a && (b && true))); rwa [Bool.and_true]⟩
theorem all2d {scr : List Int} {p q : Prop} {_ : Decidable p} {_ : Decidable q} {K : D → Prop} (h : K (.bl (decide (p ∧ q)))) : ∃ r, biS scr .all [.lst [.bl (decide p), .bl (decide q)]] = some r ∧ K r := all2 (by rwa [Bool.decide_and] at h)
theorem if_and {p q : Prop} {_ : Decidable p} {_ : Decidable q} {A B : Prop} (h : (decide (p ∧ q) = true → A) ∧ (decide (p ∧ q) = false → B)) : ((decide p && decide q) = true → A) ∧ ((decide p && decide q) = false → B) := by rwa [Bool.decide_and] at h
theorem if_or {p q : Prop} {_ : Decidable p} {_ : Decidable q} {A B : Prop} (h : (decide (p ∨ q) = true → A) ∧ (decide (p ∨ q) = false → B)) : ((decide p || decide q) = true → A) ∧ ((decide p || decide q) = false → B) := by rwa [Bool.decide_or] at h
theorem if_beq {i j : Int} {A B : Prop} (h : (decide (i = j) = true → A) ∧ (decide (i = j) = false → B)) : ((i == j) = true → A) ∧ ((i == j) = false → B) := by
  rwa [show (i == j) = decide (i = j) from rfl]
theorem if_self {b : Bool} {A B : Prop} (h : A) : ((b == b) = true → A) ∧ ((b == b) = false → B) := ⟨fun _ => h, fun q => by simp at q⟩
theorem len_mt {scr : List Int} {α : Type} {L : List α} {e : α → D} {K : D → Prop} (h : K (.int (L.length : Int))) : ∃ r, biS scr .len [.tup (L.map e)] = some r ∧ K r := ⟨_, rfl, by rwa [List.length_map]⟩
theorem len_ml {scr : List Int} {α : Type} {L : List α} {e : α → D} {K : D → Prop} (h : K (.int (L.length : Int))) : ∃ r, biS scr .len [.lst (L.map e)] = some r ∧ K r := ⟨_, rfl, by rwa [List.length_map]⟩
/-! repr -/
def rpS (d : D) : Str := match reprD [d] with
  | some (.str s) => s
  | _ => ""
theorem rpS_ok {d : D} (h : RpB d) : reprD [d] = some (.str (rpS d)) ∧ strok (rpS d) = true := by
  obtain ⟨p, e, h⟩ := h
  unfold rpB at h
  simp only [Bool.and_eq_true, decide_eq_true_eq] at h
  obtain ⟨⟨⟨h1, h2⟩, h3⟩, h4⟩ := h
  have : reprD [d] = some (.str p.shown) := by
    show (toPy d).bind _ = _
    rw [e]
    show (if _ then _ else _) = _
    rw [if_pos ⟨h1, h2, sz_small h3⟩]
  unfold rpS
  rw [this]
  exact ⟨rfl, h4⟩
theorem rep_ok {scr : List Int} {d : D} {K : D → Prop} (hr : RpB d) (h : K (.str (rpS d))) : ∃ r, biS scr .repr [d] = some r ∧ K r := ⟨_, (rpS_ok hr).1, h⟩
theorem rep_ne {d : D} {K : Bool → Prop} (hr : RpB d) (h : K false) : VC .NotEq (.str (rpS d)) (.str (rpS d)) K := vpc_neSelf (n := 0) rfl (pn_str (rpS_ok hr).2) (by omega) h
theorem rp_bl {b : Bool} : RpB (.bl b) := by cases b <;> exact ⟨_, rfl, by decide +kernel⟩
theorem rp_non : RpB .non := ⟨_, rfl, by decide +kernel⟩
theorem at_map {α : Type} {L : List α} {e : α → D} {i : Int} {x : α} (h0 : 0 ≤ i) (h : L[i.toNat]? = some x) : atI (L.map e) i = some (e x) := by
  obtain ⟨hl, hx⟩ := List.getElem?_eq_some_iff.mp h
  obtain ⟨d, h1, h2⟩ := atI_ex (l := L.map e) h0 (by rw [List.length_map]; omega)
  rw [h1]
  rw [List.getElem?_map, h] at h2
  exact h2.symm
theorem if_t {b : Bool} {A B : Prop} (e : b = true) (h : A) : (b = true → A) ∧ (b = false → B) := ⟨fun _ => h, fun q => (by rw [e] at q; cases q)⟩
theorem if_f {b : Bool} {A B : Prop} (e : b = false) (h : B) : (b = true → A) ∧ (b = false → B) := ⟨fun q => (by rw [e] at q; cases q), fun _ => h⟩
theorem zbl_list {ds r : List D} {K : List D → Prop} (e : listDL ds = some r) (h : K r) : ∃ r, blS .list ds = some r ∧ K r := ⟨r, e, h⟩
theorem srt_ints {L : List Int} {K : List D → Prop} (h : K ((srtI L).map D.int)) : ∃ r, blS .sorted [.lst (L.map D.int)] = some r ∧ K r := ⟨(srtI L).map D.int, by
  have e : sortedD [.lst (L.map D.int)] = some ((srtI L).map D.int) := by show (intsD _).map _ = _; rw [intsD_map]; rfl
  show orM sortedD sortedDD _ = _
  unfold orM
  rw [e], h⟩
theorem srt2 {i j : Int} {K : List D → Prop} (h : ∀ p q, (p = i ∧ q = j ∨ p = j ∧ q = i) → p ≤ q → K [.int p, .int q]) : ∃ r, blS .sorted [.lst [.int i, .int j]] = some r ∧ K r := by
  refine srt_ints (L := [i, j]) ?_
  have hl : (srtI [i, j]).length = 2 := by unfold srtI; rw [List.length_mergeSort]; rfl
  have hp := srtI_perm [i, j]
  have hw := srtI_pw [i, j]
  match hs : srtI [i, j], hl with
  | [p, q], _ =>
    rw [hs] at hp hw
    have h1 : p ≤ q := by
      have := List.pairwise_cons.mp hw
      exact this.1 q List.mem_cons_self
    refine h p q ?_ h1
    have m1 : p ∈ [i, j] := hp.mem_iff.mp List.mem_cons_self
    have m2 : q ∈ [i, j] := hp.mem_iff.mp (List.mem_cons_of_mem _ List.mem_cons_self)
    have m3 : i ∈ [p, q] := hp.mem_iff.mpr List.mem_cons_self
    have m4 : j ∈ [p, q] := hp.mem_iff.mpr (List.mem_cons_of_mem _ List.mem_cons_self)
    simp only [List.mem_cons, List.not_mem_nil, or_false] at m1 m2 m3 m4
    omega
/-! rows repeated -/
theorem rep_lst {x : List D} {k : Int} {K : D → Prop} (c : -(2 ^ 63) ≤ k ∧ k < 2 ^ 63 ∧ x.length * k.toNat ≤ sizeLine) (h : K (.lst (List.replicate k.toNat x).flatten)) : VO .mul (.lst x) (.int k) K := by
  unfold VO
  refine ⟨_, ?_, h⟩
  show repS (.lst x) (.int k) = _
  unfold repS
  dsimp only
  rw [if_pos c]
theorem rep_tup {x : List D} {k : Int} {K : D → Prop} (c : x ≠ [] ∧ 2 ≤ k ∧ k ≤ 1000 ∧ x.length ≤ 1000) (h : K (.tup (List.replicate k.toNat x).flatten)) : VO .mul (.tup x) (.int k) K := by
  unfold VO
  refine ⟨_, ?_, h⟩
  show repS (.tup x) (.int k) = _
  unfold repS
  dsimp only
  rw [if_pos c]
/-- [..] * int(b) -/
theorem rep_if {x : List D} {b : Bool} {K : D → Prop} (c : x.length ≤ 1000) (h : K (.lst (if b then x else []))) : VO .mul (.lst x) (.int (if b = true then 1 else 0)) K := by
  refine rep_lst ?_ ?_
  · refine ⟨?_, ?_, ?_⟩
    · split <;> omega
    · split <;> omega
    · refine sz_small ?_
      cases b <;> simp <;> omega
  · cases b
    · exact h
    · simpa using h
/-! against the empty row -/
section
variable {α : Type} {L : List α} {e : α → D} {K : Bool → Prop}
theorem deqL_nil : ∀ {ds : List D}, deqL ds [] = decide (ds = [])
  | [] => by simp [deqL]
  | _ :: _ => by simp [deqL]
theorem nil_eq (hp : ∀ x ∈ L, pn 8 (e x)) (h : K (decide (L = []))) : VC .Eq (.lst (L.map e)) (.lst []) K := by
  refine vpc_eqQ (n := 9) (m := 9) (pn_lst (pn_map hp)) (pn_lst pn_nil) (by omega) (by omega) ?_
  rw [show deq (.lst (L.map e)) (.lst []) = decide (L = []) by rw [deq, deqL_nil]; simp]
  exact h
theorem nil_ne (hp : ∀ x ∈ L, pn 8 (e x)) (h : K (!decide (L = []))) : VC .NotEq (.lst (L.map e)) (.lst []) K := by
  refine vpc_neQ (n := 9) (m := 9) (pn_lst (pn_map hp)) (pn_lst pn_nil) (by omega) (by omega) ?_
  rw [show deq (.lst (L.map e)) (.lst []) = decide (L = []) by rw [deq, deqL_nil]; simp]
  exact h
theorem cons_eq {d : D} {ds : List D} (hp : pn 9 (.lst (d :: ds))) (h : K false) : VC .Eq (.lst (d :: ds)) (.lst []) K := by
  refine vpc_eqQ (n := 9) (m := 9) hp (pn_lst pn_nil) (by omega) (by omega) ?_
  exact h
theorem cons_ne {d : D} {ds : List D} (hp : pn 9 (.lst (d :: ds))) (h : K true) : VC .NotEq (.lst (d :: ds)) (.lst []) K := by
  refine vpc_neQ (n := 9) (m := 9) hp (pn_lst pn_nil) (by omega) (by omega) ?_
  exact h
theorem nil_neN (h : K false) : VC .NotEq (.lst []) (.lst []) K := by
  refine vpc_neQ (n := 9) (m := 9) (pn_lst pn_nil) (pn_lst pn_nil) (by omega) (by omega) ?_
  exact h
end
/-! rows of the same: eight deep is enough -/
section
variable {x y : D} {K : Bool → Prop}
theorem same_eq (e : x = y) (hp : pn 8 y) (h : K true) : VC .Eq x y K := vpc_eqSelf e hp (by omega) h
theorem same_ne (e : x = y) (hp : pn 8 y) (h : K false) : VC .NotEq x y K := vpc_neSelf e hp (by omega) h
theorem same_eqO (e : x = y) (hp : pn 8 y) (h : K true) : VC (eqO false) x y K := vpc_eqSelf e hp (by omega) h
theorem same_neO (e : x = y) (hp : pn 8 y) (h : K false) : VC (eqO true) x y K := vpc_neSelf e hp (by omega) h
theorem iff_eq {p : Prop} [Decidable p] (e : x = y ↔ p) (hx : pm 8 x) (hy : pm 8 y) (h : K (decide p)) : VC .Eq x y K := vpc_eqP hx hy (by omega) (by omega) e h
theorem iff_ne {p : Prop} [Decidable p] (e : x = y ↔ p) (hx : pm 8 x) (hy : pm 8 y) (h : K (!decide p)) : VC .NotEq x y K := vpc_neP hx hy (by omega) (by omega) e h
theorem iff_eqO {p : Prop} [Decidable p] (e : x = y ↔ p) (hx : pm 8 x) (hy : pm 8 y) (h : K (decide p)) : VC (eqO false) x y K := vpc_eqP hx hy (by omega) (by omega) e h
theorem iff_neO {p : Prop} [Decidable p] (e : x = y ↔ p) (hx : pm 8 x) (hy : pm 8 y) (h : K (!decide p)) : VC (eqO true) x y K := vpc_neP hx hy (by omega) (by omega) e h
end
theorem mxI_of {L : List Int} (h : L ≠ []) : maxI L = some ((maxI L).getD 0) := by cases L with | nil => exact absurd rfl h | cons i is => rfl
theorem mnI_of {L : List Int} (h : L ≠ []) : minI L = some ((minI L).getD 0) := by cases L with | nil => exact absurd rfl h | cons i is => rfl
end DS

set_option Elab.async false
set_option linter.all false
set_option maxRecDepth 100000
set_option maxHeartbeats 4000000
/-! DS: rows of whole numbers in order: sorted, least, greatest -/
namespace DS
open PySem L2
/-- a tuple of whole numbers -/
abbrev ti (l : List Int) : D := .tup (l.map .int)
theorem toPyL_int : ∀ l : List Int, toPyL (l.map D.int) = some (l.map PyData.int)
  | [] => rfl
  | x :: l => by rw [List.map_cons, toPyL, toPyL_int l]; rfl
theorem toPy_ti (l : List Int) : toPy (ti l) = some (.tuple (l.map .int)) := by
  unfold ti
  rw [toPy, toPyL_int]; rfl
theorem pyD_ti (l : List Int) : pyD (ti l) = .tuple (l.map .int) := by unfold pyD; rw [toPy_ti]; rfl
theorem dlt_ti (a b : List Int) : dlt (ti a) (ti b) = decide (a < b) := by
  unfold dlt
  rw [pyD_ti, pyD_ti, PySem.W.dataLt_tuple]
  exact PySem.W.dataLt_ints a b
theorem toPyL_ti {α : Type} (r : α → List Int) : ∀ L : List α, toPyL (L.map fun x => ti (r x)) = some (L.map fun x => .tuple ((r x).map .int))
  | [] => rfl
  | x :: L => by rw [List.map_cons, toPyL, toPyL_ti r L, toPy_ti]; rfl
theorem lay_int : ∀ l : List Int, PyData.canLayAll0 (l.map .int) = true
  | [] => rfl
  | x :: l => by rw [List.map_cons, PyData.canLayAll0, lay_int l]; rfl
theorem dep_int : ∀ l : List Int, PyData.depthAll (l.map .int) ≤ 0
  | [] => Nat.le_refl _
  | x :: l => by rw [List.map_cons, PyData.depthAll]; exact Nat.max_le.mpr ⟨Nat.le_refl _, dep_int l⟩
theorem lay_ti {α : Type} (r : α → List Int) : ∀ L : List α, PyData.canLayAll0 (L.map fun x => .tuple ((r x).map .int)) = true
  | [] => rfl
  | x :: L => by rw [List.map_cons, PyData.canLayAll0, lay_ti r L, PyData.canLay0, lay_int]; rfl
theorem dep_ti {α : Type} (r : α → List Int) : ∀ L : List α, PyData.depthAll (L.map fun x => .tuple ((r x).map .int)) ≤ 2
  | [] => by show PyData.depthAll [] ≤ 2; decide
  | x :: L => by
    rw [List.map_cons, PyData.depthAll, PyData.depth]
    have := dep_int (r x)
    exact Nat.max_le.mpr ⟨by omega, dep_ti r L⟩
theorem al_ti {α : Type} (r : α → List Int) (L : List α) : alB (L.map fun x => .tuple ((r x).map .int)) = true := by
  unfold alB
  simp only [List.all_eq_true]
  intro x hx y hy
  obtain ⟨a, _, rfl⟩ := List.mem_map.mp hx
  obtain ⟨b, _, rfl⟩ := List.mem_map.mp hy
  rw [PySem.W.alike]
  exact PySem.W.alike_ints _ _
theorem okP_ti {α : Type} (r : α → List Int) (L : List α) : okP (L.map fun x => .tuple ((r x).map .int)) = true := by
  unfold okP
  rw [al_ti, lay_ti, decide_eq_true (Nat.le_trans (dep_ti r L) (by omega)), Bool.true_and, Bool.and_true, Bool.and_true]
  rw [List.all_eq_true]
  intro x hx
  obtain ⟨a, _, rfl⟩ := List.mem_map.mp hx
  rfl
theorem okQ_ti {α : Type} (r : α → List Int) (L : List α) (h : ∀ x ∈ L, r x ≠ []) : okQ (L.map fun x => .tuple ((r x).map .int)) = true := by
  unfold okQ
  rw [al_ti, decide_eq_true (Nat.le_trans (dep_ti r L) (by omega)), Bool.true_and, Bool.and_true]
  have : (L.map fun x => PyData.tuple ((r x).map .int)).all tupNe = true := by
    rw [List.all_eq_true]
    intro x hx
    obtain ⟨a, ha, rfl⟩ := List.mem_map.mp hx
    have := h a ha
    cases q : r a with
    | nil => exact absurd q this
    | cons i is => rfl
  rw [this]; rfl
/-- rows by their numbers -/
def srtR {α : Type} (r : α → List Int) (L : List α) : List α := L.mergeSort fun a b => decide (r a ≤ r b)
theorem srtR_perm {α : Type} (r : α → List Int) (L : List α) : (srtR r L).Perm L := List.mergeSort_perm _ _
theorem srtR_pw {α : Type} (r : α → List Int) (L : List α) : (srtR r L).Pairwise fun a b => r a ≤ r b := by
  have := List.pairwise_mergeSort (le := fun a b => decide (r a ≤ r b)) (fun a b c h1 h2 => by
    simp only [decide_eq_true_eq] at *
    exact List.le_trans h1 h2) (fun a b => by
    simp only [Bool.or_eq_true, decide_eq_true_eq]
    exact List.le_total _ _) L
  exact this.imp fun h => of_decide_eq_true h
theorem srtD_ti {α : Type} (r : α → List Int) (L : List α) : srtD (L.map fun x => ti (r x)) = (srtR r L).map fun x => ti (r x) := by
  unfold srtD srtR
  refine (List.map_mergeSort (r := fun a b => decide (r a ≤ r b)) (s := PySem.W.dataLe false pyD) (f := fun x => ti (r x)) fun a _ b _ => ?_).symm
  show decide (r a ≤ r b) = !dlt (ti (r b)) (ti (r a))
  rw [dlt_ti]
  by_cases c : r b < r a
  · have c' : ¬ r a ≤ r b := fun q => List.not_lt.mpr q c
    simp [c, c']
  · have c' : r a ≤ r b := List.not_lt.mp c
    simp [c, c']
theorem intsD_ti {α : Type} (r : α → List Int) (x : α) (L : List α) : intsD ((x :: L).map fun x => ti (r x)) = none := rfl
section
variable {scr : List Int} {α : Type} {L : List α} {r : α → List Int}
theorem srt_ti {K : List D → Prop} (hn : ∀ x ∈ L, r x ≠ []) (h : K ((srtR r L).map fun x => ti (r x))) : ∃ res, blS .sorted [.lst (L.map fun x => ti (r x))] = some res ∧ K res := by
  have e0 : ∀ ds, blS .sorted ds = orM sortedD sortedDD ds := fun _ => rfl
  cases L with
  | nil =>
    refine ⟨[], ?_, by simpa [srtR] using h⟩
    rw [e0]
    unfold orM
    have e1 : sortedD [.lst (([] : List α).map fun x => ti (r x))] = some [] := by
      have e2 : sortedD [.lst (([] : List α).map fun x => ti (r x))] = (intsD []).map (fun ns => (srtI ns).map D.int) := rfl
      rw [e2]
      simp [intsD, srtI]
    rw [e1]
  | cons x L =>
    refine ⟨_, ?_, h⟩
    rw [e0]
    unfold orM
    have e1 : sortedD [.lst ((x :: L).map fun x => ti (r x))] = none := rfl
    rw [e1]
    have e2 : sortedDD [.lst ((x :: L).map fun x => ti (r x))] = (toPyL ((x :: L).map fun x => ti (r x))).bind fun ps => if okQ ps = true then some (srtD ((x :: L).map fun x => ti (r x))) else none := rfl
    show sortedDD [.lst ((x :: L).map fun x => ti (r x))] = _
    rw [e2, toPyL_ti r (x :: L), Option.bind_some, if_pos (okQ_ti r _ hn), srtD_ti]
theorem srtT_ti {K : List D → Prop} (hn : ∀ x ∈ L, r x ≠ []) (h : K ((srtR r L).map fun x => ti (r x))) : ∃ res, blS .sorted [.tup (L.map fun x => ti (r x))] = some res ∧ K res := by
  have e0 : ∀ ds, blS .sorted ds = orM sortedD sortedDD ds := fun _ => rfl
  refine ⟨_, ?_, h⟩
  rw [e0]
  unfold orM
  have e1 : sortedD [.tup (L.map fun x => ti (r x))] = none := rfl
  rw [e1]
  have e2 : sortedDD [.tup (L.map fun x => ti (r x))] = (toPyL (L.map fun x => ti (r x))).bind fun ps => if okQ ps = true then some (srtD (L.map fun x => ti (r x))) else none := rfl
  show sortedDD [.tup (L.map fun x => ti (r x))] = _
  rw [e2, toPyL_ti r L, Option.bind_some, if_pos (okQ_ti r _ hn), srtD_ti]
theorem minF_ti (x : α) (L : List α) : ∃ y ∈ x :: L, minF (ti (r x)) (L.map fun x => ti (r x)) = ti (r y) ∧ ∀ z ∈ x :: L, r y ≤ r z := by
  unfold minF
  induction L generalizing x with
  | nil => exact ⟨x, List.mem_cons_self, rfl, fun z hz => by rw [List.mem_singleton.mp hz]; exact List.le_refl _⟩
  | cons w L ih =>
    rw [List.map_cons, List.foldl_cons, dlt_ti]
    by_cases c : r w < r x
    · rw [if_pos (decide_eq_true c)]
      obtain ⟨y, h1, h2, h3⟩ := ih w
      refine ⟨y, List.mem_cons_of_mem _ h1, h2, fun z hz => ?_⟩
      rcases List.mem_cons.mp hz with q | q
      · subst q; exact List.le_trans (h3 w List.mem_cons_self) (List.le_of_lt c)
      · exact h3 z q
    · rw [if_neg (by simpa using c)]
      obtain ⟨y, h1, h2, h3⟩ := ih x
      refine ⟨y, ?_, h2, fun z hz => ?_⟩
      · rcases List.mem_cons.mp h1 with q | q
        · rw [q]; exact List.mem_cons_self
        · exact List.mem_cons_of_mem _ (List.mem_cons_of_mem _ q)
      · rcases List.mem_cons.mp hz with q | q
        · subst q; exact h3 z List.mem_cons_self
        · rcases List.mem_cons.mp q with q | q
          · subst q; exact List.le_trans (h3 x List.mem_cons_self) (List.not_lt.mp c)
          · exact h3 z (List.mem_cons_of_mem _ q)
theorem maxF_ti (x : α) (L : List α) : ∃ y ∈ x :: L, maxF (ti (r x)) (L.map fun x => ti (r x)) = ti (r y) ∧ ∀ z ∈ x :: L, r z ≤ r y := by
  unfold maxF
  induction L generalizing x with
  | nil => exact ⟨x, List.mem_cons_self, rfl, fun z hz => by rw [List.mem_singleton.mp hz]; exact List.le_refl _⟩
  | cons w L ih =>
    rw [List.map_cons, List.foldl_cons, dlt_ti]
    by_cases c : r x < r w
    · rw [if_pos (decide_eq_true c)]
      obtain ⟨y, h1, h2, h3⟩ := ih w
      refine ⟨y, List.mem_cons_of_mem _ h1, h2, fun z hz => ?_⟩
      rcases List.mem_cons.mp hz with q | q
      · subst q; exact List.le_trans (List.le_of_lt c) (h3 w List.mem_cons_self)
      · exact h3 z q
    · rw [if_neg (by simpa using c)]
      obtain ⟨y, h1, h2, h3⟩ := ih x
      refine ⟨y, ?_, h2, fun z hz => ?_⟩
      · rcases List.mem_cons.mp h1 with q | q
        · rw [q]; exact List.mem_cons_self
        · exact List.mem_cons_of_mem _ (List.mem_cons_of_mem _ q)
      · rcases List.mem_cons.mp hz with q | q
        · subst q; exact h3 z List.mem_cons_self
        · rcases List.mem_cons.mp q with q | q
          · subst q; exact List.le_trans (List.not_lt.mp c) (h3 x List.mem_cons_self)
          · exact h3 z (List.mem_cons_of_mem _ q)
theorem onD_min (x : α) (L : List α) : onDat minF [.lst ((x :: L).map fun x => ti (r x))] = some (minF (ti (r x)) (L.map fun x => ti (r x))) := by
  show (toPyL _).bind _ = _
  have := toPyL_ti r (x :: L)
  rw [List.map_cons] at this
  rw [this, Option.bind_some, if_pos]
  exact okP_ti r (x :: L)
theorem onD_max (x : α) (L : List α) : onDat maxF [.lst ((x :: L).map fun x => ti (r x))] = some (maxF (ti (r x)) (L.map fun x => ti (r x))) := by
  show (toPyL _).bind _ = _
  have := toPyL_ti r (x :: L)
  rw [List.map_cons] at this
  rw [this, Option.bind_some, if_pos]
  exact okP_ti r (x :: L)
theorem min_ti {K : D → Prop} {y : α} (hy : y ∈ L) (hm : ∀ z ∈ L, r y ≤ r z) (h : K (ti (r y))) : ∃ res, biS scr .min [.lst (L.map fun x => ti (r x))] = some res ∧ K res := by
  cases L with
  | nil => cases hy
  | cons x L =>
    obtain ⟨w, h1, h2, h3⟩ := minF_ti (r := r) x L
    have e : r w = r y := List.le_antisymm (h3 y hy) (hm w h1)
    refine ⟨_, ?_, h⟩
    rw [biS_min, orM_none rfl, orM_none rfl, orM_none rfl, orM_none rfl, onD_min, h2, e]
theorem max_ti {K : D → Prop} {y : α} (hy : y ∈ L) (hm : ∀ z ∈ L, r z ≤ r y) (h : K (ti (r y))) : ∃ res, biS scr .max [.lst (L.map fun x => ti (r x))] = some res ∧ K res := by
  cases L with
  | nil => cases hy
  | cons x L =>
    obtain ⟨w, h1, h2, h3⟩ := maxF_ti (r := r) x L
    have e : r w = r y := List.le_antisymm (hm w h1) (h3 y hy)
    refine ⟨_, ?_, h⟩
    rw [biS_max, orM_none rfl, orM_none rfl, orM_none rfl, orM_none rfl, onD_max, h2, e]
end
/-- pairs in order -/
theorem le_pair {a b c d : Int} : ([a, b] : List Int) ≤ [c, d] ↔ a < c ∨ a = c ∧ b ≤ d := by
  rw [← List.not_lt, List.cons_lt_cons_iff, List.cons_lt_cons_iff]
  simp
  omega
theorem le_three {a b c d e f : Int} : ([a, b, e] : List Int) ≤ [c, d, f] ↔ a < c ∨ a = c ∧ (b < d ∨ b = d ∧ e ≤ f) := by
  rw [← List.not_lt, List.cons_lt_cons_iff, List.cons_lt_cons_iff, List.cons_lt_cons_iff]
  simp
  omega
/-! comprehensions that draw: each result by its item -/
inductive Al2 {α β : Type} (R : α → β → Prop) : List α → List β → Prop
  | nil : Al2 R [] []
  | cons {a : α} {b : β} {as : List α} {bs : List β} (h : R a b) (t : Al2 R as bs) : Al2 R (a :: as) (b :: bs)
theorem Al2.len {α β : Type} {R : α → β → Prop} : ∀ {as : List α} {bs : List β}, Al2 R as bs → as.length = bs.length
  | _, _, .nil => rfl
  | _, _, .cons _ t => by rw [List.length_cons, List.length_cons, t.len]
theorem zcmR {α : Type} {T : Tab} {tg : Tg} {elt : Ex} {ρ : Env} {X : Nat → List D → G → Prop} {e : α → D} {J : G → Prop} {Rel : α → D → Prop} : ∀ {L : List α} {g : G} {PL : List D → G → Prop},
    (∀ x ∈ L, ∀ g, J g → ∃ ρ1, tg.bind (e x) ρ = some ρ1 ∧ WE T elt ρ1 g (fun y g2 => Rel x y ∧ J g2) fun _ _ _ => False) → J g → (∀ rs g', Al2 Rel L rs → J g' → PL rs g') → WCm T tg .no elt ρ (L.map e) g PL X
  | [], g, PL, _, hJ, h => zcm_nil (h [] g .nil hJ)
  | x :: L, g, PL, hs, hJ, h => by
    obtain ⟨ρ1, e1, w⟩ := hs x List.mem_cons_self g hJ
    rw [List.map_cons]
    refine zcm_cons e1 ?_
    unfold EnvIs
    refine vwc_no ?_
    refine ⟨fun _ => ?_, fun q => by cases q⟩
    simp only [WE] at w ⊢
    exact wm_mono w (fun y g2 ⟨hr, hj⟩ => zcmR (fun z hz => hs z (List.mem_cons_of_mem _ hz)) hj fun rs g' ha hj' => h _ _ (.cons hr ha) hj') fun _ _ _ k => k
/-! rows of numbers one behind the other -/
def iv (l n : Int) : List Int := (List.range (n - l).toNat).map fun i : Nat => l + (i : Int)
theorem iv_rng {l n : Int} : rngD l (n - l).toNat = (iv l n).map D.int := by
  unfold rngD iv
  rw [List.map_map]
  rfl
theorem iv_rng0 {n : Int} : rngD 0 n.toNat = (iv 0 n).map D.int := by rw [← iv_rng, Int.sub_zero]
theorem iv_mem {l n t : Int} : t ∈ iv l n ↔ l ≤ t ∧ t < n := by
  unfold iv
  rw [List.mem_map]
  constructor
  · rintro ⟨i, hi, rfl⟩
    have := List.mem_range.mp hi
    omega
  · rintro ⟨h1, h2⟩
    exact ⟨(t - l).toNat, List.mem_range.mpr (by omega), by omega⟩
theorem iv_len {l n : Int} : (iv l n).length = (n - l).toNat := by unfold iv; simp
theorem iv_pw (l n : Int) : (iv l n).Pairwise (· < ·) := by
  unfold iv
  rw [List.pairwise_map]
  exact List.pairwise_lt_range.imp fun h => by omega
theorem iv_at {l n t : Int} (h : l ≤ t ∧ t < n) : (iv l n)[(t - l).toNat]? = some t := by
  unfold iv
  rw [List.getElem?_map, List.getElem?_range (by omega)]
  show some (l + (((t - l).toNat : Nat) : Int)) = _
  congr 1
  omega
theorem iv_at0 {n t : Int} (h : 0 ≤ t ∧ t < n) : (iv 0 n)[t.toNat]? = some t := by have := iv_at h; rwa [Int.sub_zero] at this
theorem iv_nil {l n : Int} (h : n ≤ l) : iv l n = [] := by unfold iv; rw [show (n - l).toNat = 0 by omega]; rfl
theorem iv_cons {l n : Int} (h : l < n) : iv l n = l :: iv (l + 1) n := by
  unfold iv
  rw [show (n - l).toNat = (n - (l + 1)).toNat + 1 by omega, List.range_succ_eq_map, List.map_cons, List.map_map]
  congr 1
  · omega
  · exact List.map_congr_left fun i _ => by show l + ((i + 1 : Nat) : Int) = _; omega
theorem iv_app {l m n : Int} (h1 : l ≤ m) (h2 : m ≤ n) : iv l n = iv l m ++ iv m n := by
  unfold iv
  rw [show (n - l).toNat = (m - l).toNat + (n - m).toNat by omega, List.range_add, List.map_append, List.map_map]
  congr 1
  exact List.map_congr_left fun i _ => by show l + (((m - l).toNat + i : Nat) : Int) = _; omega
theorem iv_snoc {l n : Int} (h : l ≤ n) : iv l (n + 1) = iv l n ++ [n] := by
  rw [iv_app (m := n) h (by omega), iv_cons (l := n) (n := n + 1) (by omega), iv_nil (l := n + 1) (n := n + 1) (by omega)]
/-- rows that rise, of the same numbers, are one -/
theorem pw_eq {xs ys : List Int} (h1 : xs.Pairwise (· < ·)) (h2 : ys.Pairwise (· < ·)) (h : ∀ t, t ∈ xs ↔ t ∈ ys) : xs = ys := by
  have n1 : xs.Nodup := h1.imp fun q => by omega
  have n2 : ys.Nodup := h2.imp fun q => by omega
  have p : xs.Perm ys := (List.perm_ext_iff_of_nodup n1 n2).mpr h
  exact List.Perm.eq_of_pairwise (le := (· < ·)) (fun a b _ _ q1 q2 => absurd q1 (by omega)) h1 h2 p
theorem iv_filter {a b l n : Int} {p : Int → Bool} (h : ∀ t, a ≤ t → t < b → (p t = true ↔ l ≤ t ∧ t < n)) (h1 : a ≤ l) (h2 : n ≤ b) : (iv a b).filter p = iv l n := by
  refine pw_eq ((iv_pw a b).filter _) (iv_pw l n) fun t => ?_
  rw [List.mem_filter, iv_mem, iv_mem]
  constructor
  · rintro ⟨⟨q1, q2⟩, q3⟩
    exact (h t q1 q2).mp q3
  · rintro ⟨q1, q2⟩
    exact ⟨⟨by omega, by omega⟩, (h t (by omega) (by omega)).mpr ⟨q1, q2⟩⟩
theorem cut_dropI (ds : List D) (i : Int) (h : 0 ≤ i) (h2 : i ≤ ds.length) : cutD ds (some i) none = ds.drop i.toNat := by
  obtain ⟨n, rfl⟩ : ∃ n : Nat, i = (n : Int) := ⟨i.toNat, by omega⟩
  unfold cutD
  rw [HT.sIx_none, HT.sIx_nat, Int.toNat_natCast, Nat.min_eq_left (by omega)]
  rw [List.take_of_length_le (by rw [List.length_drop]; omega)]
theorem enum_map {α : Type} {e : α → D} : ∀ {L : List α} {n : Nat}, enumD n (L.map e) = (L.zipIdx n).map fun p => .tup [.int (p.2 : Int), e p.1]
  | [], _ => rfl
  | x :: L, n => by
    rw [List.map_cons, List.zipIdx_cons, List.map_cons, ← enum_map (L := L) (n := n + 1)]
    rfl
theorem zip_fst {α β : Type} {f : α → β} : ∀ {L : List α} {n : Nat}, ((L.zipIdx n).map fun p => f p.1) = L.map f
  | [], _ => rfl
  | x :: L, n => by rw [List.zipIdx_cons, List.map_cons, zip_fst, List.map_cons]
/-! several clauses -/
@[irreducible] def WHd (T : Tab) (hs : Cms) (c : Nat) (fs : List D) (ρ : Env) (g : G) (N : Env → G → Prop) (R : D → G → Prop) (X : Nat → List D → Env → G → Prop) : Prop := WR (hndl T.sub (evH T hs) c fs ρ g) N R X
section
variable {T : Tab} {ρ : Env} {g : G} {N : Env → G → Prop} {R : D → G → Prop} {XS : Nat → List D → Env → G → Prop} {b s hs r : Cms} {c j i : Nat} {fs : List D}
theorem zws_tryM (h : WB T b ρ g N R (fun c fs ρ1 g1 => WHd T hs c fs ρ1 g1 N R XS)) : WS T (.tryM b hs) ρ g N R XS := by
  simp only [WB, WS, WHd] at *
  rw [evS]
  unfold tryEach
  unfold WR at h ⊢
  cases q : evB T b ρ g with
  | nx ρ1 g1 => rw [q] at h; exact h
  | rt d g1 => rw [q] at h; exact h
  | stuck => rw [q] at h; exact h
  | er c fs ρ1 g1 => rw [q] at h; exact h
theorem zwh_nil (h : XS c fs ρ g) : WHd T .nil c fs ρ g N R XS := by
  simp only [WHd]
  rw [evH]
  exact h
theorem zwh_yes (e : T.sub c j = some true) (h : EnvIs ((clr ρ).set i (.ex c fs)) fun ρ' => WB T s ρ' g (fun ρ2 g2 => EnvIs (clr (ρ2.set i .no)) fun ρ' => N ρ' g2) R fun _ _ _ _ => False) : WHd T (.cons (.hd j i s) r) c fs ρ g N R XS := by
  simp only [WB, EnvIs, WHd] at *
  rw [evH]
  unfold hdJI
  rw [evS]
  unfold hndl
  rw [e]
  dsimp only
  unfold WR at h ⊢
  cases q2 : evB T s ((clr ρ).set i (.ex c fs)) g with
  | nx ρ2 g2 => rw [q2] at h; exact h
  | rt d g2 => rw [q2] at h; exact h
  | er _ _ _ _ => rw [q2] at h; exact h.elim
  | stuck => rw [q2] at h; exact h.elim
theorem zwh_no (e : T.sub c j = some false) (h : WHd T r c fs ρ g N R XS) : WHd T (.cons (.hd j i s) r) c fs ρ g N R XS := by
  simp only [WHd] at *
  rw [evH]
  unfold hdJI
  unfold hndl
  rw [e]
  exact h
end
end DS

set_option Elab.async false
set_option linter.all false
set_option maxRecDepth 100000
set_option maxHeartbeats 4000000
/-! DS: own lists written at a place; ends of rows; slices -/
namespace DS
open PySem L2
section
variable {T : Tab} {ρ : Env} {g : G} {N : Env → G → Prop} {R : D → G → Prop} {XS : Nat → List D → Env → G → Prop} {a ix : Ex}
theorem zws_at {i : Nat} {ds : List D} (hr : ρ[i]? = some (.ol ds)) (h : WE T a ρ g (fun d g1 => WE T ix ρ g1 (fun y g2 => ∃ k j, y = .int k ∧ ixN ds.length k = some j ∧ EnvIs (ρ.set i (.ol (ds.set j d))) fun ρ' => N ρ' g2) fun c fs g1 => XS c fs ρ g1) fun c fs g1 => XS c fs ρ g1) : WS T (.setAt i ix a) ρ g N R XS := by
  simp only [WE, WS, EnvIs] at *
  rw [evS]
  refine wr_bind (wm_mono h (fun d g1 h => ?_) fun _ _ _ k => k)
  have e1 : own1 ρ i = some () := by unfold own1; rw [hr]
  rw [e1]
  show WR (bindS (evE T ix ρ) ρ (fun ix => DS.setAt i ρ d ix) g1) N R XS
  refine wr_bind (wm_mono h (fun y g2 h => ?_) fun _ _ _ k => k)
  obtain ⟨k, j, rfl, q, h⟩ := h
  unfold DS.setAt
  rw [hr]
  dsimp only
  rw [q]
  exact h
end
theorem at_end {ds : List D} {d : D} {k : Int} {K : Nat → Prop} (hk : k = -1) (h : K ds.length) : ∃ k' j, D.int k = .int k' ∧ ixN (ds ++ [d]).length k' = some j ∧ K j := by
  subst hk
  refine ⟨-1, ds.length, rfl, ?_, h⟩
  unfold ixN
  rw [if_neg (by omega), if_pos (by simp; omega), List.length_append, List.length_singleton]
  congr 1
  omega
theorem set_end {ds : List D} {d e : D} : (ds ++ [d]).set ds.length e = ds ++ [e] := by
  rw [List.set_append_right _ _ (Nat.le_refl _), Nat.sub_self]
  rfl
theorem atI_zero {d : D} {ds : List D} : atI (d :: ds) 0 = some d := by simpa using at_map (L := d :: ds) (e := id) (i := 0) (by omega) rfl
theorem atI_last {L : List D} {d : D} : atI (L ++ [d]) (-1) = some d := by
  unfold atI
  have : ixN (L ++ [d]).length (-1) = some L.length := by
    unfold ixN
    simp
    try omega
  rw [this]
  simp
theorem at_map_last {α : Type} {e : α → D} {L : List α} {x : α} : atI ((L ++ [x]).map e) (-1) = some (e x) := by rw [List.map_append]; exact atI_last
theorem cut_mid (ds : List D) (a b : Int) (h0 : 0 ≤ a) (h1 : a ≤ ds.length) (h2 : 0 ≤ b) (h3 : b ≤ ds.length) : cutD ds (some a) (some b) = (ds.drop a.toNat).take (b.toNat - a.toNat) := by
  obtain ⟨n, rfl⟩ : ∃ n : Nat, a = (n : Int) := ⟨a.toNat, by omega⟩
  obtain ⟨m, rfl⟩ : ∃ n : Nat, b = (n : Int) := ⟨b.toNat, by omega⟩
  unfold cutD
  rw [HT.sIx_nat, HT.sIx_nat, Int.toNat_natCast, Int.toNat_natCast, Nat.min_eq_left (by omega), Nat.min_eq_left (by omega)]
theorem iv_drop {l n a : Int} (h1 : l ≤ a) (h2 : a ≤ n) : (iv l n).drop (a - l).toNat = iv a n := by
  rw [iv_app h1 h2, List.drop_append_of_le_length (by rw [iv_len]; omega), List.drop_of_length_le (by rw [iv_len]; omega), List.nil_append]
theorem iv_take {l n a : Int} (h1 : l ≤ a) (h2 : a ≤ n) : (iv l n).take (a - l).toNat = iv l a := by
  rw [iv_app h1 h2, List.take_append_of_le_length (by rw [iv_len]; omega), List.take_of_length_le (by rw [iv_len]; omega)]
/-- a slice of the values at 0 .. n -/
theorem cut_iv {f : Int → D} {n a b : Int} (h0 : 0 ≤ a) (h1 : a ≤ n) (h2 : 0 ≤ b) (h3 : b ≤ n) : cutD ((iv 0 n).map f) (some a) (some b) = (iv a b).map f := by
  have hl := iv_len (l := 0) (n := n)
  rw [cut_mid _ _ _ h0 (by rw [List.length_map]; omega) h2 (by rw [List.length_map]; omega), ← List.map_drop, ← List.map_take]
  congr 1
  have e1 := iv_drop (l := 0) (n := n) (a := a) h0 h1
  rw [Int.sub_zero] at e1
  rw [e1]
  by_cases h : a ≤ b
  · have := iv_take (l := a) (n := n) (a := b) h h3
    rw [← this]
    congr 1
    omega
  · rw [iv_nil (l := a) (n := b) (by omega), show b.toNat - a.toNat = 0 by omega, List.take_zero]
theorem srtR_of {α : Type} {r : α → List Int} {L : List α} (inj : ∀ x ∈ L, ∀ y ∈ L, r x = r y → x = y) (h : L.Pairwise fun a b => r a ≤ r b) : srtR r L = L := by
  have hp := srtR_perm r L
  refine List.Perm.eq_of_pairwise (le := fun a b => r a ≤ r b) (fun a b ha hb h1 h2 => inj a (hp.mem_iff.mp ha) b hb (List.le_antisymm h1 h2)) (srtR_pw r L) h hp
theorem ml_small {ds : List D} {d : D} {K : List D → Prop} (h : ds.length ≤ 1000) (k : K (ds ++ [d])) : ∃ r, mlS .app ds [d] = some r ∧ K r := ml_app (Nat.lt_of_le_of_lt h (by rw [sizeLine_eq]; omega)) k
end DS

namespace Law
open PySem L2 PyProof.Rows DS
def top (i : Nat) : Stmt := PySem.Challenge.pw_balloontold_k20_whole_clouds.main.body.getD i (.Pass ⟨0, 0, 0, 0⟩)
/-- is_whole -/
def n0 : List Str := ["value"]
def b0 : Cms := (.cons (.ret (.and (.bi .isinst (.cons (.v 0) (.cons (.ty "int") .nil))) (.one (.not (.bi .isinst (.cons (.v 0) (.cons (.ty "bool") .nil))))))) .nil)
/-- is_number -/
def n1 : List Str := ["value", "least", "most"]
def b1 : Cms := (.cons (.ret (.and (.call 0 (.cons (.v 0) .nil)) (.one (.chain .LtE .LtE (.v 1) (.v 0) (.v 2))))) .nil)
/-- is_row -/
def n2 : List Str := ["value"]
def b2 : Cms := (.cons (.ret (.isT (.v 0) (.cons (.ty "list") (.cons (.ty "tuple") .nil)))) .nil)
/-- frozen -/
def n3 : List Str := ["value", "part"]
def b3 : Cms := (.cons (.ife (.isT (.v 0) (.cons (.ty "list") (.cons (.ty "tuple") .nil))) (.cons (.ret (.bi .tuple (.cons (.ow (.lc (.call 3 (.cons (.v 1) .nil)) (.one 1) (.any (.v 0)) .no)) .nil))) .nil) .nil) (.cons (.ret (.v 0)) .nil))
/-- want_number -/
def n4 : List Str := ["value", "least", "most"]
def b4 : Cms := (.cons (.ife (.not (.call 1 (.cons (.v 0) (.cons (.v 1) (.cons (.v 2) .nil))))) (.cons (.raise 0 (.cons (.v 0) .nil)) .nil) .nil) (.cons (.ret (.v 0)) .nil))
/-- want_row -/
def n5 : List Str := ["value", "is_item", "most", "index", "item"]
def b5_L0 : Cms := (.cons (.ife (.not (.callv 1 (.cons (.v 4) .nil))) (.cons (.raise 1 (.cons (.v 3) .nil)) .nil) .nil) .nil)
def b5_3 : Cms := (.cons (.ret (.call 3 (.cons (.v 0) .nil))) .nil)
def b5_2 : Cms := (.cons (.ife (.cmp .Gt (.bi .len (.cons (.v 0) .nil)) (.v 2)) (.cons (.raise 2 (.cons (.v 2) .nil)) .nil) .nil) b5_3)
def b5_1 : Cms := (.cons (.for (.many [3, 4]) (.enum (.v 0)) b5_L0) b5_2)
def b5 : Cms := (.cons (.ife (.not (.call 2 (.cons (.v 0) .nil))) (.cons (.raise 1 (.cons .non .nil)) .nil) .nil) b5_1)
/-- is_layer -/
def n6 : List Str := ["value"]
def b6 : Cms := (.cons (.ife (.or (.not (.call 2 (.cons (.v 0) .nil))) (.or (.cmp .NotEq (.bi .len (.cons (.v 0) .nil)) (.int 3)) (.one (.not (.call 1 (.cons (.ix (.v 0) (.int 0)) (.cons (.int 0) (.cons (.bin .sub (.gv 0) (.int 1)) .nil)))))))) (.cons (.ret (.bl false)) .nil) .nil) (.cons (.ret (.and (.call 1 (.cons (.ix (.v 0) (.int 1)) (.cons (.bin .add (.ix (.v 0) (.int 0)) (.int 1)) (.cons (.gv 0) .nil)))) (.one (.call 1 (.cons (.ix (.v 0) (.int 2)) (.cons (.int 0) (.cons (.int 8) .nil))))))) .nil))
/-- Sky.__init__ -/
def n7 : List Str := ["self", "layers"]
def b7 : Cms := (.cons (.setF 0 "layers" (.bi .tuple (.cons (.ow (.bl .sorted (.cons (.call 5 (.cons (.v 1) (.cons (.gf 6) (.cons (.gv 1) .nil)))) .nil))) .nil))) .nil)
/-- Sky.__eq__ -/
def n8 : List Str := ["self", "other"]
def b8 : Cms := (.cons (.ret (.and (.isC (.v 1) 3) (.one (.eqI false (.fld (.v 0) "layers") (.fld (.v 1) "layers"))))) .nil)
/-- Sky.at -/
def n9 : List Str := ["self", "height", "base", "top", "eighths"]
def b9 : Cms := (.cons (.expr (.call 4 (.cons (.v 1) (.cons (.int 0) (.cons (.bin .sub (.gv 0) (.int 1)) .nil))))) (.cons (.ret (.bi .max (.cons (.bin .add (.ow (.lst (.cons (.int 0) .nil))) (.ow (.lc (.v 4) (.many [2, 3, 4]) (.any (.fld (.v 0) "layers")) (.ex (.chain .LtE .Lt (.v 2) (.v 1) (.v 3)))))) .nil))) .nil))
/-- Sky.profile -/
def n10 : List Str := ["self", "found", "height", "told"]
def b10_L0 : Cms := (.cons (.set 3 (.meth (.v 0) "at" (.cons (.v 2) .nil))) (.cons (.ife (.cmp .Gt (.v 3) (.int 0)) (.cons (.ife (.and (.cmp .Gt (.bi .len (.cons (.o 1) .nil)) (.int 0)) (.and (.cmp .Eq (.ix (.ix (.o 1) (.neg (.int 1))) (.int 1)) (.v 2)) (.one (.cmp .Eq (.ix (.ix (.o 1) (.neg (.int 1))) (.int 2)) (.v 3))))) (.cons (.setAt 1 (.neg (.int 1)) (.tup (.cons (.ix (.ix (.o 1) (.neg (.int 1))) (.int 0)) (.cons (.bin .add (.v 2) (.int 1)) (.cons (.v 3) .nil))))) .nil) (.cons (.mtL .app 1 (.cons (.tup (.cons (.v 2) (.cons (.bin .add (.v 2) (.int 1)) (.cons (.v 3) .nil)))) .nil)) .nil)) .nil) .nil) .nil))
def b10 : Cms := (.cons (.setL 1 (.lst .nil)) (.cons (.for (.one 2) (.rg (.r1 (.gv 0))) b10_L0) (.cons (.ret (.bi .tuple (.cons (.o 1) .nil))) .nil)))
/-- Sky.ceiling -/
def n11 : List Str := ["self", "rows", "height"]
def b11 : Cms := (.cons (.setW 1 (.lc (.v 2) (.one 2) (.rg (.r1 (.gv 0))) (.ex (.cmp .GtE (.meth (.v 0) "at" (.cons (.v 2) .nil)) (.int 5))))) (.cons (.ret (.ite (.cmp .Gt (.bi .len (.cons (.v 1) .nil)) (.int 0)) (.ix (.v 1) (.int 0)) .non)) .nil))
/-- Sky.clear -/
def n12 : List Str := ["self", "first", "last", "height"]
def b12 : Cms := (.cons (.ret (.bi .all (.cons (.ow (.lc (.cmp .Eq (.meth (.v 0) "at" (.cons (.v 3) .nil)) (.int 0)) (.one 3) (.rg (.r2 (.v 1) (.v 2))) .no)) .nil))) .nil)
/-- Sky.sees -/
def n13 : List Str := ["self", "first", "last", "most", "low", "high", "height"]
def b13 : Cms := (.cons (.par 4 5 (.cons (.bi .min (.cons (.v 1) (.cons (.v 2) .nil))) (.cons (.bi .max (.cons (.v 1) (.cons (.v 2) .nil))) .nil))) (.cons (.ret (.bi .all (.cons (.ow (.lc (.cmp .LtE (.meth (.v 0) "at" (.cons (.v 6) .nil)) (.v 3)) (.one 6) (.rg (.r2 (.v 4) (.v 5))) .no)) .nil))) .nil))
/-- Sky.thickest -/
def n14 : List Str := ["self", "height", "best", "begin"]
def b14_L0 : Cms := (.cons (.ife (.and (.cmp .Lt (.v 1) (.gv 0)) (.one (.cmp .Gt (.meth (.v 0) "at" (.cons (.v 1) .nil)) (.int 0)))) (.cons (.set 3 (.ite (.cmp .Is (.v 3) .non) (.v 1) (.v 3))) .nil) (.cons (.ife (.and (.cmp .IsNot (.v 3) .non) (.one (.cmp .Gt (.bin .sub (.v 1) (.v 3)) (.ix (.v 2) (.int 0))))) (.cons (.set 2 (.tup (.cons (.bin .sub (.v 1) (.v 3)) (.cons (.v 3) .nil)))) .nil) .nil) (.cons (.set 3 .non) .nil))) .nil)
def b14 : Cms := (.cons (.asg (.many [2, 3]) (.tup (.cons (.tup (.cons (.int 0) (.cons .non .nil))) (.cons .non .nil)))) (.cons (.for (.one 1) (.rg (.r1 (.bin .add (.gv 0) (.int 1)))) b14_L0) (.cons (.ret (.v 2)) .nil)))
/-- Sky.wet -/
def n15 : List Str := ["self", "height"]
def b15 : Cms := (.cons (.ret (.bi .len (.cons (.ow (.lc (.v 1) (.one 1) (.rg (.r1 (.gv 0))) (.ex (.cmp .Gt (.meth (.v 0) "at" (.cons (.v 1) .nil)) (.int 0))))) .nil))) .nil)
/-- Sky.merged -/
def n16 : List Str := ["self", "other"]
def b16 : Cms := (.cons (.ret (.make 3 (.cons (.bin .add (.fld (.v 0) "layers") (.fld (.v 1) "layers")) .nil))) .nil)
/-- Sky.needless -/
def n17 : List Str := ["self", "found", "index", "layer"]
def b17_L0 : Cms := (.cons (.ife (.eqI false (.meth (.make 3 (.cons (.bin .add (.sl (.fld (.v 0) "layers") .no (.ex (.v 2))) (.sl (.fld (.v 0) "layers") (.ex (.bin .add (.v 2) (.int 1))) .no)) .nil)) "profile" .nil) (.meth (.v 0) "profile" .nil)) (.cons (.mtL .app 1 (.cons (.v 3) .nil)) .nil) .nil) .nil)
def b17 : Cms := (.cons (.setL 1 (.lst .nil)) (.cons (.for (.many [2, 3]) (.enum (.fld (.v 0) "layers")) b17_L0) (.cons (.ret (.bi .tuple (.cons (.o 1) .nil))) .nil)))
/-- Sky.plain -/
def n18 : List Str := ["self"]
def b18 : Cms := (.cons (.ret (.make 3 (.cons (.meth (.v 0) "profile" .nil) .nil))) .nil)
/-- Sky.lifted -/
def n19 : List Str := ["self", "heights", "rows", "base", "top", "eighths", "low", "high"]
def b19_L0 : Cms := (.cons (.par 6 7 (.cons (.bi .max (.cons (.int 0) (.cons (.bin .add (.v 3) (.v 1)) .nil))) (.cons (.bi .min (.cons (.gv 0) (.cons (.bin .add (.v 4) (.v 1)) .nil))) .nil))) (.cons (.ife (.cmp .Lt (.v 6) (.v 7)) (.cons (.mtL .app 2 (.cons (.tup (.cons (.v 6) (.cons (.v 7) (.cons (.v 5) .nil)))) .nil)) .nil) .nil) .nil))
def b19 : Cms := (.cons (.setL 2 (.lst .nil)) (.cons (.for (.many [3, 4, 5]) (.any (.fld (.v 0) "layers")) b19_L0) (.frz 2 (.cons (.ret (.make 3 (.cons (.v 2) .nil))) .nil))))
/-- from_wet -/
def n20 : List Str := ["readings", "least", "rows", "index", "eighths", "height"]
def b20_L0 : Cms := (.cons (.ife (.not (.call 1 (.cons (.v 4) (.cons (.int 0) (.cons (.int 8) .nil))))) (.cons (.raise 1 (.cons (.v 3) .nil)) .nil) .nil) .nil)
def b20_L1 : Cms := (.cons (.ife (.cmp .GtE (.v 4) (.v 1)) (.cons (.ife (.and (.cmp .Gt (.bi .len (.cons (.o 2) .nil)) (.int 0)) (.one (.cmp .Eq (.ix (.ix (.o 2) (.neg (.int 1))) (.int 1)) (.v 5)))) (.cons (.setAt 2 (.neg (.int 1)) (.tup (.cons (.ix (.ix (.o 2) (.neg (.int 1))) (.int 0)) (.cons (.bin .add (.v 5) (.int 1)) (.cons (.bi .max (.cons (.ix (.ix (.o 2) (.neg (.int 1))) (.int 2)) (.cons (.v 4) .nil))) .nil))))) .nil) (.cons (.mtL .app 2 (.cons (.tup (.cons (.v 5) (.cons (.bin .add (.v 5) (.int 1)) (.cons (.v 4) .nil)))) .nil)) .nil)) .nil) .nil) .nil)
def b20_5 : Cms := (.frz 2 (.cons (.ret (.make 3 (.cons (.v 2) .nil))) .nil))
def b20_4 : Cms := (.cons (.for (.many [5, 4]) (.enum (.v 0)) b20_L1) b20_5)
def b20_3 : Cms := (.cons (.setL 2 (.lst .nil)) b20_4)
def b20_2 : Cms := (.cons (.expr (.call 4 (.cons (.v 1) (.cons (.int 1) (.cons (.int 8) .nil))))) b20_3)
def b20_1 : Cms := (.cons (.for (.many [3, 4]) (.enum (.v 0)) b20_L0) b20_2)
def b20 : Cms := (.cons (.ife (.or (.not (.call 2 (.cons (.v 0) .nil))) (.one (.cmp .Gt (.bi .len (.cons (.v 0) .nil)) (.gv 0)))) (.cons (.raise 1 (.cons .non .nil)) .nil) .nil) b20_1)
/-- _law_taken -/
def n21 : List Str := ["row", "many", "cell", "found"]
def b21_6 : Cms := (.cons (.ret (.bin .mod (.bi .int (.cons (.v 2) .nil)) (.v 1))) .nil)
def b21_5 : Cms := (.cons (.ife (.cmp .GtE (.v 2) (.bin .pow (.int 10) (.int 18))) (.cons (.setAt 0 (.int 3) (.bin .fdiv (.v 2) (.v 1))) .nil) .nil) b21_6)
def b21_4 : Cms := (.cons (.setAt 0 (.int 2) (.bin .mod (.bi .int (.cons (.bin .add (.bin .add (.bin .mul (.ix (.v 0) (.int 2)) (.int 48271)) (.v 2)) (.int 11)) .nil)) (.int 2147483647))) b21_5)
def b21_3 : Cms := (.cons (.set 2 (.ix (.ix (.v 0) (.int 0)) (.bin .sub (.ix (.v 0) (.int 1)) (.int 1)))) b21_4)
def b21_2 : Cms := (.cons (.ife (.cmp .Gt (.ix (.v 0) (.int 1)) (.bi .len (.cons (.ix (.v 0) (.int 0)) .nil))) (.cons (.setAt 0 (.int 2) (.bin .mod (.bi .int (.cons (.bin .add (.bin .mul (.ix (.v 0) (.int 2)) (.int 48271)) (.int 11)) .nil)) (.int 2147483647))) (.cons (.ret (.bin .mod (.bi .int (.cons (.bin .fdiv (.ix (.v 0) (.int 2)) (.int 7)) .nil)) (.v 1))) .nil)) .nil) b21_3)
def b21_1 : Cms := (.cons (.setAt 0 (.int 1) (.bin .add (.ix (.v 0) (.int 1)) (.int 1))) b21_2)
def b21 : Cms := (.cons (.ife (.cmp .Gt (.ix (.v 0) (.int 3)) (.int 0)) (.cons (.set 3 (.bin .mod (.bi .int (.cons (.ix (.v 0) (.int 3)) .nil)) (.v 1))) (.cons (.setAt 0 (.int 3) (.bin .fdiv (.ix (.v 0) (.int 3)) (.v 1))) (.cons (.ret (.v 3)) .nil))) .nil) b21_1)
/-- _law_pick -/
def n22 : List Str := ["row", "kinds"]
def b22 : Cms := (.cons (.ret (.ix (.v 1) (.call 21 (.cons (.v 0) (.cons (.bi .len (.cons (.v 1) .nil)) .nil))))) .nil)
/-- _law_alike -/
def n23 : List Str := ["found", "due", "k"]
def b23 : Cms := (.cons (.ife (.isT (.v 1) (.cons (.ty "tuple") (.cons (.ty "list") .nil))) (.cons (.ife (.or (.not (.isT (.v 0) (.cons (.ty "tuple") (.cons (.ty "list") .nil)))) (.one (.cmp .NotEq (.bi .isinst (.cons (.v 0) (.cons (.ty "list") .nil))) (.bi .isinst (.cons (.v 1) (.cons (.ty "list") .nil)))))) (.cons (.ret (.bl false)) .nil) .nil) (.cons (.ife (.cmp .NotEq (.bi .len (.cons (.v 0) .nil)) (.bi .len (.cons (.v 1) .nil))) (.cons (.ret (.bl false)) .nil) .nil) (.cons (.ret (.cmp .Eq (.ow (.lc (.v 2) (.one 2) (.rg (.r1 (.bi .len (.cons (.v 1) .nil)))) (.ex (.not (.call 23 (.cons (.ix (.v 0) (.v 2)) (.cons (.ix (.v 1) (.v 2)) .nil))))))) (.ow (.lst .nil)))) .nil))) .nil) (.cons (.ife (.or (.cmp .Is (.v 1) .non) (.one (.bi .isinst (.cons (.v 1) (.cons (.ty "str") .nil))))) (.cons (.ret (.and (.eqI false (.v 0) (.v 1)) (.one (.cmp .Eq (.bi .isinst (.cons (.v 0) (.cons (.ty "str") .nil))) (.bi .isinst (.cons (.v 1) (.cons (.ty "str") .nil))))))) .nil) .nil) (.cons (.ret (.and (.bi .isinst (.cons (.v 0) (.cons (.ty "int") .nil))) (.and (.cmp .Eq (.bi .isinst (.cons (.v 0) (.cons (.ty "bool") .nil))) (.bi .isinst (.cons (.v 1) (.cons (.ty "bool") .nil)))) (.one (.eqI false (.v 0) (.v 1)))))) .nil)))
/-- _law_mixed -/
def n24 : List Str := ["row", "value"]
def b24 : Cms := (.cons (.ife (.cmp .Eq (.call 21 (.cons (.v 0) (.cons (.int 2) .nil))) (.int 0)) (.cons (.ret (.ow (.bl .list (.cons (.v 1) .nil)))) .nil) .nil) (.cons (.ret (.bi .tuple (.cons (.v 1) .nil))) .nil))
/-- _law_truth -/
def n25 : List Str := ["found", "due"]
def b25 : Cms := (.cons (.ret (.and (.bi .isinst (.cons (.v 0) (.cons (.ty "bool") .nil))) (.one (.eqI false (.v 0) (.v 1))))) .nil)
/-- _law_at -/
def n26 : List Str := ["layers", "height", "layer"]
def b26 : Cms := (.cons (.ret (.bi .max (.cons (.bin .add (.ow (.lst (.cons (.int 0) .nil))) (.ow (.lc (.ix (.v 2) (.int 2)) (.one 2) (.any (.v 0)) (.ex (.and (.cmp .LtE (.ix (.v 2) (.int 0)) (.v 1)) (.one (.cmp .Lt (.v 1) (.ix (.v 2) (.int 1))))))))) .nil))) .nil)
/-- _law_profile -/
def n27 : List Str := ["layers", "begin", "height", "told", "found"]
def b27_L0 : Cms := (.cons (.ife (.or (.cmp .NotEq (.ix (.v 3) (.v 2)) (.ix (.v 3) (.bin .sub (.v 2) (.int 1)))) (.one (.cmp .Eq (.v 2) (.int 60)))) (.cons (.set 4 (.bin .add (.v 4) (.bin .mul (.ow (.lst (.cons (.tup (.cons (.v 1) (.cons (.v 2) (.cons (.ix (.v 3) (.bin .sub (.v 2) (.int 1))) .nil)))) .nil))) (.bi .int (.cons (.cmp .Gt (.ix (.v 3) (.bin .sub (.v 2) (.int 1))) (.int 0)) .nil))))) (.cons (.set 1 (.v 2)) .nil)) .nil) .nil)
def b27_3 : Cms := (.cons (.ret (.v 4)) .nil)
def b27_2 : Cms := (.cons (.for (.one 2) (.rg (.r2 (.int 1) (.int 61))) b27_L0) b27_3)
def b27_1 : Cms := (.cons (.set 1 (.int 0)) b27_2)
def b27 : Cms := (.cons (.par 3 4 (.cons (.bin .add (.ow (.lc (.call 26 (.cons (.v 0) (.cons (.v 2) .nil))) (.one 2) (.rg (.r1 (.int 60))) .no)) (.ow (.lst (.cons (.int 0) .nil)))) (.cons (.ow (.lst .nil)) .nil))) b27_1)
/-- _law_refused -/
def n28 : List Str := ["row", "made", "layers", "value", "bad", "e", "due"]
def b28_L0 : Cms := (.cons (.try 0 5 (.cons (.expr (.meth (.v 1) "at" (.cons (.v 3) .nil))) (.cons (.ret (.bl false)) .nil)) (.cons (.ife (.cmp .NotEq (.bi .repr (.cons (.exf 5 "value") .nil)) (.bi .repr (.cons (.v 3) .nil))) (.cons (.ret (.bl false)) .nil) .nil) .nil)) .nil)
def b28_L1 : Cms := (.cons (.try 1 5 (.cons (.expr (.call 20 (.cons (.v 3) (.cons (.int 1) .nil)))) (.cons (.ret (.bl false)) .nil)) (.cons (.ife (.cmp .NotEq (.exf 5 "index") (.v 6)) (.cons (.ret (.bl false)) .nil) .nil) .nil)) .nil)
def b28_L2 : Cms := (.cons (.try 0 5 (.cons (.expr (.call 20 (.cons (.tup (.cons (.int 1) (.cons (.int 2) .nil))) (.cons (.v 3) .nil)))) (.cons (.ret (.bl false)) .nil)) (.cons (.ife (.cmp .NotEq (.bi .repr (.cons (.exf 5 "value") .nil)) (.bi .repr (.cons (.v 3) .nil))) (.cons (.ret (.bl false)) .nil) .nil) .nil)) .nil)
def b28_L3 : Cms := (.cons (.tryM (.cons (.expr (.make 3 (.cons (.v 3) .nil))) (.cons (.ret (.bl false)) .nil)) (.cons (.hd 1 5 (.cons (.ife (.cmp .NotEq (.tup (.cons (.str "item") (.cons (.exf 5 "index") .nil))) (.v 6)) (.cons (.ret (.bl false)) .nil) .nil) .nil)) (.cons (.hd 2 5 (.cons (.ife (.cmp .NotEq (.tup (.cons (.str "many") (.cons (.exf 5 "limit") .nil))) (.v 6)) (.cons (.ret (.bl false)) .nil) .nil) .nil)) .nil))) .nil)
def b28_5 : Cms := (.cons (.ret (.bl true)) .nil)
def b28_4 : Cms := (.cons (.for (.many [3, 6]) (.any (.ow (.lst (.cons (.tup (.cons (.bin .add (.v 2) (.tup (.cons (.v 4) .nil))) (.cons (.tup (.cons (.str "item") (.cons (.bi .len (.cons (.v 2) .nil)) .nil))) .nil))) (.cons (.tup (.cons .non (.cons (.tup (.cons (.str "item") (.cons .non .nil))) .nil))) (.cons (.tup (.cons (.bin .mul (.tup (.cons (.tup (.cons (.int 1) (.cons (.int 2) (.cons (.int 1) .nil)))) .nil)) (.int 9)) (.cons (.tup (.cons (.str "many") (.cons (.int 8) .nil))) .nil))) .nil)))))) b28_L3) b28_5)
def b28_3 : Cms := (.cons (.set 4 (.call 22 (.cons (.v 0) (.cons (.ow (.lst (.cons (.tup (.cons (.int 60) (.cons (.int 61) (.cons (.int 1) .nil)))) (.cons (.tup (.cons (.neg (.int 1)) (.cons (.int 1) (.cons (.int 1) .nil)))) (.cons (.tup (.cons (.int 5) (.cons (.int 5) (.cons (.int 1) .nil)))) (.cons (.tup (.cons (.int 5) (.cons (.int 61) (.cons (.int 1) .nil)))) (.cons (.tup (.cons (.int 5) (.cons (.int 6) (.cons (.int 9) .nil)))) (.cons (.tup (.cons (.int 5) (.cons (.int 6) .nil))) (.cons .non (.cons (.tup (.cons (.bl true) (.cons (.int 6) (.cons (.int 1) .nil)))) .nil)))))))))) .nil)))) b28_4)
def b28_2 : Cms := (.cons (.for (.one 3) (.any (.ow (.lst (.cons (.int 0) (.cons (.int 9) (.cons (.bl true) (.cons .non .nil))))))) b28_L2) b28_3)
def b28_1 : Cms := (.cons (.for (.many [3, 6]) (.any (.ow (.lst (.cons (.tup (.cons .non (.cons .non .nil))) (.cons (.tup (.cons (.bin .mul (.tup (.cons (.int 1) .nil)) (.int 61)) (.cons .non .nil))) (.cons (.tup (.cons (.tup (.cons (.int 1) (.cons (.int 9) .nil))) (.cons (.int 1) .nil))) (.cons (.tup (.cons (.tup (.cons (.neg (.int 1)) .nil)) (.cons (.int 0) .nil))) (.cons (.tup (.cons (.tup (.cons (.bl true) .nil)) (.cons (.int 0) .nil))) .nil)))))))) b28_L1) b28_2)
def b28 : Cms := (.cons (.for (.one 3) (.any (.ow (.lst (.cons (.neg (.int 1)) (.cons (.int 60) (.cons (.bl true) (.cons .non .nil))))))) b28_L0) b28_1)
/-- law -/
def n29 : List Str := [("script" : Str), ("row" : Str), ("drawn" : Str), ("k" : Str), ("layers" : Str), ("made" : Str), ("told" : Str), ("dark" : Str), ("between" : Str), ("height" : Str), ("thick" : Str), ("needless" : Str), ("profile" : Str), ("e" : Str), ("lifted" : Str), ("base" : Str), ("first" : Str), ("last" : Str), ("most" : Str), ("runs" : Str), ("here" : Str), ("by" : Str), ("other" : Str), ("readings" : Str), ("least" : Str), ("spans" : Str), ("top" : Str), ("eighths" : Str), ("layer" : Str), ("one" : Str)]
def b29_L0 : Cms := (.cons (.set 15 (.call 22 (.cons (.v 1) (.cons (.ow (.lst (.cons (.call 21 (.cons (.v 1) (.cons (.int 20) .nil))) (.cons (.call 21 (.cons (.v 1) (.cons (.int 60) .nil))) .nil)))) .nil)))) (.cons (.mtL .app 2 (.cons (.tup (.cons (.v 15) (.cons (.bin .add (.bin .add (.v 15) (.int 1)) (.call 21 (.cons (.v 1) (.cons (.bi .min (.cons (.int 15) (.cons (.bin .sub (.int 60) (.v 15)) .nil))) .nil)))) (.cons (.call 21 (.cons (.v 1) (.cons (.int 9) .nil))) .nil)))) .nil)) .nil))
def b29_L1 : Cms := (.cons (.ife (.and (.cmp .Lt (.v 9) (.int 60)) (.one (.cmp .Gt (.ix (.v 6) (.v 9)) (.int 0)))) (.cons (.set 20 (.bin .add (.v 20) (.int 1))) .nil) (.cons (.set 19 (.bin .add (.v 19) (.bin .mul (.ow (.lst (.cons (.tup (.cons (.neg (.v 20)) (.cons (.bin .sub (.v 9) (.v 20)) .nil))) .nil))) (.bi .int (.cons (.cmp .Gt (.v 20) (.int 0)) .nil))))) (.cons (.set 20 (.int 0)) .nil))) .nil)
def b29_L2 : Cms := (.cons (.ife (.and (.cmp .Lt (.v 9) (.bi .len (.cons (.v 23) .nil))) (.one (.cmp .GtE (.ix (.v 23) (.v 9)) (.v 24)))) (.cons (.set 20 (.bin .add (.v 20) (.ow (.lst (.cons (.ix (.v 23) (.v 9)) .nil))))) .nil) (.cons (.set 25 (.bin .add (.v 25) (.bin .mul (.ow (.lst (.cons (.tup (.cons (.bin .sub (.v 9) (.bi .len (.cons (.v 20) .nil))) (.cons (.v 9) (.cons (.bi .max (.cons (.bin .add (.v 20) (.ow (.lst (.cons (.int 0) .nil)))) .nil)) .nil)))) .nil))) (.bi .int (.cons (.cmp .NotEq (.v 20) (.ow (.lst .nil))) .nil))))) (.cons (.setW 20 (.lst .nil)) .nil))) .nil)
@[irreducible] def b29_28 : Cms := (.cons (.ret (.call 28 (.cons (.v 1) (.cons (.v 5) (.cons (.v 4) .nil))))) .nil)
@[irreducible] def b29_27 : Cms := (.cons (.ife (.eqI true (.call 20 (.cons (.call 24 (.cons (.v 1) (.cons (.v 23) .nil))) (.cons (.v 24) .nil))) (.make 3 (.cons (.v 25) .nil))) (.cons (.ret (.bl false)) .nil) .nil) b29_28)
@[irreducible] def b29_26 : Cms := (.cons (.for (.one 9) (.rg (.r1 (.bin .add (.bi .len (.cons (.v 23) .nil)) (.int 1)))) b29_L2) b29_27)
@[irreducible] def b29_25 : Cms := (.cons (.par 25 20 (.cons (.ow (.lst .nil)) (.cons (.ow (.lst .nil)) .nil))) b29_26)
@[irreducible] def b29_24 : Cms := (.cons (.par 23 24 (.cons (.ow (.lc (.call 21 (.cons (.v 1) (.cons (.int 9) .nil))) (.one 3) (.rg (.r1 (.call 21 (.cons (.v 1) (.cons (.int 14) .nil))))) .no)) (.cons (.bin .add (.int 1) (.call 21 (.cons (.v 1) (.cons (.int 8) .nil)))) .nil))) b29_25)
@[irreducible] def b29_23 : Cms := (.cons (.ife (.or (.eqI true (.meth (.v 5) "lifted" (.cons (.v 21) .nil)) (.make 3 (.cons (.v 14) .nil))) (.one (.eqI true (.meth (.v 5) "merged" (.cons (.v 22) .nil)) (.make 3 (.cons (.bin .add (.v 4) (.sl (.v 4) .no (.ex (.int 2)))) .nil))))) (.cons (.ret (.bl false)) .nil) .nil) b29_24)
@[irreducible] def b29_22 : Cms := (.cons (.setW 14 (.lc (.tup (.cons (.bi .max (.cons (.int 0) (.cons (.bin .add (.v 15) (.v 21)) .nil))) (.cons (.bi .min (.cons (.int 60) (.cons (.bin .add (.v 26) (.v 21)) .nil))) (.cons (.v 27) .nil)))) (.many [15, 26, 27]) (.any (.v 4)) (.ex (.and (.cmp .Lt (.bin .add (.v 15) (.v 21)) (.int 60)) (.one (.cmp .Gt (.bin .add (.v 26) (.v 21)) (.int 0))))))) b29_23)
@[irreducible] def b29_21 : Cms := (.cons (.asg (.many [21, 22]) (.tup (.cons (.bin .sub (.call 21 (.cons (.v 1) (.cons (.int 50) .nil))) (.int 25)) (.cons (.make 3 (.cons (.sl (.v 4) .no (.ex (.int 2))) .nil)) .nil)))) b29_22)
@[irreducible] def b29_20 : Cms := (.cons (.try 2 13 (.cons (.ife (.or (.eqI true (.meth (.v 5) "plain" .nil) (.make 3 (.cons (.v 12) .nil))) (.or (.eqI true (.meth (.meth (.v 5) "plain" .nil) "profile" .nil) (.meth (.v 5) "profile" .nil)) (.one (.cmp .Gt (.bi .len (.cons (.v 12) .nil)) (.int 8))))) (.cons (.ret (.bl false)) .nil) .nil) .nil) (.cons (.ife (.or (.cmp .LtE (.bi .len (.cons (.v 12) .nil)) (.int 8)) (.one (.cmp .NotEq (.exf 13 "limit") (.int 8)))) (.cons (.ret (.bl false)) .nil) .nil) .nil)) b29_21)
@[irreducible] def b29_19 : Cms := (.cons (.set 12 (.call 27 (.cons (.v 4) .nil))) b29_20)
@[irreducible] def b29_18 : Cms := (.cons (.ife (.not (.call 23 (.cons (.meth (.v 5) "needless" .nil) (.cons (.bi .tuple (.cons (.v 11) .nil)) .nil)))) (.cons (.ret (.bl false)) .nil) .nil) b29_19)
@[irreducible] def b29_17 : Cms := (.cons (.setW 11 (.lc (.ix (.v 4) (.v 3)) (.one 3) (.rg (.r1 (.bi .len (.cons (.v 4) .nil)))) (.ex (.eqI false (.call 27 (.cons (.bin .add (.sl (.v 4) .no (.ex (.v 3))) (.sl (.v 4) (.ex (.bin .add (.v 3) (.int 1))) .no)) .nil)) (.call 27 (.cons (.v 4) .nil)))))) b29_18)
@[irreducible] def b29_16 : Cms := (.cons (.ife (.or (.eqI true (.meth (.v 5) "thickest" .nil) (.v 10)) (.one (.not (.call 23 (.cons (.meth (.v 5) "wet" .nil) (.cons (.bi .len (.cons (.ow (.lc (.v 29) (.one 29) (.any (.v 6)) (.ex (.cmp .Gt (.v 29) (.int 0))))) .nil)) .nil)))))) (.cons (.ret (.bl false)) .nil) .nil) b29_17)
@[irreducible] def b29_15 : Cms := (.cons (.ife (.cmp .NotEq (.v 19) (.ow (.lst .nil))) (.cons (.set 10 (.tup (.cons (.neg (.ix (.bi .min (.cons (.v 19) .nil)) (.int 0))) (.cons (.ix (.bi .min (.cons (.v 19) .nil)) (.int 1)) .nil)))) .nil) .nil) b29_16)
@[irreducible] def b29_14 : Cms := (.cons (.set 10 (.tup (.cons (.int 0) (.cons .non .nil)))) b29_15)
@[irreducible] def b29_13 : Cms := (.cons (.for (.one 9) (.rg (.r1 (.int 61))) b29_L1) b29_14)
@[irreducible] def b29_12 : Cms := (.cons (.par 19 20 (.cons (.ow (.lst .nil)) (.cons (.int 0) .nil))) b29_13)
@[irreducible] def b29_11 : Cms := (.cons (.ife (.not (.call 25 (.cons (.meth (.v 5) "sees" (.cons (.v 16) (.cons (.v 17) (.cons (.v 18) .nil)))) (.cons (.cmp .LtE (.bi .max (.cons (.bin .add (.ow (.lst (.cons (.int 0) .nil))) (.v 8)) .nil)) (.v 18)) .nil)))) (.cons (.ret (.bl false)) .nil) .nil) b29_12)
@[irreducible] def b29_10 : Cms := (.cons (.ife (.or (.eqI true (.meth (.v 5) "ceiling" .nil) (.ix (.bin .add (.v 7) (.ow (.lst (.cons .non .nil)))) (.int 0))) (.one (.not (.call 25 (.cons (.meth (.v 5) "clear" (.cons (.v 16) (.cons (.v 17) .nil))) (.cons (.cmp .Eq (.bi .sum (.cons (.sl (.v 6) (.ex (.v 16)) (.ex (.v 17))) .nil)) (.int 0)) .nil)))))) (.cons (.ret (.bl false)) .nil) .nil) b29_11)
@[irreducible] def b29_9 : Cms := (.cons (.set 8 (.sl (.v 6) (.ex (.bi .min (.cons (.v 16) (.cons (.v 17) .nil)))) (.ex (.bi .max (.cons (.v 16) (.cons (.v 17) .nil)))))) b29_10)
@[irreducible] def b29_8 : Cms := (.cons (.par3 16 17 18 (.cons (.call 21 (.cons (.v 1) (.cons (.int 60) .nil))) (.cons (.call 21 (.cons (.v 1) (.cons (.int 60) .nil))) (.cons (.call 21 (.cons (.v 1) (.cons (.int 9) .nil))) .nil)))) b29_9)
@[irreducible] def b29_7 : Cms := (.cons (.setW 7 (.lc (.v 9) (.one 9) (.rg (.r1 (.int 60))) (.ex (.cmp .GtE (.ix (.v 6) (.v 9)) (.int 5))))) b29_8)
@[irreducible] def b29_6 : Cms := (.cons (.ife (.or (.cmp .NotEq (.ow (.lc (.v 9) (.one 9) (.rg (.r1 (.int 60))) (.ex (.eqI true (.meth (.v 5) "at" (.cons (.v 9) .nil)) (.ix (.v 6) (.v 9)))))) (.ow (.lst .nil))) (.one (.not (.call 23 (.cons (.meth (.v 5) "profile" .nil) (.cons (.bi .tuple (.cons (.call 27 (.cons (.v 4) .nil)) .nil)) .nil)))))) (.cons (.ret (.bl false)) .nil) .nil) b29_7)
@[irreducible] def b29_5 : Cms := (.cons (.setW 6 (.lc (.call 26 (.cons (.v 4) (.cons (.v 9) .nil))) (.one 9) (.rg (.r1 (.int 60))) .no)) b29_6)
@[irreducible] def b29_4 : Cms := (.cons (.ife (.or (.not (.call 23 (.cons (.fld (.v 5) "layers") (.cons (.v 4) .nil)))) (.or (.eqI true (.v 5) (.make 3 (.cons (.v 4) .nil))) (.one (.eqI false (.v 5) (.v 4))))) (.cons (.ret (.bl false)) .nil) .nil) b29_5)
@[irreducible] def b29_3 : Cms := (.cons (.set 5 (.make 3 (.cons (.call 24 (.cons (.v 1) (.cons (.ow (.lc (.call 24 (.cons (.v 1) (.cons (.v 28) .nil))) (.one 28) (.any (.o 2)) .no)) .nil))) .nil))) b29_4)
@[irreducible] def b29_2 : Cms := (.cons (.set 4 (.bi .tuple (.cons (.ow (.bl .sorted (.cons (.o 2) .nil))) .nil))) b29_3)
@[irreducible] def b29_1 : Cms := (.cons (.for (.one 3) (.rg (.r1 (.call 21 (.cons (.v 1) (.cons (.int 6) .nil))))) b29_L0) b29_2)
def b29 : Cms := (.cons (.setL 2 (.lst .nil)) b29_1)
def gm : List (Str × Gk) := [(("BadItem" : Str), (.er 1 : Gk)), (("BadNumber" : Str), (.er 0 : Gk)), (("HIGHEST" : Str), (.con 0 : Gk)), (("MOST_LAYERS" : Str), (.con 1 : Gk)), (("Sky" : Str), (.cl 3 : Gk)), (("TooMany" : Str), (.er 2 : Gk)), (("_law_alike" : Str), (.fn 23 : Gk)), (("_law_at" : Str), (.fn 26 : Gk)), (("_law_mixed" : Str), (.fn 24 : Gk)), (("_law_pick" : Str), (.fn 22 : Gk)), (("_law_profile" : Str), (.fn 27 : Gk)), (("_law_refused" : Str), (.fn 28 : Gk)), (("_law_taken" : Str), (.fn 21 : Gk)), (("_law_truth" : Str), (.fn 25 : Gk)), (("all" : Str), (.non : Gk)), (("bool" : Str), (.non : Gk)), (("enumerate" : Str), (.non : Gk)), (("from_wet" : Str), (.fn 20 : Gk)), (("frozen" : Str), (.fn 3 : Gk)), (("int" : Str), (.non : Gk)), (("is_layer" : Str), (.fn 6 : Gk)), (("is_number" : Str), (.fn 1 : Gk)), (("is_row" : Str), (.fn 2 : Gk)), (("is_whole" : Str), (.fn 0 : Gk)), (("isinstance" : Str), (.non : Gk)), (("len" : Str), (.non : Gk)), (("list" : Str), (.non : Gk)), (("max" : Str), (.non : Gk)), (("min" : Str), (.non : Gk)), (("range" : Str), (.non : Gk)), (("repr" : Str), (.non : Gk)), (("sorted" : Str), (.non : Gk)), (("str" : Str), (.non : Gk)), (("sum" : Str), (.non : Gk)), (("tuple" : Str), (.non : Gk)), (("want_number" : Str), (.fn 4 : Gk)), (("want_row" : Str), (.fn 5 : Gk))]
abbrev s0 : Stmt := top 6
theorem ok0 : okB { N := n0, sc := defScope s0, calm := true, gm := gm, asg := none } b0 (defBody s0) = true := by decide +kernel
theorem sc0 : FnScope n0 ["value"] (defScope s0) := ⟨rfl, rfl, rfl, by decide +kernel, rfl, by decide +kernel, by decide +kernel⟩
abbrev s1 : Stmt := top 7
theorem ok1 : okB { N := n1, sc := defScope s1, calm := true, gm := gm, asg := none } b1 (defBody s1) = true := by decide +kernel
theorem sc1 : FnScope n1 ["value", "least", "most"] (defScope s1) := ⟨rfl, rfl, rfl, by decide +kernel, rfl, by decide +kernel, by decide +kernel⟩
abbrev s2 : Stmt := top 8
theorem ok2 : okB { N := n2, sc := defScope s2, calm := true, gm := gm, asg := none } b2 (defBody s2) = true := by decide +kernel
theorem sc2 : FnScope n2 ["value"] (defScope s2) := ⟨rfl, rfl, rfl, by decide +kernel, rfl, by decide +kernel, by decide +kernel⟩
abbrev s3 : Stmt := top 9
theorem ok3 : okB { N := n3, sc := defScope s3, calm := true, gm := gm, asg := none } b3 (defBody s3) = true := by decide +kernel
theorem sc3 : FnScope n3 ["value"] (defScope s3) := ⟨rfl, rfl, rfl, by decide +kernel, rfl, by decide +kernel, by decide +kernel⟩
abbrev s4 : Stmt := top 10
theorem ok4 : okB { N := n4, sc := defScope s4, calm := true, gm := gm, asg := none } b4 (defBody s4) = true := by decide +kernel
theorem sc4 : FnScope n4 ["value", "least", "most"] (defScope s4) := ⟨rfl, rfl, rfl, by decide +kernel, rfl, by decide +kernel, by decide +kernel⟩
abbrev s5 : Stmt := top 11
theorem ok5 : okB { N := n5, sc := defScope s5, calm := true, gm := gm, asg := none } b5 (defBody s5) = true := by decide +kernel
theorem sc5 : FnScope n5 ["value", "is_item", "most"] (defScope s5) := ⟨rfl, rfl, rfl, by decide +kernel, rfl, by decide +kernel, by decide +kernel⟩
abbrev s6 : Stmt := top 15
theorem ok6 : okB { N := n6, sc := defScope s6, calm := true, gm := gm, asg := none } b6 (defBody s6) = true := by decide +kernel
theorem sc6 : FnScope n6 ["value"] (defScope s6) := ⟨rfl, rfl, rfl, by decide +kernel, rfl, by decide +kernel, by decide +kernel⟩
abbrev s7 : Stmt := inClass (top 16) 0
theorem ok7 : okB { N := n7, sc := defScope s7, calm := true, gm := gm, asg := none } b7 (defBody s7) = true := by decide +kernel
theorem sc7 : FnScope n7 ["self", "layers"] (defScope s7) := ⟨rfl, rfl, rfl, by decide +kernel, rfl, by decide +kernel, by decide +kernel⟩
abbrev s8 : Stmt := inClass (top 16) 1
theorem ok8 : okB { N := n8, sc := defScope s8, calm := true, gm := gm, asg := none } b8 (defBody s8) = true := by decide +kernel
theorem sc8 : FnScope n8 ["self", "other"] (defScope s8) := ⟨rfl, rfl, rfl, by decide +kernel, rfl, by decide +kernel, by decide +kernel⟩
abbrev s9 : Stmt := inClass (top 16) 2
theorem ok9 : okB { N := n9, sc := defScope s9, calm := true, gm := gm, asg := none } b9 (defBody s9) = true := by decide +kernel
theorem sc9 : FnScope n9 ["self", "height"] (defScope s9) := ⟨rfl, rfl, rfl, by decide +kernel, rfl, by decide +kernel, by decide +kernel⟩
abbrev s10 : Stmt := inClass (top 16) 3
theorem ok10 : okB { N := n10, sc := defScope s10, calm := true, gm := gm, asg := none } b10 (defBody s10) = true := by decide +kernel
theorem sc10 : FnScope n10 ["self"] (defScope s10) := ⟨rfl, rfl, rfl, by decide +kernel, rfl, by decide +kernel, by decide +kernel⟩
abbrev s11 : Stmt := inClass (top 16) 4
theorem ok11 : okB { N := n11, sc := defScope s11, calm := true, gm := gm, asg := none } b11 (defBody s11) = true := by decide +kernel
theorem sc11 : FnScope n11 ["self"] (defScope s11) := ⟨rfl, rfl, rfl, by decide +kernel, rfl, by decide +kernel, by decide +kernel⟩
abbrev s12 : Stmt := inClass (top 16) 5
theorem ok12 : okB { N := n12, sc := defScope s12, calm := true, gm := gm, asg := none } b12 (defBody s12) = true := by decide +kernel
theorem sc12 : FnScope n12 ["self", "first", "last"] (defScope s12) := ⟨rfl, rfl, rfl, by decide +kernel, rfl, by decide +kernel, by decide +kernel⟩
abbrev s13 : Stmt := inClass (top 16) 6
theorem ok13 : okB { N := n13, sc := defScope s13, calm := true, gm := gm, asg := none } b13 (defBody s13) = true := by decide +kernel
theorem sc13 : FnScope n13 ["self", "first", "last", "most"] (defScope s13) := ⟨rfl, rfl, rfl, by decide +kernel, rfl, by decide +kernel, by decide +kernel⟩
abbrev s14 : Stmt := inClass (top 16) 7
theorem ok14 : okB { N := n14, sc := defScope s14, calm := true, gm := gm, asg := none } b14 (defBody s14) = true := by decide +kernel
theorem sc14 : FnScope n14 ["self"] (defScope s14) := ⟨rfl, rfl, rfl, by decide +kernel, rfl, by decide +kernel, by decide +kernel⟩
abbrev s15 : Stmt := inClass (top 16) 8
theorem ok15 : okB { N := n15, sc := defScope s15, calm := true, gm := gm, asg := none } b15 (defBody s15) = true := by decide +kernel
theorem sc15 : FnScope n15 ["self"] (defScope s15) := ⟨rfl, rfl, rfl, by decide +kernel, rfl, by decide +kernel, by decide +kernel⟩
abbrev s16 : Stmt := inClass (top 16) 9
theorem ok16 : okB { N := n16, sc := defScope s16, calm := true, gm := gm, asg := none } b16 (defBody s16) = true := by decide +kernel
theorem sc16 : FnScope n16 ["self", "other"] (defScope s16) := ⟨rfl, rfl, rfl, by decide +kernel, rfl, by decide +kernel, by decide +kernel⟩
abbrev s17 : Stmt := inClass (top 16) 10
theorem ok17 : okB { N := n17, sc := defScope s17, calm := true, gm := gm, asg := none } b17 (defBody s17) = true := by decide +kernel
theorem sc17 : FnScope n17 ["self"] (defScope s17) := ⟨rfl, rfl, rfl, by decide +kernel, rfl, by decide +kernel, by decide +kernel⟩
abbrev s18 : Stmt := inClass (top 16) 11
theorem ok18 : okB { N := n18, sc := defScope s18, calm := true, gm := gm, asg := none } b18 (defBody s18) = true := by decide +kernel
theorem sc18 : FnScope n18 ["self"] (defScope s18) := ⟨rfl, rfl, rfl, by decide +kernel, rfl, by decide +kernel, by decide +kernel⟩
abbrev s19 : Stmt := inClass (top 16) 12
theorem ok19 : okB { N := n19, sc := defScope s19, calm := true, gm := gm, asg := none } b19 (defBody s19) = true := by decide +kernel
theorem sc19 : FnScope n19 ["self", "heights"] (defScope s19) := ⟨rfl, rfl, rfl, by decide +kernel, rfl, by decide +kernel, by decide +kernel⟩
abbrev s20 : Stmt := top 17
theorem ok20 : okB { N := n20, sc := defScope s20, calm := true, gm := gm, asg := none } b20 (defBody s20) = true := by decide +kernel
theorem sc20 : FnScope n20 ["readings", "least"] (defScope s20) := ⟨rfl, rfl, rfl, by decide +kernel, rfl, by decide +kernel, by decide +kernel⟩
abbrev s21 : Stmt := top 19
theorem ok21 : okB { N := n21, sc := defScope s21, calm := true, gm := gm, asg := none } b21 (defBody s21) = true := by decide +kernel
theorem sc21 : FnScope n21 ["row", "many"] (defScope s21) := ⟨rfl, rfl, rfl, by decide +kernel, rfl, by decide +kernel, by decide +kernel⟩
abbrev s22 : Stmt := top 20
theorem ok22 : okB { N := n22, sc := defScope s22, calm := true, gm := gm, asg := none } b22 (defBody s22) = true := by decide +kernel
theorem sc22 : FnScope n22 ["row", "kinds"] (defScope s22) := ⟨rfl, rfl, rfl, by decide +kernel, rfl, by decide +kernel, by decide +kernel⟩
abbrev s23 : Stmt := top 21
theorem ok23 : okB { N := n23, sc := defScope s23, calm := true, gm := gm, asg := none } b23 (defBody s23) = true := by decide +kernel
theorem sc23 : FnScope n23 ["found", "due"] (defScope s23) := ⟨rfl, rfl, rfl, by decide +kernel, rfl, by decide +kernel, by decide +kernel⟩
abbrev s24 : Stmt := top 22
theorem ok24 : okB { N := n24, sc := defScope s24, calm := true, gm := gm, asg := none } b24 (defBody s24) = true := by decide +kernel
theorem sc24 : FnScope n24 ["row", "value"] (defScope s24) := ⟨rfl, rfl, rfl, by decide +kernel, rfl, by decide +kernel, by decide +kernel⟩
abbrev s25 : Stmt := top 23
theorem ok25 : okB { N := n25, sc := defScope s25, calm := true, gm := gm, asg := none } b25 (defBody s25) = true := by decide +kernel
theorem sc25 : FnScope n25 ["found", "due"] (defScope s25) := ⟨rfl, rfl, rfl, by decide +kernel, rfl, by decide +kernel, by decide +kernel⟩
abbrev s26 : Stmt := top 24
theorem ok26 : okB { N := n26, sc := defScope s26, calm := true, gm := gm, asg := none } b26 (defBody s26) = true := by decide +kernel
theorem sc26 : FnScope n26 ["layers", "height"] (defScope s26) := ⟨rfl, rfl, rfl, by decide +kernel, rfl, by decide +kernel, by decide +kernel⟩
abbrev s27 : Stmt := top 25
theorem ok27 : okB { N := n27, sc := defScope s27, calm := true, gm := gm, asg := none } b27 (defBody s27) = true := by decide +kernel
theorem sc27 : FnScope n27 ["layers"] (defScope s27) := ⟨rfl, rfl, rfl, by decide +kernel, rfl, by decide +kernel, by decide +kernel⟩
abbrev s28 : Stmt := top 26
theorem ok28 : okB { N := n28, sc := defScope s28, calm := true, gm := gm, asg := none } b28 (defBody s28) = true := by decide +kernel
theorem sc28 : FnScope n28 ["row", "made", "layers"] (defScope s28) := ⟨rfl, rfl, rfl, by decide +kernel, rfl, by decide +kernel, by decide +kernel⟩
abbrev sLaw : Stmt := top 27
theorem okLaw : lawB { N := n29, sc := defScope sLaw, calm := true, gm := gm, asg := none } 61 b29 (defBody sLaw) = true := by decide +kernel
theorem scLaw : FnScope n29 ["script"] (defScope sLaw) := ⟨rfl, rfl, rfl, by decide +kernel, rfl, by decide +kernel, by decide +kernel⟩
def dfs : List Dfr := [(⟨n0, ["value"], b0, none⟩ : Dfr), (⟨n1, ["value", "least", "most"], b1, none⟩ : Dfr), (⟨n2, ["value"], b2, none⟩ : Dfr), (⟨n3, ["value"], b3, none⟩ : Dfr), (⟨n4, ["value", "least", "most"], b4, none⟩ : Dfr), (⟨n5, ["value", "is_item", "most"], b5, none⟩ : Dfr), (⟨n6, ["value"], b6, none⟩ : Dfr), (⟨n7, ["self", "layers"], b7, (some 3)⟩ : Dfr), (⟨n8, ["self", "other"], b8, none⟩ : Dfr), (⟨n9, ["self", "height"], b9, none⟩ : Dfr), (⟨n10, ["self"], b10, none⟩ : Dfr), (⟨n11, ["self"], b11, none⟩ : Dfr), (⟨n12, ["self", "first", "last"], b12, none⟩ : Dfr), (⟨n13, ["self", "first", "last", "most"], b13, none⟩ : Dfr), (⟨n14, ["self"], b14, none⟩ : Dfr), (⟨n15, ["self"], b15, none⟩ : Dfr), (⟨n16, ["self", "other"], b16, none⟩ : Dfr), (⟨n17, ["self"], b17, none⟩ : Dfr), (⟨n18, ["self"], b18, none⟩ : Dfr), (⟨n19, ["self", "heights"], b19, none⟩ : Dfr), (⟨n20, ["readings", "least"], b20, none⟩ : Dfr), (⟨n21, ["row", "many"], b21, none⟩ : Dfr), (⟨n22, ["row", "kinds"], b22, none⟩ : Dfr), (⟨n23, ["found", "due"], b23, none⟩ : Dfr), (⟨n24, ["row", "value"], b24, none⟩ : Dfr), (⟨n25, ["found", "due"], b25, none⟩ : Dfr), (⟨n26, ["layers", "height"], b26, none⟩ : Dfr), (⟨n27, ["layers"], b27, none⟩ : Dfr), (⟨n28, ["row", "made", "layers"], b28, none⟩ : Dfr)]
def fldL : List (Nat × Str) := [((3, "layers") : Nat × Str)]
def mtL : List (Nat × Str × Nat) := [((3, "__eq__", 8) : Nat × Str × Nat), ((3, "at", 9) : Nat × Str × Nat), ((3, "profile", 10) : Nat × Str × Nat), ((3, "ceiling", 11) : Nat × Str × Nat), ((3, "clear", 12) : Nat × Str × Nat), ((3, "sees", 13) : Nat × Str × Nat), ((3, "thickest", 14) : Nat × Str × Nat), ((3, "wet", 15) : Nat × Str × Nat), ((3, "merged", 16) : Nat × Str × Nat), ((3, "needless", 17) : Nat × Str × Nat), ((3, "plain", 18) : Nat × Str × Nat), ((3, "lifted", 19) : Nat × Str × Nat)]
def iniL : List (Nat × Nat) := [(3, 7)]
def clL : List Nat := [3]
def xnL : List (List Str) := [["index"], ["limit"], []]
def xn0 : List Str := ["value"]
def conL : List D := [(.int 60), (.int 8)]
def sta (ns : List Int) : Sta := { scr := ns, defs := dfs, ini := iniF iniL, mts := mtsF mtL, flds := fldF fldL, xn := fun c => (xn0 :: xnL).getD c xn0, sub := subF 3, con := fun k => conL.getD k .non, kit := kitF clL }
end Law

namespace Law
open PySem L2 PyProof.Rows DS
def cfg (K : PySem.W.Frag) (a0 : Addr) (cs : List Addr) (fs : List Addr) (f0 : Addr) (ns : List Int) (a R : Addr) : Cfg := { K := K, R := R, S := a, scr := ns, cad := fun i => (a0 :: cs).getD i a0, fad := fun i => fs.getD i f0, xn := fun c => (xn0 :: xnL).getD c xn0, flds := fldF fldL, mts := mtsF mtL, ini := iniF iniL, xa := none, sub := subF 3, kit := kitF clL }
theorem all_mk {P : Program} {w : World} {K : PySem.W.Frag} {h : Heap} {mg : Str → Option Value} {fa : Addr} (X : K.In h) (G : h.Ns mainGlobals mg) (hfa : mg "law" = some (.ref fa)) {good : List Int → Prop}
    {f0 f1 f2 f3 f4 f5 f6 f20 f21 f22 f23 f24 f25 f26 f27 f28 f29 c0 f7 f8 f9 f10 f11 f12 f13 f14 f15 f16 f17 f18 f19 e0 i0 cda0 cc0 e1 i1 cda1 cc1 e2 i2 cda2 cc2 : Addr} {oc0 kV0 dc0 pm0 cd0 ct0 oc1 kV1 dc1 pm1 cd1 ct1 oc2 kV2 dc2 pm2 cd2 ct2 oc3 kV3 dc3 pm3 cd3 ct3 oc4 kV4 dc4 pm4 cd4 ct4 oc5 kV5 dc5 pm5 cd5 ct5 oc6 kV6 dc6 pm6 cd6 ct6 oc20 kV20 dc20 pm20 cd20 ct20 oc21 kV21 dc21 pm21 cd21 ct21 oc22 kV22 dc22 pm22 cd22 ct22 oc23 kV23 dc23 pm23 cd23 ct23 oc24 kV24 dc24 pm24 cd24 ct24 oc25 kV25 dc25 pm25 cd25 ct25 oc26 kV26 dc26 pm26 cd26 ct26 oc27 kV27 dc27 pm27 cd27 ct27 oc28 kV28 dc28 pm28 cd28 ct28 oc29 kV29 dc29 pm29 cd29 ct29 oc7 kV7 dc7 pm7 cd7 ct7 oc8 kV8 dc8 pm8 cd8 ct8 oc9 kV9 dc9 pm9 cd9 ct9 oc10 kV10 dc10 pm10 cd10 ct10 oc11 kV11 dc11 pm11 cd11 ct11 oc12 kV12 dc12 pm12 cd12 ct12 oc13 kV13 dc13 pm13 cd13 ct13 oc14 kV14 dc14 pm14 cd14 ct14 oc15 kV15 dc15 pm15 cd15 ct15 oc16 kV16 dc16 pm16 cd16 ct16 oc17 kV17 dc17 pm17 cd17 ct17 oc18 kV18 dc18 pm18 cd18 ct18 oc19 kV19 dc19 pm19 cd19 ct19 : Value} {od0 an0 od1 an1 od2 an2 od3 an3 od4 an4 od5 an5 od6 an6 od20 an20 od21 an21 od22 an22 od23 an23 od24 an24 od25 an25 od26 an26 od27 an27 od28 an28 od29 an29 od7 an7 od8 an8 od9 an9 od10 an10 od11 an11 od12 an12 od13 an13 od14 an14 od15 an15 od16 an16 od17 an17 od18 an18 od19 an19 : Option Addr} {sl0 sl1 sl2 sl3 sl4 sl5 sl6 sl20 sl21 sl22 sl23 sl24 sl25 sl26 sl27 sl28 sl29 sl7 sl8 sl9 sl10 sl11 sl12 sl13 sl14 sl15 sl16 sl17 sl18 sl19 : Array (Option Value)} {tk_HIGHEST tk_MOST_LAYERS : Tok}
    {nm0 qn0 qu0 : Str} {N0 : Addr} {bs0 bm0 : List Value} {sn0 : List Str} {su0 : List Value} {ab0 : Bool} {col0 : Option Bool} {dd0 cdd0 cld0 eod0 ean0 : Option Addr} {m00 m10 m20 m30 m50 : Option Value} {eoc0 edc0 epm0 ect0 ccl0 clc0 : Value} {esl0 ccs0 csl0 : Array (Option Value)} {cvs0 : Array Value} {cfi0 : Str} {ctf0 : Tok} {r10 r20 p10 p20 p30 p40 p50 p60 p70 p80 p90 p100 : Pos}
    {nm1 qn1 qu1 : Str} {N1 : Addr} {bs1 bm1 : List Value} {sn1 : List Str} {su1 : List Value} {ab1 : Bool} {col1 : Option Bool} {dd1 cdd1 cld1 eod1 ean1 : Option Addr} {m01 m11 m21 m31 m51 : Option Value} {eoc1 edc1 epm1 ect1 ccl1 clc1 : Value} {esl1 ccs1 csl1 : Array (Option Value)} {cvs1 : Array Value} {cfi1 : Str} {ctf1 : Tok} {r11 r21 p11 p21 p31 p41 p51 p61 p71 p81 p91 p101 : Pos}
    {nm2 qn2 qu2 : Str} {N2 : Addr} {bs2 bm2 : List Value} {sn2 : List Str} {su2 : List Value} {ab2 : Bool} {col2 : Option Bool} {dd2 cdd2 cld2 eod2 ean2 : Option Addr} {m02 m12 m22 m32 m52 : Option Value} {eoc2 edc2 epm2 ect2 ccl2 clc2 : Value} {esl2 ccs2 csl2 : Array (Option Value)} {cvs2 : Array Value} {cfi2 : Str} {ctf2 : Tok} {r12 r22 p12 p22 p32 p42 p52 p62 p72 p82 p92 p102 : Pos}
    (hlaw : ∀ ns, good ns → ∃ g, evB (tabK (sta ns) 12) b29 (law0 n29) ⟨0, 61, 0⟩ = .rt (.bl true) g)
    (a0 : PySem.W.nsIn K mainGlobals "is_whole" = some (some (.ref f0)))
    (l0 : K.lookup f0 = some ⟨oc0, od0, .func (PySem.W.fnOf "is_whole" "is_whole" (defArgs s0) (defBody s0) (defScope s0) .none kV0 dc0 pm0 an0 cd0 ct0), sl0⟩)
    (cq0 : PySem.W.codeIn K cd0 "is_whole" = true)
    (k0 : PySem.W.keepIn K (.ref f0) = true)
    (a1 : PySem.W.nsIn K mainGlobals "is_number" = some (some (.ref f1)))
    (l1 : K.lookup f1 = some ⟨oc1, od1, .func (PySem.W.fnOf "is_number" "is_number" (defArgs s1) (defBody s1) (defScope s1) .none kV1 dc1 pm1 an1 cd1 ct1), sl1⟩)
    (cq1 : PySem.W.codeIn K cd1 "is_number" = true)
    (k1 : PySem.W.keepIn K (.ref f1) = true)
    (a2 : PySem.W.nsIn K mainGlobals "is_row" = some (some (.ref f2)))
    (l2 : K.lookup f2 = some ⟨oc2, od2, .func (PySem.W.fnOf "is_row" "is_row" (defArgs s2) (defBody s2) (defScope s2) .none kV2 dc2 pm2 an2 cd2 ct2), sl2⟩)
    (cq2 : PySem.W.codeIn K cd2 "is_row" = true)
    (k2 : PySem.W.keepIn K (.ref f2) = true)
    (a3 : PySem.W.nsIn K mainGlobals "frozen" = some (some (.ref f3)))
    (l3 : K.lookup f3 = some ⟨oc3, od3, .func (PySem.W.fnOf "frozen" "frozen" (defArgs s3) (defBody s3) (defScope s3) .none kV3 dc3 pm3 an3 cd3 ct3), sl3⟩)
    (cq3 : PySem.W.codeIn K cd3 "frozen" = true)
    (k3 : PySem.W.keepIn K (.ref f3) = true)
    (a4 : PySem.W.nsIn K mainGlobals "want_number" = some (some (.ref f4)))
    (l4 : K.lookup f4 = some ⟨oc4, od4, .func (PySem.W.fnOf "want_number" "want_number" (defArgs s4) (defBody s4) (defScope s4) .none kV4 dc4 pm4 an4 cd4 ct4), sl4⟩)
    (cq4 : PySem.W.codeIn K cd4 "want_number" = true)
    (k4 : PySem.W.keepIn K (.ref f4) = true)
    (a5 : PySem.W.nsIn K mainGlobals "want_row" = some (some (.ref f5)))
    (l5 : K.lookup f5 = some ⟨oc5, od5, .func (PySem.W.fnOf "want_row" "want_row" (defArgs s5) (defBody s5) (defScope s5) .none kV5 dc5 pm5 an5 cd5 ct5), sl5⟩)
    (cq5 : PySem.W.codeIn K cd5 "want_row" = true)
    (k5 : PySem.W.keepIn K (.ref f5) = true)
    (a6 : PySem.W.nsIn K mainGlobals "is_layer" = some (some (.ref f6)))
    (l6 : K.lookup f6 = some ⟨oc6, od6, .func (PySem.W.fnOf "is_layer" "is_layer" (defArgs s6) (defBody s6) (defScope s6) .none kV6 dc6 pm6 an6 cd6 ct6), sl6⟩)
    (cq6 : PySem.W.codeIn K cd6 "is_layer" = true)
    (k6 : PySem.W.keepIn K (.ref f6) = true)
    (a20 : PySem.W.nsIn K mainGlobals "from_wet" = some (some (.ref f20)))
    (l20 : K.lookup f20 = some ⟨oc20, od20, .func (PySem.W.fnOf "from_wet" "from_wet" (defArgs s20) (defBody s20) (defScope s20) .none kV20 dc20 pm20 an20 cd20 ct20), sl20⟩)
    (cq20 : PySem.W.codeIn K cd20 "from_wet" = true)
    (k20 : PySem.W.keepIn K (.ref f20) = true)
    (a21 : PySem.W.nsIn K mainGlobals "_law_taken" = some (some (.ref f21)))
    (l21 : K.lookup f21 = some ⟨oc21, od21, .func (PySem.W.fnOf "_law_taken" "_law_taken" (defArgs s21) (defBody s21) (defScope s21) .none kV21 dc21 pm21 an21 cd21 ct21), sl21⟩)
    (cq21 : PySem.W.codeIn K cd21 "_law_taken" = true)
    (k21 : PySem.W.keepIn K (.ref f21) = true)
    (a22 : PySem.W.nsIn K mainGlobals "_law_pick" = some (some (.ref f22)))
    (l22 : K.lookup f22 = some ⟨oc22, od22, .func (PySem.W.fnOf "_law_pick" "_law_pick" (defArgs s22) (defBody s22) (defScope s22) .none kV22 dc22 pm22 an22 cd22 ct22), sl22⟩)
    (cq22 : PySem.W.codeIn K cd22 "_law_pick" = true)
    (k22 : PySem.W.keepIn K (.ref f22) = true)
    (a23 : PySem.W.nsIn K mainGlobals "_law_alike" = some (some (.ref f23)))
    (l23 : K.lookup f23 = some ⟨oc23, od23, .func (PySem.W.fnOf "_law_alike" "_law_alike" (defArgs s23) (defBody s23) (defScope s23) .none kV23 dc23 pm23 an23 cd23 ct23), sl23⟩)
    (cq23 : PySem.W.codeIn K cd23 "_law_alike" = true)
    (k23 : PySem.W.keepIn K (.ref f23) = true)
    (a24 : PySem.W.nsIn K mainGlobals "_law_mixed" = some (some (.ref f24)))
    (l24 : K.lookup f24 = some ⟨oc24, od24, .func (PySem.W.fnOf "_law_mixed" "_law_mixed" (defArgs s24) (defBody s24) (defScope s24) .none kV24 dc24 pm24 an24 cd24 ct24), sl24⟩)
    (cq24 : PySem.W.codeIn K cd24 "_law_mixed" = true)
    (k24 : PySem.W.keepIn K (.ref f24) = true)
    (a25 : PySem.W.nsIn K mainGlobals "_law_truth" = some (some (.ref f25)))
    (l25 : K.lookup f25 = some ⟨oc25, od25, .func (PySem.W.fnOf "_law_truth" "_law_truth" (defArgs s25) (defBody s25) (defScope s25) .none kV25 dc25 pm25 an25 cd25 ct25), sl25⟩)
    (cq25 : PySem.W.codeIn K cd25 "_law_truth" = true)
    (k25 : PySem.W.keepIn K (.ref f25) = true)
    (a26 : PySem.W.nsIn K mainGlobals "_law_at" = some (some (.ref f26)))
    (l26 : K.lookup f26 = some ⟨oc26, od26, .func (PySem.W.fnOf "_law_at" "_law_at" (defArgs s26) (defBody s26) (defScope s26) .none kV26 dc26 pm26 an26 cd26 ct26), sl26⟩)
    (cq26 : PySem.W.codeIn K cd26 "_law_at" = true)
    (k26 : PySem.W.keepIn K (.ref f26) = true)
    (a27 : PySem.W.nsIn K mainGlobals "_law_profile" = some (some (.ref f27)))
    (l27 : K.lookup f27 = some ⟨oc27, od27, .func (PySem.W.fnOf "_law_profile" "_law_profile" (defArgs s27) (defBody s27) (defScope s27) .none kV27 dc27 pm27 an27 cd27 ct27), sl27⟩)
    (cq27 : PySem.W.codeIn K cd27 "_law_profile" = true)
    (k27 : PySem.W.keepIn K (.ref f27) = true)
    (a28 : PySem.W.nsIn K mainGlobals "_law_refused" = some (some (.ref f28)))
    (l28 : K.lookup f28 = some ⟨oc28, od28, .func (PySem.W.fnOf "_law_refused" "_law_refused" (defArgs s28) (defBody s28) (defScope s28) .none kV28 dc28 pm28 an28 cd28 ct28), sl28⟩)
    (cq28 : PySem.W.codeIn K cd28 "_law_refused" = true)
    (k28 : PySem.W.keepIn K (.ref f28) = true)
    (a29 : PySem.W.nsIn K mainGlobals "law" = some (some (.ref f29)))
    (l29 : K.lookup f29 = some ⟨oc29, od29, .func (PySem.W.fnOf "law" "law" (defArgs sLaw) (defBody sLaw) (defScope sLaw) .none kV29 dc29 pm29 an29 cd29 ct29), sl29⟩)
    (cq29 : PySem.W.codeIn K cd29 "law" = true)
    (k29 : PySem.W.keepIn K (.ref f29) = true)
    (gc0 : PySem.W.nsIn K mainGlobals "Sky" = some (some (.ref c0)))
    (pgc0 : PySem.W.plainGet K c0 Str.empty = true)
    (hdc0 : PySem.W.hasDictIn K c0 = true)
    (poc0 : PySem.W.plainOver K c0 = true)
    (sac0 : PySem.W.findIn K (.ref c0) "__setattr__" = some (some (.builtin "object.__setattr__")))
    (hac0 : PySem.W.findIn K (.ref c0) "__class__" = some (some (.builtin "object.__class__")))
    (hnc0 : PySem.W.specialIn K (.builtin "object.__class__") "__get__" = some (some (.builtin "getset_descriptor.__get__")))
    (htc0 : PySem.W.takesIn K (.builtin "object.__class__") = some true)
    (hmc0 : PySem.W.mroIn K c0 (.type "object") = some true)
    (mkc0 : PySem.W.makesIn K c0 = true)
    (kpc0 : PySem.W.keepIn K (.ref c0) = true)
    (mec0 : ((PySem.W.clsIn K c0).isSome && PySem.W.typeIn K (.ref c0) == some (.type "type")) = true)
    (na_layersc0 : PySem.W.findIn K (.ref c0) "layers" = some none)
    (mh7 : PySem.W.findIn K (.ref c0) "__init__" = some (some (.ref f7)))
    (l7 : K.lookup f7 = some ⟨oc7, od7, .func (PySem.W.fnOf "__init__" "Sky.__init__" (defArgs s7) (defBody s7) (defScope s7) .none kV7 dc7 pm7 an7 cd7 ct7), sl7⟩)
    (cq7 : PySem.W.codeIn K cd7 "Sky.__init__" = true)
    (k7 : PySem.W.keepIn K (.ref f7) = true)
    (fn7 : PySem.W.isFn K (.ref f7) = true)
    (mh8 : PySem.W.findIn K (.ref c0) "__eq__" = some (some (.ref f8)))
    (l8 : K.lookup f8 = some ⟨oc8, od8, .func (PySem.W.fnOf "__eq__" "Sky.__eq__" (defArgs s8) (defBody s8) (defScope s8) .none kV8 dc8 pm8 an8 cd8 ct8), sl8⟩)
    (cq8 : PySem.W.codeIn K cd8 "Sky.__eq__" = true)
    (k8 : PySem.W.keepIn K (.ref f8) = true)
    (fn8 : PySem.W.isFn K (.ref f8) = true)
    (mh9 : PySem.W.findIn K (.ref c0) "at" = some (some (.ref f9)))
    (l9 : K.lookup f9 = some ⟨oc9, od9, .func (PySem.W.fnOf "at" "Sky.at" (defArgs s9) (defBody s9) (defScope s9) .none kV9 dc9 pm9 an9 cd9 ct9), sl9⟩)
    (cq9 : PySem.W.codeIn K cd9 "Sky.at" = true)
    (k9 : PySem.W.keepIn K (.ref f9) = true)
    (fn9 : PySem.W.isFn K (.ref f9) = true)
    (mh10 : PySem.W.findIn K (.ref c0) "profile" = some (some (.ref f10)))
    (l10 : K.lookup f10 = some ⟨oc10, od10, .func (PySem.W.fnOf "profile" "Sky.profile" (defArgs s10) (defBody s10) (defScope s10) .none kV10 dc10 pm10 an10 cd10 ct10), sl10⟩)
    (cq10 : PySem.W.codeIn K cd10 "Sky.profile" = true)
    (k10 : PySem.W.keepIn K (.ref f10) = true)
    (fn10 : PySem.W.isFn K (.ref f10) = true)
    (mh11 : PySem.W.findIn K (.ref c0) "ceiling" = some (some (.ref f11)))
    (l11 : K.lookup f11 = some ⟨oc11, od11, .func (PySem.W.fnOf "ceiling" "Sky.ceiling" (defArgs s11) (defBody s11) (defScope s11) .none kV11 dc11 pm11 an11 cd11 ct11), sl11⟩)
    (cq11 : PySem.W.codeIn K cd11 "Sky.ceiling" = true)
    (k11 : PySem.W.keepIn K (.ref f11) = true)
    (fn11 : PySem.W.isFn K (.ref f11) = true)
    (mh12 : PySem.W.findIn K (.ref c0) "clear" = some (some (.ref f12)))
    (l12 : K.lookup f12 = some ⟨oc12, od12, .func (PySem.W.fnOf "clear" "Sky.clear" (defArgs s12) (defBody s12) (defScope s12) .none kV12 dc12 pm12 an12 cd12 ct12), sl12⟩)
    (cq12 : PySem.W.codeIn K cd12 "Sky.clear" = true)
    (k12 : PySem.W.keepIn K (.ref f12) = true)
    (fn12 : PySem.W.isFn K (.ref f12) = true)
    (mh13 : PySem.W.findIn K (.ref c0) "sees" = some (some (.ref f13)))
    (l13 : K.lookup f13 = some ⟨oc13, od13, .func (PySem.W.fnOf "sees" "Sky.sees" (defArgs s13) (defBody s13) (defScope s13) .none kV13 dc13 pm13 an13 cd13 ct13), sl13⟩)
    (cq13 : PySem.W.codeIn K cd13 "Sky.sees" = true)
    (k13 : PySem.W.keepIn K (.ref f13) = true)
    (fn13 : PySem.W.isFn K (.ref f13) = true)
    (mh14 : PySem.W.findIn K (.ref c0) "thickest" = some (some (.ref f14)))
    (l14 : K.lookup f14 = some ⟨oc14, od14, .func (PySem.W.fnOf "thickest" "Sky.thickest" (defArgs s14) (defBody s14) (defScope s14) .none kV14 dc14 pm14 an14 cd14 ct14), sl14⟩)
    (cq14 : PySem.W.codeIn K cd14 "Sky.thickest" = true)
    (k14 : PySem.W.keepIn K (.ref f14) = true)
    (fn14 : PySem.W.isFn K (.ref f14) = true)
    (mh15 : PySem.W.findIn K (.ref c0) "wet" = some (some (.ref f15)))
    (l15 : K.lookup f15 = some ⟨oc15, od15, .func (PySem.W.fnOf "wet" "Sky.wet" (defArgs s15) (defBody s15) (defScope s15) .none kV15 dc15 pm15 an15 cd15 ct15), sl15⟩)
    (cq15 : PySem.W.codeIn K cd15 "Sky.wet" = true)
    (k15 : PySem.W.keepIn K (.ref f15) = true)
    (fn15 : PySem.W.isFn K (.ref f15) = true)
    (mh16 : PySem.W.findIn K (.ref c0) "merged" = some (some (.ref f16)))
    (l16 : K.lookup f16 = some ⟨oc16, od16, .func (PySem.W.fnOf "merged" "Sky.merged" (defArgs s16) (defBody s16) (defScope s16) .none kV16 dc16 pm16 an16 cd16 ct16), sl16⟩)
    (cq16 : PySem.W.codeIn K cd16 "Sky.merged" = true)
    (k16 : PySem.W.keepIn K (.ref f16) = true)
    (fn16 : PySem.W.isFn K (.ref f16) = true)
    (mh17 : PySem.W.findIn K (.ref c0) "needless" = some (some (.ref f17)))
    (l17 : K.lookup f17 = some ⟨oc17, od17, .func (PySem.W.fnOf "needless" "Sky.needless" (defArgs s17) (defBody s17) (defScope s17) .none kV17 dc17 pm17 an17 cd17 ct17), sl17⟩)
    (cq17 : PySem.W.codeIn K cd17 "Sky.needless" = true)
    (k17 : PySem.W.keepIn K (.ref f17) = true)
    (fn17 : PySem.W.isFn K (.ref f17) = true)
    (mh18 : PySem.W.findIn K (.ref c0) "plain" = some (some (.ref f18)))
    (l18 : K.lookup f18 = some ⟨oc18, od18, .func (PySem.W.fnOf "plain" "Sky.plain" (defArgs s18) (defBody s18) (defScope s18) .none kV18 dc18 pm18 an18 cd18 ct18), sl18⟩)
    (cq18 : PySem.W.codeIn K cd18 "Sky.plain" = true)
    (k18 : PySem.W.keepIn K (.ref f18) = true)
    (fn18 : PySem.W.isFn K (.ref f18) = true)
    (mh19 : PySem.W.findIn K (.ref c0) "lifted" = some (some (.ref f19)))
    (l19 : K.lookup f19 = some ⟨oc19, od19, .func (PySem.W.fnOf "lifted" "Sky.lifted" (defArgs s19) (defBody s19) (defScope s19) .none kV19 dc19 pm19 an19 cd19 ct19), sl19⟩)
    (cq19 : PySem.W.codeIn K cd19 "Sky.lifted" = true)
    (k19 : PySem.W.keepIn K (.ref f19) = true)
    (fn19 : PySem.W.isFn K (.ref f19) = true)
    (nec0 : PySem.W.findIn K (.ref c0) "__ne__" = some (some (.builtin "object.__ne__")))
    (z0 : PySem.W.nsIn K mainGlobals "all" = some none)
    (z1 : PySem.W.nsIn K mainGlobals "bool" = some none)
    (z2 : PySem.W.nsIn K mainGlobals "enumerate" = some none)
    (z3 : PySem.W.nsIn K mainGlobals "int" = some none)
    (z4 : PySem.W.nsIn K mainGlobals "isinstance" = some none)
    (z5 : PySem.W.nsIn K mainGlobals "len" = some none)
    (z6 : PySem.W.nsIn K mainGlobals "list" = some none)
    (z7 : PySem.W.nsIn K mainGlobals "max" = some none)
    (z8 : PySem.W.nsIn K mainGlobals "min" = some none)
    (z9 : PySem.W.nsIn K mainGlobals "range" = some none)
    (z10 : PySem.W.nsIn K mainGlobals "repr" = some none)
    (z11 : PySem.W.nsIn K mainGlobals "sorted" = some none)
    (z12 : PySem.W.nsIn K mainGlobals "str" = some none)
    (z13 : PySem.W.nsIn K mainGlobals "sum" = some none)
    (z14 : PySem.W.nsIn K mainGlobals "tuple" = some none)
    (gv_HIGHEST : PySem.W.nsIn K mainGlobals "HIGHEST" = some (some (.int 60 tk_HIGHEST)))
    (gv_MOST_LAYERS : PySem.W.nsIn K mainGlobals "MOST_LAYERS" = some (some (.int 8 tk_MOST_LAYERS)))
    (ge0 : PySem.W.nsIn K mainGlobals "BadNumber" = some (some (.ref e0)))
    (xe0 : K.lookup e0 = some (PySem.excClassObj nm0 qn0 e0 N0 bs0 bm0 true sn0 su0 ab0 col0 dd0 m00 m10 m20 m30 m50 "ValueError.__new__"))
    (ye0 : PySem.HandSPX.refsVE bm0 = true)
    (sae0 : PySem.W.findIn K (.ref e0) "__setattr__" = some (some (.builtin "object.__setattr__")))
    (gae0 : PySem.W.findIn K (.ref e0) "__getattribute__" = some (some (.builtin "BaseException.__getattribute__")))
    (gge0 : PySem.W.findIn K (.ref e0) "__getattr__" = some none)
    (noe0 : PySem.W.findIn K (.ref e0) "value" = some none)
    (ice0 : PySem.W.findIn K (.ref e0) "__init__" = some (some (.ref i0)))
    (tce0 : PySem.W.typeIn K (.ref i0) = some (.type "function"))
    (kce0 : PySem.W.keepIn K (.ref e0) = true)
    (ece0 : PySem.W.subIn K (.ref e0) (.type "BaseException") = some true)
    (tye0 : PySem.W.typeIn K (.ref e0) = some (.type "type"))
    (hde0 : PySem.W.hasDictIn K e0 = true)
    (vee0 : PySem.W.subIn K (.ref e0) (.type "ValueError") = some true)
    (mee0 : PySem.W.mroIn K e0 (.ref e0) = some true)
    (ale0 : PySem.W.ks_superIn K e0 e0 "__init__" = some (some (.builtin "ValueError.__init__")))
    (ope0 : PySem.W.nsIn K cStatics "thirdparty.any" = some none)
    (sue0 : PySem.W.nsIn K mainGlobals "super" = some none)
    (toe0 : (P.main.scope.names.lookup ("super" : Str)).isSome = false)
    (fne0 : K.lookup i0 = some ⟨eoc0, eod0, .func (PySem.W.ksFn "__init__" qu0 (PySem.ErX.eA "value" r10 r20) (PySem.ErX.eB "value" p10 p20 p30 p40 p50 p60 p70 p80 p90 p100) (PySem.ErX.eS "value") .none .none edc0 epm0 ean0 (.ref cda0) ect0 cc0), esl0⟩)
    (coe0 : PySem.W.codeIn K (.ref cda0) qu0 = true)
    (cde0 : K.lookup cda0 = some ⟨ccl0, cdd0, .fields cvs0, ccs0⟩)
    (cve0 : cvs0[2]? = some (.str cfi0 ctf0))
    (cfe0 : ((P.main.file : Str) == cfi0) = true)
    (lne0 : (p30.endLine == p50.line) = true)
    (cee0 : K.lookup cc0 = some ⟨clc0, cld0, .cell (some (.ref e0)), csl0⟩)
    (bde0 : ∀ a b : Value, bindArgs (PySem.W.ksFn "__init__" qu0 (PySem.ErX.eA "value" r10 r20) (PySem.ErX.eB "value" p10 p20 p30 p40 p50 p60 p70 p80 p90 p100) (PySem.ErX.eS "value") .none .none edc0 epm0 ean0 (.ref cda0) ect0 cc0) ⟨[a, b], []⟩ = pure ([(("self" : Str), a), ("value", b)] : List (Str × Value)))
    (ge1 : PySem.W.nsIn K mainGlobals "BadItem" = some (some (.ref e1)))
    (xe1 : K.lookup e1 = some (PySem.excClassObj nm1 qn1 e1 N1 bs1 bm1 true sn1 su1 ab1 col1 dd1 m01 m11 m21 m31 m51 "ValueError.__new__"))
    (ye1 : PySem.HandSPX.refsVE bm1 = true)
    (sae1 : PySem.W.findIn K (.ref e1) "__setattr__" = some (some (.builtin "object.__setattr__")))
    (gae1 : PySem.W.findIn K (.ref e1) "__getattribute__" = some (some (.builtin "BaseException.__getattribute__")))
    (gge1 : PySem.W.findIn K (.ref e1) "__getattr__" = some none)
    (noe1 : PySem.W.findIn K (.ref e1) "index" = some none)
    (ice1 : PySem.W.findIn K (.ref e1) "__init__" = some (some (.ref i1)))
    (tce1 : PySem.W.typeIn K (.ref i1) = some (.type "function"))
    (kce1 : PySem.W.keepIn K (.ref e1) = true)
    (ece1 : PySem.W.subIn K (.ref e1) (.type "BaseException") = some true)
    (tye1 : PySem.W.typeIn K (.ref e1) = some (.type "type"))
    (hde1 : PySem.W.hasDictIn K e1 = true)
    (vee1 : PySem.W.subIn K (.ref e1) (.type "ValueError") = some true)
    (mee1 : PySem.W.mroIn K e1 (.ref e1) = some true)
    (ale1 : PySem.W.ks_superIn K e1 e1 "__init__" = some (some (.builtin "ValueError.__init__")))
    (ope1 : PySem.W.nsIn K cStatics "thirdparty.any" = some none)
    (sue1 : PySem.W.nsIn K mainGlobals "super" = some none)
    (toe1 : (P.main.scope.names.lookup ("super" : Str)).isSome = false)
    (fne1 : K.lookup i1 = some ⟨eoc1, eod1, .func (PySem.W.ksFn "__init__" qu1 (PySem.ErX.eA "index" r11 r21) (PySem.ErX.eB "index" p11 p21 p31 p41 p51 p61 p71 p81 p91 p101) (PySem.ErX.eS "index") .none .none edc1 epm1 ean1 (.ref cda1) ect1 cc1), esl1⟩)
    (coe1 : PySem.W.codeIn K (.ref cda1) qu1 = true)
    (cde1 : K.lookup cda1 = some ⟨ccl1, cdd1, .fields cvs1, ccs1⟩)
    (cve1 : cvs1[2]? = some (.str cfi1 ctf1))
    (cfe1 : ((P.main.file : Str) == cfi1) = true)
    (lne1 : (p31.endLine == p51.line) = true)
    (cee1 : K.lookup cc1 = some ⟨clc1, cld1, .cell (some (.ref e1)), csl1⟩)
    (bde1 : ∀ a b : Value, bindArgs (PySem.W.ksFn "__init__" qu1 (PySem.ErX.eA "index" r11 r21) (PySem.ErX.eB "index" p11 p21 p31 p41 p51 p61 p71 p81 p91 p101) (PySem.ErX.eS "index") .none .none edc1 epm1 ean1 (.ref cda1) ect1 cc1) ⟨[a, b], []⟩ = pure ([(("self" : Str), a), ("index", b)] : List (Str × Value)))
    (ge2 : PySem.W.nsIn K mainGlobals "TooMany" = some (some (.ref e2)))
    (xe2 : K.lookup e2 = some (PySem.excClassObj nm2 qn2 e2 N2 bs2 bm2 true sn2 su2 ab2 col2 dd2 m02 m12 m22 m32 m52 "ValueError.__new__"))
    (ye2 : PySem.HandSPX.refsVE bm2 = true)
    (sae2 : PySem.W.findIn K (.ref e2) "__setattr__" = some (some (.builtin "object.__setattr__")))
    (gae2 : PySem.W.findIn K (.ref e2) "__getattribute__" = some (some (.builtin "BaseException.__getattribute__")))
    (gge2 : PySem.W.findIn K (.ref e2) "__getattr__" = some none)
    (noe2 : PySem.W.findIn K (.ref e2) "limit" = some none)
    (ice2 : PySem.W.findIn K (.ref e2) "__init__" = some (some (.ref i2)))
    (tce2 : PySem.W.typeIn K (.ref i2) = some (.type "function"))
    (kce2 : PySem.W.keepIn K (.ref e2) = true)
    (ece2 : PySem.W.subIn K (.ref e2) (.type "BaseException") = some true)
    (tye2 : PySem.W.typeIn K (.ref e2) = some (.type "type"))
    (hde2 : PySem.W.hasDictIn K e2 = true)
    (vee2 : PySem.W.subIn K (.ref e2) (.type "ValueError") = some true)
    (mee2 : PySem.W.mroIn K e2 (.ref e2) = some true)
    (ale2 : PySem.W.ks_superIn K e2 e2 "__init__" = some (some (.builtin "ValueError.__init__")))
    (ope2 : PySem.W.nsIn K cStatics "thirdparty.any" = some none)
    (sue2 : PySem.W.nsIn K mainGlobals "super" = some none)
    (toe2 : (P.main.scope.names.lookup ("super" : Str)).isSome = false)
    (fne2 : K.lookup i2 = some ⟨eoc2, eod2, .func (PySem.W.ksFn "__init__" qu2 (PySem.ErX.eA "limit" r12 r22) (PySem.ErX.eB "limit" p12 p22 p32 p42 p52 p62 p72 p82 p92 p102) (PySem.ErX.eS "limit") .none .none edc2 epm2 ean2 (.ref cda2) ect2 cc2), esl2⟩)
    (coe2 : PySem.W.codeIn K (.ref cda2) qu2 = true)
    (cde2 : K.lookup cda2 = some ⟨ccl2, cdd2, .fields cvs2, ccs2⟩)
    (cve2 : cvs2[2]? = some (.str cfi2 ctf2))
    (cfe2 : ((P.main.file : Str) == cfi2) = true)
    (lne2 : (p32.endLine == p52.line) = true)
    (cee2 : K.lookup cc2 = some ⟨clc2, cld2, .cell (some (.ref e2)), csl2⟩)
    (bde2 : ∀ a b : Value, bindArgs (PySem.W.ksFn "__init__" qu2 (PySem.ErX.eA "limit" r12 r22) (PySem.ErX.eB "limit" p12 p22 p32 p42 p52 p62 p72 p82 p92 p102) (PySem.ErX.eS "limit") .none .none edc2 epm2 ean2 (.ref cda2) ect2 cc2) ⟨[a, b], []⟩ = pure ([(("self" : Str), a), ("limit", b)] : List (Str × Value)))
    (xm0_0 : PySem.W.exmOne K (.ref e0) (.ref e0) = some true)
    (xm0_1 : PySem.W.exmOne K (.ref e0) (.ref e1) = some false)
    (xm0_2 : PySem.W.exmOne K (.ref e0) (.ref e2) = some false)
    (xm1_0 : PySem.W.exmOne K (.ref e1) (.ref e0) = some false)
    (xm1_1 : PySem.W.exmOne K (.ref e1) (.ref e1) = some true)
    (xm1_2 : PySem.W.exmOne K (.ref e1) (.ref e2) = some false)
    (xm2_0 : PySem.W.exmOne K (.ref e2) (.ref e0) = some false)
    (xm2_1 : PySem.W.exmOne K (.ref e2) (.ref e1) = some false)
    (xm2_2 : PySem.W.exmOne K (.ref e2) (.ref e2) = some true)
    (nd : ([e0, e1, e2, c0] : List Addr).Nodup)
    : ∃ fd : FuncData, (∀ (s : Shared) (v : Value), BindsTo s fd ⟨[v], []⟩ [("script", v)]) ∧ ∀ base : Heap, K.In base → base.Ns mainGlobals mg → FnG P w K mg base 26 fa fd ["script"] (spL K good) := by
  have e := hfa.symm.trans (PySem.W.mg_of X G a29)
  cases e
  have F0 := fun_mk (st := s0) l0 cq0 k0
  have B0 := F0.binds (ps := ["value"]) fun _ _ _ _ _ _ us hl => match us, hl with | [_], _ => rfl
  have F1 := fun_mk (st := s1) l1 cq1 k1
  have B1 := F1.binds (ps := ["value", "least", "most"]) fun _ _ _ _ _ _ us hl => match us, hl with | [_, _, _], _ => rfl
  have F2 := fun_mk (st := s2) l2 cq2 k2
  have B2 := F2.binds (ps := ["value"]) fun _ _ _ _ _ _ us hl => match us, hl with | [_], _ => rfl
  have F3 := fun_mk (st := s3) l3 cq3 k3
  have B3 := F3.binds (ps := ["value"]) fun _ _ _ _ _ _ us hl => match us, hl with | [_], _ => rfl
  have F4 := fun_mk (st := s4) l4 cq4 k4
  have B4 := F4.binds (ps := ["value", "least", "most"]) fun _ _ _ _ _ _ us hl => match us, hl with | [_, _, _], _ => rfl
  have F5 := fun_mk (st := s5) l5 cq5 k5
  have B5 := F5.binds (ps := ["value", "is_item", "most"]) fun _ _ _ _ _ _ us hl => match us, hl with | [_, _, _], _ => rfl
  have F6 := fun_mk (st := s6) l6 cq6 k6
  have B6 := F6.binds (ps := ["value"]) fun _ _ _ _ _ _ us hl => match us, hl with | [_], _ => rfl
  have F7 := fun_mk (st := s7) l7 cq7 k7
  have B7 := F7.binds (ps := ["self", "layers"]) fun _ _ _ _ _ _ us hl => match us, hl with | [_, _], _ => rfl
  have F8 := fun_mk (st := s8) l8 cq8 k8
  have B8 := F8.binds (ps := ["self", "other"]) fun _ _ _ _ _ _ us hl => match us, hl with | [_, _], _ => rfl
  have F9 := fun_mk (st := s9) l9 cq9 k9
  have B9 := F9.binds (ps := ["self", "height"]) fun _ _ _ _ _ _ us hl => match us, hl with | [_, _], _ => rfl
  have F10 := fun_mk (st := s10) l10 cq10 k10
  have B10 := F10.binds (ps := ["self"]) fun _ _ _ _ _ _ us hl => match us, hl with | [_], _ => rfl
  have F11 := fun_mk (st := s11) l11 cq11 k11
  have B11 := F11.binds (ps := ["self"]) fun _ _ _ _ _ _ us hl => match us, hl with | [_], _ => rfl
  have F12 := fun_mk (st := s12) l12 cq12 k12
  have B12 := F12.binds (ps := ["self", "first", "last"]) fun _ _ _ _ _ _ us hl => match us, hl with | [_, _, _], _ => rfl
  have F13 := fun_mk (st := s13) l13 cq13 k13
  have B13 := F13.binds (ps := ["self", "first", "last", "most"]) fun _ _ _ _ _ _ us hl => match us, hl with | [_, _, _, _], _ => rfl
  have F14 := fun_mk (st := s14) l14 cq14 k14
  have B14 := F14.binds (ps := ["self"]) fun _ _ _ _ _ _ us hl => match us, hl with | [_], _ => rfl
  have F15 := fun_mk (st := s15) l15 cq15 k15
  have B15 := F15.binds (ps := ["self"]) fun _ _ _ _ _ _ us hl => match us, hl with | [_], _ => rfl
  have F16 := fun_mk (st := s16) l16 cq16 k16
  have B16 := F16.binds (ps := ["self", "other"]) fun _ _ _ _ _ _ us hl => match us, hl with | [_, _], _ => rfl
  have F17 := fun_mk (st := s17) l17 cq17 k17
  have B17 := F17.binds (ps := ["self"]) fun _ _ _ _ _ _ us hl => match us, hl with | [_], _ => rfl
  have F18 := fun_mk (st := s18) l18 cq18 k18
  have B18 := F18.binds (ps := ["self"]) fun _ _ _ _ _ _ us hl => match us, hl with | [_], _ => rfl
  have F19 := fun_mk (st := s19) l19 cq19 k19
  have B19 := F19.binds (ps := ["self", "heights"]) fun _ _ _ _ _ _ us hl => match us, hl with | [_, _], _ => rfl
  have F20 := fun_mk (st := s20) l20 cq20 k20
  have B20 := F20.binds (ps := ["readings", "least"]) fun _ _ _ _ _ _ us hl => match us, hl with | [_, _], _ => rfl
  have F21 := fun_mk (st := s21) l21 cq21 k21
  have B21 := F21.binds (ps := ["row", "many"]) fun _ _ _ _ _ _ us hl => match us, hl with | [_, _], _ => rfl
  have F22 := fun_mk (st := s22) l22 cq22 k22
  have B22 := F22.binds (ps := ["row", "kinds"]) fun _ _ _ _ _ _ us hl => match us, hl with | [_, _], _ => rfl
  have F23 := fun_mk (st := s23) l23 cq23 k23
  have B23 := F23.binds (ps := ["found", "due"]) fun _ _ _ _ _ _ us hl => match us, hl with | [_, _], _ => rfl
  have F24 := fun_mk (st := s24) l24 cq24 k24
  have B24 := F24.binds (ps := ["row", "value"]) fun _ _ _ _ _ _ us hl => match us, hl with | [_, _], _ => rfl
  have F25 := fun_mk (st := s25) l25 cq25 k25
  have B25 := F25.binds (ps := ["found", "due"]) fun _ _ _ _ _ _ us hl => match us, hl with | [_, _], _ => rfl
  have F26 := fun_mk (st := s26) l26 cq26 k26
  have B26 := F26.binds (ps := ["layers", "height"]) fun _ _ _ _ _ _ us hl => match us, hl with | [_, _], _ => rfl
  have F27 := fun_mk (st := s27) l27 cq27 k27
  have B27 := F27.binds (ps := ["layers"]) fun _ _ _ _ _ _ us hl => match us, hl with | [_], _ => rfl
  have F28 := fun_mk (st := s28) l28 cq28 k28
  have B28 := F28.binds (ps := ["row", "made", "layers"]) fun _ _ _ _ _ _ us hl => match us, hl with | [_, _, _], _ => rfl
  have FL := fun_mk (st := sLaw) l29 cq29 k29
  have T0 : PySem.ErX.ErrTxt P K mg "BadNumber" "value" e0 i0 := { gC := PySem.W.mg_of X G ge0, cls := ⟨_, _, _, _, _, _, _, _, _, _, _, _, _, _, _, xe0, ye0⟩, sa := sae0, ga := gae0, gg := gge0, noN := noe0, iC := ice0, tC := tce0, kC := kce0, exC := ece0, tyC := tye0, hdC := hde0, veC := vee0, me := mee0, al := ale0, op := ope0, sup := sue0, top := toe0, fn := ⟨qu0, _, _, _, _, _, _, _, _, _, _, _, _, _, _, _, _, _, _, _, _, _, fne0, coe0, ⟨_, _, _, _, _, _, cde0, cve0, cfe0⟩, lne0, ⟨_, _, _, cee0⟩, bde0⟩, l1 := by decide +kernel, l2 := by decide +kernel, l4 := by decide +kernel, l5 := by decide +kernel, l6 := by decide +kernel }
  have T1 : PySem.ErX.ErrTxt P K mg "BadItem" "index" e1 i1 := { gC := PySem.W.mg_of X G ge1, cls := ⟨_, _, _, _, _, _, _, _, _, _, _, _, _, _, _, xe1, ye1⟩, sa := sae1, ga := gae1, gg := gge1, noN := noe1, iC := ice1, tC := tce1, kC := kce1, exC := ece1, tyC := tye1, hdC := hde1, veC := vee1, me := mee1, al := ale1, op := ope1, sup := sue1, top := toe1, fn := ⟨qu1, _, _, _, _, _, _, _, _, _, _, _, _, _, _, _, _, _, _, _, _, _, fne1, coe1, ⟨_, _, _, _, _, _, cde1, cve1, cfe1⟩, lne1, ⟨_, _, _, cee1⟩, bde1⟩, l1 := by decide +kernel, l2 := by decide +kernel, l4 := by decide +kernel, l5 := by decide +kernel, l6 := by decide +kernel }
  have T2 : PySem.ErX.ErrTxt P K mg "TooMany" "limit" e2 i2 := { gC := PySem.W.mg_of X G ge2, cls := ⟨_, _, _, _, _, _, _, _, _, _, _, _, _, _, _, xe2, ye2⟩, sa := sae2, ga := gae2, gg := gge2, noN := noe2, iC := ice2, tC := tce2, kC := kce2, exC := ece2, tyC := tye2, hdC := hde2, veC := vee2, me := mee2, al := ale2, op := ope2, sup := sue2, top := toe2, fn := ⟨qu2, _, _, _, _, _, _, _, _, _, _, _, _, _, _, _, _, _, _, _, _, _, fne2, coe2, ⟨_, _, _, _, _, _, cde2, cve2, cfe2⟩, lne2, ⟨_, _, _, cee2⟩, bde2⟩, l1 := by decide +kernel, l2 := by decide +kernel, l4 := by decide +kernel, l5 := by decide +kernel, l6 := by decide +kernel }
  have C0 : Cls K c0 := ⟨pgc0, hdc0, poc0, sac0⟩
  refine ⟨PySem.W.fnOf "law" "law" (defArgs sLaw) (defBody sLaw) (defScope sLaw) .none kV29 dc29 pm29 an29 cd29 ct29, fun s v => .of_eq rfl, fun base _ _ => law_ok (S := sta) (C := cfg K e0 [e1, e2, c0] [f0, f1, f2, f3, f4, f5, f6, f7, f8, f9, f10, f11, f12, f13, f14, f15, f16, f17, f18, f19, f20, f21, f22, f23, f24, f25, f26, f27, f28] f0) (gm := gm) (fun ns a R => ?_) (fun _ _ _ => ⟨rfl, rfl, rfl⟩) FL scLaw (by decide) okLaw hlaw⟩
  have hg : gmAll (cfg K e0 [e1, e2, c0] [f0, f1, f2, f3, f4, f5, f6, f7, f8, f9, f10, f11, f12, f13, f14, f15, f16, f17, f18, f19, f20, f21, f22, f23, f24, f25, f26, f27, f28] f0 ns a R) (sta ns) P K mg gm := ⟨⟨PySem.W.mg_of X G ge1, _, _, T1, rfl⟩, ⟨PySem.W.mg_of X G ge0, _, _, T0, rfl⟩, ⟨_, .int 60, PySem.W.mg_of X G gv_HIGHEST, ⟨_, rfl⟩, fun _ => .int _⟩, ⟨_, .int 8, PySem.W.mg_of X G gv_MOST_LAYERS, ⟨_, rfl⟩, fun _ => .int _⟩, ⟨PySem.W.mg_of X G gc0, _, rfl⟩, ⟨PySem.W.mg_of X G ge2, _, _, T2, rfl⟩, PySem.W.mg_of X G a23, PySem.W.mg_of X G a26, PySem.W.mg_of X G a24, PySem.W.mg_of X G a22, PySem.W.mg_of X G a27, PySem.W.mg_of X G a28, PySem.W.mg_of X G a21, PySem.W.mg_of X G a25, PySem.W.mg_none_of X G z0, PySem.W.mg_none_of X G z1, PySem.W.mg_none_of X G z2, PySem.W.mg_of X G a20, PySem.W.mg_of X G a3, PySem.W.mg_none_of X G z3, PySem.W.mg_of X G a6, PySem.W.mg_of X G a1, PySem.W.mg_of X G a2, PySem.W.mg_of X G a0, PySem.W.mg_none_of X G z4, PySem.W.mg_none_of X G z5, PySem.W.mg_none_of X G z6, PySem.W.mg_none_of X G z7, PySem.W.mg_none_of X G z8, PySem.W.mg_none_of X G z9, PySem.W.mg_none_of X G z10, PySem.W.mg_none_of X G z11, PySem.W.mg_none_of X G z12, PySem.W.mg_none_of X G z13, PySem.W.mg_none_of X G z14, PySem.W.mg_of X G a4, PySem.W.mg_of X G a5, trivial⟩
  have hd : dfAll (sta ns) K gm (cfg K e0 [e1, e2, c0] [f0, f1, f2, f3, f4, f5, f6, f7, f8, f9, f10, f11, f12, f13, f14, f15, f16, f17, f18, f19, f20, f21, f22, f23, f24, f25, f26, f27, f28] f0 ns a R).fad 0 dfs := ⟨DfOk.mk F0 sc0 B0 ok0 (fun _ q => nomatch q), DfOk.mk F1 sc1 B1 ok1 (fun _ q => nomatch q), DfOk.mk F2 sc2 B2 ok2 (fun _ q => nomatch q), DfOk.mk F3 sc3 B3 ok3 (fun _ q => nomatch q), DfOk.mk F4 sc4 B4 ok4 (fun _ q => nomatch q), DfOk.mk F5 sc5 B5 ok5 (fun _ q => nomatch q), DfOk.mk F6 sc6 B6 ok6 (fun _ q => nomatch q), DfOk.mk F7 sc7 B7 ok7 (fun _ q => by cases q; exact ⟨rfl, by decide⟩), DfOk.mk F8 sc8 B8 ok8 (fun _ q => nomatch q), DfOk.mk F9 sc9 B9 ok9 (fun _ q => nomatch q), DfOk.mk F10 sc10 B10 ok10 (fun _ q => nomatch q), DfOk.mk F11 sc11 B11 ok11 (fun _ q => nomatch q), DfOk.mk F12 sc12 B12 ok12 (fun _ q => nomatch q), DfOk.mk F13 sc13 B13 ok13 (fun _ q => nomatch q), DfOk.mk F14 sc14 B14 ok14 (fun _ q => nomatch q), DfOk.mk F15 sc15 B15 ok15 (fun _ q => nomatch q), DfOk.mk F16 sc16 B16 ok16 (fun _ q => nomatch q), DfOk.mk F17 sc17 B17 ok17 (fun _ q => nomatch q), DfOk.mk F18 sc18 B18 ok18 (fun _ q => nomatch q), DfOk.mk F19 sc19 B19 ok19 (fun _ q => nomatch q), DfOk.mk F20 sc20 B20 ok20 (fun _ q => nomatch q), DfOk.mk F21 sc21 B21 ok21 (fun _ q => nomatch q), DfOk.mk F22 sc22 B22 ok22 (fun _ q => nomatch q), DfOk.mk F23 sc23 B23 ok23 (fun _ q => nomatch q), DfOk.mk F24 sc24 B24 ok24 (fun _ q => nomatch q), DfOk.mk F25 sc25 B25 ok25 (fun _ q => nomatch q), DfOk.mk F26 sc26 B26 ok26 (fun _ q => nomatch q), DfOk.mk F27 sc27 B27 ok27 (fun _ q => nomatch q), DfOk.mk F28 sc28 B28 ok28 (fun _ q => nomatch q), trivial⟩
  have hfx : Fx (cfg K e0 [e1, e2, c0] [f0, f1, f2, f3, f4, f5, f6, f7, f8, f9, f10, f11, f12, f13, f14, f15, f16, f17, f18, f19, f20, f21, f22, f23, f24, f25, f26, f27, f28] f0 ns a R) := by
    refine fx_of (fl := fldL) (ml := mtL) (il := iniL) (cl := clL) rfl rfl rfl rfl ?_ ?_ ?_ ?_ ?_ ?_
    · exact ⟨⟨C0, na_layersc0⟩, trivial⟩
    · exact ⟨⟨C0, mh8, fn8, k8⟩, ⟨C0, mh9, fn9, k9⟩, ⟨C0, mh10, fn10, k10⟩, ⟨C0, mh11, fn11, k11⟩, ⟨C0, mh12, fn12, k12⟩, ⟨C0, mh13, fn13, k13⟩, ⟨C0, mh14, fn14, k14⟩, ⟨C0, mh15, fn15, k15⟩, ⟨C0, mh16, fn16, k16⟩, ⟨C0, mh17, fn17, k17⟩, ⟨C0, mh18, fn18, k18⟩, ⟨C0, mh19, fn19, k19⟩, trivial⟩
    · exact ⟨⟨mkc0, mh7, fn7, kpc0⟩, trivial⟩
    · exact ⟨⟨⟨C0, hac0, hnc0, htc0, hmc0⟩, mec0⟩, trivial⟩
    · exact ⟨⟨(fun z => absurd rfl z), trivial⟩, trivial⟩
    · exact ⟨(fun _ => ⟨nec0, hmc0⟩), (fun z => absurd z (by decide)), (fun z => absurd z (by decide)), (fun z => absurd z (by decide)), (fun z => absurd z (by decide)), (fun z => absurd z (by decide)), (fun z => absurd z (by decide)), (fun z => absurd z (by decide)), (fun z => absurd z (by decide)), (fun z => absurd z (by decide)), (fun z => absurd z (by decide)), (fun z => absurd z (by decide)), trivial⟩
  exact {
    hK := rfl, gmk := hg.at, fx := hfx, scr := rfl, ini := rfl, mts := rfl, flds := rfl, kit := rfl, xn := rfl, hsub := rfl
    erf := fun c f hf => erf_of (K := K) (a0 := e0) (cs := [e1, e2, c0]) (x0 := xn0) (xs := xnL) rfl ⟨(fun f hf => by have hf : f ∈ (["value"] : List Str) := hf; rw [List.mem_singleton] at hf; subst hf; exact ⟨⟨gae0, gge0, ece0, hde0⟩, noe0⟩), (fun f hf => by have hf : f ∈ (["index"] : List Str) := hf; rw [List.mem_singleton] at hf; subst hf; exact ⟨⟨gae1, gge1, ece1, hde1⟩, noe1⟩), (fun f hf => by have hf : f ∈ (["limit"] : List Str) := hf; rw [List.mem_singleton] at hf; subst hf; exact ⟨⟨gae2, gge2, ece2, hde2⟩, noe2⟩), (fun f hf => nomatch hf), trivial⟩ hf
    eri := fun c c2 hcc => eri_of (xs := xnL) (x0 := xn0) nd rfl hcc
    sub := fun c j b h => sub_of (n := 3) (cad := (cfg K e0 [e1, e2, c0] [f0, f1, f2, f3, f4, f5, f6, f7, f8, f9, f10, f11, f12, f13, f14, f15, f16, f17, f18, f19, f20, f21, f22, f23, f24, f25, f26, f27, f28] f0 ns a R).cad) ⟨⟨xm0_0, xm0_1, xm0_2, trivial⟩, ⟨xm1_0, xm1_1, xm1_2, trivial⟩, ⟨xm2_0, xm2_1, xm2_2, trivial⟩, trivial⟩ h
    defs := fun i d hi => by have := hd.at i d hi; rw [Nat.zero_add] at this; exact this
    inis := fun c i h => (show allP (fun p : Nat × Nat => ∃ d, dfs[p.2]? = some d ∧ d.ini = some p.1) iniL from ⟨⟨_, rfl, rfl⟩, trivial⟩).at _ (iniF_mem h)
    out := fun i hi => by
      have hi : dfs.length ≤ i := by have : dfs[i]? = none := hi; simpa using this
      have e : (cfg K e0 [e1, e2, c0] [f0, f1, f2, f3, f4, f5, f6, f7, f8, f9, f10, f11, f12, f13, f14, f15, f16, f17, f18, f19, f20, f21, f22, f23, f24, f25, f26, f27, f28] f0 ns a R).fad i = f0 := getD_out (l := [f0, f1, f2, f3, f4, f5, f6, f7, f8, f9, f10, f11, f12, f13, f14, f15, f16, f17, f18, f19, f20, f21, f22, f23, f24, f25, f26, f27, f28]) hi
      exact ⟨⟨_, _, B0⟩, by rw [e]; exact k0⟩ }
theorem walk {l : PySem.W.OpenLaw} {qq : Program} {loose : List Str} {XP : (Str → Option Value) → Heap → Prop} {YP : World → Heap → Prop} {d : DefRec} {K : Params → PySem.W.Frag} {good : List Int → Prop} (hn : l.most = some 63) (hdf : d.params.defaults = [])
    (hY : ∀ (w : World) (h : Heap), YP w h → (K w.params).In h)
    (F : ∀ (w : World) (mg : Str → Option Value) (fa : Addr) (h : Heap), (K w.params).In h → h.Ns mainGlobals mg → mg d.name = some (.ref fa) →
      ∃ fd : FuncData, (∀ (s : Shared) (u : Value), BindsTo s fd ⟨[u], []⟩ [("script", u)]) ∧ ∀ base : Heap, (K w.params).In base → base.Ns mainGlobals mg → FnG l.prog w (K w.params) mg base 26 fa fd ["script"] (spL (K w.params) good))
    (hgood : ∀ ns : List Int, ns.length ≤ 63 → (∀ z ∈ ns, Builtin.Int.intBits z ≤ 1048576) → good ns) : PySem.W.WalkO qq loose XP YP l.row.toRowW d [] (fun f vs => PySem.call f vs) :=
  L2.walk_G (n := 63) (k := 26) (x := "script") (sp := fun w => spL (K w.params) good) hn (by decide) hdf ⟨rfl, by decide, by decide⟩ hY F fun w H a ns hl hb hO hS => ⟨a, ns, rfl, hO, hS, hgood ns hl hb, fun _ => rfl⟩
end Law

set_option Elab.async false
set_option linter.all false
set_option maxRecDepth 100000
set_option maxHeartbeats 4000000
set_option pp.deepTerms false
set_option pp.deepTerms.threshold 8
namespace Law
open PySem L2 DS
local macro_rules | `(tactic| walk_at "ds") => `(tactic| first
  | (apply vwe_v; exact rfl)
  | (apply vwe_o; exact rfl)
  | refine vwe_int ?_
  | refine vwe_bin ?_
  | refine vwe_ix ?_
  | refine vwe_cmp ?_
  | refine vwe_neg ?_
  | refine zwe_call ?_
  | refine vwe_cons ?_
  | refine vwe_nil ?_
  | refine vwe_bi ?_
  | refine vwe_non ?_
  | refine vwe_bl ?_
  | refine vwe_str ?_
  | refine vwe_ty ?_
  | refine vwe_tup ?_
  | refine vwe_one ?_
  | refine vwe_and ?_
  | refine vwe_or ?_
  | refine vwe_not ?_
  | refine vwe_ite ?_
  | refine vwe_ow ?_
  | refine vwl_lst ?_
  | refine vwe_isT ?_
  | refine vwt_one ?_
  | refine vwt_and ?_
  | refine vwt_or ?_
  | refine vwt_not ?_
  | refine vwt_val ?_
  | refine vwr_cons ?_
  | refine vwr_nil ?_
  | refine vws_ret ?_
  | refine vws_ife ?_
  | refine zws_set ?_
  | refine zws_par ?_
  | refine zws_setL ?_
  | refine zws_setW ?_
  | refine vws_expr ?_
  | (apply vws_row; exact rfl)
  | refine vix_row0 ?_
  | refine vix_row1 ?_
  | refine vix_row2 ?_
  | refine vix_row3 ?_
  | (apply vix_tup; exact rfl)
  | (apply vix_lst; exact rfl)
  | refine vpo_add ?_
  | refine vpo_sub ?_
  | (refine vpo_mul ?_ ?_; (focus (omega)))
  | (refine vpo_div ?_ ?_; (focus (omega)))
  | (refine vpo_mod ?_ ?_; (focus (omega)))
  | (refine vpo_pow ?_ ?_; (focus (decide)))
  | refine vpc_lt ?_
  | refine vpc_le ?_
  | refine vpc_gt ?_
  | refine vpc_ge ?_
  | refine vpc_eqI ?_
  | refine vpc_neI ?_
  | refine vpc_eqB ?_
  | refine vpc_neB ?_
  | (apply vpc_isN; exact rfl)
  | (apply vpc_notN; exact rfl)
  | refine if_not ?_
  | refine if_tt ?_
  | refine if_ff ?_
  | (apply isT_tl; exact rfl)
  | (apply isT_lt; exact rfl)
  | (apply isi_int; exact rfl)
  | (apply isi_bool; exact rfl)
  | (apply isi_str; exact rfl)
  | (apply isi_tuple; exact rfl)
  | (apply isi_list; exact rfl)
  | refine vpc_eqN ?_
  | refine vpc_eqNil ?_
  | refine vwc_no ?_
  | refine vwc_ex ?_
  | refine zwl_lc ?_
  | refine vwi_any ?_
  | refine vwi_r1 ?_
  | refine vwi_r2 ?_
  | refine vws_raise ?_
  | refine zws_for ?_
  | refine zws_try ?_
  | (refine try_yes ?_ ?_; (focus (rfl)))
  | (refine try_no ?_ ?_; (focus (rfl)))
  | refine len1 ?_
  | (refine rep_ok ?_ ?_; (focus (walk_at "rp")))
  | (refine rep_ne ?_ ?_; (focus (walk_at "rp")))
  | (refine cons_eq ?_ ?_; (focus (walk_at "pn"; done)))
  | (refine cons_ne ?_ ?_; (focus (walk_at "pn"; done)))
  | refine nil_neN ?_
  | (refine nil_eq (fun _ _ => ?_) ?_; (focus (walk_at "pn"; done)))
  | (refine nil_ne (fun _ _ => ?_) ?_; (focus (walk_at "pn"; done)))
  | (apply vwe_exf; exact rfl)
  | refine vws_asg ?_
  | refine vws_pass ?_
  | refine ex_bl ?_
  | (refine r1_rfl ?_ ?_; (focus (omega)))
  | (refine rg1_rfl ?_ ?_; (focus (omega)))
  | refine ex_int ?_
  | (apply bi_rfl; exact rfl)
  | (apply it_rfl; exact rfl)
  | refine par_rfl ?_
  | (apply row_rfl; exact rfl)
  | (apply zasg; exact rfl)
  | (refine r2_rfl ?_ ?_; (focus (omega)))
  | refine vwo_no ?_
  | refine vwo_ex ?_
  | refine vwe_sl ?_
  | (apply sl_rfl; exact rfl)
  | (apply zws_mtL; exact rfl)
  | refine vwl_rg1 ?_
  | refine vwl_rg2 ?_
  | (refine rg2_rfl ?_ ?_; (focus (omega)))
  | refine vwl_bl ?_
  | (apply zbl_list; exact rfl)
  | refine vwe_fld ?_
  | refine vws_doc ?_
  | refine vws_retN ?_
  | refine vwe_trg1 ?_
  | refine vwi_enum ?_
  | (apply ls_rfl; exact rfl)
  | refine zws_par3 ?_
  | refine par3_rfl ?_
  | (refine ml_app ?_ ?_; (focus (rw [sizeLine_eq]; simp only [List.length_cons, List.length_nil, List.length_append, List.length_map]; omega)))
  | refine zwe_chain ?_
  | refine vwe_gf ?_
  | refine vwe_gc ?_
  | refine vwe_isC ?_
  | (apply isC_rfl; exact rfl)
  | refine vwe_eqI ?_
  | (apply vwq_pl; exact rfl)
  | (apply zwq_eq; exact rfl)
  | (apply zwq_ne; exact rfl)
  | (apply zwe_callv; exact rfl)
  | refine zwe_meth ?_
  | (apply mt_rfl; exact rfl)
  | refine zwe_make ?_
  | (apply zws_setF; exact rfl)
  | (apply fld_rfl; exact rfl)
  | refine vwe_trg2 ?_
  | (refine And.intro (sz_small ?_) ?_; (focus (walk_at "sz")))
  | fail)
local macro_rules | `(tactic| walk_at "ds") => `(tactic| first
  | (apply env_is; (focus (dsimp only [List.set, wipeE, Tg.slots, frzE, ownL, List.getElem?_cons_succ, List.getElem?_cons_zero, clr, List.map, Sl.clr])))
  | refine g_rfl ?_
  | refine vch_le_le ?_
  | refine vch_le_lt ?_
  | refine vch_lt_le ?_
  | refine vch_lt_lt ?_
  | (refine if_yes ?_ ?_; (focus (first | omega | rfl | (simp only [List.length_cons, List.length_nil, List.length_map, List.length_append]; omega))))
  | (refine if_nay ?_ ?_; (focus (first | omega | (simp only [List.length_cons, List.length_nil, List.length_map, List.length_append]; omega))))
  | refine if_and ?_
  | refine if_or ?_
  | refine if_self ?_
  | refine len_mt ?_
  | refine len_ml ?_
  | refine all2d ?_
  | refine all2 ?_
  | refine all1 ?_
  | (refine vpo_lst ?_ ?_; (focus (refine sz_small ?_; walk_at "sz")))
  | (refine vpo_tup ?_ ?_; (focus (refine sz_small ?_; walk_at "sz")))
  | refine rr2 ?_
  | refine rr3 ?_
  | refine rr4 ?_
  | refine rr5 ?_
  | refine zws_tryM ?_
  | refine zwh_nil ?_
  | (refine zwh_yes ?_ ?_; (focus (rfl)))
  | (refine zwh_no ?_ ?_; (focus (rfl)))
  | refine zwr_frz ?_)
local macro_rules | `(tactic| walk_at "w") => `(tactic| repeat (walk_at "ds"))
local macro_rules | `(tactic| walk_at "u") => `(tactic| repeat first | walk_at "ds" | refine zcm_cons rfl ?_ | refine zcm_nil ?_ | refine zfor_cons rfl ?_ | refine zfor_nil ?_)
local macro_rules | `(tactic| walk_at "p") => `(tactic| repeat first | refine zwt_and ?_ | refine zwt_or ?_ | refine zwe_and ?_ | refine zwe_or ?_ | walk_at "ds" | refine zcm_cons rfl ?_ | refine zcm_nil ?_ | refine zfor_cons rfl ?_ | refine zfor_nil ?_)
local macro_rules | `(tactic| row_arm1w $t:term) => `(tactic| (refine $t; repeat (walk_at "ds")))
local macro_rules | `(tactic| walk_at "be") => `(tactic| (rw [Bool.eq_iff_iff]; (try simp only [Bool.and_eq_true, Bool.or_eq_true, Bool.not_eq_true', decide_eq_true_eq, decide_eq_false_iff_not, beq_iff_eq, bne_iff_ne, ne_eq, List.all_cons, List.all_nil, List.any_cons, List.any_nil, id, and_true, or_false, iff_true, true_iff]); first | done | omega | (simp; done) | (simp; omega) | grind))
local macro_rules | `(tactic| walk_at "pn1") => `(tactic| first | exact pn_int | exact pn_non | exact pn_bl | exact pn_nil | exact pm_int | exact pm_non | exact pm_nil | refine pn_cons ?_ ?_ | refine pm_cons ?_ ?_ | refine pn_map fun _ _ => ?_ | refine pm_map fun _ _ => ?_ | refine pn_app ?_ ?_ | refine pm_app ?_ ?_ | with_reducible refine pn_tup ?_ | with_reducible refine pn_lst ?_ | with_reducible refine pm_tup ?_ | with_reducible refine pm_lst ?_ | (refine pn_str ?_; (focus (decide +kernel))) | (refine pm_str ?_; (focus (decide +kernel))))
local macro_rules | `(tactic| walk_at "pn") => `(tactic| repeat (walk_at "pn1"))
local macro_rules | `(tactic| walk_at "pl") => `(tactic| repeat (walk_at "pl1"))
local macro_rules | `(tactic| walk_at "ds") => `(tactic| first | (refine same_eq ?_ ?_ ?_; (focus (rfl)); (focus (walk_at "pn"; done))) | (refine same_ne ?_ ?_ ?_; (focus (rfl)); (focus (walk_at "pn"; done))) | (refine same_eqO ?_ ?_ ?_; (focus (rfl)); (focus (walk_at "pn"; done))) | (refine same_neO ?_ ?_ ?_; (focus (rfl)); (focus (walk_at "pn"; done))))
local macro_rules | `(tactic| walk_at "sz") => `(tactic| first | omega | (simp [rngD_length]; done) | (simp [rngD_length]; omega))
local macro_rules | `(tactic| walk_at "rp") => `(tactic| first | exact rp_bl | exact rp_non | exact rp_int (by omega))

noncomputable abbrev TT (ns : List Int) (k : Nat) : Tab := tabK (sta ns) k
/-- rows of numbers, truths, texts, nothing, each of less than 1000 -/
def pl : Nat → D → Prop
  | _, .non => True
  | _, .bl _ => True
  | _, .int _ => True
  | _, .str x => strok x = true
  | n + 1, .tup ds => ds.length < 1000 ∧ ∀ d ∈ ds, pl n d
  | n + 1, .lst ds => ds.length < 1000 ∧ ∀ d ∈ ds, pl n d
  | _, _ => False
theorem pl_int {n : Nat} {i : Int} : pl n (.int i) := by unfold pl; trivial
theorem pl_bl {n : Nat} {i : Bool} : pl n (.bl i) := by unfold pl; trivial
theorem pl_non {n : Nat} : pl n .non := by unfold pl; trivial
theorem pl_str {n : Nat} {x : Str} (h : strok x = true) : pl n (.str x) := by unfold pl; exact h
theorem pl_tup {n : Nat} {ds : List D} (l : ds.length < 1000) (h : ∀ d ∈ ds, pl n d) : pl (n + 1) (.tup ds) := by unfold pl; exact ⟨l, h⟩
theorem pl_lst {n : Nat} {ds : List D} (l : ds.length < 1000) (h : ∀ d ∈ ds, pl n d) : pl (n + 1) (.lst ds) := by unfold pl; exact ⟨l, h⟩
theorem pl_nil {n : Nat} : ∀ d ∈ ([] : List D), pl n d := fun _ h => by cases h
theorem pl_cons {n : Nat} {d : D} {ds : List D} (h : pl n d) (t : ∀ x ∈ ds, pl n x) : ∀ x ∈ d :: ds, pl n x := fun x hx => by
  rcases List.mem_cons.mp hx with q | q
  · subst q; exact h
  · exact t x q
theorem pl_map {n : Nat} {α : Type} {L : List α} {f : α → D} (h : ∀ x ∈ L, pl n (f x)) : ∀ d ∈ L.map f, pl n d := fun d hd => by
  obtain ⟨x, hx, rfl⟩ := List.mem_map.mp hd
  exact h x hx
mutual
def fz : D → D
  | .tup ds => .tup (fzL ds)
  | .lst ds => .tup (fzL ds)
  | d => d
def fzL : List D → List D
  | [] => []
  | d :: ds => fz d :: fzL ds
end
theorem fzL_map : ∀ ds : List D, fzL ds = ds.map fz
  | [] => rfl
  | d :: ds => by rw [fzL, fzL_map ds]; rfl
/-- tuples of tuples alone: frozen already -/
def pt : Nat → D → Prop
  | _, .non => True
  | _, .bl _ => True
  | _, .int _ => True
  | _, .str x => strok x = true
  | n + 1, .tup ds => ds.length < 1000 ∧ ∀ d ∈ ds, pt n d
  | _, _ => False
theorem pt_int {n : Nat} {i : Int} : pt n (.int i) := by unfold pt; trivial
theorem pt_bl {n : Nat} {i : Bool} : pt n (.bl i) := by unfold pt; trivial
theorem pt_non {n : Nat} : pt n .non := by unfold pt; trivial
theorem pt_str {n : Nat} {x : Str} (h : strok x = true) : pt n (.str x) := by unfold pt; exact h
theorem pt_tup {n : Nat} {ds : List D} (l : ds.length < 1000) (h : ∀ d ∈ ds, pt n d) : pt (n + 1) (.tup ds) := by unfold pt; exact ⟨l, h⟩
theorem pt_nil {n : Nat} : ∀ d ∈ ([] : List D), pt n d := fun _ h => by cases h
theorem pt_cons {n : Nat} {d : D} {ds : List D} (h : pt n d) (t : ∀ x ∈ ds, pt n x) : ∀ x ∈ d :: ds, pt n x := fun x hx => by
  rcases List.mem_cons.mp hx with q | q
  · subst q; exact h
  · exact t x q
theorem pt_map {n : Nat} {α : Type} {L : List α} {f : α → D} (h : ∀ x ∈ L, pt n (f x)) : ∀ d ∈ L.map f, pt n d := fun d hd => by
  obtain ⟨x, hx, rfl⟩ := List.mem_map.mp hd
  exact h x hx
theorem pt_pl : ∀ {n : Nat} {d : D}, pt n d → pl n d := by
  intro n
  induction n with
  | zero => intro d h; cases d <;> (unfold pt at h; unfold pl; first | exact h | exact h.elim)
  | succ n ih =>
    intro d h
    cases d with
    | tup ds => unfold pt at h; unfold pl; exact ⟨h.1, fun d hd => ih (h.2 d hd)⟩
    | non => unfold pl; trivial
    | bl => unfold pl; trivial
    | int => unfold pl; trivial
    | str => unfold pt at h; unfold pl; exact h
    | _ => unfold pt at h; exact h.elim
theorem fz_pt : ∀ {n : Nat} {d : D}, pt n d → fz d = d := by
  intro n
  induction n with
  | zero => intro d h; cases d <;> first | rfl | (unfold pt at h; exact h.elim)
  | succ n ih =>
    intro d h
    cases d with
    | tup ds =>
      unfold pt at h
      rw [fz, fzL_map]
      congr 1
      exact (List.map_congr_left fun d hd => ih (h.2 d hd)).trans (List.map_id _)
    | lst ds => unfold pt at h; exact h.elim
    | _ => rfl
theorem pl_pn : ∀ {n : Nat} {d : D}, pl n d → pn n d := by
  intro n
  induction n with
  | zero => intro d h; cases d <;> (unfold pl at h; unfold pn; first | exact h | exact h.elim)
  | succ n ih =>
    intro d h
    cases d with
    | tup ds => unfold pl at h; unfold pn; exact fun d hd => ih (h.2 d hd)
    | lst ds => unfold pl at h; unfold pn; exact fun d hd => ih (h.2 d hd)
    | non => unfold pn; trivial
    | bl => unfold pn; trivial
    | int => unfold pn; trivial
    | str => unfold pl at h; unfold pn; exact h
    | _ => unfold pl at h; exact h.elim
local macro_rules | `(tactic| walk_at "pl1") => `(tactic| first | exact pl_int | exact pl_non | exact pl_bl | exact pl_nil | (with_reducible refine pl_tup ?_ ?_; (focus (first | (simp; done) | (simp; omega)))) | (with_reducible refine pl_lst ?_ ?_; (focus (first | (simp; done) | (simp; omega)))) | refine pl_cons ?_ ?_ | refine pl_map fun _ _ => ?_ | exact pt_int | exact pt_non | exact pt_bl | exact pt_nil | (with_reducible refine pt_tup ?_ ?_; (focus (first | (simp; done) | (simp; omega)))) | refine pt_cons ?_ ?_ | refine pt_map fun _ _ => ?_)
local macro_rules | `(tactic| walk_at "ds") => `(tactic| (refine set_fld ?_ ?_ ?_; (focus (show _ ∈ fldF fldL _; decide +kernel)); (focus (exact Nat.le_of_ble_eq_true rfl))))
section
variable {ns : List Int} {k : Nat} {g : G} {P : D → G → Prop} {X : Nat → List D → G → Prop}
theorem gv_0 {ρ : DS.Env} (h : P (.int 60) g) : WE (TT ns k) (.gv 0) ρ g P X := by
  have e : (TT ns k).con 0 = (.int 60) := rfl
  exact vwe_gv (by rw [e]; exact h)
theorem gv_1 {ρ : DS.Env} (h : P (.int 8) g) : WE (TT ns k) (.gv 1) ρ g P X := by
  have e : (TT ns k).con 1 = (.int 8) := rfl
  exact vwe_gv (by rw [e]; exact h)
theorem taken (m : Int) (h0 : 0 < m) (h1 : m < 1073741824) (hg : 0 ≤ g.i) (h : ∀ v g', 0 ≤ v → v < m → 0 ≤ g'.i → P (.int v) g') :
    CF 21 (TT ns (k + 1)) [.row, .int m] g P X := by
  refine zwc_def (S := sta ns) (k := (k)) (i := 21) (d := ⟨n21, ["row", "many"], b21, none⟩) rfl rfl rfl ?_
  show WB _ b21 [.v (.row), .v (.int m), .no, .no] g _ _ _
  unfold b21
  have fin : ∀ (x : Int) (g' : G), 0 ≤ g'.i → P (.int (x % m)) g' := fun x g' q => h _ _ (Int.emod_nonneg _ (by omega)) (Int.emod_lt_of_pos _ h0) q
  walk_at "w"
  refine if_dec (fun hr => ?_) (fun hr => ?_)
  · walk_at "w"
    exact fin _ _ hg
  · walk_at "w"
    have hg1 : 0 ≤ g.i + 1 := by omega
    refine if_dec (fun hl => ?_) (fun hl => ?_)
    · walk_at "w"
      exact fin _ _ hg1
    · have hl : ¬ ((tabK (sta ns) k).scr.length : Int) < g.i + 1 := hl
      walk_at "w"
      obtain ⟨cell, hc, _⟩ := atI_ex (l := (tabK (sta ns) k).scr) (i := g.i + 1 - 1) (by omega) (by omega)
      refine vix_scr hc ?_
      walk_at "w"
      refine if_dec (fun hb => ?_) (fun hb => ?_)
      · walk_at "w"
        exact fin _ _ hg1
      · walk_at "w"
        exact fin _ _ hg1
theorem pick {ds : List D} (h0 : 0 < ds.length) (h1 : ds.length < 1000) (hg : 0 ≤ g.i) (h : ∀ d g', d ∈ ds → 0 ≤ g'.i → P d g') : CF 22 (TT ns (k + 2)) [.row, .lst ds] g P X := by
  refine zwc_def (S := sta ns) (k := (k+1)) (i := 22) (d := ⟨n22, ["row", "kinds"], b22, none⟩) rfl rfl rfl ?_
  show WB _ b22 [.v (.row), .v (.lst ds)] g _ _ _
  unfold b22
  walk_at "w"
  refine taken _ (by omega) (by omega) hg fun v g' v0 v1 hg' => ?_
  obtain ⟨d, hd, hm⟩ := atI_ex (l := ds) v0 v1
  refine vix_lst hd ?_
  exact h _ _ (List.mem_of_getElem? hm) hg'
theorem whole_ok {d : D} {c1 c2 : Bool} (h1 : isInt d = some c1) (h2 : isBool d = some c2) (h : P (.bl (c1 && !c2)) g) : CF 0 (TT ns (k + 1)) [d] g P X := by
  refine zwc_def (S := sta ns) (k := (k)) (i := 0) (d := ⟨n0, ["value"], b0, none⟩) rfl rfl rfl ?_
  show WB _ b0 [.v (d)] g _ _ _
  unfold b0
  walk_at "w"
  refine isi_int h1 ?_
  walk_at "w"
  refine ⟨fun q => ?_, fun q => ?_⟩
  · subst q
    walk_at "w"
    refine isi_bool h2 ?_
    walk_at "w"
    simpa using h
  · subst q
    simpa using h
local macro_rules | `(tactic| walk_at "ds") => `(tactic| (apply whole_ok; exact rfl; exact rfl))
theorem number_ok {i lo hi : Int} (h : P (.bl (decide (lo ≤ i ∧ i ≤ hi))) g) : CF 1 (TT ns (k + 2)) [.int i, .int lo, .int hi] g P X := by
  refine zwc_def (S := sta ns) (k := (k+1)) (i := 1) (d := ⟨n1, ["value", "least", "most"], b1, none⟩) rfl rfl rfl ?_
  show WB _ b1 [.v (.int i), .v (.int lo), .v (.int hi)] g _ _ _
  unfold b1
  walk_at "w"
  exact h
theorem number_no {d : D} {lo hi : Int} {c1 c2 : Bool} (h1 : isInt d = some c1) (h2 : isBool d = some c2) (h3 : (c1 && !c2) = false) (h : P (.bl false) g) : CF 1 (TT ns (k + 2)) [d, .int lo, .int hi] g P X := by
  refine zwc_def (S := sta ns) (k := (k+1)) (i := 1) (d := ⟨n1, ["value", "least", "most"], b1, none⟩) rfl rfl rfl ?_
  show WB _ b1 [.v (d), .v (.int lo), .v (.int hi)] g _ _ _
  unfold b1
  walk_at "w"
  refine whole_ok h1 h2 ?_
  rw [h3]
  walk_at "w"
  exact h
local macro_rules | `(tactic| walk_at "ds") => `(tactic| refine number_ok ?_)
theorem want_ok {i lo hi : Int} (q : lo ≤ i ∧ i ≤ hi) (h : P (.int i) g) : CF 4 (TT ns (k + 3)) [.int i, .int lo, .int hi] g P X := by
  refine zwc_def (S := sta ns) (k := (k+2)) (i := 4) (d := ⟨n4, ["value", "least", "most"], b4, none⟩) rfl rfl rfl ?_
  show WB _ b4 [.v (.int i), .v (.int lo), .v (.int hi)] g _ _ _
  unfold b4
  walk_at "w"
  exact h
theorem want_no {i lo hi : Int} (q : ¬ (lo ≤ i ∧ i ≤ hi)) (h : X 0 [.int i] g) : CF 4 (TT ns (k + 3)) [.int i, .int lo, .int hi] g P X := by
  refine zwc_def (S := sta ns) (k := (k+2)) (i := 4) (d := ⟨n4, ["value", "least", "most"], b4, none⟩) rfl rfl rfl ?_
  show WB _ b4 [.v (.int i), .v (.int lo), .v (.int hi)] g _ _ _
  unfold b4
  walk_at "w"
  exact h
theorem want_no2 {d : D} {lo hi : Int} {c1 c2 : Bool} (h1 : isInt d = some c1) (h2 : isBool d = some c2) (h3 : (c1 && !c2) = false) (h : X 0 [d] g) : CF 4 (TT ns (k + 3)) [d, .int lo, .int hi] g P X := by
  refine zwc_def (S := sta ns) (k := (k+2)) (i := 4) (d := ⟨n4, ["value", "least", "most"], b4, none⟩) rfl rfl rfl ?_
  show WB _ b4 [.v (d), .v (.int lo), .v (.int hi)] g _ _ _
  unfold b4
  walk_at "w"
  refine number_no h1 h2 h3 ?_
  walk_at "w"
  exact h
local macro_rules | `(tactic| walk_at "ds") => `(tactic| (refine want_ok ?_ ?_; (focus (first | omega | (simp only [List.length_cons, List.length_nil, List.length_map, List.length_append]; omega)))))
theorem row_ok {d : D} {c : Bool} (h1 : isSeq d = some c) (h : P (.bl c) g) : CF 2 (TT ns (k + 1)) [d] g P X := by
  refine zwc_def (S := sta ns) (k := (k)) (i := 2) (d := ⟨n2, ["value"], b2, none⟩) rfl rfl rfl ?_
  show WB _ b2 [.v (d)] g _ _ _
  unfold b2
  walk_at "w"
  refine isT_lt h1 ?_
  exact h
local macro_rules | `(tactic| walk_at "ds") => `(tactic| (apply row_ok; focus rfl))
theorem truth_ok {a b : Bool} (h : P (.bl (a == b)) g) : CF 25 (TT ns (k + 1)) [.bl a, .bl b] g P X := by
  refine zwc_def (S := sta ns) (k := (k)) (i := 25) (d := ⟨n25, ["found", "due"], b25, none⟩) rfl rfl rfl ?_
  show WB _ b25 [.v (.bl a), .v (.bl b)] g _ _ _
  unfold b25
  walk_at "w"
  exact h
local macro_rules | `(tactic| walk_at "ds") => `(tactic| refine truth_ok ?_)
theorem alike_ok : ∀ (n : Nat) (d : D), pl n d → ∀ (k : Nat) (g : G) (P : D → G → Prop) (X : Nat → List D → G → Prop), P (.bl true) g → CF 23 (TT ns (k + n + 1)) [d, d] g P X := by
  intro n
  induction n with
  | zero =>
    intro d hp k g P X h
    refine zwc_def (S := sta ns) (k := (k)) (i := 23) (d := ⟨n23, ["found", "due"], b23, none⟩) rfl rfl rfl ?_
    show WB _ b23 [.v (d), .v (d), .no] g _ _ _
    unfold b23
    cases d with
    | non => walk_at "w"
             exact h
    | bl b =>
      walk_at "w"
      simpa using h
    | int i =>
      walk_at "w"
      simpa using h
    | str x =>
      unfold pl at hp
      walk_at "w"
      refine vpc_eqSelf (n := 0) rfl (pn_str hp) (by omega) ?_
      walk_at "w"
      exact h
    | _ => exact hp.elim
  | succ n ih =>
    intro d hp k g P X h
    refine zwc_def (S := sta ns) (k := (k+n+1)) (i := 23) (d := ⟨n23, ["found", "due"], b23, none⟩) rfl rfl rfl ?_
    show WB _ b23 [.v (d), .v (d), .no] g _ _ _
    unfold b23
    have comp : ∀ (ds : List D) (x : D), (∀ d ∈ ds, pl n d) → (∀ i d, atI ds i = some d → ∀ scr g (P : D → G → Prop) X, P d g → WIx scr x (.int i) g P X) → ∀ (g : G) (PL : List D → G → Prop) (X : Nat → List D → G → Prop), PL [] g →
        WCm (tabK (sta ns) (k + n + 1)) (Tg.one 2) (.ex (.not (.call 23 (.cons (.ix (.v 0) (.v 2)) (.cons (.ix (.v 1) (.v 2)) .nil))))) (.v 2) [.v x, .v x, .no] (rngD 0 (ds.length : Int).toNat) g PL X := by
      intro ds x hd hx g PL X hP
      refine zcm (p := fun _ => false) (f := id) (fun d hm => ?_) ?_
      · obtain ⟨i, hi, rfl⟩ := rngD_mem hm
        refine ⟨_, rfl, fun g P X hP => ?_, fun q => by cases q⟩
        show WC _ _ [.v x, .v x, .v (.int (0 + (i : Int)))] g P X
        obtain ⟨e, he, hpe'⟩ := atI_ex (l := ds) (i := 0 + (i : Int)) (by omega) (by omega)
        have hpe : pl n e := hd e (List.mem_of_getElem? hpe')
        walk_at "w"
        refine hx _ _ he _ _ _ _ ?_
        walk_at "w"
        refine hx _ _ he _ _ _ _ ?_
        walk_at "w"
        refine ih e hpe k _ _ _ ?_
        walk_at "w"
        exact hP
      · have : List.filter (fun _ : D => false) (rngD 0 (ds.length : Int).toNat) = [] := by simp
        rw [this]
        exact hP
    cases d with
    | non => walk_at "w"
             exact h
    | bl b =>
      walk_at "w"
      simpa using h
    | int i =>
      walk_at "w"
      simpa using h
    | str x =>
      unfold pl at hp
      walk_at "w"
      refine vpc_eqSelf (n := 0) rfl (pn_str hp) (by omega) ?_
      walk_at "w"
      exact h
    | tup ds =>
      have hp1 : ds.length < 1000 := hp.1
      walk_at "w"
      refine comp ds (.tup ds) hp.2 (fun i d e scr g P X hP => vix_tup e hP) _ _ _ ?_
      walk_at "w"
      exact h
    | lst ds =>
      have hp1 : ds.length < 1000 := hp.1
      walk_at "w"
      refine comp ds (.lst ds) hp.2 (fun i d e scr g P X hP => vix_lst e hP) _ _ _ ?_
      walk_at "w"
      exact h
    | _ => exact hp.elim
theorem alike_eq (n : Nat) {x y : D} {K : Nat} (e : x = y) (hp : pl n y) (hk : n < K) (h : P (.bl true) g) : CF 23 (TT ns K) [x, y] g P X := by
  subst e
  obtain ⟨j, rfl⟩ : ∃ j, K = j + n + 1 := ⟨K - n - 1, by omega⟩
  exact alike_ok n x hp j _ _ _ h
theorem alike6 {x y : D} (e : x = y) (hp : pl 6 y) (h : P (.bl true) g) : CF 23 (TT ns (k + 7)) [x, y] g P X := alike_eq 6 e hp (by omega) h
local macro_rules | `(tactic| walk_at "ds") => `(tactic| (refine alike6 rfl ?_ ?_; (focus (walk_at "pl"; done))))
theorem frozen_ok : ∀ (n : Nat) (d : D), pl n d → ∀ (k : Nat) (g : G) (P : D → G → Prop) (X : Nat → List D → G → Prop), P (fz d) g → CF 3 (TT ns (k + n + 1)) [d] g P X := by
  intro n
  induction n with
  | zero =>
    intro d hp k g P X h
    refine zwc_def (S := sta ns) (k := (k)) (i := 3) (d := ⟨n3, ["value"], b3, none⟩) rfl rfl rfl ?_
    show WB _ b3 [.v (d), .no] g _ _ _
    unfold b3
    cases d with
    | non => walk_at "w"
             exact h
    | bl b => walk_at "w"
              exact h
    | int b => walk_at "w"
               exact h
    | str b => walk_at "w"
               exact h
    | _ => exact hp.elim
  | succ n ih =>
    intro d hp k g P X h
    refine zwc_def (S := sta ns) (k := (k+n+1)) (i := 3) (d := ⟨n3, ["value"], b3, none⟩) rfl rfl rfl ?_
    show WB _ b3 [.v (d), .no] g _ _ _
    unfold b3
    have cmp : ∀ (x : D) (ds : List D), (∀ d ∈ ds, pl n d) → ∀ (g : G) (PL : List D → G → Prop) (X : Nat → List D → G → Prop), PL (fzL ds) g →
        WCm (tabK (sta ns) (k + n + 1)) (Tg.one 1) .no (.call 3 (.cons (.v 1) .nil)) [.v x, .no] ds g PL X := by
      intro x ds hp2 g PL X hP
      refine zcm (p := fun _ => true) (f := fz) (fun d hm => ⟨_, rfl, fun g P X hP => ?_, fun _ g P X hP => ?_⟩) ?_
      · walk_at "w"
        exact hP
      · walk_at "w"
        exact ih d (hp2 d hm) k _ _ _ hP
      · rw [List.filter_eq_self.mpr fun _ _ => rfl, ← fzL_map]
        exact hP
    cases d with
    | non => walk_at "w"
             exact h
    | bl b => walk_at "w"
              exact h
    | int b => walk_at "w"
               exact h
    | str b => walk_at "w"
               exact h
    | tup ds =>
      obtain ⟨hp1, hp2⟩ := (hp : ds.length < 1000 ∧ ∀ d ∈ ds, pl n d)
      walk_at "w"
      refine cmp _ ds hp2 _ _ _ ?_
      walk_at "w"
      exact h
    | lst ds =>
      obtain ⟨hp1, hp2⟩ := (hp : ds.length < 1000 ∧ ∀ d ∈ ds, pl n d)
      walk_at "w"
      refine cmp _ ds hp2 _ _ _ ?_
      walk_at "w"
      exact h
    | _ => exact hp.elim
theorem frozen_at (n : Nat) {d : D} {K : Nat} (hp : pl n d) (hk : n < K) (h : P (fz d) g) : CF 3 (TT ns K) [d] g P X := by
  obtain ⟨j, rfl⟩ : ∃ j, K = j + n + 1 := ⟨K - n - 1, by omega⟩
  exact frozen_ok n d hp j _ _ _ h
theorem want_row_loop {x : D} {i : Nat} {most : Int} {N : DS.Env → G → Prop} {R : D → G → Prop} {XS : Nat → List D → DS.Env → G → Prop} {ds : List D} {s3 s4 : Sl}
    (hit : ∀ d ∈ ds, ∀ (g : G) (P : D → G → Prop) (X : Nat → List D → G → Prop), P (.bl true) g → CF i (TT ns k) [d] g P X)
    (h : ∀ s3 s4, N [.v x, .v (.fn i), .v (.int most), s3, s4] g) :
    WFo (tabK (sta ns) k) (Tg.many [3, 4]) (.cons (.ife (.not (.callv 1 (.cons (.v 4) .nil))) (.cons (.raise 1 (.cons (.v 3) .nil)) .nil) .nil) .nil) (enumD 0 ds) [.v x, .v (.fn i), .v (.int most), s3, s4] g N R XS := by
  refine zfor (fun es ρ g' => g' = g ∧ ∃ (n : Nat) (t : List D) (s3 s4 : Sl), es = enumD n t ∧ (∀ y ∈ t, y ∈ ds) ∧ ρ = [.v x, .v (.fn i), .v (.int most), s3, s4]) ⟨rfl, 0, ds, _, _, rfl, fun y hy => hy, rfl⟩ ?_ ?_
  · rintro e es ρ g' ⟨rfl, n, t, s3, s4, e, ht, rfl⟩
    cases t with
    | nil => cases e
    | cons y t =>
      cases e
      refine ⟨_, rfl, ?_⟩
      walk_at "w"
      refine hit y (ht y List.mem_cons_self) _ _ _ ?_
      walk_at "w"
      exact ⟨n + 1, t, _, _, rfl, fun y hy => ht y (List.mem_cons_of_mem _ hy), rfl⟩
  · rintro ρ g' ⟨rfl, n, t, s3, s4, e, ht, rfl⟩
    exact h _ _
theorem want_row_ok (n : Nat) {d : D} {ds : List D} {i : Nat} {most : Int} (hd : d = .tup ds ∨ d = .lst ds) (hp : ∀ d ∈ ds, pl n d) (hl : ds.length < 1000) (hm : (ds.length : Int) ≤ most) (hk : n < k)
    (hit : ∀ d ∈ ds, ∀ (g : G) (P : D → G → Prop) (X : Nat → List D → G → Prop), P (.bl true) g → CF i (TT ns (k + 1)) [d] g P X)
    (h : P (.tup (fzL ds)) g) : CF 5 (TT ns (k + 2)) [d, .fn i, .int most] g P X := by
  refine zwc_def (S := sta ns) (k := (k+1)) (i := 5) (d := ⟨n5, ["value", "is_item", "most"], b5, none⟩) rfl rfl rfl ?_
  show WB _ b5 [.v (d), .v (.fn i), .v (.int most), .no, .no] g _ _ _
  unfold b5
  rcases hd with rfl | rfl
  · walk_at "w"
    refine want_row_loop hit fun s3 s4 => ?_
    walk_at "w"
    refine frozen_at (n + 1) (pl_tup hl hp) (by omega) ?_
    exact h
  · walk_at "w"
    refine want_row_loop hit fun s3 s4 => ?_
    walk_at "w"
    refine frozen_at (n + 1) (pl_lst hl hp) (by omega) ?_
    exact h
theorem want_row_non {i : Nat} {most : Int} (h : X 1 [.non] g) : CF 5 (TT ns (k + 2)) [.non, .fn i, .int most] g P X := by
  refine zwc_def (S := sta ns) (k := (k+1)) (i := 5) (d := ⟨n5, ["value", "is_item", "most"], b5, none⟩) rfl rfl rfl ?_
  show WB _ b5 [.v (.non), .v (.fn i), .v (.int most), .no, .no] g _ _ _
  unfold b5
  walk_at "w"
  exact h
theorem want_row_many {d : D} {ds : List D} {i : Nat} {most : Int} (hd : d = .tup ds ∨ d = .lst ds) (hl : ds.length < 1000) (hm : most < (ds.length : Int))
    (hit : ∀ d ∈ ds, ∀ (g : G) (P : D → G → Prop) (X : Nat → List D → G → Prop), P (.bl true) g → CF i (TT ns (k + 1)) [d] g P X)
    (h : X 2 [.int most] g) : CF 5 (TT ns (k + 2)) [d, .fn i, .int most] g P X := by
  refine zwc_def (S := sta ns) (k := (k+1)) (i := 5) (d := ⟨n5, ["value", "is_item", "most"], b5, none⟩) rfl rfl rfl ?_
  show WB _ b5 [.v (d), .v (.fn i), .v (.int most), .no, .no] g _ _ _
  unfold b5
  rcases hd with rfl | rfl
  · walk_at "w"
    refine want_row_loop hit fun s3 s4 => ?_
    walk_at "w"
    exact h
  · walk_at "w"
    refine want_row_loop hit fun s3 s4 => ?_
    walk_at "w"
    exact h
theorem want_row_no {d b : D} {us vs : List D} {i : Nat} {most : Int} (hd : d = .tup (us ++ b :: vs) ∨ d = .lst (us ++ b :: vs)) (hl : (us ++ b :: vs).length < 1000)
    (hit : ∀ d ∈ us, ∀ (g : G) (P : D → G → Prop) (X : Nat → List D → G → Prop), P (.bl true) g → CF i (TT ns (k + 1)) [d] g P X)
    (hno : ∀ (g : G) (P : D → G → Prop) (X : Nat → List D → G → Prop), P (.bl false) g → CF i (TT ns (k + 1)) [b] g P X)
    (h : X 1 [.int us.length] g) : CF 5 (TT ns (k + 2)) [d, .fn i, .int most] g P X := by
  refine zwc_def (S := sta ns) (k := (k+1)) (i := 5) (d := ⟨n5, ["value", "is_item", "most"], b5, none⟩) rfl rfl rfl ?_
  show WB _ b5 [.v (d), .v (.fn i), .v (.int most), .no, .no] g _ _ _
  unfold b5
  have loop : ∀ (x : D) (N : DS.Env → G → Prop), WFo (tabK (sta ns) (k + 1)) (Tg.many [3, 4]) b5_L0 (enumD 0 (us ++ b :: vs)) [.v x, .v (.fn i), .v (.int most), .no, .no] g N P (fun c fs _ g1 => X c fs g1) := fun x N => by
    refine zfor (fun es ρ g' => g' = g ∧ ∃ (n : Nat) (t : List D) (s3 s4 : Sl), es = enumD n (t ++ b :: vs) ∧ (∀ y ∈ t, y ∈ us) ∧ n + t.length = us.length ∧ ρ = [.v x, .v (.fn i), .v (.int most), s3, s4]) ⟨rfl, 0, us, _, _, rfl, fun y hy => hy, by omega, rfl⟩ ?_ ?_
    · rintro e es ρ g' ⟨rfl, n, t, s3, s4, e, ht, hn, rfl⟩
      cases t with
      | nil =>
        cases e
        refine ⟨_, rfl, ?_⟩
        walk_at "w"
        refine hno _ _ _ ?_
        walk_at "w"
        have : n = us.length := by simpa using hn
        rw [this]
        exact h
      | cons y t =>
        cases e
        refine ⟨_, rfl, ?_⟩
        walk_at "w"
        refine hit y (ht y List.mem_cons_self) _ _ _ ?_
        walk_at "w"
        exact ⟨n + 1, t, _, _, rfl, fun y hy => ht y (List.mem_cons_of_mem _ hy), by rw [List.length_cons] at hn; omega, rfl⟩
    · rintro ρ g' ⟨rfl, n, t, s3, s4, e, ht, hn, rfl⟩
      cases t <;> cases e
  rcases hd with rfl | rfl
  · walk_at "w"
    exact loop _ _
  · walk_at "w"
    exact loop _ _
end
end Law

set_option Elab.async false
set_option linter.all false
set_option maxRecDepth 100000
set_option maxHeartbeats 4000000
/-! clouds, in plain words -/
namespace Law
open PySem L2 DS
structure Cl where
  b : Int
  t : Int
  e : Int
  deriving DecidableEq
def ky (x : Cl) : List Int := [x.b, x.t, x.e]
def cl (x : Cl) : D := .tup [.int x.b, .int x.t, .int x.e]
theorem ky_inj {x y : Cl} (h : ky x = ky y) : x = y := by
  cases x; cases y
  simp [ky] at h
  obtain ⟨h1, h2, h3⟩ := h
  subst h1; subst h2; subst h3
  rfl
def okC (x : Cl) : Prop := 0 ≤ x.b ∧ x.b < x.t ∧ x.t ≤ 60 ∧ 0 ≤ x.e ∧ x.e ≤ 8
structure okCs (ls : List Cl) : Prop where
  few : ls.length ≤ 8
  ok : ∀ x ∈ ls, okC x
/-- the most at a height -/
def hgt (ls : List Cl) (h : Int) : Int := (maxI (0 :: (ls.filter fun x => decide (x.b ≤ h ∧ h < x.t)).map Cl.e)).getD 0
theorem hgt_some (ls : List Cl) (h : Int) : maxI (0 :: (ls.filter fun x => decide (x.b ≤ h ∧ h < x.t)).map Cl.e) = some (hgt ls h) := mxI_of (by simp)
theorem hgt_nn (ls : List Cl) (h : Int) : 0 ≤ hgt ls h := by
  obtain ⟨m, h1, h2, h3⟩ := maxI_some (ns := 0 :: (ls.filter fun x => decide (x.b ≤ h ∧ h < x.t)).map Cl.e) (by simp)
  rw [hgt_some] at h1
  cases h1
  exact h3 0 (by simp)
theorem hgt_le {ls : List Cl} (hl : ∀ x ∈ ls, okC x) (h : Int) : hgt ls h ≤ 8 := by
  obtain ⟨m, h1, h2, h3⟩ := maxI_some (ns := 0 :: (ls.filter fun x => decide (x.b ≤ h ∧ h < x.t)).map Cl.e) (by simp)
  rw [hgt_some] at h1
  cases h1
  rcases List.mem_cons.mp h2 with q | q
  · omega
  · obtain ⟨x, hx, q⟩ := List.mem_map.mp q
    have := hl x (List.mem_filter.mp hx).1
    unfold okC at this
    omega
/-- one more height above the spans told so far -/
def step (f : Int → Int) (n : Int) (P : List Cl) : List Cl :=
  if f n > 0 then
    (if P.length > 0 ∧ ((P.getLast?).map Cl.t) = some n ∧ ((P.getLast?).map Cl.e) = some (f n) then P.dropLast ++ [⟨((P.getLast?).getD ⟨0, 0, 0⟩).b, n + 1, f n⟩] else P ++ [⟨n, n + 1, f n⟩])
  else P
/-- spans of equal values above 0 of the first heights -/
def prof (f : Int → Int) : Nat → List Cl
  | 0 => []
  | n + 1 => step f n (prof f n)
theorem step_no {f : Int → Int} {n : Int} {P : List Cl} (h : ¬ 0 < f n) : step f n P = P := by unfold step; rw [if_neg h]
theorem step_new {f : Int → Int} {n : Int} {P : List Cl} (h : 0 < f n) (hp : ∀ u x, P = u ++ [x] → ¬ (x.t = (n : Int) ∧ x.e = f n)) : step f n P = P ++ [⟨n, n + 1, f n⟩] := by
  unfold step
  rw [if_pos h, if_neg]
  rintro ⟨h1, h2, h3⟩
  rcases List.eq_nil_or_concat P with q | ⟨u, x, q⟩
  · subst q; simp at h1
  · rw [List.concat_eq_append] at q
    have := hp u x q
    subst q
    simp at h2 h3
    exact this ⟨h2, h3⟩
theorem step_on {f : Int → Int} {n : Int} {u : List Cl} {x : Cl} (h : 0 < f n) (h1 : x.t = n) (h2 : x.e = f n) : step f n (u ++ [x]) = u ++ [⟨x.b, n + 1, f n⟩] := by
  unfold step
  rw [if_pos h, if_pos (by simp [h1, h2])]
  simp
/-- what the law's walk has behind the heights below n: closed spans, where the open one begins -/
def runI (f : Int → Int) (n : Nat) (F : List Cl) (b : Int) : Prop :=
  0 ≤ b ∧ b < n ∧ (∀ x ∈ F, x.t ≤ b) ∧ prof f n = F ++ (if 0 < f (n - 1) then [⟨b, n, f (n - 1)⟩] else [])
theorem runI_one {f : Int → Int} : runI f 1 [] 0 := by
  refine ⟨by omega, by omega, (fun x hx => by cases hx), ?_⟩
  unfold prof prof
  by_cases h : 0 < f 0
  · rw [show ((0 : Nat) : Int) = 0 from rfl, step_new h (fun u x q => by simp at q)]
    simp [h]
  · rw [show ((0 : Nat) : Int) = 0 from rfl, step_no h]
    simp [h]
theorem runI_same {f : Int → Int} {n : Nat} {F : List Cl} {b : Int} (h : runI f n F b) (e : f n = f (n - 1)) : runI f (n + 1) F b := by
  obtain ⟨h1, h2, h3, h4⟩ := h
  refine ⟨h1, by omega, h3, ?_⟩
  show step f n (prof f n) = _
  rw [h4]
  rw [show (((n + 1 : Nat) : Int) - 1) = (n : Int) by omega]
  by_cases c : 0 < f n
  · rw [if_pos (by omega), step_on c (by rfl) (by exact e.symm)]
    rw [if_pos c]
    rfl
  · rw [if_neg (by omega), if_neg c, step_no c]
theorem runI_new {f : Int → Int} {n : Nat} {F : List Cl} {b : Int} (h : runI f n F b) (e : f n ≠ f (n - 1)) : runI f (n + 1) (F ++ (if 0 < f (n - 1) then [⟨b, n, f (n - 1)⟩] else [])) n := by
  obtain ⟨h1, h2, h3, h4⟩ := h
  have ht : ∀ x ∈ F ++ (if 0 < f (n - 1) then [(⟨b, n, f (n - 1)⟩ : Cl)] else []), x.t ≤ n := fun x hx => by
    rcases List.mem_append.mp hx with q | q
    · have := h3 x q; omega
    · split at q
      · rw [List.mem_singleton.mp q]; exact Int.le_refl _
      · cases q
  refine ⟨by omega, by omega, ht, ?_⟩
  show step f n (prof f n) = _
  rw [h4]
  rw [show (((n + 1 : Nat) : Int) - 1) = (n : Int) by omega]
  by_cases c : 0 < f n
  · rw [if_pos c, step_new c]
    · rfl
    · intro u x q
      by_cases c2 : 0 < f (n - 1)
      · rw [if_pos c2] at q
        have := List.append_inj_right' q rfl
        simp at this
        rw [← this]
        intro z
        exact e (z.2.symm)
      · rw [if_neg c2, List.append_nil] at q
        have := h3 x (by rw [q]; simp)
        omega
  · rw [if_neg c, List.append_nil, step_no c]
/-- the spans lie apart, are told rightly -/
theorem prof_ok {f : Int → Int} (h8 : ∀ n, f n ≤ 8) : ∀ n : Nat, (∀ x ∈ prof f n, 0 ≤ x.b ∧ x.b < x.t ∧ x.t ≤ n ∧ 0 < x.e ∧ x.e ≤ 8) ∧ (prof f n).Pairwise (fun x y => x.t ≤ y.b)
  | 0 => ⟨(fun x hx => by cases hx), List.Pairwise.nil⟩
  | n + 1 => by
    obtain ⟨h1, h2⟩ := prof_ok h8 n
    have h8n := h8 n
    show (∀ x ∈ step f n (prof f n), _) ∧ (step f n (prof f n)).Pairwise _
    have up : ∀ x ∈ prof f n, 0 ≤ x.b ∧ x.b < x.t ∧ x.t ≤ ((n + 1 : Nat) : Int) ∧ 0 < x.e ∧ x.e ≤ 8 := fun x hx => by have := h1 x hx; omega
    by_cases c : 0 < f n
    · by_cases d : ∃ u x, prof f n = u ++ [x] ∧ x.t = (n : Int) ∧ x.e = f n
      · obtain ⟨u, x, q, d1, d2⟩ := d
        rw [q] at h1 h2 up ⊢
        rw [step_on c d1 d2]
        rw [List.pairwise_append] at h2 ⊢
        have hx := h1 x (by simp)
        refine ⟨fun y hy => ?_, h2.1, List.pairwise_singleton _ _, fun y hy z hz => ?_⟩
        · rcases List.mem_append.mp hy with z | z
          · exact up y (List.mem_append_left _ z)
          · rw [List.mem_singleton.mp z]
            dsimp only
            omega
        · rw [List.mem_singleton.mp hz]
          exact h2.2.2 y hy x (by simp)
      · rw [step_new c fun u x q z => d ⟨u, x, q, z.1, z.2⟩]
        rw [List.pairwise_append]
        refine ⟨fun y hy => ?_, h2, List.pairwise_singleton _ _, fun y hy z hz => ?_⟩
        · rcases List.mem_append.mp hy with z | z
          · exact up y z
          · rw [List.mem_singleton.mp z]
            dsimp only
            omega
        · rw [List.mem_singleton.mp hz]
          exact (h1 y hy).2.2.1
    · rw [step_no c]
      exact ⟨up, h2⟩
/-- at a height the spans tell what they were told of -/
theorem prof_at {f : Int → Int} (h0 : ∀ n, 0 ≤ f n) (h8 : ∀ n, f n ≤ 8) : ∀ (n : Nat) (h : Int), 0 ≤ h → ((prof f n).filter fun x => decide (x.b ≤ h ∧ h < x.t)).map Cl.e = if h < n ∧ 0 < f h then [f h] else []
  | 0, h, hh => by rw [if_neg (by omega)]; rfl
  | n + 1, h, hh => by
    have ih := prof_at h0 h8 n h hh
    have hok := (prof_ok h8 n).1
    show ((step f n (prof f n)).filter _).map Cl.e = _
    by_cases c : 0 < f n
    · by_cases d : ∃ u x, prof f n = u ++ [x] ∧ x.t = (n : Int) ∧ x.e = f n
      · obtain ⟨u, x, q, d1, d2⟩ := d
        rw [q] at ih hok ⊢
        rw [step_on c d1 d2]
        rw [List.filter_append, List.map_append] at ih ⊢
        have hx := hok x (by simp)
        by_cases e : h = n
        · subst e
          rw [if_neg (by omega)] at ih
          rw [if_pos ⟨by omega, c⟩]
          have hu := (List.append_eq_nil_iff.mp ih).1
          rw [hu]
          have : decide (x.b ≤ (n : Int) ∧ (n : Int) < (n : Int) + 1) = true := decide_eq_true (by omega)
          simp only [List.filter_cons, this, if_true, List.filter_nil, List.map_cons, List.map_nil, List.nil_append]
        · have e1 : ([x].filter fun x => decide (x.b ≤ h ∧ h < x.t)).map Cl.e = ([(⟨x.b, n + 1, f n⟩ : Cl)].filter fun x => decide (x.b ≤ h ∧ h < x.t)).map Cl.e := by
            by_cases k : x.b ≤ h ∧ h < x.t
            · simp [List.filter_cons, k, show h < (n : Int) + 1 by omega, d2]
            · have : ¬ (x.b ≤ h ∧ h < (n : Int) + 1) := by omega
              simp [List.filter_cons, k, this]
          rw [← e1, ih]
          by_cases k : h < n
          · simp [k, show h < (n : Int) + 1 by omega]
          · simp [k, show ¬ h < (n : Int) + 1 by omega]
      · rw [step_new c fun u x q z => d ⟨u, x, q, z.1, z.2⟩, List.filter_append, List.map_append, ih]
        by_cases e : h = n
        · subst e
          have k : decide ((n : Int) ≤ (n : Int) ∧ (n : Int) < (n : Int) + 1) = true := decide_eq_true (by omega)
          rw [if_neg (by omega), if_pos ⟨by omega, c⟩]
          simp only [List.filter_cons, k, if_true, List.filter_nil, List.map_cons, List.map_nil, List.nil_append]
        · have : ¬ ((n : Int) ≤ h ∧ h < (n : Int) + 1) := by omega
          by_cases k : h < n
          · simp [List.filter_cons, this, k, show h < (n : Int) + 1 by omega]
          · simp [List.filter_cons, this, k, show ¬ h < (n : Int) + 1 by omega]
    · rw [step_no c, ih]
      by_cases e : h = n
      · subst e
        simp [c]
      · by_cases k : h < n
        · simp [k, show h < (n : Int) + 1 by omega]
        · simp [k, show ¬ h < (n : Int) + 1 by omega]
theorem prof_congr {f h : Int → Int} : ∀ n : Nat, (∀ i : Int, 0 ≤ i → i < n → f i = h i) → prof f n = prof h n
  | 0, _ => rfl
  | n + 1, e => by
    have e1 := prof_congr n fun i h0 h1 => e i h0 (by omega)
    show step f n (prof f n) = step h n (prof h n)
    rw [e1]
    unfold step
    rw [e n (by omega) (by omega)]
/-- the profile of the spans of a profile -/
theorem prof_prof {f : Int → Int} (h0 : ∀ n, 0 ≤ f n) (h8 : ∀ n, f n ≤ 8) : prof (hgt (prof f 60)) 60 = prof f 60 := by
  refine prof_congr 60 fun i i0 i1 => ?_
  unfold hgt
  rw [prof_at h0 h8 60 i i0]
  have := h0 i
  split
  · rename_i c
    show (maxI [0, f i]).getD 0 = f i
    simp [maxI]
    omega
  · rename_i c
    show (maxI [0]).getD 0 = f i
    simp [maxI]
    omega
end Law

set_option Elab.async false
set_option linter.all false
set_option maxRecDepth 100000
set_option maxHeartbeats 4000000
set_option pp.deepTerms false
set_option pp.deepTerms.threshold 8
namespace Law
open PySem L2 DS
local macro_rules | `(tactic| walk_at "ds") => `(tactic| first
  | (apply vwe_v; exact rfl)
  | (apply vwe_o; exact rfl)
  | refine vwe_int ?_
  | refine vwe_bin ?_
  | refine vwe_ix ?_
  | refine vwe_cmp ?_
  | refine vwe_neg ?_
  | refine zwe_call ?_
  | refine vwe_cons ?_
  | refine vwe_nil ?_
  | refine vwe_bi ?_
  | refine vwe_non ?_
  | refine vwe_bl ?_
  | refine vwe_str ?_
  | refine vwe_ty ?_
  | refine vwe_tup ?_
  | refine vwe_one ?_
  | refine vwe_and ?_
  | refine vwe_or ?_
  | refine vwe_not ?_
  | refine vwe_ite ?_
  | refine vwe_ow ?_
  | refine vwl_lst ?_
  | refine vwe_isT ?_
  | refine vwt_one ?_
  | refine vwt_and ?_
  | refine vwt_or ?_
  | refine vwt_not ?_
  | refine vwt_val ?_
  | refine vwr_cons ?_
  | refine vwr_nil ?_
  | refine vws_ret ?_
  | refine vws_ife ?_
  | refine zws_set ?_
  | refine zws_par ?_
  | refine zws_setL ?_
  | refine zws_setW ?_
  | refine vws_expr ?_
  | (apply vws_row; exact rfl)
  | refine vix_row0 ?_
  | refine vix_row1 ?_
  | refine vix_row2 ?_
  | refine vix_row3 ?_
  | (apply vix_tup; exact rfl)
  | (apply vix_lst; exact rfl)
  | refine vpo_add ?_
  | refine vpo_sub ?_
  | (refine vpo_mul ?_ ?_; (focus (omega)))
  | (refine vpo_div ?_ ?_; (focus (omega)))
  | (refine vpo_mod ?_ ?_; (focus (omega)))
  | (refine vpo_pow ?_ ?_; (focus (decide)))
  | refine vpc_lt ?_
  | refine vpc_le ?_
  | refine vpc_gt ?_
  | refine vpc_ge ?_
  | refine vpc_eqI ?_
  | refine vpc_neI ?_
  | refine vpc_eqB ?_
  | refine vpc_neB ?_
  | (apply vpc_isN; exact rfl)
  | (apply vpc_notN; exact rfl)
  | refine if_not ?_
  | refine if_tt ?_
  | refine if_ff ?_
  | (apply isT_tl; exact rfl)
  | (apply isT_lt; exact rfl)
  | (apply isi_int; exact rfl)
  | (apply isi_bool; exact rfl)
  | (apply isi_str; exact rfl)
  | (apply isi_tuple; exact rfl)
  | (apply isi_list; exact rfl)
  | refine vpc_eqN ?_
  | refine vpc_eqNil ?_
  | refine vwc_no ?_
  | refine vwc_ex ?_
  | refine zwl_lc ?_
  | refine vwi_any ?_
  | refine vwi_r1 ?_
  | refine vwi_r2 ?_
  | refine vws_raise ?_
  | refine zws_for ?_
  | refine zws_try ?_
  | (refine try_yes ?_ ?_; (focus (rfl)))
  | (refine try_no ?_ ?_; (focus (rfl)))
  | refine len1 ?_
  | (refine rep_ok ?_ ?_; (focus (walk_at "rp")))
  | (refine rep_ne ?_ ?_; (focus (walk_at "rp")))
  | (refine cons_eq ?_ ?_; (focus (walk_at "pn"; done)))
  | (refine cons_ne ?_ ?_; (focus (walk_at "pn"; done)))
  | refine nil_neN ?_
  | (refine nil_eq (fun _ _ => ?_) ?_; (focus (walk_at "pn"; done)))
  | (refine nil_ne (fun _ _ => ?_) ?_; (focus (walk_at "pn"; done)))
  | (apply vwe_exf; exact rfl)
  | refine vws_asg ?_
  | refine vws_pass ?_
  | refine ex_bl ?_
  | (refine r1_rfl ?_ ?_; (focus (omega)))
  | (refine rg1_rfl ?_ ?_; (focus (omega)))
  | refine ex_int ?_
  | (apply bi_rfl; exact rfl)
  | (apply it_rfl; exact rfl)
  | refine par_rfl ?_
  | (apply row_rfl; exact rfl)
  | (apply zasg; exact rfl)
  | (refine r2_rfl ?_ ?_; (focus (omega)))
  | refine vwo_no ?_
  | refine vwo_ex ?_
  | refine vwe_sl ?_
  | (apply sl_rfl; exact rfl)
  | (apply zws_mtL; exact rfl)
  | refine vwl_rg1 ?_
  | refine vwl_rg2 ?_
  | (refine rg2_rfl ?_ ?_; (focus (omega)))
  | refine vwl_bl ?_
  | (apply zbl_list; exact rfl)
  | refine vwe_fld ?_
  | refine vws_doc ?_
  | refine vws_retN ?_
  | refine vwe_trg1 ?_
  | refine vwi_enum ?_
  | (apply ls_rfl; exact rfl)
  | refine zws_par3 ?_
  | refine par3_rfl ?_
  | (refine ml_app ?_ ?_; (focus (rw [sizeLine_eq]; simp only [List.length_cons, List.length_nil, List.length_append, List.length_map]; omega)))
  | refine zwe_chain ?_
  | refine vwe_gf ?_
  | refine vwe_gc ?_
  | refine vwe_isC ?_
  | (apply isC_rfl; exact rfl)
  | refine vwe_eqI ?_
  | (apply vwq_pl; exact rfl)
  | (apply zwq_eq; exact rfl)
  | (apply zwq_ne; exact rfl)
  | (apply zwe_callv; exact rfl)
  | refine zwe_meth ?_
  | (apply mt_rfl; exact rfl)
  | refine zwe_make ?_
  | (apply zws_setF; exact rfl)
  | (apply fld_rfl; exact rfl)
  | refine vwe_trg2 ?_
  | (refine And.intro (sz_small ?_) ?_; (focus (walk_at "sz")))
  | fail)
local macro_rules | `(tactic| walk_at "ds") => `(tactic| first
  | (apply env_is; (focus (dsimp only [List.set, wipeE, Tg.slots, frzE, ownL, List.getElem?_cons_succ, List.getElem?_cons_zero, clr, List.map, Sl.clr])))
  | refine g_rfl ?_
  | refine vch_le_le ?_
  | refine vch_le_lt ?_
  | refine vch_lt_le ?_
  | refine vch_lt_lt ?_
  | (refine if_yes ?_ ?_; (focus (first | omega | rfl | (simp only [List.length_cons, List.length_nil, List.length_map, List.length_append]; omega))))
  | (refine if_nay ?_ ?_; (focus (first | omega | (simp only [List.length_cons, List.length_nil, List.length_map, List.length_append]; omega))))
  | refine if_and ?_
  | refine if_or ?_
  | refine if_self ?_
  | refine len_mt ?_
  | refine len_ml ?_
  | refine all2d ?_
  | refine all2 ?_
  | refine all1 ?_
  | (refine vpo_lst ?_ ?_; (focus (refine sz_small ?_; walk_at "sz")))
  | (refine vpo_tup ?_ ?_; (focus (refine sz_small ?_; walk_at "sz")))
  | refine rr2 ?_
  | refine rr3 ?_
  | refine rr4 ?_
  | refine rr5 ?_
  | refine zws_tryM ?_
  | refine zwh_nil ?_
  | (refine zwh_yes ?_ ?_; (focus (rfl)))
  | (refine zwh_no ?_ ?_; (focus (rfl)))
  | refine zwr_frz ?_)
local macro_rules | `(tactic| walk_at "w") => `(tactic| repeat (walk_at "ds"))
local macro_rules | `(tactic| walk_at "u") => `(tactic| repeat first | walk_at "ds" | refine zcm_cons rfl ?_ | refine zcm_nil ?_ | refine zfor_cons rfl ?_ | refine zfor_nil ?_)
local macro_rules | `(tactic| walk_at "p") => `(tactic| repeat first | refine zwt_and ?_ | refine zwt_or ?_ | refine zwe_and ?_ | refine zwe_or ?_ | walk_at "ds" | refine zcm_cons rfl ?_ | refine zcm_nil ?_ | refine zfor_cons rfl ?_ | refine zfor_nil ?_)
local macro_rules | `(tactic| row_arm1w $t:term) => `(tactic| (refine $t; repeat (walk_at "ds")))
local macro_rules | `(tactic| walk_at "be") => `(tactic| (rw [Bool.eq_iff_iff]; (try simp only [Bool.and_eq_true, Bool.or_eq_true, Bool.not_eq_true', decide_eq_true_eq, decide_eq_false_iff_not, beq_iff_eq, bne_iff_ne, ne_eq, List.all_cons, List.all_nil, List.any_cons, List.any_nil, id, and_true, or_false, iff_true, true_iff]); first | done | omega | (simp; done) | (simp; omega) | grind))
local macro_rules | `(tactic| walk_at "pn1") => `(tactic| first | exact pn_int | exact pn_non | exact pn_bl | exact pn_nil | exact pm_int | exact pm_non | exact pm_nil | refine pn_cons ?_ ?_ | refine pm_cons ?_ ?_ | refine pn_map fun _ _ => ?_ | refine pm_map fun _ _ => ?_ | refine pn_app ?_ ?_ | refine pm_app ?_ ?_ | with_reducible refine pn_tup ?_ | with_reducible refine pn_lst ?_ | with_reducible refine pm_tup ?_ | with_reducible refine pm_lst ?_ | (refine pn_str ?_; (focus (decide +kernel))) | (refine pm_str ?_; (focus (decide +kernel))))
local macro_rules | `(tactic| walk_at "pn") => `(tactic| repeat (walk_at "pn1"))
local macro_rules | `(tactic| walk_at "pl") => `(tactic| repeat (walk_at "pl1"))
local macro_rules | `(tactic| walk_at "ds") => `(tactic| first | (refine same_eq ?_ ?_ ?_; (focus (rfl)); (focus (walk_at "pn"; done))) | (refine same_ne ?_ ?_ ?_; (focus (rfl)); (focus (walk_at "pn"; done))) | (refine same_eqO ?_ ?_ ?_; (focus (rfl)); (focus (walk_at "pn"; done))) | (refine same_neO ?_ ?_ ?_; (focus (rfl)); (focus (walk_at "pn"; done))))
local macro_rules | `(tactic| walk_at "sz") => `(tactic| first | omega | (simp [rngD_length]; done) | (simp [rngD_length]; omega))
local macro_rules | `(tactic| walk_at "rp") => `(tactic| first | exact rp_bl | exact rp_non | exact rp_int (by omega))

local macro_rules | `(tactic| walk_at "ds") => `(tactic| refine gv_0 ?_)
local macro_rules | `(tactic| walk_at "ds") => `(tactic| refine gv_1 ?_)
local macro_rules | `(tactic| walk_at "pl1") => `(tactic| first | exact pl_int | exact pl_non | exact pl_bl | exact pl_nil | (with_reducible refine pl_tup ?_ ?_; (focus (first | (simp; done) | (simp; omega)))) | (with_reducible refine pl_lst ?_ ?_; (focus (first | (simp; done) | (simp; omega)))) | refine pl_cons ?_ ?_ | refine pl_map fun _ _ => ?_ | exact pt_int | exact pt_non | exact pt_bl | exact pt_nil | (with_reducible refine pt_tup ?_ ?_; (focus (first | (simp; done) | (simp; omega)))) | refine pt_cons ?_ ?_ | refine pt_map fun _ _ => ?_)
local macro_rules | `(tactic| walk_at "ds") => `(tactic| (refine set_fld ?_ ?_ ?_; (focus (show _ ∈ fldF fldL _; decide +kernel)); (focus (exact Nat.le_of_ble_eq_true rfl))))
local macro_rules | `(tactic| walk_at "ds") => `(tactic| (apply whole_ok; exact rfl; exact rfl))
local macro_rules | `(tactic| walk_at "ds") => `(tactic| refine number_ok ?_)
local macro_rules | `(tactic| walk_at "ds") => `(tactic| (refine want_ok ?_ ?_; (focus (first | omega | (simp only [List.length_cons, List.length_nil, List.length_map, List.length_append]; omega)))))
local macro_rules | `(tactic| walk_at "ds") => `(tactic| (apply row_ok; focus rfl))
local macro_rules | `(tactic| walk_at "ds") => `(tactic| refine truth_ok ?_)
local macro_rules | `(tactic| walk_at "ds") => `(tactic| (refine alike6 rfl ?_ ?_; (focus (walk_at "pl"; done))))
def sky (ls : List Cl) : D := .ins 3 [("layers", .tup (ls.map cl))]
theorem iv_split {l n x : Int} {u v : List Int} (h : u ++ x :: v = iv l n) : x = l + u.length ∧ x < n := by
  have h1 : (u ++ x :: v)[u.length]? = some x := by simp
  have h2 : x ∈ iv l n := by rw [← h]; simp
  have hm := iv_mem.mp h2
  have hlen := congrArg List.length h
  rw [iv_len, List.length_append, List.length_cons] at hlen
  rw [h] at h1
  have h3 := iv_at (l := l) (n := n) (t := l + u.length) ⟨by omega, by omega⟩
  rw [show (l + (u.length : Int) - l).toNat = u.length by omega, h1] at h3
  exact ⟨Option.some.inj h3, hm.2⟩
theorem cl_pt {x : Cl} : pt 1 (cl x) := pt_tup (by simp) (pt_cons pt_int (pt_cons pt_int (pt_cons pt_int pt_nil)))
theorem cl_pl {n : Nat} {x : Cl} : pl (n + 1) (cl x) := pl_tup (by simp) (pl_cons pl_int (pl_cons pl_int (pl_cons pl_int pl_nil)))
theorem cl_pm {n : Nat} {x : Cl} : pm (n + 1) (cl x) := pm_tup (pm_cons pm_int (pm_cons pm_int (pm_cons pm_int pm_nil)))
theorem cls_pm {n : Nat} {ls : List Cl} : pm (n + 2) (.tup (ls.map cl)) := pm_tup (pm_map fun _ _ => cl_pm)
theorem clsL_pm {n : Nat} {ls : List Cl} : pm (n + 2) (.lst (ls.map cl)) := pm_lst (pm_map fun _ _ => cl_pm)
theorem cl_inj {x y : Cl} : cl x = cl y ↔ x = y := ⟨fun h => by
  cases x; cases y
  simp [cl] at h
  obtain ⟨h1, h2, h3⟩ := h
  subst h1; subst h2; subst h3
  rfl, fun h => by rw [h]⟩
theorem cls_inj {xs ys : List Cl} : xs.map cl = ys.map cl ↔ xs = ys := ⟨fun h => (List.map_inj_right fun _ _ => cl_inj.mp).mp h, fun h => by rw [h]⟩
theorem cls_fz (ls : List Cl) : fzL (ls.map cl) = ls.map cl := by
  rw [fzL_map, List.map_map]
  exact List.map_congr_left fun x _ => fz_pt cl_pt
local macro_rules | `(tactic| walk_at "pl1") => `(tactic| first | exact cl_pl)
local macro_rules | `(tactic| walk_at "pn1") => `(tactic| first | exact cl_pm | exact pm_pn cl_pm | exact cls_pm | exact pm_pn cls_pm | exact clsL_pm | exact pm_pn clsL_pm)
local macro_rules | `(tactic| walk_at "ds") => `(tactic| (apply zws_at; exact rfl))
local macro_rules | `(tactic| walk_at "ds") => `(tactic| (apply at_end; exact rfl))
local macro_rules | `(tactic| walk_at "ds") => `(tactic| (apply vix_lst; (focus (exact atI_last))))
/-- a row, as a list or as a tuple -/
def sq (c : Bool) (ds : List D) : D := if c then .lst ds else .tup ds
theorem sq_seq {c : Bool} {ds : List D} : isSeq (sq c ds) = some true := by cases c <;> rfl
theorem sq_len {scr : List Int} {c : Bool} {ds : List D} {K : D → Prop} (h : K (.int ds.length)) : ∃ r, biS scr .len [sq c ds] = some r ∧ K r := by cases c <;> exact ⟨_, rfl, h⟩
theorem sq_ix {scr : List Int} {c : Bool} {ds : List D} {i : Int} {d : D} {g : G} {P : D → G → Prop} {X : Nat → List D → G → Prop} (e : atI ds i = some d) (h : P d g) : WIx scr (sq c ds) (.int i) g P X := by
  cases c
  · exact vix_tup e h
  · exact vix_lst e h
theorem sq_fz {c : Bool} {ds : List D} : fz (sq c ds) = .tup (fzL ds) := by cases c <;> rfl
theorem sq_pl {n : Nat} {c : Bool} {ds : List D} (l : ds.length < 1000) (h : ∀ d ∈ ds, pl n d) : pl (n + 1) (sq c ds) := by
  cases c
  · exact pl_tup l h
  · exact pl_lst l h
def mixC (x : Cl) (c : Bool) : D := sq c [.int x.b, .int x.t, .int x.e]
local macro_rules | `(tactic| walk_at "ds") => `(tactic| refine sq_len ?_)
local macro_rules | `(tactic| walk_at "ds") => `(tactic| (apply sq_ix; exact rfl))
section
variable {ns : List Int} {k : Nat} {g : G} {P : D → G → Prop} {X : Nat → List D → G → Prop}
theorem layer_ok {x : Cl} (hx : okC x) (h : P (.bl true) g) : CF 6 (TT ns (k + 3)) [cl x] g P X := by
  unfold okC at hx
  refine zwc_def (S := sta ns) (k := (k+2)) (i := 6) (d := ⟨n6, ["value"], b6, none⟩) rfl rfl rfl ?_
  show WB _ b6 [.v (cl x)] g _ _ _
  unfold b6
  unfold cl
  walk_at "w"
  rw [decide_eq_true (by omega)]
  walk_at "w"
  exact h
theorem layer_okM {x : Cl} {c : Bool} (hx : okC x) (h : P (.bl true) g) : CF 6 (TT ns (k + 3)) [mixC x c] g P X := by
  unfold okC at hx
  refine zwc_def (S := sta ns) (k := (k+2)) (i := 6) (d := ⟨n6, ["value"], b6, none⟩) rfl rfl rfl ?_
  show WB _ b6 [.v (mixC x c)] g _ _ _
  unfold b6
  unfold mixC
  walk_at "w"
  refine row_ok sq_seq ?_
  walk_at "w"
  rw [decide_eq_true (by omega)]
  walk_at "w"
  exact h
theorem sky_mk {ls : List Cl} {d : D} (hd : d = .tup (ls.map cl) ∨ d = .lst (ls.map cl)) (hl : okCs ls) (h : P (sky (srtR ky ls)) g) : CN 3 (TT ns (k + 5)) [d] g P X := by
  refine zwc_ini (S := sta ns) (k := (k+4)) (i := 7) (c := 3) (d := ⟨n7, ["self", "layers"], b7, some 3⟩) rfl rfl rfl ?_
  show WB _ b7 [.oi 3 [], .v (d)] g _ _ _
  unfold b7
  walk_at "w"
  have := hl.few
  refine want_row_ok (k := k + 2) 1 hd (fun d hd => ?_) (by rw [List.length_map]; omega) (by rw [List.length_map]; omega) (by omega) (fun d hd g P X hP => ?_) ?_
  · obtain ⟨x, hx, rfl⟩ := List.mem_map.mp hd
    exact cl_pl
  · obtain ⟨x, hx, rfl⟩ := List.mem_map.mp hd
    exact layer_ok (hl.ok x hx) hP
  · rw [cls_fz]
    walk_at "w"
    refine srtT_ti (r := ky) (L := ls) (fun x _ => by simp [ky]) ?_
    walk_at "w"
    exact ⟨_, rfl, h⟩
/-- rows that are layers, mixed -/
inductive Mix : List D → List Cl → Prop
  | nil : Mix [] []
  | cons {x : Cl} {c : Bool} {ds : List D} {ls : List Cl} (r : Mix ds ls) : Mix (mixC x c :: ds) (x :: ls)
theorem Mix.len : ∀ {ds : List D} {ls : List Cl}, Mix ds ls → ds.length = ls.length
  | _, _, .nil => rfl
  | _, _, .cons r => by rw [List.length_cons, List.length_cons, r.len]
theorem mix_fz {x : Cl} {c : Bool} : fz (mixC x c) = cl x := by unfold mixC; rw [sq_fz]; rfl
theorem Mix.fz : ∀ {ds : List D} {ls : List Cl}, Mix ds ls → fzL ds = ls.map cl
  | _, _, .nil => rfl
  | _, _, .cons r => by rw [fzL, r.fz, mix_fz]; rfl
theorem Mix.mem : ∀ {ds : List D} {ls : List Cl}, Mix ds ls → ∀ d ∈ ds, ∃ x ∈ ls, ∃ c, d = mixC x c
  | _, _, .nil, d, h => by cases h
  | _, _, .cons r, d, h => by
    rcases List.mem_cons.mp h with z | z
    · exact ⟨_, List.mem_cons_self, _, z⟩
    · obtain ⟨x, hx, q⟩ := r.mem d z
      exact ⟨x, List.mem_cons_of_mem _ hx, q⟩
theorem sky_mkM {ls : List Cl} {c : Bool} {ds : List D} (hm : Mix ds ls) (hl : okCs ls) (h : P (sky (srtR ky ls)) g) : CN 3 (TT ns (k + 5)) [sq c ds] g P X := by
  refine zwc_ini (S := sta ns) (k := (k+4)) (i := 7) (c := 3) (d := ⟨n7, ["self", "layers"], b7, some 3⟩) rfl rfl rfl ?_
  show WB _ b7 [.oi 3 [], .v (sq c ds)] g _ _ _
  unfold b7
  walk_at "w"
  have := hl.few
  have hlen := hm.len
  refine want_row_ok (k := k + 2) (ds := ds) 1 (by cases c; exact .inl rfl; exact .inr rfl) (fun d hd => ?_) (by omega) (by omega) (by omega) (fun d hd g P X hP => ?_) ?_
  · obtain ⟨x, hx, c1, rfl⟩ := hm.mem d hd
    exact sq_pl (by simp) (pl_cons pl_int (pl_cons pl_int (pl_cons pl_int pl_nil)))
  · obtain ⟨x, hx, c1, rfl⟩ := hm.mem d hd
    exact layer_okM (hl.ok x hx) hP
  · rw [hm.fz]
    walk_at "w"
    refine srtT_ti (r := ky) (L := ls) (fun x _ => by simp [ky]) ?_
    walk_at "w"
    exact ⟨_, rfl, h⟩
theorem sky_eq {l1 l2 : List Cl} (h : P (.bl (decide (l1 = l2))) g) : CF 8 (TT ns (k + 1)) [sky l1, sky l2] g P X := by
  refine zwc_def (S := sta ns) (k := (k)) (i := 8) (d := ⟨n8, ["self", "other"], b8, none⟩) rfl rfl rfl ?_
  show WB _ b8 [.v (sky l1), .v (sky l2)] g _ _ _
  unfold b8
  walk_at "w"
  refine vpc_eqO ?_
  refine vpc_eqP (n := 2) (m := 2) (cls_pm (n := 0)) (cls_pm (n := 0)) (by omega) (by omega) (by rw [D.tup.injEq, cls_inj]) ?_
  walk_at "w"
  exact h
theorem sky_same {l1 : List Cl} (h : P (.bl true) g) : CF 8 (TT ns (k + 1)) [sky l1, sky l1] g P X := sky_eq (by rw [decide_eq_true rfl]; exact h)
theorem sky_eq_tup {ls : List Cl} {ds : List D} (h : P (.bl false) g) : CF 8 (TT ns (k + 1)) [sky ls, .tup ds] g P X := by
  refine zwc_def (S := sta ns) (k := (k)) (i := 8) (d := ⟨n8, ["self", "other"], b8, none⟩) rfl rfl rfl ?_
  show WB _ b8 [.v (sky ls), .v (.tup ds)] g _ _ _
  unfold b8
  walk_at "w"
  exact h
local macro_rules | `(tactic| walk_at "ds") => `(tactic| refine sky_eq_tup ?_)
local macro_rules | `(tactic| walk_at "ds") => `(tactic| refine sky_same ?_)
theorem at_ok {ls : List Cl} {t : Int} (hl : ls.length ≤ 100) (t0 : 0 ≤ t) (t1 : t < 60) (h : P (.int (hgt ls t)) g) : CF 9 (TT ns (k + 4)) [sky ls, .int t] g P X := by
  refine zwc_def (S := sta ns) (k := (k+3)) (i := 9) (d := ⟨n9, ["self", "height"], b9, none⟩) rfl rfl rfl ?_
  show WB _ b9 [.v (sky ls), .v (.int t), .no, .no, .no] g _ _ _
  unfold b9
  walk_at "w"
  refine zcmT (p := fun x => decide (x.b ≤ t ∧ t < x.t)) (f := fun x => .int x.e) (fun x hx => ⟨_, rfl, fun g P X hP => ?_, fun hp g P X hP => ?_⟩) ?_
  · walk_at "w"
    exact hP
  · walk_at "w"
    exact hP
  have hle : (ls.filter fun x => decide (x.b ≤ t ∧ t < x.t)).length ≤ 100 := Nat.le_trans (List.length_filter_le _ _) hl
  walk_at "w"
  refine vpo_lst (sz_small ?_) ?_
  · rw [List.length_map, List.length_singleton]; have := Nat.le_trans (List.length_filter_le (fun x => decide (x.b ≤ t ∧ t < x.t)) ls) hl; omega
  walk_at "w"
  have e : D.lst ([.int 0] ++ (ls.filter fun x => decide (x.b ≤ t ∧ t < x.t)).map fun x => D.int x.e) = .lst ((0 :: (ls.filter fun x => decide (x.b ≤ t ∧ t < x.t)).map Cl.e).map fun z => D.int z) := by simp
  rw [e]
  refine max_rfl (f := fun z => z) (by rw [List.map_id']; exact hgt_some ls t) ?_
  walk_at "w"
  exact h
local macro_rules | `(tactic| walk_at "ds") => `(tactic| (refine at_ok ?_ ?_ ?_ ?_; (focus (first | omega | (simp only [List.length_cons, List.length_nil, List.length_map, List.length_append]; omega))); (focus (first | omega | (simp only [List.length_cons, List.length_nil, List.length_map, List.length_append]; omega))); (focus (first | omega | (simp only [List.length_cons, List.length_nil, List.length_map, List.length_append]; omega)))))
theorem profile_ok {ls : List Cl} (hl : ls.length ≤ 100) (h : P (.tup ((prof (hgt ls) 60).map cl)) g) : CF 10 (TT ns (k + 5)) [sky ls] g P X := by
  refine zwc_def (S := sta ns) (k := (k+4)) (i := 10) (d := ⟨n10, ["self"], b10, none⟩) rfl rfl rfl ?_
  show WB _ b10 [.v (sky ls), .no, .no, .no] g _ _ _
  unfold b10
  walk_at "w"
  rw [iv_rng0]
  refine zforT (fun u v ρ => ∃ s2 s3, ρ = [.v (sky ls), .ol ((prof (hgt ls) u.length).map cl), s2, s3] ∧ (prof (hgt ls) u.length).length ≤ u.length) ⟨_, _, rfl, by simp [prof]⟩ ?_ ?_
  · rintro u x v ρ hu ⟨s2, s3, rfl, hlen⟩
    refine ⟨_, rfl, ?_⟩
    obtain ⟨hx, hx2⟩ := iv_split hu
    rw [Int.zero_add] at hx
    have e : prof (hgt ls) (u ++ [x]).length = step (hgt ls) x (prof (hgt ls) u.length) := by rw [List.length_append, List.length_singleton, hx]; rfl
    rw [e]
    generalize prof (hgt ls) u.length = Q at hlen ⊢
    have hlen2 : Q.length ≤ 1000 := by omega
    have fin : (step (hgt ls) x Q).length ≤ (u ++ [x]).length := by
      unfold step
      rw [List.length_append, List.length_singleton]
      split
      · split
        · rw [List.length_append, List.length_dropLast, List.length_singleton]; omega
        · rw [List.length_append, List.length_singleton]; omega
      · omega
    walk_at "w"
    by_cases c : 0 < hgt ls x
    · refine if_yes c ?_
      rcases List.eq_nil_or_concat Q with q | ⟨w, y, q⟩
      · subst q
        walk_at "w"
        rw [step_new c (fun u x q => by simp at q)]
        exact ⟨_, _, rfl, by simp⟩
      · rw [List.concat_eq_append] at q
        subst q
        rw [List.map_append]
        have e3 : D.lst (w.map cl ++ [y].map cl) = .lst (w.map cl ++ [cl y]) := rfl
        walk_at "w"
        by_cases c1 : y.t = x
        · refine if_yes c1 ?_
          walk_at "w"
          by_cases c2 : y.e = hgt ls x
          · refine if_yes c2 ?_
            walk_at "w"
            rw [step_on c c1 c2] at fin ⊢
            refine ⟨.v (.int x), .v (.int (hgt ls x)), ?_, fin⟩
            rw [List.map_append]
            exact congrArg (fun z : List D => [Sl.v (sky ls), Sl.ol z, Sl.v (.int x), Sl.v (.int (hgt ls x))]) (set_end (ds := w.map cl) (d := cl y) (e := cl ⟨y.b, x + 1, hgt ls x⟩))
          · refine if_nay c2 ?_
            walk_at "w"
            refine ml_small ?_ ?_
            · rw [← List.map_append, List.length_map]; exact hlen2
            walk_at "w"
            rw [step_new c (fun u' x' q z => by rw [(List.append_inj_right' q rfl : [y] = [x']) |> List.singleton_inj.mp] at c2; exact c2 z.2)] at fin ⊢
            exact ⟨_, _, by rw [List.map_append, List.map_append]; rfl, fin⟩
        · refine if_nay c1 ?_
          walk_at "w"
          refine ml_small ?_ ?_
          · rw [← List.map_append, List.length_map]; exact hlen2
          walk_at "w"
          rw [step_new c (fun u' x' q z => by rw [(List.append_inj_right' q rfl : [y] = [x']) |> List.singleton_inj.mp] at c1; exact c1 z.1)] at fin ⊢
          exact ⟨_, _, by rw [List.map_append, List.map_append]; rfl, fin⟩
    · refine if_nay c ?_
      walk_at "w"
      rw [step_no c] at fin ⊢
      exact ⟨_, _, rfl, fin⟩
  · rintro ρ ⟨s2, s3, rfl, hlen⟩
    walk_at "w"
    exact h
end
end Law

set_option Elab.async false
set_option linter.all false
set_option maxRecDepth 100000
set_option maxHeartbeats 4000000
set_option pp.deepTerms false
set_option pp.deepTerms.threshold 8
namespace Law
open PySem L2 DS
local macro_rules | `(tactic| walk_at "ds") => `(tactic| first
  | (apply vwe_v; exact rfl)
  | (apply vwe_o; exact rfl)
  | refine vwe_int ?_
  | refine vwe_bin ?_
  | refine vwe_ix ?_
  | refine vwe_cmp ?_
  | refine vwe_neg ?_
  | refine zwe_call ?_
  | refine vwe_cons ?_
  | refine vwe_nil ?_
  | refine vwe_bi ?_
  | refine vwe_non ?_
  | refine vwe_bl ?_
  | refine vwe_str ?_
  | refine vwe_ty ?_
  | refine vwe_tup ?_
  | refine vwe_one ?_
  | refine vwe_and ?_
  | refine vwe_or ?_
  | refine vwe_not ?_
  | refine vwe_ite ?_
  | refine vwe_ow ?_
  | refine vwl_lst ?_
  | refine vwe_isT ?_
  | refine vwt_one ?_
  | refine vwt_and ?_
  | refine vwt_or ?_
  | refine vwt_not ?_
  | refine vwt_val ?_
  | refine vwr_cons ?_
  | refine vwr_nil ?_
  | refine vws_ret ?_
  | refine vws_ife ?_
  | refine zws_set ?_
  | refine zws_par ?_
  | refine zws_setL ?_
  | refine zws_setW ?_
  | refine vws_expr ?_
  | (apply vws_row; exact rfl)
  | refine vix_row0 ?_
  | refine vix_row1 ?_
  | refine vix_row2 ?_
  | refine vix_row3 ?_
  | (apply vix_tup; exact rfl)
  | (apply vix_lst; exact rfl)
  | refine vpo_add ?_
  | refine vpo_sub ?_
  | (refine vpo_mul ?_ ?_; (focus (omega)))
  | (refine vpo_div ?_ ?_; (focus (omega)))
  | (refine vpo_mod ?_ ?_; (focus (omega)))
  | (refine vpo_pow ?_ ?_; (focus (decide)))
  | refine vpc_lt ?_
  | refine vpc_le ?_
  | refine vpc_gt ?_
  | refine vpc_ge ?_
  | refine vpc_eqI ?_
  | refine vpc_neI ?_
  | refine vpc_eqB ?_
  | refine vpc_neB ?_
  | (apply vpc_isN; exact rfl)
  | (apply vpc_notN; exact rfl)
  | refine if_not ?_
  | refine if_tt ?_
  | refine if_ff ?_
  | (apply isT_tl; exact rfl)
  | (apply isT_lt; exact rfl)
  | (apply isi_int; exact rfl)
  | (apply isi_bool; exact rfl)
  | (apply isi_str; exact rfl)
  | (apply isi_tuple; exact rfl)
  | (apply isi_list; exact rfl)
  | refine vpc_eqN ?_
  | refine vpc_eqNil ?_
  | refine vwc_no ?_
  | refine vwc_ex ?_
  | refine zwl_lc ?_
  | refine vwi_any ?_
  | refine vwi_r1 ?_
  | refine vwi_r2 ?_
  | refine vws_raise ?_
  | refine zws_for ?_
  | refine zws_try ?_
  | (refine try_yes ?_ ?_; (focus (rfl)))
  | (refine try_no ?_ ?_; (focus (rfl)))
  | refine len1 ?_
  | (refine rep_ok ?_ ?_; (focus (walk_at "rp")))
  | (refine rep_ne ?_ ?_; (focus (walk_at "rp")))
  | (refine cons_eq ?_ ?_; (focus (walk_at "pn"; done)))
  | (refine cons_ne ?_ ?_; (focus (walk_at "pn"; done)))
  | refine nil_neN ?_
  | (refine nil_eq (fun _ _ => ?_) ?_; (focus (walk_at "pn"; done)))
  | (refine nil_ne (fun _ _ => ?_) ?_; (focus (walk_at "pn"; done)))
  | (apply vwe_exf; exact rfl)
  | refine vws_asg ?_
  | refine vws_pass ?_
  | refine ex_bl ?_
  | (refine r1_rfl ?_ ?_; (focus (omega)))
  | (refine rg1_rfl ?_ ?_; (focus (omega)))
  | refine ex_int ?_
  | (apply bi_rfl; exact rfl)
  | (apply it_rfl; exact rfl)
  | refine par_rfl ?_
  | (apply row_rfl; exact rfl)
  | (apply zasg; exact rfl)
  | (refine r2_rfl ?_ ?_; (focus (omega)))
  | refine vwo_no ?_
  | refine vwo_ex ?_
  | refine vwe_sl ?_
  | (apply sl_rfl; exact rfl)
  | (apply zws_mtL; exact rfl)
  | refine vwl_rg1 ?_
  | refine vwl_rg2 ?_
  | (refine rg2_rfl ?_ ?_; (focus (omega)))
  | refine vwl_bl ?_
  | (apply zbl_list; exact rfl)
  | refine vwe_fld ?_
  | refine vws_doc ?_
  | refine vws_retN ?_
  | refine vwe_trg1 ?_
  | refine vwi_enum ?_
  | (apply ls_rfl; exact rfl)
  | refine zws_par3 ?_
  | refine par3_rfl ?_
  | (refine ml_app ?_ ?_; (focus (rw [sizeLine_eq]; simp only [List.length_cons, List.length_nil, List.length_append, List.length_map]; omega)))
  | refine zwe_chain ?_
  | refine vwe_gf ?_
  | refine vwe_gc ?_
  | refine vwe_isC ?_
  | (apply isC_rfl; exact rfl)
  | refine vwe_eqI ?_
  | (apply vwq_pl; exact rfl)
  | (apply zwq_eq; exact rfl)
  | (apply zwq_ne; exact rfl)
  | (apply zwe_callv; exact rfl)
  | refine zwe_meth ?_
  | (apply mt_rfl; exact rfl)
  | refine zwe_make ?_
  | (apply zws_setF; exact rfl)
  | (apply fld_rfl; exact rfl)
  | refine vwe_trg2 ?_
  | (refine And.intro (sz_small ?_) ?_; (focus (walk_at "sz")))
  | fail)
local macro_rules | `(tactic| walk_at "ds") => `(tactic| first
  | (apply env_is; (focus (dsimp only [List.set, wipeE, Tg.slots, frzE, ownL, List.getElem?_cons_succ, List.getElem?_cons_zero, clr, List.map, Sl.clr])))
  | refine g_rfl ?_
  | refine vch_le_le ?_
  | refine vch_le_lt ?_
  | refine vch_lt_le ?_
  | refine vch_lt_lt ?_
  | (refine if_yes ?_ ?_; (focus (first | omega | rfl | (simp only [List.length_cons, List.length_nil, List.length_map, List.length_append]; omega))))
  | (refine if_nay ?_ ?_; (focus (first | omega | (simp only [List.length_cons, List.length_nil, List.length_map, List.length_append]; omega))))
  | refine if_and ?_
  | refine if_or ?_
  | refine if_self ?_
  | refine len_mt ?_
  | refine len_ml ?_
  | refine all2d ?_
  | refine all2 ?_
  | refine all1 ?_
  | (refine vpo_lst ?_ ?_; (focus (refine sz_small ?_; walk_at "sz")))
  | (refine vpo_tup ?_ ?_; (focus (refine sz_small ?_; walk_at "sz")))
  | refine rr2 ?_
  | refine rr3 ?_
  | refine rr4 ?_
  | refine rr5 ?_
  | refine zws_tryM ?_
  | refine zwh_nil ?_
  | (refine zwh_yes ?_ ?_; (focus (rfl)))
  | (refine zwh_no ?_ ?_; (focus (rfl)))
  | refine zwr_frz ?_)
local macro_rules | `(tactic| walk_at "w") => `(tactic| repeat (walk_at "ds"))
local macro_rules | `(tactic| walk_at "u") => `(tactic| repeat first | walk_at "ds" | refine zcm_cons rfl ?_ | refine zcm_nil ?_ | refine zfor_cons rfl ?_ | refine zfor_nil ?_)
local macro_rules | `(tactic| walk_at "p") => `(tactic| repeat first | refine zwt_and ?_ | refine zwt_or ?_ | refine zwe_and ?_ | refine zwe_or ?_ | walk_at "ds" | refine zcm_cons rfl ?_ | refine zcm_nil ?_ | refine zfor_cons rfl ?_ | refine zfor_nil ?_)
local macro_rules | `(tactic| row_arm1w $t:term) => `(tactic| (refine $t; repeat (walk_at "ds")))
local macro_rules | `(tactic| walk_at "be") => `(tactic| (rw [Bool.eq_iff_iff]; (try simp only [Bool.and_eq_true, Bool.or_eq_true, Bool.not_eq_true', decide_eq_true_eq, decide_eq_false_iff_not, beq_iff_eq, bne_iff_ne, ne_eq, List.all_cons, List.all_nil, List.any_cons, List.any_nil, id, and_true, or_false, iff_true, true_iff]); first | done | omega | (simp; done) | (simp; omega) | grind))
local macro_rules | `(tactic| walk_at "pn1") => `(tactic| first | exact pn_int | exact pn_non | exact pn_bl | exact pn_nil | exact pm_int | exact pm_non | exact pm_nil | refine pn_cons ?_ ?_ | refine pm_cons ?_ ?_ | refine pn_map fun _ _ => ?_ | refine pm_map fun _ _ => ?_ | refine pn_app ?_ ?_ | refine pm_app ?_ ?_ | with_reducible refine pn_tup ?_ | with_reducible refine pn_lst ?_ | with_reducible refine pm_tup ?_ | with_reducible refine pm_lst ?_ | (refine pn_str ?_; (focus (decide +kernel))) | (refine pm_str ?_; (focus (decide +kernel))))
local macro_rules | `(tactic| walk_at "pn") => `(tactic| repeat (walk_at "pn1"))
local macro_rules | `(tactic| walk_at "pl") => `(tactic| repeat (walk_at "pl1"))
local macro_rules | `(tactic| walk_at "ds") => `(tactic| first | (refine same_eq ?_ ?_ ?_; (focus (rfl)); (focus (walk_at "pn"; done))) | (refine same_ne ?_ ?_ ?_; (focus (rfl)); (focus (walk_at "pn"; done))) | (refine same_eqO ?_ ?_ ?_; (focus (rfl)); (focus (walk_at "pn"; done))) | (refine same_neO ?_ ?_ ?_; (focus (rfl)); (focus (walk_at "pn"; done))))
local macro_rules | `(tactic| walk_at "sz") => `(tactic| first | omega | (simp [rngD_length]; done) | (simp [rngD_length]; omega))
local macro_rules | `(tactic| walk_at "rp") => `(tactic| first | exact rp_bl | exact rp_non | exact rp_int (by omega))

local macro_rules | `(tactic| walk_at "ds") => `(tactic| refine gv_0 ?_)
local macro_rules | `(tactic| walk_at "ds") => `(tactic| refine gv_1 ?_)
local macro_rules | `(tactic| walk_at "pl1") => `(tactic| first | exact pl_int | exact pl_non | exact pl_bl | exact pl_nil | (with_reducible refine pl_tup ?_ ?_; (focus (first | (simp; done) | (simp; omega)))) | (with_reducible refine pl_lst ?_ ?_; (focus (first | (simp; done) | (simp; omega)))) | refine pl_cons ?_ ?_ | refine pl_map fun _ _ => ?_ | exact pt_int | exact pt_non | exact pt_bl | exact pt_nil | (with_reducible refine pt_tup ?_ ?_; (focus (first | (simp; done) | (simp; omega)))) | refine pt_cons ?_ ?_ | refine pt_map fun _ _ => ?_)
local macro_rules | `(tactic| walk_at "ds") => `(tactic| (refine set_fld ?_ ?_ ?_; (focus (show _ ∈ fldF fldL _; decide +kernel)); (focus (exact Nat.le_of_ble_eq_true rfl))))
local macro_rules | `(tactic| walk_at "ds") => `(tactic| (apply whole_ok; exact rfl; exact rfl))
local macro_rules | `(tactic| walk_at "ds") => `(tactic| refine number_ok ?_)
local macro_rules | `(tactic| walk_at "ds") => `(tactic| (refine want_ok ?_ ?_; (focus (first | omega | (simp only [List.length_cons, List.length_nil, List.length_map, List.length_append]; omega)))))
local macro_rules | `(tactic| walk_at "ds") => `(tactic| (apply row_ok; focus rfl))
local macro_rules | `(tactic| walk_at "ds") => `(tactic| refine truth_ok ?_)
local macro_rules | `(tactic| walk_at "ds") => `(tactic| (refine alike6 rfl ?_ ?_; (focus (walk_at "pl"; done))))
local macro_rules | `(tactic| walk_at "pl1") => `(tactic| first | exact cl_pl)
local macro_rules | `(tactic| walk_at "pn1") => `(tactic| first | exact cl_pm | exact pm_pn cl_pm | exact cls_pm | exact pm_pn cls_pm | exact clsL_pm | exact pm_pn clsL_pm)
local macro_rules | `(tactic| walk_at "ds") => `(tactic| (apply zws_at; exact rfl))
local macro_rules | `(tactic| walk_at "ds") => `(tactic| (apply at_end; exact rfl))
local macro_rules | `(tactic| walk_at "ds") => `(tactic| (apply vix_lst; (focus (exact atI_last))))
local macro_rules | `(tactic| walk_at "ds") => `(tactic| refine sq_len ?_)
local macro_rules | `(tactic| walk_at "ds") => `(tactic| (apply sq_ix; exact rfl))
local macro_rules | `(tactic| walk_at "ds") => `(tactic| refine sky_eq_tup ?_)
local macro_rules | `(tactic| walk_at "ds") => `(tactic| refine sky_same ?_)
local macro_rules | `(tactic| walk_at "ds") => `(tactic| (refine at_ok ?_ ?_ ?_ ?_; (focus (first | omega | (simp only [List.length_cons, List.length_nil, List.length_map, List.length_append]; omega))); (focus (first | omega | (simp only [List.length_cons, List.length_nil, List.length_map, List.length_append]; omega))); (focus (first | omega | (simp only [List.length_cons, List.length_nil, List.length_map, List.length_append]; omega)))))
def mx2 (i j : Int) : Int := if j > i then j else i
def mn2 (i j : Int) : Int := if j < i then j else i
theorem mx2_ok {scr : List Int} {i j : Int} {K : D → Prop} (h : K (.int (mx2 i j))) : ∃ r, biS scr .max [.int i, .int j] = some r ∧ K r := ⟨_, rfl, h⟩
theorem mn2_ok {scr : List Int} {i j : Int} {K : D → Prop} (h : K (.int (mn2 i j))) : ∃ r, biS scr .min [.int i, .int j] = some r ∧ K r := ⟨_, rfl, h⟩
local macro_rules | `(tactic| walk_at "ds") => `(tactic| refine mx2_ok ?_)
local macro_rules | `(tactic| walk_at "ds") => `(tactic| refine mn2_ok ?_)
local macro_rules | `(tactic| walk_at "ds") => `(tactic| (refine profile_ok ?_ ?_; (focus (first | omega | (simp only [List.length_cons, List.length_nil, List.length_map, List.length_append]; omega)))))
theorem mx2_lim {i j : Int} : i ≤ mx2 i j ∧ j ≤ mx2 i j ∧ (mx2 i j = i ∨ mx2 i j = j) := by unfold mx2; split <;> omega
theorem mn2_lim {i j : Int} : mn2 i j ≤ i ∧ mn2 i j ≤ j ∧ (mn2 i j = i ∨ mn2 i j = j) := by unfold mn2; split <;> omega
def optD : Option Int → D
  | none => .non
  | some i => .int i
def ceilL (f : Int → Int) : List Int := (iv 0 60).filter fun t => decide (5 ≤ f t)
/-- runs so far, each by (its length below 0, where it begins), and the height of the open one -/
def thk (f : Int → Int) : Nat → List (Int × Int) × Int
  | 0 => ([], 0)
  | n + 1 => if (n : Int) < 60 ∧ 0 < f n then ((thk f n).1, (thk f n).2 + 1) else ((if 0 < (thk f n).2 then (thk f n).1 ++ [(-(thk f n).2, (n : Int) - (thk f n).2)] else (thk f n).1), 0)
theorem thk_succ (f : Int → Int) (n : Nat) : thk f (n + 1) = if (n : Int) < 60 ∧ 0 < f n then ((thk f n).1, (thk f n).2 + 1) else ((if 0 < (thk f n).2 then (thk f n).1 ++ [(-(thk f n).2, (n : Int) - (thk f n).2)] else (thk f n).1), 0) := rfl
def bst (R : List (Int × Int)) : Int × Option Int := R.foldl (fun b r => if -r.1 > b.1 then (-r.1, some r.2) else b) (0, none)
theorem bst_snoc {R : List (Int × Int)} {r : Int × Int} : bst (R ++ [r]) = if -r.1 > (bst R).1 then (-r.1, some r.2) else bst R := by
  unfold bst
  rw [List.foldl_append]
  rfl
def bsD (R : List (Int × Int)) : D := .tup [.int (bst R).1, optD (bst R).2]
theorem thk_nn (f : Int → Int) : ∀ n : Nat, 0 ≤ (thk f n).2 ∧ (thk f n).2 ≤ n ∧ ((thk f n).1.length : Int) ≤ n
  | 0 => ⟨by simp [thk], by simp [thk], by simp [thk]⟩
  | n + 1 => by
    obtain ⟨h1, h2, h3⟩ := thk_nn f n
    unfold thk
    split
    · refine ⟨?_, ?_, ?_⟩ <;> dsimp only <;> omega
    · refine ⟨by dsimp only; omega, by dsimp only; omega, ?_⟩
      dsimp only
      split
      · rw [List.length_append, List.length_singleton]; omega
      · omega
section
variable {ns : List Int} {k : Nat} {g : G} {P : D → G → Prop} {X : Nat → List D → G → Prop}
theorem ceiling_ok {ls : List Cl} (hl : ls.length ≤ 100) (h : P (optD (ceilL (hgt ls)).head?) g) : CF 11 (TT ns (k + 5)) [sky ls] g P X := by
  refine zwc_def (S := sta ns) (k := (k+4)) (i := 11) (d := ⟨n11, ["self"], b11, none⟩) rfl rfl rfl ?_
  show WB _ b11 [.v (sky ls), .no, .no] g _ _ _
  unfold b11
  walk_at "w"
  rw [iv_rng0]
  refine zcmT (p := fun t => decide (5 ≤ hgt ls t)) (f := fun t => .int t) (fun t hx => ⟨_, rfl, fun g P X hP => ?_, fun hp g P X hP => ?_⟩) ?_
  · have := iv_mem.mp hx
    walk_at "w"
    exact hP
  · walk_at "w"
    exact hP
  walk_at "w"
  unfold ceilL at h
  cases hc : (iv 0 60).filter fun t => decide (5 ≤ hgt ls t) with
  | nil =>
    rw [hc] at h
    walk_at "w"
    exact h
  | cons t r =>
    rw [hc] at h
    walk_at "w"
    refine vix_lst atI_zero ?_
    exact h
theorem clear_ok {ls : List Cl} {a b : Int} (hl : ls.length ≤ 100) (ha : 0 ≤ a ∧ a ≤ 60) (hb : 0 ≤ b ∧ b ≤ 60) (h : P (.bl ((iv a b).all fun t => decide (hgt ls t = 0))) g) : CF 12 (TT ns (k + 5)) [sky ls, .int a, .int b] g P X := by
  refine zwc_def (S := sta ns) (k := (k+4)) (i := 12) (d := ⟨n12, ["self", "first", "last"], b12, none⟩) rfl rfl rfl ?_
  show WB _ b12 [.v (sky ls), .v (.int a), .v (.int b), .no] g _ _ _
  unfold b12
  walk_at "w"
  rw [iv_rng]
  refine zcmA (f := fun t => .bl (decide (hgt ls t = 0))) (fun t hx => ⟨_, rfl, fun g P X hP => ?_⟩) ?_
  · have := iv_mem.mp hx
    walk_at "w"
    exact hP
  walk_at "w"
  refine all_rfl ?_
  exact h
theorem sees_ok {ls : List Cl} {a b m : Int} (hl : ls.length ≤ 100) (ha : 0 ≤ a ∧ a ≤ 60) (hb : 0 ≤ b ∧ b ≤ 60) (h : P (.bl ((iv (mn2 a b) (mx2 a b)).all fun t => decide (hgt ls t ≤ m))) g) : CF 13 (TT ns (k + 5)) [sky ls, .int a, .int b, .int m] g P X := by
  have l1 := @mn2_lim a b
  have l2 := @mx2_lim a b
  refine zwc_def (S := sta ns) (k := (k+4)) (i := 13) (d := ⟨n13, ["self", "first", "last", "most"], b13, none⟩) rfl rfl rfl ?_
  show WB _ b13 [.v (sky ls), .v (.int a), .v (.int b), .v (.int m), .no, .no, .no] g _ _ _
  unfold b13
  walk_at "w"
  rw [iv_rng]
  refine zcmA (f := fun t => .bl (decide (hgt ls t ≤ m))) (fun t hx => ⟨_, rfl, fun g P X hP => ?_⟩) ?_
  · have := iv_mem.mp hx
    walk_at "w"
    exact hP
  walk_at "w"
  refine all_rfl ?_
  exact h
theorem wet_ok {ls : List Cl} (hl : ls.length ≤ 100) (h : P (.int ((iv 0 60).filter fun t => decide (0 < hgt ls t)).length) g) : CF 15 (TT ns (k + 5)) [sky ls] g P X := by
  refine zwc_def (S := sta ns) (k := (k+4)) (i := 15) (d := ⟨n15, ["self"], b15, none⟩) rfl rfl rfl ?_
  show WB _ b15 [.v (sky ls), .no] g _ _ _
  unfold b15
  walk_at "w"
  rw [iv_rng0]
  refine zcmT (p := fun t => decide (0 < hgt ls t)) (f := fun t => .int t) (fun t hx => ⟨_, rfl, fun g P X hP => ?_, fun hp g P X hP => ?_⟩) ?_
  · have := iv_mem.mp hx
    walk_at "w"
    exact hP
  · walk_at "w"
    exact hP
  walk_at "w"
  exact h
def begD (n : Nat) (c : Int) : D := if c = 0 then .non else .int ((n : Int) - c)
theorem thickest_ok {ls : List Cl} (hl : ls.length ≤ 100) (h : P (bsD (thk (hgt ls) 61).1) g) : CF 14 (TT ns (k + 5)) [sky ls] g P X := by
  refine zwc_def (S := sta ns) (k := (k+4)) (i := 14) (d := ⟨n14, ["self"], b14, none⟩) rfl rfl rfl ?_
  show WB _ b14 [.v (sky ls), .no, .no, .no] g _ _ _
  unfold b14
  walk_at "w"
  rw [iv_rng0]
  refine zforT (fun u v ρ => ∃ s1, ρ = [.v (sky ls), s1, .v (bsD (thk (hgt ls) u.length).1), .v (begD u.length (thk (hgt ls) u.length).2)]) ⟨_, rfl⟩ ?_ ?_
  · rintro u x v ρ hu ⟨s1, rfl⟩
    refine ⟨_, rfl, ?_⟩
    obtain ⟨hx, hx2⟩ := iv_split hu
    rw [Int.zero_add] at hx
    obtain ⟨n1, n2, n3⟩ := thk_nn (hgt ls) u.length
    rw [List.length_append, List.length_singleton]
    rw [thk_succ, ← hx]
    have hb : begD u.length (thk (hgt ls) u.length).2 = if (thk (hgt ls) u.length).2 = 0 then .non else .int (x - (thk (hgt ls) u.length).2) := by rw [hx]; rfl
    rw [hb]
    generalize thk (hgt ls) u.length = q at n1 n2 n3 ⊢
    obtain ⟨R, c⟩ := q
    dsimp only at n1 n2 n3 ⊢
    by_cases go : x < 60 ∧ 0 < hgt ls x
    · rw [if_pos go]
      obtain ⟨c1, c2⟩ := go
      by_cases c0 : c = 0
      · rw [if_pos c0]
        walk_at "w"
        refine ⟨.v (.int x), ?_⟩
        unfold begD
        dsimp only
        rw [if_neg (by omega), c0, show (((u.length + 1 : Nat) : Int) - (0 + 1)) = x by omega]
      · rw [if_neg c0]
        walk_at "w"
        refine ⟨.v (.int x), ?_⟩
        unfold begD
        dsimp only
        rw [if_neg (by omega), show (((u.length + 1 : Nat) : Int) - (c + 1)) = x - c by omega]
    · rw [if_neg go]
      by_cases c0 : c = 0
      · rw [if_pos c0, if_neg (show ¬ 0 < c by omega)]
        by_cases c1 : x < 60
        · have c2 : ¬ 0 < hgt ls x := fun z => go ⟨c1, z⟩
          walk_at "w"
          exact ⟨_, rfl⟩
        · walk_at "w"
          exact ⟨_, rfl⟩
      · rw [if_neg c0, if_pos (show 0 < c by omega)]
        unfold bsD
        rw [bst_snoc]
        dsimp only
        by_cases c3 : (bst R).1 < c
        · rw [if_pos (show - -c > (bst R).1 by omega)]
          by_cases c1 : x < 60
          · have c2 : ¬ 0 < hgt ls x := fun z => go ⟨c1, z⟩
            walk_at "w"
            refine ⟨.v (.int x), ?_⟩
            rw [show x - (x - c) = - -c by omega]
            rfl
          · walk_at "w"
            refine ⟨.v (.int x), ?_⟩
            rw [show x - (x - c) = - -c by omega]
            rfl
        · rw [if_neg (show ¬ - -c > (bst R).1 by omega)]
          by_cases c1 : x < 60
          · have c2 : ¬ 0 < hgt ls x := fun z => go ⟨c1, z⟩
            walk_at "w"
            exact ⟨_, rfl⟩
          · walk_at "w"
            exact ⟨_, rfl⟩
  · rintro ρ ⟨s1, rfl⟩
    walk_at "w"
    rw [iv_len] at *
    exact h
end
end Law

set_option Elab.async false
set_option linter.all false
set_option maxRecDepth 100000
set_option maxHeartbeats 4000000
set_option pp.deepTerms false
set_option pp.deepTerms.threshold 8
namespace Law
open PySem L2 DS
local macro_rules | `(tactic| walk_at "ds") => `(tactic| first
  | (apply vwe_v; exact rfl)
  | (apply vwe_o; exact rfl)
  | refine vwe_int ?_
  | refine vwe_bin ?_
  | refine vwe_ix ?_
  | refine vwe_cmp ?_
  | refine vwe_neg ?_
  | refine zwe_call ?_
  | refine vwe_cons ?_
  | refine vwe_nil ?_
  | refine vwe_bi ?_
  | refine vwe_non ?_
  | refine vwe_bl ?_
  | refine vwe_str ?_
  | refine vwe_ty ?_
  | refine vwe_tup ?_
  | refine vwe_one ?_
  | refine vwe_and ?_
  | refine vwe_or ?_
  | refine vwe_not ?_
  | refine vwe_ite ?_
  | refine vwe_ow ?_
  | refine vwl_lst ?_
  | refine vwe_isT ?_
  | refine vwt_one ?_
  | refine vwt_and ?_
  | refine vwt_or ?_
  | refine vwt_not ?_
  | refine vwt_val ?_
  | refine vwr_cons ?_
  | refine vwr_nil ?_
  | refine vws_ret ?_
  | refine vws_ife ?_
  | refine zws_set ?_
  | refine zws_par ?_
  | refine zws_setL ?_
  | refine zws_setW ?_
  | refine vws_expr ?_
  | (apply vws_row; exact rfl)
  | refine vix_row0 ?_
  | refine vix_row1 ?_
  | refine vix_row2 ?_
  | refine vix_row3 ?_
  | (apply vix_tup; exact rfl)
  | (apply vix_lst; exact rfl)
  | refine vpo_add ?_
  | refine vpo_sub ?_
  | (refine vpo_mul ?_ ?_; (focus (omega)))
  | (refine vpo_div ?_ ?_; (focus (omega)))
  | (refine vpo_mod ?_ ?_; (focus (omega)))
  | (refine vpo_pow ?_ ?_; (focus (decide)))
  | refine vpc_lt ?_
  | refine vpc_le ?_
  | refine vpc_gt ?_
  | refine vpc_ge ?_
  | refine vpc_eqI ?_
  | refine vpc_neI ?_
  | refine vpc_eqB ?_
  | refine vpc_neB ?_
  | (apply vpc_isN; exact rfl)
  | (apply vpc_notN; exact rfl)
  | refine if_not ?_
  | refine if_tt ?_
  | refine if_ff ?_
  | (apply isT_tl; exact rfl)
  | (apply isT_lt; exact rfl)
  | (apply isi_int; exact rfl)
  | (apply isi_bool; exact rfl)
  | (apply isi_str; exact rfl)
  | (apply isi_tuple; exact rfl)
  | (apply isi_list; exact rfl)
  | refine vpc_eqN ?_
  | refine vpc_eqNil ?_
  | refine vwc_no ?_
  | refine vwc_ex ?_
  | refine zwl_lc ?_
  | refine vwi_any ?_
  | refine vwi_r1 ?_
  | refine vwi_r2 ?_
  | refine vws_raise ?_
  | refine zws_for ?_
  | refine zws_try ?_
  | (refine try_yes ?_ ?_; (focus (rfl)))
  | (refine try_no ?_ ?_; (focus (rfl)))
  | refine len1 ?_
  | (refine rep_ok ?_ ?_; (focus (walk_at "rp")))
  | (refine rep_ne ?_ ?_; (focus (walk_at "rp")))
  | (refine cons_eq ?_ ?_; (focus (walk_at "pn"; done)))
  | (refine cons_ne ?_ ?_; (focus (walk_at "pn"; done)))
  | refine nil_neN ?_
  | (refine nil_eq (fun _ _ => ?_) ?_; (focus (walk_at "pn"; done)))
  | (refine nil_ne (fun _ _ => ?_) ?_; (focus (walk_at "pn"; done)))
  | (apply vwe_exf; exact rfl)
  | refine vws_asg ?_
  | refine vws_pass ?_
  | refine ex_bl ?_
  | (refine r1_rfl ?_ ?_; (focus (omega)))
  | (refine rg1_rfl ?_ ?_; (focus (omega)))
  | refine ex_int ?_
  | (apply bi_rfl; exact rfl)
  | (apply it_rfl; exact rfl)
  | refine par_rfl ?_
  | (apply row_rfl; exact rfl)
  | (apply zasg; exact rfl)
  | (refine r2_rfl ?_ ?_; (focus (omega)))
  | refine vwo_no ?_
  | refine vwo_ex ?_
  | refine vwe_sl ?_
  | (apply sl_rfl; exact rfl)
  | (apply zws_mtL; exact rfl)
  | refine vwl_rg1 ?_
  | refine vwl_rg2 ?_
  | (refine rg2_rfl ?_ ?_; (focus (omega)))
  | refine vwl_bl ?_
  | (apply zbl_list; exact rfl)
  | refine vwe_fld ?_
  | refine vws_doc ?_
  | refine vws_retN ?_
  | refine vwe_trg1 ?_
  | refine vwi_enum ?_
  | (apply ls_rfl; exact rfl)
  | refine zws_par3 ?_
  | refine par3_rfl ?_
  | (refine ml_app ?_ ?_; (focus (rw [sizeLine_eq]; simp only [List.length_cons, List.length_nil, List.length_append, List.length_map]; omega)))
  | refine zwe_chain ?_
  | refine vwe_gf ?_
  | refine vwe_gc ?_
  | refine vwe_isC ?_
  | (apply isC_rfl; exact rfl)
  | refine vwe_eqI ?_
  | (apply vwq_pl; exact rfl)
  | (apply zwq_eq; exact rfl)
  | (apply zwq_ne; exact rfl)
  | (apply zwe_callv; exact rfl)
  | refine zwe_meth ?_
  | (apply mt_rfl; exact rfl)
  | refine zwe_make ?_
  | (apply zws_setF; exact rfl)
  | (apply fld_rfl; exact rfl)
  | refine vwe_trg2 ?_
  | (refine And.intro (sz_small ?_) ?_; (focus (walk_at "sz")))
  | fail)
local macro_rules | `(tactic| walk_at "ds") => `(tactic| first
  | (apply env_is; (focus (dsimp only [List.set, wipeE, Tg.slots, frzE, ownL, List.getElem?_cons_succ, List.getElem?_cons_zero, clr, List.map, Sl.clr])))
  | refine g_rfl ?_
  | refine vch_le_le ?_
  | refine vch_le_lt ?_
  | refine vch_lt_le ?_
  | refine vch_lt_lt ?_
  | (refine if_yes ?_ ?_; (focus (first | omega | rfl | (simp only [List.length_cons, List.length_nil, List.length_map, List.length_append]; omega))))
  | (refine if_nay ?_ ?_; (focus (first | omega | (simp only [List.length_cons, List.length_nil, List.length_map, List.length_append]; omega))))
  | refine if_and ?_
  | refine if_or ?_
  | refine if_self ?_
  | refine len_mt ?_
  | refine len_ml ?_
  | refine all2d ?_
  | refine all2 ?_
  | refine all1 ?_
  | (refine vpo_lst ?_ ?_; (focus (refine sz_small ?_; walk_at "sz")))
  | (refine vpo_tup ?_ ?_; (focus (refine sz_small ?_; walk_at "sz")))
  | refine rr2 ?_
  | refine rr3 ?_
  | refine rr4 ?_
  | refine rr5 ?_
  | refine zws_tryM ?_
  | refine zwh_nil ?_
  | (refine zwh_yes ?_ ?_; (focus (rfl)))
  | (refine zwh_no ?_ ?_; (focus (rfl)))
  | refine zwr_frz ?_)
local macro_rules | `(tactic| walk_at "w") => `(tactic| repeat (walk_at "ds"))
local macro_rules | `(tactic| walk_at "u") => `(tactic| repeat first | walk_at "ds" | refine zcm_cons rfl ?_ | refine zcm_nil ?_ | refine zfor_cons rfl ?_ | refine zfor_nil ?_)
local macro_rules | `(tactic| walk_at "p") => `(tactic| repeat first | refine zwt_and ?_ | refine zwt_or ?_ | refine zwe_and ?_ | refine zwe_or ?_ | walk_at "ds" | refine zcm_cons rfl ?_ | refine zcm_nil ?_ | refine zfor_cons rfl ?_ | refine zfor_nil ?_)
local macro_rules | `(tactic| row_arm1w $t:term) => `(tactic| (refine $t; repeat (walk_at "ds")))
local macro_rules | `(tactic| walk_at "be") => `(tactic| (rw [Bool.eq_iff_iff]; (try simp only [Bool.and_eq_true, Bool.or_eq_true, Bool.not_eq_true', decide_eq_true_eq, decide_eq_false_iff_not, beq_iff_eq, bne_iff_ne, ne_eq, List.all_cons, List.all_nil, List.any_cons, List.any_nil, id, and_true, or_false, iff_true, true_iff]); first | done | omega | (simp; done) | (simp; omega) | grind))
local macro_rules | `(tactic| walk_at "pn1") => `(tactic| first | exact pn_int | exact pn_non | exact pn_bl | exact pn_nil | exact pm_int | exact pm_non | exact pm_nil | refine pn_cons ?_ ?_ | refine pm_cons ?_ ?_ | refine pn_map fun _ _ => ?_ | refine pm_map fun _ _ => ?_ | refine pn_app ?_ ?_ | refine pm_app ?_ ?_ | with_reducible refine pn_tup ?_ | with_reducible refine pn_lst ?_ | with_reducible refine pm_tup ?_ | with_reducible refine pm_lst ?_ | (refine pn_str ?_; (focus (decide +kernel))) | (refine pm_str ?_; (focus (decide +kernel))))
local macro_rules | `(tactic| walk_at "pn") => `(tactic| repeat (walk_at "pn1"))
local macro_rules | `(tactic| walk_at "pl") => `(tactic| repeat (walk_at "pl1"))
local macro_rules | `(tactic| walk_at "ds") => `(tactic| first | (refine same_eq ?_ ?_ ?_; (focus (rfl)); (focus (walk_at "pn"; done))) | (refine same_ne ?_ ?_ ?_; (focus (rfl)); (focus (walk_at "pn"; done))) | (refine same_eqO ?_ ?_ ?_; (focus (rfl)); (focus (walk_at "pn"; done))) | (refine same_neO ?_ ?_ ?_; (focus (rfl)); (focus (walk_at "pn"; done))))
local macro_rules | `(tactic| walk_at "sz") => `(tactic| first | omega | (simp [rngD_length]; done) | (simp [rngD_length]; omega))
local macro_rules | `(tactic| walk_at "rp") => `(tactic| first | exact rp_bl | exact rp_non | exact rp_int (by omega))

local macro_rules | `(tactic| walk_at "ds") => `(tactic| refine gv_0 ?_)
local macro_rules | `(tactic| walk_at "ds") => `(tactic| refine gv_1 ?_)
local macro_rules | `(tactic| walk_at "pl1") => `(tactic| first | exact pl_int | exact pl_non | exact pl_bl | exact pl_nil | (with_reducible refine pl_tup ?_ ?_; (focus (first | (simp; done) | (simp; omega)))) | (with_reducible refine pl_lst ?_ ?_; (focus (first | (simp; done) | (simp; omega)))) | refine pl_cons ?_ ?_ | refine pl_map fun _ _ => ?_ | exact pt_int | exact pt_non | exact pt_bl | exact pt_nil | (with_reducible refine pt_tup ?_ ?_; (focus (first | (simp; done) | (simp; omega)))) | refine pt_cons ?_ ?_ | refine pt_map fun _ _ => ?_)
local macro_rules | `(tactic| walk_at "ds") => `(tactic| (refine set_fld ?_ ?_ ?_; (focus (show _ ∈ fldF fldL _; decide +kernel)); (focus (exact Nat.le_of_ble_eq_true rfl))))
local macro_rules | `(tactic| walk_at "ds") => `(tactic| (apply whole_ok; exact rfl; exact rfl))
local macro_rules | `(tactic| walk_at "ds") => `(tactic| refine number_ok ?_)
local macro_rules | `(tactic| walk_at "ds") => `(tactic| (refine want_ok ?_ ?_; (focus (first | omega | (simp only [List.length_cons, List.length_nil, List.length_map, List.length_append]; omega)))))
local macro_rules | `(tactic| walk_at "ds") => `(tactic| (apply row_ok; focus rfl))
local macro_rules | `(tactic| walk_at "ds") => `(tactic| refine truth_ok ?_)
local macro_rules | `(tactic| walk_at "ds") => `(tactic| (refine alike6 rfl ?_ ?_; (focus (walk_at "pl"; done))))
local macro_rules | `(tactic| walk_at "pl1") => `(tactic| first | exact cl_pl)
local macro_rules | `(tactic| walk_at "pn1") => `(tactic| first | exact cl_pm | exact pm_pn cl_pm | exact cls_pm | exact pm_pn cls_pm | exact clsL_pm | exact pm_pn clsL_pm)
local macro_rules | `(tactic| walk_at "ds") => `(tactic| (apply zws_at; exact rfl))
local macro_rules | `(tactic| walk_at "ds") => `(tactic| (apply at_end; exact rfl))
local macro_rules | `(tactic| walk_at "ds") => `(tactic| (apply vix_lst; (focus (exact atI_last))))
local macro_rules | `(tactic| walk_at "ds") => `(tactic| refine sq_len ?_)
local macro_rules | `(tactic| walk_at "ds") => `(tactic| (apply sq_ix; exact rfl))
local macro_rules | `(tactic| walk_at "ds") => `(tactic| refine sky_eq_tup ?_)
local macro_rules | `(tactic| walk_at "ds") => `(tactic| refine sky_same ?_)
local macro_rules | `(tactic| walk_at "ds") => `(tactic| (refine at_ok ?_ ?_ ?_ ?_; (focus (first | omega | (simp only [List.length_cons, List.length_nil, List.length_map, List.length_append]; omega))); (focus (first | omega | (simp only [List.length_cons, List.length_nil, List.length_map, List.length_append]; omega))); (focus (first | omega | (simp only [List.length_cons, List.length_nil, List.length_map, List.length_append]; omega)))))
local macro_rules | `(tactic| walk_at "ds") => `(tactic| refine mx2_ok ?_)
local macro_rules | `(tactic| walk_at "ds") => `(tactic| refine mn2_ok ?_)
local macro_rules | `(tactic| walk_at "ds") => `(tactic| (refine profile_ok ?_ ?_; (focus (first | omega | (simp only [List.length_cons, List.length_nil, List.length_map, List.length_append]; omega)))))
def liftL (n : Int) (ls : List Cl) : List Cl := (ls.filter fun x => decide (x.b + n < 60 ∧ 0 < x.t + n)).map fun x => ⟨mx2 0 (x.b + n), mn2 60 (x.t + n), x.e⟩
theorem lift_ok {n : Int} {ls : List Cl} (h : okCs ls) : okCs (liftL n ls) := by
  unfold liftL
  refine ⟨by rw [List.length_map]; exact Nat.le_trans (List.length_filter_le _ _) h.few, fun y hy => ?_⟩
  obtain ⟨x, hx, rfl⟩ := List.mem_map.mp hy
  obtain ⟨h1, h2⟩ := List.mem_filter.mp hx
  have h2 := of_decide_eq_true h2
  have := h.ok x h1
  have a1 := @mx2_lim 0 (x.b + n)
  have a2 := @mn2_lim 60 (x.t + n)
  unfold okC at *
  dsimp only
  omega
/-- without one of them the profile is the same -/
def same (ls : List Cl) (i : Int) : Bool := decide (prof (hgt (ls.eraseIdx i.toNat)) 60 = prof (hgt ls) 60)
def ndL (ls : List Cl) (n : Int) : List Cl := ((iv 0 n).filter (same ls)).map fun i => (ls[i.toNat]?).getD ⟨0, 0, 0⟩
theorem ndL_succ {ls : List Cl} {n : Int} (h : 0 ≤ n) : ndL ls (n + 1) = ndL ls n ++ (if same ls n then [(ls[n.toNat]?).getD ⟨0, 0, 0⟩] else []) := by
  unfold ndL
  rw [iv_snoc h, List.filter_append, List.map_append]
  congr 1
  cases e : same ls n <;> simp [List.filter_cons, e]
theorem okCs_erase {ls : List Cl} (h : okCs ls) (i : Nat) : okCs (ls.eraseIdx i) := ⟨Nat.le_trans (List.length_eraseIdx_le ..) h.few, fun x hx => h.ok x (List.mem_of_mem_eraseIdx hx)⟩
/-- sorted already -/
def srtd (ls : List Cl) : Prop := ls.Pairwise fun x y => ky x ≤ ky y
theorem srtd_eq {ls : List Cl} (h : srtd ls) : srtR ky ls = ls := srtR_of (fun x _ y _ e => ky_inj e) h
theorem srtd_srt (ls : List Cl) : srtd (srtR ky ls) := srtR_pw ky ls
theorem srtd_erase {ls : List Cl} (h : srtd ls) (i : Nat) : srtd (ls.eraseIdx i) := h.sublist (List.eraseIdx_sublist ls i)
theorem okCs_srt {ls : List Cl} (h : okCs ls) : okCs (srtR ky ls) := ⟨by rw [(srtR_perm ky ls).length_eq]; exact h.few, fun x hx => h.ok x ((srtR_perm ky ls).mem_iff.mp hx)⟩
/-! told by wet heights -/
def fstep (w : Int) (n : Int) (e : Int) (P : List Cl) : List Cl :=
  if w ≤ e then
    (if ((P.getLast?).map Cl.t) = some n then P.dropLast ++ [⟨((P.getLast?).getD ⟨0, 0, 0⟩).b, n + 1, mx2 ((P.getLast?).getD ⟨0, 0, 0⟩).e e⟩] else P ++ [⟨n, n + 1, e⟩])
  else P
def fw (w : Int) (rs : List Int) : List Cl := rs.zipIdx.foldl (fun P p => fstep w p.2 p.1 P) []
theorem fw_snoc {w e : Int} {u : List Int} : fw w (u ++ [e]) = fstep w u.length e (fw w u) := by
  unfold fw
  rw [List.zipIdx_append, List.foldl_append]
  simp
theorem fstep_no {w n e : Int} {P : List Cl} (h : ¬ w ≤ e) : fstep w n e P = P := by unfold fstep; rw [if_neg h]
theorem fstep_new {w n e : Int} {P : List Cl} (h : w ≤ e) (hp : ∀ u x, P = u ++ [x] → x.t ≠ n) : fstep w n e P = P ++ [⟨n, n + 1, e⟩] := by
  unfold fstep
  rw [if_pos h, if_neg]
  intro h1
  rcases List.eq_nil_or_concat P with q | ⟨u, x, q⟩
  · subst q; simp at h1
  · rw [List.concat_eq_append] at q
    have := hp u x q
    subst q
    simp at h1
    exact this h1
theorem fstep_on {w n e : Int} {u : List Cl} {x : Cl} (h : w ≤ e) (h1 : x.t = n) : fstep w n e (u ++ [x]) = u ++ [⟨x.b, n + 1, mx2 x.e e⟩] := by
  unfold fstep
  rw [if_pos h, if_pos (by simp [h1])]
  simp
def hm (here : List Int) : Int := (maxI (here ++ [0])).getD 0
theorem hm_snoc {here : List Int} {e : Int} (h : 0 < e) : hm (here ++ [e]) = mx2 (hm here) e := by
  have a1 : maxI (here ++ [0]) = some (hm here) := mxI_of (by simp)
  have a2 : maxI (here ++ [e] ++ [0]) = some (hm (here ++ [e])) := mxI_of (by simp)
  obtain ⟨m1, b1, b2, b3⟩ := maxI_some (ns := here ++ [0]) (by simp)
  rw [a1] at b1
  cases b1
  have l := @mx2_lim (hm here) e
  have : maxI (here ++ [e] ++ [0]) = some (mx2 (hm here) e) := by
    refine max_is ?_ fun x hx => ?_
    · rcases l.2.2 with q | q
      · rw [q]
        rcases List.mem_append.mp b2 with z | z
        · simp [z]
        · simp at z; simp [z]
      · rw [q]; simp
    · simp only [List.mem_append, List.mem_singleton] at hx
      rcases hx with (z | z) | z
      · have := b3 x (by simp [z]); omega
      · omega
      · have := b3 0 (by simp); omega
  rw [this] at a2
  exact (Option.some.inj a2).symm
/-- the law's walk: closed spans, the readings of the open one -/
def opn (n : Int) (here : List Int) : List Cl := if here = [] then [] else [⟨n - here.length, n, hm here⟩]
def fwI (w : Int) (u : List Int) (S : List Cl) (here : List Int) : Prop :=
  fw w u = S ++ opn u.length here ∧ (∀ x ∈ S, x.t < u.length) ∧ 2 * S.length + (if here = [] then 0 else 1) ≤ u.length ∧ here.length ≤ u.length ∧ (∀ z ∈ here, 0 ≤ z ∧ z ≤ 8) ∧ ∀ x ∈ S, 0 ≤ x.b ∧ x.b < x.t ∧ 0 ≤ x.e ∧ x.e ≤ 8
theorem hm_lim {here : List Int} (h : ∀ z ∈ here, 0 ≤ z ∧ z ≤ 8) : 0 ≤ hm here ∧ hm here ≤ 8 := by
  have a1 : maxI (here ++ [0]) = some (hm here) := mxI_of (by simp)
  obtain ⟨m1, b1, b2, b3⟩ := maxI_some (ns := here ++ [0]) (by simp)
  rw [a1] at b1
  cases b1
  refine ⟨b3 0 (by simp), ?_⟩
  rcases List.mem_append.mp b2 with z | z
  · exact (h _ z).2
  · simp at z; omega
theorem fwI_nil {w : Int} : fwI w [] [] [] := ⟨rfl, by simp, by simp, by simp, by simp, by simp⟩
theorem fwI_wet {w e : Int} {u : List Int} {S : List Cl} {here : List Int} (h : fwI w u S here) (hw : 1 ≤ w) (he : w ≤ e) (h8 : e ≤ 8) : fwI w (u ++ [e]) S (here ++ [e]) := by
  obtain ⟨h1, h2, h3, h4, h5, h6⟩ := h
  have hl : (u ++ [e]).length = u.length + 1 := by simp
  refine ⟨?_, fun x hx => by have := h2 x hx; omega, ?_, by simp; omega, fun z hz => ?_, h6⟩
  · rw [fw_snoc, h1, hl]
    unfold opn
    rw [if_neg (show here ++ [e] ≠ [] by simp)]
    by_cases c : here = []
    · subst c
      rw [if_pos rfl, List.append_nil, fstep_new he]
      · congr 3
        · simp <;> omega
        · simp [hm, maxI] <;> omega
      · intro u' x q
        have := h2 x (by rw [q]; simp)
        omega
    · rw [if_neg c, fstep_on (n := (u.length : Int)) (x := ⟨u.length - here.length, u.length, hm here⟩) he rfl, hm_snoc (by omega)]
      congr 3
      simp <;> omega
  · rw [if_neg (by simp), hl]
    split at h3 <;> omega
  · rcases List.mem_append.mp hz with q | q
    · exact h5 z q
    · simp at q; omega
theorem fwI_dry {w e : Int} {u : List Int} {S : List Cl} {here : List Int} (h : fwI w u S here) (he : ¬ w ≤ e) : fwI w (u ++ [e]) (S ++ opn u.length here) [] := by
  obtain ⟨h1, h2, h3, h4, h5, h6⟩ := h
  have hl : (u ++ [e]).length = u.length + 1 := by simp
  have hlm := hm_lim h5
  refine ⟨?_, fun x hx => ?_, ?_, by simp, by simp, fun x hx => ?_⟩
  · rw [fw_snoc, fstep_no he, h1]
    simp [opn]
  · rcases List.mem_append.mp hx with q | q
    · have := h2 x q; omega
    · unfold opn at q
      split at q
      · cases q
      · rw [List.mem_singleton.mp q, hl]; dsimp only; omega
  · rw [if_pos rfl, hl, List.length_append]
    unfold opn
    split
    · rename_i c; rw [if_pos c] at h3; simp; omega
    · rename_i c; rw [if_neg c] at h3; simp; omega
  · rcases List.mem_append.mp hx with q | q
    · exact h6 x q
    · unfold opn at q
      split at q
      · cases q
      · rename_i c
        have : 0 < here.length := List.length_pos_iff.mpr c
        rw [List.mem_singleton.mp q]; dsimp only; omega
theorem fwI_ex {w : Int} (hw : 1 ≤ w) : ∀ (v u : List Int) (S : List Cl) (here : List Int), fwI w u S here → (∀ e ∈ v, e ≤ 8) → ∃ S' here', fwI w (u ++ v) S' here'
  | [], u, S, here, h, _ => ⟨S, here, by rw [List.append_nil]; exact h⟩
  | e :: v, u, S, here, h, h8 => by
    by_cases c : w ≤ e
    · obtain ⟨S', here', q⟩ := fwI_ex hw v (u ++ [e]) _ _ (fwI_wet h hw c (h8 e (by simp))) fun x hx => h8 x (List.mem_cons_of_mem _ hx)
      exact ⟨S', here', by rw [List.append_assoc] at q; exact q⟩
    · obtain ⟨S', here', q⟩ := fwI_ex hw v (u ++ [e]) _ _ (fwI_dry h c) fun x hx => h8 x (List.mem_cons_of_mem _ hx)
      exact ⟨S', here', by rw [List.append_assoc] at q; exact q⟩
theorem fw_ok {w : Int} {rs : List Int} (hw : 1 ≤ w) (h8 : ∀ e ∈ rs, e ≤ 8) (hl : rs.length ≤ 15) : okCs (fw w rs) := by
  obtain ⟨S, here, h1, h2, h3, h4, h5, h6⟩ := fwI_ex hw rs [] [] [] fwI_nil h8
  rw [List.nil_append] at *
  have hlm := hm_lim h5
  rw [h1]
  unfold opn
  refine ⟨?_, fun x hx => ?_⟩
  · split
    · rename_i c; rw [if_pos c] at h3; simp; omega
    · rename_i c; rw [if_neg c] at h3; simp; omega
  · unfold okC
    rcases List.mem_append.mp hx with q | q
    · have := h6 x q; have := h2 x q; omega
    · split at q
      · cases q
      · rename_i c
        have : 0 < here.length := List.length_pos_iff.mpr c
        rw [List.mem_singleton.mp q]; dsimp only; omega
end Law

set_option Elab.async false
set_option linter.all false
set_option maxRecDepth 100000
set_option maxHeartbeats 4000000
set_option pp.deepTerms false
set_option pp.deepTerms.threshold 8
namespace Law
open PySem L2 DS
local macro_rules | `(tactic| walk_at "ds") => `(tactic| first
  | (apply vwe_v; exact rfl)
  | (apply vwe_o; exact rfl)
  | refine vwe_int ?_
  | refine vwe_bin ?_
  | refine vwe_ix ?_
  | refine vwe_cmp ?_
  | refine vwe_neg ?_
  | refine zwe_call ?_
  | refine vwe_cons ?_
  | refine vwe_nil ?_
  | refine vwe_bi ?_
  | refine vwe_non ?_
  | refine vwe_bl ?_
  | refine vwe_str ?_
  | refine vwe_ty ?_
  | refine vwe_tup ?_
  | refine vwe_one ?_
  | refine vwe_and ?_
  | refine vwe_or ?_
  | refine vwe_not ?_
  | refine vwe_ite ?_
  | refine vwe_ow ?_
  | refine vwl_lst ?_
  | refine vwe_isT ?_
  | refine vwt_one ?_
  | refine vwt_and ?_
  | refine vwt_or ?_
  | refine vwt_not ?_
  | refine vwt_val ?_
  | refine vwr_cons ?_
  | refine vwr_nil ?_
  | refine vws_ret ?_
  | refine vws_ife ?_
  | refine zws_set ?_
  | refine zws_par ?_
  | refine zws_setL ?_
  | refine zws_setW ?_
  | refine vws_expr ?_
  | (apply vws_row; exact rfl)
  | refine vix_row0 ?_
  | refine vix_row1 ?_
  | refine vix_row2 ?_
  | refine vix_row3 ?_
  | (apply vix_tup; exact rfl)
  | (apply vix_lst; exact rfl)
  | refine vpo_add ?_
  | refine vpo_sub ?_
  | (refine vpo_mul ?_ ?_; (focus (omega)))
  | (refine vpo_div ?_ ?_; (focus (omega)))
  | (refine vpo_mod ?_ ?_; (focus (omega)))
  | (refine vpo_pow ?_ ?_; (focus (decide)))
  | refine vpc_lt ?_
  | refine vpc_le ?_
  | refine vpc_gt ?_
  | refine vpc_ge ?_
  | refine vpc_eqI ?_
  | refine vpc_neI ?_
  | refine vpc_eqB ?_
  | refine vpc_neB ?_
  | (apply vpc_isN; exact rfl)
  | (apply vpc_notN; exact rfl)
  | refine if_not ?_
  | refine if_tt ?_
  | refine if_ff ?_
  | (apply isT_tl; exact rfl)
  | (apply isT_lt; exact rfl)
  | (apply isi_int; exact rfl)
  | (apply isi_bool; exact rfl)
  | (apply isi_str; exact rfl)
  | (apply isi_tuple; exact rfl)
  | (apply isi_list; exact rfl)
  | refine vpc_eqN ?_
  | refine vpc_eqNil ?_
  | refine vwc_no ?_
  | refine vwc_ex ?_
  | refine zwl_lc ?_
  | refine vwi_any ?_
  | refine vwi_r1 ?_
  | refine vwi_r2 ?_
  | refine vws_raise ?_
  | refine zws_for ?_
  | refine zws_try ?_
  | (refine try_yes ?_ ?_; (focus (rfl)))
  | (refine try_no ?_ ?_; (focus (rfl)))
  | refine len1 ?_
  | (refine rep_ok ?_ ?_; (focus (walk_at "rp")))
  | (refine rep_ne ?_ ?_; (focus (walk_at "rp")))
  | (refine cons_eq ?_ ?_; (focus (walk_at "pn"; done)))
  | (refine cons_ne ?_ ?_; (focus (walk_at "pn"; done)))
  | refine nil_neN ?_
  | (refine nil_eq (fun _ _ => ?_) ?_; (focus (walk_at "pn"; done)))
  | (refine nil_ne (fun _ _ => ?_) ?_; (focus (walk_at "pn"; done)))
  | (apply vwe_exf; exact rfl)
  | refine vws_asg ?_
  | refine vws_pass ?_
  | refine ex_bl ?_
  | (refine r1_rfl ?_ ?_; (focus (omega)))
  | (refine rg1_rfl ?_ ?_; (focus (omega)))
  | refine ex_int ?_
  | (apply bi_rfl; exact rfl)
  | (apply it_rfl; exact rfl)
  | refine par_rfl ?_
  | (apply row_rfl; exact rfl)
  | (apply zasg; exact rfl)
  | (refine r2_rfl ?_ ?_; (focus (omega)))
  | refine vwo_no ?_
  | refine vwo_ex ?_
  | refine vwe_sl ?_
  | (apply sl_rfl; exact rfl)
  | (apply zws_mtL; exact rfl)
  | refine vwl_rg1 ?_
  | refine vwl_rg2 ?_
  | (refine rg2_rfl ?_ ?_; (focus (omega)))
  | refine vwl_bl ?_
  | (apply zbl_list; exact rfl)
  | refine vwe_fld ?_
  | refine vws_doc ?_
  | refine vws_retN ?_
  | refine vwe_trg1 ?_
  | refine vwi_enum ?_
  | (apply ls_rfl; exact rfl)
  | refine zws_par3 ?_
  | refine par3_rfl ?_
  | (refine ml_app ?_ ?_; (focus (rw [sizeLine_eq]; simp only [List.length_cons, List.length_nil, List.length_append, List.length_map]; omega)))
  | refine zwe_chain ?_
  | refine vwe_gf ?_
  | refine vwe_gc ?_
  | refine vwe_isC ?_
  | (apply isC_rfl; exact rfl)
  | refine vwe_eqI ?_
  | (apply vwq_pl; exact rfl)
  | (apply zwq_eq; exact rfl)
  | (apply zwq_ne; exact rfl)
  | (apply zwe_callv; exact rfl)
  | refine zwe_meth ?_
  | (apply mt_rfl; exact rfl)
  | refine zwe_make ?_
  | (apply zws_setF; exact rfl)
  | (apply fld_rfl; exact rfl)
  | refine vwe_trg2 ?_
  | (refine And.intro (sz_small ?_) ?_; (focus (walk_at "sz")))
  | fail)
local macro_rules | `(tactic| walk_at "ds") => `(tactic| first
  | (apply env_is; (focus (dsimp only [List.set, wipeE, Tg.slots, frzE, ownL, List.getElem?_cons_succ, List.getElem?_cons_zero, clr, List.map, Sl.clr])))
  | refine g_rfl ?_
  | refine vch_le_le ?_
  | refine vch_le_lt ?_
  | refine vch_lt_le ?_
  | refine vch_lt_lt ?_
  | (refine if_yes ?_ ?_; (focus (first | omega | rfl | (simp only [List.length_cons, List.length_nil, List.length_map, List.length_append]; omega))))
  | (refine if_nay ?_ ?_; (focus (first | omega | (simp only [List.length_cons, List.length_nil, List.length_map, List.length_append]; omega))))
  | refine if_and ?_
  | refine if_or ?_
  | refine if_self ?_
  | refine len_mt ?_
  | refine len_ml ?_
  | refine all2d ?_
  | refine all2 ?_
  | refine all1 ?_
  | (refine vpo_lst ?_ ?_; (focus (refine sz_small ?_; walk_at "sz")))
  | (refine vpo_tup ?_ ?_; (focus (refine sz_small ?_; walk_at "sz")))
  | refine rr2 ?_
  | refine rr3 ?_
  | refine rr4 ?_
  | refine rr5 ?_
  | refine zws_tryM ?_
  | refine zwh_nil ?_
  | (refine zwh_yes ?_ ?_; (focus (rfl)))
  | (refine zwh_no ?_ ?_; (focus (rfl)))
  | refine zwr_frz ?_)
local macro_rules | `(tactic| walk_at "w") => `(tactic| repeat (walk_at "ds"))
local macro_rules | `(tactic| walk_at "u") => `(tactic| repeat first | walk_at "ds" | refine zcm_cons rfl ?_ | refine zcm_nil ?_ | refine zfor_cons rfl ?_ | refine zfor_nil ?_)
local macro_rules | `(tactic| walk_at "p") => `(tactic| repeat first | refine zwt_and ?_ | refine zwt_or ?_ | refine zwe_and ?_ | refine zwe_or ?_ | walk_at "ds" | refine zcm_cons rfl ?_ | refine zcm_nil ?_ | refine zfor_cons rfl ?_ | refine zfor_nil ?_)
local macro_rules | `(tactic| row_arm1w $t:term) => `(tactic| (refine $t; repeat (walk_at "ds")))
local macro_rules | `(tactic| walk_at "be") => `(tactic| (rw [Bool.eq_iff_iff]; (try simp only [Bool.and_eq_true, Bool.or_eq_true, Bool.not_eq_true', decide_eq_true_eq, decide_eq_false_iff_not, beq_iff_eq, bne_iff_ne, ne_eq, List.all_cons, List.all_nil, List.any_cons, List.any_nil, id, and_true, or_false, iff_true, true_iff]); first | done | omega | (simp; done) | (simp; omega) | grind))
local macro_rules | `(tactic| walk_at "pn1") => `(tactic| first | exact pn_int | exact pn_non | exact pn_bl | exact pn_nil | exact pm_int | exact pm_non | exact pm_nil | refine pn_cons ?_ ?_ | refine pm_cons ?_ ?_ | refine pn_map fun _ _ => ?_ | refine pm_map fun _ _ => ?_ | refine pn_app ?_ ?_ | refine pm_app ?_ ?_ | with_reducible refine pn_tup ?_ | with_reducible refine pn_lst ?_ | with_reducible refine pm_tup ?_ | with_reducible refine pm_lst ?_ | (refine pn_str ?_; (focus (decide +kernel))) | (refine pm_str ?_; (focus (decide +kernel))))
local macro_rules | `(tactic| walk_at "pn") => `(tactic| repeat (walk_at "pn1"))
local macro_rules | `(tactic| walk_at "pl") => `(tactic| repeat (walk_at "pl1"))
local macro_rules | `(tactic| walk_at "ds") => `(tactic| first | (refine same_eq ?_ ?_ ?_; (focus (rfl)); (focus (walk_at "pn"; done))) | (refine same_ne ?_ ?_ ?_; (focus (rfl)); (focus (walk_at "pn"; done))) | (refine same_eqO ?_ ?_ ?_; (focus (rfl)); (focus (walk_at "pn"; done))) | (refine same_neO ?_ ?_ ?_; (focus (rfl)); (focus (walk_at "pn"; done))))
local macro_rules | `(tactic| walk_at "sz") => `(tactic| first | omega | (simp [rngD_length]; done) | (simp [rngD_length]; omega))
local macro_rules | `(tactic| walk_at "rp") => `(tactic| first | exact rp_bl | exact rp_non | exact rp_int (by omega))

local macro_rules | `(tactic| walk_at "ds") => `(tactic| refine gv_0 ?_)
local macro_rules | `(tactic| walk_at "ds") => `(tactic| refine gv_1 ?_)
local macro_rules | `(tactic| walk_at "pl1") => `(tactic| first | exact pl_int | exact pl_non | exact pl_bl | exact pl_nil | (with_reducible refine pl_tup ?_ ?_; (focus (first | (simp; done) | (simp; omega)))) | (with_reducible refine pl_lst ?_ ?_; (focus (first | (simp; done) | (simp; omega)))) | refine pl_cons ?_ ?_ | refine pl_map fun _ _ => ?_ | exact pt_int | exact pt_non | exact pt_bl | exact pt_nil | (with_reducible refine pt_tup ?_ ?_; (focus (first | (simp; done) | (simp; omega)))) | refine pt_cons ?_ ?_ | refine pt_map fun _ _ => ?_)
local macro_rules | `(tactic| walk_at "ds") => `(tactic| (refine set_fld ?_ ?_ ?_; (focus (show _ ∈ fldF fldL _; decide +kernel)); (focus (exact Nat.le_of_ble_eq_true rfl))))
local macro_rules | `(tactic| walk_at "ds") => `(tactic| (apply whole_ok; exact rfl; exact rfl))
local macro_rules | `(tactic| walk_at "ds") => `(tactic| refine number_ok ?_)
local macro_rules | `(tactic| walk_at "ds") => `(tactic| (refine want_ok ?_ ?_; (focus (first | omega | (simp only [List.length_cons, List.length_nil, List.length_map, List.length_append]; omega)))))
local macro_rules | `(tactic| walk_at "ds") => `(tactic| (apply row_ok; focus rfl))
local macro_rules | `(tactic| walk_at "ds") => `(tactic| refine truth_ok ?_)
local macro_rules | `(tactic| walk_at "ds") => `(tactic| (refine alike6 rfl ?_ ?_; (focus (walk_at "pl"; done))))
local macro_rules | `(tactic| walk_at "pl1") => `(tactic| first | exact cl_pl)
local macro_rules | `(tactic| walk_at "pn1") => `(tactic| first | exact cl_pm | exact pm_pn cl_pm | exact cls_pm | exact pm_pn cls_pm | exact clsL_pm | exact pm_pn clsL_pm)
local macro_rules | `(tactic| walk_at "ds") => `(tactic| (apply zws_at; exact rfl))
local macro_rules | `(tactic| walk_at "ds") => `(tactic| (apply at_end; exact rfl))
local macro_rules | `(tactic| walk_at "ds") => `(tactic| (apply vix_lst; (focus (exact atI_last))))
local macro_rules | `(tactic| walk_at "ds") => `(tactic| refine sq_len ?_)
local macro_rules | `(tactic| walk_at "ds") => `(tactic| (apply sq_ix; exact rfl))
local macro_rules | `(tactic| walk_at "ds") => `(tactic| refine sky_eq_tup ?_)
local macro_rules | `(tactic| walk_at "ds") => `(tactic| refine sky_same ?_)
local macro_rules | `(tactic| walk_at "ds") => `(tactic| (refine at_ok ?_ ?_ ?_ ?_; (focus (first | omega | (simp only [List.length_cons, List.length_nil, List.length_map, List.length_append]; omega))); (focus (first | omega | (simp only [List.length_cons, List.length_nil, List.length_map, List.length_append]; omega))); (focus (first | omega | (simp only [List.length_cons, List.length_nil, List.length_map, List.length_append]; omega)))))
local macro_rules | `(tactic| walk_at "ds") => `(tactic| refine mx2_ok ?_)
local macro_rules | `(tactic| walk_at "ds") => `(tactic| refine mn2_ok ?_)
local macro_rules | `(tactic| walk_at "ds") => `(tactic| (refine profile_ok ?_ ?_; (focus (first | omega | (simp only [List.length_cons, List.length_nil, List.length_map, List.length_append]; omega)))))
theorem zip_split {α : Type} {L : List α} {u v : List (α × Nat)} {x : α} {i : Nat} (h : u ++ (x, i) :: v = L.zipIdx) : i = u.length ∧ L[i]? = some x ∧ i < L.length := by
  have h1 : (u ++ (x, i) :: v)[u.length]? = some (x, i) := by simp
  rw [h, List.getElem?_zipIdx] at h1
  obtain ⟨y, hy, e⟩ := Option.map_eq_some_iff.mp h1
  simp at e
  obtain ⟨e1, e2⟩ := e
  subst e1
  subst e2
  exact ⟨rfl, hy, (List.getElem?_eq_some_iff.mp hy).1⟩
theorem enum_int {rs : List Int} : enumD 0 (rs.map D.int) = rs.zipIdx.map fun p => .tup [.int (p.2 : Int), .int p.1] := DS.enum_map
section
variable {ns : List Int} {k : Nat} {g : G} {P : D → G → Prop} {X : Nat → List D → G → Prop}
theorem merged_ok {l1 l2 : List Cl} (h1 : okCs (l1 ++ l2)) (h : P (sky (srtR ky (l1 ++ l2))) g) : CF 16 (TT ns (k + 6)) [sky l1, sky l2] g P X := by
  have hf := h1.few
  rw [List.length_append] at hf
  refine zwc_def (S := sta ns) (k := (k+5)) (i := 16) (d := ⟨n16, ["self", "other"], b16, none⟩) rfl rfl rfl ?_
  show WB _ b16 [.v (sky l1), .v (sky l2)] g _ _ _
  unfold b16
  walk_at "w"
  refine sky_mk (ls := l1 ++ l2) (.inl (by rw [List.map_append])) h1 ?_
  exact h
theorem lifted_ok {ls : List Cl} {n : Int} (hl : okCs ls) (h : P (sky (srtR ky (liftL n ls))) g) : CF 19 (TT ns (k + 6)) [sky ls, .int n] g P X := by
  have := hl.few
  refine zwc_def (S := sta ns) (k := (k+5)) (i := 19) (d := ⟨n19, ["self", "heights"], b19, none⟩) rfl rfl rfl ?_
  show WB _ b19 [.v (sky ls), .v (.int n), .no, .no, .no, .no, .no, .no] g _ _ _
  unfold b19
  walk_at "w"
  refine zforT (fun u v ρ => ∃ s3 s4 s5 s6 s7, ρ = [.v (sky ls), .v (.int n), .ol ((liftL n u).map cl), s3, s4, s5, s6, s7]) ⟨_, _, _, _, _, rfl⟩ ?_ ?_
  · rintro u x v ρ hu ⟨s3, s4, s5, s6, s7, rfl⟩
    refine ⟨_, rfl, ?_⟩
    have hx := hl.ok x (hu ▸ by simp)
    unfold okC at hx
    have hul : ((liftL n u).map cl).length ≤ 1000 := by
      have := congrArg List.length hu
      rw [List.length_append] at this
      unfold liftL
      rw [List.length_map, List.length_map]
      have := List.length_filter_le (fun x => decide (x.b + n < 60 ∧ 0 < x.t + n)) u
      omega
    have e : liftL n (u ++ [x]) = liftL n u ++ (if x.b + n < 60 ∧ 0 < x.t + n then [⟨mx2 0 (x.b + n), mn2 60 (x.t + n), x.e⟩] else []) := by
      unfold liftL
      rw [List.filter_append, List.map_append]
      congr 1
      by_cases c : x.b + n < 60 ∧ 0 < x.t + n <;> simp [List.filter_cons, c]
    have a1 := @mx2_lim 0 (x.b + n)
    have a2 := @mn2_lim 60 (x.t + n)
    rw [e]
    by_cases c : x.b + n < 60 ∧ 0 < x.t + n
    · rw [if_pos c]
      have c' : mx2 0 (x.b + n) < mn2 60 (x.t + n) := by omega
      walk_at "w"
      refine ml_small hul ?_
      walk_at "w"
      exact ⟨_, _, _, _, _, by rw [List.map_append]; rfl⟩
    · rw [if_neg c]
      have c' : ¬ mx2 0 (x.b + n) < mn2 60 (x.t + n) := by omega
      walk_at "w"
      exact ⟨_, _, _, _, _, by rw [List.append_nil]⟩
  · rintro ρ ⟨s3, s4, s5, s6, s7, rfl⟩
    walk_at "w"
    refine sky_mk (ls := liftL n ls) (.inr rfl) (lift_ok hl) ?_
    exact h
theorem cut_erase {ls : List Cl} {i : Nat} (h : i < ls.length) : cutD (ls.map cl) none (some (i : Int)) ++ cutD (ls.map cl) (some ((i : Int) + 1)) none = (ls.eraseIdx i).map cl := by
  rw [cut_take, DS.cut_dropI _ _ (by omega) (by rw [List.length_map]; omega), ← List.map_take, ← List.map_drop, ← List.map_append, show ((i : Int) + 1).toNat = i + 1 by omega, List.eraseIdx_eq_take_drop_succ]
theorem needless_ok {ls : List Cl} (hl : okCs ls) (hs : srtd ls) (h : P (.tup ((ndL ls ls.length).map cl)) g) : CF 17 (TT ns (k + 6)) [sky ls] g P X := by
  have hfew := hl.few
  refine zwc_def (S := sta ns) (k := (k+5)) (i := 17) (d := ⟨n17, ["self"], b17, none⟩) rfl rfl rfl ?_
  show WB _ b17 [.v (sky ls), .no, .no, .no] g _ _ _
  unfold b17
  walk_at "w"
  rw [DS.enum_map]
  refine zforT (fun u v ρ => ∃ s2 s3, ρ = [.v (sky ls), .ol ((ndL ls u.length).map cl), s2, s3]) ⟨_, _, rfl⟩ ?_ ?_
  · rintro u ⟨x, i⟩ v ρ hu ⟨s2, s3, rfl⟩
    refine ⟨_, rfl, ?_⟩
    obtain ⟨hi, hx, hlt⟩ := zip_split hu
    have hul : ((ndL ls u.length).map cl).length ≤ 1000 := by
      unfold ndL
      rw [List.length_map, List.length_map]
      have := List.length_filter_le (same ls) (iv 0 u.length)
      rw [iv_len] at this
      omega
    have e : ndL ls (u ++ [(x, i)]).length = ndL ls u.length ++ (if same ls i then [x] else []) := by
      rw [List.length_append, List.length_singleton]
      have := ndL_succ (ls := ls) (n := u.length) (by omega)
      rw [show ((u.length : Int) + 1) = ((u.length + 1 : Nat) : Int) by omega] at this
      rw [this, ← hi, Int.toNat_natCast, hx]
      rfl
    rw [e]
    have he := okCs_erase hl i
    have hes := srtd_eq (srtd_erase hs i)
    have hel : (ls.eraseIdx i).length ≤ 100 := Nat.le_trans he.few (by omega)
    walk_at "w"
    refine vpo_tup (sz_small ?_) ?_
    · have := congrArg List.length (cut_erase hlt)
      rw [List.length_append, List.length_map] at this
      dsimp only
      omega
    walk_at "w"
    rw [cut_erase hlt]
    refine sky_mk (ls := ls.eraseIdx i) (.inl rfl) he ?_
    rw [hes]
    walk_at "w"
    have hsm : same ls i = decide (prof (hgt (ls.eraseIdx i)) 60 = prof (hgt ls) 60) := rfl
    rw [hsm]
    refine iff_eqO (p := prof (hgt (ls.eraseIdx i)) 60 = prof (hgt ls) 60) (by rw [D.tup.injEq, cls_inj]) cls_pm cls_pm ?_
    by_cases c : prof (hgt (ls.eraseIdx i)) 60 = prof (hgt ls) 60
    · rw [if_pos (decide_eq_true c)]
      walk_at "w"
      refine ml_small hul ?_
      walk_at "w"
      exact ⟨_, _, by rw [List.map_append]; rfl⟩
    · rw [if_neg (by simp [c])]
      walk_at "w"
      exact ⟨_, _, by rw [List.append_nil]; rfl⟩
  · rintro ρ ⟨s2, s3, rfl⟩
    walk_at "w"
    rw [List.length_zipIdx]
    exact h
theorem prof_C {ls : List Cl} (hl : okCs ls) : ∀ x ∈ prof (hgt ls) 60, okC x := fun x hx => by
  have := (prof_ok (hgt_le hl.ok) 60).1 x hx
  unfold okC
  omega
theorem plain_ok {ls : List Cl} (hl : okCs ls) (h8 : (prof (hgt ls) 60).length ≤ 8) (h : P (sky (srtR ky (prof (hgt ls) 60))) g) : CF 18 (TT ns (k + 6)) [sky ls] g P X := by
  have := hl.few
  refine zwc_def (S := sta ns) (k := (k+5)) (i := 18) (d := ⟨n18, ["self"], b18, none⟩) rfl rfl rfl ?_
  show WB _ b18 [.v (sky ls)] g _ _ _
  unfold b18
  walk_at "w"
  refine sky_mk (ls := prof (hgt ls) 60) (.inl rfl) ⟨h8, prof_C hl⟩ ?_
  exact h
theorem sky_many {ls : List Cl} {d : D} (hd : d = .tup (ls.map cl) ∨ d = .lst (ls.map cl)) (hl : ∀ x ∈ ls, okC x) (h1 : 8 < ls.length) (h2 : ls.length < 1000) (h : X 2 [.int 8] g) : CN 3 (TT ns (k + 5)) [d] g P X := by
  refine zwc_ini (S := sta ns) (k := (k+4)) (i := 7) (c := 3) (d := ⟨n7, ["self", "layers"], b7, some 3⟩) rfl rfl rfl ?_
  show WB _ b7 [.oi 3 [], .v (d)] g _ _ _
  unfold b7
  walk_at "w"
  refine want_row_many (k := k + 2) hd (by rw [List.length_map]; omega) (by rw [List.length_map]; omega) (fun d hd g P X hP => ?_) ?_
  · obtain ⟨x, hx, rfl⟩ := List.mem_map.mp hd
    exact layer_ok (hl x hx) hP
  · exact h
theorem prof_len {f : Int → Int} : ∀ n : Nat, (prof f n).length ≤ n
  | 0 => Nat.le_refl _
  | n + 1 => by
    have := prof_len (f := f) n
    show (step f n (prof f n)).length ≤ _
    unfold step
    split
    · split
      · rw [List.length_append, List.length_dropLast, List.length_singleton]; omega
      · rw [List.length_append, List.length_singleton]; omega
    · omega
theorem plain_no {ls : List Cl} (hl : okCs ls) (h8 : 8 < (prof (hgt ls) 60).length) (h : X 2 [.int 8] g) : CF 18 (TT ns (k + 6)) [sky ls] g P X := by
  have := hl.few
  refine zwc_def (S := sta ns) (k := (k+5)) (i := 18) (d := ⟨n18, ["self"], b18, none⟩) rfl rfl rfl ?_
  show WB _ b18 [.v (sky ls)] g _ _ _
  unfold b18
  walk_at "w"
  refine sky_many (ls := prof (hgt ls) 60) (.inl rfl) (prof_C hl) h8 (Nat.lt_of_le_of_lt (prof_len 60) (by omega)) ?_
  exact h
theorem from_wet_ok {rs : List Int} {w : Int} {d : D} (hd : d = .tup (rs.map D.int) ∨ d = .lst (rs.map D.int)) (h8 : ∀ e ∈ rs, 0 ≤ e ∧ e ≤ 8) (hl : rs.length ≤ 15) (hw : 1 ≤ w ∧ w ≤ 8) (h : P (sky (srtR ky (fw w rs))) g) :
    CF 20 (TT ns (k + 6)) [d, .int w] g P X := by
  have hfw := fw_ok hw.1 (fun e he => (h8 e he).2) hl
  refine zwc_def (S := sta ns) (k := (k+5)) (i := 20) (d := ⟨n20, ["readings", "least"], b20, none⟩) rfl rfl rfl ?_
  show WB _ b20 [.v (d), .v (.int w), .no, .no, .no, .no] g _ _ _
  unfold b20
  have body : ∀ d, listD d = some (rs.map D.int) → WFo (TT ns (k + 5)) (Tg.many [3, 4]) b20_L0 (enumD 0 (rs.map D.int)) [.v d, .v (.int w), .no, .no, .no, .no] g (fun ρ1 g1 => WB (TT ns (k + 5)) b20_2 ρ1 g1 (fun x g1 => P D.non g1) P fun c fs x g1 => X c fs g1) P fun c fs x g1 => X c fs g1 := by
    intro d lD
    rw [enum_int]
    refine zforT (fun u v ρ => ∃ s3 s4, ρ = [.v d, .v (.int w), .no, s3, s4, .no]) ⟨_, _, rfl⟩ ?_ ?_
    · rintro u ⟨e, i⟩ v ρ hu ⟨s3, s4, rfl⟩
      refine ⟨_, rfl, ?_⟩
      obtain ⟨hi, hx, hlt⟩ := zip_split hu
      have := h8 e (List.mem_of_getElem? hx)
      walk_at "w"
      exact ⟨_, _, rfl⟩
    · rintro ρ ⟨s3, s4, rfl⟩
      walk_at "w"
      refine ⟨_, lD, ?_⟩
      rw [enum_int]
      refine zforT (fun u v ρ => ∃ s3 s4 s5, ρ = [.v d, .v (.int w), .ol ((fw w (u.map Prod.fst)).map cl), s3, s4, s5] ∧ (fw w (u.map Prod.fst)).length ≤ u.length) ⟨_, _, _, rfl, by simp [fw]⟩ ?_ ?_
      · rintro u ⟨e, i⟩ v ρ hu ⟨s3, s4, s5, rfl, hlen⟩
        refine ⟨_, rfl, ?_⟩
        obtain ⟨hi, hx, hlt⟩ := zip_split hu
        have h8e := h8 e (List.mem_of_getElem? hx)
        have eq : fw w ((u ++ [(e, i)]).map Prod.fst) = fstep w i e (fw w (u.map Prod.fst)) := by
          rw [List.map_append, List.map_cons, List.map_nil, fw_snoc, List.length_map, ← hi]
        rw [eq]
        generalize fw w (u.map Prod.fst) = Q at hlen ⊢
        have hlen2 : Q.length ≤ 1000 := by omega
        have fin : (fstep w i e Q).length ≤ (u ++ [(e, i)]).length := by
          unfold fstep
          rw [List.length_append, List.length_singleton]
          split
          · split
            · rw [List.length_append, List.length_dropLast, List.length_singleton]; omega
            · rw [List.length_append, List.length_singleton]; omega
          · omega
        by_cases c : w ≤ e
        · rcases List.eq_nil_or_concat Q with q | ⟨z, y, q⟩
          · subst q
            walk_at "w"
            rw [fstep_new c (fun u x q => by simp at q)]
            exact ⟨_, _, _, rfl, by simp⟩
          · rw [List.concat_eq_append] at q
            subst q
            rw [List.map_append]
            by_cases c1 : y.t = i
            · walk_at "w"
              rw [fstep_on c c1] at fin ⊢
              refine ⟨s3, .v (.int e), .v (.int i), ?_, fin⟩
              rw [List.map_append]
              exact congrArg (fun z : List D => [Sl.v d, Sl.v (.int w), Sl.ol z, s3, Sl.v (.int e), Sl.v (.int i)]) (set_end (ds := z.map cl) (d := cl y) (e := cl ⟨y.b, i + 1, mx2 y.e e⟩))
            · walk_at "w"
              refine ml_small ?_ ?_
              · rw [← List.map_append, List.length_map]; exact hlen2
              walk_at "w"
              rw [fstep_new c (fun u' x' q => by rw [(List.append_inj_right' q rfl : [y] = [x']) |> List.singleton_inj.mp] at c1; exact c1)] at fin ⊢
              exact ⟨_, _, _, by rw [List.map_append, List.map_append]; rfl, fin⟩
        · walk_at "w"
          rw [fstep_no c] at fin ⊢
          exact ⟨_, _, _, rfl, fin⟩
      · rintro ρ ⟨s3, s4, s5, rfl, hlen⟩
        have e0 : rs.zipIdx.map Prod.fst = rs := by simpa using DS.zip_fst (f := fun x : Int => x) (L := rs) (n := 0)
        walk_at "w"
        rw [e0]
        refine sky_mk (ls := fw w rs) (.inr rfl) hfw ?_
        exact h
  rcases hd with rfl | rfl
  · walk_at "w"
    exact body _ rfl
  · walk_at "w"
    exact body _ rfl
end
end Law

set_option Elab.async false
set_option linter.all false
set_option maxRecDepth 100000
set_option maxHeartbeats 4000000
set_option pp.deepTerms false
set_option pp.deepTerms.threshold 8
namespace Law
open PySem L2 DS
local macro_rules | `(tactic| walk_at "ds") => `(tactic| first
  | (apply vwe_v; exact rfl)
  | (apply vwe_o; exact rfl)
  | refine vwe_int ?_
  | refine vwe_bin ?_
  | refine vwe_ix ?_
  | refine vwe_cmp ?_
  | refine vwe_neg ?_
  | refine zwe_call ?_
  | refine vwe_cons ?_
  | refine vwe_nil ?_
  | refine vwe_bi ?_
  | refine vwe_non ?_
  | refine vwe_bl ?_
  | refine vwe_str ?_
  | refine vwe_ty ?_
  | refine vwe_tup ?_
  | refine vwe_one ?_
  | refine vwe_and ?_
  | refine vwe_or ?_
  | refine vwe_not ?_
  | refine vwe_ite ?_
  | refine vwe_ow ?_
  | refine vwl_lst ?_
  | refine vwe_isT ?_
  | refine vwt_one ?_
  | refine vwt_and ?_
  | refine vwt_or ?_
  | refine vwt_not ?_
  | refine vwt_val ?_
  | refine vwr_cons ?_
  | refine vwr_nil ?_
  | refine vws_ret ?_
  | refine vws_ife ?_
  | refine zws_set ?_
  | refine zws_par ?_
  | refine zws_setL ?_
  | refine zws_setW ?_
  | refine vws_expr ?_
  | (apply vws_row; exact rfl)
  | refine vix_row0 ?_
  | refine vix_row1 ?_
  | refine vix_row2 ?_
  | refine vix_row3 ?_
  | (apply vix_tup; exact rfl)
  | (apply vix_lst; exact rfl)
  | refine vpo_add ?_
  | refine vpo_sub ?_
  | (refine vpo_mul ?_ ?_; (focus (omega)))
  | (refine vpo_div ?_ ?_; (focus (omega)))
  | (refine vpo_mod ?_ ?_; (focus (omega)))
  | (refine vpo_pow ?_ ?_; (focus (decide)))
  | refine vpc_lt ?_
  | refine vpc_le ?_
  | refine vpc_gt ?_
  | refine vpc_ge ?_
  | refine vpc_eqI ?_
  | refine vpc_neI ?_
  | refine vpc_eqB ?_
  | refine vpc_neB ?_
  | (apply vpc_isN; exact rfl)
  | (apply vpc_notN; exact rfl)
  | refine if_not ?_
  | refine if_tt ?_
  | refine if_ff ?_
  | (apply isT_tl; exact rfl)
  | (apply isT_lt; exact rfl)
  | (apply isi_int; exact rfl)
  | (apply isi_bool; exact rfl)
  | (apply isi_str; exact rfl)
  | (apply isi_tuple; exact rfl)
  | (apply isi_list; exact rfl)
  | refine vpc_eqN ?_
  | refine vpc_eqNil ?_
  | refine vwc_no ?_
  | refine vwc_ex ?_
  | refine zwl_lc ?_
  | refine vwi_any ?_
  | refine vwi_r1 ?_
  | refine vwi_r2 ?_
  | refine vws_raise ?_
  | refine zws_for ?_
  | refine zws_try ?_
  | (refine try_yes ?_ ?_; (focus (rfl)))
  | (refine try_no ?_ ?_; (focus (rfl)))
  | refine len1 ?_
  | (refine rep_ok ?_ ?_; (focus (walk_at "rp")))
  | (refine rep_ne ?_ ?_; (focus (walk_at "rp")))
  | (refine cons_eq ?_ ?_; (focus (walk_at "pn"; done)))
  | (refine cons_ne ?_ ?_; (focus (walk_at "pn"; done)))
  | refine nil_neN ?_
  | (refine nil_eq (fun _ _ => ?_) ?_; (focus (walk_at "pn"; done)))
  | (refine nil_ne (fun _ _ => ?_) ?_; (focus (walk_at "pn"; done)))
  | (apply vwe_exf; exact rfl)
  | refine vws_asg ?_
  | refine vws_pass ?_
  | refine ex_bl ?_
  | (refine r1_rfl ?_ ?_; (focus (omega)))
  | (refine rg1_rfl ?_ ?_; (focus (omega)))
  | refine ex_int ?_
  | (apply bi_rfl; exact rfl)
  | (apply it_rfl; exact rfl)
  | refine par_rfl ?_
  | (apply row_rfl; exact rfl)
  | (apply zasg; exact rfl)
  | (refine r2_rfl ?_ ?_; (focus (omega)))
  | refine vwo_no ?_
  | refine vwo_ex ?_
  | refine vwe_sl ?_
  | (apply sl_rfl; exact rfl)
  | (apply zws_mtL; exact rfl)
  | refine vwl_rg1 ?_
  | refine vwl_rg2 ?_
  | (refine rg2_rfl ?_ ?_; (focus (omega)))
  | refine vwl_bl ?_
  | (apply zbl_list; exact rfl)
  | refine vwe_fld ?_
  | refine vws_doc ?_
  | refine vws_retN ?_
  | refine vwe_trg1 ?_
  | refine vwi_enum ?_
  | (apply ls_rfl; exact rfl)
  | refine zws_par3 ?_
  | refine par3_rfl ?_
  | (refine ml_app ?_ ?_; (focus (rw [sizeLine_eq]; simp only [List.length_cons, List.length_nil, List.length_append, List.length_map]; omega)))
  | refine zwe_chain ?_
  | refine vwe_gf ?_
  | refine vwe_gc ?_
  | refine vwe_isC ?_
  | (apply isC_rfl; exact rfl)
  | refine vwe_eqI ?_
  | (apply vwq_pl; exact rfl)
  | (apply zwq_eq; exact rfl)
  | (apply zwq_ne; exact rfl)
  | (apply zwe_callv; exact rfl)
  | refine zwe_meth ?_
  | (apply mt_rfl; exact rfl)
  | refine zwe_make ?_
  | (apply zws_setF; exact rfl)
  | (apply fld_rfl; exact rfl)
  | refine vwe_trg2 ?_
  | (refine And.intro (sz_small ?_) ?_; (focus (walk_at "sz")))
  | fail)
local macro_rules | `(tactic| walk_at "ds") => `(tactic| first
  | (apply env_is; (focus (dsimp only [List.set, wipeE, Tg.slots, frzE, ownL, List.getElem?_cons_succ, List.getElem?_cons_zero, clr, List.map, Sl.clr])))
  | refine g_rfl ?_
  | refine vch_le_le ?_
  | refine vch_le_lt ?_
  | refine vch_lt_le ?_
  | refine vch_lt_lt ?_
  | (refine if_yes ?_ ?_; (focus (first | omega | rfl | (simp only [List.length_cons, List.length_nil, List.length_map, List.length_append]; omega))))
  | (refine if_nay ?_ ?_; (focus (first | omega | (simp only [List.length_cons, List.length_nil, List.length_map, List.length_append]; omega))))
  | refine if_and ?_
  | refine if_or ?_
  | refine if_self ?_
  | refine len_mt ?_
  | refine len_ml ?_
  | refine all2d ?_
  | refine all2 ?_
  | refine all1 ?_
  | (refine vpo_lst ?_ ?_; (focus (refine sz_small ?_; walk_at "sz")))
  | (refine vpo_tup ?_ ?_; (focus (refine sz_small ?_; walk_at "sz")))
  | refine rr2 ?_
  | refine rr3 ?_
  | refine rr4 ?_
  | refine rr5 ?_
  | refine zws_tryM ?_
  | refine zwh_nil ?_
  | (refine zwh_yes ?_ ?_; (focus (rfl)))
  | (refine zwh_no ?_ ?_; (focus (rfl)))
  | refine zwr_frz ?_)
local macro_rules | `(tactic| walk_at "w") => `(tactic| repeat (walk_at "ds"))
local macro_rules | `(tactic| walk_at "u") => `(tactic| repeat first | walk_at "ds" | refine zcm_cons rfl ?_ | refine zcm_nil ?_ | refine zfor_cons rfl ?_ | refine zfor_nil ?_)
local macro_rules | `(tactic| walk_at "p") => `(tactic| repeat first | refine zwt_and ?_ | refine zwt_or ?_ | refine zwe_and ?_ | refine zwe_or ?_ | walk_at "ds" | refine zcm_cons rfl ?_ | refine zcm_nil ?_ | refine zfor_cons rfl ?_ | refine zfor_nil ?_)
local macro_rules | `(tactic| row_arm1w $t:term) => `(tactic| (refine $t; repeat (walk_at "ds")))
local macro_rules | `(tactic| walk_at "be") => `(tactic| (rw [Bool.eq_iff_iff]; (try simp only [Bool.and_eq_true, Bool.or_eq_true, Bool.not_eq_true', decide_eq_true_eq, decide_eq_false_iff_not, beq_iff_eq, bne_iff_ne, ne_eq, List.all_cons, List.all_nil, List.any_cons, List.any_nil, id, and_true, or_false, iff_true, true_iff]); first | done | omega | (simp; done) | (simp; omega) | grind))
local macro_rules | `(tactic| walk_at "pn1") => `(tactic| first | exact pn_int | exact pn_non | exact pn_bl | exact pn_nil | exact pm_int | exact pm_non | exact pm_nil | refine pn_cons ?_ ?_ | refine pm_cons ?_ ?_ | refine pn_map fun _ _ => ?_ | refine pm_map fun _ _ => ?_ | refine pn_app ?_ ?_ | refine pm_app ?_ ?_ | with_reducible refine pn_tup ?_ | with_reducible refine pn_lst ?_ | with_reducible refine pm_tup ?_ | with_reducible refine pm_lst ?_ | (refine pn_str ?_; (focus (decide +kernel))) | (refine pm_str ?_; (focus (decide +kernel))))
local macro_rules | `(tactic| walk_at "pn") => `(tactic| repeat (walk_at "pn1"))
local macro_rules | `(tactic| walk_at "pl") => `(tactic| repeat (walk_at "pl1"))
local macro_rules | `(tactic| walk_at "ds") => `(tactic| first | (refine same_eq ?_ ?_ ?_; (focus (rfl)); (focus (walk_at "pn"; done))) | (refine same_ne ?_ ?_ ?_; (focus (rfl)); (focus (walk_at "pn"; done))) | (refine same_eqO ?_ ?_ ?_; (focus (rfl)); (focus (walk_at "pn"; done))) | (refine same_neO ?_ ?_ ?_; (focus (rfl)); (focus (walk_at "pn"; done))))
local macro_rules | `(tactic| walk_at "sz") => `(tactic| first | omega | (simp [rngD_length]; done) | (simp [rngD_length]; omega))
local macro_rules | `(tactic| walk_at "rp") => `(tactic| first | exact rp_bl | exact rp_non | exact rp_int (by omega))

local macro_rules | `(tactic| walk_at "ds") => `(tactic| refine gv_0 ?_)
local macro_rules | `(tactic| walk_at "ds") => `(tactic| refine gv_1 ?_)
local macro_rules | `(tactic| walk_at "pl1") => `(tactic| first | exact pl_int | exact pl_non | exact pl_bl | exact pl_nil | (with_reducible refine pl_tup ?_ ?_; (focus (first | (simp; done) | (simp; omega)))) | (with_reducible refine pl_lst ?_ ?_; (focus (first | (simp; done) | (simp; omega)))) | refine pl_cons ?_ ?_ | refine pl_map fun _ _ => ?_ | exact pt_int | exact pt_non | exact pt_bl | exact pt_nil | (with_reducible refine pt_tup ?_ ?_; (focus (first | (simp; done) | (simp; omega)))) | refine pt_cons ?_ ?_ | refine pt_map fun _ _ => ?_)
local macro_rules | `(tactic| walk_at "ds") => `(tactic| (refine set_fld ?_ ?_ ?_; (focus (show _ ∈ fldF fldL _; decide +kernel)); (focus (exact Nat.le_of_ble_eq_true rfl))))
local macro_rules | `(tactic| walk_at "ds") => `(tactic| (apply whole_ok; exact rfl; exact rfl))
local macro_rules | `(tactic| walk_at "ds") => `(tactic| refine number_ok ?_)
local macro_rules | `(tactic| walk_at "ds") => `(tactic| (refine want_ok ?_ ?_; (focus (first | omega | (simp only [List.length_cons, List.length_nil, List.length_map, List.length_append]; omega)))))
local macro_rules | `(tactic| walk_at "ds") => `(tactic| (apply row_ok; focus rfl))
local macro_rules | `(tactic| walk_at "ds") => `(tactic| refine truth_ok ?_)
local macro_rules | `(tactic| walk_at "ds") => `(tactic| (refine alike6 rfl ?_ ?_; (focus (walk_at "pl"; done))))
local macro_rules | `(tactic| walk_at "pl1") => `(tactic| first | exact cl_pl)
local macro_rules | `(tactic| walk_at "pn1") => `(tactic| first | exact cl_pm | exact pm_pn cl_pm | exact cls_pm | exact pm_pn cls_pm | exact clsL_pm | exact pm_pn clsL_pm)
local macro_rules | `(tactic| walk_at "ds") => `(tactic| (apply zws_at; exact rfl))
local macro_rules | `(tactic| walk_at "ds") => `(tactic| (apply at_end; exact rfl))
local macro_rules | `(tactic| walk_at "ds") => `(tactic| (apply vix_lst; (focus (exact atI_last))))
local macro_rules | `(tactic| walk_at "ds") => `(tactic| refine sq_len ?_)
local macro_rules | `(tactic| walk_at "ds") => `(tactic| (apply sq_ix; exact rfl))
local macro_rules | `(tactic| walk_at "ds") => `(tactic| refine sky_eq_tup ?_)
local macro_rules | `(tactic| walk_at "ds") => `(tactic| refine sky_same ?_)
local macro_rules | `(tactic| walk_at "ds") => `(tactic| (refine at_ok ?_ ?_ ?_ ?_; (focus (first | omega | (simp only [List.length_cons, List.length_nil, List.length_map, List.length_append]; omega))); (focus (first | omega | (simp only [List.length_cons, List.length_nil, List.length_map, List.length_append]; omega))); (focus (first | omega | (simp only [List.length_cons, List.length_nil, List.length_map, List.length_append]; omega)))))
local macro_rules | `(tactic| walk_at "ds") => `(tactic| refine mx2_ok ?_)
local macro_rules | `(tactic| walk_at "ds") => `(tactic| refine mn2_ok ?_)
local macro_rules | `(tactic| walk_at "ds") => `(tactic| (refine profile_ok ?_ ?_; (focus (first | omega | (simp only [List.length_cons, List.length_nil, List.length_map, List.length_append]; omega)))))
def toldL (f : Int → Int) : List D := ((iv 0 60).map fun h => D.int (f h)) ++ [.int 0]
theorem told_at {f : Int → Int} {i : Int} (h0 : 0 ≤ i) (h1 : i < 60) : atI (toldL f) i = some (.int (f i)) := by
  unfold toldL
  have e : ((iv 0 60).map fun h => D.int (f h)) ++ [.int 0] = (((iv 0 60).map f) ++ [0]).map D.int := by simp
  rw [e]
  refine at_map h0 ?_
  rw [List.getElem?_append_left (by rw [List.length_map, iv_len]; omega), List.getElem?_map, iv_at0 ⟨h0, h1⟩]
  rfl
theorem told_60 {f : Int → Int} : atI (toldL f) 60 = some (.int 0) := by
  unfold toldL
  have e : ((iv 0 60).map fun h => D.int (f h)) ++ [.int 0] = (((iv 0 60).map f) ++ [0]).map D.int := by simp
  rw [e]
  refine at_map (by omega) ?_
  rw [List.getElem?_append_right (by rw [List.length_map, iv_len]; decide), List.length_map, iv_len]
  rfl
section
variable {ns : List Int} {k : Nat} {g : G} {P : D → G → Prop} {X : Nat → List D → G → Prop}
theorem mixed_ok {ds : List D} {d : D} (hd : d = .tup ds ∨ d = .lst ds) (hl : ds.length ≤ 1000) (hg : 0 ≤ g.i) (h : ∀ c g', 0 ≤ g'.i → P (sq c ds) g') : CF 24 (TT ns (k + 2)) [.row, d] g P X := by
  refine zwc_def (S := sta ns) (k := (k+1)) (i := 24) (d := ⟨n24, ["row", "value"], b24, none⟩) rfl rfl rfl ?_
  show WB _ b24 [.v (.row), .v (d)] g _ _ _
  unfold b24
  walk_at "w"
  refine taken _ (by omega) (by omega) hg fun v g' v0 v1 hg' => ?_
  walk_at "w"
  rcases hd with rfl | rfl
  · refine if_dec (fun hv => ?_) (fun hv => ?_)
    · walk_at "w"
      exact h true _ hg'
    · walk_at "w"
      exact h false _ hg'
  · refine if_dec (fun hv => ?_) (fun hv => ?_)
    · walk_at "w"
      exact h true _ hg'
    · walk_at "w"
      exact h false _ hg'
theorem lat_ok {ls : List Cl} {t : Int} (hl : ls.length ≤ 100) (h : P (.int (hgt ls t)) g) : CF 26 (TT ns (k + 1)) [.tup (ls.map cl), .int t] g P X := by
  refine zwc_def (S := sta ns) (k := (k)) (i := 26) (d := ⟨n26, ["layers", "height"], b26, none⟩) rfl rfl rfl ?_
  show WB _ b26 [.v (.tup (ls.map cl)), .v (.int t), .no] g _ _ _
  unfold b26
  walk_at "w"
  refine zcmT (p := fun x => decide (x.b ≤ t ∧ t < x.t)) (f := fun x => .int x.e) (fun x hx => ⟨_, rfl, fun g P X hP => ?_, fun hp g P X hP => ?_⟩) ?_
  · walk_at "p"
    rw [← Bool.decide_and] at *
    exact hP
  · walk_at "w"
    exact hP
  have hle : (ls.filter fun x => decide (x.b ≤ t ∧ t < x.t)).length ≤ 100 := Nat.le_trans (List.length_filter_le _ _) hl
  walk_at "w"
  refine vpo_lst (sz_small ?_) ?_
  · rw [List.length_map, List.length_singleton]; omega
  walk_at "w"
  have e : D.lst ([.int 0] ++ (ls.filter fun x => decide (x.b ≤ t ∧ t < x.t)).map fun x => D.int x.e) = .lst ((0 :: (ls.filter fun x => decide (x.b ≤ t ∧ t < x.t)).map Cl.e).map fun z => D.int z) := by simp
  rw [e]
  refine max_rfl (f := fun z => z) (by rw [List.map_id']; exact hgt_some ls t) ?_
  walk_at "w"
  exact h
local macro_rules | `(tactic| walk_at "ds") => `(tactic| (refine lat_ok ?_ ?_; (focus (first | omega | (simp only [List.length_cons, List.length_nil, List.length_map, List.length_append]; omega)))))
local macro_rules | `(tactic| walk_at "ds") => `(tactic| (apply vix_lst; (focus (assumption))))
theorem lprofile_ok {ls : List Cl} (hl : ls.length ≤ 100) (h : P (.lst ((prof (hgt ls) 60).map cl)) g) : CF 27 (TT ns (k + 2)) [.tup (ls.map cl)] g P X := by
  refine zwc_def (S := sta ns) (k := (k+1)) (i := 27) (d := ⟨n27, ["layers"], b27, none⟩) rfl rfl rfl ?_
  show WB _ b27 [.v (.tup (ls.map cl)), .no, .no, .no, .no] g _ _ _
  unfold b27
  walk_at "w"
  rw [iv_rng0]
  refine zcmA (f := fun t => .int (hgt ls t)) (fun t hx => ⟨_, rfl, fun g P X hP => ?_⟩) ?_
  · walk_at "w"
    exact hP
  walk_at "w"
  refine vpo_lst (sz_small ?_) ?_
  · rw [List.length_map, iv_len]; decide
  walk_at "w"
  rw [iv_rng]
  have hne : ∀ t : Int, decide (hgt ls t = 0) = true ∨ decide (hgt ls t = 0) = false := fun t => by cases decide (hgt ls t = 0) <;> simp
  refine zforT (fun u v ρ => ∃ (F : List Cl) (b : Int) (s2 : Sl), ρ = [.v (.tup (ls.map cl)), .v (.int b), s2, .v (.lst (toldL (hgt ls))), .v (.lst (F.map cl))] ∧ (u.length < 60 → runI (hgt ls) (u.length + 1) F b) ∧ (u.length = 60 → F = prof (hgt ls) 60)) ⟨[], 0, _, rfl, fun _ => runI_one, fun z => by simp at z⟩ ?_ ?_
  · rintro u x v ρ hu ⟨F, b, s2, rfl, hr, _⟩
    refine ⟨_, rfl, ?_⟩
    obtain ⟨hx, hx2⟩ := iv_split hu
    have hr := hr (by omega)
    have hF : F.length ≤ 100 := by
      have h1 := congrArg List.length hr.2.2.2
      rw [List.length_append] at h1
      have := prof_len (f := hgt ls) (u.length + 1)
      omega
    have hl1 : (u ++ [x]).length = u.length + 1 := by simp
    have ex : ((u.length + 1 : Nat) : Int) = x := by omega
    have eF : ∀ c : Bool, D.lst (F.map cl ++ (if c = true then [.tup [.int b, .int x, .int (hgt ls (x - 1))]] else [])) = .lst ((F ++ (if c = true then [(⟨b, x, hgt ls (x - 1)⟩ : Cl)] else [])).map cl) := fun c => by
      cases c <;> simp [cl]
    have a1 : atI (toldL (hgt ls)) (x - 1) = some (.int (hgt ls (x - 1))) := told_at (by omega) (by omega)
    have eb : ∀ (z : List Cl), (if decide (0 < hgt ls (x - 1)) = true then z else []) = if 0 < hgt ls (x - 1) then z else [] := fun z => by
      by_cases c : 0 < hgt ls (x - 1) <;> simp [c]
    by_cases c60 : x = 60
    · subst c60
      have a2 : atI (toldL (hgt ls)) 60 = some (.int 0) := told_60
      walk_at "p"
      refine if_t (by simp) ?_
      walk_at "w"
      refine rep_if (by simp) ?_
      walk_at "w"
      refine vpo_lst (sz_small ?_) ?_
      · rw [List.length_map]; split <;> simp <;> omega
      walk_at "w"
      rw [eF, eb]
      refine ⟨_, _, _, rfl, fun z => by omega, fun z => ?_⟩
      have := hr.2.2.2
      rw [show u.length + 1 = 60 by omega] at this
      exact this.symm
    · have a2 : atI (toldL (hgt ls)) x = some (.int (hgt ls x)) := told_at (by omega) (by omega)
      by_cases cs : hgt ls x = hgt ls (x - 1)
      · walk_at "p"
        refine if_f (by simp [cs, c60]) ?_
        walk_at "w"
        refine ⟨F, b, _, rfl, fun z => ?_, fun z => by omega⟩
        rw [hl1]
        refine runI_same hr ?_
        rw [ex]
        exact cs
      · walk_at "p"
        refine if_t (by simp [cs]) ?_
        walk_at "w"
        refine rep_if (by simp) ?_
        walk_at "w"
        refine vpo_lst (sz_small ?_) ?_
        · rw [List.length_map]; split <;> simp <;> omega
        walk_at "w"
        rw [eF, eb]
        refine ⟨_, x, _, rfl, fun z => ?_, fun z => by omega⟩
        rw [hl1]
        have := runI_new hr (by rw [ex]; exact cs)
        rw [ex] at this
        exact this
  · rintro ρ ⟨F, b, s2, rfl, _, hF⟩
    rw [hF (by rw [iv_len]; decide)]
    walk_at "w"
    exact h
end
end Law

set_option Elab.async false
set_option linter.all false
set_option maxRecDepth 100000
set_option maxHeartbeats 4000000
set_option pp.deepTerms false
set_option pp.deepTerms.threshold 8
namespace Law
open PySem L2 DS
local macro_rules | `(tactic| walk_at "ds") => `(tactic| first
  | (apply vwe_v; exact rfl)
  | (apply vwe_o; exact rfl)
  | refine vwe_int ?_
  | refine vwe_bin ?_
  | refine vwe_ix ?_
  | refine vwe_cmp ?_
  | refine vwe_neg ?_
  | refine zwe_call ?_
  | refine vwe_cons ?_
  | refine vwe_nil ?_
  | refine vwe_bi ?_
  | refine vwe_non ?_
  | refine vwe_bl ?_
  | refine vwe_str ?_
  | refine vwe_ty ?_
  | refine vwe_tup ?_
  | refine vwe_one ?_
  | refine vwe_and ?_
  | refine vwe_or ?_
  | refine vwe_not ?_
  | refine vwe_ite ?_
  | refine vwe_ow ?_
  | refine vwl_lst ?_
  | refine vwe_isT ?_
  | refine vwt_one ?_
  | refine vwt_and ?_
  | refine vwt_or ?_
  | refine vwt_not ?_
  | refine vwt_val ?_
  | refine vwr_cons ?_
  | refine vwr_nil ?_
  | refine vws_ret ?_
  | refine vws_ife ?_
  | refine zws_set ?_
  | refine zws_par ?_
  | refine zws_setL ?_
  | refine zws_setW ?_
  | refine vws_expr ?_
  | (apply vws_row; exact rfl)
  | refine vix_row0 ?_
  | refine vix_row1 ?_
  | refine vix_row2 ?_
  | refine vix_row3 ?_
  | (apply vix_tup; exact rfl)
  | (apply vix_lst; exact rfl)
  | refine vpo_add ?_
  | refine vpo_sub ?_
  | (refine vpo_mul ?_ ?_; (focus (omega)))
  | (refine vpo_div ?_ ?_; (focus (omega)))
  | (refine vpo_mod ?_ ?_; (focus (omega)))
  | (refine vpo_pow ?_ ?_; (focus (decide)))
  | refine vpc_lt ?_
  | refine vpc_le ?_
  | refine vpc_gt ?_
  | refine vpc_ge ?_
  | refine vpc_eqI ?_
  | refine vpc_neI ?_
  | refine vpc_eqB ?_
  | refine vpc_neB ?_
  | (apply vpc_isN; exact rfl)
  | (apply vpc_notN; exact rfl)
  | refine if_not ?_
  | refine if_tt ?_
  | refine if_ff ?_
  | (apply isT_tl; exact rfl)
  | (apply isT_lt; exact rfl)
  | (apply isi_int; exact rfl)
  | (apply isi_bool; exact rfl)
  | (apply isi_str; exact rfl)
  | (apply isi_tuple; exact rfl)
  | (apply isi_list; exact rfl)
  | refine vpc_eqN ?_
  | refine vpc_eqNil ?_
  | refine vwc_no ?_
  | refine vwc_ex ?_
  | refine zwl_lc ?_
  | refine vwi_any ?_
  | refine vwi_r1 ?_
  | refine vwi_r2 ?_
  | refine vws_raise ?_
  | refine zws_for ?_
  | refine zws_try ?_
  | (refine try_yes ?_ ?_; (focus (rfl)))
  | (refine try_no ?_ ?_; (focus (rfl)))
  | refine len1 ?_
  | (refine rep_ok ?_ ?_; (focus (walk_at "rp")))
  | (refine rep_ne ?_ ?_; (focus (walk_at "rp")))
  | (refine cons_eq ?_ ?_; (focus (walk_at "pn"; done)))
  | (refine cons_ne ?_ ?_; (focus (walk_at "pn"; done)))
  | refine nil_neN ?_
  | (refine nil_eq (fun _ _ => ?_) ?_; (focus (walk_at "pn"; done)))
  | (refine nil_ne (fun _ _ => ?_) ?_; (focus (walk_at "pn"; done)))
  | (apply vwe_exf; exact rfl)
  | refine vws_asg ?_
  | refine vws_pass ?_
  | refine ex_bl ?_
  | (refine r1_rfl ?_ ?_; (focus (omega)))
  | (refine rg1_rfl ?_ ?_; (focus (omega)))
  | refine ex_int ?_
  | (apply bi_rfl; exact rfl)
  | (apply it_rfl; exact rfl)
  | refine par_rfl ?_
  | (apply row_rfl; exact rfl)
  | (apply zasg; exact rfl)
  | (refine r2_rfl ?_ ?_; (focus (omega)))
  | refine vwo_no ?_
  | refine vwo_ex ?_
  | refine vwe_sl ?_
  | (apply sl_rfl; exact rfl)
  | (apply zws_mtL; exact rfl)
  | refine vwl_rg1 ?_
  | refine vwl_rg2 ?_
  | (refine rg2_rfl ?_ ?_; (focus (omega)))
  | refine vwl_bl ?_
  | (apply zbl_list; exact rfl)
  | refine vwe_fld ?_
  | refine vws_doc ?_
  | refine vws_retN ?_
  | refine vwe_trg1 ?_
  | refine vwi_enum ?_
  | (apply ls_rfl; exact rfl)
  | refine zws_par3 ?_
  | refine par3_rfl ?_
  | (refine ml_app ?_ ?_; (focus (rw [sizeLine_eq]; simp only [List.length_cons, List.length_nil, List.length_append, List.length_map]; omega)))
  | refine zwe_chain ?_
  | refine vwe_gf ?_
  | refine vwe_gc ?_
  | refine vwe_isC ?_
  | (apply isC_rfl; exact rfl)
  | refine vwe_eqI ?_
  | (apply vwq_pl; exact rfl)
  | (apply zwq_eq; exact rfl)
  | (apply zwq_ne; exact rfl)
  | (apply zwe_callv; exact rfl)
  | refine zwe_meth ?_
  | (apply mt_rfl; exact rfl)
  | refine zwe_make ?_
  | (apply zws_setF; exact rfl)
  | (apply fld_rfl; exact rfl)
  | refine vwe_trg2 ?_
  | (refine And.intro (sz_small ?_) ?_; (focus (walk_at "sz")))
  | fail)
local macro_rules | `(tactic| walk_at "ds") => `(tactic| first
  | (apply env_is; (focus (dsimp only [List.set, wipeE, Tg.slots, frzE, ownL, List.getElem?_cons_succ, List.getElem?_cons_zero, clr, List.map, Sl.clr])))
  | refine g_rfl ?_
  | refine vch_le_le ?_
  | refine vch_le_lt ?_
  | refine vch_lt_le ?_
  | refine vch_lt_lt ?_
  | (refine if_yes ?_ ?_; (focus (first | omega | rfl | (simp only [List.length_cons, List.length_nil, List.length_map, List.length_append]; omega))))
  | (refine if_nay ?_ ?_; (focus (first | omega | (simp only [List.length_cons, List.length_nil, List.length_map, List.length_append]; omega))))
  | refine if_and ?_
  | refine if_or ?_
  | refine if_self ?_
  | refine len_mt ?_
  | refine len_ml ?_
  | refine all2d ?_
  | refine all2 ?_
  | refine all1 ?_
  | (refine vpo_lst ?_ ?_; (focus (refine sz_small ?_; walk_at "sz")))
  | (refine vpo_tup ?_ ?_; (focus (refine sz_small ?_; walk_at "sz")))
  | refine rr2 ?_
  | refine rr3 ?_
  | refine rr4 ?_
  | refine rr5 ?_
  | refine zws_tryM ?_
  | refine zwh_nil ?_
  | (refine zwh_yes ?_ ?_; (focus (rfl)))
  | (refine zwh_no ?_ ?_; (focus (rfl)))
  | refine zwr_frz ?_)
local macro_rules | `(tactic| walk_at "w") => `(tactic| repeat (walk_at "ds"))
local macro_rules | `(tactic| walk_at "u") => `(tactic| repeat first | walk_at "ds" | refine zcm_cons rfl ?_ | refine zcm_nil ?_ | refine zfor_cons rfl ?_ | refine zfor_nil ?_)
local macro_rules | `(tactic| walk_at "p") => `(tactic| repeat first | refine zwt_and ?_ | refine zwt_or ?_ | refine zwe_and ?_ | refine zwe_or ?_ | walk_at "ds" | refine zcm_cons rfl ?_ | refine zcm_nil ?_ | refine zfor_cons rfl ?_ | refine zfor_nil ?_)
local macro_rules | `(tactic| row_arm1w $t:term) => `(tactic| (refine $t; repeat (walk_at "ds")))
local macro_rules | `(tactic| walk_at "be") => `(tactic| (rw [Bool.eq_iff_iff]; (try simp only [Bool.and_eq_true, Bool.or_eq_true, Bool.not_eq_true', decide_eq_true_eq, decide_eq_false_iff_not, beq_iff_eq, bne_iff_ne, ne_eq, List.all_cons, List.all_nil, List.any_cons, List.any_nil, id, and_true, or_false, iff_true, true_iff]); first | done | omega | (simp; done) | (simp; omega) | grind))
local macro_rules | `(tactic| walk_at "pn1") => `(tactic| first | exact pn_int | exact pn_non | exact pn_bl | exact pn_nil | exact pm_int | exact pm_non | exact pm_nil | refine pn_cons ?_ ?_ | refine pm_cons ?_ ?_ | refine pn_map fun _ _ => ?_ | refine pm_map fun _ _ => ?_ | refine pn_app ?_ ?_ | refine pm_app ?_ ?_ | with_reducible refine pn_tup ?_ | with_reducible refine pn_lst ?_ | with_reducible refine pm_tup ?_ | with_reducible refine pm_lst ?_ | (refine pn_str ?_; (focus (decide +kernel))) | (refine pm_str ?_; (focus (decide +kernel))))
local macro_rules | `(tactic| walk_at "pn") => `(tactic| repeat (walk_at "pn1"))
local macro_rules | `(tactic| walk_at "pl") => `(tactic| repeat (walk_at "pl1"))
local macro_rules | `(tactic| walk_at "ds") => `(tactic| first | (refine same_eq ?_ ?_ ?_; (focus (rfl)); (focus (walk_at "pn"; done))) | (refine same_ne ?_ ?_ ?_; (focus (rfl)); (focus (walk_at "pn"; done))) | (refine same_eqO ?_ ?_ ?_; (focus (rfl)); (focus (walk_at "pn"; done))) | (refine same_neO ?_ ?_ ?_; (focus (rfl)); (focus (walk_at "pn"; done))))
local macro_rules | `(tactic| walk_at "sz") => `(tactic| first | omega | (simp [rngD_length]; done) | (simp [rngD_length]; omega))
local macro_rules | `(tactic| walk_at "rp") => `(tactic| first | exact rp_bl | exact rp_non | exact rp_int (by omega))

local macro_rules | `(tactic| walk_at "ds") => `(tactic| refine gv_0 ?_)
local macro_rules | `(tactic| walk_at "ds") => `(tactic| refine gv_1 ?_)
local macro_rules | `(tactic| walk_at "pl1") => `(tactic| first | exact pl_int | exact pl_non | exact pl_bl | exact pl_nil | (with_reducible refine pl_tup ?_ ?_; (focus (first | (simp; done) | (simp; omega)))) | (with_reducible refine pl_lst ?_ ?_; (focus (first | (simp; done) | (simp; omega)))) | refine pl_cons ?_ ?_ | refine pl_map fun _ _ => ?_ | exact pt_int | exact pt_non | exact pt_bl | exact pt_nil | (with_reducible refine pt_tup ?_ ?_; (focus (first | (simp; done) | (simp; omega)))) | refine pt_cons ?_ ?_ | refine pt_map fun _ _ => ?_)
local macro_rules | `(tactic| walk_at "ds") => `(tactic| (refine set_fld ?_ ?_ ?_; (focus (show _ ∈ fldF fldL _; decide +kernel)); (focus (exact Nat.le_of_ble_eq_true rfl))))
local macro_rules | `(tactic| walk_at "ds") => `(tactic| (apply whole_ok; exact rfl; exact rfl))
local macro_rules | `(tactic| walk_at "ds") => `(tactic| refine number_ok ?_)
local macro_rules | `(tactic| walk_at "ds") => `(tactic| (refine want_ok ?_ ?_; (focus (first | omega | (simp only [List.length_cons, List.length_nil, List.length_map, List.length_append]; omega)))))
local macro_rules | `(tactic| walk_at "ds") => `(tactic| (apply row_ok; focus rfl))
local macro_rules | `(tactic| walk_at "ds") => `(tactic| refine truth_ok ?_)
local macro_rules | `(tactic| walk_at "ds") => `(tactic| (refine alike6 rfl ?_ ?_; (focus (walk_at "pl"; done))))
section
variable {ns : List Int} {k : Nat} {g : G} {P : D → G → Prop} {X : Nat → List D → G → Prop}
theorem at_no {ls v : D} (hv : ∀ (g : G) (P : D → G → Prop) (X : Nat → List D → G → Prop), X 0 [v] g → CF 4 (TT ns (k + 3)) [v, .int 0, .int 59] g P X) (h : X 0 [v] g) : CF 9 (TT ns (k + 4)) [ls, v] g P X := by
  refine zwc_def (S := sta ns) (k := (k+3)) (i := 9) (d := ⟨n9, ["self", "height"], b9, none⟩) rfl rfl rfl ?_
  show WB _ b9 [.v (ls), .v (v), .no, .no, .no] g _ _ _
  unfold b9
  walk_at "w"
  exact hv _ _ _ h
theorem fw_non {w : D} (h : X 1 [.non] g) : CF 20 (TT ns (k + 4)) [.non, w] g P X := by
  refine zwc_def (S := sta ns) (k := (k+3)) (i := 20) (d := ⟨n20, ["readings", "least"], b20, none⟩) rfl rfl rfl ?_
  show WB _ b20 [.v (.non), .v (w), .no, .no, .no, .no] g _ _ _
  unfold b20
  walk_at "w"
  exact h
theorem fw_many {ds : List D} {w : D} (h1 : 60 < ds.length) (h2 : ds.length < 1000) (h : X 1 [.non] g) : CF 20 (TT ns (k + 4)) [.tup ds, w] g P X := by
  refine zwc_def (S := sta ns) (k := (k+3)) (i := 20) (d := ⟨n20, ["readings", "least"], b20, none⟩) rfl rfl rfl ?_
  show WB _ b20 [.v (.tup ds), .v (w), .no, .no, .no, .no] g _ _ _
  unfold b20
  walk_at "w"
  exact h
theorem fw_19 {w : D} (h : X 1 [.int 1] g) : CF 20 (TT ns (k + 4)) [.tup [.int 1, .int 9], w] g P X := by
  refine zwc_def (S := sta ns) (k := (k+3)) (i := 20) (d := ⟨n20, ["readings", "least"], b20, none⟩) rfl rfl rfl ?_
  show WB _ b20 [.v (.tup [.int 1, .int 9]), .v (w), .no, .no, .no, .no] g _ _ _
  unfold b20
  walk_at "u"
  exact h
theorem fw_m1 {w : D} (h : X 1 [.int 0] g) : CF 20 (TT ns (k + 4)) [.tup [.int (-1)], w] g P X := by
  refine zwc_def (S := sta ns) (k := (k+3)) (i := 20) (d := ⟨n20, ["readings", "least"], b20, none⟩) rfl rfl rfl ?_
  show WB _ b20 [.v (.tup [.int (-1)]), .v (w), .no, .no, .no, .no] g _ _ _
  unfold b20
  walk_at "u"
  exact h
theorem fw_tr {w : D} (h : X 1 [.int 0] g) : CF 20 (TT ns (k + 4)) [.tup [.bl true], w] g P X := by
  refine zwc_def (S := sta ns) (k := (k+3)) (i := 20) (d := ⟨n20, ["readings", "least"], b20, none⟩) rfl rfl rfl ?_
  show WB _ b20 [.v (.tup [.bl true]), .v (w), .no, .no, .no, .no] g _ _ _
  unfold b20
  walk_at "u"
  refine number_no rfl rfl rfl ?_
  walk_at "u"
  exact h
theorem fw_no {v : D} (hv : ∀ (g : G) (P : D → G → Prop) (X : Nat → List D → G → Prop), X 0 [v] g → CF 4 (TT ns (k + 3)) [v, .int 1, .int 8] g P X) (h : X 0 [v] g) : CF 20 (TT ns (k + 4)) [.tup [.int 1, .int 2], v] g P X := by
  refine zwc_def (S := sta ns) (k := (k+3)) (i := 20) (d := ⟨n20, ["readings", "least"], b20, none⟩) rfl rfl rfl ?_
  show WB _ b20 [.v (.tup [.int 1, .int 2]), .v (v), .no, .no, .no, .no] g _ _ _
  unfold b20
  walk_at "u"
  exact hv _ _ _ h
theorem sky_non (h : X 1 [.non] g) : CN 3 (TT ns (k + 5)) [.non] g P X := by
  refine zwc_ini (S := sta ns) (k := (k+4)) (i := 7) (c := 3) (d := ⟨n7, ["self", "layers"], b7, some 3⟩) rfl rfl rfl ?_
  show WB _ b7 [.oi 3 [], .v (.non)] g _ _ _
  unfold b7
  walk_at "w"
  refine want_row_non ?_
  exact h
theorem sky_bad {ls : List Cl} {b : D} (hl : okCs ls) (hb : ∀ (k : Nat) (g : G) (P : D → G → Prop) (X : Nat → List D → G → Prop), P (.bl false) g → CF 6 (TT ns (k + 3)) [b] g P X) (h : X 1 [.int ls.length] g) : CN 3 (TT ns (k + 5)) [.tup (ls.map cl ++ [b])] g P X := by
  have := hl.few
  refine zwc_ini (S := sta ns) (k := (k+4)) (i := 7) (c := 3) (d := ⟨n7, ["self", "layers"], b7, some 3⟩) rfl rfl rfl ?_
  show WB _ b7 [.oi 3 [], .v (.tup (ls.map cl ++ [b]))] g _ _ _
  unfold b7
  walk_at "w"
  refine want_row_no (k := k + 2) (.inl rfl) (by simp; omega) (fun d hd g P X hP => ?_) (hb k) ?_
  · obtain ⟨x, hx, rfl⟩ := List.mem_map.mp hd
    exact layer_ok (hl.ok x hx) hP
  · rw [List.length_map]; exact h
theorem bad_layer {b : D} (hb : b ∈ [.tup [.int 60, .int 61, .int 1], .tup [.int (-1), .int 1, .int 1], .tup [.int 5, .int 5, .int 1], .tup [.int 5, .int 61, .int 1], .tup [.int 5, .int 6, .int 9], .tup [.int 5, .int 6], .non, .tup [.bl true, .int 6, .int 1]]) :
    ∀ (k : Nat) (g : G) (P : D → G → Prop) (X : Nat → List D → G → Prop), P (.bl false) g → CF 6 (TT ns (k + 3)) [b] g P X := by
  intro k g P X h
  simp only [List.mem_cons, List.not_mem_nil, or_false] at hb
  rcases hb with rfl | rfl | rfl | rfl | rfl | rfl | rfl | rfl
  · skip
    refine zwc_def (S := sta ns) (k := (k+2)) (i := 6) (d := ⟨n6, ["value"], b6, none⟩) rfl rfl rfl ?_
    show WB _ b6 [.v (.tup [.int 60, .int 61, .int 1])] g _ _ _
    unfold b6
    walk_at "w"
    exact h
  · skip
    refine zwc_def (S := sta ns) (k := (k+2)) (i := 6) (d := ⟨n6, ["value"], b6, none⟩) rfl rfl rfl ?_
    show WB _ b6 [.v (.tup [.int (-1), .int 1, .int 1])] g _ _ _
    unfold b6
    walk_at "w"
    exact h
  · skip
    refine zwc_def (S := sta ns) (k := (k+2)) (i := 6) (d := ⟨n6, ["value"], b6, none⟩) rfl rfl rfl ?_
    show WB _ b6 [.v (.tup [.int 5, .int 5, .int 1])] g _ _ _
    unfold b6
    walk_at "w"
    exact h
  · skip
    refine zwc_def (S := sta ns) (k := (k+2)) (i := 6) (d := ⟨n6, ["value"], b6, none⟩) rfl rfl rfl ?_
    show WB _ b6 [.v (.tup [.int 5, .int 61, .int 1])] g _ _ _
    unfold b6
    walk_at "w"
    exact h
  · skip
    refine zwc_def (S := sta ns) (k := (k+2)) (i := 6) (d := ⟨n6, ["value"], b6, none⟩) rfl rfl rfl ?_
    show WB _ b6 [.v (.tup [.int 5, .int 6, .int 9])] g _ _ _
    unfold b6
    walk_at "w"
    exact h
  · skip
    refine zwc_def (S := sta ns) (k := (k+2)) (i := 6) (d := ⟨n6, ["value"], b6, none⟩) rfl rfl rfl ?_
    show WB _ b6 [.v (.tup [.int 5, .int 6])] g _ _ _
    unfold b6
    walk_at "w"
    exact h
  · skip
    refine zwc_def (S := sta ns) (k := (k+2)) (i := 6) (d := ⟨n6, ["value"], b6, none⟩) rfl rfl rfl ?_
    show WB _ b6 [.v (.non)] g _ _ _
    unfold b6
    walk_at "w"
    exact h
  · skip
    refine zwc_def (S := sta ns) (k := (k+2)) (i := 6) (d := ⟨n6, ["value"], b6, none⟩) rfl rfl rfl ?_
    show WB _ b6 [.v (.tup [.bl true, .int 6, .int 1])] g _ _ _
    unfold b6
    walk_at "w"
    refine number_no rfl rfl rfl ?_
    walk_at "w"
    exact h
theorem lrefused_ok {ls : List Cl} (hl : okCs ls) (hg : 0 ≤ g.i) (h : ∀ g', P (.bl true) g') : CF 28 (TT ns (k + 6)) [.row, sky ls, .tup (ls.map cl)] g P X := by
  have few := hl.few
  refine zwc_def (S := sta ns) (k := (k+5)) (i := 28) (d := ⟨n28, ["row", "made", "layers"], b28, none⟩) rfl rfl rfl ?_
  show WB _ b28 [.v (.row), .v (sky ls), .v (.tup (ls.map cl)), .no, .no, .no, .no] g _ _ _
  unfold b28
  walk_at "u"
  refine at_no (fun g P X h => want_no (by omega) h) ?_
  walk_at "u"
  refine at_no (fun g P X h => want_no (by omega) h) ?_
  walk_at "u"
  refine at_no (fun g P X h => want_no2 rfl rfl rfl h) ?_
  walk_at "u"
  refine at_no (fun g P X h => want_no2 rfl rfl rfl h) ?_
  walk_at "u"
  refine rep_tup ⟨by simp, by omega, by omega, by simp⟩ ?_
  walk_at "u"
  refine fw_non ?_
  walk_at "u"
  refine fw_many (by simp) (by simp) ?_
  walk_at "u"
  refine fw_19 ?_
  walk_at "u"
  refine fw_m1 ?_
  walk_at "u"
  refine fw_tr ?_
  walk_at "u"
  refine fw_no (fun g P X h => want_no (by omega) h) ?_
  walk_at "u"
  refine fw_no (fun g P X h => want_no (by omega) h) ?_
  walk_at "u"
  refine fw_no (fun g P X h => want_no2 rfl rfl rfl h) ?_
  walk_at "u"
  refine fw_no (fun g P X h => want_no2 rfl rfl rfl h) ?_
  walk_at "u"
  refine pick (by simp) (by simp) hg fun b g4 hb hg4 => ?_
  have hbad := bad_layer (ns := ns) hb
  clear hb
  walk_at "u"
  refine rep_tup ⟨by simp, by omega, by omega, by simp⟩ ?_
  walk_at "u"
  refine sky_bad (k := k) hl hbad ?_
  walk_at "u"
  refine sky_non (k := k) ?_
  walk_at "u"
  refine sky_many (k := k) (ls := List.replicate 9 ⟨1, 2, 1⟩) (.inl rfl) (fun x hx => by rw [List.eq_of_mem_replicate hx]; unfold okC; dsimp only; omega) (by simp) (by simp) ?_
  walk_at "u"
  exact h _
end
end Law

set_option Elab.async false
set_option linter.all false
set_option maxRecDepth 100000
set_option maxHeartbeats 4000000
set_option pp.deepTerms false
set_option pp.deepTerms.threshold 8
namespace Law
open PySem L2 DS
local macro_rules | `(tactic| walk_at "ds") => `(tactic| first
  | (apply vwe_v; exact rfl)
  | (apply vwe_o; exact rfl)
  | refine vwe_int ?_
  | refine vwe_bin ?_
  | refine vwe_ix ?_
  | refine vwe_cmp ?_
  | refine vwe_neg ?_
  | refine zwe_call ?_
  | refine vwe_cons ?_
  | refine vwe_nil ?_
  | refine vwe_bi ?_
  | refine vwe_non ?_
  | refine vwe_bl ?_
  | refine vwe_str ?_
  | refine vwe_ty ?_
  | refine vwe_tup ?_
  | refine vwe_one ?_
  | refine vwe_and ?_
  | refine vwe_or ?_
  | refine vwe_not ?_
  | refine vwe_ite ?_
  | refine vwe_ow ?_
  | refine vwl_lst ?_
  | refine vwe_isT ?_
  | refine vwt_one ?_
  | refine vwt_and ?_
  | refine vwt_or ?_
  | refine vwt_not ?_
  | refine vwt_val ?_
  | refine vwr_cons ?_
  | refine vwr_nil ?_
  | refine vws_ret ?_
  | refine vws_ife ?_
  | refine zws_set ?_
  | refine zws_par ?_
  | refine zws_setL ?_
  | refine zws_setW ?_
  | refine vws_expr ?_
  | (apply vws_row; exact rfl)
  | refine vix_row0 ?_
  | refine vix_row1 ?_
  | refine vix_row2 ?_
  | refine vix_row3 ?_
  | (apply vix_tup; exact rfl)
  | (apply vix_lst; exact rfl)
  | refine vpo_add ?_
  | refine vpo_sub ?_
  | (refine vpo_mul ?_ ?_; (focus (omega)))
  | (refine vpo_div ?_ ?_; (focus (omega)))
  | (refine vpo_mod ?_ ?_; (focus (omega)))
  | (refine vpo_pow ?_ ?_; (focus (decide)))
  | refine vpc_lt ?_
  | refine vpc_le ?_
  | refine vpc_gt ?_
  | refine vpc_ge ?_
  | refine vpc_eqI ?_
  | refine vpc_neI ?_
  | refine vpc_eqB ?_
  | refine vpc_neB ?_
  | (apply vpc_isN; exact rfl)
  | (apply vpc_notN; exact rfl)
  | refine if_not ?_
  | refine if_tt ?_
  | refine if_ff ?_
  | (apply isT_tl; exact rfl)
  | (apply isT_lt; exact rfl)
  | (apply isi_int; exact rfl)
  | (apply isi_bool; exact rfl)
  | (apply isi_str; exact rfl)
  | (apply isi_tuple; exact rfl)
  | (apply isi_list; exact rfl)
  | refine vpc_eqN ?_
  | refine vpc_eqNil ?_
  | refine vwc_no ?_
  | refine vwc_ex ?_
  | refine zwl_lc ?_
  | refine vwi_any ?_
  | refine vwi_r1 ?_
  | refine vwi_r2 ?_
  | refine vws_raise ?_
  | refine zws_for ?_
  | refine zws_try ?_
  | (refine try_yes ?_ ?_; (focus (rfl)))
  | (refine try_no ?_ ?_; (focus (rfl)))
  | refine len1 ?_
  | (refine rep_ok ?_ ?_; (focus (walk_at "rp")))
  | (refine rep_ne ?_ ?_; (focus (walk_at "rp")))
  | (refine cons_eq ?_ ?_; (focus (walk_at "pn"; done)))
  | (refine cons_ne ?_ ?_; (focus (walk_at "pn"; done)))
  | refine nil_neN ?_
  | (refine nil_eq (fun _ _ => ?_) ?_; (focus (walk_at "pn"; done)))
  | (refine nil_ne (fun _ _ => ?_) ?_; (focus (walk_at "pn"; done)))
  | (apply vwe_exf; exact rfl)
  | refine vws_asg ?_
  | refine vws_pass ?_
  | refine ex_bl ?_
  | (refine r1_rfl ?_ ?_; (focus (omega)))
  | (refine rg1_rfl ?_ ?_; (focus (omega)))
  | refine ex_int ?_
  | (apply bi_rfl; exact rfl)
  | (apply it_rfl; exact rfl)
  | refine par_rfl ?_
  | (apply row_rfl; exact rfl)
  | (apply zasg; exact rfl)
  | (refine r2_rfl ?_ ?_; (focus (omega)))
  | refine vwo_no ?_
  | refine vwo_ex ?_
  | refine vwe_sl ?_
  | (apply sl_rfl; exact rfl)
  | (apply zws_mtL; exact rfl)
  | refine vwl_rg1 ?_
  | refine vwl_rg2 ?_
  | (refine rg2_rfl ?_ ?_; (focus (omega)))
  | refine vwl_bl ?_
  | (apply zbl_list; exact rfl)
  | refine vwe_fld ?_
  | refine vws_doc ?_
  | refine vws_retN ?_
  | refine vwe_trg1 ?_
  | refine vwi_enum ?_
  | (apply ls_rfl; exact rfl)
  | refine zws_par3 ?_
  | refine par3_rfl ?_
  | (refine ml_app ?_ ?_; (focus (rw [sizeLine_eq]; simp only [List.length_cons, List.length_nil, List.length_append, List.length_map]; omega)))
  | refine zwe_chain ?_
  | refine vwe_gf ?_
  | refine vwe_gc ?_
  | refine vwe_isC ?_
  | (apply isC_rfl; exact rfl)
  | refine vwe_eqI ?_
  | (apply vwq_pl; exact rfl)
  | (apply zwq_eq; exact rfl)
  | (apply zwq_ne; exact rfl)
  | (apply zwe_callv; exact rfl)
  | refine zwe_meth ?_
  | (apply mt_rfl; exact rfl)
  | refine zwe_make ?_
  | (apply zws_setF; exact rfl)
  | (apply fld_rfl; exact rfl)
  | refine vwe_trg2 ?_
  | (refine And.intro (sz_small ?_) ?_; (focus (walk_at "sz")))
  | fail)
local macro_rules | `(tactic| walk_at "ds") => `(tactic| first
  | (apply env_is; (focus (dsimp only [List.set, wipeE, Tg.slots, frzE, ownL, List.getElem?_cons_succ, List.getElem?_cons_zero, clr, List.map, Sl.clr])))
  | refine g_rfl ?_
  | refine vch_le_le ?_
  | refine vch_le_lt ?_
  | refine vch_lt_le ?_
  | refine vch_lt_lt ?_
  | (refine if_yes ?_ ?_; (focus (first | omega | rfl | (simp only [List.length_cons, List.length_nil, List.length_map, List.length_append]; omega))))
  | (refine if_nay ?_ ?_; (focus (first | omega | (simp only [List.length_cons, List.length_nil, List.length_map, List.length_append]; omega))))
  | refine if_and ?_
  | refine if_or ?_
  | refine if_self ?_
  | refine len_mt ?_
  | refine len_ml ?_
  | refine all2d ?_
  | refine all2 ?_
  | refine all1 ?_
  | (refine vpo_lst ?_ ?_; (focus (refine sz_small ?_; walk_at "sz")))
  | (refine vpo_tup ?_ ?_; (focus (refine sz_small ?_; walk_at "sz")))
  | refine rr2 ?_
  | refine rr3 ?_
  | refine rr4 ?_
  | refine rr5 ?_
  | refine zws_tryM ?_
  | refine zwh_nil ?_
  | (refine zwh_yes ?_ ?_; (focus (rfl)))
  | (refine zwh_no ?_ ?_; (focus (rfl)))
  | refine zwr_frz ?_)
local macro_rules | `(tactic| walk_at "w") => `(tactic| repeat (walk_at "ds"))
local macro_rules | `(tactic| walk_at "u") => `(tactic| repeat first | walk_at "ds" | refine zcm_cons rfl ?_ | refine zcm_nil ?_ | refine zfor_cons rfl ?_ | refine zfor_nil ?_)
local macro_rules | `(tactic| walk_at "p") => `(tactic| repeat first | refine zwt_and ?_ | refine zwt_or ?_ | refine zwe_and ?_ | refine zwe_or ?_ | walk_at "ds" | refine zcm_cons rfl ?_ | refine zcm_nil ?_ | refine zfor_cons rfl ?_ | refine zfor_nil ?_)
local macro_rules | `(tactic| row_arm1w $t:term) => `(tactic| (refine $t; repeat (walk_at "ds")))
local macro_rules | `(tactic| walk_at "be") => `(tactic| (rw [Bool.eq_iff_iff]; (try simp only [Bool.and_eq_true, Bool.or_eq_true, Bool.not_eq_true', decide_eq_true_eq, decide_eq_false_iff_not, beq_iff_eq, bne_iff_ne, ne_eq, List.all_cons, List.all_nil, List.any_cons, List.any_nil, id, and_true, or_false, iff_true, true_iff]); first | done | omega | (simp; done) | (simp; omega) | grind))
local macro_rules | `(tactic| walk_at "pn1") => `(tactic| first | exact pn_int | exact pn_non | exact pn_bl | exact pn_nil | exact pm_int | exact pm_non | exact pm_nil | refine pn_cons ?_ ?_ | refine pm_cons ?_ ?_ | refine pn_map fun _ _ => ?_ | refine pm_map fun _ _ => ?_ | refine pn_app ?_ ?_ | refine pm_app ?_ ?_ | with_reducible refine pn_tup ?_ | with_reducible refine pn_lst ?_ | with_reducible refine pm_tup ?_ | with_reducible refine pm_lst ?_ | (refine pn_str ?_; (focus (decide +kernel))) | (refine pm_str ?_; (focus (decide +kernel))))
local macro_rules | `(tactic| walk_at "pn") => `(tactic| repeat (walk_at "pn1"))
local macro_rules | `(tactic| walk_at "pl") => `(tactic| repeat (walk_at "pl1"))
local macro_rules | `(tactic| walk_at "ds") => `(tactic| first | (refine same_eq ?_ ?_ ?_; (focus (rfl)); (focus (walk_at "pn"; done))) | (refine same_ne ?_ ?_ ?_; (focus (rfl)); (focus (walk_at "pn"; done))) | (refine same_eqO ?_ ?_ ?_; (focus (rfl)); (focus (walk_at "pn"; done))) | (refine same_neO ?_ ?_ ?_; (focus (rfl)); (focus (walk_at "pn"; done))))
local macro_rules | `(tactic| walk_at "sz") => `(tactic| first | omega | (simp [rngD_length]; done) | (simp [rngD_length]; omega))
local macro_rules | `(tactic| walk_at "rp") => `(tactic| first | exact rp_bl | exact rp_non | exact rp_int (by omega))

local macro_rules | `(tactic| walk_at "ds") => `(tactic| refine gv_0 ?_)
local macro_rules | `(tactic| walk_at "ds") => `(tactic| refine gv_1 ?_)
local macro_rules | `(tactic| walk_at "pl1") => `(tactic| first | exact pl_int | exact pl_non | exact pl_bl | exact pl_nil | (with_reducible refine pl_tup ?_ ?_; (focus (first | (simp; done) | (simp; omega)))) | (with_reducible refine pl_lst ?_ ?_; (focus (first | (simp; done) | (simp; omega)))) | refine pl_cons ?_ ?_ | refine pl_map fun _ _ => ?_ | exact pt_int | exact pt_non | exact pt_bl | exact pt_nil | (with_reducible refine pt_tup ?_ ?_; (focus (first | (simp; done) | (simp; omega)))) | refine pt_cons ?_ ?_ | refine pt_map fun _ _ => ?_)
local macro_rules | `(tactic| walk_at "ds") => `(tactic| (refine set_fld ?_ ?_ ?_; (focus (show _ ∈ fldF fldL _; decide +kernel)); (focus (exact Nat.le_of_ble_eq_true rfl))))
local macro_rules | `(tactic| walk_at "ds") => `(tactic| (apply whole_ok; exact rfl; exact rfl))
local macro_rules | `(tactic| walk_at "ds") => `(tactic| refine number_ok ?_)
local macro_rules | `(tactic| walk_at "ds") => `(tactic| (refine want_ok ?_ ?_; (focus (first | omega | (simp only [List.length_cons, List.length_nil, List.length_map, List.length_append]; omega)))))
local macro_rules | `(tactic| walk_at "ds") => `(tactic| (apply row_ok; focus rfl))
local macro_rules | `(tactic| walk_at "ds") => `(tactic| refine truth_ok ?_)
local macro_rules | `(tactic| walk_at "ds") => `(tactic| (refine alike6 rfl ?_ ?_; (focus (walk_at "pl"; done))))
local macro_rules | `(tactic| walk_at "pl1") => `(tactic| first | exact cl_pl)
local macro_rules | `(tactic| walk_at "pn1") => `(tactic| first | exact cl_pm | exact pm_pn cl_pm | exact cls_pm | exact pm_pn cls_pm | exact clsL_pm | exact pm_pn clsL_pm)
local macro_rules | `(tactic| walk_at "ds") => `(tactic| (apply zws_at; exact rfl))
local macro_rules | `(tactic| walk_at "ds") => `(tactic| (apply at_end; exact rfl))
local macro_rules | `(tactic| walk_at "ds") => `(tactic| (apply vix_lst; (focus (exact atI_last))))
local macro_rules | `(tactic| walk_at "ds") => `(tactic| refine sq_len ?_)
local macro_rules | `(tactic| walk_at "ds") => `(tactic| (apply sq_ix; exact rfl))
local macro_rules | `(tactic| walk_at "ds") => `(tactic| refine sky_eq_tup ?_)
local macro_rules | `(tactic| walk_at "ds") => `(tactic| refine sky_same ?_)
local macro_rules | `(tactic| walk_at "ds") => `(tactic| (refine at_ok ?_ ?_ ?_ ?_; (focus (first | omega | (simp only [List.length_cons, List.length_nil, List.length_map, List.length_append]; omega))); (focus (first | omega | (simp only [List.length_cons, List.length_nil, List.length_map, List.length_append]; omega))); (focus (first | omega | (simp only [List.length_cons, List.length_nil, List.length_map, List.length_append]; omega)))))
local macro_rules | `(tactic| walk_at "ds") => `(tactic| refine mx2_ok ?_)
local macro_rules | `(tactic| walk_at "ds") => `(tactic| refine mn2_ok ?_)
local macro_rules | `(tactic| walk_at "ds") => `(tactic| (refine profile_ok ?_ ?_; (focus (first | omega | (simp only [List.length_cons, List.length_nil, List.length_map, List.length_append]; omega)))))
local macro_rules | `(tactic| walk_at "ds") => `(tactic| (apply vix_lst; (focus (assumption))))
abbrev LW (ns : List Int) (s : Cms) (ρ : DS.Env) (g : G) : Prop := WB (TT ns 12) s ρ g (fun _ _ => False) (fun d _ => d = .bl true) fun _ _ _ _ => False
structure okS (S : List Cl) : Prop where
  ok : okCs S
  few : S.length ≤ 5
  st : srtd S
theorem opn_eq {F : List Cl} {here : List Int} {x : Int} : D.lst (F.map cl ++ (if (!decide (here = [])) = true then [.tup [.int (x - here.length), .int x, .int (hm here)]] else [])) = .lst ((F ++ opn x here).map cl) := by
  unfold opn
  by_cases c : here = []
  · simp [c]
  · simp [c, cl]
theorem here_eq {here : List Int} : D.lst (here.map D.int ++ [.int 0]) = .lst ((here ++ [0]).map fun z => D.int z) := by simp
section
variable {ns : List Int} {g : G}
theorem seg28 {sl2 sl3 sl6 sl7 sl8 sl9 sl10 sl11 sl12 sl13 sl14 sl15 sl16 sl17 sl18 sl19 sl20 sl21 sl22 sl23 sl24 sl25 sl26 sl27 sl28 sl29 : Sl} {S : List Cl} (h : okS S) (hg : 0 ≤ g.i) : LW ns b29_28 [.v .scr, .v .row, sl2, sl3, .v (.tup (S.map cl)), .v (sky S), sl6, sl7, sl8, sl9, sl10, sl11, sl12, sl13, sl14, sl15, sl16, sl17, sl18, sl19, sl20, sl21, sl22, sl23, sl24, sl25, sl26, sl27, sl28, sl29] g := by
  unfold b29_28
  walk_at "w"
  exact lrefused_ok h.ok hg fun g' => rfl
theorem seg24 {sl2 sl3 sl6 sl7 sl8 sl9 sl10 sl11 sl12 sl13 sl14 sl15 sl16 sl17 sl18 sl19 sl20 sl21 sl22 sl23 sl24 sl25 sl26 sl27 sl28 sl29 : Sl} {S : List Cl} (h : okS S) (hg : 0 ≤ g.i) : LW ns b29_24 [.v .scr, .v .row, sl2, sl3, .v (.tup (S.map cl)), .v (sky S), sl6, sl7, sl8, sl9, sl10, sl11, sl12, sl13, sl14, sl15, sl16, sl17, sl18, sl19, sl20, sl21, sl22, sl23, sl24, sl25, sl26, sl27, sl28, sl29] g := by
  unfold b29_24
  walk_at "w"
  refine taken _ (by omega) (by omega) hg fun n g1 n0 n1 hg1 => ?_
  walk_at "w"
  refine zcmD (J := fun g => 0 ≤ g.i) (Q := fun y => ∃ e : Int, y = .int e ∧ 0 ≤ e ∧ e ≤ 8) (fun e he g hg => ?_) hg1 fun rs g2 hlen hrs hg2 => ?_
  · refine ⟨_, rfl, ?_⟩
    walk_at "w"
    refine taken _ (by omega) (by omega) hg fun e g1 e0 e1 hg1 => ?_
    exact ⟨⟨e, rfl, e0, by omega⟩, hg1⟩
  obtain ⟨rs, rfl, hl, hrs⟩ := list_of (e := D.int) (R := fun e => 0 ≤ e ∧ e ≤ 8) (fun d h => h) hrs
  have hl : rs.length ≤ 13 := by rw [hl, hlen, rngD_length]; omega
  walk_at "w"
  refine taken _ (by omega) (by omega) hg2 fun w g3 w0 w1 hg3 => ?_
  walk_at "w"
  unfold b29_25
  walk_at "w"
  unfold b29_26
  walk_at "w"
  rw [iv_rng0]
  refine zforT (fun u v ρ => ∃ (sl9 : Sl) (F : List Cl) (here : List Int), ρ = [.v .scr, .v .row, sl2, sl3, .v (.tup (S.map cl)), .v (sky S), sl6, sl7, sl8, sl9, sl10, sl11, sl12, sl13, sl14, sl15, sl16, sl17, sl18, sl19, .v (.lst (here.map D.int)), sl21, sl22, .v (.lst (rs.map D.int)), .v (.int (1 + w)), .v (.lst (F.map cl)), sl26, sl27, sl28, sl29] ∧ (u.length ≤ rs.length → fwI (1 + w) (rs.take u.length) F here) ∧ (u.length = rs.length + 1 → F = fw (1 + w) rs)) ⟨_, [], [], rfl, fun _ => fwI_nil, fun z => by simp at z⟩ ?_ ?_
  · rintro u x v ρ hu ⟨sl9, F, here, rfl, hI, _⟩
    refine ⟨_, rfl, ?_⟩
    obtain ⟨hx, hx2⟩ := iv_split hu
    rw [Int.zero_add] at hx
    have hI := hI (by omega)
    have hl1 : (u ++ [x]).length = u.length + 1 := by simp
    have htl : (rs.take u.length).length = u.length := by rw [List.length_take]; omega
    have hF : 2 * F.length ≤ 13 := by have := hI.2.2.1; rw [htl] at this; split at this <;> omega
    have hh : here.length ≤ 13 := by have := hI.2.2.2.1; rw [htl] at this; omega
    by_cases c : x < rs.length
    · obtain ⟨e, he⟩ : ∃ e, rs[u.length]? = some e := ⟨_, List.getElem?_eq_getElem (by omega)⟩
      have h8 := hrs e (List.mem_of_getElem? he)
      have a1 : atI (rs.map D.int) x = some (.int e) := at_map (by omega) (by rw [hx, Int.toNat_natCast]; exact he)
      have etk : rs.take (u.length + 1) = rs.take u.length ++ [e] := by rw [List.take_succ, he]; rfl
      by_cases c2 : 1 + w ≤ e
      · walk_at "w"
        refine ⟨_, F, here ++ [e], by rw [List.map_append]; rfl, fun _ => ?_, fun z => by omega⟩
        rw [hl1, etk]
        exact fwI_wet hI (by omega) c2 h8.2
      · walk_at "w"
        rw [here_eq]
        refine max_rfl (f := fun z => z) (m := hm here) (by rw [List.map_id']; exact mxI_of (by simp)) ?_
        walk_at "w"
        refine rep_if (by simp) ?_
        walk_at "w"
        refine vpo_lst (sz_small ?_) ?_
        · rw [List.length_map]; split <;> simp <;> omega
        walk_at "w"
        rw [opn_eq]
        refine ⟨_, _, [], rfl, fun _ => ?_, fun z => by omega⟩
        rw [hl1, etk]
        have := fwI_dry hI c2
        rw [htl, ← hx] at this
        exact this
    · walk_at "w"
      rw [here_eq]
      refine max_rfl (f := fun z => z) (m := hm here) (by rw [List.map_id']; exact mxI_of (by simp)) ?_
      walk_at "w"
      refine rep_if (by simp) ?_
      walk_at "w"
      refine vpo_lst (sz_small ?_) ?_
      · rw [List.length_map]; split <;> simp <;> omega
      walk_at "w"
      rw [opn_eq]
      refine ⟨_, _, [], rfl, fun z => by omega, fun z => ?_⟩
      have h1 := hI.1
      rw [htl, ← hx, List.take_of_length_le (by omega)] at h1
      exact h1.symm
  · rintro ρ ⟨sl9, F, here, rfl, _, hF⟩
    have hF := hF (by rw [iv_len]; omega)
    subst hF
    have hfw := fw_ok (w := 1 + w) (rs := rs) (by omega) (fun e he => (hrs e he).2) (by omega)
    unfold b29_27
    walk_at "w"
    refine mixed_ok (.inr rfl) (by rw [List.length_map]; omega) hg3 fun c g4 hg4 => ?_
    walk_at "w"
    refine from_wet_ok (by cases c; exact .inl rfl; exact .inr rfl) hrs (by omega) (by omega) ?_
    walk_at "w"
    refine sky_mk (ls := fw (1 + w) rs) (.inr rfl) hfw ?_
    walk_at "w"
    exact seg28 h hg4
end
end Law

set_option Elab.async false
set_option linter.all false
set_option maxRecDepth 100000
set_option maxHeartbeats 4000000
set_option pp.deepTerms false
set_option pp.deepTerms.threshold 8
namespace Law
open PySem L2 DS
local macro_rules | `(tactic| walk_at "ds") => `(tactic| first
  | (apply vwe_v; exact rfl)
  | (apply vwe_o; exact rfl)
  | refine vwe_int ?_
  | refine vwe_bin ?_
  | refine vwe_ix ?_
  | refine vwe_cmp ?_
  | refine vwe_neg ?_
  | refine zwe_call ?_
  | refine vwe_cons ?_
  | refine vwe_nil ?_
  | refine vwe_bi ?_
  | refine vwe_non ?_
  | refine vwe_bl ?_
  | refine vwe_str ?_
  | refine vwe_ty ?_
  | refine vwe_tup ?_
  | refine vwe_one ?_
  | refine vwe_and ?_
  | refine vwe_or ?_
  | refine vwe_not ?_
  | refine vwe_ite ?_
  | refine vwe_ow ?_
  | refine vwl_lst ?_
  | refine vwe_isT ?_
  | refine vwt_one ?_
  | refine vwt_and ?_
  | refine vwt_or ?_
  | refine vwt_not ?_
  | refine vwt_val ?_
  | refine vwr_cons ?_
  | refine vwr_nil ?_
  | refine vws_ret ?_
  | refine vws_ife ?_
  | refine zws_set ?_
  | refine zws_par ?_
  | refine zws_setL ?_
  | refine zws_setW ?_
  | refine vws_expr ?_
  | (apply vws_row; exact rfl)
  | refine vix_row0 ?_
  | refine vix_row1 ?_
  | refine vix_row2 ?_
  | refine vix_row3 ?_
  | (apply vix_tup; exact rfl)
  | (apply vix_lst; exact rfl)
  | refine vpo_add ?_
  | refine vpo_sub ?_
  | (refine vpo_mul ?_ ?_; (focus (omega)))
  | (refine vpo_div ?_ ?_; (focus (omega)))
  | (refine vpo_mod ?_ ?_; (focus (omega)))
  | (refine vpo_pow ?_ ?_; (focus (decide)))
  | refine vpc_lt ?_
  | refine vpc_le ?_
  | refine vpc_gt ?_
  | refine vpc_ge ?_
  | refine vpc_eqI ?_
  | refine vpc_neI ?_
  | refine vpc_eqB ?_
  | refine vpc_neB ?_
  | (apply vpc_isN; exact rfl)
  | (apply vpc_notN; exact rfl)
  | refine if_not ?_
  | refine if_tt ?_
  | refine if_ff ?_
  | (apply isT_tl; exact rfl)
  | (apply isT_lt; exact rfl)
  | (apply isi_int; exact rfl)
  | (apply isi_bool; exact rfl)
  | (apply isi_str; exact rfl)
  | (apply isi_tuple; exact rfl)
  | (apply isi_list; exact rfl)
  | refine vpc_eqN ?_
  | refine vpc_eqNil ?_
  | refine vwc_no ?_
  | refine vwc_ex ?_
  | refine zwl_lc ?_
  | refine vwi_any ?_
  | refine vwi_r1 ?_
  | refine vwi_r2 ?_
  | refine vws_raise ?_
  | refine zws_for ?_
  | refine zws_try ?_
  | (refine try_yes ?_ ?_; (focus (rfl)))
  | (refine try_no ?_ ?_; (focus (rfl)))
  | refine len1 ?_
  | (refine rep_ok ?_ ?_; (focus (walk_at "rp")))
  | (refine rep_ne ?_ ?_; (focus (walk_at "rp")))
  | (refine cons_eq ?_ ?_; (focus (walk_at "pn"; done)))
  | (refine cons_ne ?_ ?_; (focus (walk_at "pn"; done)))
  | refine nil_neN ?_
  | (refine nil_eq (fun _ _ => ?_) ?_; (focus (walk_at "pn"; done)))
  | (refine nil_ne (fun _ _ => ?_) ?_; (focus (walk_at "pn"; done)))
  | (apply vwe_exf; exact rfl)
  | refine vws_asg ?_
  | refine vws_pass ?_
  | refine ex_bl ?_
  | (refine r1_rfl ?_ ?_; (focus (omega)))
  | (refine rg1_rfl ?_ ?_; (focus (omega)))
  | refine ex_int ?_
  | (apply bi_rfl; exact rfl)
  | (apply it_rfl; exact rfl)
  | refine par_rfl ?_
  | (apply row_rfl; exact rfl)
  | (apply zasg; exact rfl)
  | (refine r2_rfl ?_ ?_; (focus (omega)))
  | refine vwo_no ?_
  | refine vwo_ex ?_
  | refine vwe_sl ?_
  | (apply sl_rfl; exact rfl)
  | (apply zws_mtL; exact rfl)
  | refine vwl_rg1 ?_
  | refine vwl_rg2 ?_
  | (refine rg2_rfl ?_ ?_; (focus (omega)))
  | refine vwl_bl ?_
  | (apply zbl_list; exact rfl)
  | refine vwe_fld ?_
  | refine vws_doc ?_
  | refine vws_retN ?_
  | refine vwe_trg1 ?_
  | refine vwi_enum ?_
  | (apply ls_rfl; exact rfl)
  | refine zws_par3 ?_
  | refine par3_rfl ?_
  | (refine ml_app ?_ ?_; (focus (rw [sizeLine_eq]; simp only [List.length_cons, List.length_nil, List.length_append, List.length_map]; omega)))
  | refine zwe_chain ?_
  | refine vwe_gf ?_
  | refine vwe_gc ?_
  | refine vwe_isC ?_
  | (apply isC_rfl; exact rfl)
  | refine vwe_eqI ?_
  | (apply vwq_pl; exact rfl)
  | (apply zwq_eq; exact rfl)
  | (apply zwq_ne; exact rfl)
  | (apply zwe_callv; exact rfl)
  | refine zwe_meth ?_
  | (apply mt_rfl; exact rfl)
  | refine zwe_make ?_
  | (apply zws_setF; exact rfl)
  | (apply fld_rfl; exact rfl)
  | refine vwe_trg2 ?_
  | (refine And.intro (sz_small ?_) ?_; (focus (walk_at "sz")))
  | fail)
local macro_rules | `(tactic| walk_at "ds") => `(tactic| first
  | (apply env_is; (focus (dsimp only [List.set, wipeE, Tg.slots, frzE, ownL, List.getElem?_cons_succ, List.getElem?_cons_zero, clr, List.map, Sl.clr])))
  | refine g_rfl ?_
  | refine vch_le_le ?_
  | refine vch_le_lt ?_
  | refine vch_lt_le ?_
  | refine vch_lt_lt ?_
  | (refine if_yes ?_ ?_; (focus (first | omega | rfl | (simp only [List.length_cons, List.length_nil, List.length_map, List.length_append]; omega))))
  | (refine if_nay ?_ ?_; (focus (first | omega | (simp only [List.length_cons, List.length_nil, List.length_map, List.length_append]; omega))))
  | refine if_and ?_
  | refine if_or ?_
  | refine if_self ?_
  | refine len_mt ?_
  | refine len_ml ?_
  | refine all2d ?_
  | refine all2 ?_
  | refine all1 ?_
  | (refine vpo_lst ?_ ?_; (focus (refine sz_small ?_; walk_at "sz")))
  | (refine vpo_tup ?_ ?_; (focus (refine sz_small ?_; walk_at "sz")))
  | refine rr2 ?_
  | refine rr3 ?_
  | refine rr4 ?_
  | refine rr5 ?_
  | refine zws_tryM ?_
  | refine zwh_nil ?_
  | (refine zwh_yes ?_ ?_; (focus (rfl)))
  | (refine zwh_no ?_ ?_; (focus (rfl)))
  | refine zwr_frz ?_)
local macro_rules | `(tactic| walk_at "w") => `(tactic| repeat (walk_at "ds"))
local macro_rules | `(tactic| walk_at "u") => `(tactic| repeat first | walk_at "ds" | refine zcm_cons rfl ?_ | refine zcm_nil ?_ | refine zfor_cons rfl ?_ | refine zfor_nil ?_)
local macro_rules | `(tactic| walk_at "p") => `(tactic| repeat first | refine zwt_and ?_ | refine zwt_or ?_ | refine zwe_and ?_ | refine zwe_or ?_ | walk_at "ds" | refine zcm_cons rfl ?_ | refine zcm_nil ?_ | refine zfor_cons rfl ?_ | refine zfor_nil ?_)
local macro_rules | `(tactic| row_arm1w $t:term) => `(tactic| (refine $t; repeat (walk_at "ds")))
local macro_rules | `(tactic| walk_at "be") => `(tactic| (rw [Bool.eq_iff_iff]; (try simp only [Bool.and_eq_true, Bool.or_eq_true, Bool.not_eq_true', decide_eq_true_eq, decide_eq_false_iff_not, beq_iff_eq, bne_iff_ne, ne_eq, List.all_cons, List.all_nil, List.any_cons, List.any_nil, id, and_true, or_false, iff_true, true_iff]); first | done | omega | (simp; done) | (simp; omega) | grind))
local macro_rules | `(tactic| walk_at "pn1") => `(tactic| first | exact pn_int | exact pn_non | exact pn_bl | exact pn_nil | exact pm_int | exact pm_non | exact pm_nil | refine pn_cons ?_ ?_ | refine pm_cons ?_ ?_ | refine pn_map fun _ _ => ?_ | refine pm_map fun _ _ => ?_ | refine pn_app ?_ ?_ | refine pm_app ?_ ?_ | with_reducible refine pn_tup ?_ | with_reducible refine pn_lst ?_ | with_reducible refine pm_tup ?_ | with_reducible refine pm_lst ?_ | (refine pn_str ?_; (focus (decide +kernel))) | (refine pm_str ?_; (focus (decide +kernel))))
local macro_rules | `(tactic| walk_at "pn") => `(tactic| repeat (walk_at "pn1"))
local macro_rules | `(tactic| walk_at "pl") => `(tactic| repeat (walk_at "pl1"))
local macro_rules | `(tactic| walk_at "ds") => `(tactic| first | (refine same_eq ?_ ?_ ?_; (focus (rfl)); (focus (walk_at "pn"; done))) | (refine same_ne ?_ ?_ ?_; (focus (rfl)); (focus (walk_at "pn"; done))) | (refine same_eqO ?_ ?_ ?_; (focus (rfl)); (focus (walk_at "pn"; done))) | (refine same_neO ?_ ?_ ?_; (focus (rfl)); (focus (walk_at "pn"; done))))
local macro_rules | `(tactic| walk_at "sz") => `(tactic| first | omega | (simp [rngD_length]; done) | (simp [rngD_length]; omega))
local macro_rules | `(tactic| walk_at "rp") => `(tactic| first | exact rp_bl | exact rp_non | exact rp_int (by omega))

local macro_rules | `(tactic| walk_at "ds") => `(tactic| refine gv_0 ?_)
local macro_rules | `(tactic| walk_at "ds") => `(tactic| refine gv_1 ?_)
local macro_rules | `(tactic| walk_at "pl1") => `(tactic| first | exact pl_int | exact pl_non | exact pl_bl | exact pl_nil | (with_reducible refine pl_tup ?_ ?_; (focus (first | (simp; done) | (simp; omega)))) | (with_reducible refine pl_lst ?_ ?_; (focus (first | (simp; done) | (simp; omega)))) | refine pl_cons ?_ ?_ | refine pl_map fun _ _ => ?_ | exact pt_int | exact pt_non | exact pt_bl | exact pt_nil | (with_reducible refine pt_tup ?_ ?_; (focus (first | (simp; done) | (simp; omega)))) | refine pt_cons ?_ ?_ | refine pt_map fun _ _ => ?_)
local macro_rules | `(tactic| walk_at "ds") => `(tactic| (refine set_fld ?_ ?_ ?_; (focus (show _ ∈ fldF fldL _; decide +kernel)); (focus (exact Nat.le_of_ble_eq_true rfl))))
local macro_rules | `(tactic| walk_at "ds") => `(tactic| (apply whole_ok; exact rfl; exact rfl))
local macro_rules | `(tactic| walk_at "ds") => `(tactic| refine number_ok ?_)
local macro_rules | `(tactic| walk_at "ds") => `(tactic| (refine want_ok ?_ ?_; (focus (first | omega | (simp only [List.length_cons, List.length_nil, List.length_map, List.length_append]; omega)))))
local macro_rules | `(tactic| walk_at "ds") => `(tactic| (apply row_ok; focus rfl))
local macro_rules | `(tactic| walk_at "ds") => `(tactic| refine truth_ok ?_)
local macro_rules | `(tactic| walk_at "ds") => `(tactic| (refine alike6 rfl ?_ ?_; (focus (walk_at "pl"; done))))
local macro_rules | `(tactic| walk_at "pl1") => `(tactic| first | exact cl_pl)
local macro_rules | `(tactic| walk_at "pn1") => `(tactic| first | exact cl_pm | exact pm_pn cl_pm | exact cls_pm | exact pm_pn cls_pm | exact clsL_pm | exact pm_pn clsL_pm)
local macro_rules | `(tactic| walk_at "ds") => `(tactic| (apply zws_at; exact rfl))
local macro_rules | `(tactic| walk_at "ds") => `(tactic| (apply at_end; exact rfl))
local macro_rules | `(tactic| walk_at "ds") => `(tactic| (apply vix_lst; (focus (exact atI_last))))
local macro_rules | `(tactic| walk_at "ds") => `(tactic| refine sq_len ?_)
local macro_rules | `(tactic| walk_at "ds") => `(tactic| (apply sq_ix; exact rfl))
local macro_rules | `(tactic| walk_at "ds") => `(tactic| refine sky_eq_tup ?_)
local macro_rules | `(tactic| walk_at "ds") => `(tactic| refine sky_same ?_)
local macro_rules | `(tactic| walk_at "ds") => `(tactic| (refine at_ok ?_ ?_ ?_ ?_; (focus (first | omega | (simp only [List.length_cons, List.length_nil, List.length_map, List.length_append]; omega))); (focus (first | omega | (simp only [List.length_cons, List.length_nil, List.length_map, List.length_append]; omega))); (focus (first | omega | (simp only [List.length_cons, List.length_nil, List.length_map, List.length_append]; omega)))))
local macro_rules | `(tactic| walk_at "ds") => `(tactic| refine mx2_ok ?_)
local macro_rules | `(tactic| walk_at "ds") => `(tactic| refine mn2_ok ?_)
local macro_rules | `(tactic| walk_at "ds") => `(tactic| (refine profile_ok ?_ ?_; (focus (first | omega | (simp only [List.length_cons, List.length_nil, List.length_map, List.length_append]; omega)))))
theorem ky_le {x y : Cl} (h : x.b < y.b) : ky x ≤ ky y := by
  unfold ky
  rw [le_three]
  omega
theorem prof_srtd {f : Int → Int} (h8 : ∀ n, f n ≤ 8) : srtd (prof f 60) := by
  obtain ⟨h1, h2⟩ := prof_ok h8 60
  unfold srtd
  refine List.Pairwise.imp_of_mem (fun {x y} hx hy h => ?_) h2
  have := h1 x hx
  exact ky_le (by omega)
theorem okCs_take {S : List Cl} (h : okCs S) (n : Nat) : okCs (S.take n) := ⟨by rw [List.length_take]; have := h.few; omega, fun x hx => h.ok x (List.mem_of_mem_take hx)⟩
theorem srtd_take {S : List Cl} (h : srtd S) (n : Nat) : srtd (S.take n) := h.sublist (List.take_sublist n S)
section
variable {ns : List Int} {g : G}
theorem seg21 {sl2 sl3 sl6 sl7 sl8 sl9 sl10 sl11 sl12 sl13 sl14 sl15 sl16 sl17 sl18 sl19 sl20 sl21 sl22 sl23 sl24 sl25 sl26 sl27 sl28 sl29 : Sl} {S : List Cl} (h : okS S) (hg : 0 ≤ g.i) : LW ns b29_21 [.v .scr, .v .row, sl2, sl3, .v (.tup (S.map cl)), .v (sky S), sl6, sl7, sl8, sl9, sl10, sl11, sl12, sl13, sl14, sl15, sl16, sl17, sl18, sl19, sl20, sl21, sl22, sl23, sl24, sl25, sl26, sl27, sl28, sl29] g := by
  have hok := h.ok
  have few := h.few
  have ht := okCs_take hok 2
  have hts := srtd_eq (srtd_take h.st 2)
  unfold b29_21
  walk_at "w"
  refine taken _ (by omega) (by omega) hg fun n g1 n0 n1 hg1 => ?_
  walk_at "w"
  rw [cut_takeI _ _ (by omega), ← List.map_take]
  refine sky_mk (ls := S.take 2) (.inl rfl) ht ?_
  rw [hts]
  walk_at "w"
  unfold b29_22
  walk_at "w"
  refine zcmT (p := fun x => decide (x.b + (n - 25) < 60 ∧ 0 < x.t + (n - 25))) (f := fun x => cl ⟨mx2 0 (x.b + (n - 25)), mn2 60 (x.t + (n - 25)), x.e⟩) (fun x hx => ⟨_, rfl, fun g P X hP => ?_, fun hp g P X hP => ?_⟩) ?_
  · walk_at "p"
    rw [← Bool.decide_and] at *
    exact hP
  · walk_at "w"
    exact hP
  walk_at "w"
  unfold b29_23
  walk_at "w"
  refine lifted_ok hok ?_
  walk_at "w"
  refine sky_mk (ls := liftL (n - 25) S) (.inr (by unfold liftL; rw [List.map_map]; rfl)) (lift_ok hok) ?_
  walk_at "w"
  have hap : okCs (S ++ S.take 2) := ⟨by simp; omega, fun x hx => by
    rcases List.mem_append.mp hx with z | z
    · exact hok.ok x z
    · exact ht.ok x z⟩
  refine merged_ok hap ?_
  walk_at "w"
  rw [cut_takeI _ _ (by omega), ← List.map_take]
  walk_at "w"
  refine sky_mk (ls := S ++ S.take 2) (.inl (by rw [List.map_append]; rfl)) hap ?_
  walk_at "w"
  exact seg24 h hg1
theorem seg19 {sl2 sl3 sl6 sl7 sl8 sl9 sl10 sl11 sl12 sl13 sl14 sl15 sl16 sl17 sl18 sl19 sl20 sl21 sl22 sl23 sl24 sl25 sl26 sl27 sl28 sl29 : Sl} {S : List Cl} (h : okS S) (hg : 0 ≤ g.i) : LW ns b29_19 [.v .scr, .v .row, sl2, sl3, .v (.tup (S.map cl)), .v (sky S), sl6, sl7, sl8, sl9, sl10, sl11, sl12, sl13, sl14, sl15, sl16, sl17, sl18, sl19, sl20, sl21, sl22, sl23, sl24, sl25, sl26, sl27, sl28, sl29] g := by
  have hok := h.ok
  have few := h.few
  have hps := srtd_eq (prof_srtd (hgt_le hok.ok))
  have hpp := prof_prof (hgt_nn S) (hgt_le hok.ok)
  have hpl := prof_len (f := hgt S) 60
  unfold b29_19
  walk_at "w"
  refine lprofile_ok (by omega) ?_
  walk_at "w"
  unfold b29_20
  by_cases c : (prof (hgt S) 60).length ≤ 8
  · have hpo : okCs (prof (hgt S) 60) := ⟨c, prof_C hok⟩
    walk_at "w"
    refine plain_ok hok c ?_
    walk_at "w"
    refine sky_mk (ls := prof (hgt S) 60) (.inr rfl) hpo ?_
    walk_at "w"
    refine plain_ok hok c ?_
    rw [hps]
    walk_at "w"
    rw [hpp]
    walk_at "w"
    exact seg21 h hg
  · walk_at "w"
    refine plain_no hok (by omega) ?_
    walk_at "w"
    exact seg21 h hg
theorem seg17 {sl2 sl3 sl6 sl7 sl8 sl9 sl10 sl11 sl12 sl13 sl14 sl15 sl16 sl17 sl18 sl19 sl20 sl21 sl22 sl23 sl24 sl25 sl26 sl27 sl28 sl29 : Sl} {S : List Cl} (h : okS S) (hg : 0 ≤ g.i) : LW ns b29_17 [.v .scr, .v .row, sl2, sl3, .v (.tup (S.map cl)), .v (sky S), sl6, sl7, sl8, sl9, sl10, sl11, sl12, sl13, sl14, sl15, sl16, sl17, sl18, sl19, sl20, sl21, sl22, sl23, sl24, sl25, sl26, sl27, sl28, sl29] g := by
  have hok := h.ok
  have few := h.few
  unfold b29_17
  walk_at "w"
  rw [iv_rng0]
  refine zcmT (p := fun i => same S i) (f := fun i => cl ((S[i.toNat]?).getD ⟨0, 0, 0⟩)) (fun i hx => ⟨_, rfl, fun g P X hP => ?_, fun hp g P X hP => ?_⟩) ?_
  · have hx := iv_mem.mp hx
    have he := okCs_erase hok i.toNat
    have hel : (S.eraseIdx i.toNat).length ≤ 100 := Nat.le_trans he.few (by omega)
    have hce := cut_erase (ls := S) (i := i.toNat) (by omega)
    rw [Int.toNat_of_nonneg hx.1] at hce
    walk_at "w"
    refine vpo_tup (sz_small ?_) ?_
    · have := congrArg List.length hce
      rw [List.length_append, List.length_map] at this
      omega
    walk_at "w"
    rw [hce]
    refine lprofile_ok hel ?_
    walk_at "w"
    refine lprofile_ok (by omega) ?_
    walk_at "w"
    refine iff_eqO (p := prof (hgt (S.eraseIdx i.toNat)) 60 = prof (hgt S) 60) (by rw [D.lst.injEq, cls_inj]) clsL_pm clsL_pm ?_
    walk_at "w"
    exact hP
  · have hx := iv_mem.mp hx
    walk_at "w"
    refine vix_tup (at_map hx.1 (List.getElem?_eq_getElem (show i.toNat < S.length by omega))) ?_
    rw [List.getElem?_eq_getElem (show i.toNat < S.length by omega)] at hP
    exact hP
  walk_at "w"
  unfold b29_18
  walk_at "w"
  refine needless_ok hok h.st ?_
  walk_at "w"
  have e : D.tup ((ndL S S.length).map cl) = .tup (((iv 0 S.length).filter (same S)).map fun i => cl ((S[i.toNat]?).getD ⟨0, 0, 0⟩)) := by unfold ndL; rw [List.map_map]; rfl
  rw [e]
  refine alike6 rfl ?_ ?_
  · refine pl_tup ?_ (pl_map fun _ _ => cl_pl)
    rw [List.length_map]
    have := List.length_filter_le (fun i => same S i) (iv 0 S.length)
    rw [iv_len] at this
    omega
  walk_at "w"
  exact seg19 h hg
end
end Law

set_option Elab.async false
set_option linter.all false
set_option maxRecDepth 100000
set_option maxHeartbeats 4000000
set_option pp.deepTerms false
set_option pp.deepTerms.threshold 8
namespace Law
open PySem L2 DS
local macro_rules | `(tactic| walk_at "ds") => `(tactic| first
  | (apply vwe_v; exact rfl)
  | (apply vwe_o; exact rfl)
  | refine vwe_int ?_
  | refine vwe_bin ?_
  | refine vwe_ix ?_
  | refine vwe_cmp ?_
  | refine vwe_neg ?_
  | refine zwe_call ?_
  | refine vwe_cons ?_
  | refine vwe_nil ?_
  | refine vwe_bi ?_
  | refine vwe_non ?_
  | refine vwe_bl ?_
  | refine vwe_str ?_
  | refine vwe_ty ?_
  | refine vwe_tup ?_
  | refine vwe_one ?_
  | refine vwe_and ?_
  | refine vwe_or ?_
  | refine vwe_not ?_
  | refine vwe_ite ?_
  | refine vwe_ow ?_
  | refine vwl_lst ?_
  | refine vwe_isT ?_
  | refine vwt_one ?_
  | refine vwt_and ?_
  | refine vwt_or ?_
  | refine vwt_not ?_
  | refine vwt_val ?_
  | refine vwr_cons ?_
  | refine vwr_nil ?_
  | refine vws_ret ?_
  | refine vws_ife ?_
  | refine zws_set ?_
  | refine zws_par ?_
  | refine zws_setL ?_
  | refine zws_setW ?_
  | refine vws_expr ?_
  | (apply vws_row; exact rfl)
  | refine vix_row0 ?_
  | refine vix_row1 ?_
  | refine vix_row2 ?_
  | refine vix_row3 ?_
  | (apply vix_tup; exact rfl)
  | (apply vix_lst; exact rfl)
  | refine vpo_add ?_
  | refine vpo_sub ?_
  | (refine vpo_mul ?_ ?_; (focus (omega)))
  | (refine vpo_div ?_ ?_; (focus (omega)))
  | (refine vpo_mod ?_ ?_; (focus (omega)))
  | (refine vpo_pow ?_ ?_; (focus (decide)))
  | refine vpc_lt ?_
  | refine vpc_le ?_
  | refine vpc_gt ?_
  | refine vpc_ge ?_
  | refine vpc_eqI ?_
  | refine vpc_neI ?_
  | refine vpc_eqB ?_
  | refine vpc_neB ?_
  | (apply vpc_isN; exact rfl)
  | (apply vpc_notN; exact rfl)
  | refine if_not ?_
  | refine if_tt ?_
  | refine if_ff ?_
  | (apply isT_tl; exact rfl)
  | (apply isT_lt; exact rfl)
  | (apply isi_int; exact rfl)
  | (apply isi_bool; exact rfl)
  | (apply isi_str; exact rfl)
  | (apply isi_tuple; exact rfl)
  | (apply isi_list; exact rfl)
  | refine vpc_eqN ?_
  | refine vpc_eqNil ?_
  | refine vwc_no ?_
  | refine vwc_ex ?_
  | refine zwl_lc ?_
  | refine vwi_any ?_
  | refine vwi_r1 ?_
  | refine vwi_r2 ?_
  | refine vws_raise ?_
  | refine zws_for ?_
  | refine zws_try ?_
  | (refine try_yes ?_ ?_; (focus (rfl)))
  | (refine try_no ?_ ?_; (focus (rfl)))
  | refine len1 ?_
  | (refine rep_ok ?_ ?_; (focus (walk_at "rp")))
  | (refine rep_ne ?_ ?_; (focus (walk_at "rp")))
  | (refine cons_eq ?_ ?_; (focus (walk_at "pn"; done)))
  | (refine cons_ne ?_ ?_; (focus (walk_at "pn"; done)))
  | refine nil_neN ?_
  | (refine nil_eq (fun _ _ => ?_) ?_; (focus (walk_at "pn"; done)))
  | (refine nil_ne (fun _ _ => ?_) ?_; (focus (walk_at "pn"; done)))
  | (apply vwe_exf; exact rfl)
  | refine vws_asg ?_
  | refine vws_pass ?_
  | refine ex_bl ?_
  | (refine r1_rfl ?_ ?_; (focus (omega)))
  | (refine rg1_rfl ?_ ?_; (focus (omega)))
  | refine ex_int ?_
  | (apply bi_rfl; exact rfl)
  | (apply it_rfl; exact rfl)
  | refine par_rfl ?_
  | (apply row_rfl; exact rfl)
  | (apply zasg; exact rfl)
  | (refine r2_rfl ?_ ?_; (focus (omega)))
  | refine vwo_no ?_
  | refine vwo_ex ?_
  | refine vwe_sl ?_
  | (apply sl_rfl; exact rfl)
  | (apply zws_mtL; exact rfl)
  | refine vwl_rg1 ?_
  | refine vwl_rg2 ?_
  | (refine rg2_rfl ?_ ?_; (focus (omega)))
  | refine vwl_bl ?_
  | (apply zbl_list; exact rfl)
  | refine vwe_fld ?_
  | refine vws_doc ?_
  | refine vws_retN ?_
  | refine vwe_trg1 ?_
  | refine vwi_enum ?_
  | (apply ls_rfl; exact rfl)
  | refine zws_par3 ?_
  | refine par3_rfl ?_
  | (refine ml_app ?_ ?_; (focus (rw [sizeLine_eq]; simp only [List.length_cons, List.length_nil, List.length_append, List.length_map]; omega)))
  | refine zwe_chain ?_
  | refine vwe_gf ?_
  | refine vwe_gc ?_
  | refine vwe_isC ?_
  | (apply isC_rfl; exact rfl)
  | refine vwe_eqI ?_
  | (apply vwq_pl; exact rfl)
  | (apply zwq_eq; exact rfl)
  | (apply zwq_ne; exact rfl)
  | (apply zwe_callv; exact rfl)
  | refine zwe_meth ?_
  | (apply mt_rfl; exact rfl)
  | refine zwe_make ?_
  | (apply zws_setF; exact rfl)
  | (apply fld_rfl; exact rfl)
  | refine vwe_trg2 ?_
  | (refine And.intro (sz_small ?_) ?_; (focus (walk_at "sz")))
  | fail)
local macro_rules | `(tactic| walk_at "ds") => `(tactic| first
  | (apply env_is; (focus (dsimp only [List.set, wipeE, Tg.slots, frzE, ownL, List.getElem?_cons_succ, List.getElem?_cons_zero, clr, List.map, Sl.clr])))
  | refine g_rfl ?_
  | refine vch_le_le ?_
  | refine vch_le_lt ?_
  | refine vch_lt_le ?_
  | refine vch_lt_lt ?_
  | (refine if_yes ?_ ?_; (focus (first | omega | rfl | (simp only [List.length_cons, List.length_nil, List.length_map, List.length_append]; omega))))
  | (refine if_nay ?_ ?_; (focus (first | omega | (simp only [List.length_cons, List.length_nil, List.length_map, List.length_append]; omega))))
  | refine if_and ?_
  | refine if_or ?_
  | refine if_self ?_
  | refine len_mt ?_
  | refine len_ml ?_
  | refine all2d ?_
  | refine all2 ?_
  | refine all1 ?_
  | (refine vpo_lst ?_ ?_; (focus (refine sz_small ?_; walk_at "sz")))
  | (refine vpo_tup ?_ ?_; (focus (refine sz_small ?_; walk_at "sz")))
  | refine rr2 ?_
  | refine rr3 ?_
  | refine rr4 ?_
  | refine rr5 ?_
  | refine zws_tryM ?_
  | refine zwh_nil ?_
  | (refine zwh_yes ?_ ?_; (focus (rfl)))
  | (refine zwh_no ?_ ?_; (focus (rfl)))
  | refine zwr_frz ?_)
local macro_rules | `(tactic| walk_at "w") => `(tactic| repeat (walk_at "ds"))
local macro_rules | `(tactic| walk_at "u") => `(tactic| repeat first | walk_at "ds" | refine zcm_cons rfl ?_ | refine zcm_nil ?_ | refine zfor_cons rfl ?_ | refine zfor_nil ?_)
local macro_rules | `(tactic| walk_at "p") => `(tactic| repeat first | refine zwt_and ?_ | refine zwt_or ?_ | refine zwe_and ?_ | refine zwe_or ?_ | walk_at "ds" | refine zcm_cons rfl ?_ | refine zcm_nil ?_ | refine zfor_cons rfl ?_ | refine zfor_nil ?_)
local macro_rules | `(tactic| row_arm1w $t:term) => `(tactic| (refine $t; repeat (walk_at "ds")))
local macro_rules | `(tactic| walk_at "be") => `(tactic| (rw [Bool.eq_iff_iff]; (try simp only [Bool.and_eq_true, Bool.or_eq_true, Bool.not_eq_true', decide_eq_true_eq, decide_eq_false_iff_not, beq_iff_eq, bne_iff_ne, ne_eq, List.all_cons, List.all_nil, List.any_cons, List.any_nil, id, and_true, or_false, iff_true, true_iff]); first | done | omega | (simp; done) | (simp; omega) | grind))
local macro_rules | `(tactic| walk_at "pn1") => `(tactic| first | exact pn_int | exact pn_non | exact pn_bl | exact pn_nil | exact pm_int | exact pm_non | exact pm_nil | refine pn_cons ?_ ?_ | refine pm_cons ?_ ?_ | refine pn_map fun _ _ => ?_ | refine pm_map fun _ _ => ?_ | refine pn_app ?_ ?_ | refine pm_app ?_ ?_ | with_reducible refine pn_tup ?_ | with_reducible refine pn_lst ?_ | with_reducible refine pm_tup ?_ | with_reducible refine pm_lst ?_ | (refine pn_str ?_; (focus (decide +kernel))) | (refine pm_str ?_; (focus (decide +kernel))))
local macro_rules | `(tactic| walk_at "pn") => `(tactic| repeat (walk_at "pn1"))
local macro_rules | `(tactic| walk_at "pl") => `(tactic| repeat (walk_at "pl1"))
local macro_rules | `(tactic| walk_at "ds") => `(tactic| first | (refine same_eq ?_ ?_ ?_; (focus (rfl)); (focus (walk_at "pn"; done))) | (refine same_ne ?_ ?_ ?_; (focus (rfl)); (focus (walk_at "pn"; done))) | (refine same_eqO ?_ ?_ ?_; (focus (rfl)); (focus (walk_at "pn"; done))) | (refine same_neO ?_ ?_ ?_; (focus (rfl)); (focus (walk_at "pn"; done))))
local macro_rules | `(tactic| walk_at "sz") => `(tactic| first | omega | (simp [rngD_length]; done) | (simp [rngD_length]; omega))
local macro_rules | `(tactic| walk_at "rp") => `(tactic| first | exact rp_bl | exact rp_non | exact rp_int (by omega))

local macro_rules | `(tactic| walk_at "ds") => `(tactic| refine gv_0 ?_)
local macro_rules | `(tactic| walk_at "ds") => `(tactic| refine gv_1 ?_)
local macro_rules | `(tactic| walk_at "pl1") => `(tactic| first | exact pl_int | exact pl_non | exact pl_bl | exact pl_nil | (with_reducible refine pl_tup ?_ ?_; (focus (first | (simp; done) | (simp; omega)))) | (with_reducible refine pl_lst ?_ ?_; (focus (first | (simp; done) | (simp; omega)))) | refine pl_cons ?_ ?_ | refine pl_map fun _ _ => ?_ | exact pt_int | exact pt_non | exact pt_bl | exact pt_nil | (with_reducible refine pt_tup ?_ ?_; (focus (first | (simp; done) | (simp; omega)))) | refine pt_cons ?_ ?_ | refine pt_map fun _ _ => ?_)
local macro_rules | `(tactic| walk_at "ds") => `(tactic| (refine set_fld ?_ ?_ ?_; (focus (show _ ∈ fldF fldL _; decide +kernel)); (focus (exact Nat.le_of_ble_eq_true rfl))))
local macro_rules | `(tactic| walk_at "ds") => `(tactic| (apply whole_ok; exact rfl; exact rfl))
local macro_rules | `(tactic| walk_at "ds") => `(tactic| refine number_ok ?_)
local macro_rules | `(tactic| walk_at "ds") => `(tactic| (refine want_ok ?_ ?_; (focus (first | omega | (simp only [List.length_cons, List.length_nil, List.length_map, List.length_append]; omega)))))
local macro_rules | `(tactic| walk_at "ds") => `(tactic| (apply row_ok; focus rfl))
local macro_rules | `(tactic| walk_at "ds") => `(tactic| refine truth_ok ?_)
local macro_rules | `(tactic| walk_at "ds") => `(tactic| (refine alike6 rfl ?_ ?_; (focus (walk_at "pl"; done))))
local macro_rules | `(tactic| walk_at "pl1") => `(tactic| first | exact cl_pl)
local macro_rules | `(tactic| walk_at "pn1") => `(tactic| first | exact cl_pm | exact pm_pn cl_pm | exact cls_pm | exact pm_pn cls_pm | exact clsL_pm | exact pm_pn clsL_pm)
local macro_rules | `(tactic| walk_at "ds") => `(tactic| (apply zws_at; exact rfl))
local macro_rules | `(tactic| walk_at "ds") => `(tactic| (apply at_end; exact rfl))
local macro_rules | `(tactic| walk_at "ds") => `(tactic| (apply vix_lst; (focus (exact atI_last))))
local macro_rules | `(tactic| walk_at "ds") => `(tactic| refine sq_len ?_)
local macro_rules | `(tactic| walk_at "ds") => `(tactic| (apply sq_ix; exact rfl))
local macro_rules | `(tactic| walk_at "ds") => `(tactic| refine sky_eq_tup ?_)
local macro_rules | `(tactic| walk_at "ds") => `(tactic| refine sky_same ?_)
local macro_rules | `(tactic| walk_at "ds") => `(tactic| (refine at_ok ?_ ?_ ?_ ?_; (focus (first | omega | (simp only [List.length_cons, List.length_nil, List.length_map, List.length_append]; omega))); (focus (first | omega | (simp only [List.length_cons, List.length_nil, List.length_map, List.length_append]; omega))); (focus (first | omega | (simp only [List.length_cons, List.length_nil, List.length_map, List.length_append]; omega)))))
local macro_rules | `(tactic| walk_at "ds") => `(tactic| refine mx2_ok ?_)
local macro_rules | `(tactic| walk_at "ds") => `(tactic| refine mn2_ok ?_)
local macro_rules | `(tactic| walk_at "ds") => `(tactic| (refine profile_ok ?_ ?_; (focus (first | omega | (simp only [List.length_cons, List.length_nil, List.length_map, List.length_append]; omega)))))
local macro_rules | `(tactic| walk_at "ds") => `(tactic| (apply vix_lst; (focus (assumption))))
def rn (p : Int × Int) : List Int := [p.1, p.2]
theorem thk_ok (f : Int → Int) : ∀ n : Nat, (∀ p ∈ (thk f n).1, p.1 < 0 ∧ p.2 < (n : Int) - (thk f n).2) 
  | 0 => fun p hp => by simp [thk] at hp
  | n + 1 => by
    have ih := thk_ok f n
    have hn := thk_nn f n
    rw [thk_succ]
    split
    · intro p hp
      have := ih p hp
      dsimp only
      omega
    · dsimp only
      intro p hp
      split at hp
      · rcases List.mem_append.mp hp with z | z
        · have := ih p z; omega
        · rw [List.mem_singleton.mp z]; dsimp only; omega
      · have := ih p hp; omega
theorem bst_of : ∀ (n : Nat) (f : Int → Int), (thk f n).1 ≠ [] → ∃ m ∈ (thk f n).1, bst (thk f n).1 = (-m.1, some m.2) ∧ ∀ r ∈ (thk f n).1, rn m ≤ rn r
  | 0, f, h => by simp [thk] at h
  | n + 1, f, h => by
    have hn := thk_nn f n
    have hk := thk_ok f n
    rw [thk_succ] at h ⊢
    split at h
    · rename_i c
      rw [if_pos c]
      exact bst_of n f h
    · rename_i c
      rw [if_neg c]
      dsimp only at h ⊢
      split at h
      · rename_i c2
        rw [if_pos c2]
        rw [bst_snoc]
        dsimp only
        by_cases e : (thk f n).1 = []
        · rw [e]
          refine ⟨(-(thk f n).2, (n : Int) - (thk f n).2), by simp, ?_, fun r hr => by simp at hr; rw [hr]; exact List.le_refl _⟩
          rw [if_pos (by show - -(thk f n).2 > (0 : Int); omega)]
        · obtain ⟨m, hm, h1, h2⟩ := bst_of n f e
          have hkm := hk m hm
          rw [h1]
          by_cases c3 : - -(thk f n).2 > -m.1
          · rw [if_pos c3]
            refine ⟨(-(thk f n).2, (n : Int) - (thk f n).2), by simp, rfl, fun r hr => ?_⟩
            rcases List.mem_append.mp hr with z | z
            · have := h2 r z
              unfold rn at this ⊢
              rw [le_pair] at this ⊢
              dsimp only
              omega
            · rw [List.mem_singleton.mp z]; exact List.le_refl _
          · rw [if_neg c3]
            refine ⟨m, List.mem_append_left _ hm, rfl, fun r hr => ?_⟩
            rcases List.mem_append.mp hr with z | z
            · exact h2 r z
            · rw [List.mem_singleton.mp z]
              unfold rn
              rw [le_pair]
              dsimp only
              omega
      · rename_i c2
        rw [if_neg c2]
        exact bst_of n f h
theorem bsD_pn {R : List (Int × Int)} : pn 8 (bsD R) := by
  unfold bsD
  refine pn_tup (pn_cons pn_int (pn_cons ?_ pn_nil))
  cases (bst R).2
  · exact pn_non
  · exact pn_int
section
variable {ns : List Int} {g : G}
theorem seg16 {sl2 sl3 sl7 sl8 sl9 sl11 sl12 sl13 sl14 sl15 sl16 sl17 sl18 sl19 sl20 sl21 sl22 sl23 sl24 sl25 sl26 sl27 sl28 sl29 : Sl} {S : List Cl} (h : okS S) (hg : 0 ≤ g.i) : LW ns b29_16 [.v .scr, .v .row, sl2, sl3, .v (.tup (S.map cl)), .v (sky S), .v (.lst ((iv 0 60).map fun t => .int (hgt S t))), sl7, sl8, sl9, .v (bsD (thk (hgt S) 61).1), sl11, sl12, sl13, sl14, sl15, sl16, sl17, sl18, sl19, sl20, sl21, sl22, sl23, sl24, sl25, sl26, sl27, sl28, sl29] g := by
  have hok := h.ok
  have few := h.few
  have hz := iv_len (l := 0) (n := 60)
  unfold b29_16
  walk_at "w"
  refine thickest_ok (by omega) ?_
  walk_at "w"
  refine same_neO rfl bsD_pn ?_
  walk_at "w"
  refine wet_ok (by omega) ?_
  walk_at "w"
  refine zcmT (p := fun t => decide (0 < hgt S t)) (f := fun t => .int (hgt S t)) (fun t hx => ⟨_, rfl, fun g P X hP => ?_, fun hp g P X hP => ?_⟩) ?_
  · walk_at "w"
    exact hP
  · walk_at "w"
    exact hP
  walk_at "w"
  exact seg17 h hg
theorem seg14 {sl2 sl3 sl7 sl8 sl9 sl10 sl11 sl12 sl13 sl14 sl15 sl16 sl17 sl18 sl20 sl21 sl22 sl23 sl24 sl25 sl26 sl27 sl28 sl29 : Sl} {S : List Cl} (h : okS S) (hg : 0 ≤ g.i) : LW ns b29_14 [.v .scr, .v .row, sl2, sl3, .v (.tup (S.map cl)), .v (sky S), .v (.lst ((iv 0 60).map fun t => .int (hgt S t))), sl7, sl8, sl9, sl10, sl11, sl12, sl13, sl14, sl15, sl16, sl17, sl18, .v (.lst ((thk (hgt S) 61).1.map fun p => ti (rn p))), sl20, sl21, sl22, sl23, sl24, sl25, sl26, sl27, sl28, sl29] g := by
  unfold b29_14
  walk_at "w"
  unfold b29_15
  walk_at "w"
  by_cases c : (thk (hgt S) 61).1 = []
  · refine if_yes c ?_
    walk_at "w"
    have := @seg16 ns g
    have e : D.tup [.int 0, .non] = bsD (thk (hgt S) 61).1 := by rw [c]; rfl
    rw [e]
    exact seg16 h hg
  · refine if_nay c ?_
    obtain ⟨m, hm, h1, h2⟩ := bst_of 61 (hgt S) c
    walk_at "w"
    refine min_ti (r := rn) hm h2 ?_
    walk_at "w"
    refine min_ti (r := rn) hm h2 ?_
    walk_at "w"
    have e : D.tup [.int (-m.1), .int m.2] = bsD (thk (hgt S) 61).1 := by unfold bsD; rw [h1]; rfl
    rw [e]
    exact seg16 h hg
theorem seg12 {sl2 sl3 sl7 sl8 sl9 sl10 sl11 sl12 sl13 sl14 sl15 sl16 sl17 sl18 sl19 sl20 sl21 sl22 sl23 sl24 sl25 sl26 sl27 sl28 sl29 : Sl} {S : List Cl} (h : okS S) (hg : 0 ≤ g.i) : LW ns b29_12 [.v .scr, .v .row, sl2, sl3, .v (.tup (S.map cl)), .v (sky S), .v (.lst ((iv 0 60).map fun t => .int (hgt S t))), sl7, sl8, sl9, sl10, sl11, sl12, sl13, sl14, sl15, sl16, sl17, sl18, sl19, sl20, sl21, sl22, sl23, sl24, sl25, sl26, sl27, sl28, sl29] g := by
  have hok := h.ok
  have few := h.few
  unfold b29_12
  walk_at "w"
  unfold b29_13
  walk_at "w"
  refine zforT (e := D.int) (L := iv 0 61) (fun u v ρ => ∃ (sl9 : Sl), ρ = [.v .scr, .v .row, sl2, sl3, .v (.tup (S.map cl)), .v (sky S), .v (.lst ((iv 0 60).map fun t => .int (hgt S t))), sl7, sl8, sl9, sl10, sl11, sl12, sl13, sl14, sl15, sl16, sl17, sl18, .v (.lst ((thk (hgt S) u.length).1.map fun p => ti (rn p))), .v (.int (thk (hgt S) u.length).2), sl21, sl22, sl23, sl24, sl25, sl26, sl27, sl28, sl29]) ⟨_, rfl⟩ ?_ ?_
  · rintro u x v ρ hu ⟨sl9, rfl⟩
    refine ⟨_, rfl, ?_⟩
    obtain ⟨hx, hx2⟩ := iv_split hu
    rw [Int.zero_add] at hx
    obtain ⟨n1, n2, n3⟩ := thk_nn (hgt S) u.length
    rw [List.length_append, List.length_singleton, thk_succ, ← hx]
    generalize thk (hgt S) u.length = q at n1 n2 n3 ⊢
    obtain ⟨R, c⟩ := q
    dsimp only at n1 n2 n3 ⊢
    have hR : R.length ≤ 100 := by omega
    have eR : D.lst (R.map (fun p => ti (rn p)) ++ (if decide (0 < c) = true then [.tup [.int (-c), .int (x - c)]] else [])) = .lst ((if 0 < c then R ++ [(-c, x - c)] else R).map fun p => ti (rn p)) := by
      by_cases c0 : 0 < c
      · simp [c0, rn]
      · simp [c0]
    by_cases c1 : x < 60
    · have a1 : atI ((iv 0 60).map fun t => D.int (hgt S t)) x = some (.int (hgt S x)) := at_map (e := fun t => D.int (hgt S t)) (by omega) (iv_at0 ⟨by omega, c1⟩)
      by_cases c2 : 0 < hgt S x
      · rw [if_pos ⟨c1, c2⟩]
        walk_at "w"
        exact ⟨_, rfl⟩
      · rw [if_neg (fun z => c2 z.2)]
        walk_at "w"
        refine rep_if (by simp) ?_
        walk_at "w"
        refine vpo_lst (sz_small ?_) ?_
        · rw [List.length_map]; split <;> simp <;> omega
        walk_at "w"
        rw [eR]
        exact ⟨_, rfl⟩
    · rw [if_neg (fun z => c1 z.1)]
      walk_at "w"
      refine rep_if (by simp) ?_
      walk_at "w"
      refine vpo_lst (sz_small ?_) ?_
      · rw [List.length_map]; split <;> simp <;> omega
      walk_at "w"
      rw [eR]
      exact ⟨_, rfl⟩
  · rintro ρ ⟨sl9, rfl⟩
    rw [iv_len]
    exact seg14 h hg
end
end Law

set_option Elab.async false
set_option linter.all false
set_option maxRecDepth 100000
set_option maxHeartbeats 4000000
set_option pp.deepTerms false
set_option pp.deepTerms.threshold 8
namespace Law
open PySem L2 DS
local macro_rules | `(tactic| walk_at "ds") => `(tactic| first
  | (apply vwe_v; exact rfl)
  | (apply vwe_o; exact rfl)
  | refine vwe_int ?_
  | refine vwe_bin ?_
  | refine vwe_ix ?_
  | refine vwe_cmp ?_
  | refine vwe_neg ?_
  | refine zwe_call ?_
  | refine vwe_cons ?_
  | refine vwe_nil ?_
  | refine vwe_bi ?_
  | refine vwe_non ?_
  | refine vwe_bl ?_
  | refine vwe_str ?_
  | refine vwe_ty ?_
  | refine vwe_tup ?_
  | refine vwe_one ?_
  | refine vwe_and ?_
  | refine vwe_or ?_
  | refine vwe_not ?_
  | refine vwe_ite ?_
  | refine vwe_ow ?_
  | refine vwl_lst ?_
  | refine vwe_isT ?_
  | refine vwt_one ?_
  | refine vwt_and ?_
  | refine vwt_or ?_
  | refine vwt_not ?_
  | refine vwt_val ?_
  | refine vwr_cons ?_
  | refine vwr_nil ?_
  | refine vws_ret ?_
  | refine vws_ife ?_
  | refine zws_set ?_
  | refine zws_par ?_
  | refine zws_setL ?_
  | refine zws_setW ?_
  | refine vws_expr ?_
  | (apply vws_row; exact rfl)
  | refine vix_row0 ?_
  | refine vix_row1 ?_
  | refine vix_row2 ?_
  | refine vix_row3 ?_
  | (apply vix_tup; exact rfl)
  | (apply vix_lst; exact rfl)
  | refine vpo_add ?_
  | refine vpo_sub ?_
  | (refine vpo_mul ?_ ?_; (focus (omega)))
  | (refine vpo_div ?_ ?_; (focus (omega)))
  | (refine vpo_mod ?_ ?_; (focus (omega)))
  | (refine vpo_pow ?_ ?_; (focus (decide)))
  | refine vpc_lt ?_
  | refine vpc_le ?_
  | refine vpc_gt ?_
  | refine vpc_ge ?_
  | refine vpc_eqI ?_
  | refine vpc_neI ?_
  | refine vpc_eqB ?_
  | refine vpc_neB ?_
  | (apply vpc_isN; exact rfl)
  | (apply vpc_notN; exact rfl)
  | refine if_not ?_
  | refine if_tt ?_
  | refine if_ff ?_
  | (apply isT_tl; exact rfl)
  | (apply isT_lt; exact rfl)
  | (apply isi_int; exact rfl)
  | (apply isi_bool; exact rfl)
  | (apply isi_str; exact rfl)
  | (apply isi_tuple; exact rfl)
  | (apply isi_list; exact rfl)
  | refine vpc_eqN ?_
  | refine vpc_eqNil ?_
  | refine vwc_no ?_
  | refine vwc_ex ?_
  | refine zwl_lc ?_
  | refine vwi_any ?_
  | refine vwi_r1 ?_
  | refine vwi_r2 ?_
  | refine vws_raise ?_
  | refine zws_for ?_
  | refine zws_try ?_
  | (refine try_yes ?_ ?_; (focus (rfl)))
  | (refine try_no ?_ ?_; (focus (rfl)))
  | refine len1 ?_
  | (refine rep_ok ?_ ?_; (focus (walk_at "rp")))
  | (refine rep_ne ?_ ?_; (focus (walk_at "rp")))
  | (refine cons_eq ?_ ?_; (focus (walk_at "pn"; done)))
  | (refine cons_ne ?_ ?_; (focus (walk_at "pn"; done)))
  | refine nil_neN ?_
  | (refine nil_eq (fun _ _ => ?_) ?_; (focus (walk_at "pn"; done)))
  | (refine nil_ne (fun _ _ => ?_) ?_; (focus (walk_at "pn"; done)))
  | (apply vwe_exf; exact rfl)
  | refine vws_asg ?_
  | refine vws_pass ?_
  | refine ex_bl ?_
  | (refine r1_rfl ?_ ?_; (focus (omega)))
  | (refine rg1_rfl ?_ ?_; (focus (omega)))
  | refine ex_int ?_
  | (apply bi_rfl; exact rfl)
  | (apply it_rfl; exact rfl)
  | refine par_rfl ?_
  | (apply row_rfl; exact rfl)
  | (apply zasg; exact rfl)
  | (refine r2_rfl ?_ ?_; (focus (omega)))
  | refine vwo_no ?_
  | refine vwo_ex ?_
  | refine vwe_sl ?_
  | (apply sl_rfl; exact rfl)
  | (apply zws_mtL; exact rfl)
  | refine vwl_rg1 ?_
  | refine vwl_rg2 ?_
  | (refine rg2_rfl ?_ ?_; (focus (omega)))
  | refine vwl_bl ?_
  | (apply zbl_list; exact rfl)
  | refine vwe_fld ?_
  | refine vws_doc ?_
  | refine vws_retN ?_
  | refine vwe_trg1 ?_
  | refine vwi_enum ?_
  | (apply ls_rfl; exact rfl)
  | refine zws_par3 ?_
  | refine par3_rfl ?_
  | (refine ml_app ?_ ?_; (focus (rw [sizeLine_eq]; simp only [List.length_cons, List.length_nil, List.length_append, List.length_map]; omega)))
  | refine zwe_chain ?_
  | refine vwe_gf ?_
  | refine vwe_gc ?_
  | refine vwe_isC ?_
  | (apply isC_rfl; exact rfl)
  | refine vwe_eqI ?_
  | (apply vwq_pl; exact rfl)
  | (apply zwq_eq; exact rfl)
  | (apply zwq_ne; exact rfl)
  | (apply zwe_callv; exact rfl)
  | refine zwe_meth ?_
  | (apply mt_rfl; exact rfl)
  | refine zwe_make ?_
  | (apply zws_setF; exact rfl)
  | (apply fld_rfl; exact rfl)
  | refine vwe_trg2 ?_
  | (refine And.intro (sz_small ?_) ?_; (focus (walk_at "sz")))
  | fail)
local macro_rules | `(tactic| walk_at "ds") => `(tactic| first
  | (apply env_is; (focus (dsimp only [List.set, wipeE, Tg.slots, frzE, ownL, List.getElem?_cons_succ, List.getElem?_cons_zero, clr, List.map, Sl.clr])))
  | refine g_rfl ?_
  | refine vch_le_le ?_
  | refine vch_le_lt ?_
  | refine vch_lt_le ?_
  | refine vch_lt_lt ?_
  | (refine if_yes ?_ ?_; (focus (first | omega | rfl | (simp only [List.length_cons, List.length_nil, List.length_map, List.length_append]; omega))))
  | (refine if_nay ?_ ?_; (focus (first | omega | (simp only [List.length_cons, List.length_nil, List.length_map, List.length_append]; omega))))
  | refine if_and ?_
  | refine if_or ?_
  | refine if_self ?_
  | refine len_mt ?_
  | refine len_ml ?_
  | refine all2d ?_
  | refine all2 ?_
  | refine all1 ?_
  | (refine vpo_lst ?_ ?_; (focus (refine sz_small ?_; walk_at "sz")))
  | (refine vpo_tup ?_ ?_; (focus (refine sz_small ?_; walk_at "sz")))
  | refine rr2 ?_
  | refine rr3 ?_
  | refine rr4 ?_
  | refine rr5 ?_
  | refine zws_tryM ?_
  | refine zwh_nil ?_
  | (refine zwh_yes ?_ ?_; (focus (rfl)))
  | (refine zwh_no ?_ ?_; (focus (rfl)))
  | refine zwr_frz ?_)
local macro_rules | `(tactic| walk_at "w") => `(tactic| repeat (walk_at "ds"))
local macro_rules | `(tactic| walk_at "u") => `(tactic| repeat first | walk_at "ds" | refine zcm_cons rfl ?_ | refine zcm_nil ?_ | refine zfor_cons rfl ?_ | refine zfor_nil ?_)
local macro_rules | `(tactic| walk_at "p") => `(tactic| repeat first | refine zwt_and ?_ | refine zwt_or ?_ | refine zwe_and ?_ | refine zwe_or ?_ | walk_at "ds" | refine zcm_cons rfl ?_ | refine zcm_nil ?_ | refine zfor_cons rfl ?_ | refine zfor_nil ?_)
local macro_rules | `(tactic| row_arm1w $t:term) => `(tactic| (refine $t; repeat (walk_at "ds")))
local macro_rules | `(tactic| walk_at "be") => `(tactic| (rw [Bool.eq_iff_iff]; (try simp only [Bool.and_eq_true, Bool.or_eq_true, Bool.not_eq_true', decide_eq_true_eq, decide_eq_false_iff_not, beq_iff_eq, bne_iff_ne, ne_eq, List.all_cons, List.all_nil, List.any_cons, List.any_nil, id, and_true, or_false, iff_true, true_iff]); first | done | omega | (simp; done) | (simp; omega) | grind))
local macro_rules | `(tactic| walk_at "pn1") => `(tactic| first | exact pn_int | exact pn_non | exact pn_bl | exact pn_nil | exact pm_int | exact pm_non | exact pm_nil | refine pn_cons ?_ ?_ | refine pm_cons ?_ ?_ | refine pn_map fun _ _ => ?_ | refine pm_map fun _ _ => ?_ | refine pn_app ?_ ?_ | refine pm_app ?_ ?_ | with_reducible refine pn_tup ?_ | with_reducible refine pn_lst ?_ | with_reducible refine pm_tup ?_ | with_reducible refine pm_lst ?_ | (refine pn_str ?_; (focus (decide +kernel))) | (refine pm_str ?_; (focus (decide +kernel))))
local macro_rules | `(tactic| walk_at "pn") => `(tactic| repeat (walk_at "pn1"))
local macro_rules | `(tactic| walk_at "pl") => `(tactic| repeat (walk_at "pl1"))
local macro_rules | `(tactic| walk_at "ds") => `(tactic| first | (refine same_eq ?_ ?_ ?_; (focus (rfl)); (focus (walk_at "pn"; done))) | (refine same_ne ?_ ?_ ?_; (focus (rfl)); (focus (walk_at "pn"; done))) | (refine same_eqO ?_ ?_ ?_; (focus (rfl)); (focus (walk_at "pn"; done))) | (refine same_neO ?_ ?_ ?_; (focus (rfl)); (focus (walk_at "pn"; done))))
local macro_rules | `(tactic| walk_at "sz") => `(tactic| first | omega | (simp [rngD_length]; done) | (simp [rngD_length]; omega))
local macro_rules | `(tactic| walk_at "rp") => `(tactic| first | exact rp_bl | exact rp_non | exact rp_int (by omega))

local macro_rules | `(tactic| walk_at "ds") => `(tactic| refine gv_0 ?_)
local macro_rules | `(tactic| walk_at "ds") => `(tactic| refine gv_1 ?_)
local macro_rules | `(tactic| walk_at "pl1") => `(tactic| first | exact pl_int | exact pl_non | exact pl_bl | exact pl_nil | (with_reducible refine pl_tup ?_ ?_; (focus (first | (simp; done) | (simp; omega)))) | (with_reducible refine pl_lst ?_ ?_; (focus (first | (simp; done) | (simp; omega)))) | refine pl_cons ?_ ?_ | refine pl_map fun _ _ => ?_ | exact pt_int | exact pt_non | exact pt_bl | exact pt_nil | (with_reducible refine pt_tup ?_ ?_; (focus (first | (simp; done) | (simp; omega)))) | refine pt_cons ?_ ?_ | refine pt_map fun _ _ => ?_)
local macro_rules | `(tactic| walk_at "ds") => `(tactic| (refine set_fld ?_ ?_ ?_; (focus (show _ ∈ fldF fldL _; decide +kernel)); (focus (exact Nat.le_of_ble_eq_true rfl))))
local macro_rules | `(tactic| walk_at "ds") => `(tactic| (apply whole_ok; exact rfl; exact rfl))
local macro_rules | `(tactic| walk_at "ds") => `(tactic| refine number_ok ?_)
local macro_rules | `(tactic| walk_at "ds") => `(tactic| (refine want_ok ?_ ?_; (focus (first | omega | (simp only [List.length_cons, List.length_nil, List.length_map, List.length_append]; omega)))))
local macro_rules | `(tactic| walk_at "ds") => `(tactic| (apply row_ok; focus rfl))
local macro_rules | `(tactic| walk_at "ds") => `(tactic| refine truth_ok ?_)
local macro_rules | `(tactic| walk_at "ds") => `(tactic| (refine alike6 rfl ?_ ?_; (focus (walk_at "pl"; done))))
local macro_rules | `(tactic| walk_at "pl1") => `(tactic| first | exact cl_pl)
local macro_rules | `(tactic| walk_at "pn1") => `(tactic| first | exact cl_pm | exact pm_pn cl_pm | exact cls_pm | exact pm_pn cls_pm | exact clsL_pm | exact pm_pn clsL_pm)
local macro_rules | `(tactic| walk_at "ds") => `(tactic| (apply zws_at; exact rfl))
local macro_rules | `(tactic| walk_at "ds") => `(tactic| (apply at_end; exact rfl))
local macro_rules | `(tactic| walk_at "ds") => `(tactic| (apply vix_lst; (focus (exact atI_last))))
local macro_rules | `(tactic| walk_at "ds") => `(tactic| refine sq_len ?_)
local macro_rules | `(tactic| walk_at "ds") => `(tactic| (apply sq_ix; exact rfl))
local macro_rules | `(tactic| walk_at "ds") => `(tactic| refine sky_eq_tup ?_)
local macro_rules | `(tactic| walk_at "ds") => `(tactic| refine sky_same ?_)
local macro_rules | `(tactic| walk_at "ds") => `(tactic| (refine at_ok ?_ ?_ ?_ ?_; (focus (first | omega | (simp only [List.length_cons, List.length_nil, List.length_map, List.length_append]; omega))); (focus (first | omega | (simp only [List.length_cons, List.length_nil, List.length_map, List.length_append]; omega))); (focus (first | omega | (simp only [List.length_cons, List.length_nil, List.length_map, List.length_append]; omega)))))
local macro_rules | `(tactic| walk_at "ds") => `(tactic| refine mx2_ok ?_)
local macro_rules | `(tactic| walk_at "ds") => `(tactic| refine mn2_ok ?_)
local macro_rules | `(tactic| walk_at "ds") => `(tactic| (refine profile_ok ?_ ?_; (focus (first | omega | (simp only [List.length_cons, List.length_nil, List.length_map, List.length_append]; omega)))))
local macro_rules | `(tactic| walk_at "ds") => `(tactic| (apply vix_lst; (focus (assumption))))
def good (ns : List Int) : Prop := ns.length ≤ 63 ∧ ∀ z ∈ ns, Builtin.Int.intBits z ≤ 1048576
theorem sum_zero {f : Int → Int} (h : ∀ t, 0 ≤ f t) : ∀ L : List Int, (L.all fun t => decide (f t = 0)) = decide ((L.map f).sum = 0) ∧ 0 ≤ (L.map f).sum
  | [] => ⟨rfl, by simp⟩
  | x :: L => by
    obtain ⟨h1, h2⟩ := sum_zero h L
    have := h x
    refine ⟨?_, by simp; omega⟩
    rw [List.all_cons, h1, List.map_cons, List.sum_cons, ← Bool.decide_and]
    exact decide_eq_decide.mpr (by omega)
theorem all_le {f : Int → Int} {m : Int} (hm : 0 ≤ m) {L : List Int} {z : Int} (hz : maxI (0 :: L.map f) = some z) : (L.all fun t => decide (f t ≤ m)) = decide (z ≤ m) := by
  obtain ⟨y, h1, h2, h3⟩ := maxI_some (ns := 0 :: L.map f) (by simp)
  rw [hz] at h1
  cases h1
  rw [Bool.eq_iff_iff, decide_eq_true_iff, List.all_eq_true]
  constructor
  · intro h
    rcases List.mem_cons.mp h2 with q | q
    · omega
    · obtain ⟨x, hx, q⟩ := List.mem_map.mp q
      have := of_decide_eq_true (h x hx)
      omega
  · intro h x hx
    have := h3 (f x) (List.mem_cons_of_mem _ (List.mem_map_of_mem hx))
    exact decide_eq_true (by omega)
theorem ceil_at (f : Int → Int) : atI ((ceilL f).map D.int ++ [.non]) 0 = some (optD (ceilL f).head?) := by
  cases ceilL f <;> exact atI_zero
theorem optD_pn {o : Option Int} : pn 8 (optD o) := by
  cases o
  · exact pn_non
  · exact pn_int
section
variable {ns : List Int} {g : G}
theorem seg7 {sl2 sl3 sl7 sl8 sl9 sl10 sl11 sl12 sl13 sl14 sl15 sl16 sl17 sl18 sl19 sl20 sl21 sl22 sl23 sl24 sl25 sl26 sl27 sl28 sl29 : Sl} {S : List Cl} (h : okS S) (hg : 0 ≤ g.i) : LW ns b29_7 [.v .scr, .v .row, sl2, sl3, .v (.tup (S.map cl)), .v (sky S), .v (.lst ((iv 0 60).map fun t => .int (hgt S t))), sl7, sl8, sl9, sl10, sl11, sl12, sl13, sl14, sl15, sl16, sl17, sl18, sl19, sl20, sl21, sl22, sl23, sl24, sl25, sl26, sl27, sl28, sl29] g := by
  have hok := h.ok
  have few := h.few
  have hz := iv_len (l := 0) (n := 60)
  have a1 : ∀ t, t ∈ iv 0 60 → atI ((iv 0 60).map fun t => D.int (hgt S t)) t = some (.int (hgt S t)) := fun t ht => at_map (e := fun t => D.int (hgt S t)) (iv_mem.mp ht).1 (iv_at0 (iv_mem.mp ht))
  unfold b29_7
  walk_at "w"
  rw [iv_rng0]
  refine zcmT (p := fun t => decide (5 ≤ hgt S t)) (f := fun t => .int t) (fun t hx => ⟨_, rfl, fun g P X hP => ?_, fun hp g P X hP => ?_⟩) ?_
  · have a2 := a1 t hx
    walk_at "w"
    exact hP
  · walk_at "w"
    exact hP
  walk_at "w"
  unfold b29_8
  walk_at "w"
  refine taken _ (by omega) (by omega) hg fun a g1 a0 a60 hg1 => ?_
  walk_at "w"
  refine taken _ (by omega) (by omega) hg1 fun b g2 b0 b60 hg2 => ?_
  walk_at "w"
  refine taken _ (by omega) (by omega) hg2 fun m g3 m0 m9 hg3 => ?_
  walk_at "w"
  unfold b29_9
  have l1 := @mn2_lim a b
  have l2 := @mx2_lim a b
  walk_at "w"
  rw [cut_iv (f := fun t => D.int (hgt S t)) (n := 60) (by omega) (by omega) (by omega) (by omega)]
  unfold b29_10
  walk_at "w"
  refine ceiling_ok (by omega) ?_
  walk_at "w"
  refine vpo_lst (sz_small ?_) ?_
  · rw [List.length_map, List.length_singleton]
    have := List.length_filter_le (fun t => decide (5 ≤ hgt S t)) (iv 0 60)
    omega
  walk_at "w"
  refine vix_lst (ceil_at (hgt S)) ?_
  refine vwq_pl (by cases (ceilL (hgt S)).head? <;> rfl) ?_
  refine same_neO rfl optD_pn ?_
  walk_at "w"
  refine clear_ok (by omega) (by omega) (by omega) ?_
  walk_at "w"
  rw [cut_iv (f := fun t => D.int (hgt S t)) (n := 60) (by omega) (by omega) (by omega) (by omega)]
  refine sum_rfl ?_
  walk_at "w"
  refine if_t (by rw [(sum_zero (hgt_nn S) (iv a b)).1, beq_iff_eq]) ?_
  walk_at "w"
  unfold b29_11
  walk_at "w"
  refine sees_ok (by omega) (by omega) (by omega) ?_
  walk_at "w"
  have hab := iv_len (l := mn2 a b) (n := mx2 a b)
  refine vpo_lst (sz_small ?_) ?_
  · rw [List.length_map, List.length_singleton]; omega
  walk_at "w"
  have e : D.lst ([.int 0] ++ (iv (mn2 a b) (mx2 a b)).map fun t => D.int (hgt S t)) = .lst ((0 :: (iv (mn2 a b) (mx2 a b)).map (hgt S)).map fun z => D.int z) := by simp
  rw [e]
  obtain ⟨z, hz1, _, _⟩ := maxI_some (ns := 0 :: (iv (mn2 a b) (mx2 a b)).map (hgt S)) (by simp)
  refine max_rfl (f := fun z => z) (m := z) (by rw [List.map_id']; exact hz1) ?_
  walk_at "w"
  refine if_t (by rw [all_le m0 hz1, beq_iff_eq]) ?_
  walk_at "w"
  exact seg12 h hg3
theorem seg4 {sl2 sl3 sl6 sl7 sl8 sl9 sl10 sl11 sl12 sl13 sl14 sl15 sl16 sl17 sl18 sl19 sl20 sl21 sl22 sl23 sl24 sl25 sl26 sl27 sl28 sl29 : Sl} {S : List Cl} (h : okS S) (hg : 0 ≤ g.i) : LW ns b29_4 [.v .scr, .v .row, sl2, sl3, .v (.tup (S.map cl)), .v (sky S), sl6, sl7, sl8, sl9, sl10, sl11, sl12, sl13, sl14, sl15, sl16, sl17, sl18, sl19, sl20, sl21, sl22, sl23, sl24, sl25, sl26, sl27, sl28, sl29] g := by
  have hok := h.ok
  have few := h.few
  have hz := iv_len (l := 0) (n := 60)
  have hst := srtd_eq h.st
  have hpl := prof_len (f := hgt S) 60
  have a1 : ∀ t, t ∈ iv 0 60 → atI ((iv 0 60).map fun t => D.int (hgt S t)) t = some (.int (hgt S t)) := fun t ht => at_map (e := fun t => D.int (hgt S t)) (iv_mem.mp ht).1 (iv_at0 (iv_mem.mp ht))
  unfold b29_4
  walk_at "w"
  refine sky_mk (ls := S) (.inl rfl) hok ?_
  rw [hst]
  walk_at "w"
  unfold b29_5
  walk_at "w"
  rw [iv_rng0]
  refine zcmA (f := fun t => .int (hgt S t)) (fun t hx => ⟨_, rfl, fun g P X hP => ?_⟩) ?_
  · walk_at "w"
    refine lat_ok (by omega) ?_
    exact hP
  walk_at "w"
  unfold b29_6
  walk_at "w"
  rw [iv_rng0]
  refine zcm_none (fun t ht => ⟨_, rfl, fun g P X hP => ?_⟩) ?_
  · have a2 := a1 t ht
    have := iv_mem.mp ht
    walk_at "w"
    exact hP
  walk_at "w"
  refine lprofile_ok (by omega) ?_
  walk_at "w"
  exact seg7 h hg
theorem mix_of : ∀ {ls : List Cl} {rs : List D}, Al2 (fun x y => ∃ c, y = mixC x c) ls rs → Mix rs ls
  | _, _, .nil => .nil
  | _, _, .cons ⟨c, h⟩ t => by subst h; exact .cons (mix_of t)
theorem seg2 {sl3 sl4 sl5 sl6 sl7 sl8 sl9 sl10 sl11 sl12 sl13 sl14 sl15 sl16 sl17 sl18 sl19 sl20 sl21 sl22 sl23 sl24 sl25 sl26 sl27 sl28 sl29 : Sl} {L : List Cl} (h : okCs L) (few : L.length ≤ 5) (hg : 0 ≤ g.i) : LW ns b29_2 [.v .scr, .v .row, .ol (L.map cl), sl3, sl4, sl5, sl6, sl7, sl8, sl9, sl10, sl11, sl12, sl13, sl14, sl15, sl16, sl17, sl18, sl19, sl20, sl21, sl22, sl23, sl24, sl25, sl26, sl27, sl28, sl29] g := by
  unfold b29_2
  walk_at "w"
  refine srt_ti (r := ky) (L := L) (fun x _ => by simp [ky]) ?_
  walk_at "w"
  have hS : okS (srtR ky L) := ⟨okCs_srt h, by rw [(srtR_perm ky L).length_eq]; exact few, srtd_srt L⟩
  unfold b29_3
  walk_at "w"
  refine zcmR (J := fun g => 0 ≤ g.i) (Rel := fun x y => ∃ c, y = mixC x c) (fun x hx g hg => ⟨_, rfl, ?_⟩) hg fun rs g2 hrs hg2 => ?_
  · walk_at "w"
    refine mixed_ok (.inl rfl) (by simp) hg fun c g1 hg1 => ?_
    exact ⟨⟨_, rfl⟩, hg1⟩
  have hm := mix_of hrs
  have hml := hm.len
  walk_at "w"
  refine mixed_ok (.inr rfl) (by omega) hg2 fun c g3 hg3 => ?_
  walk_at "w"
  refine sky_mkM hm h ?_
  walk_at "w"
  exact seg4 hS hg3
theorem seg0 (hg : 0 ≤ g.i) : LW ns b29 [.v .scr, .v .row, .no, .no, .no, .no, .no, .no, .no, .no, .no, .no, .no, .no, .no, .no, .no, .no, .no, .no, .no, .no, .no, .no, .no, .no, .no, .no, .no, .no] g := by
  unfold b29
  walk_at "w"
  unfold b29_1
  walk_at "w"
  refine taken _ (by omega) (by omega) hg fun n g1 n0 n1 hg1 => ?_
  walk_at "w"
  refine zfor (fun es ρ g' => 0 ≤ g'.i ∧ ∃ (L : List Cl) (sl3 sl15 : Sl), ρ = [.v .scr, .v .row, .ol (L.map cl), sl3, .no, .no, .no, .no, .no, .no, .no, .no, .no, .no, .no, sl15, .no, .no, .no, .no, .no, .no, .no, .no, .no, .no, .no, .no, .no, .no] ∧ (∀ x ∈ L, okC x) ∧ L.length + es.length ≤ 5) ⟨hg1, [], _, _, rfl, fun x hx => (by cases hx), by rw [rngD_length]; simp; omega⟩ ?_ ?_
  · rintro e es ρ g' ⟨hg', L, sl3, sl15, rfl, hL, hlen⟩
    refine ⟨_, rfl, ?_⟩
    rw [List.length_cons] at hlen
    walk_at "w"
    refine taken _ (by omega) (by omega) hg' fun a g2 a0 a1 hg2 => ?_
    walk_at "w"
    refine taken _ (by omega) (by omega) hg2 fun b g3 b0 b1 hg3 => ?_
    walk_at "w"
    refine pick (by simp) (by simp) hg3 fun d g4 hd hg4 => ?_
    obtain ⟨z, rfl, z0, z1⟩ : ∃ z : Int, d = .int z ∧ 0 ≤ z ∧ z < 60 := by
      simp only [List.mem_cons, List.not_mem_nil, or_false] at hd
      rcases hd with rfl | rfl
      · exact ⟨a, rfl, a0, by omega⟩
      · exact ⟨b, rfl, b0, by omega⟩
    have lm := @mn2_lim 15 (60 - z)
    walk_at "w"
    refine taken _ (by omega) (by omega) hg4 fun c g5 c0 c1 hg5 => ?_
    walk_at "w"
    refine taken _ (by omega) (by omega) hg5 fun f g6 f0 f1 hg6 => ?_
    walk_at "w"
    refine ⟨hg6, L ++ [⟨z, z + 1 + c, f⟩], _, _, by rw [List.map_append]; rfl, fun x hx => ?_, by rw [List.length_append, List.length_singleton]; omega⟩
    rcases List.mem_append.mp hx with q | q
    · exact hL x q
    · rw [List.mem_singleton.mp q]
      unfold okC
      dsimp only
      omega
  · rintro ρ g' ⟨hg', L, sl3, sl15, rfl, hL, hlen⟩
    have hl5 : L.length ≤ 5 := by simpa using hlen
    exact seg2 ⟨by omega, hL⟩ hl5 hg'
theorem law_true (ns : List Int) (hg : good ns) : ∃ g, DS.evB (DS.tabK (sta ns) 12) b29 (DS.law0 n29) ⟨0, 61, 0⟩ = .rt (.bl true) g := vlaw (seg0 (by simp))
end
end Law

open PySem PySem.W PyProof.Rows
set_option maxRecDepth 100000 in
set_option maxHeartbeats 0 in
theorem PySem.Challenge.cw_balloontold_k20_whole_clouds_holds : PySem.Challenge.rw_balloontold_k20_whole_clouds.Holds := by
  w_on; o_law; k_head; (case hw => w_witness2)
  k_fill
  refine Law.walk (l := PySem.Challenge.rw_balloontold_k20_whole_clouds) (good := Law.good) rfl rfl (fun w h Y => PySem.W.kIn_of Y) ?F (fun ns h1 h2 => ⟨h1, h2⟩)
  case F =>
    intro w mg fa h KX G hmg
    refine' Law.all_mk (good := Law.good) KX G hmg (hlaw := Law.law_true) ?a0 ?l0 ?cq0 ?k0 ?a1 ?l1 ?cq1 ?k1 ?a2 ?l2 ?cq2 ?k2 ?a3 ?l3 ?cq3 ?k3 ?a4 ?l4 ?cq4 ?k4 ?a5 ?l5 ?cq5 ?k5 ?a6 ?l6 ?cq6 ?k6 ?a20 ?l20 ?cq20 ?k20 ?a21 ?l21 ?cq21 ?k21 ?a22 ?l22 ?cq22 ?k22 ?a23 ?l23 ?cq23 ?k23 ?a24 ?l24 ?cq24 ?k24 ?a25 ?l25 ?cq25 ?k25 ?a26 ?l26 ?cq26 ?k26 ?a27 ?l27 ?cq27 ?k27 ?a28 ?l28 ?cq28 ?k28 ?a29 ?l29 ?cq29 ?k29 ?gc0 ?pgc0 ?hdc0 ?poc0 ?sac0 ?hac0 ?hnc0 ?htc0 ?hmc0 ?mkc0 ?kpc0 ?mec0 ?na_layersc0 ?mh7 ?l7 ?cq7 ?k7 ?fn7 ?mh8 ?l8 ?cq8 ?k8 ?fn8 ?mh9 ?l9 ?cq9 ?k9 ?fn9 ?mh10 ?l10 ?cq10 ?k10 ?fn10 ?mh11 ?l11 ?cq11 ?k11 ?fn11 ?mh12 ?l12 ?cq12 ?k12 ?fn12 ?mh13 ?l13 ?cq13 ?k13 ?fn13 ?mh14 ?l14 ?cq14 ?k14 ?fn14 ?mh15 ?l15 ?cq15 ?k15 ?fn15 ?mh16 ?l16 ?cq16 ?k16 ?fn16 ?mh17 ?l17 ?cq17 ?k17 ?fn17 ?mh18 ?l18 ?cq18 ?k18 ?fn18 ?mh19 ?l19 ?cq19 ?k19 ?fn19 ?nec0 ?z0 ?z1 ?z2 ?z3 ?z4 ?z5 ?z6 ?z7 ?z8 ?z9 ?z10 ?z11 ?z12 ?z13 ?z14 ?gv_HIGHEST ?gv_MOST_LAYERS ?ge0 ?xe0 ?ye0 ?sae0 ?gae0 ?gge0 ?noe0 ?ice0 ?tce0 ?kce0 ?ece0 ?tye0 ?hde0 ?vee0 ?mee0 ?ale0 ?ope0 ?sue0 ?toe0 ?fne0 ?coe0 ?cde0 ?cve0 ?cfe0 ?lne0 ?cee0 ?bde0 ?ge1 ?xe1 ?ye1 ?sae1 ?gae1 ?gge1 ?noe1 ?ice1 ?tce1 ?kce1 ?ece1 ?tye1 ?hde1 ?vee1 ?mee1 ?ale1 ?ope1 ?sue1 ?toe1 ?fne1 ?coe1 ?cde1 ?cve1 ?cfe1 ?lne1 ?cee1 ?bde1 ?ge2 ?xe2 ?ye2 ?sae2 ?gae2 ?gge2 ?noe2 ?ice2 ?tce2 ?kce2 ?ece2 ?tye2 ?hde2 ?vee2 ?mee2 ?ale2 ?ope2 ?sue2 ?toe2 ?fne2 ?coe2 ?cde2 ?cve2 ?cfe2 ?lne2 ?cee2 ?bde2 ?xm0_0 ?xm0_1 ?xm0_2 ?xm1_0 ?xm1_1 ?xm1_2 ?xm2_0 ?xm2_1 ?xm2_2 ?nd
    (case a0 => first | k_is | rfl | decide +kernel | (intros; rfl))
    (case l0 => first | k_is | rfl | decide +kernel | (intros; rfl))
    (case cq0 => first | k_is | rfl | decide +kernel | (intros; rfl))
    (case k0 => first | k_is | rfl | decide +kernel | (intros; rfl))
    (case a1 => first | k_is | rfl | decide +kernel | (intros; rfl))
    (case l1 => first | k_is | rfl | decide +kernel | (intros; rfl))
    (case cq1 => first | k_is | rfl | decide +kernel | (intros; rfl))
    (case k1 => first | k_is | rfl | decide +kernel | (intros; rfl))
    (case a2 => first | k_is | rfl | decide +kernel | (intros; rfl))
    (case l2 => first | k_is | rfl | decide +kernel | (intros; rfl))
    (case cq2 => first | k_is | rfl | decide +kernel | (intros; rfl))
    (case k2 => first | k_is | rfl | decide +kernel | (intros; rfl))
    (case a3 => first | k_is | rfl | decide +kernel | (intros; rfl))
    (case l3 => first | k_is | rfl | decide +kernel | (intros; rfl))
    (case cq3 => first | k_is | rfl | decide +kernel | (intros; rfl))
    (case k3 => first | k_is | rfl | decide +kernel | (intros; rfl))
    (case a4 => first | k_is | rfl | decide +kernel | (intros; rfl))
    (case l4 => first | k_is | rfl | decide +kernel | (intros; rfl))
    (case cq4 => first | k_is | rfl | decide +kernel | (intros; rfl))
    (case k4 => first | k_is | rfl | decide +kernel | (intros; rfl))
    (case a5 => first | k_is | rfl | decide +kernel | (intros; rfl))
    (case l5 => first | k_is | rfl | decide +kernel | (intros; rfl))
    (case cq5 => first | k_is | rfl | decide +kernel | (intros; rfl))
    (case k5 => first | k_is | rfl | decide +kernel | (intros; rfl))
    (case a6 => first | k_is | rfl | decide +kernel | (intros; rfl))
    (case l6 => first | k_is | rfl | decide +kernel | (intros; rfl))
    (case cq6 => first | k_is | rfl | decide +kernel | (intros; rfl))
    (case k6 => first | k_is | rfl | decide +kernel | (intros; rfl))
    (case a20 => first | k_is | rfl | decide +kernel | (intros; rfl))
    (case l20 => first | k_is | rfl | decide +kernel | (intros; rfl))
    (case cq20 => first | k_is | rfl | decide +kernel | (intros; rfl))
    (case k20 => first | k_is | rfl | decide +kernel | (intros; rfl))
    (case a21 => first | k_is | rfl | decide +kernel | (intros; rfl))
    (case l21 => first | k_is | rfl | decide +kernel | (intros; rfl))
    (case cq21 => first | k_is | rfl | decide +kernel | (intros; rfl))
    (case k21 => first | k_is | rfl | decide +kernel | (intros; rfl))
    (case a22 => first | k_is | rfl | decide +kernel | (intros; rfl))
    (case l22 => first | k_is | rfl | decide +kernel | (intros; rfl))
    (case cq22 => first | k_is | rfl | decide +kernel | (intros; rfl))
    (case k22 => first | k_is | rfl | decide +kernel | (intros; rfl))
    (case a23 => first | k_is | rfl | decide +kernel | (intros; rfl))
    (case l23 => first | k_is | rfl | decide +kernel | (intros; rfl))
    (case cq23 => first | k_is | rfl | decide +kernel | (intros; rfl))
    (case k23 => first | k_is | rfl | decide +kernel | (intros; rfl))
    (case a24 => first | k_is | rfl | decide +kernel | (intros; rfl))
    (case l24 => first | k_is | rfl | decide +kernel | (intros; rfl))
    (case cq24 => first | k_is | rfl | decide +kernel | (intros; rfl))
    (case k24 => first | k_is | rfl | decide +kernel | (intros; rfl))
    (case a25 => first | k_is | rfl | decide +kernel | (intros; rfl))
    (case l25 => first | k_is | rfl | decide +kernel | (intros; rfl))
    (case cq25 => first | k_is | rfl | decide +kernel | (intros; rfl))
    (case k25 => first | k_is | rfl | decide +kernel | (intros; rfl))
    (case a26 => first | k_is | rfl | decide +kernel | (intros; rfl))
    (case l26 => first | k_is | rfl | decide +kernel | (intros; rfl))
    (case cq26 => first | k_is | rfl | decide +kernel | (intros; rfl))
    (case k26 => first | k_is | rfl | decide +kernel | (intros; rfl))
    (case a27 => first | k_is | rfl | decide +kernel | (intros; rfl))
    (case l27 => first | k_is | rfl | decide +kernel | (intros; rfl))
    (case cq27 => first | k_is | rfl | decide +kernel | (intros; rfl))
    (case k27 => first | k_is | rfl | decide +kernel | (intros; rfl))
    (case a28 => first | k_is | rfl | decide +kernel | (intros; rfl))
    (case l28 => first | k_is | rfl | decide +kernel | (intros; rfl))
    (case cq28 => first | k_is | rfl | decide +kernel | (intros; rfl))
    (case k28 => first | k_is | rfl | decide +kernel | (intros; rfl))
    (case a29 => first | k_is | rfl | decide +kernel | (intros; rfl))
    (case l29 => first | k_is | rfl | decide +kernel | (intros; rfl))
    (case cq29 => first | k_is | rfl | decide +kernel | (intros; rfl))
    (case k29 => first | k_is | rfl | decide +kernel | (intros; rfl))
    (case gc0 => first | k_is | rfl | decide +kernel | (intros; rfl))
    (case pgc0 => first | k_is | rfl | decide +kernel | (intros; rfl))
    (case hdc0 => first | k_is | rfl | decide +kernel | (intros; rfl))
    (case poc0 => first | k_is | rfl | decide +kernel | (intros; rfl))
    (case sac0 => first | k_is | rfl | decide +kernel | (intros; rfl))
    (case hac0 => first | k_is | rfl | decide +kernel | (intros; rfl))
    (case hnc0 => first | k_is | rfl | decide +kernel | (intros; rfl))
    (case htc0 => first | k_is | rfl | decide +kernel | (intros; rfl))
    (case hmc0 => first | k_is | rfl | decide +kernel | (intros; rfl))
    (case mkc0 => first | k_is | rfl | decide +kernel | (intros; rfl))
    (case kpc0 => first | k_is | rfl | decide +kernel | (intros; rfl))
    (case mec0 => first | k_is | rfl | decide +kernel | (intros; rfl))
    (case na_layersc0 => first | k_is | rfl | decide +kernel | (intros; rfl))
    (case mh7 => first | k_is | rfl | decide +kernel | (intros; rfl))
    (case l7 => first | k_is | rfl | decide +kernel | (intros; rfl))
    (case cq7 => first | k_is | rfl | decide +kernel | (intros; rfl))
    (case k7 => first | k_is | rfl | decide +kernel | (intros; rfl))
    (case fn7 => first | k_is | rfl | decide +kernel | (intros; rfl))
    (case mh8 => first | k_is | rfl | decide +kernel | (intros; rfl))
    (case l8 => first | k_is | rfl | decide +kernel | (intros; rfl))
    (case cq8 => first | k_is | rfl | decide +kernel | (intros; rfl))
    (case k8 => first | k_is | rfl | decide +kernel | (intros; rfl))
    (case fn8 => first | k_is | rfl | decide +kernel | (intros; rfl))
    (case mh9 => first | k_is | rfl | decide +kernel | (intros; rfl))
    (case l9 => first | k_is | rfl | decide +kernel | (intros; rfl))
    (case cq9 => first | k_is | rfl | decide +kernel | (intros; rfl))
    (case k9 => first | k_is | rfl | decide +kernel | (intros; rfl))
    (case fn9 => first | k_is | rfl | decide +kernel | (intros; rfl))
    (case mh10 => first | k_is | rfl | decide +kernel | (intros; rfl))
    (case l10 => first | k_is | rfl | decide +kernel | (intros; rfl))
    (case cq10 => first | k_is | rfl | decide +kernel | (intros; rfl))
    (case k10 => first | k_is | rfl | decide +kernel | (intros; rfl))
    (case fn10 => first | k_is | rfl | decide +kernel | (intros; rfl))
    (case mh11 => first | k_is | rfl | decide +kernel | (intros; rfl))
    (case l11 => first | k_is | rfl | decide +kernel | (intros; rfl))
    (case cq11 => first | k_is | rfl | decide +kernel | (intros; rfl))
    (case k11 => first | k_is | rfl | decide +kernel | (intros; rfl))
    (case fn11 => first | k_is | rfl | decide +kernel | (intros; rfl))
    (case mh12 => first | k_is | rfl | decide +kernel | (intros; rfl))
    (case l12 => first | k_is | rfl | decide +kernel | (intros; rfl))
    (case cq12 => first | k_is | rfl | decide +kernel | (intros; rfl))
    (case k12 => first | k_is | rfl | decide +kernel | (intros; rfl))
    (case fn12 => first | k_is | rfl | decide +kernel | (intros; rfl))
    (case mh13 => first | k_is | rfl | decide +kernel | (intros; rfl))
    (case l13 => first | k_is | rfl | decide +kernel | (intros; rfl))
    (case cq13 => first | k_is | rfl | decide +kernel | (intros; rfl))
    (case k13 => first | k_is | rfl | decide +kernel | (intros; rfl))
    (case fn13 => first | k_is | rfl | decide +kernel | (intros; rfl))
    (case mh14 => first | k_is | rfl | decide +kernel | (intros; rfl))
    (case l14 => first | k_is | rfl | decide +kernel | (intros; rfl))
    (case cq14 => first | k_is | rfl | decide +kernel | (intros; rfl))
    (case k14 => first | k_is | rfl | decide +kernel | (intros; rfl))
    (case fn14 => first | k_is | rfl | decide +kernel | (intros; rfl))
    (case mh15 => first | k_is | rfl | decide +kernel | (intros; rfl))
    (case l15 => first | k_is | rfl | decide +kernel | (intros; rfl))
    (case cq15 => first | k_is | rfl | decide +kernel | (intros; rfl))
    (case k15 => first | k_is | rfl | decide +kernel | (intros; rfl))
    (case fn15 => first | k_is | rfl | decide +kernel | (intros; rfl))
    (case mh16 => first | k_is | rfl | decide +kernel | (intros; rfl))
    (case l16 => first | k_is | rfl | decide +kernel | (intros; rfl))
    (case cq16 => first | k_is | rfl | decide +kernel | (intros; rfl))
    (case k16 => first | k_is | rfl | decide +kernel | (intros; rfl))
    (case fn16 => first | k_is | rfl | decide +kernel | (intros; rfl))
    (case mh17 => first | k_is | rfl | decide +kernel | (intros; rfl))
    (case l17 => first | k_is | rfl | decide +kernel | (intros; rfl))
    (case cq17 => first | k_is | rfl | decide +kernel | (intros; rfl))
    (case k17 => first | k_is | rfl | decide +kernel | (intros; rfl))
    (case fn17 => first | k_is | rfl | decide +kernel | (intros; rfl))
    (case mh18 => first | k_is | rfl | decide +kernel | (intros; rfl))
    (case l18 => first | k_is | rfl | decide +kernel | (intros; rfl))
    (case cq18 => first | k_is | rfl | decide +kernel | (intros; rfl))
    (case k18 => first | k_is | rfl | decide +kernel | (intros; rfl))
    (case fn18 => first | k_is | rfl | decide +kernel | (intros; rfl))
    (case mh19 => first | k_is | rfl | decide +kernel | (intros; rfl))
    (case l19 => first | k_is | rfl | decide +kernel | (intros; rfl))
    (case cq19 => first | k_is | rfl | decide +kernel | (intros; rfl))
    (case k19 => first | k_is | rfl | decide +kernel | (intros; rfl))
    (case fn19 => first | k_is | rfl | decide +kernel | (intros; rfl))
    (case nec0 => first | k_is | rfl | decide +kernel | (intros; rfl))
    (case z0 => first | k_is | rfl | decide +kernel | (intros; rfl))
    (case z1 => first | k_is | rfl | decide +kernel | (intros; rfl))
    (case z2 => first | k_is | rfl | decide +kernel | (intros; rfl))
    (case z3 => first | k_is | rfl | decide +kernel | (intros; rfl))
    (case z4 => first | k_is | rfl | decide +kernel | (intros; rfl))
    (case z5 => first | k_is | rfl | decide +kernel | (intros; rfl))
    (case z6 => first | k_is | rfl | decide +kernel | (intros; rfl))
    (case z7 => first | k_is | rfl | decide +kernel | (intros; rfl))
    (case z8 => first | k_is | rfl | decide +kernel | (intros; rfl))
    (case z9 => first | k_is | rfl | decide +kernel | (intros; rfl))
    (case z10 => first | k_is | rfl | decide +kernel | (intros; rfl))
    (case z11 => first | k_is | rfl | decide +kernel | (intros; rfl))
    (case z12 => first | k_is | rfl | decide +kernel | (intros; rfl))
    (case z13 => first | k_is | rfl | decide +kernel | (intros; rfl))
    (case z14 => first | k_is | rfl | decide +kernel | (intros; rfl))
    (case gv_HIGHEST => first | k_is | rfl | decide +kernel | (intros; rfl))
    (case gv_MOST_LAYERS => first | k_is | rfl | decide +kernel | (intros; rfl))
    (case ge0 => first | k_is | rfl | decide +kernel | (intros; rfl))
    (case xe0 => first | k_is | rfl | decide +kernel | (intros; rfl))
    (case ye0 => first | k_is | rfl | decide +kernel | (intros; rfl))
    (case sae0 => first | k_is | rfl | decide +kernel | (intros; rfl))
    (case gae0 => first | k_is | rfl | decide +kernel | (intros; rfl))
    (case gge0 => first | k_is | rfl | decide +kernel | (intros; rfl))
    (case noe0 => first | k_is | rfl | decide +kernel | (intros; rfl))
    (case ice0 => first | k_is | rfl | decide +kernel | (intros; rfl))
    (case tce0 => first | k_is | rfl | decide +kernel | (intros; rfl))
    (case kce0 => first | k_is | rfl | decide +kernel | (intros; rfl))
    (case ece0 => first | k_is | rfl | decide +kernel | (intros; rfl))
    (case tye0 => first | k_is | rfl | decide +kernel | (intros; rfl))
    (case hde0 => first | k_is | rfl | decide +kernel | (intros; rfl))
    (case vee0 => first | k_is | rfl | decide +kernel | (intros; rfl))
    (case mee0 => first | k_is | rfl | decide +kernel | (intros; rfl))
    (case ale0 => first | k_is | rfl | decide +kernel | (intros; rfl))
    (case ope0 => first | k_is | rfl | decide +kernel | (intros; rfl))
    (case sue0 => first | k_is | rfl | decide +kernel | (intros; rfl))
    (case toe0 => first | k_is | rfl | decide +kernel | (intros; rfl))
    (case fne0 => first | k_is | rfl | decide +kernel | (intros; rfl))
    (case coe0 => first | k_is | rfl | decide +kernel | (intros; rfl))
    (case cde0 => first | k_is | rfl | decide +kernel | (intros; rfl))
    (case cve0 => first | k_is | rfl | decide +kernel | (intros; rfl))
    (case cfe0 => first | k_is | rfl | decide +kernel | (intros; rfl))
    (case lne0 => first | k_is | rfl | decide +kernel | (intros; rfl))
    (case cee0 => first | k_is | rfl | decide +kernel | (intros; rfl))
    (case bde0 => first | k_is | rfl | decide +kernel | (intros; rfl))
    (case ge1 => first | k_is | rfl | decide +kernel | (intros; rfl))
    (case xe1 => first | k_is | rfl | decide +kernel | (intros; rfl))
    (case ye1 => first | k_is | rfl | decide +kernel | (intros; rfl))
    (case sae1 => first | k_is | rfl | decide +kernel | (intros; rfl))
    (case gae1 => first | k_is | rfl | decide +kernel | (intros; rfl))
    (case gge1 => first | k_is | rfl | decide +kernel | (intros; rfl))
    (case noe1 => first | k_is | rfl | decide +kernel | (intros; rfl))
    (case ice1 => first | k_is | rfl | decide +kernel | (intros; rfl))
    (case tce1 => first | k_is | rfl | decide +kernel | (intros; rfl))
    (case kce1 => first | k_is | rfl | decide +kernel | (intros; rfl))
    (case ece1 => first | k_is | rfl | decide +kernel | (intros; rfl))
    (case tye1 => first | k_is | rfl | decide +kernel | (intros; rfl))
    (case hde1 => first | k_is | rfl | decide +kernel | (intros; rfl))
    (case vee1 => first | k_is | rfl | decide +kernel | (intros; rfl))
    (case mee1 => first | k_is | rfl | decide +kernel | (intros; rfl))
    (case ale1 => first | k_is | rfl | decide +kernel | (intros; rfl))
    (case ope1 => first | k_is | rfl | decide +kernel | (intros; rfl))
    (case sue1 => first | k_is | rfl | decide +kernel | (intros; rfl))
    (case toe1 => first | k_is | rfl | decide +kernel | (intros; rfl))
    (case fne1 => first | k_is | rfl | decide +kernel | (intros; rfl))
    (case coe1 => first | k_is | rfl | decide +kernel | (intros; rfl))
    (case cde1 => first | k_is | rfl | decide +kernel | (intros; rfl))
    (case cve1 => first | k_is | rfl | decide +kernel | (intros; rfl))
    (case cfe1 => first | k_is | rfl | decide +kernel | (intros; rfl))
    (case lne1 => first | k_is | rfl | decide +kernel | (intros; rfl))
    (case cee1 => first | k_is | rfl | decide +kernel | (intros; rfl))
    (case bde1 => first | k_is | rfl | decide +kernel | (intros; rfl))
    (case ge2 => first | k_is | rfl | decide +kernel | (intros; rfl))
    (case xe2 => first | k_is | rfl | decide +kernel | (intros; rfl))
    (case ye2 => first | k_is | rfl | decide +kernel | (intros; rfl))
    (case sae2 => first | k_is | rfl | decide +kernel | (intros; rfl))
    (case gae2 => first | k_is | rfl | decide +kernel | (intros; rfl))
    (case gge2 => first | k_is | rfl | decide +kernel | (intros; rfl))
    (case noe2 => first | k_is | rfl | decide +kernel | (intros; rfl))
    (case ice2 => first | k_is | rfl | decide +kernel | (intros; rfl))
    (case tce2 => first | k_is | rfl | decide +kernel | (intros; rfl))
    (case kce2 => first | k_is | rfl | decide +kernel | (intros; rfl))
    (case ece2 => first | k_is | rfl | decide +kernel | (intros; rfl))
    (case tye2 => first | k_is | rfl | decide +kernel | (intros; rfl))
    (case hde2 => first | k_is | rfl | decide +kernel | (intros; rfl))
    (case vee2 => first | k_is | rfl | decide +kernel | (intros; rfl))
    (case mee2 => first | k_is | rfl | decide +kernel | (intros; rfl))
    (case ale2 => first | k_is | rfl | decide +kernel | (intros; rfl))
    (case ope2 => first | k_is | rfl | decide +kernel | (intros; rfl))
    (case sue2 => first | k_is | rfl | decide +kernel | (intros; rfl))
    (case toe2 => first | k_is | rfl | decide +kernel | (intros; rfl))
    (case fne2 => first | k_is | rfl | decide +kernel | (intros; rfl))
    (case coe2 => first | k_is | rfl | decide +kernel | (intros; rfl))
    (case cde2 => first | k_is | rfl | decide +kernel | (intros; rfl))
    (case cve2 => first | k_is | rfl | decide +kernel | (intros; rfl))
    (case cfe2 => first | k_is | rfl | decide +kernel | (intros; rfl))
    (case lne2 => first | k_is | rfl | decide +kernel | (intros; rfl))
    (case cee2 => first | k_is | rfl | decide +kernel | (intros; rfl))
    (case bde2 => first | k_is | rfl | decide +kernel | (intros; rfl))
    (case xm0_0 => first | k_is | rfl | decide +kernel | (intros; rfl))
    (case xm0_1 => first | k_is | rfl | decide +kernel | (intros; rfl))
    (case xm0_2 => first | k_is | rfl | decide +kernel | (intros; rfl))
    (case xm1_0 => first | k_is | rfl | decide +kernel | (intros; rfl))
    (case xm1_1 => first | k_is | rfl | decide +kernel | (intros; rfl))
    (case xm1_2 => first | k_is | rfl | decide +kernel | (intros; rfl))
    (case xm2_0 => first | k_is | rfl | decide +kernel | (intros; rfl))
    (case xm2_1 => first | k_is | rfl | decide +kernel | (intros; rfl))
    (case xm2_2 => first | k_is | rfl | decide +kernel | (intros; rfl))
    (case nd => first | k_is | rfl | decide +kernel | (intros; rfl))
